import Derived.Test.YtmnmeiibmgcddaaGreatDoorAm0
import Derived.Laws.MakeOwn
import Derived.Laws.Append
import Derived.Laws.AppendOwn
import Derived.Laws.BytesString
import Derived.Laws.Externs
set_option linter.all false
namespace Go.Ab
open Go
section
variable [Letters]
def bG (cells:Array Value)(off:Nat)(cs:Array Value):Array Value:=cs.zipIdx.foldl (fun acc (c,j)=>acc.setIfInBounds (off+j) c) cells
def pq (off:Nat):∀(cs:List Value) (k:Nat) (cells:Array Value),off+k+cs.length<=cells.size->
  ((cs.zipIdx k).foldl (fun acc (x:Value×Nat)=>acc.setIfInBounds (off+x.2) x.1) cells).toList=cells.toList.take (off+k)++cs++cells.toList.drop (off+k+cs.length)
 |[],k,cells,_=>by simp
 |c::r,k,cells,h=>by
  simp;rw[pq off r (k+1) (cells.setIfInBounds (off+k) c) (by grind)];have hlt:off+k<cells.toList.length:=by grind
  rw[Array.toList_setIfInBounds];rw[show off+(k+1)=off+k+1 by omega,List.take_set,List.drop_set_of_lt (by omega)];have h1:(cells.toList.take (off+k+1)).set (off+k) c=cells.toList.take (off+k)++[c]:=by
   have hle:off+k<=cells.size:=by omega
   rw[List.take_succ_eq_append_getElem hlt,List.set_append_right _ _ (by grind)];simp_all
  grind
variable {off:Nat}
def bz {cells:Array Value}{cs:Array Value}(h:off+cs.size<=cells.size):(bG cells off cs).toList=splice cells.toList off cs.toList:=by
 have:=pq off cs.toList 0 cells (by omega);unfold bG splice;rw[<-Array.foldl_toList,Array.toList_zipIdx];omega
def cH {α:Type}{l:List α}{xs:List α}(h:off+xs.length<=l.length):(splice l off xs).length=l.length:=by
 simp[splice];omega
section
variable {P:Program} {G:bP} {o:Oper} {a:Act} {φ:List cQ} {w:World} {S:Nat->Prop} {hp:List Ob} {tm:Tm} {base:Nat} {d:D} {ups:List (Nat×Ob)} {new:List Ob}
def Pw.splice {α β:Type}{R:α->β->Prop}{xs ys:List α}{vs us:List β}(h:Pw R xs vs)(k:Pw R ys us)(off:Nat):Pw R (splice xs off ys) (splice vs off us):=by
 unfold Go.Ab.splice;rw[k.1];exact((h.take off).append k).append (h.drop _)
def qC {us vs:List Value}(h:∀c∈us,bb c)(k:∀c∈vs,bb c):∀c∈splice us off vs,bb c:=by
 intro c hc;simp only[splice,qε]at hc;grind
def G7 {place:Nat->Option (Nat×Nat)}:∀{is:LN} {ps:List (Nat×Nat)} {ds cs rs:List D} {vs:List Value} {cv:Array Value},Pw (fun i p=>place i=some p) is ps->Pw (VR φ w S) ds vs->Pw (VR φ w S) cs cv.toList->(∀c∈cv.toList,bb c)->
  pk cs ps ds=some rs->∃rv,Instr.fill place cv (is.zip vs)=some rv/\Pw (VR φ w S) rs rv.toList/\(∀c∈rv.toList,bb c)/\rv.size=cv.size
 |[],ps,ds,cs,rs,vs,cv,hi,hd,hc,hs,h=>by
  obtain rfl:=hi.nil_inv;cases ds with
  |nil=>
   obtain rfl:=hd.nil_inv;simp only[pk,lβ]at h;subst h;exact⟨cv,rfl,hc,hs,rfl⟩
  |cons x r=>simp[pk]at h
 |i::is,ps,ds,cs,rs,vs,cv,hi,hd,hc,hs,h=>by
  obtain⟨p,ps',rfl,hp1,hp2⟩:=hi.cons_inv;obtain⟨off,n⟩:=p;cases ds with
  |nil=>simp[pk]at h
  |cons x r=>
   obtain⟨v,vs',rfl,hv1,hv2⟩:=hd.cons_inv;simp only[pk]at h;rw[beq_eq,ble_eq]at h;by_cases h1:(bA x).length=n/\off+n<=cs.length/\(bA x).all dZ=true
   ·obtain⟨e1,e2,e3⟩:=h1;simp only[e1,e2,e3,decide_true,Bool.and_self,cond_true]at h;obtain⟨g1,g2⟩:=oE hv1 e3;have hsz:v.cells.size=n:=by have:=g1.1;simp at this;omega
    have hcs:cs.length=cv.size:=by have:=hc.1;simpa using this
    have hfit:off+v.cells.size<=cv.size:=by omega
    obtain⟨rv,q1,q2,q3,q4⟩:=G7 (cv:=bG cv off v.cells) hp2 hv2 (by rw[bz hfit];exact hc.splice g1 off) (by rw[bz hfit];exact qC hs g2) h;refine⟨rv,?_,q2,q3,?_⟩
    ·simp only[List.zip_cons_cons,Instr.fill,hp1];rw[if_neg (by simp;omega)];exact q1
    ·rw[q4];have:(bG cv off v.cells).toList.length=cv.toList.length:=by rw[bz hfit];exact cH (by simpa using hfit)
     simpa using this
   ·have:(decide ((bA x).length=n)&&decide (off+n<=cs.length)&&(bA x).all dZ)=false:=by
     by_cases q1:(bA x).length=n<;>by_cases q2:off+n<=cs.length<;>cases q3:(bA x).all dZ<;>simp_all
    simp[this]at h
def Bg {t:TypeId}:∀{is:LN} {ps:List (Nat×Nat)},th P t is=some ps->
  (∀fs,und P t= .struct fs->Pw (fun i p=>∃f,fs[i]?=some f/\p=(f.offset,P.cellsOf f.type)) is ps)/\(∀n e,und P t= .array n e->Pw (fun i p=>p=(i*P.cellsOf e,P.cellsOf e)) is ps)
 |[],ps,h=>by simp only[th,lβ]at h;subst h;exact⟨fun _ _=>Pw.nil,fun _ _ _=>Pw.nil⟩
 |i::r,ps,h=>by
  simp only[th]at h;split at h
  ·rename_i x hx;split at h
   ·rename_i xs hxs;simp at h;subst h;obtain⟨g1,g2⟩:=Bg hxs;refine⟨fun fs hfs=>Pw.cons ?_ (g1 fs hfs),fun n e he=>Pw.cons ?_ (g2 n e he)⟩
    ·rw[hfs]at hx;simp at hx;split at hx
     ·rename_i f hf;split at hx
      ·rename_i y hy;simp at hx;exact⟨f,hf,by rw[<-hx,(ek hy).cellsOf]⟩
      ·grind
     ·grind
    ·rw[he]at hx;simp at hx;split at hx
     ·rename_i y hy;simp at hx;rw[<-hx,(ek hy).cellsOf]
     ·grind
   ·simp at h
  ·simp at h
def y3:∀(l:List Field),(∀f∈l,∃i,P.info? f.type=some i)->∃ps:List (Nat×Nat),(l.mapM fun(f:Field)=>(do pure (f.offset,<-sizeOf f.type):Sem (Nat×Nat))).run P w= .ok ps w/\ps=l.map fun f=>(f.offset,P.cellsOf f.type)
 |[],_=>⟨[],rfl,rfl⟩
 |f::r,h=>by
  obtain⟨i,hi⟩:=h f (by simp);obtain⟨ps,h1,h2⟩:=y3 r (fun g hg=>h g (by simp[hg]));refine⟨(f.offset,P.cellsOf f.type)::ps,?_,by grind⟩
  rw[List.mapM_cons];simp only[Sem.run_bind,run_sizeOf w hi,Result.andThen_ok,Sem.run_pure,h1]
def P9 (cx:Cx G a φ w S hp tm){t:TypeId}{parts:Array (Nat×Operand)}{ts:List TypeId}{zs:List D}{ps:List (Nat×Nat)}{as:List A}{y:Ty}(ho:o.op= .build t parts)(hz:jj P t=some zs)(hp1:th P t (parts.toList.map (·.1))=some ps)
  (ha:nb P G ts (parts.toList.map (·.2))=some as) (hy:ty P t=some y) (hagg:y.agg=true) (hall:vP P t=true) (h:pX zs ps (as.map (ev tm))=some (d,ups,new)):EffOk P o a φ w S hp base d (grow (aw hp ups) new):=by
 have h1:=cY cx.tmr cx.gr ha;obtain⟨i,z,y',hi,hzz,hty,hs,g1,g2,g3,g4⟩:=lN hz;obtain⟨q1,q2⟩:=Bg hp1;have hyy:=ek hy;have hz1:(zeroValue t).run P w= .ok z w:=by simp[zeroValue,typeInfo,hi,hzz]
 have hpe:(parts.map fun(x:Nat×Operand)=>(x.1,a.eval x.2)).toList=(parts.toList.map (·.1)).zip ((parts.toList.map (·.2)).map a.eval):=by
  rw[Array.toList_map,List.map_map];grind
 unfold pX at h;split at h
 ·rename_i rs hrs;have hfin:∀place:Nat->Option (Nat×Nat),Pw (fun i p=>place i=some p) (parts.toList.map (·.1)) ps->
    ((∀rv,Instr.fill place z.cells ((parts.toList.map (·.1)).zip ((parts.toList.map (·.2)).map a.eval))=some rv->(Instr.build t (parts.map fun(x:Nat×Operand)=>(x.1,a.eval x.2))).run P w= .ok (.agg rv) w)->
    EffOk P o a φ w S hp base d (grow (aw hp ups) new)):=by
   intro place hpl hrun;obtain⟨rv,e1,e2,e3,e4⟩:=G7 hpl h1 (g3 φ w S) g4 hrs;refine aD cx h (v:= .agg rv) ?_ ?_
   ·simp only[execOp,Sem.run_bind];simp_all
   ·have:=nW e2 e3;omega
  have hd:=hyy.und;have hag:=hyy.agg;have hu:und P t=y.desc:=by simp[und,hd]
  unfold vP at hall;rw[hu]at hall;cases hdesc:y.desc with
  |struct fs=>
   rw[hdesc]at hd hu hall;rw[mζ]at hall;obtain⟨pl,r1,r2⟩:=y3 (P:=P) (w:=w) fs.toList (fun f hf=>Option.isSome_iff_exists.1 (hall f hf));refine hfin (fun(i:Nat)=>pl[i]?) ((q1 fs hu).mono ?_) ?_
   ·simp_all
   ·have hm:(fs.mapM fun(f:Field)=>(do pure (f.offset,<-sizeOf f.type):Sem (Nat×Nat))).run P w= .ok pl.toArray w:=by
     rw[Array.mapM_eq_mapM_toList];simp_all
    simp only[Instr.build,Sem.run_bind,run_underlying hd,hpe];simp_all
  |array n e=>
   rw[hdesc]at hd hu hall;obtain⟨ie,hie⟩:=Option.isSome_iff_exists.1 hall;refine hfin (fun i=>some (i*P.cellsOf e,P.cellsOf e)) ((q2 n e hu).mono ?_) ?_
   ·simp
   ·simp only[Instr.build,Sem.run_bind,hz1,Result.andThen_ok,run_underlying hd,run_sizeOf w hie,hpe];simp_all
  |_=>grind
 ·simp at h
end
end
section
variable [Letters]
def bc:∀(l:List Ob) (i:Nat) (o:Ob),jm l i o=l.set i o
 |[],_,_=>rfl
 |_::_,0,_=>rfl
 |x::r,n+1,o=>by simp[jm,bc r n o]
section
variable {φ φ':List cQ} {w w':World} {S S':Nat->Prop} {hp hp':List Ob}
def oD {l:cQ}{o:Ob}(he:Ext φ φ')(hs:eO S w w')(hS:∀b,S b->S' b)(hown:∀b,bM l o=some b->w'.heap[b]?=w.heap[b]?)(h:OR φ w S l o):OR φ' w' S' l o:=by
 cases l with
 |none=>cases o<;>simp only[OR]at h ⊢
 |box b=>
  cases o with
  |box cs=>
   simp only[OR]at h ⊢
   obtain⟨vs,t,fz,h1,h2,h3,h4⟩:=h;exact⟨vs,t,fz,by rw[hown b rfl];exact h1,h2,h3.mono fun _ _ hh=>iF he hs hS _ hh,h4⟩
  |dead=>simp only[OR]
  |_=>simp only[OR]at h
 |arr b o1 cap z n=>
  have hrow:∀{es:LD} {us:List Value},es.length<=cap->Pw (PR w S) es us->(0<cap->w'.heap[b]?=w.heap[b]?)->rowAt w b o1 z us->rowAt w' b o1 z us:=by
   intro es us hle hp hh hr;by_cases hc:0<cap
   ·exact kU (hh hc) hr
   ·have:us=[]:=lθ (by rw[<-hp.1];omega);subst this;intro i u hu;simp at hu
  cases o with
  |arr es=>
   simp only[OR]at h ⊢
   obtain⟨h0,h1,h2,us,h3,h4⟩:=h;have hb:0<cap->w'.heap[b]?=w.heap[b]?:=fun hc=>hown b (by simp[bM,hc])
   refine⟨h0,h1,fun hc=>?_,us,h3.mono fun _ _ hh=>bl hs hS _ hh,hrow (h0▸h1) h3 hb h4⟩
   obtain⟨vs,t,fz,g1,g2⟩:=h2 hc;exact⟨vs,t,fz,by rw[hb hc];exact g1,g2⟩
  |may c es=>
   cases c with
   |false=>
    simp only[OR]at h ⊢
    obtain⟨h0,h1,h2,us,h3,h4⟩:=h;have hb:0<cap->w'.heap[b]?=w.heap[b]?:=fun hc=>hown b (by simp[bM,hc])
    refine⟨h0,h1,fun hc=>?_,us,h3.mono fun _ _ hh=>bl hs hS _ hh,hrow (h0▸h1) h3 hb h4⟩
    obtain⟨vs,t,fz,g1,g2⟩:=h2 hc;exact⟨vs,t,fz,by rw[hb hc];exact g1,g2⟩
   |true=>
    simp only[OR]at h ⊢
    obtain⟨h0,h1,h2,us,h3,h4⟩:=h;exact⟨h0,h1,fun hc=>hS b (h2 hc),us,h3.mono fun _ _ hh=>bl hs hS _ hh,hrow (h0▸h1) h3 (fun hc=>hs b (h2 hc)) h4⟩
  |byt es=>
   simp only[OR]at h ⊢
   obtain⟨h0,h1,h2,us,h3,h4⟩:=h;have hb:0<cap->w'.heap[b]?=w.heap[b]?:=fun hc=>hown b (by simp[bM,hc])
   refine⟨h0,h1,fun hc=>?_,us,h3.mono fun _ _ hh=>bl hs hS _ hh,hrow (h0▸h1) h3 hb h4⟩
   obtain⟨vs,t,fz,g1,g2⟩:=h2 hc;exact⟨vs,t,fz,by rw[hb hc];exact g1,g2⟩
  |fz es=>
   simp only[OR]at h ⊢
   obtain⟨h0,h1,h2,us,h3,h4⟩:=h;exact⟨h0,h1,fun hc=>hS b (h2 hc),us,h3.mono fun _ _ hh=>bl hs hS _ hh,hrow (h0▸h1) h3 (fun hc=>hs b (h2 hc)) h4⟩
  |dead=>simp only[OR]
  |_=>simp only[OR]at h
 |map r=>
  cases o with
  |map ks vs=>
   simp only[OR]at h ⊢
   obtain⟨es,c,h1,h2,h3⟩:=h;exact⟨es,c,by rw[hown r rfl];exact h1,h2.mono fun _ _ hh=>bl hs hS _ hh,h3.mono fun _ _ hh=>bl hs hS _ hh⟩
  |mapd ks vs=>
   simp only[OR]at h ⊢
   obtain⟨es,c,h1,h2,h3⟩:=h;exact⟨es,c,by rw[hown r rfl];exact h1,h2.mono fun _ _ hh=>bl hs hS _ hh,h3.mono fun _ _ hh=>iF he hs hS _ hh⟩
  |fzm ks vs=>
   simp only[OR]at h ⊢
   obtain⟨h0,es,c,h1,h2,h3⟩:=h;exact⟨hS r h0,es,c,by rw[hs r h0];exact h1,h2.mono fun _ _ hh=>bl hs hS _ hh,h3.mono fun _ _ hh=>bl hs hS _ hh⟩
  |dead=>simp only[OR]
  |_=>simp only[OR]at h
def sY (φ:List cQ)(hp:List Ob)(C:Nat->Prop)(b:Nat):Prop:=∃(id:Nat) (l:cQ) (o:Ob),C id/\φ[id]?=some l/\hp[id]?=some o/\bM l o=some b
def HR.gen (hr:HR φ w S hp)(C:Nat->Prop)(hlen:φ'.length=hp'.length)(same:∀id,¬C id->(φ'[id]?=φ[id]?/\hp'[id]?=hp[id]?))(ext:Ext φ φ')
  (keep:∀b,b<w.heap.size->¬sY φ hp C b->w'.heap[b]?=w.heap[b]?) (size:w.heap.size<=w'.heap.size) (os:w'.os=w.os) (tape:w'.tape=w.tape) (output:w'.output=w.output)
  (sub:∀b,S b->S' b) (news:∀b,S' b->S b\/sY φ hp C b\/w.heap.size<=b) (low:∀b,S' b->b<w'.heap.size)
  (obj:∀(id:Nat) l o,C id->φ'[id]?=some l->hp'[id]?=some o->OR φ' w' S' l o)
  (own':∀(id:Nat) l o b,C id->φ'[id]?=some l->hp'[id]?=some o->bM l o=some b->(sY φ hp C b\/w.heap.size<=b)/\b<w'.heap.size/\¬S' b)
  (one':∀(id id':Nat) l l' o o' b,C id->C id'->φ'[id]?=some l->hp'[id]?=some o->φ'[id']?=some l'->hp'[id']?=some o'->bM l o=some b->bM l' o'=some b->id=id'):
  HR φ' w' S' hp'/\Fr (bm φ hp) S w (bm φ' hp') S' w':=by
 have hoc:∀b,sY φ hp C b->bm φ hp b:=fun b ⟨id,l,o,_,h1,h2,h3⟩=>⟨id,l,o,h1,h2,h3⟩
 have hfr:Fr (bm φ hp) S w (bm φ' hp') S' w':=by
  refine⟨fun b hb ho=>keep b hb fun hc=>ho (hoc b hc),size,os,tape,output,sub,fun b hb=>?_,fun b hb=>?_⟩
  ·rcases news b hb with h|h|h
   ·exact .inl h
   ·exact .inr (.inl (hoc b h))
   ·exact .inr (.inr h)
  ·obtain⟨id,l,o,h1,h2,h3⟩:=hb;by_cases hc:C id
   ·rcases(own' id l o b hc h1 h2 h3).1 with h|h
    ·exact .inl (hoc b h)
    ·exact .inr h
   ·obtain⟨e1,e2⟩:=same id hc;exact .inl ⟨id,l,o,e1▸h1,e2▸h2,h3⟩
 have hst:eO S w w':=hfr.stable hr
 -- an object that stays owns no block that a changed one rV
 have hsep:∀(id:Nat) l o b,¬C id->φ[id]?=some l->hp[id]?=some o->bM l o=some b->¬sY φ hp C b:=by
  rintro id l o b hc h1 h2 h3 ⟨id',l',o',hc',g1,g2,g3⟩
  exact hc (hr.one id id' l l' o o' b h1 h2 g1 g2 h3 g3▸hc')
 have hownlt:∀(id:Nat) l o b,φ[id]?=some l->hp[id]?=some o->bM l o=some b->b<w.heap.size:=fun id l o b h1 h2 h3=>(hr.own b ⟨id,l,o,h1,h2,h3⟩).2
 refine⟨⟨hlen,?_,?_,?_,low⟩,hfr⟩
 ·intro id l o h1 h2;by_cases hc:C id
  ·exact obj id l o hc h1 h2
  ·obtain⟨e1,e2⟩:=same id hc;rw[e1]at h1;rw[e2]at h2;exact oD ext hst sub (fun b hb=>keep b (hownlt id l o b h1 h2 hb) (hsep id l o b hc h1 h2 hb)) (hr.obj id l o h1 h2)
 ·rintro b ⟨id,l,o,h1,h2,h3⟩
  by_cases hc:C id
  ·have:=own' id l o b hc h1 h2 h3;exact⟨this.2.2,this.2.1⟩
  ·obtain⟨e1,e2⟩:=same id hc;rw[e1]at h1;rw[e2]at h2;have h4:=hr.own b ⟨id,l,o,h1,h2,h3⟩;refine⟨fun hs=>?_,mψ h4.2 size⟩
   rcases news b hs with h|h|h
   ·exact h4.1 h
   ·exact hsep id l o b hc h1 h2 h3 h
   ·omega
 ·intro id id' l l' o o' b h1 h2 g1 g2 h3 g3;by_cases hc:C id<;>by_cases hc':C id'
  ·exact one' id id' l l' o o' b hc hc' h1 h2 g1 g2 h3 g3
  ·exfalso;obtain⟨e1,e2⟩:=same id' hc';rw[e1]at g1;rw[e2]at g2;rcases(own' id l o b hc h1 h2 h3).1 with h|h
   ·exact hsep id' l' o' b hc' g1 g2 g3 h
   ·have:=hownlt id' l' o' b g1 g2 g3;omega
  ·exfalso;obtain⟨e1,e2⟩:=same id hc;rw[e1]at h1;rw[e2]at h2;rcases(own' id' l' o' b hc' g1 g2 g3).1 with h|h
   ·exact hsep id l o b hc h1 h2 h3 h
   ·have:=hownlt id l o b h1 h2 h3;omega
  ·obtain⟨e1,e2⟩:=same id hc;obtain⟨e3,e4⟩:=same id' hc';rw[e1]at h1;rw[e2]at h2;rw[e3]at g1;rw[e4]at g2;exact hr.one id id' l l' o o' b h1 h2 g1 g2 h3 g3
variable {id:Nat}
def vt (hr:HR φ w S hp)(h:hp[id]?=some .unborn):φ[id]?=some .none:=by
 have hi:id<hp.length:=by
  grind
 have hj:id<φ.length:=hr.len▸hi;have hx:φ[id]?=some φ[id]:=lη hj;have:=hr.obj id _ _ hx h;cases hl:φ[id]with
 |none=>grind
 |_=>rw[hl]at this;simp only[OR]at this
def Ext.set_none {l:cQ}(h:φ[id]?=some .none):Ext φ (φ.set id l):=by
 intro i l' hl' hn;grind
def HR.one_step (hr:HR φ w S hp){l l':cQ}{o o':Ob}(hl:φ[id]?=some l)(ho:hp[id]?=some o)(hll:l≠ .none->l'=l)(keep:∀b,b<w.heap.size->bM l o≠some b->w'.heap[b]?=w.heap[b]?)(size:w.heap.size<=w'.heap.size)(os:w'.os=w.os)(tape:w'.tape=w.tape)(output:w'.output=w.output)(sub:∀b,S b->S' b)(news:∀b,S' b->S b\/bM l o=some b\/w.heap.size<=b)(low:∀b,S' b->b<w'.heap.size)(hnew:OR (φ.set id l') w' S' l' o')(hown:∀b,bM l' o'=some b->(bM l o=some b\/w.heap.size<=b)/\b<w'.heap.size/\¬S' b):
  HR (φ.set id l') w' S' (hp.set id o')/\Fr (bm φ hp) S w (bm (φ.set id l') (hp.set id o')) S' w'/\Ext φ (φ.set id l'):=by
 have hext:Ext φ (φ.set id l'):=by
  by_cases hn:l= .none
  ·subst hn;exact Ext.set_none hl
  ·intro i x hx hx0;rw[List.getElem?_set];split
   ·rename_i e;rw[<-e,hl]at hx;simp at hx;subst hx;have hi:id<φ.length:=by
     rcases mδ id φ.length with h1|h1
     ·exact h1
     ·simp[lυ h1]at hl
    rw[if_pos hi,hll hn]
   ·exact hx
 have hget:∀{α:Type} {xs:List α} {x y z:α},xs[id]?=some x->(xs.set id y)[id]?=some z->y=z:=by
  intro α xs x y z h1 h2;rw[qα (by
   rcases mδ id xs.length with h|h
   ·exact h
   ·simp[lυ h]at h1)]at h2
  simpa using h2
 have hoc:∀b,sY φ hp (· =id) b↔bM l o=some b:=by
  intro b;constructor
  ·rintro⟨i,l1,o1,rfl,h1,h2,h3⟩
   rw[hl]at h1;rw[ho]at h2;simp at h1 h2;subst h1 h2;exact h3
  ·intro h;exact⟨id,l,o,rfl,hl,ho,h⟩
 obtain⟨h1,h2⟩:=hr.gen (φ':=φ.set id l') (hp':=hp.set id o') (S':=S') (w':=w') (· =id) (by simp[hr.len]) (fun i hi=>⟨mτ (fun e=>hi e.symm),mτ (fun e=>hi e.symm)⟩) hext
  (fun b hb hc=>keep b hb fun e=>hc ((hoc b).2 e)) size os tape output sub (fun b hb=>by rw[hoc];exact news b hb) low
  (by rintro i l1 o1 rfl g1 g2;rw[<-hget hl g1,<-hget ho g2];exact hnew)
  (by rintro i l1 o1 b rfl g1 g2 g3;rw[<-hget hl g1,<-hget ho g2]at g3;rw[hoc];exact hown b g3)
  (by rintro i i' _ _ _ _ _ rfl rfl;intros;rfl)
 exact⟨h1,h2,hext⟩
end
end
section
variable [Letters]
def fE {hp:List Ob}{g:Nat->Ob}:∀(ids:LN) (j:Nat),(aw hp (ids.map fun i=>(i,g i)))[j]?=if j∈ids/\j<hp.length then some (g j)else hp[j]?:=by
 intro ids;induction ids generalizing hp with
 |nil=>intro j;rfl
 |cons i r ih=>
  simp only[List.map_cons,aw,bc];grind
def bH (hp:List Ob):∀(ups:List (Nat×Ob)),(aw hp ups).length=hp.length:=by
 intro ups;induction ups generalizing hp with
 |nil=>rfl
 |cons x r ih=>simp only[aw,bc];simp_all
def sJ {α:Type}(g:Nat->α):∀ids:LN,ids.zip (ids.map g)=ids.map fun i=>(i,g i)
 |[]=>rfl
 |i::r=>by simp[sJ g r]
def yk (hp:List Ob)(ids:LN):dU (ids.zip (ids.map (aS hp)))=ids.map fun i=>(i,mG (aS hp i)):=by
 rw[sJ];simp[dU]
section
variable {φ:List cQ} {w:World} {S:Nat->Prop} {hp:List Ob}
def FX (φ:List cQ)(S:Nat->Prop)(hp:List Ob)(ids:LN)(b:Nat):Prop:=
 S b\/∃(id:Nat) (l:cQ) (o:Ob),id∈ids/\φ[id]?=some l/\hp[id]?=some o/\bM l o=some b/\bM l (mG o)=none
variable {id:Nat}
def wt {o:Ob}(h:hp[id]?=some o):aS hp id=o:=by
 unfold aS;simp_all
def KX {l:cQ}{o:Ob}:bM l (mG o)=none\/mG o=o:=by
 cases o<;>first
  |exact .inr rfl
  |(left;cases l<;>rfl)
variable {S':Nat->Prop}
def v_ {S:Nat->Prop}{l:cQ}{o:Ob}(hS:∀b,S b->S' b)(hb:∀b,bM l o=some b->bM l (mG o)=none->S' b)(h:OR φ w S l o):OR φ w S' l (mG o):=by
 have hm:OR φ w S' l o:=oD (Ext.refl φ) (fun _ _=>rfl) hS (fun _ _=>rfl) h;cases o with
 |arr es=>
  cases l with
  |arr b o1 cap z n=>
   obtain⟨h0,h1,h2,us,h3,h4⟩:=hm;exact⟨h0,h1,fun hc=>hb b (by simp[bM,hc]) rfl,us,h3,h4⟩
  |_=>simp only[OR]at hm
 |map ks vs=>
  cases l with
  |map r=>
   exact⟨hb r rfl rfl,hm⟩
  |_=>simp only[OR]at hm
 |box cs=>cases l<;>exact trivial
 |_=>exact hm
def HR.freeze (hr:HR φ w S hp)(ids:LN):
  HR φ w (FX φ S hp ids) (aw hp (dU (ids.zip (ids.map (aS hp)))))/\Fr (bm φ hp) S w (bm φ (aw hp (dU (ids.zip (ids.map (aS hp)))))) (FX φ S hp ids) w:=by
 rw[yk];have hgo:∀(id:Nat) o,hp[id]?=some o->∀o',(aw hp (ids.map fun i=>(i,mG (aS hp i))))[id]?=some o'->id∈ids->o'=mG o:=by
  intro id o h1 o' h2 h3;rw[fE]at h2;have:id<hp.length:=by
   rcases mδ id hp.length with h|h
   ·exact h
   ·simp[lυ h]at h1
  rw[if_pos ⟨h3,this⟩,wt h1]at h2;simpa using h2.symm
 have hsome:∀(id:Nat) (o':Ob),(aw hp (ids.map fun i=>(i,mG (aS hp i))))[id]?=some o'->∃o,hp[id]?=some o:=by
  intro id o' h;have h1:id<hp.length:=by
   rcases mδ id hp.length with h1|h1
   ·exact h1
   ·rw[lυ (by rw[bH];exact h1)]at h;simp at h
  exact⟨hp[id],lη h1⟩
 refine hr.gen (· ∈ids) (by rw[bH];exact hr.len) (fun id hid=>⟨rfl,by rw[fE,if_neg (fun h=>hid h.1)]⟩) (Ext.refl φ) (fun _ _ _=>rfl) (Nat.le_refl _) rfl rfl rfl (fun b hb=> .inl hb) ?_ ?_ ?_ ?_ ?_
 ·rintro b (h|⟨id,l,o,h1,h2,h3,h4,_⟩)
  ·exact .inl h
  ·exact .inr (.inl ⟨id,l,o,h1,h2,h3,h4⟩)
 ·rintro b (h|⟨id,l,o,h1,h2,h3,h4,_⟩)
  ·exact hr.low b h
  ·exact(hr.own b ⟨id,l,o,h2,h3,h4⟩).2
 ·intro id l o' hid h1 h2;obtain⟨o,ho⟩:=hsome id o' h2;rw[hgo id o ho o' h2 hid];exact v_ (fun b hb=> .inl hb) (fun b hb hn=> .inr ⟨id,l,o,hid,h1,ho,hb,hn⟩) (hr.obj id l o h1 ho)
 ·intro id l o' b hid h1 h2 h3;obtain⟨o,ho⟩:=hsome id o' h2;rw[hgo id o ho o' h2 hid]at h3;rcases KX (l:=l) (o:=o)with hf|hf
  ·rw[hf]at h3;simp at h3
  ·rw[hf]at h3;have hown:=hr.own b ⟨id,l,o,h1,ho,h3⟩;refine⟨.inl ⟨id,l,o,hid,h1,ho,h3⟩,hown.2,?_⟩;rintro(h|⟨id',l',o2,g1,g2,g3,g4,g5⟩)
   ·exact hown.1 h
   ·have:=hr.one id id' l l' o o2 b h1 ho g2 g3 h3 g4;subst this;rw[h1]at g2;rw[ho]at g3;simp at g2 g3;subst g2 g3;rw[hf,h3]at g5;simp at g5
 ·intro id id' l l' o1 o2 b hid hid' h1 h2 g1 g2 h3 g3;obtain⟨o,ho⟩:=hsome id o1 h2;obtain⟨o',ho'⟩:=hsome id' o2 g2;rw[hgo id o ho o1 h2 hid]at h3;rw[hgo id' o' ho' o2 g2 hid']at g3;rcases KX (l:=l) (o:=o)with hf|hf
  ·rw[hf]at h3;simp at h3
  ·rcases KX (l:=l') (o:=o')with hf'|hf'
   ·rw[hf']at g3;simp at g3
   ·rw[hf]at h3;rw[hf']at g3;exact hr.one id id' l l' o o' b h1 ho g1 ho' h3 g3
variable {ids:LN}
def yA {x:Ob}(h:eS (ids.zip (ids.map (aS hp))) id=x)(hx:x≠ .dead):id∈ids:=by
 induction ids with
 |nil=>simp[eS]at h;simp_all
 |cons i r ih=>
  simp only[List.map_cons,List.zip_cons_cons,eS]at h;rw[beq_eq]at h;grind
def T5 (hr:HR φ w S hp)(hS:∀b,S b->S' b){lo len z:Nat}{v:Value}(hv:VR φ w S (.arr id lo len z) v){o:Ob}{es:LD}(ho:hp[id]?=some o)(he:o= .arr es\/o= .fz es)(hin:∀l b,φ[id]?=some l->bM l o=some b->S' b):PR w S' (.slice z ((es.drop lo).take len)) v:=by
 simp only[VR]at hv;obtain⟨b,o',cap,n,a,hb,hl,hn,rfl,ha⟩:=hv;have hob:=hr.obj id _ _ hb ho;have key:∃us,es.length=n/\Pw (PR w S) es us/\rowAt w b o' z us/\(0<cap->S' b):=by
  rcases he with rfl|rfl
  ·simp only[OR]at hob;obtain⟨h0,h1,h2,us,h3,h4⟩:=hob;exact⟨us,h0,h3,h4,fun hc=>hin _ b hb (by simp[bM,hc])⟩
  ·simp only[OR]at hob;obtain⟨h0,h1,h2,us,h3,h4⟩:=hob;exact⟨us,h0,h3,h4,fun hc=>hS b (h2 hc)⟩
 obtain⟨us,h0,h3,h4,h5⟩:=key;have hlen:((us.drop lo).take len).length=len:=by have:=h3.1;simp;omega
 simp only[PR];refine⟨a,cap - lo,(us.drop lo).take len,by rw[hlen],by omega,PRs_iff.2 (((h3.drop lo).take len).mono fun _ _ h=>bl (fun _ _=>rfl) hS _ h),fun hne=>?_⟩
 have hpos:0<((us.drop lo).take len).length:=List.length_pos_iff.2 hne;have hlt:lo<cap:=by omega
 exact⟨b,o'+lo*z,ha hlt,h5 (by omega),kV h4 lo len⟩
def YR (hr:HR φ w S hp)(hS:∀b,S b->S' b)(hin:∀(id:Nat) l o b,id∈ids->φ[id]?=some l->hp[id]?=some o->bM l o=some b->bM l (mG o)=none->S' b){d:D}{o:Option Da}{x:Da}{v:Value}(ho:o=some x->PR w S' x v)(h:Ţ (ids.zip (ids.map (aS hp))) d o=some x)(hv:VR φ w S d v):PR w S' x v:=by
 unfold Ţ at h;split at h
 ·rename_i id off;unfold G_ at h;split at h
  ·rename_i cs hl;rw[beq_eq]at h;by_cases h0:off=0
   ·subst h0;simp at h;split at h
    ·rename_i xs hxs;simp at h;subst h;have hob:=bC hl (by simp);obtain⟨b,hb,rfl⟩:=hv;obtain⟨vs,t',fz,g1,g2,g3,g4,_⟩:=hr.obj id _ _ hb hob;refine⟨b,0,.agg vs,rfl,hin id _ _ b (yA hl (by simp)) hb hob rfl rfl,⟨vs,rfl,PRs_iff.2 ((qU hxs g3).mono fun _ _ h=>bl (fun _ _=>rfl) hS _ h),g4⟩,?_⟩;intro j c hj;simp only[Value.cells]at hj;simp[World.cell?,g1,hj]
    ·cases h
   ·simp_all
  ·cases h
 ·grind
mutual
def mQ {S':Nat->Prop}(hr:HR φ w S hp)(hS:∀b,S b->S' b){ids:LN}(hin:∀(id:Nat) l o b,id∈ids->φ[id]?=some l->hp[id]?=some o->bM l o=some b->bM l (mG o)=none->S' b):
  ∀(d:D) {x:Da} {v:Value},pur (ids.zip (ids.map (aS hp))) d=some x->VR φ w S d v->PR w S' x v
 | .p x,y,v,h,hv=>by
  simp only[pur,lβ]at h;subst h;simp only[VR]at hv;exact bl (fun _ _=>rfl) hS _ hv
 | .agg cs,y,v,h,hv=>by
  simp only[pur]at h;cases hc:pur.purL (ids.zip (ids.map (aS hp))) cs with
  |none=>simp[hc]at h
  |some xs=>
   simp[hc]at h;subst h;simp only[VR]at hv;obtain⟨vs,rfl,h1,h2⟩:=hv;simp only[PR];exact⟨vs,rfl,PRs_iff.2 (wA hr hS hin cs hc (VRs_iff.1 h1)),h2⟩
 | .arr id lo len z,y,v,h,hv=>by
  simp only[pur]at h;split at h
  ·rename_i es hl;simp only[lβ]at h;subst h;have hob:=bC hl (by simp);exact T5 hr hS hv hob (.inl rfl) fun l b h1 h2=>hin id l _ b (yA hl (by simp)) h1 hob h2 (by cases l<;>rfl)
  ·rename_i es hl;simp only[lβ]at h;subst h;have hob:=bC hl (by simp);exact T5 hr hS hv hob (.inr rfl) fun l b h1 h2=>by cases l<;>simp[bM]at h2
  ·simp at h
 | .sl g z es,y,v,h,hv=>by
  simp only[pur,lβ]at h;subst h;simp only[VR]at hv;obtain⟨a,cap,us,rfl,h1,_,h2,h3⟩:=hv;refine bl (fun _ _=>rfl) hS _ ?_;simp only[PR];exact⟨a,cap,us,rfl,h1,h2,h3⟩
 | .map id,y,v,h,hv=>by
  simp only[pur]at h;simp only[VR]at hv;obtain⟨r,hb,rfl⟩:=hv;split at h
  ·rename_i ks vs hl;simp only[lβ]at h;subst h;have hob:=bC hl (by simp);obtain⟨es,c,g1,g2,g3⟩:=hr.obj id _ _ hb hob;simp only[PR];exact⟨r,es,c,rfl,hin id _ _ r (yA hl (by simp)) hb hob rfl rfl,g1,PRs_iff.2 (g2.mono fun _ _ h=>bl (fun _ _=>rfl) hS _ h),PRs_iff.2 (g3.mono fun _ _ h=>bl (fun _ _=>rfl) hS _ h)⟩
  ·rename_i ks vs hl;simp only[lβ]at h;subst h;have hob:=bC hl (by simp);obtain⟨g0,es,c,g1,g2,g3⟩:=hr.obj id _ _ hb hob;simp only[PR];exact⟨r,es,c,rfl,hS r g0,g1,PRs_iff.2 (g2.mono fun _ _ h=>bl (fun _ _=>rfl) hS _ h),PRs_iff.2 (g3.mono fun _ _ h=>bl (fun _ _=>rfl) hS _ h)⟩
  ·simp at h
 | .fn f caps,y,v,h,hv=>by
  simp only[pur]at h;cases hc:pur.purC (ids.zip (ids.map (aS hp))) caps with
  |none=>simp[hc]at h
  |some xs=>
   simp[hc]at h;subst h;simp only[VR]at hv;obtain⟨fs,cs,rfl,hk,h1⟩:=hv;simp only[PR];exact⟨fs,cs,rfl,hk,PRs_iff.2 (N7 hr hS hin caps hc (VRs_iff.1 h1))⟩
 | .iface t d,y,v,h,hv=>by
  simp only[pur]at h;cases hc:pur (ids.zip (ids.map (aS hp))) d with
  |none=>simp[hc]at h
  |some x=>
   simp[hc]at h;subst h;simp only[VR]at hv;obtain⟨u,rfl,h1⟩:=hv;simp only[PR];exact⟨u,rfl,mQ hr hS hin d hc h1⟩
 | .ip x off,y,v,h,hv=>by
  simp only[pur]at h;rw[beq_eq]at h;by_cases ho:off=0
  ·subst ho;simp at h;subst h;simp only[VR]at hv;obtain⟨b,o,u,rfl,hb,hx,hh⟩:=hv;refine bl (fun _ _=>rfl) hS _ ?_;simp only[PR];exact⟨b,o,u,rfl,hb,hx,hh⟩
  ·simp[ho]at h
 | .tup _,y,v,h,_=>by simp[pur]at h
 | .box _ _,y,v,h,_=>by simp[pur]at h
 | .el _ _ _,y,v,h,_=>by simp[pur]at h
 | .junk,y,v,h,_=>by simp[pur]at h
def wA {S':Nat->Prop}(hr:HR φ w S hp)(hS:∀b,S b->S' b){ids:LN}(hin:∀(id:Nat) l o b,id∈ids->φ[id]?=some l->hp[id]?=some o->bM l o=some b->bM l (mG o)=none->S' b):
  ∀(ds:List D) {xs:LD} {vs:List Value},pur.purL (ids.zip (ids.map (aS hp))) ds=some xs->Pw (VR φ w S) ds vs->Pw (PR w S') xs vs
 |[],xs,vs,h,hv=>by
  simp only[pur.purL,lβ]at h;subst h;obtain rfl:=hv.nil_inv;exact Pw.nil
 |d::r,xs,vs,h,hv=>by
  simp only[pur.purL]at h;split at h
  ·rename_i x hx;split at h
   ·rename_i ys hy;simp only[lβ]at h;subst h;obtain⟨u,us,rfl,h1,h2⟩:=hv.cons_inv;exact Pw.cons (mQ hr hS hin d hx h1) (wA hr hS hin r hy h2)
   ·simp at h
  ·simp at h
def N7 {S':Nat->Prop}(hr:HR φ w S hp)(hS:∀b,S b->S' b){ids:LN}(hin:∀(id:Nat) l o b,id∈ids->φ[id]?=some l->hp[id]?=some o->bM l o=some b->bM l (mG o)=none->S' b):
  ∀(ds:List D) {xs:LD} {vs:List Value},pur.purC (ids.zip (ids.map (aS hp))) ds=some xs->Pw (VR φ w S) ds vs->Pw (PR w S') xs vs
 |[],xs,vs,h,hv=>by
  simp only[pur.purC,lβ]at h;subst h;obtain rfl:=hv.nil_inv;exact Pw.nil
 |d::r,xs,vs,h,hv=>by
  simp only[pur.purC]at h;split at h
  ·rename_i x hx;split at h
   ·rename_i ys hy;simp only[lβ]at h;subst h;obtain⟨u,us,rfl,h1,h2⟩:=hv.cons_inv;exact Pw.cons (YR hr hS hin (fun ho=>mQ hr hS hin d ho h1) hx h1) (N7 hr hS hin r hy h2)
   ·simp at h
  ·simp at h
end
def ni:∀(id:Nat) (l:cQ) (o:Ob) (b:Nat),id∈ids->φ[id]?=some l->hp[id]?=some o->bM l o=some b->bM l (mG o)=none->FX φ S hp ids b:=
 fun id l o _ h1 h2 h3 h4 h5=> .inr ⟨id,l,o,h1,h2,h3,h4,h5⟩
end
end
section
variable [Letters]
section
variable {P:Program} {G:bP} {o:Oper} {a:Act} {φ:List cQ} {w:World} {S:Nat->Prop} {hp:List Ob} {tm:Tm} {base:Nat} {d:D} {ups:List (Nat×Ob)} {new:List Ob}
def jF (w:World)(o:Obj){b:Nat}(h:b<w.heap.size):(w.alloc o).heap[b]?=w.heap[b]?:=by
 simp only[World.alloc];grind
def fb (w:World)(o:Obj):(w.alloc o).heap[w.heap.size]?=some o:=by
 show(w.heap.push o)[w.heap.size]?=some o;simp
variable {id:Nat}
def HR.born (hr:HR φ w S hp)(h:hp[id]?=some .unborn)(x:Obj){l:cQ}{ob:Ob}(hown:∀b,bM l ob=some b->b=w.heap.size)(hob:OR (φ.set id l) (w.alloc x) S l ob):
  HR (φ.set id l) (w.alloc x) S (hp.set id ob)/\Fr (bm φ hp) S w (bm (φ.set id l) (hp.set id ob)) S (w.alloc x)/\Ext φ (φ.set id l):=by
 refine hr.one_step (vt hr h) h (fun h=>absurd rfl h) (fun b hb _=>jF w x hb) (by simp) rfl rfl rfl (fun _ h=>h) (fun _ h=> .inl h) (fun b hb=>by have:=hr.low b hb;simp;omega) hob ?_;intro b hb;have:=hown b hb;subst this;exact⟨.inr (Nat.le_refl _),by simp,fun hs=>by have:=hr.low _ hs;omega⟩
def EW (hr:HR φ w S hp)(h:hp[id]?=some .unborn)(l:cQ):Ext φ (φ.set id l):=Ext.set_none (vt hr h)
def gR {l:cQ}(hr:HR φ w S hp){x:Ob}(h:hp[id]?=some x):(φ.set id l)[id]?=some l:=by
 have:id<hp.length:=by
  grind
 rw[qα (by rw[hr.len];omega)]
variable {vs:Array Value}
def HR.born_box (hr:HR φ w S hp)(h:hp[id]?=some .unborn){cs:List D}(t:TypeId)(hp1:Pw (VR φ w S) cs vs.toList)(hs:∀c∈vs.toList,bb c)(hbt:b3 cs=true->t=EL):
  HR (φ.set id (.box w.heap.size)) (w.alloc (.cells vs t)) S (hp.set id (.box cs))/\Fr (bm φ hp) S w (bm (φ.set id (.box w.heap.size)) (hp.set id (.box cs))) S (w.alloc (.cells vs t))/\Ext φ (φ.set id (.box w.heap.size)):=by
 refine hr.born h _ (fun b hb=>by simp[bM]at hb;omega) ?_;refine⟨vs,t,(0,0),fb w _,fun o _ hh=>by omega,?_,hs,hbt⟩
 exact hp1.mono fun _ _ hv=>iF (EW hr h _) (fun b hb=>jF w _ (hr.low b hb)) (fun _ h=>h) _ hv
variable {k:Nat}
def gM {l:cQ}:∀id,id<base->(φ.set (base+k) l)[id]?=φ[id]?:=by grind
def P8 (cx:Cx G a φ w S hp tm){t:TypeId}{zs:List D}(ho:o.op= .alloc t)(hz:jj P t=some zs)(hbt:b3 zs=true->t=EL)(hb:hp[base+k]?=some .unborn)(h:TJ zs base k=some (d,ups,new)):EffOk P o a φ w S hp base d (grow (aw hp ups) new):=by
 obtain⟨i,z,y,hi,hzz,hty,hs,g1,g2,g3,g4⟩:=lN hz;obtain⟨rfl,rfl,rfl⟩:=h;obtain⟨h1,h2,h3⟩:=cx.hr.born_box hb t (g3 φ w S) g4 hbt;refine⟨.pointer (some ⟨w.heap.size,0,none⟩),_,_,S,.inl ?_,?_,by simpa[grow,aw,bc]using h1,h3,by simpa[grow,aw,bc]using h2,gM⟩
 ·have hz1:∀w,(zeroValue t).run P w= .ok z w:=fun w=>by simp[zeroValue,typeInfo,hi,hzz]
  simp[execOp,ho,Instr.alloc,hz1,newVar,newRow]
 ·exact⟨_,gR cx.hr hb,rfl⟩
def Y1 (cx:Cx G a φ w S hp tm){t tx:TypeId}{x:Operand}{ax:A}{n:Nat}(ho:o.op= .box t x)(hx:cA P G tx x=some ax)(hbt:n=1000003->t=EL)(hb:hp[base+k]?=some .unborn)(h:TO n base k [ev tm ax]=some (d,ups,new)):
  EffOk P o a φ w S hp base d (grow (aw hp ups) new):=by
 have hv:=aZ cx.tmr cx.gr hx;generalize ev tm ax=dx at*
 simp only[TO]at h;cases hc:((bif Nat.beq n 1000003 then Nat.beq (bA dx).length 3 else Nat.beq (bA dx).length n&&!b3 (bA dx))&&(bA dx).all dZ)with
 |false=>simp_all
 |true=>
  simp only[hc,lτ]at h;obtain⟨rfl,rfl,rfl⟩:=h;rw[lγ]at hc;obtain⟨g1,g2⟩:=oE hv hc.2;have hbt':b3 (bA dx)=true->t=EL:=fun h3=>by
   simp_all
  obtain⟨h1,h2,h3⟩:=cx.hr.born_box hb t g1 g2 hbt';refine⟨.pointer (some ⟨w.heap.size,0,none⟩),_,_,S,.inl ?_,?_,by simpa[grow,aw,bc]using h1,h3,by simpa[grow,aw,bc]using h2,gM⟩
  ·simp[execOp,ho,Instr.box,newVar,newRow]
  ·exact⟨_,gR cx.hr hb,rfl⟩
def Br (cx:Cx G a φ w S hp tm){t:TypeId}{r:Option Operand}(ho:o.op= .makeMap t r)(hr:r=none\/(∃kk n,r=some (.const (.int kk n)))/\∃x y,P.underlying t=some (.map x y))(hb:hp[base+k]?=some .unborn)(h:Kq base k=some (d,ups,new)):
  EffOk P o a φ w S hp base d (grow (aw hp ups) new):=by
 simp only[Kq,lβ,lτ]at h;obtain⟨rfl,rfl,rfl⟩:=h;obtain⟨h1,h2,h3⟩:=cx.hr.born hb (.map #[] 0) (l:= .map w.heap.size) (ob:= .map [] []) (fun b hb=>by simp[bM]at hb;exact hb.symm) (by
  simp only[OR];exact⟨#[],0,fb w _,by simpa using Pw.nil,by simpa using Pw.nil⟩)
 refine⟨.map (some w.heap.size),_,_,S,.inl ?_,?_,by simpa[grow,aw,bc]using h1,h3,by simpa[grow,aw,bc]using h2,gM⟩
 ·rcases hr with rfl|⟨⟨kk,n,rfl⟩,x,y,hu⟩
  ·simp[execOp,ho,Instr.makeMap]
  ·simp[execOp,ho,Instr.makeMap,run_underlying hu,asInt,asIntOf,Act.eval]
 ·simp only[VR];exact⟨_,gR cx.hr hb,rfl⟩
def Ec (cur:Array Value)(off:Nat)(h:off<=cur.size):bG cur off #[]=cur:=by
 rfl
def L8 {v:Value}(h:bb v):v.oneCell'=true:=by cases v<;>first|rfl|exact h.elim
def j8 {b off:Nat}{vs:Array Value}{t:TypeId}{fz:Nat×Nat}(hh:w.heap[b]?=some (.cells vs t fz))(hf:je fz vs.size):∀(cs:List Value) (i:Nat) (cur:Array Value) (w':World),cur.size=vs.size->w'.heap=w.heap.set! b (.cells cur t fz)->off+i+cs.length<=vs.size->(∀c∈cs,bb c)->
  ∃w'',(storeCells ⟨b,off,none⟩ cs i).run P w'= .ok () w''/\w''.heap=w.heap.set! b (.cells (bG cur (off+i) cs.toArray) t fz)/\w''.os=w'.os/\w''.tape=w'.tape/\w''.output=w'.output
 |[],i,cur,w',hsz,hw,hfit,_=>⟨w',rfl,by rw[Ec cur (off+i) (by simp at hfit;omega)];exact hw,rfl,rfl,rfl⟩
 |c::r,i,cur,w',hsz,hw,hfit,hs=>by
  have hblt:b<w.heap.size:=by
   rcases mδ b w.heap.size with h1|h1
   ·exact h1
   ·simp[Array.getElem?_eq_none h1]at hh
  have hb':w'.heap[b]?=some (.cells cur t fz):=by rw[hw];simp[Array.set!_eq_setIfInBounds,hblt]
  have hlt:off+i<cur.size:=by simp at hfit;omega
  have hcell:w'.cell? ⟨b,off+i,none⟩=some cur[off+i]:=by simp[World.cell?,hb',hlt]
  have hfro:w'.frozen? ⟨b,off+i,none⟩=false:=by
   obtain⟨lo,hi⟩:=fz;have:=hf (off+i) (by omega);simp only at this;simp only[World.frozen?,hb',Bool.and_eq_false_iff,lζ];omega
  have hst:(store ((⟨b,off,none⟩:Addr).add i) c).run P w'= .ok () (w'.setCell ⟨b,off+i,none⟩ c):=by
   rw[dt,run_store P w' _ c _ (L8 (hs c (by simp)))];simp[hcell,hfro]
  have hw2:(w'.setCell ⟨b,off+i,none⟩ c).heap=w.heap.set! b (.cells (cur.setIfInBounds (off+i) c) t fz):=by
   simp only[World.setCell,hw];apply Array.ext_getElem?;intro j;simp only[Array.set!_eq_setIfInBounds,Array.getElem?_modify,Array.getElem?_setIfInBounds];by_cases hj:b=j
   ·subst hj;simp[hblt]
   ·simp[hj]
  obtain⟨w'',g1,g2,g3,g4,g5⟩:=j8 (off:=off) hh hf r (i+1) (cur.setIfInBounds (off+i) c) (w'.setCell ⟨b,off+i,none⟩ c) (by simpa using hsz) hw2 (by simp at hfit;omega) (fun x hx=>hs x (by simp[hx]));refine⟨w'',?_,?_,g3,g4,g5⟩
  ·simp only[storeCells,Sem.run_bind,hst,Result.andThen_ok,g1]
  ·rw[g2];congr 2;apply Array.ext';have e1:off+(i+1)+r.length<=(cur.setIfInBounds (off+i) c).size:=by simp at hfit ⊢;omega
   rw[bz (by simpa using e1),bz (by simp at hfit ⊢;omega),Array.toList_setIfInBounds];have hl:off+i<cur.toList.length:=by simpa using hlt
   simp only[splice];rw[show off+(i+1)=off+i+1 by omega,List.take_set,List.drop_set_of_lt (by omega)];have h1:(cur.toList.take (off+i+1)).set (off+i) c=cur.toList.take (off+i)++[c]:=by
    have hle:off+i<=cur.size:=by omega
    rw[List.take_succ_eq_append_getElem hl,List.set_append_right _ _ (by simp;omega)];simp[Nat.min_eq_left hle]
   rw[h1];simp[Nat.add_assoc,Nat.add_comm,Nat.add_left_comm]
def sa {t te:TypeId}{y:Ty}(ht:gX P t y){b off:Nat}{fz:Nat×Nat}(hh:w.heap[b]?=some (.cells vs te fz))(hf:je fz vs.size){v:Value}(hv:v.cells.size=y.size)(hfit:off+y.size<=vs.size)(hs:∀c∈v.cells.toList,bb c):
  ∃w',(storeVar t ⟨b,off,none⟩ v).run P w= .ok () w'/\w'.heap=w.heap.set! b (.cells (bG vs off v.cells) te fz)/\w'.os=w.os/\w'.tape=w.tape/\w'.output=w.output:=by
 have hw:w.heap=w.heap.set! b (.cells vs te fz):=by
  grind
 obtain⟨w',g1,g2,g3⟩:=j8 (P:=P) (off:=off) hh hf v.cells.toList 0 vs w rfl hw (by grind) hs;refine⟨w',?_,by omega,g3⟩
 simp only[storeVar,Sem.run_bind,ht.sizeOf,Result.andThen_ok,hv,ne_eq,not_true_eq_false,if_false,g1]
end
end
section
variable [Letters]
section
variable {P:Program} {G:bP} {o:Oper} {a:Act} {φ:List cQ} {w:World} {S:Nat->Prop} {hp:List Ob} {tm:Tm} {base:Nat} {d:D} {ups:List (Nat×Ob)} {new:List Ob}
def j9 {w':World}{b:Nat}{x:Obj}(h:w'.heap=w.heap.set! b x):(∀j,j≠b->w'.heap[j]?=w.heap[j]?)/\(b<w.heap.size->w'.heap[b]?=some x)/\w'.heap.size=w.heap.size:=by
 grind
def ej {α:Type}{l:List α}{i:Nat}{x:α}(h:l[i]?=some x):l.set i x=l:=by
 apply List.ext_getElem?;grind
def Gp {dx:D}{v:Value}{n:Nat}(hv:VR φ w S dx v)(hok:(bA dx).all dZ=true)(hn:(bA dx).length=n):v.cells.size=n:=by
 have:=(oE hv hok).1.1;simp_all
variable {off:Nat}
def zJ (cx:Cx G a φ w S hp tm){t:TypeId}{p x:Operand}{y:Ty}(ho:o.op= .store t p x)(hty:gX P t y){id:Nat}{cs:List D}{dx:D}(hp1:VR φ w S (.box id off) (a.eval p))(hx1:VR φ w S dx (a.eval x))(hob:hp[id]?=some (.box cs))(hn:(bA dx).length=y.size)(hfit:off+y.size<=cs.length)(hok:(bA dx).all dZ=true)(hbt:b3 (splice cs off (bA dx))=true->b3 cs=true):EffOk P o a φ w S hp base .junk (hp.set id (.box (splice cs off (bA dx)))):=by
 obtain⟨b,hb,hv⟩:=hp1;obtain⟨vs,t',fz,h1,h2,h3,h4,h5⟩:=cx.hr.obj id _ _ hb hob;obtain⟨g1,g2⟩:=oE hx1 hok;have hsz:=Gp hx1 hok hn;have hcs:cs.length=vs.size:=by have:=h3.1;omega
 obtain⟨w',e1,e2,e3,e4,e5⟩:=sa (off:=off) hty h1 h2 hsz (by omega) g2;obtain⟨q1,q2,q3⟩:=j9 e2;have hblt:b<w.heap.size:=(cx.hr.own b ⟨id,_,_,hb,hob,rfl⟩).2;have hnb:∀b',S b'->b'≠b:=fun b' hs e=>(cx.hr.own b ⟨id,_,_,hb,hob,rfl⟩).1 (e▸hs)
 have hphi:φ.set id (.box b)=φ:=ej hb;have hps:(bG vs off (a.eval x).cells).size=vs.size:=by
  have:(bG vs off (a.eval x).cells).toList.length=vs.toList.length:=by rw[bz (by omega)];exact cH (by simp_all)
  omega
 obtain⟨k1,k2,k3⟩:=cx.hr.one_step (S':=S) (w':=w') (l':= .box b) (o':= .box (splice cs off (bA dx))) hb hob (fun _=>rfl) (fun b' _ hne=>q1 b' fun e=>hne (by rw[e];rfl)) (Nat.le_of_eq q3.symm) e3 e4 e5 (fun _ h=>h) (fun _ h=> .inl h)
  (fun b' hb'=>by rw[q3];exact cx.hr.low b' hb') (by
   refine⟨_,t',fz,q2 hblt,by simp_all,?_,?_,fun h=>h5 (hbt h)⟩
   ·rw[bz (by omega),hphi];exact(h3.splice g1 off).mono fun _ _ hh=>iF (Ext.refl φ) (fun b' hb'=>q1 b' (hnb b' hb')) (fun _ h=>h) _ hh
   ·rw[bz (by omega)];exact qC h4 g2) (by
   intro b' hb';simp only[bM,lβ]at hb';subst hb';exact⟨.inl rfl,by omega,fun hs=>hnb _ hs rfl⟩)
 rw[hphi]at k1 k2 k3;refine⟨undef,w',φ,S,.inr ⟨?_,rfl⟩,by simp only[VR],k1,k3,k2,fun _ _=>rfl⟩
 simp[execOp,ho,hv,Instr.storeAt,Instr.sureAddr,e1]
def Aq {e e':Da}{cs:LD}(h:fk e cs=some e'):(∃x,e= .agg x/\e'= .agg cs)\/((∀x,e≠ .agg x)/\cs=[e']):=by
 unfold fk at h;grind
def L5 {S:Nat->Prop}{e e':Da}{u v:Value}{x:Da}(hu:PR w S e u)(hx:PR w S x v)(hfit:off+v.cells.size<=u.cells.size)(h:fk e (splice (cells e) off (cells x))=some e'):
  ∃u',PR w S e' u'/\u'.cells=bG u.cells off v.cells:=by
 obtain⟨h1,h2⟩:=fx hu;obtain⟨h3,h4⟩:=fx hx;have hp:=h1.splice h3 off;have hs:∀c∈splice u.cells.toList off v.cells.toList,bb c:=qC h2 h4;rcases Aq h with⟨cs,rfl,rfl⟩|⟨hne,hcs⟩
 ·refine⟨.agg (bG u.cells off v.cells),?_,rfl⟩;simp only[PR];exact⟨_,rfl,PRs_iff.2 (by rw[bz hfit];exact hp),by rw[bz hfit];exact hs⟩
 ·rw[hcs]at hp;obtain⟨c,cs',e1,e2,e3⟩:=hp.cons_inv;obtain rfl:=e3.nil_inv;have hsc:bb c:=hs c (by rw[e1];simp);refine⟨c,e2,?_⟩;apply Array.ext';rw[bz hfit,e1];cases c<;>first|rfl|exact hsc.elim
def Q1 {w':World}{b o z:Nat}{us:List Value}{i:Nat}{u u':Value}{vs:Array Value}{t:TypeId}{fz:Nat×Nat}{c:Array Value}(hrow:rowAt w b o z us)(hu:us[i]?=some u)(hh:w.heap[b]?=some (.cells vs t fz))(hfit:off+c.size<=z)(hw:w'.heap[b]?=some (.cells (bG vs (o+i*z+off) c) t fz))(hu':u'.cells=bG u.cells off c)(hsz:o+us.length*z<=vs.size):rowAt w' b o z (us.set i u'):=by
 have hi:i<us.length:=by
  rcases mδ i us.length with h1|h1
  ·exact h1
  ·simp[lυ h1]at hu
 have hz:=(hrow i u hu).1;have hle:(i+1)*z<=us.length*z:=lψ z hi;have hle2:(i+1)*z=i*z+z:=by rw[mκ];simp
 have hput:o+i*z+off+c.size<=vs.size:=by omega
 have hcells:∀k,(bG vs (o+i*z+off) c)[k]?=if k<o+i*z+off then vs[k]? else if k<o+i*z+off+c.size then c[k - (o+i*z+off)]? else vs[k]?:=by
  intro k;have:(bG vs (o+i*z+off) c)[k]?=(bG vs (o+i*z+off) c).toList[k]?:=by simp
  rw[this,bz hput,splice];by_cases h1:k<o+i*z+off
  ·rw[if_pos h1,lρ,lι (by simp;omega),List.getElem?_take,if_pos h1];simp
  ·rw[if_neg h1];by_cases h2:k<o+i*z+off+c.size
   ·rw[if_pos h2,lι (by simp;omega),lπ (by simp;omega)];simp only[mε,Array.length_toList];rw[Nat.min_eq_left (by omega)];simp
   ·rw[if_neg h2,lπ (by simp;omega),List.getElem?_drop];simp only[lε,mε,Array.length_toList];rw[Nat.min_eq_left (by omega)];have:o+i*z+off+c.size+(k - (o+i*z+off+c.size))=k:=by omega
    rw[this];simp
 have hold:∀k,w.cell? ⟨b,k,none⟩=vs[k]?:=by intro k;simp[World.cell?,hh]
 have hnew:∀k,w'.cell? ⟨b,k,none⟩=(bG vs (o+i*z+off) c)[k]?:=by intro k;simp[World.cell?,hw]
 intro j x hx;rw[List.getElem?_set]at hx;by_cases hij:i=j
 ·subst hij;simp only[if_true,hi]at hx;simp only[lβ]at hx;subst hx;have hcs:u'.cells.size=u.cells.size:=by
   have:u'.cells.toList.length=u.cells.toList.length:=by rw[hu',bz (by omega)];exact cH (by simpa using(by omega:off+c.size<=u.cells.size))
   simpa using this
  refine⟨by rw[hcs,hz],?_⟩
  intro k y hy;rw[hnew,hcells];have hk:k<z:=by
   rcases mδ k z with h1|h1
   ·exact h1
   ·rw[Array.getElem?_eq_none (by omega)]at hy;simp at hy
  have hy':(splice u.cells.toList off c.toList)[k]?=some y:=by
   rw[<-bz (by omega),<-hu'];simpa using hy
  rw[splice]at hy';by_cases h1:o+i*z+k<o+i*z+off
  ·rw[if_pos h1];rw[lρ,lι (by simp;omega),List.getElem?_take,if_pos (by omega)]at hy';have:=(hrow i u hu).2 k y (by simpa using hy');rwa [hold]at this
  ·rw[if_neg h1];by_cases h2:o+i*z+k<o+i*z+off+c.size
   ·rw[if_pos h2];rw[lι (by simp;omega),lπ (by simp;omega)]at hy';simp only[mε,Array.length_toList]at hy';rw[Nat.min_eq_left (by omega)]at hy';rw[show o+i*z+k - (o+i*z+off)=k - off by omega];simpa using hy'
   ·rw[if_neg h2];rw[lπ (by simp;omega),List.getElem?_drop]at hy';simp only[lε,mε,Array.length_toList]at hy';rw[Nat.min_eq_left (by omega)]at hy';have he:off+c.size+(k - (off+c.size))=k:=by omega
    rw[he]at hy';have:=(hrow i u hu).2 k y (by simpa using hy');rwa [hold]at this
 ·rw[if_neg hij]at hx;obtain⟨hz1,hh1⟩:=hrow j x hx;refine⟨hz1,?_⟩;intro k y hy;have hk:k<z:=by
   rcases mδ k z with h1|h1
   ·exact h1
   ·rw[Array.getElem?_eq_none (by omega)]at hy;simp at hy
  have:=hh1 k y hy;rw[hold]at this;rw[hnew,hcells];rcases mδ i j with h|h
  ·have:(i+1)*z<=j*z:=lψ z h;rw[if_neg (by omega),if_neg (by omega)];assumption
  ·have:(j+1)*z<=i*z:=lψ z (by omega);have h4:(j+1)*z=j*z+z:=by rw[mκ];simp
   rw[if_pos (by omega)];assumption
end
end
section
variable [Letters]
def qf (hp:List Ob)(f:Nat->Bool):∀ids:LN,(ids.zip (ids.map (aS hp))).filter (fun p=>f p.1)=(ids.filter f).zip ((ids.filter f).map (aS hp))
 |[]=>rfl
 |i::r=>by
  simp only[List.map_cons,List.zip_cons_cons,List.filter_cons,qf hp f r];cases f i<;>simp
def iB:∀(hp:List Ob) (a b:List (Nat×Ob)),aw hp (a++b)=aw (aw hp a) b
 |hp,[],b=>rfl
 |hp,(i,o)::r,b=>by simp only[List.cons_append,aw,iB]
section
variable {P:Program} {G:bP} {o:Oper} {a:Act} {φ:List cQ} {w:World} {S:Nat->Prop} {hp:List Ob} {tm:Tm} {base:Nat} {d:D} {ups:List (Nat×Ob)} {new:List Ob}
def M9 (id:Nat)(ids:LN):LN:=ids.filter fun i=>!Nat.beq i id
variable {id:Nat} {ids:LN}
def NW:¬id∈M9 id ids:=by simp[M9]
def yi (h:¬id∈ids):(aw hp (dU (ids.zip (ids.map (aS hp)))))[id]?=hp[id]?:=by
 rw[yk,fE,if_neg (fun hh=>h hh.1)]
variable {S1:Nat->Prop}
def EffOk.after {w1:World}{hp1 hp2:List Ob}(hr1:HR φ w S1 hp1)(hf1:Fr (bm φ hp) S w (bm φ hp1) S1 w)(h:EffOk P o a φ w S1 hp1 base d hp2):EffOk P o a φ w S hp base d hp2:=by
 obtain⟨v,w',φ',S',h1,h2,h3,h4,h5,h6⟩:=h;exact⟨v,w',φ',S',h1,h2,h3,h4,hf1.trans h5,h6⟩
def C0 (cx:Cx G a φ w S hp tm){t:TypeId}{p x:Operand}{y:Ty}(ho:o.op= .store t p x)(hty:gX P t y){i off:Nat}{es:LD}{e e' xd:Da}{hp1:List Ob}(hr1:HR φ w S1 hp1)(hf1:Fr (bm φ hp) S w (bm φ hp1) S1 w)(hp0:VR φ w S (.el id i off) (a.eval p))(hx1:PR w S1 xd (a.eval x))(hob:hp1[id]?=some (.arr es))(he:es[i]?=some e)(hn:(cells xd).length=y.size)(hfit:off+y.size<=(cells e).length)(hre:fk e (splice (cells e) off (cells xd))=some e'):
  EffOk P o a φ w S hp base .junk (hp1.set id (.arr (es.set i e'))):=by
 refine EffOk.after hr1 hf1 (w1:=w) ?_;simp only[VR]at hp0;obtain⟨b,o',cap,z,n,hb,hi,hv⟩:=hp0;obtain⟨h0,h1,h2,us,h3,h4⟩:=hr1.obj id _ _ hb hob;obtain⟨u,hu,hue⟩:=h3.get he;have hcap:0<cap:=by omega
 obtain⟨vs,t',fz,g1,g2,g3⟩:=h2 hcap;obtain⟨hzu,hholds⟩:=h4 i u hu;have hcells:(cells e).length=z:=by have:=(fx hue).1.1;simp at this;omega
 have hvx:(a.eval x).cells.size=y.size:=by have:=(fx hx1).1.1;simp at this;omega
 have hle:(i+1)*z<=cap*z:=lψ z (by omega);have hle2:(i+1)*z=i*z+z:=by rw[mκ];simp
 obtain⟨w',e1,e2,e3,e4,e5⟩:=sa (off:=o'+i*z+off) hty g1 g2 hvx (by omega) (fx hx1).2;obtain⟨q1,q2,q3⟩:=j9 e2;have hown:bM (.arr b o' cap z n) (.arr es)=some b:=by simp[bM,hcap]
 have hblt:b<w.heap.size:=(hr1.own b ⟨id,_,_,hb,hob,hown⟩).2;have hnb:∀b',S1 b'->b'≠b:=fun b' hs ee=>(hr1.own b ⟨id,_,_,hb,hob,hown⟩).1 (ee▸hs)
 have hphi:φ.set id (.arr b o' cap z n)=φ:=ej hb;have hst:eO S1 w w':=fun b' hb'=>q1 b' (hnb b' hb')
 obtain⟨u',hu1,hu2⟩:=L5 hue hx1 (by omega) hre;have hps:(bG vs (o'+i*z+off) (a.eval x).cells).size=vs.size:=by
  have:(bG vs (o'+i*z+off) (a.eval x).cells).toList.length=vs.toList.length:=by rw[bz (by omega)];exact cH (by simpa using(by omega:o'+i*z+off+(a.eval x).cells.size<=vs.size))
  simpa using this
 have huslen:o'+us.length*z<=vs.size:=by
  have:us.length*z<=cap*z:=lψ z (by have:=h3.1;omega);omega
 obtain⟨k1,k2,k3⟩:=hr1.one_step (S':=S1) (w':=w') (l':= .arr b o' cap z n) (o':= .arr (es.set i e')) hb hob (fun _=>rfl) (fun b' _ hne=>q1 b' fun ee=>hne (by rw[ee];exact hown)) (Nat.le_of_eq q3.symm) e3 e4 e5 (fun _ h=>h) (fun _ h=> .inl h)
  (fun b' hb'=>by rw[q3];exact hr1.low b' hb') (by
   simp only[OR];refine⟨by simpa using h0,h1,fun _=>⟨_,t',fz,q2 hblt,by rw[hps];exact g2,by rw[hps];exact g3⟩,us.set i u',?_,?_⟩
   ·exact(h3.set i hue).mono (fun _ _ hh=>hh) |> fun _=>((h3.mono fun _ _ hh=>bl hst (fun _ h=>h) _ hh).set i (bl hst (fun _ h=>h) _ hu1))
   ·exact Q1 h4 hu g1 (by omega) (q2 hblt) hu2 huslen) (by
   intro b' hb';have hb'':b'=b:=by simp[bM,hcap]at hb';exact hb'.symm
   subst hb'';exact⟨.inl hown,by rw[q3];exact hblt,fun hs=>hnb _ hs rfl⟩)
 rw[hphi]at k1 k2 k3;refine⟨undef,w',φ,S1,.inr ⟨?_,rfl⟩,by simp only[VR],k1,k3,k2,fun _ _=>rfl⟩
 simp[execOp,ho,hv,Instr.storeAt,Instr.sureAddr,e1]
def Qe (cx:Cx G a φ w S hp tm){t tp tx:TypeId}{p x:Operand}{y:Ty}{ap ax:A}(ho:o.op= .store t p x)(ht:ty P t=some y)(hp1:cA P G tp p=some ap)(hx:cA P G tx x=some ax)
  (h:mA y.size [ev tm ap,ev tm ax] (bB (.store y.size) [ev tm ap,ev tm ax] hp) ((bB (.store y.size) [ev tm ap,ev tm ax] hp).map (aS hp))=some (d,ups,new)):EffOk P o a φ w S hp base d (grow (aw hp ups) new):=by
 have h1:=aZ cx.tmr cx.gr hp1;have h2:=aZ cx.tmr cx.gr hx;have hty:=ek ht;generalize hids:bB (.store y.size) [ev tm ap,ev tm ax] hp=ids at h;generalize ev tm ap=dp at*
 generalize ev tm ax=dx at*
 unfold mA at h;split at h
 ·rename_i id off d0 heq;simp only[lω,and_true]at heq;obtain⟨rfl,rfl⟩:=heq;simp only at h;split at h
  ·rename_i cs hl;cases hc:(Nat.beq (bA dx).length y.size&&Nat.ble (off+y.size) cs.length&&(bA dx).all dZ)with
   |false=>simp[hc]at h
   |true=>
    simp only[hc,cond_true]at h;cases hbt:(b3 (splice cs off (bA dx))&&!b3 cs)with
    |true=>rw[hbt]at h;simp at h
    |false=>
    simp only[hbt,cond_false,lβ,lτ]at h;obtain⟨rfl,rfl,rfl⟩:=h;have hbt':b3 (splice cs off (bA dx))=true->b3 cs=true:=fun h=>by rw[h]at hbt;simpa using hbt
    rw[lγ,lγ,beq_eq,ble_eq,lδ,lδ]at hc;have:=zJ (P:=P) (base:=base) cx ho hty h1 h2 (bC hl (by simp)) hc.1.1 hc.1.2 hc.2 hbt';simpa[grow,aw,bc]using this
  ·simp at h
 ·rename_i id i off d0 heq;simp only[lω,and_true]at heq;obtain⟨rfl,rfl⟩:=heq;simp only at h;rw[qf hp (fun i=>!Nat.beq i id)]at h;split at h
  ·rename_i es hl;split at h
   ·rename_i e he;split at h
    ·rename_i x1 hx1;cases hc:(Nat.beq (cells x1).length y.size&&Nat.ble (off+y.size) (cells e).length)with
     |false=>simp[hc]at h
     |true=>
      simp only[hc,cond_true]at h;split at h
      ·rename_i e' he';simp only[lβ,lτ]at h;obtain⟨rfl,rfl,rfl⟩:=h;rw[lγ,beq_eq,ble_eq,lδ,lδ]at hc;obtain⟨hr1,hf1⟩:=cx.hr.freeze (M9 id ids);have hob:=bC hl (by simp);have hob1:(aw hp (dU ((M9 id ids).zip ((M9 id ids).map (aS hp)))))[id]?=some (.arr es):=by rw[yi NW];exact hob
       have hv:=mQ cx.hr (S':=FX φ S hp (M9 id ids)) (fun _ h=> .inl h) ni dx hx1 h2;have:=C0 (P:=P) (base:=base) cx ho hty hr1 hf1 h1 hv hob1 he hc.1 hc.2 he';simp only[grow,iB,aw,bc];exact this
      ·simp at h
    ·simp at h
   ·simp at h
  ·simp at h
 ·simp at h
end
end
section
variable [Letters]
variable {kt:TypeDesc}
def rH {x y:Da}(h:j5 kt x y=some true):x=y:=by
 unfold j5 at h;split at h
 ·split at h
  ·rename_i hk;subst hk;simp only[lβ,iu,beq_iff_eq]at h;rw[h]
  ·simp at h
 ·simp only[lβ,C7,beq_iff_eq]at h;rw[h]
 ·simp at h
def tJ {kt:TypeDesc}{k:Da}:∀{ks:LD} {n i:Nat},cS kt k ks n=some (some i)->n<=i/\ks[i - n]?=some k
 |[],n,i,h=>by simp[cS]at h
 |x::r,n,i,h=>by
  simp only[cS]at h;split at h
  ·rename_i he;simp only[lβ]at h;subst h;have:=rH he;subst this;exact⟨Nat.le_refl _,by simp⟩
  ·obtain⟨h1,h2⟩:=tJ h;refine⟨by omega,?_⟩
   rw[show i - n=(i - (n+1))+1 by omega,List.getElem?_cons_succ];exact h2
  ·simp at h
section
variable {P:Program} {G:bP} {o:Oper} {a:Act} {φ:List cQ} {w:World} {S:Nat->Prop} {hp:List Ob} {tm:Tm} {base:Nat} {d:D} {ups:List (Nat×Ob)} {new:List Ob}
def Hj {k k':Da}{v u:Value}(hk:PR w S k v)(hk':PR w S k' u)(h:j5 kt k k'=some true):(Instr.keyThatStays u v).run P w= .ok v w:=by
 have he:=rH h;subst he;unfold j5 at h;split at h
 ·simp only[PR]at hk hk';subst hk hk';simp[Instr.keyThatStays,Instr.sameBits]
 ·simp only[PR]at hk hk';obtain⟨b1,rfl,h1⟩:=hk;obtain⟨b2,rfl,h2⟩:=hk';have:(b2==b1)=true:=by
   rw[T7,beq_iff_eq];have hinj:∀x y:UInt8,x.toNat=y.toNat->x=y:=fun x y h=>UInt8.toNat_inj.1 h
   exact(List.map_inj_right hinj).1 (h2.trans h1.symm)
  simp[Instr.keyThatStays,Instr.sameBits,this]
 ·simp at h
def mR {r:Nat}{x y:Obj}(hx:w.heap[r]?=some x)(hn:∀c t f,x≠ .cells c t f):(setObj r y).run P w= .ok () {w with heap:=w.heap.setIfInBounds r y}:=by
 simp only[setObj,Sem.run,hx]
def jA {α:Type}{l:List α}{j:Nat}{x y:α}(h:l[j]?=some y):l.modify j (fun _=>x)=l.set j x:=by
 apply List.ext_getElem?;intro i;rw[List.getElem?_modify,List.getElem?_set];by_cases hij:j=i
 ·subst hij;have:j<l.length:=by
   rcases mδ j l.length with h1|h1
   ·exact h1
   ·simp[lυ h1]at h
  simp[h,this]
 ·simp[hij]
def gP {es:List MapEntry}{i:Nat}{f:MapEntry->MapEntry}{g:MapEntry->Value}:(es.modify i f).map g=(es.map g).modify i fun _=>(match es[i]? with|some e=>g (f e)|none=>undef):=by
 apply List.ext_getElem?;intro j;simp only[lσ,List.getElem?_modify];by_cases hij:i=j
 ·subst hij;cases he:es[i]?<;>simp
 ·simp[hij]
def HQ (cx:Cx G a φ w S hp tm){t kty e:TypeId}{m k x:Operand}(ho:o.op= .mapUpdate t m k x\/o.op= .insert t m k x)(hs:und P t= .map kty e)(hk:eD (und P kty)=true)
  {id:Nat} {k1:Da} {dx:D} {ks:LD} {ws:List D} {o0:Ob} (h1:VR φ w S (.map id) (a.eval m)) (h2':PR w S k1 (a.eval k)) (h3:VR φ w S dx (a.eval x)) (hob:hp[id]?=some o0)
  (hobj:∀r,φ[id]?=some (.map r)->bM (.map r) o0=some r/\∃es cl,w.heap[r]?=some (.map es cl)/\Pw (PR w S) ks (es.toList.map (·.key))/\Pw (VR φ w S) ws (es.toList.map (·.val)))
  (h:NT (und P kty) id k1 dx ks ws=some (d,ups,new)):EffOk P o a φ w S hp base d (grow (aw hp ups) new):=by
 have hu:=aI hs (by simp);have huk:=Mo (yQ hk);have hex:∀w',(Instr.mapUpdate t (a.eval m) (a.eval k) (a.eval x)).run P w= .ok () w'->(execOp a.eval o).run P w= .ok .skip w':=by
  intro w' e;rcases ho with ho|ho<;>simp[execOp,ho,e]
 simp only[VR]at h1;obtain⟨r,hrr,hmv⟩:=h1;obtain⟨hown,es,cl,g1,g2,g3⟩:=hobj r hrr;have hblt:r<w.heap.size:=(cx.hr.own r ⟨id,_,_,hrr,hob,hown⟩).2;have hnb:∀b',S b'->b'≠r:=fun b' hs ee=>(cx.hr.own r ⟨id,_,_,hrr,hob,hown⟩).1 (ee▸hs)
 have hphi:φ.set id (.map r)=φ:=ej hrr;have hck:=jD (w:=w) huk hk false (a.eval k);have gu:∀(es':Array MapEntry) (c':Nat) (ks':LD) (ws':List D),Pw (PR w S) ks' (es'.toList.map (·.key))->Pw (VR φ w S) ws' (es'.toList.map (·.val))->
   (Instr.mapUpdate t (a.eval m) (a.eval k) (a.eval x)).run P w= .ok () {w with heap:=w.heap.setIfInBounds r (.map es' c')}->EffOk P o a φ w S hp base .junk (hp.set id (.mapd ks' ws')):=by
  intro es' c' ks' ws' p1 p2 hrun;obtain⟨q1,q2,q3⟩:=j9 (w:=w) (w':={w with heap:=w.heap.setIfInBounds r (.map es' c')}) (b:=r) (x:= .map es' c') rfl;have hst:eO S w {w with heap:=w.heap.setIfInBounds r (.map es' c')}:=fun b' hb'=>q1 b' (hnb b' hb')
  obtain⟨k1',k2',k3'⟩:=cx.hr.one_step (S':=S) (w':={w with heap:=w.heap.setIfInBounds r (.map es' c')}) (l':= .map r) (o':= .mapd ks' ws') hrr hob (fun _=>rfl) (fun b' _ hne=>q1 b' fun ee=>hne (by rw[ee];exact hown)) (Nat.le_of_eq q3.symm) rfl rfl rfl (fun _ h=>h) (fun _ h=> .inl h)
   (fun b' hb'=>by rw[q3];exact cx.hr.low b' hb') (by
    simp only[OR];rw[hphi];exact⟨es',c',q2 hblt,p1.mono fun _ _ hh=>bl hst (fun _ h=>h) _ hh,p2.mono fun _ _ hh=>iF (Ext.refl φ) hst (fun _ h=>h) _ hh⟩) (by
    intro b' hb';have hb'':b'=r:=by simp[bM]at hb';exact hb'.symm
    subst hb'';exact⟨.inl hown,by rw[q3];exact hblt,fun hs=>hnb _ hs rfl⟩)
  rw[hphi]at k1' k2' k3';exact⟨undef,_,φ,S,.inr ⟨hex _ hrun,rfl⟩,by simp only[VR],k1',k3',k2',fun _ _=>rfl⟩
 unfold NT at h;split at h
 ·rename_i j hj;simp only[lβ,lτ]at h;obtain⟨rfl,rfl,rfl⟩:=h;simp only[grow,aw,bc];obtain⟨_,hkj⟩:=tJ hj;rw[Nat.sub_zero]at hkj;have hf:=eJ huk h2' g2 hj;obtain⟨kv,hkv1,hkv2⟩:=g2.get hkj;obtain⟨en,hen1,hen2⟩:∃en,es.toList[j]?=some en/\en.key=kv:=by
   rw[lσ]at hkv1;cases hc:es.toList[j]? with
   |none=>simp[hc]at hkv1
   |some en=>simp[hc]at hkv1;exact⟨en,rfl,hkv1⟩
  have hes:es[j]?=some en:=by simpa using hen1
  simp only[Rt,Nat.sub_zero,hen1,Option.map_some]at hf;have hkeq:j5 (und P kty) k1 k1=some true:=by
   have:∀{ks:LD} {n i:Nat},cS (und P kty) k1 ks n=some (some i)->j5 (und P kty) k1 k1=some true:=by
    intro ks;induction ks with
    |nil=>intro n i h;simp[cS]at h
    |cons y r ih=>
     intro n i h;simp only[cS]at h;split at h
     ·rename_i he;have:=rH he;subst this;exact he
     ·exact ih h
     ·simp at h
   exact this hj
  have hstay:=Hj (P:=P) h2' (hen2▸hkv2) hkeq;refine gu (es.modify j fun e=>{e with key:=a.eval k,val:=a.eval x}) cl ks (ws.set j dx) ?_ ?_ ?_
  ·rw[Array.toList_modify,gP,hen1];have:(es.toList.map (·.key)).modify j (fun _=>a.eval k)=(es.toList.map (·.key)).set j (a.eval k):=by
    have:(es.toList.map (·.key))[j]?=some en.key:=by rw[lσ,hen1];rfl
    exact jA this
   simp only at this ⊢
   rw[this];have:=g2.set j h2';rwa [ej hkj]at this
  ·rw[Array.toList_modify,gP,hen1];have:(es.toList.map (·.val)).modify j (fun _=>a.eval x)=(es.toList.map (·.val)).set j (a.eval x):=by
    have:(es.toList.map (·.val))[j]?=some en.val:=by rw[lσ,hen1];rfl
    exact jA this
   simp only at this ⊢
   rw[this];exact g3.set j h3
  ·simp only[Instr.mapUpdate,Sem.run_bind,run_underlying hu,Result.andThen_ok,hmv,dq g1,hck,hf,hes,Option.map_some,Option.getD_some,hstay];exact mR g1 (by simp)
 ·rename_i hj;simp only[lβ,lτ]at h;obtain⟨rfl,rfl,rfl⟩:=h;simp only[grow,aw,bc];have hf:=eJ huk h2' g2 hj;simp only[Rt]at hf;refine gu (es.push {key:=a.eval k,val:=a.eval x,born:=cl}) (cl+1) (ks++[k1]) (ws++[dx]) ?_ ?_ ?_
  ·simp only[Array.toList_push,List.map_append,List.map_cons,List.map_nil];exact g2.append (Pw.cons h2' Pw.nil)
  ·simp only[Array.toList_push,List.map_append,List.map_cons,List.map_nil];exact g3.append (Pw.cons h3 Pw.nil)
  ·simp only[Instr.mapUpdate,Sem.run_bind,run_underlying hu,Result.andThen_ok,hmv,dq g1,hck,hf];exact mR g1 (by simp)
 ·simp at h
def GU (cx:Cx G a φ w S hp tm){t kty e tm' tk tx:TypeId}{m k x:Operand}{am ak ax:A}(ho:o.op= .mapUpdate t m k x\/o.op= .insert t m k x)(hs:und P t= .map kty e)(hk:eD (und P kty)=true)
  (hm:cA P G tm' m=some am) (hk':cA P G tk k=some ak) (hx:cA P G tx x=some ax)
  (h:uw (und P kty) [ev tm am,ev tm ak,ev tm ax] (bB (.mupd (und P kty)) [ev tm am,ev tm ak,ev tm ax] hp) ((bB (.mupd (und P kty)) [ev tm am,ev tm ak,ev tm ax] hp).map (aS hp))=some (d,ups,new)):
  EffOk P o a φ w S hp base d (grow (aw hp ups) new):=by
 have h1:=aZ cx.tmr cx.gr hm;have h2:=aZ cx.tmr cx.gr hk';have h3:=aZ cx.tmr cx.gr hx;have hu:=aI hs (by simp);have huk:=Mo (yQ hk);have hex:∀w',(Instr.mapUpdate t (a.eval m) (a.eval k) (a.eval x)).run P w= .ok () w'->(execOp a.eval o).run P w= .ok .skip w':=by
  intro w' e;rcases ho with ho|ho<;>simp[execOp,ho,e]
 generalize hids:bB (.mupd (und P kty)) [ev tm am,ev tm ak,ev tm ax] hp=ids at h;generalize ev tm am=dm at*
 generalize ev tm ak=dk at*
 generalize ev tm ax=dx at*
 unfold uw at h;split at h
 ·rename_i id k1 d0 heq;simp only[lω,and_true]at heq;obtain⟨rfl,rfl,rfl⟩:=heq;simp only at h;rw[qf hp (fun i=>!Nat.beq i id)]at h;split at h
  ·rename_i ks ws hl;split at h
   ·rename_i xd hxd;obtain⟨hr1,hf1⟩:=cx.hr.freeze (M9 id ids);have hob:=bC hl (by simp);have hob1:(aw hp (dU ((M9 id ids).zip ((M9 id ids).map (aS hp)))))[id]?=some (.map ks ws):=by rw[yi NW];exact hob
    have hv:=mQ cx.hr (S':=FX φ S hp (M9 id ids)) (fun _ h=> .inl h) ni dx hxd h3;simp only[VR]at h1 h2;have h2':PR w (FX φ S hp (M9 id ids)) k1 (a.eval k):=bl (fun _ _=>rfl) (fun _ h=> .inl h) _ h2;obtain⟨r,hrr,hmv⟩:=h1;obtain⟨es,cl,g1,g2,g3⟩:=hr1.obj id _ _ hrr hob1;generalize hS1:FX φ S hp (M9 id ids)=S1 at*
    generalize hhp1:aw hp (dU ((M9 id ids).zip ((M9 id ids).map (aS hp))))=hp1 at*
    have hown:bM (.map r) (.map ks ws)=some r:=rfl;have hblt:r<w.heap.size:=(hr1.own r ⟨id,_,_,hrr,hob1,hown⟩).2;have hnb:∀b',S1 b'->b'≠r:=fun b' hs ee=>(hr1.own r ⟨id,_,_,hrr,hob1,hown⟩).1 (ee▸hs)
    have hphi:φ.set id (.map r)=φ:=ej hrr;have hck:=jD (w:=w) huk hk false (a.eval k);have gu:∀(es':Array MapEntry) (c':Nat) (ks' ws':LD),Pw (PR w S1) ks' (es'.toList.map (·.key))->Pw (PR w S1) ws' (es'.toList.map (·.val))->
      (Instr.mapUpdate t (a.eval m) (a.eval k) (a.eval x)).run P w= .ok () {w with heap:=w.heap.setIfInBounds r (.map es' c')}->EffOk P o a φ w S hp base .junk (hp1.set id (.map ks' ws')):=by
     intro es' c' ks' ws' p1 p2 hrun;obtain⟨q1,q2,q3⟩:=j9 (w:=w) (w':={w with heap:=w.heap.setIfInBounds r (.map es' c')}) (b:=r) (x:= .map es' c') rfl;have hst:eO S1 w {w with heap:=w.heap.setIfInBounds r (.map es' c')}:=fun b' hb'=>q1 b' (hnb b' hb')
     refine EffOk.after hr1 hf1 (w1:=w) ?_;obtain⟨k1',k2',k3'⟩:=hr1.one_step (S':=S1) (w':={w with heap:=w.heap.setIfInBounds r (.map es' c')}) (l':= .map r) (o':= .map ks' ws') hrr hob1 (fun _=>rfl) (fun b' _ hne=>q1 b' fun ee=>hne (by rw[ee];rfl)) (Nat.le_of_eq q3.symm) rfl rfl rfl (fun _ h=>h) (fun _ h=> .inl h)
      (fun b' hb'=>by rw[q3];exact hr1.low b' hb') (by
       simp only[OR];exact⟨es',c',q2 hblt,p1.mono fun _ _ hh=>bl hst (fun _ h=>h) _ hh,p2.mono fun _ _ hh=>bl hst (fun _ h=>h) _ hh⟩) (by
       intro b' hb';have hb'':b'=r:=by simp[bM]at hb';exact hb'.symm
       subst hb'';exact⟨.inl rfl,by rw[q3];exact hblt,fun hs=>hnb _ hs rfl⟩)
     rw[hphi]at k1' k2' k3';exact⟨undef,_,φ,S1,.inr ⟨hex _ hrun,rfl⟩,by simp only[VR],k1',k3',k2',fun _ _=>rfl⟩
    split at h
    ·rename_i j hj;simp only[lβ,lτ]at h;obtain⟨rfl,rfl,rfl⟩:=h;simp only[grow,iB,aw,bc,hhp1,hS1];have hhp1':aw hp (dU ((ids.filter fun i=>!Nat.beq i id).zip ((ids.filter fun i=>!Nat.beq i id).map (aS hp))))=hp1:=hhp1;rw[hhp1'];obtain⟨_,hkj⟩:=tJ hj;rw[Nat.sub_zero]at hkj;have hf:=eJ huk h2' g2 hj;obtain⟨kv,hkv1,hkv2⟩:=g2.get hkj;obtain⟨en,hen1,hen2⟩:∃en,es.toList[j]?=some en/\en.key=kv:=by
      rw[lσ]at hkv1;cases hc:es.toList[j]? with
      |none=>simp[hc]at hkv1
      |some en=>simp[hc]at hkv1;exact⟨en,rfl,hkv1⟩
     have hes:es[j]?=some en:=by simpa using hen1
     simp only[Rt,Nat.sub_zero,hen1,Option.map_some]at hf;have hkeq:j5 (und P kty) k1 k1=some true:=by
      have:∀{ks:LD} {n i:Nat},cS (und P kty) k1 ks n=some (some i)->j5 (und P kty) k1 k1=some true:=by
       intro ks;induction ks with
       |nil=>intro n i h;simp[cS]at h
       |cons y r ih=>
        intro n i h;simp only[cS]at h;split at h
        ·rename_i he;have:=rH he;subst this;exact he
        ·exact ih h
        ·simp at h
      exact this hj
     have hstay:=Hj (P:=P) h2' (hen2▸hkv2) hkeq;refine gu (es.modify j fun e=>{e with key:=a.eval k,val:=a.eval x}) cl ks (ws.set j xd) ?_ ?_ ?_
     ·rw[Array.toList_modify,gP,hen1];have:(es.toList.map (·.key)).modify j (fun _=>a.eval k)=(es.toList.map (·.key)).set j (a.eval k):=by
       have:(es.toList.map (·.key))[j]?=some en.key:=by rw[lσ,hen1];rfl
       exact jA this
      simp only at this ⊢
      rw[this];have:=g2.set j h2';rwa [ej hkj]at this
     ·rw[Array.toList_modify,gP,hen1];have:(es.toList.map (·.val)).modify j (fun _=>a.eval x)=(es.toList.map (·.val)).set j (a.eval x):=by
       have:(es.toList.map (·.val))[j]?=some en.val:=by rw[lσ,hen1];rfl
       exact jA this
      simp only at this ⊢
      rw[this];exact g3.set j hv
     ·simp only[Instr.mapUpdate,Sem.run_bind,run_underlying hu,Result.andThen_ok,hmv,dq g1,hck,hf,hes,Option.map_some,Option.getD_some,hstay];exact mR g1 (by simp)
    ·rename_i hj;simp only[lβ,lτ]at h;obtain⟨rfl,rfl,rfl⟩:=h;simp only[grow,iB,aw,bc,hhp1,hS1];have hhp1':aw hp (dU ((ids.filter fun i=>!Nat.beq i id).zip ((ids.filter fun i=>!Nat.beq i id).map (aS hp))))=hp1:=hhp1;rw[hhp1'];have hf:=eJ huk h2' g2 hj;simp only[Rt]at hf;refine gu (es.push {key:=a.eval k,val:=a.eval x,born:=cl}) (cl+1) (ks++[k1]) (ws++[xd]) ?_ ?_ ?_
     ·simp only[Array.toList_push,List.map_append,List.map_cons,List.map_nil];exact g2.append (Pw.cons h2' Pw.nil)
     ·simp only[Array.toList_push,List.map_append,List.map_cons,List.map_nil];exact g3.append (Pw.cons hv Pw.nil)
     ·simp only[Instr.mapUpdate,Sem.run_bind,run_underlying hu,Result.andThen_ok,hmv,dq g1,hck,hf];exact mR g1 (by simp)
    ·simp at h
   ·have hob:=bC hl (by simp);refine HQ cx ho hs hk h1 (by simpa only[VR]using h2) h3 hob (fun r hrr=>⟨rfl,?_⟩) h;obtain⟨es,cl,g1,g2,g3⟩:=cx.hr.obj id _ _ hrr hob;exact⟨es,cl,g1,g2,Pw.map_left (g3.mono fun _ _ hh=>by simpa only[VR]using hh)⟩
  ·rename_i ks ws hl;have hob:=bC hl (by simp);refine HQ cx ho hs hk h1 (by simpa only[VR]using h2) h3 hob (fun r hrr=>⟨rfl,?_⟩) h;exact cx.hr.obj id _ _ hrr hob
  ·simp at h
 ·simp at h
end
end
section
variable [Letters]
def cj (us:List Value):List Value:=us.flatMap fun u=>u.cells.toList
def fK (u:Value)(us:List Value):cj (u::us)=u.cells.toList++cj us:=rfl
def nL (us vs:List Value):cj (us++vs)=cj us++cj vs:=by simp[cj]
def eB {z:Nat}:∀{us:List Value},(∀u∈us,u.cells.size=z)->(cj us).length=us.length*z
 |[],_=>by simp[cj]
 |u::r,h=>by
  rw[fK,lε,eB fun x hx=>h x (by simp[hx])];grind
def nM {z:Nat}:∀{us:List Value} {i:Nat} {u:Value},(∀u∈us,u.cells.size=z)->us[i]?=some u->∀j c,u.cells[j]?=some c->(cj us)[i*z+j]?=some c
 |[],i,u,_,h,_,_,_=>by simp at h
 |x::r,0,u,hz,h,j,c,hc=>by
  simp at h;rw[fK,Nat.zero_mul,Nat.zero_add,lι (by
   grind)]
  simp_all
 |x::r,i+1,u,hz,h,j,c,hc=>by
  rw[fK,lπ (by grind)];rw[show(i+1)*z+j - x.cells.toList.length=i*z+j by grind];exact nM (fun y hy=>hz y (by simp[hy])) (by simp_all) j c hc
def Hb {z:Nat}:∀{us:List Value} {i:Nat} {v:Value},(∀u∈us,u.cells.size=z)->v.cells.size=z->i<us.length->splice (cj us) (i*z) v.cells.toList=cj (us.set i v)
 |[],i,v,_,_,h=>by simp at h
 |x::r,0,v,hz,hv,_=>by
  simp only[splice,List.set_cons_zero,fK,hv];simp_all
 |x::r,i+1,v,hz,hv,h=>by
  have ih:=Hb (us:=r) (i:=i) (fun y hy=>hz y (by simp[hy])) hv (by simp_all);rw[List.set_cons_succ,fK,fK,<-ih];simp only[splice];have h1:(i+1)*z=x.cells.toList.length+i*z:=by grind
  rw[h1,List.take_length_add_append,show x.cells.toList.length+i*z+v.cells.toList.length=x.cells.toList.length+(i*z+v.cells.toList.length) by omega,List.drop_length_add_append];simp
variable {z:Nat}
def gI {n:Nat}{v:Value}(hv:v.cells.size=z)(hz:0<z):((Array.range (n*z)).map (v.cells[· % v.cells.size]!)).toList=cj (List.replicate n v):=by
 have hall:∀u∈List.replicate n v,u.cells.size=z:=fun u hu=>by simp_all
 apply List.ext_getElem?;intro k;by_cases hk:k<n*z
 ·have hq:k / z<n:=Nat.div_lt_of_lt_mul (by grind);have hm:k % z<v.cells.size:=by rw[hv];exact Nat.mod_lt _ hz
  have h1:=nM (us:=List.replicate n v) (i:=k / z) (u:=v) hall (by simp_all) (k % z) v.cells[k % z] (by simp);rw[show k / z*z+k % z=k by rw[Nat.mul_comm];exact Nat.div_add_mod k z]at h1;grind
 ·rw[lυ (by grind),lυ (by rw[eB hall];grind)]
def od {w:World}{b:Nat}{vs:Array Value}{t:TypeId}{fz:Nat×Nat}{us:List Value}{rest:List Value}(hh:w.heap[b]?=some (.cells vs t fz))(hv:vs.toList=cj us++rest)(hz:∀u∈us,u.cells.size=z):rowAt w b 0 z us:=by
 intro i u hu;refine⟨hz u (mθ hu),fun j c hc=>?_⟩
 have h1:=nM hz hu j c hc;simp only[World.cell?,Nat.zero_add];have h2:vs.toList[i*z+j]?=some c:=by
  grind
 grind
section
variable {P:Program} {G:bP} {o:Oper} {a:Act} {φ:List cQ} {w:World} {S:Nat->Prop} {hp:List Ob} {tm:Tm} {base:Nat} {d:D} {ups:List (Nat×Ob)} {new:List Ob}
def į (hlow:∀b,S b->b<w.heap.size):HR [] w S []:=
 ⟨rfl,by simp,by rintro b ⟨id,l,o,h,_⟩;simp at h,by simp,hlow⟩
def lO {t:TypeId}{z:Da}(h:iC P t=some z):∃v y,(∀w,(zeroValue t).run P w= .ok v w)/\gX P t y/\v.cells.size=y.size/\∀w S,(∀b,S b->b<w.heap.size)->PR w S z v:=by
 unfold iC at h;split at h
 ·rename_i d hd;obtain⟨v,y,_,h2,h3,h4⟩:=zt (w:=default) hd;refine⟨v,y,?_,h2,h3,fun w S hlow=>?_⟩
  ·intro w;have e:(zeroValue t).run P (default:World)= .ok v default:=by omega
   have hinf:∃i z,P.info? t=some i/\i.zero=some z:=by
    unfold vu at hd;split at hd
    ·rename_i ds y hc hy;obtain⟨i,z,y',hi,hz,_⟩:=lN hc;simp_all
    ·grind
   obtain⟨i,zz,hi,hz⟩:=hinf;simp[zeroValue,typeInfo,hi,hz]at e ⊢
   exact e
  ·exact mQ (S':=S) (į hlow) (fun _ h=>h) (ids:=[]) (by simp) d (by simp_all) (h4 [] w S)
 ·simp at h
def tF {z:Nat}:∀{is:LN} {xs es rs:LD} {vs us:List Value} {cv:Array Value},Pw (PR w S) xs vs->(∀v∈vs,v.cells.size=z)->Pw (PR w S) es us->(∀u∈us,u.cells.size=z)->cv.toList=cj us->uB es is xs=some rs->
  ∃us' rv,Instr.fill (fun i=>some (i*z,z)) cv (is.zip vs)=some rv/\rv.toList=cj us'/\Pw (PR w S) rs us'/\∀u∈us',u.cells.size=z
 |[],xs,es,rs,vs,us,cv,hx,hzv,he,hz,hc,h=>by
  cases xs with
  |nil=>
   obtain rfl:=hx.nil_inv;simp only[uB,lβ]at h;subst h;exact⟨us,cv,rfl,hc,he,hz⟩
  |cons x r=>simp[uB]at h
 |i::is,xs,es,rs,vs,us,cv,hx,hzv,he,hz,hc,h=>by
  cases xs with
  |nil=>simp[uB]at h
  |cons x r=>
   obtain⟨v,vs',rfl,hv1,hv2⟩:=hx.cons_inv;simp only[uB]at h;rw[blt_eq]at h;by_cases hi:i<es.length
   ·simp only[hi,decide_true,cond_true]at h;have hvz:=hzv v (by simp);have hiu:i<us.length:=he.1▸hi;have hcs:cv.size=us.length*z:=by have:=eB hz;rw[<-hc]at this;simpa using this
    have hle:(i+1)*z<=us.length*z:=lψ z hiu;have hle2:(i+1)*z=i*z+z:=by rw[mκ];simp
    obtain⟨us',rv,q1,q2,q3,q4⟩:=tF (cv:=bG cv (i*z) v.cells) (us:=us.set i v) hv2 (fun y hy=>hzv y (by simp[hy])) (he.set i hv1)
     (fun u hu=>by rcases List.mem_or_eq_of_mem_set hu with h|h<;>first|exact hz u h|rw[h,hvz]) (by rw[bz (by omega),hc,Hb hz hvz hiu]) h
    refine⟨us',rv,?_,q2,q3,q4⟩;simp only[List.zip_cons_cons,Instr.fill];rw[if_neg (by simp;omega)];exact q1
   ·simp[hi]at h
def HR.newS (hr:HR φ w S hp)(x:Obj):HR φ (w.alloc x) (fun b=>S b\/b=w.heap.size) hp/\Fr (bm φ hp) S w (bm φ hp) (fun b=>S b\/b=w.heap.size) (w.alloc x):=by
 refine hr.gen (fun _=>False) hr.len (fun _ _=>⟨rfl,rfl⟩) (Ext.refl φ) (fun b hb _=>jF w x hb) (by simp) rfl rfl rfl (fun _ h=> .inl h) ?_ ?_ (by intro _ _ _ h;exact h.elim) (by intro _ _ _ _ h;exact h.elim) (by intro _ _ _ _ _ _ _ h;exact h.elim)
 ·rintro b (h|h)
  ·exact .inl h
  ·exact .inr (.inr (by omega))
 ·rintro b (h|h)
  ·have:=hr.low b h;simp;omega
  ·simp;omega
def tG {place:Nat->Option (Nat×Nat)}:∀{ps:List (Nat×Value)} {cv rv:Array Value},Instr.fill place cv ps=some rv->rv.size=cv.size
 |[],cv,rv,h=>by simp only[Instr.fill,lβ]at h;rw[h]
 |(i,v)::r,cv,rv,h=>by
  simp only[Instr.fill]at h;cases hp:place i with
  |none=>simp_all
  |some p=>
   obtain⟨off,n⟩:=p;simp only[hp]at h;by_cases hk:(v.cells.size≠n||off+v.cells.size>cv.size)=true
   ·grind
   ·rw[if_neg (by omega)]at h;rw[tG h];simp at hk;have h2:=congrArg List.length (bz hk.2);rw[cH (by grind)]at h2;simpa[bG]using h2
def yP {xs:LD}{vs:List Value}(h:Pw (PR w S) xs vs)(ha:xs.all (fun e=>Nat.beq (cells e).length z)=true):∀v∈vs,v.cells.size=z:=by
 refine h.all_right fun i x v hx hv=>?_
 have h1:=mζ.1 ha x (mθ hx);have h2:=(fx hv).1.1;simp_all
def Ns (cx:Cx G a φ w S hp tm){t e:TypeId}{n:Nat}{parts:Array (Nat×Operand)}{ts:List TypeId}{z:Da}{y:Ty}{as:List A}(ho:o.op= .buildSlice t n parts)(hs:und P t= .slice e)(hz:iC P e=some z)(hy:ty P e=some y)
  (ha:nb P G ts (parts.toList.map (·.2))=some as) (hn:n*y.size<=16777216)
  (h:PG y.size z n (parts.toList.map (·.1)) (as.map (ev tm)) (bB (.bsl y.size z n (parts.toList.map (·.1))) (as.map (ev tm)) hp) ((bB (.bsl y.size z n (parts.toList.map (·.1))) (as.map (ev tm)) hp).map (aS hp))=some (d,ups,new)):
  EffOk P o a φ w S hp base d (grow (aw hp ups) new):=by
 have h1:=cY cx.tmr cx.gr ha;have hu:=aI hs (by simp);have hty:=ek hy;obtain⟨zv,y',hzv,hty',hzs,hzr⟩:=lO hz;have hyy:y'.size=y.size:=by rw[<-hty.cellsOf,<-hty'.cellsOf]
 rw[hyy]at hzs;generalize bB (.bsl y.size z n (parts.toList.map (·.1))) (as.map (ev tm)) hp=ids at h;unfold PG at h;split at h
 ·rename_i xs hxs;cases hc:xs.all (fun e=>Nat.beq (cells e).length y.size)with
  |false=>simp_all
  |true=>
   simp only[hc,cond_true]at h;split at h
   ·rename_i es hes;obtain⟨rfl,rfl,rfl⟩:=h;obtain⟨hr1,hf1⟩:=cx.hr.freeze ids;have hv:=wA cx.hr (S':=FX φ S hp ids) (fun _ h=> .inl h) ni (as.map (ev tm)) hxs h1;generalize FX φ S hp ids=S1 at*
    refine EffOk.after hr1 hf1 (w1:=w) ?_;have hpos:=hty.pos;have hrep:=(Pw.replicate (hzr w S1 hr1.low) n);have hall:∀u∈List.replicate n zv,u.cells.size=y.size:=fun u hu=>by simp_all
    obtain⟨us',rv,e1,e2,e3,e4⟩:=tF (cv:=(Array.range (n*y.size)).map (zv.cells[· % zv.cells.size]!)) hv (yP hv hc) hrep hall (gI hzs hpos) hes;obtain⟨hr2,hf2⟩:=hr1.newS (.cells rv e);have hus:us'.length=n:=by
     have hl1:=eB e4;have hl2:rv.size=n*y.size:=by
      have:=tG e1;simp_all
     rw[<-e2]at hl1;simp only[Array.length_toList,hl2]at hl1;exact(Nat.eq_of_mul_eq_mul_right hpos hl1).symm
    have hst:eO S1 w (w.alloc (.cells rv e)):=hf2.stable hr1;refine⟨.slice (some ⟨w.heap.size,0,none⟩) n n,_,φ,_,.inl ?_,?_,by simpa[grow]using hr2,Ext.refl φ,by simpa[grow]using hf2,fun _ _=>rfl⟩
    ·have hpe:(parts.map fun(x:Nat×Operand)=>(x.1,a.eval x.2)).toList=(parts.toList.map (·.1)).zip ((parts.toList.map (·.2)).map a.eval):=by
      rw[Array.toList_map,List.map_map];grind
     have hlim:¬(n*y.size>2 ^ 24):=by omega
     by_cases h0:n*y.size=0
     ·have hz2:(Array.range (n*y.size)).map ((#[]:Array Value)[· % (#[]:Array Value).size]!)=(Array.range (n*y.size)).map (zv.cells[· % zv.cells.size]!):=by simp[h0]
      simp only[execOp,ho,Instr.buildSlice,Sem.run_bind,run_underlying hu,Result.andThen_ok,hty.sizeOf,if_neg hlim,Sem.run_pure,if_pos h0,hz2,hpe,e1,Sem.run];rfl
     ·simp only[execOp,ho,Instr.buildSlice,Sem.run_bind,run_underlying hu,Result.andThen_ok,hty.sizeOf,if_neg hlim,Sem.run_pure,if_neg h0,hzv,hpe,e1,Sem.run];rfl
    ·refine⟨_,_,us',by rw[hus],by omega,by simp[gt,hus],PRs_iff.2 (e3.mono fun _ _ hh=>bl hst (fun _ h=> .inl h) _ hh),fun _=>⟨w.heap.size,0,rfl,.inr rfl,od (rest:=[]) (fb w _) (by simp_all) e4⟩⟩
   ·simp at h
 ·simp at h
end
end
section
variable [Letters]
def tP {w:World}{b z:Nat}:∀{us:List Value} {o:Nat},rowAt w b o z us->∀j c,(cj us)[j]?=some c->w.cell? ⟨b,o+j,none⟩=some c
 |[],o,_,j,c,h=>by simp[cj]at h
 |u::r,o,hr,j,c,h=>by
  have h0:=hr 0 u rfl;rw[fK]at h;by_cases hj:j<u.cells.size
  ·rw[lι (by simpa using hj)]at h;have:=h0.2 j c (by simpa using h);simpa using this
  ·rw[lπ (by simpa using Nat.le_of_not_lt hj)]at h;have hrest:rowAt w b (o+z) z r:=fun i v hv=>by
    have:=hr (i+1) v (by simpa using hv);rw[show o+z+i*z=o+(i+1)*z by rw[mκ];omega];exact this
   have:=tP hrest (j - u.cells.size) c (by simpa using h);rw[show o+z+(j - u.cells.size)=o+j by rw[<-h0.1]at*;omega]at this;exact this
def oc {w:World}{b o z:Nat}{us:List Value}(h:rowAt w b o z us):∀u∈us,u.cells.size=z:=by
 intro u hu;obtain⟨i,hi⟩:=List.getElem?_of_mem hu;exact(h i u hi).1
section
variable {P:Program} {G:bP} {o:Oper} {a:Act} {φ:List cQ} {w:World} {S:Nat->Prop} {hp:List Ob} {tm:Tm} {base:Nat} {d:D} {ups:List (Nat×Ob)} {new:List Ob}
def HR.newS2 (hr:HR φ w S hp){w':World}(hold:∀b,b<w.heap.size->w'.heap[b]?=w.heap[b]?)(hsz:w.heap.size<w'.heap.size)(hos:w'.os=w.os)(ht:w'.tape=w.tape)(hout:w'.output=w.output):
  HR φ w' (fun b=>S b\/b=w.heap.size) hp/\Fr (bm φ hp) S w (bm φ hp) (fun b=>S b\/b=w.heap.size) w':=by
 refine hr.gen (fun _=>False) hr.len (fun _ _=>⟨rfl,rfl⟩) (Ext.refl φ) (fun b hb _=>hold b hb) (by omega) hos ht hout (fun _ h=> .inl h) ?_ ?_ (by simp) (by simp) (by simp)
 ·grind
 ·rintro b (h|h)
  ·have:=hr.low b h;omega
  ·omega
variable {z:Da}
def Jl {t:TypeId}(h:iC P t=some z):∃i v y,P.info? t=some i/\i.zero=some v/\gX P t y/\i.size=y.size/\i.bytes=y.bytes/\v.cells.size=y.size/\∀w S,(∀b,S b->b<w.heap.size)->PR w S z v:=by
 obtain⟨v,y,h1,h2,h3,h4⟩:=lO h;obtain⟨i,hi,hs,hb⟩:=h2.info;have h5:=h1 default;simp only[zeroValue,typeInfo,Sem.run_bind,run_program,Result.andThen_ok,hi,Sem.run_pure]at h5;cases hz:i.zero with
 |none=>simp_all
 |some u=>
  simp[hz]at h5;grind
variable {y:Ty}
def UY (cx:Cx G a φ w S hp tm){t e tl tc:TypeId}{l c:Operand}{al ac:A}{k:Nat}(ho:o.op= .makeSlice t l c)(hs:und P t= .slice e)(hz:iC P e=some z)(hy:ty P e=some y)(hl:cA P G tl l=some al)(hc:cA P G tc c=some ac)(hb:hp[base+k]?=some .unborn)(h:Gw y.size z y.bytes base k [ev tm al,ev tm ac]=some (d,ups,new)):EffOk P o a φ w S hp base d (grow (aw hp ups) new):=by
 have h1:=aZ cx.tmr cx.gr hl;have h2:=aZ cx.tmr cx.gr hc;have hu:=aI hs (by simp);have hty:=ek hy;obtain⟨i,zv,y',hi,hiz,hty',hsz,hbt,hzs,hzr⟩:=Jl hz;have hyy:y'.size=y.size:=by rw[<-hty.cellsOf,<-hty'.cellsOf]
 obtain⟨i2,hi2,_,hbt2⟩:=hty.info;rw[hi]at hi2;simp at hi2;generalize ev tm al=dl at*
 generalize ev tm ac=dc at*
 unfold Gw at h;split at h
 ·rename_i kl l1 kc c1 heq;obtain⟨rfl,rfl⟩:=heq;simp only[VR,PR]at h1 h2;cases hq:(aV 0 l1&&aV l1 c1&&Nat.ble (c1.toNat*y.bytes) 281474976710656&&aV c1 9223372036854775807)with
  |false=>grind
  |true=>
   simp only[hq,lτ]at h;obtain⟨rfl,rfl,rfl⟩:=h;simp only[lγ,dY,ble_eq,lδ]at hq;obtain⟨⟨⟨q1,q2⟩,q3⟩,q4⟩:=hq;have hbb:(i.bytes:Int)*c1<=281474976710656:=by
    grind
   have hrun:=run_make (P:=P) w t e i zv hu hi hiz kl kc l1 c1 q1 q2 hbb q4;have hpos:=hty.pos;rw[hyy]at hzs hsz;have hcells:madeCells zv.cells (c1.toNat*i.size)=(Array.range (c1.toNat*y.size)).map (zv.cells[· % zv.cells.size]!):=by rw[hsz];rfl
   have hall:∀n,∀u∈List.replicate n zv,u.cells.size=y.size:=fun n u hu=>by simp_all
   have hfl:(madeCells zv.cells (c1.toNat*i.size)).toList=cj (List.replicate l1.toNat zv)++cj (List.replicate (c1.toNat - l1.toNat) zv):=by
    rw[hcells,gI hzs hpos,<-nL,List.replicate_append_replicate,show l1.toNat+(c1.toNat - l1.toNat)=c1.toNat by omega]
   obtain⟨g1,g2,g3⟩:=cx.hr.born hb (.cells (madeCells zv.cells (c1.toNat*i.size)) e) (l:= .arr w.heap.size 0 c1.toNat y.size l1.toNat) (ob:= .arr (List.replicate l1.toNat z)) (fun b hb'=>by simp[bM]at hb';omega) (by
    refine⟨by simp,by omega,fun _=>⟨_,e,(0,0),fb w _,fun _ _ hh=>by omega,?_⟩,List.replicate l1.toNat zv,Pw.replicate (hzr _ S fun b hb'=>by have:=cx.hr.low b hb';simp;omega) _,od (fb w _) hfl (hall _)⟩
    simp_all)
   refine⟨.slice (some ⟨w.heap.size,0,none⟩) l1.toNat c1.toNat,_,_,S,.inl ?_,?_,by simpa[grow,aw,bc]using g1,g3,by simpa[grow,aw,bc]using g2,gM⟩
   ·simp only[execOp,ho,h1,h2,Sem.run_bind,hrun,Result.andThen_ok,Sem.run_pure]
   ·exact⟨_,_,_,_,some ⟨w.heap.size,0,none⟩,gR cx.hr hb,by omega,by omega,by simp,fun _=>by simp⟩
 ·simp at h
def Rk (hp:List Ob)(ids:LN)(j:Nat):(aw hp (dU (ids.zip (ids.map (aS hp)))))[j]?=hp[j]?.map fun o=>if j∈ids then mG o else o:=by
 have e:dU (ids.zip (ids.map (aS hp)))=ids.map fun i=>(i,mG (aS hp i)):=by
  induction ids with
  |nil=>rfl
  |cons x r ih=>
   simp only[dU,List.map_cons,List.zip_cons_cons]at ih ⊢
   rw[ih]
 rw[e,fE ids j (g:=fun i=>mG (aS hp i))];by_cases h:j∈ids
 ·by_cases hl:j<hp.length
  ·simp[h,aS,hl]
  all_goals simp_all
 all_goals simp_all
variable {parts:Array (Nat×Operand)} {ts:List TypeId}
def UT (cx:Cx G a φ w S hp tm){t e:TypeId}{n:Nat}{as:List A}(ho:o.op= .buildSlice t n parts)(hs:und P t= .slice e)(hz:iC P e=some z)(hy:ty P e=some y)(ha:nb P G ts (parts.toList.map (·.2))=some as)(hn:n*y.size<=16777216){k:Nat}(hb:hp[base+k]?=some .unborn)(h:TQ y.size z n (parts.toList.map (·.1)) base k (as.map (ev tm)) (bB (.bslm y.size z n (parts.toList.map (·.1))) (as.map (ev tm)) hp) ((bB (.bslm y.size z n (parts.toList.map (·.1))) (as.map (ev tm)) hp).map (aS hp))=some (d,ups,new)):
  EffOk P o a φ w S hp base d (grow (aw hp ups) new):=by
 have h1:=cY cx.tmr cx.gr ha;have hu:=aI hs (by simp);have hty:=ek hy;obtain⟨zv,y',hzv,hty',hzs,hzr⟩:=lO hz;have hyy:y'.size=y.size:=by rw[<-hty.cellsOf,<-hty'.cellsOf]
 rw[hyy]at hzs;generalize bB (.bslm y.size z n (parts.toList.map (·.1))) (as.map (ev tm)) hp=ids at h;unfold TQ at h;split at h
 ·rename_i xs hxs;cases hc:xs.all (fun e=>Nat.beq (cells e).length y.size)with
  |false=>simp_all
  |true=>
   simp only[hc,cond_true]at h;split at h
   ·rename_i es hes;obtain⟨rfl,rfl,rfl⟩:=h;obtain⟨hr1,hf1⟩:=cx.hr.freeze ids;have hv:=wA cx.hr (S':=FX φ S hp ids) (fun _ h=> .inl h) ni (as.map (ev tm)) hxs h1;generalize FX φ S hp ids=S1 at*
    generalize hhp1:aw hp (dU (ids.zip (ids.map (aS hp))))=hp1 at*
    have hb1:hp1[base+k]?=some .unborn:=by
     rw[<-hhp1,Rk,hb,Option.map_some];split<;>rfl
    rw[iB,hhp1];refine EffOk.after hr1 hf1 (w1:=w) ?_;have hpos:=hty.pos;have hrep:=(Pw.replicate (hzr w S1 hr1.low) n);have hall:∀u∈List.replicate n zv,u.cells.size=y.size:=fun u hu=>by simp_all
    obtain⟨us',rv,e1,e2,e3,e4⟩:=tF (cv:=(Array.range (n*y.size)).map (zv.cells[· % zv.cells.size]!)) hv (yP hv hc) hrep hall (gI hzs hpos) hes;have hrs:rv.size=n*y.size:=by
     have:=tG e1;simp_all
    have hus:us'.length=n:=by
     have hl1:=eB e4;rw[<-e2]at hl1;simp only[Array.length_toList,hrs]at hl1;exact(Nat.eq_of_mul_eq_mul_right hpos hl1).symm
    have hel:es.length=n:=by rw[e3.1,hus]
    obtain⟨g1,g2,g3⟩:=hr1.born hb1 (.cells rv e) (l:= .arr w.heap.size 0 n y.size n) (ob:= .arr es) (fun b hb'=>by simp[bM]at hb';omega) (by
     refine⟨hel,by omega,fun _=>⟨_,e,(0,0),fb w _,fun _ _ hh=>by omega,?_⟩,us',e3.mono fun _ _ hh=>bl (fun b hb'=>jF w _ (hr1.low b hb')) (fun _ h=>h) _ hh,od (rest:=[]) (fb w _) (by simp_all) e4⟩
     omega)
    refine⟨.slice (some ⟨w.heap.size,0,none⟩) n n,_,_,S1,.inl ?_,?_,by simpa[grow,aw,bc]using g1,g3,by simpa[grow,aw,bc]using g2,gM⟩
    ·have hpe:(parts.map fun(x:Nat×Operand)=>(x.1,a.eval x.2)).toList=(parts.toList.map (·.1)).zip ((parts.toList.map (·.2)).map a.eval):=by
      rw[Array.toList_map,List.map_map];grind
     have hlim:¬(n*y.size>2 ^ 24):=by omega
     by_cases h0:n*y.size=0
     ·have hz2:(Array.range (n*y.size)).map ((#[]:Array Value)[· % (#[]:Array Value).size]!)=(Array.range (n*y.size)).map (zv.cells[· % zv.cells.size]!):=by simp[h0]
      simp only[execOp,ho,Instr.buildSlice,Sem.run_bind,run_underlying hu,Result.andThen_ok,hty.sizeOf,if_neg hlim,Sem.run_pure,if_pos h0,hz2,hpe,e1,Sem.run];rfl
     ·simp only[execOp,ho,Instr.buildSlice,Sem.run_bind,run_underlying hu,Result.andThen_ok,hty.sizeOf,if_neg hlim,Sem.run_pure,if_neg h0,hzv,hpe,e1,Sem.run];rfl
    ·exact⟨_,_,_,_,some ⟨w.heap.size,0,none⟩,gR hr1 hb1,by omega,by omega,by simp,fun _=>by simp⟩
   ·simp at h
 ·simp at h
def US (cx:Cx G a φ w S hp tm){t e:TypeId}{n:Nat}{as:List A}(ho:o.op= .buildSlice t n parts)(hs:und P t= .slice e)(hz:iC P e=some z)(hy:ty P e=some y)(ha:nb P G ts (parts.toList.map (·.2))=some as)(hn:n*y.size<=16777216)(h:TP y.size z n (parts.toList.map (·.1)) (as.map (ev tm)) (bB (.bsle y.size z n (parts.toList.map (·.1))) (as.map (ev tm)) hp) ((bB (.bsle y.size z n (parts.toList.map (·.1))) (as.map (ev tm)) hp).map (aS hp))=some (d,ups,new)):
  EffOk P o a φ w S hp base d (grow (aw hp ups) new):=by
 unfold TP at h;split at h
 ·rename_i z' es ups' new' h0;simp only[lβ,lτ]at h;obtain⟨rfl,rfl,rfl⟩:=h;obtain⟨v,w',φ',S',h1,h2,h3,h4,h5,h6⟩:=Ns cx ho hs hz hy ha hn h0;refine⟨v,w',φ',S',h1,?_,h3,h4,h5,h6⟩;simp only[VR,PR]at h2 ⊢
  obtain⟨ad,cap,us,rfl,g1,g2,g3,g4⟩:=h2;simp only[gt]at g2;subst g2;exact⟨⟨ad,us.length,us,rfl,g1,g3,g4⟩,ad,us.length,rfl⟩
 ·cases h
def vM (w:World)(S:Nat->Prop)(esz:Nat)(ys:LD)(v:Value):Prop:=
 (∃b:ByteArray,v= .string b/\esz=1/\ys=b.data.toList.map fun c=> .int .u8 (Int.ofNat c.toNat))\/
 (∃ad cap us,v= .slice ad us.length cap/\us.length<=cap/\Pw (PR w S) ys us/\(us≠[]->∃b o,ad=some ⟨b,o,none⟩/\b<w.heap.size/\rowAt w b o esz us))
variable {ids:LN}
def nI (hr:HR φ w S hp){esz:Nat}{dx:D}{v:Value}{ys:LD}(hv:VR φ w S dx v)(h:elems esz (ids.zip (ids.map (aS hp))) dx=some ys):vM w S esz ys v:=by
 unfold elems at h;split at h
 ·rename_i z es;unfold mV at h;cases hz:wF z esz es with
  |false=>simp_all
  |true=>
   simp[hz]at h;subst h;obtain⟨ad,cap,us,rfl,h1,h2,h3⟩:=hv;refine .inr ⟨ad,cap,us,rfl,h1,PRs_iff.1 h2,fun hne=>?_⟩
   obtain⟨b,o',rfl,hb,hrow⟩:=h3 hne;have:z=esz:=oV hz fun e=>hne (lθ (by rw[<-(PRs_iff.1 h2).1,e];rfl))
   exact⟨b,o',rfl,hr.low b hb,this▸hrow⟩
 ·rename_i z es;unfold mV at h;cases hz:wF z esz es with
  |false=>simp_all
  |true=>
   simp[hz]at h;subst h;obtain⟨⟨ad,cap,us,rfl,h1,h2,h3⟩,_⟩:=hv;refine .inr ⟨ad,cap,us,rfl,h1,PRs_iff.1 h2,fun hne=>?_⟩
   obtain⟨b,o',rfl,hb,hrow⟩:=h3 hne;have:z=esz:=oV hz fun e=>hne (lθ (by rw[<-(PRs_iff.1 h2).1,e];rfl))
   exact⟨b,o',rfl,hr.low b hb,this▸hrow⟩
 ·rename_i g z es;unfold mV at h;cases hz:wF z esz es with
  |false=>simp_all
  |true=>
   simp[hz]at h;subst h;obtain⟨ad,cap,us,rfl,h1,_,h2,h3⟩:=hv;refine .inr ⟨ad,cap,us,rfl,h1,PRs_iff.1 h2,fun hne=>?_⟩
   obtain⟨b,o',rfl,hb,hrow⟩:=h3 hne;have:z=esz:=oV hz fun e=>hne (lθ (by rw[<-(PRs_iff.1 h2).1,e];rfl))
   exact⟨b,o',rfl,hr.low b hb,this▸hrow⟩
 ·rw[beq_eq]at h;by_cases he:esz=1
  ·simp[he]at h;subst h;obtain⟨b,rfl,rfl⟩:=hv;exact .inl ⟨b,rfl,he,by simp⟩
  ·simp_all
 ·rename_i id lo len z;obtain⟨b,o',cap,n,ad,hb,hl,hn,rfl,ha⟩:=hv;have key:∀es,(hp[id]?=some (.arr es)\/hp[id]?=some (.fz es))->z=esz->ys=(es.drop lo).take len->vM w S esz ys (.slice ad len (cap - lo)):=by
   intro es ho hz hys;have hrow:∃us,es.length=n/\Pw (PR w S) es us/\rowAt w b o' z us/\(0<cap->b<w.heap.size):=by
    rcases ho with ho|ho
    ·obtain⟨h0,h1,h2,us,h3,h4⟩:=hr.obj id _ _ hb ho;grind
    ·obtain⟨h0,h1,h2,us,h3,h4⟩:=hr.obj id _ _ hb ho;exact⟨us,h0,h3,h4,fun hc=>hr.low b (h2 hc)⟩
   obtain⟨us,h0,h3,h4,h5⟩:=hrow;have hlen:((us.drop lo).take len).length=len:=by have:=h3.1;grind
   refine .inr ⟨ad,cap - lo,(us.drop lo).take len,by rw[hlen],by omega,hys▸(h3.drop lo).take len,fun hne=>?_⟩
   have hpos:0<((us.drop lo).take len).length:=List.length_pos_iff.2 hne;exact⟨b,o'+lo*z,ha (by omega),h5 (by omega),hz▸kV h4 lo len⟩
  split at h
  ·rename_i es hl;rw[beq_eq]at h;by_cases hz:z=esz
   ·simp[hz]at h;exact key es (.inl (bC hl (by simp))) hz h.symm
   ·simp_all
  ·rename_i es hl;rw[beq_eq]at h;by_cases hz:z=esz
   ·simp[hz]at h;exact key es (.inr (bC hl (by simp))) hz h.symm
   ·simp_all
  ·simp at h
 ·simp at h
def xO {w:World}{S:Nat->Prop}:∀{ys:LD} {us:List Value} {s:LN},Pw (PR w S) ys us->fi ys=some s->∃ns:LI,us=ns.map (Value.int .u8)/\s=ns.map fun n=>n.toNat % 256
 |[],us,s,hp,h=>by
  simp only[fi,lβ]at h;subst h;exact⟨[],by simpa using hp.nil_inv,rfl⟩
 |y::r,us,s,hp,h=>by
  obtain⟨u,us',rfl,h1,h2⟩:=hp.cons_inv;unfold fi at h;split at h
  ·simp_all
  ·rename_i n r' heq;obtain⟨rfl,rfl⟩:=heq;split at h
   ·rename_i s' hs;simp at h;subst h;obtain⟨ns,rfl,rfl⟩:=xO h2 hs;subst h1;exact⟨n::ns,rfl,rfl⟩
   ·simp at h
  ·simp at h
def BY (ns:LI):∀r:ByteArray,(ns.foldl (fun r n=>r.push (UInt8.ofNat n.toNat)) r).data.toList=r.data.toList++ns.map fun n=>UInt8.ofNat n.toNat:=by
 induction ns with
 |nil=>intro r;simp
 |cons n l ih=>
  intro r;rw[List.foldl_cons,ih];simp[ByteArray.push]
def YZ (cx:Cx G a φ w S hp tm){s t e tx:TypeId}{x:Operand}{ax:A}(ho:o.op= .convert s t x)(hs:und P s= .slice e)(ht:und P t= .string)(he:und P e= .int .u8)(hx:cA P G tx x=some ax)(h:PF [ev tm ax] ids (ids.map (aS hp))=some (d,ups,new)):EffOk P o a φ w S hp base d (grow (aw hp ups) new):=by
 have h1:=aZ cx.tmr cx.gr hx;have hus:=aI hs (by simp);have hut:=aI ht (by simp);have hue:=aI he (by simp);unfold PF at h;split at h
 ·rename_i d0 heq;simp at heq;subst heq;split at h
  ·rename_i ys hys;split at h
   ·rename_i sn hsn;rcases nI cx.hr h1 hys with⟨b,hv,_,rfl⟩|⟨ad,cap,us,hv,hl,hp1,hr⟩
    ·refine aD cx h (v:= .string b) ?_ ?_
     ·simp[execOp,ho,convert,run_underlying hus,run_underlying hut,hv]
     ·refine⟨b,rfl,?_⟩;have:∀l:List UInt8,∀s,fi (l.map fun c=>Da.int .u8 (Int.ofNat c.toNat))=some s->l.map UInt8.toNat=s:=by
       intro l;induction l with
       |nil=>intro s h;simp[fi]at h;simp[h]
       |cons c r ih=>
        intro s h;simp only[List.map_cons,fi]at h;split at h;all_goals simp_all
      simp_all
    ·obtain⟨ns,rfl,rfl⟩:=xO hp1 hsn;cases ad with
     |none=>
      have hnil:ns=[]:=by
       simp_all
      subst hnil;refine aD cx h (v:= .string .empty) ?_ ?_
      ·simp[execOp,ho,convert,run_underlying hus,run_underlying hut,run_underlying hue,hv,Conv.bytesToString]
      ·simp only[VR,PR];simp
     |some ad=>
      have hload:(loadCells ad (ns.map (Value.int .u8)).length).run P w= .ok (ns.map (Value.int .u8)).toArray w:=by
       apply run_loadCells_list;intro j v hj;have hne:ns.map (Value.int .u8)≠[]:=by grind
       obtain⟨b,o',hh,_,hrow⟩:=hr hne;simp at hh;subst hh;have:=(hrow j v hj).2 0 v (by
        cases hn:ns[j]? with
        |none=>simp_all
        |some n=>simp[hn]at hj;subst hj;rfl)
       simpa[dt]using this
      refine aD cx h (v:= .string (ns.foldl (fun r n=>r.push (UInt8.ofNat n.toNat)) ByteArray.empty)) ?_ ?_
      ·have:=run_bytesToString (P:=P) w ad _ cap ns hload;simp only[execOp,ho,convert,Sem.run_bind,run_underlying hus,run_underlying hut,run_underlying hue,Result.andThen_ok,hv,this,Sem.run_pure]
      ·refine⟨_,rfl,?_⟩;rw[BY];simp
   ·simp at h
  ·simp at h
 all_goals simp_all
def yZ (q:Question)(hq:q.forced=false):(choose q).run P w= .ok (q.cut (w.tape w.drawn q)) w.drew:=by
 simp_all
def Zd (cx:Cx G a φ w S hp tm){s t e tx:TypeId}{x:Operand}{ax:A}(ho:o.op= .convert s t x)(hs:und P s= .string)(ht:und P t= .slice e)(he:und P e= .int .u8)(hx:cA P G tx x=some ax)
  (h:TU [ev tm ax]=some (d,ups,new)):EffOk P o a φ w S hp base d (grow (aw hp ups) new):=by
 have h1:=aZ cx.tmr cx.gr hx;have hus:=aI hs (by simp);have hut:=aI ht (by simp);have hue:=aI he (by simp);generalize ev tm ax=dx at*
 unfold TU at h;split at h
 ·rename_i sn heq;simp only[lω,and_true]at heq;subst heq;obtain⟨rfl,rfl,rfl⟩:=kX h;simp only[VR,PR]at h1;obtain⟨b,hv,rfl⟩:=h1;have hcap:b.size<=grownCap w b.size 0 e:=by
   exact grownCap_ge w b.size 0 e
  generalize hc:grownCap w b.size 0 e=cap at hcap;let us:List Value:=b.data.toList.map fun c=> .int .u8 (c.toNat:Int)
  let row:Array Value:=(b.data.map fun c=> .int .u8 (c.toNat:Int))++Array.replicate (cap - b.size) (.int .u8 0)
  let w':World:=(w.drew.alloc (.cells row e)).freeze ⟨w.heap.size,row.size,none⟩ 1
  have hrun:(Conv.stringToBytes e b).run P w= .ok (.slice (some ⟨w.heap.size,0,none⟩) b.size cap) w':=by
   have hq:(Question.appendCap b.size 0 e).cut (w.tape w.drawn (.appendCap b.size 0 e))=cap:=hc;have hsh:(w.drew.alloc (.cells row e)).shape? w.heap.size=some (e,row.size):=by
    have:=fb w.drew (.cells row e);simp only[World.shape?];rw[show w.heap.size=w.drew.heap.size from rfl,this]
   simp only[Conv.stringToBytes,Sem.run_bind,yZ (.appendCap b.size 0 e) rfl,hq,Result.andThen_ok,newRow,newObj,markStringish,shape,freeze,Sem.run,Sem.run_pure];show((Sem.run P (match (w.drew.alloc (.cells row e)).shape? w.heap.size with|some (_,n)=>Sem.freeze ⟨w.heap.size,n,none⟩ 1 (Sem.pure ())|_=>pure ()) (w.drew.alloc (.cells row e))).andThen fun _ w'=>Result.ok (Value.slice (some ⟨w.heap.size,0,none⟩) b.size cap) w')=_
   rw[hsh];rfl
  have hold:∀j,j<w.heap.size->w'.heap[j]?=w.heap[j]?:=by
   intro j hj;have h0:=jF w.drew (.cells row e) (b:=j) hj;simp only[w',World.freeze,Nat.one_ne_zero,if_false,Array.getElem?_modify];rw[if_neg (by omega)];exact h0
  have hnew:∃fz,w'.heap[w.heap.size]?=some (.cells row e fz):=by
   have h0:=fb w.drew (.cells row e);rw[show w.drew.heap.size=w.heap.size from rfl]at h0;refine⟨(row.size,row.size+1),?_⟩;simp only[w',World.freeze,Nat.one_ne_zero,if_false,Array.getElem?_modify,if_true,h0];rfl
  have hsz:w'.heap.size=w.heap.size+1:=by
   simp only[w',World.freeze,Nat.one_ne_zero,if_false,Array.size_modify];show(w.heap.push _).size=_;simp
  obtain⟨hr2,hf2⟩:=cx.hr.newS2 (w':=w') hold (by omega) rfl rfl rfl;have hone:∀u∈us,u.cells.size=1:=by
   intro u hu;simp only[us,List.mem_map]at hu;obtain⟨c,_,rfl⟩:=hu;rfl
  have hflat:∀l:List UInt8,cj (l.map fun c=>Value.int .u8 (c.toNat:Int))=l.map fun c=>Value.int .u8 (c.toNat:Int):=by
   intro l;induction l with
   |nil=>rfl
   |cons c r ih=>rw[List.map_cons,fK,ih];rfl
  obtain⟨fz,hnew⟩:=hnew;have hul:us.length=b.size:=by simp[us]
  refine⟨.slice (some ⟨w.heap.size,0,none⟩) us.length cap,w',φ,_,.inl ?_,?_,by simpa[grow,aw]using hr2,Ext.refl φ,by simpa[grow,aw]using hf2,fun _ _=>rfl⟩
  ·rw[hul];simp only[execOp,ho,convert,Sem.run_bind,run_underlying hus,run_underlying hut,run_underlying hue,Result.andThen_ok,hv,hrun,Sem.run_pure]
  ·simp only[VR,PR];refine⟨_,cap,us,rfl,by omega,PRs_iff.2 ?_,fun _=>⟨w.heap.size,0,rfl,.inr rfl,od (rest:=List.replicate (cap - b.size) (.int .u8 0)) hnew (by simp only[us,hflat];simp[row]) hone⟩⟩
   refine⟨by simp[us],fun i xx vv h1 h2=>?_⟩
   simp only[us,lσ,mρ]at h1 h2;obtain⟨c',⟨c,hc1,rfl⟩,rfl⟩:=h1;obtain⟨c2,hc2,rfl⟩:=h2;rw[hc1]at hc2;simp at hc2;subst hc2;simp[PR]
 ·simp at h
end
end
section
variable [Letters]
section
variable {P:Program} {G:bP} {o:Oper} {a:Act} {φ:List cQ} {w:World} {S:Nat->Prop} {hp:List Ob} {tm:Tm} {base:Nat} {d:D} {ups:List (Nat×Ob)} {new:List Ob}
def Zu {id:Nat}{es:LD}(h:hp[id]?=some (.arr es)):aw hp (dU ([id].zip ([id].map (aS hp))))=hp.set id (.fz es):=by
 simp[dU,aw,bc,wt h,mG]
def GV (cx:Cx G a φ w S hp tm){t te tx:TypeId}{ts:List TypeId}{x:Operand}{lo hi mx:Option Operand}{ax:A}{as:List A}{y:Ty}(ho:o.op= .slice t x lo hi mx)(hs:und P t= .slice te)(ht:ty P te=some y)(hx:cA P G tx x=some ax)
  (ha:nb P G ts (vD lo hi mx)=some as)
  (h:hD y.size lo.isSome hi.isSome mx.isSome (ev tm ax::as.map (ev tm)) (bB (.slSl y.size lo.isSome hi.isSome mx.isSome) (ev tm ax::as.map (ev tm)) hp) ((bB (.slSl y.size lo.isSome hi.isSome mx.isSome) (ev tm ax::as.map (ev tm)) hp).map (aS hp))=some (d,ups,new)):EffOk P o a φ w S hp base d (grow (aw hp ups) new):=by
 by_cases hm:mx=none\/∀id lo len z,ev tm ax≠ .arr id lo len z
 ·exact U1 cx ho hs ht hx ha hm h
 ·simp only[not_or,Classical.not_forall,ne_eq,Classical.not_not]at hm;obtain⟨hmx,id,lo0,len0,z,heq⟩:=hm;have hms:mx.isSome=true:=by cases mx<;>simp_all
  have h1:=aZ cx.tmr cx.gr hx;have h2:=cY cx.tmr cx.gr ha;have hu:=aI hs (by simp);have hty:=ek ht;have hex:∀v,(Instr.sliceAt t (a.eval x) (lo.map a.eval) (hi.map a.eval) (mx.map a.eval)).run P w= .ok v w->(execOp a.eval o).run P w= .ok (.value v) w:=by
   intro v e;simp[execOp,ho,e]
  rw[heq]at h h1;rw[hms]at h;simp only[bB,cond_true,dids]at h;simp only[VR]at h1;obtain⟨b,o',cap,nn,b0,hb,hl,hcn,hv,hb0⟩:=h1;simp only[hD]at h;rw[beq_eq]at h;by_cases hz:z=y.size
  ·simp only[hz,decide_true,cond_true]at h;cases hbd:cz lo.isSome hi.isSome true len0 (as.map (ev tm))with
   |none=>rw[hbd]at h;simp at h
   |some r=>
    obtain⟨l,h',m⟩:=r;rw[hbd]at h;simp only at h;rw[<-hms]at hbd;obtain⟨e1,e2,e3,e4⟩:=f6 (P:=P) (cap:=cap - lo0) h2 hbd (by omega) true;have e5:=jH hu hty (b0:=b0) e1;rw[<-hv,hms,if_pos rfl]at e5;cases hml:Nat.beq m l with
    |true=>
     simp only[hml,cond_true]at h;rw[beq_eq,lδ]at hml;have hhl:h' - l=0:=by omega
     refine aD cx h (hex _ e5) ?_;rw[hhl,hml,Nat.sub_self];simp only[VR];exact⟨_,0,[],rfl,Nat.le_refl _,rfl,by simp[qH],fun h=>absurd rfl h⟩
    |false=>
    simp only[hml,cond_false]at h;have part:∀(es:LD) (S':Nat->Prop),(∀b,S b->S' b)->(hp[id]?=some (.arr es)\/hp[id]?=some (.fz es))->(hp[id]?=some (.arr es)->0<cap->S' b)->
      ∃us1,(execOp a.eval o).run P w= .ok (.value (.slice (if m=l then b0 else b0.map (·.add (l*y.size))) us1.length (m - l))) w/\us1.length=h' - l/\us1.length<=m - l/\Pw (PR w S') ((es.drop (lo0+l)).take (h' - l)) us1/\
       (us1≠[]->∃b o,(if m=l then b0 else b0.map (·.add (l*y.size)))=some ⟨b,o,none⟩/\S' b/\rowAt w b o y.size us1):=by
     intro es S' hS hob hin;have hrow:∃us,es.length=nn/\Pw (PR w S) es us/\rowAt w b o' z us/\(0<cap->S' b):=by
      rcases hob with ho|ho
      ·obtain⟨h0,h1,h2,us,h3,h4⟩:=cx.hr.obj id _ _ hb ho;exact⟨us,h0,h3,h4,hin ho⟩
      ·obtain⟨h0,h1,h2,us,h3,h4⟩:=cx.hr.obj id _ _ hb ho;exact⟨us,h0,h3,h4,fun hc=>hS b (h2 hc)⟩
     obtain⟨us,h0,h3,h4,h5⟩:=hrow;have hlen:((us.drop (lo0+l)).take (h' - l)).length=h' - l:=by have:=h3.1;simp;omega
     refine⟨(us.drop (lo0+l)).take (h' - l),by rw[hlen];exact hex _ e5,hlen,by omega,((h3.drop _).take _).mono fun _ _ hh=>bl (fun _ _=>rfl) hS _ hh,fun hne=>?_⟩
     have hpos:0<((us.drop (lo0+l)).take (h' - l)).length:=List.length_pos_iff.2 hne;refine⟨b,o'+(lo0+l)*y.size,?_,h5 (by omega),hz▸kV h4 _ _⟩;rw[if_neg (by omega),hb0 (by omega)];simp[dt,hz,mκ,Nat.add_assoc]
    have out:∀(es:LD) (S':Nat->Prop) (us1:List Value) (ad:Option Addr),us1.length=h' - l->us1.length<=m - l->Pw (PR w S') ((es.drop (lo0+l)).take (h' - l)) us1->(us1≠[]->∃b o,ad=some ⟨b,o,none⟩/\S' b/\rowAt w b o y.size us1)->
      VR φ w S' (bif Nat.beq h' m then .sl .exact y.size ((es.drop (lo0+l)).take (h' - l))else .p (.slice y.size ((es.drop (lo0+l)).take (h' - l)))) (.slice ad us1.length (m - l)):=by
     intro es S' us1 ad k0 k1 k2 k3;rw[beq_eq];by_cases hq:h'=m
     ·simp only[hq,decide_true,cond_true,VR];exact⟨ad,m - l,us1,rfl,k1,by simp only[gt];omega,PRs_iff.2 (hq▸k2),k3⟩
     ·simp only[hq,decide_false,cond_false,VR,PR];exact⟨ad,m - l,us1,rfl,k1,PRs_iff.2 k2,k3⟩
    split at h
    ·rename_i es hl1;simp only[lβ,lτ]at h;obtain⟨rfl,rfl,rfl⟩:=h;have hob:=bC hl1 (by simp);obtain⟨hr1,hf1⟩:=cx.hr.freeze [id];rw[Zu hob]at hr1 hf1;obtain⟨us1,k1,k2,k3,k4,k5⟩:=part es (FX φ S hp [id]) (fun _ h=> .inl h) (.inl hob) (fun _ hc=>ni id _ _ b (by simp) hb hob (by simp[bM,hc]) rfl);refine⟨_,w,φ,_,.inl k1,out es _ us1 _ k2 k3 k4 k5,by simpa[grow,aw,bc]using hr1,Ext.refl φ,by simpa[grow,aw,bc]using hf1,fun _ _=>rfl⟩
    ·rename_i es hl1;have hob:=bC hl1 (by simp);obtain⟨us1,k1,k2,k3,k4,k5⟩:=part es S (fun _ h=>h) (.inr hob) (fun ho=>by rw[hob]at ho;simp at ho);exact aD cx h k1 (out es S us1 _ k2 k3 k4 k5)
    ·simp at h
  ·simp[hz]at h
end
end
section
variable [Letters]
def lh {w:World}{b:Nat}{x:Obj}(h:w.heap[b]?=some x):w.heap=w.heap.set! b x:=by
 grind
variable {z:Nat} {us us2:List Value}
def I3 {w w':World}{b o:Nat}{vs vs':Array Value}{t:TypeId}{fz:Nat×Nat}(hh:w.heap[b]?=some (.cells vs t fz))(hh':w'.heap[b]?=some (.cells vs' t fz))(hv:vs'.toList=splice vs.toList (o+us.length*z) (cj us2))(hr:rowAt w b o z us)(hz:∀u∈us2,u.cells.size=z)(hfit:o+us.length*z+(cj us2).length<=vs.size):rowAt w' b o z (us++us2):=by
 intro i u hu;have hget:∀k:Nat,vs'[k]?=(splice vs.toList (o+us.length*z) (cj us2))[k]?:=fun k=>by rw[<-hv];simp
 by_cases hi:i<us.length
 ·rw[lι hi]at hu;obtain⟨h1,h2⟩:=hr i u hu;refine⟨h1,fun j c hc=>?_⟩
  have hj:j<u.cells.size:=by
   rcases mδ j u.cells.size with h|h
   ·exact h
   ·simp[Array.getElem?_eq_none h]at hc
  have h3:=h2 j c hc;simp only[World.cell?,hh,hh',Option.isSome_none,Bool.false_eq_true,if_false]at h3 ⊢
  rw[hget];have hle:(i+1)*z<=us.length*z:=lψ z hi;have he:(i+1)*z=i*z+z:=by rw[mκ];simp
  have hlt:o+i*z+j<o+us.length*z:=by omega
  rw[splice,lρ,lι (by simp;omega),List.getElem?_take_of_lt hlt];simpa using h3
 ·rw[lπ (Nat.le_of_not_lt hi)]at hu;refine⟨hz u (mθ hu),fun j c hc=>?_⟩
  have h3:=nM hz hu j c hc;simp only[World.cell?,hh',Option.isSome_none,Bool.false_eq_true,if_false];rw[hget];have he:o+i*z+j=o+us.length*z+((i - us.length)*z+j):=by
   have:i*z=us.length*z+(i - us.length)*z:=by rw[<-mκ];congr 1;omega
   omega
  have hlt:(i - us.length)*z+j<(cj us2).length:=by
   rcases mδ ((i - us.length)*z+j) (cj us2).length with h|h
   ·exact h
   ·simp[lυ h]at h3
  rw[he,splice,lρ,lπ (by simp;omega)];rw[show o+us.length*z+((i - us.length)*z+j) - (vs.toList.take (o+us.length*z)).length=(i - us.length)*z+j by simp;omega];rw[lι hlt];exact h3
section
variable {P:Program} {G:bP} {o:Oper} {a:Act} {φ:List cQ} {w:World} {S:Nat->Prop} {hp:List Ob} {tm:Tm} {base:Nat} {d:D} {ups:List (Nat×Ob)} {new:List Ob}
def ta (B:Bool)(es:LD):Ob:=bif B then .byt es else .arr es
variable {cap:Nat}
def CB {B:Bool}{es:LD}{b o n:Nat}:OR φ w S (.arr b o cap z n) (ta B es)↔(es.length=n/\n<=cap/\(0<cap->∃vs t fz,w.heap[b]?=some (.cells vs t fz)/\je fz vs.size/\o+cap*z<=vs.size/\(B=true->t=Jp))/\∃us,Pw (PR w S) es us/\rowAt w b o z us):=by
 cases B<;>simp[ta,OR]
def rU {B:Bool}{es:LD}{b o n:Nat}:bM (.arr b o cap z n) (ta B es)=if 0<cap then some b else none:=by cases B<;>rfl
def Ce (B:Bool)(φ:List cQ)(w:World)(S:Nat->Prop)(hp:List Ob)(esz:Nat)(xs:LD)(kill:LN)(ad:Option Addr)(us:List Value)(cap:Nat):Prop:=
 us.length<=cap/\Pw (PR w S) xs us/\(us≠[]->∃b o,ad=some ⟨b,o,none⟩/\rowAt w b o esz us)/\
 ((kill=[]/\cap=us.length)\/(∃id es b o0 cap0 n o,kill=[id]/\hp[id]?=some (ta B es)/\φ[id]?=some (.arr b o0 cap0 esz n)/\
  (0<cap->ad=some ⟨b,o,none⟩/\0<cap0/\rowAt w b o esz us/\∃vs t fz,w.heap[b]?=some (.cells vs t fz)/\je fz vs.size/\o+cap*esz<=vs.size/\(B=true->t=Jp))))
variable {ids:LN} {xs:LD}
def GE (hr:HR φ w S hp){esz:Nat}{dx:D}{v:Value}{kill:List (Nat×Ob)}(hv:VR φ w S dx v)(h:kK esz (ids.zip (ids.map (aS hp))) dx=some (xs,kill)):
  ∃ad us cap ks,v= .slice ad us.length cap/\kill=ks.map (fun i=>(i,Ob.dead))/\Ce false φ w S hp esz xs ks ad us cap:=by
 unfold kK at h;split at h
 ·obtain⟨rfl,rfl⟩:=h;obtain⟨ad,cap,us,rfl,h1,h2,h3,h4⟩:=hv;simp only[gt]at h2;have:us=[]:=lθ (by omega);subst this;exact⟨ad,[],cap,[],rfl,rfl,by simp,Pw.nil,by simp,.inl ⟨rfl,by omega⟩⟩
 ·rename_i z es;cases hz:wF z esz es with
  |false=>simp_all
  |true=>
   simp[hz]at h;obtain⟨rfl,rfl⟩:=h;obtain⟨ad,cap,us,rfl,h1,h2,h3,h4⟩:=hv;refine⟨ad,us,cap,[],rfl,rfl,h1,PRs_iff.1 h3,fun hne=>?_,.inl ⟨rfl,h2⟩⟩
   have:z=esz:=oV hz fun e=>hne (lθ (by rw[<-(PRs_iff.1 h3).1,e];rfl))
   grind
 ·rename_i z es;cases hz:wF z esz es with
  |false=>simp_all
  |true=>
   simp[hz]at h;obtain⟨rfl,rfl⟩:=h;obtain⟨⟨ad,cap,us,rfl,h1,h3,h4⟩,a2,n2,hx⟩:=hv;have h2:cap=us.length:=by simp_all
   refine⟨ad,us,cap,[],rfl,rfl,h1,PRs_iff.1 h3,fun hne=>?_,.inl ⟨rfl,h2⟩⟩
   have:z=esz:=oV hz fun e=>hne (lθ (by rw[<-(PRs_iff.1 h3).1,e];rfl))
   grind
 ·rename_i id lo len z;obtain⟨b,o',cap,n,ad,hb,hl,hn,rfl,ha⟩:=hv;split at h
  ·rename_i es hl1;rw[beq_eq]at h;by_cases hz:z=esz
   ·subst hz;simp at h;obtain⟨rfl,rfl⟩:=h;have hob:=bC hl1 (by simp);obtain⟨h0,h1,h2,us,h3,h4⟩:=hr.obj id _ _ hb hob;have hlen:((us.drop lo).take len).length=len:=by have:=h3.1;grind
    refine⟨ad,(us.drop lo).take len,cap - lo,[id],by rw[hlen],rfl,by omega,(h3.drop lo).take len,fun hne=>?_,.inr ⟨id,es,b,o',cap,n,o'+lo*z,rfl,hob,hb,fun hc=>?_⟩⟩
    ·have hpos:0<((us.drop lo).take len).length:=List.length_pos_iff.2 hne;exact⟨b,o'+lo*z,ha (by omega),kV h4 lo len⟩
    ·obtain⟨vs,t,fz,g1,g2,g3⟩:=h2 (by omega);refine⟨ha (by omega),by omega,kV h4 lo len,vs,t,fz,g1,g2,?_,fun h=>by cases h⟩
     have:cap*z=lo*z+(cap - lo)*z:=by rw[<-mκ];grind
     omega
   ·simp_all
  ·simp at h
 ·simp at h
def HR.app (hr:HR φ w S hp){nid:Nat}(hn:hp[nid]?=some .unborn){kill:LN}(hk:∀id∈kill,id≠nid){w':World}{l':cQ}{ob':Ob}
  (hkeep:∀b,b<w.heap.size->¬sY φ hp (· ∈kill) b->w'.heap[b]?=w.heap[b]?) (size:w.heap.size<=w'.heap.size) (os:w'.os=w.os) (tape:w'.tape=w.tape) (output:w'.output=w.output)
  (hOR:OR (φ.set nid l') w' S l' ob') (hown:∀b,bM l' ob'=some b->(sY φ hp (· ∈kill) b\/w.heap.size<=b)/\b<w'.heap.size/\¬S b):
  HR (φ.set nid l') w' S (aw hp ((kill.map fun i=>(i,Ob.dead))++[(nid,ob')]))/\Fr (bm φ hp) S w (bm (φ.set nid l') (aw hp ((kill.map fun i=>(i,Ob.dead))++[(nid,ob')]))) S w'/\Ext φ (φ.set nid l'):=by
 have hext:=EW hr hn l';have hnl:nid<hp.length:=by
  grind
 have hget:∀i,(aw hp ((kill.map fun i=>(i,Ob.dead))++[(nid,ob')]))[i]?=if i=nid then some ob' else if i∈kill/\i<hp.length then some .dead else hp[i]?:=by
  intro i;rw[iB];simp only[aw,bc];rw[List.getElem?_set,bH];by_cases hi:nid=i
  ·simp_all
  ·rw[if_neg hi,if_neg (fun e=>hi e.symm)];exact fE (g:=fun _=>Ob.dead) kill i
 have hφ:∀i,i≠nid->(φ.set nid l')[i]?=φ[i]?:=fun i hi=>mτ (fun e=>hi e.symm)
 have hco:∀b,sY φ hp (· ∈kill) b->sY φ hp (fun i=>i=nid\/i∈kill) b:=fun b ⟨id,l,o,hc,h1,h2,h3⟩=>⟨id,l,o,.inr hc,h1,h2,h3⟩
 have hlow:∀b,S b->b<w'.heap.size:=fun b hb=>mψ (hr.low b hb) size
 have hdead:∀(l:cQ) b,bM l .dead≠some b:=fun l b=>by cases l<;>simp[bM]
 obtain⟨h1,h2⟩:=hr.gen (φ':=φ.set nid l') (hp':=aw hp ((kill.map fun i=>(i,Ob.dead))++[(nid,ob')])) (S':=S) (w':=w') (fun i=>i=nid\/i∈kill) (by rw[bH,List.length_set];exact hr.len)
  (fun i hi=>by
   simp_all) hext
  (fun b hb hc=>hkeep b hb fun h=>hc (hco b h)) size os tape output (fun _ h=>h) (fun _ h=> .inl h) hlow
  (by
   intro id l o hc g1 g2;rw[hget]at g2;by_cases hi:id=nid
   ·grind
   ·rw[if_neg hi]at g2;have hck:=hc.resolve_left hi;by_cases hlt:id<hp.length
    ·rw[if_pos ⟨hck,hlt⟩]at g2;simp at g2;subst g2;cases l<;>simp[OR]
    all_goals simp_all)
  (by
   grind)
  (by
   grind)
 simp_all
def PM (hr:HR φ w S hp){dx:D}{v:Value}{kill:List (Nat×Ob)}(hv:VR φ w S dx v)(h:xL (ids.zip (ids.map (aS hp))) dx=some (xs,kill)):
  ∃ad us cap ks,v= .slice ad us.length cap/\kill=ks.map (fun i=>(i,Ob.dead))/\Ce true φ w S hp 1 xs ks ad us cap:=by
 unfold xL at h;split at h
 ·obtain⟨rfl,rfl⟩:=h;obtain⟨ad,cap,us,rfl,h1,h2,h3,h4⟩:=hv;simp only[gt]at h2;have:us=[]:=lθ (by omega);subst this;exact⟨ad,[],cap,[],rfl,rfl,by simp,Pw.nil,by simp,.inl ⟨rfl,by omega⟩⟩
 ·rename_i id lo len z;obtain⟨b,o',cap,n,ad,hb,hl,hn,rfl,ha⟩:=hv;split at h
  ·rename_i es hl1;rw[beq_eq]at h;by_cases hz:z=1
   ·subst hz;obtain⟨rfl,rfl⟩:=h;have hob:=bC hl1 (by simp);obtain⟨h0,h1,h2,us,h3,h4⟩:=hr.obj id _ _ hb hob;have hlen:((us.drop lo).take len).length=len:=by have:=h3.1;grind
    refine⟨ad,(us.drop lo).take len,cap - lo,[id],by rw[hlen],rfl,by omega,(h3.drop lo).take len,fun hne=>?_,.inr ⟨id,es,b,o',cap,n,o'+lo*1,rfl,hob,hb,fun hc=>?_⟩⟩
    ·have hpos:0<((us.drop lo).take len).length:=List.length_pos_iff.2 hne;exact⟨b,o'+lo*1,ha (by omega),kV h4 lo len⟩
    ·obtain⟨vs,t,fz,g1,g2,g3,g4⟩:=h2 (by omega);refine⟨ha (by omega),by omega,kV h4 lo len,vs,t,fz,g1,g2,?_,fun _=>g4⟩
     omega
   ·simp_all
  ·simp at h
 ·simp at h
def xH (hr:HR φ w S hp){esz:Nat}(hpos:0<esz){ys:LD}{kill:LN}{ad:Option Addr}{k:Nat}{B:Bool}(hb:Ce B φ w S hp esz xs kill ad us cap){e:TypeId}(hB:B=true->e=Jp)(hn:hp[base+k]?=some .unborn)(hy:Pw (PR w S) ys us2)(hz:∀u∈us2,u.cells.size=esz)(hne:kill=[]->ys=[]->xs=[])(hroom:us.length+us2.length<=cap->∀w2,(match ad with|some a'=>storeCells (a'.add (us.length*esz)) (cj us2)|none=>pure ()).run P w= .ok () w2->(execOp a.eval o).run P w= .ok (.value (.slice ad (us.length+us2.length) cap)) w2)(hgrow:cap<us.length+us2.length->∃nc rest w2,(execOp a.eval o).run P w= .ok (.value (.slice (some ⟨w.heap.size,0,none⟩) (us.length+us2.length) nc)) w2/\us.length+us2.length<=nc/\w2.heap=w.heap.push (.cells (cj us++cj us2++rest).toArray e)/\rest.length=(nc - (us.length+us2.length))*esz/\
   w2.os=w.os/\w2.tape=w.tape/\w2.output=w.output):
  EffOk P o a φ w S hp base (.arr (base+k) 0 (xs.length+ys.length) esz) (aw hp ((kill.map fun i=>(i,Ob.dead))++[(base+k,ta B (xs++ys))])):=by
 obtain⟨hle,hxs,hrow,hkind⟩:=hb;have hkill:∀id∈kill,id≠base+k:=by
  rcases hkind with⟨rfl,_⟩|⟨id,es,b,o0,cap0,n,o',rfl,h1,_⟩
  ·simp
  ·intro i hi e;simp at hi;subst hi e;rw[hn]at h1;cases B<;>simp[ta]at h1
 have hl1:xs.length=us.length:=hxs.1;have hl2:ys.length=us2.length:=hy.1;have husz:∀u∈us,u.cells.size=esz:=by
  intro u hu;obtain⟨b,o',_,hr'⟩:=hrow (by intro e;rw[e]at hu;simp at hu);exact oc hr' u hu
 by_cases hrm:us.length+us2.length<=cap
 ·by_cases hc0:cap=0
  ·have hu0:us=[]:=lθ (by omega);have hu2:us2=[]:=lθ (by omega);subst hu0 hu2;have hx0:xs=[]:=lθ hl1;have hy0:ys=[]:=lθ hl2;subst hx0 hy0;have hst:(match ad with|some a'=>storeCells (a'.add (([]:List Value).length*esz)) (cj [])|none=>pure ()).run P w= .ok () w:=by cases ad<;>rfl
   obtain⟨g1,g2,g3⟩:=hr.app hn hkill (w':=w) (l':= .arr 0 0 0 esz 0) (ob':=ta B []) (fun _ _ _=>rfl) (Nat.le_refl _) rfl rfl rfl (by
    rw[CB];exact⟨rfl,Nat.le_refl _,fun h=>absurd h (Nat.lt_irrefl 0),[],Pw.nil,by intro i u hu;simp at hu⟩) (by intro b hb';rw[rU]at hb';simp at hb')
   refine⟨_,w,_,S,.inl (hroom hrm w hst),?_,by simpa using g1,g3,by simpa using g2,gM⟩
   simp only[VR];exact⟨0,0,0,0,ad,by simpa using gR hr hn,by simp,by simp,by simp[hc0],by simp⟩
  ·rcases hkind with⟨rfl,hcl⟩|⟨id,es,b,o0,cap0,n,o',rfl,hob,hloc,hd⟩
   ·have hu2:us2=[]:=lθ (by omega);subst hu2;have hy0:ys=[]:=lθ hl2;have hx0:=hne rfl hy0;rw[hx0]at hl1;simp at hl1;omega
   ·obtain⟨rfl,hc1,hrw,vs,t,fz,q1,q2,q3,q4⟩:=hd (by omega);have hfl:(cj us2).length=us2.length*esz:=eB hz;have hmul:(us.length+us2.length)*esz<=cap*esz:=lψ _ hrm;have hmul2:(us.length+us2.length)*esz=us.length*esz+us2.length*esz:=mκ _ _ _;have hscal:∀c∈cj us2,bb c:=by
     intro c hc;simp only[cj,List.mem_flatMap]at hc;obtain⟨u,hu,hc⟩:=hc;obtain⟨i,hi⟩:=List.getElem?_of_mem hu;obtain⟨x,_,hx⟩:=hy.get' hi;exact(fx hx).2 c hc
    obtain⟨w2,e1,e2,e3,e4,e5⟩:=j8 (P:=P) (off:=o'+us.length*esz) q1 q2 (cj us2) 0 vs w rfl (lh q1) (by omega) hscal;obtain⟨p1,p2,p3⟩:=j9 e2;have hown:bM (.arr b o0 cap0 esz n) (ta B es)=some b:=by rw[rU,if_pos hc1]
    have hOw:sY φ hp (· ∈[id]) b:=⟨id,_,_,by simp,hloc,hob,hown⟩
    have hOb:=hr.own b ⟨id,_,_,hloc,hob,hown⟩;have hnb:∀b',S b'->b'≠b:=fun b' hs e=>hOb.1 (e▸hs)
    have hst:eO S w w2:=fun b' hb'=>p1 b' (hnb b' hb')
    have hpc:(bG vs (o'+us.length*esz+0) (cj us2).toArray).toList=splice vs.toList (o'+us.length*esz) (cj us2):=by
     rw[bz (by simp;omega)];simp
    have hsz2:(bG vs (o'+us.length*esz+0) (cj us2).toArray).size=vs.size:=by
     have:=congrArg List.length hpc;rw[cH (by simp;omega)]at this;simpa using this
    obtain⟨g1,g2,g3⟩:=hr.app hn hkill (w':=w2) (l':= .arr b o' cap esz (us.length+us2.length)) (ob':=ta B (xs++ys)) (fun b' _ hc=>p1 b' fun e=>hc (e▸hOw)) (Nat.le_of_eq p3.symm) e3 e4 e5 (by
     rw[CB];refine⟨by simp[hl1,hl2],hrm,fun _=>⟨_,t,fz,p2 hOb.2,by rw[hsz2];exact q2,by rw[hsz2];exact q3,q4⟩,us++us2,(hxs.append hy).mono fun _ _ hh=>bl hst (fun _ h=>h) _ hh,I3 q1 (p2 hOb.2) hpc hrw hz (by omega)⟩) (by
     intro b' hb';have:b'=b:=by rw[rU]at hb';simp at hb';exact hb'.2.symm
     subst this;exact⟨.inl hOw,by rw[p3];exact hOb.2,hOb.1⟩)
    refine⟨_,w2,_,S,.inl (hroom hrm w2 ?_),?_,g1,g3,g2,gM⟩
    ·simp only[dt];exact e1
    ·simp only[VR];exact⟨b,o',cap,us.length+us2.length,some ⟨b,o',none⟩,gR hr hn,by omega,hrm,by simp[hl1,hl2],fun _=>by simp⟩
 ·obtain⟨nc,rest,w2,r1,r2,r3,r4,r5,r6,r7⟩:=hgrow (by omega);have hold:∀b,b<w.heap.size->w2.heap[b]?=w.heap[b]?:=fun b hb=>by rw[r3,Array.getElem?_push,if_neg (by omega)]
  have hnew:w2.heap[w.heap.size]?=some (.cells (cj us++cj us2++rest).toArray e (0,0)):=by rw[r3];simp
  have hsz:w2.heap.size=w.heap.size+1:=by rw[r3];simp
  have hst:eO S w w2:=fun b hb=>hold b (hr.low b hb)
  have hall:∀u∈us++us2,u.cells.size=esz:=by
   intro u hu;rcases qε.1 hu with h|h
   ·exact husz u h
   ·exact hz u h
  obtain⟨g1,g2,g3⟩:=hr.app hn hkill (w':=w2) (l':= .arr w.heap.size 0 nc esz (us.length+us2.length)) (ob':=ta B (xs++ys)) (fun b hb _=>hold b hb) (by omega) r5 r6 r7 (by
   rw[CB];refine⟨by simp[hl1,hl2],r2,fun _=>⟨_,e,(0,0),hnew,fun _ _ hh=>by omega,?_,hB⟩,us++us2,(hxs.append hy).mono fun _ _ hh=>bl hst (fun _ h=>h) _ hh,od (rest:=rest) hnew (by simp[nL]) hall⟩
   simp[eB husz,eB hz,r4];rw[<-mκ,<-mκ];exact lψ _ (by omega)) (by
   intro b' hb';have:b'=w.heap.size:=by rw[rU]at hb';simp at hb';exact hb'.2.symm
   subst this;exact⟨.inr (Nat.le_refl _),by omega,fun hs=>by have:=hr.low _ hs;omega⟩)
  refine⟨_,w2,_,S,.inl r1,?_,g1,g3,g2,gM⟩;simp only[VR];exact⟨w.heap.size,0,nc,us.length+us2.length,some ⟨w.heap.size,0,none⟩,gR hr hn,by omega,r2,by simp[hl1,hl2],fun _=>by simp⟩
end
end
section
variable [Letters]
section
variable {P:Program} {G:bP} {o:Oper} {a:Act} {φ:List cQ} {w:World} {S:Nat->Prop} {hp:List Ob} {tm:Tm} {base:Nat} {d:D} {ups:List (Nat×Ob)} {new:List Ob}
variable {ats:Array TypeId} {ud:TypeDesc} {y:Ty} {ad:Option Addr} {sLen cap:Nat}
def jC {t u e ty:TypeId}(h0:ats[0]?=some t)(h1:ats[1]?=some u)(ht:P.underlying t=some (.slice e))(hu:P.underlying u=some ud)(hud:(∃e2,ud= .slice e2)\/ud= .string)(hy:gX P e y){n:Nat}{x:Value}{cs:Array Value}(hlen:(Builtin.lenOf x).run P w= .ok n w)(hx:(Builtin.firstCells y.size n x).run P w= .ok cs w)(hroom:sLen+n<=cap){w2:World}(hst:(match ad with|some a'=>storeCells (a'.add (sLen*y.size)) cs.toList|none=>pure ()).run P w= .ok () w2):
  (Builtin.append_ ats ty #[.slice ad sLen cap,x]).run P w= .ok (.slice ad (sLen+n) cap) w2:=by
 cases ad with
 |none=>
  simp at hst;subst hst;rcases hud with⟨e2,rfl⟩|rfl<;>simp[Builtin.append_,h0,h1,run_underlying ht,run_underlying hu,hy.sizeOf,hlen,hroom,hx]
 |some a'=>
  simp only at hst;rcases hud with⟨e2,rfl⟩|rfl<;>simp[Builtin.append_,h0,h1,run_underlying ht,run_underlying hu,hy.sizeOf,hlen,hroom,hx,hst]
variable {zv:Value} {cs0:Array Value}
def rZ {t u e ty:TypeId}(h0:ats[0]?=some t)(h1:ats[1]?=some u)(ht:P.underlying t=some (.slice e))(hu:P.underlying u=some ud)(hud:(∃e2,ud= .slice e2)\/ud= .string)(hy:gX P e y)(hz0:∀w,(zeroValue e).run P w= .ok zv w){n:Nat}{x:Value}{cs:Array Value}(hlen:(Builtin.lenOf x).run P w= .ok n w)(hx:(Builtin.firstCells y.size n x).run P w.drew= .ok cs w.drew)(hs:(Builtin.firstCells y.size sLen (.slice ad sLen cap)).run P w.drew= .ok cs0 w.drew)(hroom:cap<sLen+n)(hb:(2*(sLen+n)+192)*y.bytes<=281474976710656)(hm:2*(sLen+n)+192<=9223372036854775807):
  (Builtin.append_ ats ty #[.slice ad sLen cap,x]).run P w= .ok (.slice (some ⟨w.heap.size,0,none⟩) (sLen+n) (grownCap w (sLen+n) cap e)) (w.drew.alloc (.cells (cs0++cs++Builtin.zeroCells zv.cells (grownCap w (sLen+n) cap e - (sLen+n))) e)):=by
 obtain⟨i,hi,hsz,hby⟩:=hy.info;have hr:¬(sLen+n<=cap):=by omega
 have h63:¬(9223372036854775807<((sLen:Int)+(n:Int))):=by omega
 have h48:¬(281474976710656<Builtin.nextslicecap (sLen+n) cap*i.bytes):=by
  have h1:Builtin.nextslicecap (sLen+n) cap*i.bytes<=(2*(sLen+n))*i.bytes:=lψ _ (nextslicecap_le hroom);rw[hby]at h1 ⊢
  have h2:(2*(sLen+n))*y.bytes<=(2*(sLen+n)+192)*y.bytes:=lψ _ (by omega);omega
 rcases hud with⟨e2,rfl⟩|rfl<;>simp[Builtin.append_,h0,h1,run_underlying ht,run_underlying hu,hy.sizeOf,typeInfo,hi,hlen,hr,h63,h48,Question.forced,hx,hs,hz0,newRow,grownCap]
def pz {t u e ty:TypeId}{ki k0:IntKind}(h0:ats[0]?=some t)(h1:ats[1]?=some u)(ht:P.underlying t=some (.slice e))(hu:P.underlying u=some (.int ki))(hy:gX P e y)(hz0:∀w,(zeroValue e).run P w= .ok zv w){m:Int}(hm0:0<=m)(hb:(2*(sLen+m.toNat)+192)*y.bytes<=281474976710656)(hm:2*(sLen+m.toNat)+192<=9223372036854775807)(hroom:sLen+m.toNat<=cap){w2:World}(hst:(match ad with|some a'=>storeCells (a'.add (sLen*y.size)) (Builtin.zeroCells zv.cells m.toNat).toList|none=>pure ()).run P w= .ok () w2):
  (Builtin.append_ ats ty #[.slice ad sLen cap,.int k0 m]).run P w= .ok (.slice ad (sLen+m.toNat) cap) w2:=by
 obtain⟨i,hi,hsz,hby⟩:=hy.info;have wm:IntKind.i64.wrap m=m:=IntWalk.i64_in _ (by omega);have n1:¬m<0:=by omega
 have n2:¬(281474976710656<m*(i.bytes:Int)):=by
  rw[hby];have h2:m.toNat*y.bytes<=(2*(sLen+m.toNat)+192)*y.bytes:=lψ _ (by omega);have h3:((m.toNat*y.bytes:Nat):Int)=m*(y.bytes:Int):=by rw[Int.natCast_mul,mυ hm0]
  omega
 have hpos:y.size≠0:=Nat.pos_iff_ne_zero.1 hy.pos;have hzc:m.toNat=0->Builtin.zeroCells zv.cells m.toNat= #[]:=fun h=>by simp[h,Builtin.zeroCells]
 cases ad with
 |none=>
  simp at hst;subst hst;by_cases h:m.toNat=0
  ·simp[Builtin.append_,h0,h1,run_underlying ht,run_underlying hu,hy.sizeOf,typeInfo,hi,asInt,asIntOf,wm,n1,n2,hroom,h];omega
  ·simp[Builtin.append_,h0,h1,run_underlying ht,run_underlying hu,hy.sizeOf,typeInfo,hi,asInt,asIntOf,wm,n1,n2,hroom,h,hpos,hz0]
 |some a'=>
  simp only at hst;by_cases h:m.toNat=0
  ·rw[hzc h]at hst;rw[h]at hroom ⊢
   simp[Builtin.append_,h0,h1,run_underlying ht,run_underlying hu,hy.sizeOf,typeInfo,hi,asInt,asIntOf,wm,n1,n2,h];simp at hst;simp at hroom;simp[hroom,hst]
  ·simp[Builtin.append_,h0,h1,run_underlying ht,run_underlying hu,hy.sizeOf,typeInfo,hi,asInt,asIntOf,wm,n1,n2,hroom,hst,h,hpos,hz0];intro hh;exact absurd hh (Nat.mul_ne_zero h hpos)
def Au {t u e ty:TypeId}{ki k0:IntKind}(h0:ats[0]?=some t)(h1:ats[1]?=some u)(ht:P.underlying t=some (.slice e))(hu:P.underlying u=some (.int ki))(hy:gX P e y)(hz0:∀w,(zeroValue e).run P w= .ok zv w){m:Int}(hm0:0<=m)(hb:(2*(sLen+m.toNat)+192)*y.bytes<=281474976710656)(hm:2*(sLen+m.toNat)+192<=9223372036854775807)(hs:(Builtin.firstCells y.size sLen (.slice ad sLen cap)).run P w.drew= .ok cs0 w.drew)(hroom:cap<sLen+m.toNat)(hle:sLen<=cap):
  (Builtin.append_ ats ty #[.slice ad sLen cap,.int k0 m]).run P w= .ok (.slice (some ⟨w.heap.size,0,none⟩) (sLen+m.toNat) (grownCap w (sLen+m.toNat) cap e)) (w.drew.alloc (.cells (cs0++Builtin.zeroCells zv.cells m.toNat++Builtin.zeroCells zv.cells (grownCap w (sLen+m.toNat) cap e - (sLen+m.toNat))) e)):=by
 obtain⟨i,hi,hsz,hby⟩:=hy.info;have wm:IntKind.i64.wrap m=m:=IntWalk.i64_in _ (by omega);have n1:¬m<0:=by omega
 have n2:¬(281474976710656<m*(i.bytes:Int)):=by
  rw[hby];have h2:m.toNat*y.bytes<=(2*(sLen+m.toNat)+192)*y.bytes:=lψ _ (by omega);have h3:((m.toNat*y.bytes:Nat):Int)=m*(y.bytes:Int):=by rw[Int.natCast_mul,mυ hm0]
  omega
 have hpos:y.size≠0:=Nat.pos_iff_ne_zero.1 hy.pos;have h:m.toNat≠0:=by omega
 have hr:¬(sLen+m.toNat<=cap):=by omega
 have h63:¬(9223372036854775807<((sLen:Int)+(m.toNat:Int))):=by omega
 have h48:¬(281474976710656<Builtin.nextslicecap (sLen+m.toNat) cap*i.bytes):=by
  have h1:Builtin.nextslicecap (sLen+m.toNat) cap*i.bytes<=(2*(sLen+m.toNat))*i.bytes:=lψ _ (nextslicecap_le hroom);rw[hby]at h1 ⊢
  have h2:(2*(sLen+m.toNat))*y.bytes<=(2*(sLen+m.toNat)+192)*y.bytes:=lψ _ (by omega);omega
 have h63':¬(9223372036854775807<((sLen:Int)+max m 0)):=by omega
 simp[Builtin.append_,h0,h1,run_underlying ht,run_underlying hu,hy.sizeOf,typeInfo,hi,asInt,asIntOf,wm,n1,n2,hr,h63,h63',h48,Question.forced,hs,hz0,newRow,grownCap,h,hpos];intro hh;exact absurd hh (Nat.mul_ne_zero h hpos)
def xX {ys:LD}{v:Value}{esz:Nat}(h:vM w S esz ys v):∃us2:List Value,(Builtin.lenOf v).run P w= .ok us2.length w/\(∀w1:World,w1.heap=w.heap->∀k,k<=us2.length->(Builtin.firstCells esz k v).run P w1= .ok (cj (us2.take k)).toArray w1)/\Pw (PR w S) ys us2/\∀u∈us2,u.cells.size=esz:=by
 rcases h with⟨b,rfl,rfl,rfl⟩|⟨ad,cap,us,rfl,hl,hp1,hr⟩
 ·have hflat:∀l:List UInt8,cj (l.map fun c=>Value.int .u8 (c.toNat:Int))=l.map fun c=>Value.int .u8 (c.toNat:Int):=by
   intro l;induction l with
   |nil=>rfl
   |cons c r ih=>rw[List.map_cons,fK,ih];rfl
  refine⟨b.data.toList.map fun c=> .int .u8 (c.toNat:Int),?_,?_,⟨by simp,fun i x v h1 h2=>?_⟩,?_⟩
  ·simp[Builtin.lenOf]
  ·intro w1 hs1 k hk;rw[<-List.map_take,hflat];simp[Builtin.firstCells];apply Array.ext';simp
  ·simp only[lσ,mρ]at h1 h2;obtain⟨c1,hc1,rfl⟩:=h1;obtain⟨c2,hc2,rfl⟩:=h2;rw[hc1]at hc2;simp at hc2;subst hc2;simp[PR]
  ·intro u hu;simp only[List.mem_map]at hu;obtain⟨c,_,rfl⟩:=hu;rfl
 ·have hz:∀u∈us,u.cells.size=esz:=by
   intro u hu;obtain⟨b,o',_,_,hrow⟩:=hr (by intro e;rw[e]at hu;simp at hu);exact oc hrow u hu
  refine⟨us,by simp[Builtin.lenOf],fun w1 hs1 k hk=>?_,hp1,hz⟩
  cases ad with
  |none=>
   have:us=[]:=by
    cases us with
    |nil=>rfl
    |cons u r=>obtain⟨b,o',hh,_⟩:=hr (by simp);simp at hh
   subst this;simp[Builtin.firstCells,cj]
  |some ad=>
   have hzk:∀u∈us.take k,u.cells.size=esz:=fun u hu=>hz u (qι hu)
   refine run_firstCells_some w1 esz k ad us.length cap (cj (us.take k)) (by rw[eB hzk,mε,Nat.min_eq_left hk]) fun j v hj=>?_
   have hne:us≠[]:=by intro e;rw[e]at hj;simp[cj]at hj
   obtain⟨b,o',hh,_,hrow⟩:=hr hne;simp at hh;subst hh;have hj':(cj us)[j]?=some v:=by
    rw[<-List.take_append_drop k us,nL];obtain⟨h1,h2⟩:=List.getElem?_eq_some_iff.1 hj;rw[lι h1];exact hj
   have:=tP hrow j v hj';simp only[World.cell?,hs1]at this ⊢
   simpa[dt]using this
def tC {ys:LD}{v:Value}{esz:Nat}(h:vM w S esz ys v):∃us2:List Value,(Builtin.lenOf v).run P w= .ok us2.length w/\(∀w1:World,w1.heap=w.heap->(Builtin.firstCells esz us2.length v).run P w1= .ok (cj us2).toArray w1)/\Pw (PR w S) ys us2/\∀u∈us2,u.cells.size=esz:=by
 obtain⟨us2,l1,l2,l3,l4⟩:=xX (P:=P) h;exact⟨us2,l1,fun w1 e=>by rw[l2 w1 e _ (Nat.le_refl _),List.take_length],l3,l4⟩
end
end
section
variable [Letters]
section
variable {P:Program} {G:bP} {o:Oper} {a:Act} {φ:List cQ} {w:World} {S:Nat->Prop} {hp:List Ob} {tm:Tm} {base:Nat} {d:D} {ups:List (Nat×Ob)} {new:List Ob}
variable {zs:List D} {y:Ty}
def zr {e:TypeId}(hz:jj P e=some zs)(hy:gX P e y):∃zv,(∀w,(zeroValue e).run P w= .ok zv w)/\zv.cells.size=y.size:=by
 obtain⟨i,z,y',hi,hzz,hty,hs,_⟩:=lN hz;have hyy:y'.size=y.size:=by rw[<-hy.cellsOf,<-hty.cellsOf]
 exact⟨z,fun w=>by simp[zeroValue,typeInfo,hi,hzz],by omega⟩
variable {us:List Value}
def p8 {w1:World}(hs1:w1.heap=w.heap){esz:Nat}{xs:LD}{kill:LN}{ad:Option Addr}{cap:Nat}{B:Bool}(hb:Ce B φ w S hp esz xs kill ad us cap):
  (Builtin.firstCells esz us.length (.slice ad us.length cap)).run P w1= .ok (cj us).toArray w1:=by
 obtain⟨hle,hxs,hrow,_⟩:=hb;have hz:∀u∈us,u.cells.size=esz:=by
  intro u hu;obtain⟨b,o',_,hr⟩:=hrow (by grind);exact oc hr u hu
 cases ad with
 |none=>
  have:us=[]:=by
   simp_all
  subst this;rfl
 |some ad=>
  refine run_firstCells_some w1 esz us.length ad us.length cap (cj us) (eB hz) fun j v hj=>?_
  have hne:us≠[]:=by intro e;rw[e]at hj;simp[cj]at hj
  obtain⟨b,o',hh,hr⟩:=hrow hne;simp at hh;subst hh;have:=tP hr j v hj;simp only[World.cell?,hs1]at this ⊢
  simpa[dt]using this
variable {as:List A} {k:Nat} {ts:List TypeId} {ids:LN}
def Nr (cx:Cx G a φ w S hp tm){c:Call}{t u e:TypeId}(ho:o.op= .call c)(hc:c.callee= .builtin .append)(h0:c.argTypes[0]?=some t)(h1:c.argTypes[1]?=some u)(ht:und P t= .slice e)(hu:(∃e2,und P u= .slice e2)\/und P u= .string)(hy:ty P e=some y)(hz:jj P e=some zs)(ha:nb P G ts c.args.toList=some as)(hb:hp[base+k]?=some .unborn)(h:m4 y.size y.bytes base k (as.map (ev tm)) ids (ids.map (aS hp))=some (d,ups,new)):EffOk P o a φ w S hp base d (grow (aw hp ups) new):=by
 have hty:=ek hy;obtain⟨zv,hzv,hzs⟩:=zr hz hty;have hut:=aI ht (by simp);have huu:P.underlying u=some (und P u):=aI rfl (by grind);unfold m4 at h;split at h
 ·rename_i da db heq;obtain⟨va,vb,e1,e2,e3⟩:=CL cx ha heq;split at h
  ·rename_i xs kill hbase;split at h
   ·rename_i ys hys;obtain⟨ad,us,cap,ks,rfl,rfl,hbi⟩:=GE cx.hr e2 hbase;have hel:=nI cx.hr e3 hys;obtain⟨us2,l1,l2,l3,l4⟩:=tC (P:=P) hel;have l2d:(Builtin.firstCells y.size us2.length vb).run P w.drew= .ok (cj us2).toArray w.drew:=l2 w.drew rfl;have l2:=l2 w rfl;have hbody:∀r,(Builtin.append_ c.argTypes o.type #[.slice ad us.length cap,vb]).run P w=r->∀v w2,r= .ok v w2->(execOp a.eval o).run P w= .ok (.value v) w2:=by
     intro r hr v w2 hrr;rw[bJ ho hc,e1];simp only[builtin,Sem.run_bind,hr,hrr,Result.andThen_ok,Sem.run_pure]
    cases hg:(ks.map (fun i=>(i,Ob.dead))).isEmpty&&ys.isEmpty&&!xs.isEmpty with
    |true=>
     simp only[hg,cond_true]at h;obtain⟨rfl,rfl,rfl⟩:=kX h;have hy0:ys=[]:=by simp_all
     have hu0:us2=[]:=lθ (by rw[<-l3.1,hy0];rfl);subst hu0;refine EffOk.value cx.hr (v:= .slice ad us.length cap) ?_ e2;exact hbody _ (jC h0 h1 hut huu hu hty (cs:= #[]) l1 (by simpa[cj]using l2) (by have:=hbi.1;omega) (w2:=w) (by cases ad<;>rfl)) _ _ (by simp)
    |false=>
     simp only[hg,cond_false]at h;cases hlim:(Nat.ble ((2*(xs.length+ys.length)+192)*y.bytes) 281474976710656&&Nat.ble (2*(xs.length+ys.length)+192) 9223372036854775807)with
     |false=>simp_all
     |true=>
      simp only[hlim,lτ]at h;obtain⟨rfl,rfl,rfl⟩:=h;rw[lγ,ble_eq,ble_eq,lδ,lδ]at hlim;rw[hbi.2.1.1,l3.1]at hlim;have hcore:=xH (P:=P) (o:=o) (a:=a) (base:=base) (k:=k) cx.hr hty.pos hbi (e:=e) (fun h=>by cases h) hb l3 l4 (by
        simp_all)
       (fun hroom w2 hst=>hbody _ (jC h0 h1 hut huu hu hty l1 l2 hroom (w2:=w2) (by omega)) _ _ rfl)
       (fun hroom=>⟨grownCap w (us.length+us2.length) cap e,(Builtin.zeroCells zv.cells (grownCap w (us.length+us2.length) cap e - (us.length+us2.length))).toList,_,
        hbody _ (rZ h0 h1 hut huu hu hty hzv l1 l2d (p8 (w:=w) (w1:=w.drew) rfl hbi) hroom hlim.1 hlim.2) _ _ rfl,grownCap_ge _ _ _ _,by
         show w.heap.push _=_;congr 2;simp,by simp[size_zeroCells,hzs],rfl,rfl,rfl⟩)
      simpa[grow,ta]using hcore
   ·simp at h
  ·simp at h
 ·simp at h
def GT (cx:Cx G a φ w S hp tm){c:Call}{t u e:TypeId}(ho:o.op= .call c)(hc:c.callee= .builtin .append)(h0:c.argTypes[0]?=some t)(h1:c.argTypes[1]?=some u)(ht:und P t= .slice e)(hu:(∃e2,und P u= .slice e2)\/und P u= .string)(hy:ty P e=some y)(he8:e=Jp)(hsz1:y.size=1)(hz:jj P e=some zs)(ha:nb P G ts c.args.toList=some as)(hb:hp[base+k]?=some .unborn)(h:xC y.bytes base k (as.map (ev tm)) ids (ids.map (aS hp))=some (d,ups,new)):EffOk P o a φ w S hp base d (grow (aw hp ups) new):=by
 have hty:=ek hy;obtain⟨zv,hzv,hzs⟩:=zr hz hty;have hut:=aI ht (by simp);have huu:P.underlying u=some (und P u):=aI rfl (by grind);unfold xC at h;split at h
 ·rename_i da db heq;obtain⟨va,vb,e1,e2,e3⟩:=CL cx ha heq;split at h
  ·rename_i xs kill hbase;split at h
   ·rename_i ys hys;obtain⟨ad,us,cap,ks,rfl,rfl,hbi⟩:=PM cx.hr e2 hbase;have hel:=nI cx.hr e3 hys;obtain⟨us2,l1,l2,l3,l4⟩:=tC (P:=P) hel;rw[<-hsz1]at hbi l2 l4;have l2d:(Builtin.firstCells y.size us2.length vb).run P w.drew= .ok (cj us2).toArray w.drew:=l2 w.drew rfl;have l2:=l2 w rfl;have hbody:∀r,(Builtin.append_ c.argTypes o.type #[.slice ad us.length cap,vb]).run P w=r->∀v w2,r= .ok v w2->(execOp a.eval o).run P w= .ok (.value v) w2:=by
     intro r hr v w2 hrr;rw[bJ ho hc,e1];simp only[builtin,Sem.run_bind,hr,hrr,Result.andThen_ok,Sem.run_pure]
    cases hg:(ks.map (fun i=>(i,Ob.dead))).isEmpty&&ys.isEmpty&&!xs.isEmpty with
    |true=>
     grind
    |false=>
     simp only[hg,cond_false]at h;cases hlim:(Nat.ble ((2*(xs.length+ys.length)+192)*y.bytes) 281474976710656&&Nat.ble (2*(xs.length+ys.length)+192) 9223372036854775807)with
     |false=>simp_all
     |true=>
      simp only[hlim,lτ]at h;obtain⟨rfl,rfl,rfl⟩:=h;rw[lγ,ble_eq,ble_eq,lδ,lδ]at hlim;rw[hbi.2.1.1,l3.1]at hlim;have hcore:=xH (P:=P) (o:=o) (a:=a) (base:=base) (k:=k) cx.hr hty.pos hbi (e:=e) (fun _=>he8) hb l3 l4 (by
        simp_all)
       (fun hroom w2 hst=>hbody _ (jC h0 h1 hut huu hu hty l1 l2 hroom (w2:=w2) (by omega)) _ _ rfl)
       (fun hroom=>⟨grownCap w (us.length+us2.length) cap e,(Builtin.zeroCells zv.cells (grownCap w (us.length+us2.length) cap e - (us.length+us2.length))).toList,_,
        hbody _ (rZ h0 h1 hut huu hu hty hzv l1 l2d (p8 (w:=w) (w1:=w.drew) rfl hbi) hroom hlim.1 hlim.2) _ _ rfl,grownCap_ge _ _ _ _,by
         show w.heap.push _=_;congr 2;simp,by simp[size_zeroCells,hzs],rfl,rfl,rfl⟩)
      simpa[grow,ta,hsz1]using hcore
   ·simp at h
  ·simp at h
 ·simp at h
def qG {zv:Value}{z:Nat}(hz:zv.cells.size=z)(hpos:0<z)(n:Nat):(Builtin.zeroCells zv.cells n).toList=cj (List.replicate n zv):=by
 have:=gI (n:=n) hz hpos;rw[<-this];simp[Builtin.zeroCells,hz]
def UR (cx:Cx G a φ w S hp tm){c:Call}{t u e:TypeId}{ki:IntKind}{z:Da}(ho:o.op= .call c)(hc:c.callee= .builtin .append)(h0:c.argTypes[0]?=some t)(h1:c.argTypes[1]?=some u)(ht:und P t= .slice e)(hu:und P u= .int ki)(hy:ty P e=some y)(hz:iC P e=some z)(ha:nb P G ts c.args.toList=some as)(hb:hp[base+k]?=some .unborn)(h:TL y.size z y.bytes base k (as.map (ev tm)) ids (ids.map (aS hp))=some (d,ups,new)):EffOk P o a φ w S hp base d (grow (aw hp ups) new):=by
 have hty:=ek hy;obtain⟨zv,y',hzv,hty',hzs,hzr⟩:=lO hz;have hyy:y'.size=y.size:=by rw[<-hty.cellsOf,<-hty'.cellsOf]
 rw[hyy]at hzs;have hut:=aI ht (by simp);have huu:=aI hu (by simp);unfold TL at h;split at h
 ·rename_i da k0 m heq;obtain⟨va,vb,e1,e2,e3⟩:=CL cx ha heq;simp only[VR,PR]at e3;subst e3;split at h
  ·rename_i xs kill hbase;obtain⟨ad,us,cap,ks,rfl,rfl,hbi⟩:=GE cx.hr e2 hbase;have hbody:∀r,(Builtin.append_ c.argTypes o.type #[.slice ad us.length cap,.int k0 m]).run P w=r->∀v w2,r= .ok v w2->(execOp a.eval o).run P w= .ok (.value v) w2:=by
    intro r hr v w2 hrr;rw[bJ ho hc,e1];simp only[builtin,Sem.run_bind,hr,hrr,Result.andThen_ok,Sem.run_pure]
   have hlx:=hbi.2.1.1;have hl:=hbi.1;cases hlim:(aV 0 m&&Nat.ble ((2*(xs.length+m.toNat)+192)*y.bytes) 281474976710656&&Nat.ble (2*(xs.length+m.toNat)+192) 9223372036854775807)with
   |false=>simp[hlim]at h
   |true=>
    simp only[hlim,cond_true]at h;rw[lγ,lγ,dY,ble_eq,ble_eq,lδ,lδ,lδ,hlx]at hlim;cases hg:(ks.map (fun i=>(i,Ob.dead))).isEmpty&&az m 0&&!xs.isEmpty with
    |true=>
     simp only[hg,cond_true]at h;obtain⟨rfl,rfl,rfl⟩:=kX h;rw[lγ,lγ,iu,beq_iff_eq]at hg;have hm:=hg.1.2;subst hm;refine EffOk.value cx.hr (v:= .slice ad us.length cap) ?_ e2;exact hbody _ (pz h0 h1 hut huu hty hzv hlim.1.1 hlim.1.2 hlim.2 (by simp;omega) (w2:=w) (by cases ad<;>simp[Builtin.zeroCells,storeCells])) _ _ (by simp)
    |false=>
     simp only[hg,cond_false,lβ,lτ]at h;obtain⟨rfl,rfl,rfl⟩:=h;have hrep:(List.replicate m.toNat zv).length=m.toNat:=by simp
     have hcore:=xH (P:=P) (o:=o) (a:=a) (base:=base) (k:=k) (us2:=List.replicate m.toNat zv) (ys:=List.replicate m.toNat z) cx.hr hty.pos hbi (e:=e) (fun h=>by cases h) hb (Pw.replicate (hzr w S cx.hr.low) _) (fun u hu=>by rw[List.mem_replicate]at hu;rw[hu.2,hzs]) (by
       intro hk hy0;have:m=0:=by
        have:=congrArg List.length hy0;simp at this;omega
       subst hk this;simpa[iu]using hg)
      (fun hroom w2 hst=>by
       rw[hrep]at hroom ⊢
       exact hbody _ (pz h0 h1 hut huu hty hzv hlim.1.1 hlim.1.2 hlim.2 hroom (w2:=w2) (by
        rw[qG hzs hty.pos];cases ad with|none=>exact hst|some a'=>simpa using hst)) _ _ rfl)
      (fun hroom=>by
       rw[hrep]at hroom ⊢
       refine⟨grownCap w (us.length+m.toNat) cap e,(Builtin.zeroCells zv.cells (grownCap w (us.length+m.toNat) cap e - (us.length+m.toNat))).toList,_,
        hbody _ (Au h0 h1 hut huu hty hzv hlim.1.1 hlim.1.2 hlim.2 (p8 (w:=w) (w1:=w.drew) rfl hbi) hroom hl) _ _ rfl,grownCap_ge _ _ _ _,?_,by simp[size_zeroCells,hzs],rfl,rfl,rfl⟩
       show w.heap.push _=_;congr 2;apply Array.ext';simp[<-qG hzs hty.pos])
     simpa[grow,ta]using hcore
  ·simp at h
 ·simp at h
def y9 {α:Type}{l xs:List α}{off:Nat}(h:off+xs.length<=l.length)(i:Nat):(splice l off xs)[i]?=if i<off then l[i]? else if i<off+xs.length then xs[i - off]? else l[i]?:=by
 unfold splice;grind
def yY {w':World}{b o z lo:Nat}{us2:List Value}{vs vs':Array Value}{t:TypeId}{fz:Nat×Nat}(hh:w.heap[b]?=some (.cells vs t fz))(hh':w'.heap[b]?=some (.cells vs' t fz))(hv:vs'.toList=splice vs.toList (o+lo*z) (cj us2))(hr:rowAt w b o z us)(hz:∀u∈us2,u.cells.size=z)(hlo:lo+us2.length<=us.length)(hfit:o+us.length*z<=vs.size):rowAt w' b o z (splice us lo us2):=by
 have hfl:=eB hz;have hmul:(lo+us2.length)*z<=us.length*z:=lψ z hlo;have hmul2:(lo+us2.length)*z=lo*z+us2.length*z:=mκ ..
 have hold:∀k,w.cell? ⟨b,k,none⟩=vs[k]?:=by intro k;simp[World.cell?,hh]
 have hnew:∀k,w'.cell? ⟨b,k,none⟩=if k<o+lo*z then vs[k]? else if k<o+lo*z+us2.length*z then(cj us2)[k - (o+lo*z)]? else vs[k]?:=by
  intro k;have:w'.cell? ⟨b,k,none⟩=vs'.toList[k]?:=by simp[World.cell?,hh']
  rw[this,hv,y9 (by rw[hfl];simp;omega),hfl];simp
 intro i u hu;rw[y9 hlo]at hu;by_cases h1:i<lo
 ·rw[if_pos h1]at hu;obtain⟨g1,g2⟩:=hr i u hu;refine⟨g1,fun j c hc=>?_⟩
  have hj:j<z:=by
   rcases mδ j z with h|h
   ·exact h
   ·rw[Array.getElem?_eq_none (by omega)]at hc;cases hc
  have hle:(i+1)*z<=lo*z:=lψ z h1;have he:(i+1)*z=i*z+z:=by rw[mκ];simp
  rw[hnew,if_pos (by omega),<-hold];exact g2 j c hc
 ·rw[if_neg h1]at hu;by_cases h2:i<lo+us2.length
  ·rw[if_pos h2]at hu;have hzu:=hz u (mθ hu);refine⟨hzu,fun j c hc=>?_⟩
   have hj:j<z:=by
    rcases mδ j z with h|h
    ·exact h
    ·rw[Array.getElem?_eq_none (by omega)]at hc;cases hc
   have h3:=nM hz hu j c hc;have e1:i*z=lo*z+(i - lo)*z:=by rw[<-mκ];congr 1;omega
   have hle:(i - lo+1)*z<=us2.length*z:=lψ z (by omega);have he:(i - lo+1)*z=(i - lo)*z+z:=by rw[mκ];simp
   rw[hnew,if_neg (by omega),if_pos (by omega)];rw[show o+i*z+j - (o+lo*z)=(i - lo)*z+j by omega];exact h3
  ·rw[if_neg h2]at hu;obtain⟨g1,g2⟩:=hr i u hu;refine⟨g1,fun j c hc=>?_⟩
   have hle:(lo+us2.length)*z<=i*z:=lψ z (by omega);rw[hnew,if_neg (by omega),if_neg (by omega),<-hold];exact g2 j c hc
def Y4 (cx:Cx G a φ w S hp tm){c:Call}{t e:TypeId}(ho:o.op= .call c)(hc:c.callee= .builtin .copy)(h0:c.argTypes[0]?=some t)(ht:und P t= .slice e)(hy:ty P e=some y)(ha:nb P G ts c.args.toList=some as)(h:PH y.size (as.map (ev tm)) ids (ids.map (aS hp))=some (d,ups,new)):EffOk P o a φ w S hp base d (grow (aw hp ups) new):=by
 have hty:=ek hy;have hut:=aI ht (by simp);unfold PH at h;split at h
 ·rename_i id lo len z db heq;obtain⟨va,vb,e1,e2,e3⟩:=CL cx ha heq;split at h
  ·rename_i es hl1;split at h
   ·rename_i ys hys;have hel:=nI cx.hr e3 hys;obtain⟨us0,l1,l2,l3,l4⟩:=xX (P:=P) hel;have l2:=l2 w rfl (us0.take len).length (by rw[mε];exact Nat.min_le_right _ _);replace l3:=l3.take len;replace l4:∀u∈us0.take len,u.cells.size=y.size:=fun u hu=>l4 u (qι hu)
    have htt:us0.take (us0.take len).length=us0.take len:=by
     rw[mε];rcases Nat.le_total len us0.length with h|h
     ·rw[Nat.min_eq_left h]
     ·rw[Nat.min_eq_right h,List.take_length,lξ h]
    rw[htt]at l2;have hmin:Nat.min us0.length len=(us0.take len).length:=by rw[mε];exact Nat.min_comm _ _
    generalize us0.take len=us2 at*
    have hle:(ys.take len).length<=len:=by rw[mε];exact Nat.min_le_left _ _
    generalize ys.take len=ys at*
    have hob:=bC hl1 (by simp);simp only[VR]at e2;obtain⟨b,o',cap,n,ad,hb,hl,hn,rfl,hA⟩:=e2;obtain⟨k0,k1,k2,us,k3,k4⟩:=cx.hr.obj id _ _ hb hob;have hgo:∀n:Nat,∀φ w S,VR φ w S (.p (BB n)) (goInt n):=by intro n φ w S;simp[VR,PR,BB,goInt]
    cases hye:ys.isEmpty with
    |true=>
     simp only[hye,cond_true]at h;have hy0:ys=[]:=by simpa using hye
     have hu0:us2=[]:=lθ (by rw[<-l3.1,hy0];rfl);subst hu0;obtain⟨rfl,rfl,rfl⟩:=kX h;refine EffOk.value cx.hr (v:=goInt 0) ?_ (hgo 0 _ _ _);rw[bJ ho hc,e1];have l2':(Builtin.firstCells y.size 0 vb).run P w= .ok #[] w:=by simpa[cj]using l2
     simp only[List.length_nil]at hmin;cases ad<;>simp[builtin,Builtin.copy_,h0,run_underlying hut,l1,hmin,hty.sizeOf,l2',storeCells]
    |false=>
     simp only[hye,cond_false]at h;cases hcnd:Nat.beq z y.size with
     |false=>simp[hcnd]at h
     |true=>
      simp only[hcnd,cond_true,lβ,lτ]at h;obtain⟨rfl,rfl,rfl⟩:=h;rw[beq_eq,lδ]at hcnd;obtain rfl:=hcnd;have hlen:ys.length=us2.length:=l3.1;have hypos:0<ys.length:=by
       cases ys with
       |nil=>simp at hye
       |cons _ _=>simp
      have hcap:0<cap:=by omega
      obtain⟨vs,t',fz,g1,g2,g3⟩:=k2 hcap;have had:=hA (by omega);subst had;have hesn:es.length=n:=k0;have husn:us.length=n:=by rw[<-k3.1,hesn]
      have hfit:o'+us.length*y.size<=vs.size:=by
       have:us.length*y.size<=cap*y.size:=lψ _ (by omega);omega
      have hlo:lo+us2.length<=us.length:=by omega
      have hfl:=eB l4;have hmul:(lo+us2.length)*y.size<=us.length*y.size:=lψ _ hlo;have hmul2:(lo+us2.length)*y.size=lo*y.size+us2.length*y.size:=mκ ..
      have hsc:∀c∈cj us2,bb c:=by
       intro c hc;obtain⟨u,hu,hcu⟩:=List.mem_flatMap.1 hc;obtain⟨i,hi⟩:=List.getElem?_of_mem hu;obtain⟨x,_,hxu⟩:=l3.get' hi;exact(fx hxu).2 c hcu
      obtain⟨w',q1,q2,q3,q4,q5⟩:=j8 (P:=P) (off:=o'+lo*y.size) g1 g2 (cj us2) 0 vs w rfl (lh g1) (by rw[hfl];omega) hsc;rw[Nat.add_zero]at q2;obtain⟨r1,r2,r3⟩:=j9 q2;have hown:bM (.arr b o' cap y.size n) (.arr es)=some b:=by simp[bM,hcap]
      have hblt:b<w.heap.size:=(cx.hr.own b ⟨id,_,_,hb,hob,hown⟩).2;have hnb:∀b',S b'->b'≠b:=fun b' hs ee=>(cx.hr.own b ⟨id,_,_,hb,hob,hown⟩).1 (ee▸hs)
      have hphi:φ.set id (.arr b o' cap y.size n)=φ:=ej hb;have hst:eO S w w':=fun b' hb'=>r1 b' (hnb b' hb')
      have hput:(bG vs (o'+lo*y.size) (cj us2).toArray).toList=splice vs.toList (o'+lo*y.size) (cj us2):=by
       rw[bz (by simp[hfl];omega)]
      have hps:(bG vs (o'+lo*y.size) (cj us2).toArray).size=vs.size:=by
       have:(bG vs (o'+lo*y.size) (cj us2).toArray).toList.length=vs.toList.length:=by rw[hput];exact cH (by rw[hfl];simp;omega)
       simpa using this
      obtain⟨s1,s2,s3⟩:=cx.hr.one_step (S':=S) (w':=w') (l':= .arr b o' cap y.size n) (o':= .arr (splice es lo ys)) hb hob (fun _=>rfl) (fun b' _ hne=>r1 b' fun ee=>hne (by rw[ee];exact hown)) (Nat.le_of_eq r3.symm) q3 q4 q5 (fun _ h=>h) (fun _ h=> .inl h)
       (fun b' hb'=>by rw[r3];exact cx.hr.low b' hb') (by
        simp only[OR];refine⟨by rw[cH (by omega)];exact hesn,k1,fun _=>⟨_,t',fz,r2 hblt,by rw[hps];exact g2,by rw[hps];exact g3⟩,splice us lo us2,?_,?_⟩
        ·exact(k3.mono fun _ _ hh=>bl hst (fun _ h=>h) _ hh).splice (l3.mono fun _ _ hh=>bl hst (fun _ h=>h) _ hh) lo
        ·exact yY g1 (r2 hblt) hput k4 l4 hlo hfit) (by
        intro b' hb';have hb'':b'=b:=by simp[bM,hcap]at hb';exact hb'.symm
        subst hb'';exact⟨.inl hown,by rw[r3];exact hblt,fun hs=>hnb _ hs rfl⟩)
      rw[hphi]at s1 s2 s3;refine⟨goInt ys.length,w',φ,S,.inl ?_,hgo _ _ _ _,by simpa[grow,aw,bc]using s1,s3,by simpa[grow,aw,bc]using s2,fun _ _=>rfl⟩
      rw[bJ ho hc,e1];simp only[builtin,Builtin.copy_,Sem.run_bind,h0,run_underlying hut,Result.andThen_ok,l1,hmin,hty.sizeOf,l2,q1,Sem.run_pure,hlen];simp[h0,l1,hmin,l2,q1,run_underlying hut,hty.sizeOf]
   ·simp at h
  ·simp at h
 ·simp at h
def Y3 (cx:Cx G a φ w S hp tm){c:Call}{t e:TypeId}{zd:Da}(ho:o.op= .call c)(hc:c.callee= .builtin .clear)(h0:c.argTypes[0]?=some t)(ht:und P t= .slice e)(hz:iC P e=some zd)(hy:ty P e=some y)(ha:nb P G ts c.args.toList=some as)(h:ľ y.size zd (as.map (ev tm)) ids (ids.map (aS hp))=some (d,ups,new)):EffOk P o a φ w S hp base d (grow (aw hp ups) new):=by
 have hty:=ek hy;obtain⟨zv,y',hzv,hty',hzs,hzr⟩:=lO hz;have hyy:y'.size=y.size:=by rw[<-hty.cellsOf,<-hty'.cellsOf]
 rw[hyy]at hzs;have hut:=aI ht (by simp);unfold ľ at h;split at h
 ·rename_i id lo len z heq;obtain⟨va,e1,e2⟩:=s0 cx ha heq;split at h
  ·rename_i es hl1;have hob:=bC hl1 (by simp);simp only[VR]at e2;obtain⟨b,o',cap,n,ad,hb,hl,hn,rfl,hA⟩:=e2;obtain⟨k0,k1,k2,us,k3,k4⟩:=cx.hr.obj id _ _ hb hob;have hgo:∀φ w S,VR φ w S (.tup []) (.tuple #[]):=by
    intro φ w S;simp only[VR];exact⟨#[],rfl,by simp[zF]⟩
   rw[beq_eq]at h;by_cases hl0:len=0
   ·simp only[hl0,decide_true,cond_true]at h;obtain⟨rfl,rfl,rfl⟩:=kX h;refine EffOk.value cx.hr (v:= .tuple #[]) ?_ (hgo _ _ _);rw[bJ ho hc,e1];subst hl0;cases ad<;>simp[builtin,Builtin.clear_,h0,run_underlying hut]
   ·simp only[hl0,decide_false,cond_false]at h;rw[beq_eq]at h;by_cases hzz:z=y.size
    ·subst hzz;simp only[decide_true,cond_true,lβ,lτ]at h;obtain⟨rfl,rfl,rfl⟩:=h;have hcap:0<cap:=by omega
     obtain⟨vs,t',fz,g1,g2,g3⟩:=k2 hcap;have had:=hA (by omega);subst had;have hesn:es.length=n:=k0;have husn:us.length=n:=by rw[<-k3.1,hesn]
     obtain⟨us2,ys,hyr,hrl,l3,l4,hzf⟩:∃(us2:List Value) (ys:LD),List.replicate len zd=ys/\us2.length=len/\Pw (PR w S) ys us2/\(∀u∈us2,u.cells.size=y.size)/\(Builtin.zeroCells zv.cells len).toList=cj us2:=
      ⟨List.replicate len zv,_,rfl,by simp,Pw.replicate (hzr w S cx.hr.low) _,fun u hu=>by rw[List.mem_replicate]at hu;rw[hu.2,hzs],qG hzs hty.pos len⟩
     have hlen:ys.length=us2.length:=l3.1;rw[hyr];have hfit:o'+us.length*y.size<=vs.size:=by
      have:us.length*y.size<=cap*y.size:=lψ _ (by omega);omega
     have hlo:lo+us2.length<=us.length:=by omega
     have hfl:=eB l4;have hmul:(lo+us2.length)*y.size<=us.length*y.size:=lψ _ hlo;have hmul2:(lo+us2.length)*y.size=lo*y.size+us2.length*y.size:=mκ ..
     have hsc:∀c∈cj us2,bb c:=by
      intro c hc;obtain⟨u,hu,hcu⟩:=List.mem_flatMap.1 hc;obtain⟨i,hi⟩:=List.getElem?_of_mem hu;obtain⟨x,_,hxu⟩:=l3.get' hi;exact(fx hxu).2 c hcu
     obtain⟨w',q1,q2,q3,q4,q5⟩:=j8 (P:=P) (off:=o'+lo*y.size) g1 g2 (cj us2) 0 vs w rfl (lh g1) (by rw[hfl];omega) hsc;rw[Nat.add_zero]at q2;obtain⟨r1,r2,r3⟩:=j9 q2;have hown:bM (.arr b o' cap y.size n) (.arr es)=some b:=by simp[bM,hcap]
     have hblt:b<w.heap.size:=(cx.hr.own b ⟨id,_,_,hb,hob,hown⟩).2;have hnb:∀b',S b'->b'≠b:=fun b' hs ee=>(cx.hr.own b ⟨id,_,_,hb,hob,hown⟩).1 (ee▸hs)
     have hphi:φ.set id (.arr b o' cap y.size n)=φ:=ej hb;have hst:eO S w w':=fun b' hb'=>r1 b' (hnb b' hb')
     have hput:(bG vs (o'+lo*y.size) (cj us2).toArray).toList=splice vs.toList (o'+lo*y.size) (cj us2):=by
      rw[bz (by simp[hfl];omega)]
     have hps:(bG vs (o'+lo*y.size) (cj us2).toArray).size=vs.size:=by
      have:(bG vs (o'+lo*y.size) (cj us2).toArray).toList.length=vs.toList.length:=by rw[hput];exact cH (by rw[hfl];simp;omega)
      simpa using this
     obtain⟨s1,s2,s3⟩:=cx.hr.one_step (S':=S) (w':=w') (l':= .arr b o' cap y.size n) (o':= .arr (splice es lo ys)) hb hob (fun _=>rfl) (fun b' _ hne=>r1 b' fun ee=>hne (by rw[ee];exact hown)) (Nat.le_of_eq r3.symm) q3 q4 q5 (fun _ h=>h) (fun _ h=> .inl h)
      (fun b' hb'=>by rw[r3];exact cx.hr.low b' hb') (by
       simp only[OR];refine⟨by rw[cH (by omega)];exact hesn,k1,fun _=>⟨_,t',fz,r2 hblt,by rw[hps];exact g2,by rw[hps];exact g3⟩,splice us lo us2,?_,?_⟩
       ·exact(k3.mono fun _ _ hh=>bl hst (fun _ h=>h) _ hh).splice (l3.mono fun _ _ hh=>bl hst (fun _ h=>h) _ hh) lo
       ·exact yY g1 (r2 hblt) hput k4 l4 hlo hfit) (by
       intro b' hb';have hb'':b'=b:=by simp[bM,hcap]at hb';exact hb'.symm
       subst hb'';exact⟨.inl hown,by rw[r3];exact hblt,fun hs=>hnb _ hs rfl⟩)
     rw[hphi]at s1 s2 s3;refine⟨.tuple #[],w',φ,S,.inl ?_,hgo _ _ _,by simpa[grow,aw,bc]using s1,s3,by simpa[grow,aw,bc]using s2,fun _ _=>rfl⟩
     rw[bJ ho hc,e1];rw[<-hzf]at q1;have hq1:(storeCells ⟨b,o'+lo*y.size,none⟩ (Builtin.zeroCells zv.cells len).toList).run P w= .ok () w':=q1;obtain⟨m,rfl⟩:=Nat.exists_eq_succ_of_ne_zero hl0;simp[builtin,Builtin.clear_,h0,run_underlying hut,hzv,hq1]
    ·simp[hzz]at h
  ·simp at h
 ·simp at h
def UQ (cx:Cx G a φ w S hp tm){c:Call}{t u e:TypeId}(ho:o.op= .call c)(hc:c.callee= .builtin .append)(h0:c.argTypes[0]?=some t)(h1:c.argTypes[1]?=some u)(ht:und P t= .slice e)(hu:(∃e2,und P u= .slice e2)\/und P u= .string)(hy:ty P e=some y)(ha:nb P G ts c.args.toList=some as)(h:TK y.size (as.map (ev tm)) ids (ids.map (aS hp))=some (d,ups,new)):EffOk P o a φ w S hp base d (grow (aw hp ups) new):=by
 have hty:=ek hy;have hut:=aI ht (by simp);have huu:P.underlying u=some (und P u):=aI rfl (by rcases hu with⟨e2,hu⟩|hu<;>rw[hu]<;>simp);unfold TK at h;split at h
 ·rename_i id lo len z db heq;obtain⟨va,vb,e1,e2,e3⟩:=CL cx ha heq;split at h
  ·rename_i ys hys;cases hye:ys.isEmpty with
   |false=>simp[hye]at h
   |true=>
    simp only[hye,cond_true]at h;obtain⟨rfl,rfl,rfl⟩:=kX h;have hel:=nI cx.hr e3 hys;obtain⟨us2,l1,l2,l3,l4⟩:=tC (P:=P) hel;have l2:=l2 w rfl;have hy0:ys=[]:=by simpa using hye
    have hu0:us2=[]:=lθ (by rw[<-l3.1,hy0];rfl);subst hu0;have e2':=e2;simp only[VR]at e2';obtain⟨b,o',cap,n,ad,hb,hl,hn,rfl,hA⟩:=e2';have hbody:∀r,(Builtin.append_ c.argTypes o.type #[.slice ad len (cap - lo),vb]).run P w=r->∀v w2,r= .ok v w2->(execOp a.eval o).run P w= .ok (.value v) w2:=by
     intro r hr v w2 hrr;rw[bJ ho hc,e1];simp only[builtin,Sem.run_bind,hr,hrr,Result.andThen_ok,Sem.run_pure]
    refine EffOk.value cx.hr (v:= .slice ad len (cap - lo)) ?_ e2;exact hbody _ (jC h0 h1 hut huu hu hty (cs:= #[]) l1 (by simpa[cj]using l2) (by simp;omega) (w2:=w) (by cases ad<;>rfl)) _ _ (by simp)
  ·simp at h
 ·simp at h
variable {tx:TypeId} {lo hi mx:Option Operand} {ax:A}
def U2 (cx:Cx G a φ w S hp tm){t te:TypeId}{x:Operand}(ho:o.op= .slice t x lo hi mx)(hs:und P t= .slice te)(ht:ty P te=some y)(hx:cA P G tx x=some ax)(ha:nb P G ts (vD lo hi mx)=some as)(hm:mx.isSome=true)(h:MZ lo.isSome hi.isSome (ev tm ax::as.map (ev tm))=some (d,ups,new)):EffOk P o a φ w S hp base d (grow (aw hp ups) new):=by
 have h1:=aZ cx.tmr cx.gr hx;have h2:=cY cx.tmr cx.gr ha;have hu:=aI hs (by simp);have hty:=ek ht;have hex:∀v,(Instr.sliceAt t (a.eval x) (lo.map a.eval) (hi.map a.eval) (mx.map a.eval)).run P w= .ok v w->(execOp a.eval o).run P w= .ok (.value v) w:=by
  intro v e;simp[execOp,ho,e]
 generalize ev tm ax=dx at*
 unfold MZ at h;split at h
 ·rename_i id lo0 len0 z xs heq;simp only[lω]at heq;obtain⟨rfl,rfl⟩:=heq;simp only[VR]at h1;obtain⟨b,o',cap,nn,b0,hb,hl,hcn,hv,hb0⟩:=h1;split at h
  ·rename_i r hbd;obtain⟨l,h',m⟩:=r;rw[<-hm]at hbd;obtain⟨e1,e2,e3,e4⟩:=f6 (P:=P) (cap:=cap - lo0) h2 hbd (by omega) true;have e5:=jH hu hty (b0:=b0) e1;rw[<-hv]at e5;exact aD cx h (hex _ e5) (by simp only[VR])
  ·simp at h
 ·simp at h
def Γ (hr:HR φ w S hp){id b o' cap z n m:Nat}(hb:φ[id]?=some (.arr b o' cap z n))(h:uA (ids.zip (ids.map (aS hp))) id=some m):m=n/\n<=cap:=by
 unfold uA at h;split at h
 ·rename_i es hl;obtain⟨h0,h1,_⟩:=hr.obj id _ _ hb (bC hl (by simp));simp_all
 ·rename_i es hl;obtain⟨h0,h1,_⟩:=hr.obj id _ _ hb (bC hl (by simp));simp_all
 ·cases h
def Zf (cx:Cx G a φ w S hp tm){t te:TypeId}{x:Operand}(ho:o.op= .slice t x lo hi mx)(hs:und P t= .slice te)(ht:ty P te=some y)(hx:cA P G tx x=some ax)(ha:nb P G ts (vD lo hi mx)=some as)(hh:hi.isSome=true)(hm:mx.isSome=false)(h:ŀ y.size lo.isSome (ev tm ax::as.map (ev tm)) ids (ids.map (aS hp))=some (d,ups,new)):EffOk P o a φ w S hp base d (grow (aw hp ups) new):=by
 have h1:=aZ cx.tmr cx.gr hx;have h2:=cY cx.tmr cx.gr ha;have hu:=aI hs (by simp);have hty:=ek ht;have hex:∀v,(Instr.sliceAt t (a.eval x) (lo.map a.eval) (hi.map a.eval) (mx.map a.eval)).run P w= .ok v w->(execOp a.eval o).run P w= .ok (.value v) w:=by
  intro v e;simp[execOp,ho,e]
 generalize ev tm ax=dx at*
 unfold ŀ at h;split at h
 ·rename_i id lo0 len0 z xs heq;simp only[lω]at heq;obtain⟨rfl,rfl⟩:=heq;simp only[VR]at h1;obtain⟨b,o',cap,nn,b0,hb,hl,hcn,hv,hb0⟩:=h1;rw[beq_eq]at h;by_cases hz:z=y.size
  ·simp only[hz,decide_true,cond_true]at h;split at h
   ·rename_i n hext;obtain⟨rfl,hcap⟩:=Γ cx.hr hb hext;split at h
    ·rename_i l h' m hbd;have hbd2:cz lo.isSome hi.isSome mx.isSome (n - lo0) (as.map (ev tm))=some (l,h',m):=by rw[hh,hm];exact hbd
     obtain⟨e1,e2,e3,e4⟩:(Instr.sliceBounds true len0 (cap - lo0) (lo.map a.eval) (hi.map a.eval) (mx.map a.eval)).run P w= .ok (l,h',if mx.isSome then m else(cap - lo0)) w/\l<=h'/\h'<=m/\m<=n - lo0:=by
      obtain⟨e1,e2⟩:=f6 (P:=P) (cap:=cap - lo0) h2 hbd2 (by omega) true;refine⟨?_,e2⟩;rw[<-e1];cases lo<;>cases hi<;>cases mx<;>first|(simp at hh;done)|(simp at hm;done)|rfl
     have e5:=jH hu hty (b0:=b0) e1;rw[<-hv]at e5;rw[hm]at e5;refine aD cx h (hex _ e5) ?_;simp only[Bool.false_eq_true,if_false,VR];refine⟨b,o',cap,n,_,hz▸hb,by omega,hcn,by rw[show cap - lo0 - l=cap - (lo0+l) by omega],?_⟩
     intro hlt;rw[if_neg (by omega),hb0 (by omega)];simp[dt,hz,mκ,Nat.add_assoc]
    ·simp at h
   ·simp at h
  ·simp[hz]at h
 ·simp at h
def Zg (cx:Cx G a φ w S hp tm){s t:TypeId}{x:Operand}(ho:o.op= .convert s t x)(hq:qZ P s t=some .uns)(hx:cA P G tx x=some ax)(h:Ł [ev tm ax] ((bB .uns [ev tm ax] hp).map (aS hp))=some (d,ups,new)):EffOk P o a φ w S hp base d (grow (aw hp ups) new):=by
 have h1:=aZ cx.tmr cx.gr hx;generalize ev tm ax=dx at*
 unfold Ł at h;split at h
 ·rename_i id off heq;simp at heq;subst heq;simp only[bB,dids.didsL,dids,List.map_nil]at h;split at h
  ·rename_i cs hcs;simp at hcs;have hob:=dH hcs (by simp);cases hg:(Nat.beq off 0&&b3 cs)with
   |false=>simp_all
   |true=>
    simp only[hg,cond_true]at h;rw[lγ,beq_eq,lδ]at hg;obtain⟨rfl,hb3⟩:=hg;have h1':=h1;obtain⟨b,hb,hv⟩:=h1;obtain⟨vs,t',fz,g1,g2,g3,g4,g5⟩:=cx.hr.obj id _ _ hb hob;obtain rfl:=g5 hb3;have hsz:vs.size=3:=by
     unfold b3 at hb3;have:=g3.1;simp_all
    have hsh:w.shape? b=some (EL,3):=by simp[World.shape?,g1,hsz]
    have hrun:(convert s t (.pointer (some ⟨b,0,none⟩))).run P w= .ok (.pointer (some ⟨b,0,none⟩)) w:=by
     unfold qZ at hq;split at hq
     ·grind
     ·grind
     ·grind
     ·grind
     ·rename_i t0 hs ht;split at hq
      ·rename_i j hj;cases hz:Nat.beq j.size 0 with
       |true=>simp_all
       |false=>
        rw[beq_eq,lζ]at hz;exact Lib.run_to_unsafe w ⟨b,0,none⟩ (aI hs (by simp)) (aI ht (by simp)) hj hz hsh (by simp)
      ·grind
     ·rename_i u0 hs ht;split at hq
      ·rename_i j hj;cases hl:liesAt P P.depth EL (3 / P.cellsOf EL) 0 u0 1 with
       |false=>simp_all
       |true=>exact Lib.run_from_unsafe w ⟨b,0,none⟩ (aI hs (by simp)) (aI ht (by simp)) hj hsh hl
      ·grind
     ·grind
    exact aD cx h (v:= .pointer (some ⟨b,0,none⟩)) (by simp only[execOp,ho,hv,Sem.run_bind,hrun,Result.andThen_ok,Sem.run_pure]) (hv▸h1')
  ·simp at h
 ·simp at h
def Qc (cx:Cx G a φ w S hp tm){c:Call}(ho:o.op= .call c)(hc:c.callee= .builtin .unsafeSliceData)(ha:nb P G ts c.args.toList=some as)(h:pZ (as.map (ev tm))=some (d,ups,new)):EffOk P o a φ w S hp base d (grow (aw hp ups) new):=by
 unfold pZ at h;split at h
 ·rename_i id lo len z heq;obtain⟨va,e1,e2⟩:=s0 cx ha heq;cases hg:Nat.beq len 0 with
  |true=>simp_all
  |false=>
   simp only[hg,cond_false]at h;rw[beq_eq,lζ]at hg;obtain⟨b,o',cap,n,ad,hb,hl,hn,rfl,hA⟩:=e2;have had:=hA (by omega);subst had;refine aD cx h (v:= .pointer (some ⟨b,o'+lo*z+0,none⟩)) ?_ (by simp only[VR];grind);rw[bJ ho hc,e1];have hr:=Lib.run_unsafeSliceData_row (P:=P) w c.argTypes o.type ⟨b,o'+lo*z,none⟩ len (cap - lo) (by omega);simp only[builtin,Sem.run_bind,hr,Result.andThen_ok,Sem.run_pure,Nat.add_zero]
 ·rename_i z heq;obtain⟨va,e1,e2⟩:=s0 cx ha heq;obtain⟨a',cap,us,rfl,h1,h2,h3,h4⟩:=e2;have h2':a'=none:=by simpa[gt]using h2.1
  subst h2';refine aD cx h (v:= .pointer none) ?_ (by rfl);rw[bJ ho hc,e1];rfl
 ·simp at h
def zW {e:TypeId}(hc:P.cellsOf e=1)(count off n:Nat)(hn:off+n<=count):liesAt P P.depth e count off e n=true:=by
 have hd:P.depth=(2*(P.types.size+Made.depth)+1)+1:=rfl;rw[hd];simp only[liesAt,mπ];rw[hd];simp[Go.rowAt,hc,hn,sameLayout,Nat.mod_one]
def B2:∀(ns:LI) (ad:Addr) (acc:ByteArray),(∀j n,ns[j]?=some n->w.cell? (ad.add j)=some (.int .u8 n))->
  (loadBytes ad acc ns.length).run P w= .ok (ns.foldl (fun r n=>r.push (UInt8.ofNat n.toNat)) acc) w
 |[],ad,acc,_=>by rfl
 |x::l,ad,acc,h=>by
  have h0:w.cell? ad=some (.int .u8 x):=by
   have:=h 0 x rfl;simpa[Addr.add]using this
  have ih:=B2 l (ad.add 1) (acc.push (UInt8.ofNat x.toNat)) (fun j y hy=>by
   have:=h (j+1) y (by simp_all);have e:(ad.add 1).add j=ad.add (j+1):=by
    unfold Addr.add;grind
   simp_all)
  simp only[List.length_cons,loadBytes,Sem.run_bind,run_load,h0,List.foldl_cons];exact ih
def Wu {pt it ty e:TypeId}(hp:P.underlying pt=some (.pointer e))(hc:P.cellsOf e=1){g off cells:Nat}(hsh:w.shape? g=some (e,cells)){ns:LI}(h0:ns≠[])(hn:off+ns.length<=cells)(h63:ns.length<=9223372036854775807)
  (hcell:∀j x,ns[j]?=some x->w.cell? ((⟨g,off,none⟩:Addr).add j)=some (.int .u8 x)):
  (Builtin.unsafeString_ #[pt,it] ty #[.pointer (some ⟨g,off,none⟩),.int .i64 ns.length]).run P w= .ok (.string (ns.foldl (fun r n=>r.push (UInt8.ofNat n.toNat)) ByteArray.empty)) (w.freeze ⟨g,off,none⟩ ns.length):=by
 have hl:ns.length≠0:=by simp_all
 have hlb:=B2 (P:=P) (w:=w) ns ⟨g,off,none⟩ .empty hcell;have hlies:=zW (P:=P) hc (cells / P.cellsOf e) off ns.length (by simp_all);have h63':¬(9223372036854775807:Int)<(ns.length:Int):=by omega
 obtain⟨p1,p2,p3,hdef⟩:∃(p1 p2:Sem PUnit) (p3:Sem Value),Builtin.unsafeString_ #[pt,it] ty #[.pointer (some ⟨g,off,none⟩),.int .i64 ns.length]=
   (do
    let n <-asInt (.int .i64 ns.length)
    if n<0 then p1
    if n>IntKind.i64.max then p2
    if n=0 then pure (.string .empty)
    else if <-variablesAt ⟨g,off,none⟩ (<-elemOf pt) n.toNat then do
     let s <-loadBytes ⟨g,off,none⟩ .empty n.toNat
     freeze ⟨g,off,none⟩ n.toNat
     pure (.string s)
    else p3):=⟨_,_,_,rfl⟩
 rw[hdef];have hmax:IntKind.i64.max=9223372036854775807:=rfl;have hneg:¬(ns.length:Int)<0:=by omega
 simp[asInt,asIntOf,h63',hneg,hl,variablesAt,hsh,elemOf,run_underlying hp,hlies,hlb]
def Dh (w:World)(ad:Addr)(n:Nat){b:Nat}(h:b≠ad.block):(w.freeze ad n).heap[b]?=w.heap[b]?:=by
 unfold World.freeze;grind
def Dg (w:World)(ad:Addr)(n:Nat):(w.freeze ad n).heap.size=w.heap.size/\(w.freeze ad n).os=w.os/\(w.freeze ad n).tape=w.tape/\(w.freeze ad n).output=w.output:=by
 unfold World.freeze;grind
def U4 (cx:Cx G a φ w S hp tm){c:Call}{pt it:TypeId}(ho:o.op= .call c)(hc:c.callee= .builtin .unsafeString)(hat:c.argTypes.toList=[pt,it])(hpt:und P pt= .pointer Jp)(h1c:P.cellsOf Jp=1)(ha:nb P G ts c.args.toList=some as)(h:Bd (as.map (ev tm)) ids (ids.map (aS hp))=some (d,ups,new)):EffOk P o a φ w S hp base d (grow (aw hp ups) new):=by
 unfold Bd at h;split at h
 ·rename_i id i off k n heq;obtain⟨va,vb,e1,e2,e3⟩:=CL cx ha heq;subst e3;obtain⟨b,o',cap,z,m,hb,hi,rfl⟩:=e2;split at h
  ·rename_i es hl;cases hg:(Nat.beq off 0&&((aV 1 n&&aV n 9223372036854775807)&&Nat.ble (i+n.toNat) es.length))with
   |false=>simp_all
   |true=>
    simp only[hg,cond_true]at h;split at h
    ·rename_i hk;subst hk;split at h
     ·rename_i s hs;obtain⟨rfl,rfl,rfl⟩:=h;simp only[lγ,beq_eq,dY,ble_eq,lδ]at hg;obtain⟨rfl,⟨hn1,hn2⟩,hle⟩:=hg;have hob:=bC hl (by simp);obtain⟨h0,h1,h2,us,h3,h4⟩:=cx.hr.obj id _ _ hb hob;have hcap:0<cap:=by omega
      obtain⟨vs,t,fz,g1,g2,g3,rfl⟩:=h2 hcap;obtain⟨ns,hns,rfl⟩:=xO ((h3.drop i).take n.toNat) hs;have hul:=h3.1;have hz:z=1:=by
       cases ns with
       |nil=>
        simp_all;omega
       |cons x r=>
        have h5:us[i]?=some (.int .u8 x):=by
         have h6:=congrArg (fun l=>l[0]?) hns;grind
        exact((h4 i _ h5).1).symm
      subst hz;have hnl:ns.length=n.toNat:=by
       have:=congrArg List.length hns;grind
      have hnn:n=(ns.length:Int):=by grind
      have hcell:∀j x,ns[j]?=some x->w.cell? ((⟨b,o'+i*1+0,none⟩:Addr).add j)=some (.int .u8 x):=by
       intro j x hj;have hj':us[i+j]?=some (.int .u8 x):=by
        have h5:=congrArg (fun l=>l[j]?) hns;grind
       have h6:=(h4 (i+j) _ hj').2 0 (.int .u8 x) (by rfl);rw[dt];grind
      have hsh:w.shape? b=some (Jp,vs.size):=by simp[World.shape?,g1]
      have hrun:=Wu (P:=P) (w:=w) (ty:=o.type) (it:=it) (aI hpt (by simp)) h1c (off:=o'+i*1+0) hsh (ns:=ns) (by grind) (by omega) (by omega) hcell;obtain⟨k1,k2,k3,k4⟩:=Dg w ⟨b,o'+i*1+0,none⟩ ns.length;have hown:bM (.arr b o' cap 1 m) (.byt es)=some b:=by simp[bM,hcap]
      have hold:∀b',b'≠b->(w.freeze ⟨b,o'+i*1+0,none⟩ ns.length).heap[b']?=w.heap[b']?:=fun b' hne=>Dh w _ _ hne
      have hphi:φ.set id (.arr b o' cap 1 m)=φ:=ej hb;obtain⟨s1,s2,s3⟩:=cx.hr.one_step (S':=S) (w':=w.freeze ⟨b,o'+i*1+0,none⟩ ns.length) (l':= .arr b o' cap 1 m) (o':= .dead) hb hob (fun _=>rfl) (fun b' _ hne=>hold b' fun ee=>hne (by grind)) (Nat.le_of_eq k1.symm) k2 k3 k4 (fun _ h=>h) (fun _ h=> .inl h)
       (fun b' hb'=>by rw[k1];exact cx.hr.low b' hb') (by simp only[OR]) (by
        intro b' hb';simp[bM]at hb')
      rw[hphi]at s1 s2 s3;refine⟨.string (ns.foldl (fun r n=>r.push (UInt8.ofNat n.toNat)) ByteArray.empty),w.freeze ⟨b,o'+i*1+0,none⟩ ns.length,φ,S,.inl ?_,?_,by simpa[grow,aw,bc]using s1,s3,by simpa[grow,aw,bc]using s2,fun _ _=>rfl⟩
      ·rw[bJ ho hc,e1];have hat':c.argTypes= #[pt,it]:=by
        grind
       rw[hat',hnn];simp only[builtin,Sem.run_bind,hrun,Result.andThen_ok,Sem.run_pure]
      ·refine⟨_,rfl,?_⟩;rw[BY];simp
     ·simp at h
    ·simp at h
  ·simp at h
 ·rename_i k n heq;obtain⟨va,vb,e1,e2,e3⟩:=CL cx ha heq;subst e2 e3;cases hn:az n 0 with
  |false=>simp_all
  |true=>
   rw[iu,beq_iff_eq]at hn;subst hn;split at h
   ·rename_i hk;refine aD cx h (v:= .string .empty) ?_ (by simp[VR,PR]);rw[bJ ho hc,e1];have hat':c.argTypes= #[pt,it]:=by
     grind
    rw[hat'];rfl
   ·simp at h
 ·simp at h
end
end
section
variable [Letters]
section
variable {P:Program} {G:bP} {a:Act} {φ:List cQ} {w:World} {S:Nat->Prop} {hp:List Ob} {tm:Tm} {o:Oper} {d:D} {ups:List (Nat×Ob)} {new:List Ob} {base:Nat}
def Ze (cx:Cx G a φ w S hp tm){t te tx:TypeId}{ts:List TypeId}{x:Operand}{lo hi mx:Option Operand}{ax:A}{as:List A}{y:Ty}(ho:o.op= .slice t x lo hi mx)(hs:und P t= .slice te)(ht:ty P te=some y)(hx:cA P G tx x=some ax)
  (ha:nb P G ts (vD lo hi mx)=some as) (hm:mx.isSome=false)
  (h:PJ y.size lo.isSome hi.isSome (ev tm ax::as.map (ev tm))=some (d,ups,new)):EffOk P o a φ w S hp base d (grow (aw hp ups) new):=by
 have h1:=aZ cx.tmr cx.gr hx;have h2:=cY cx.tmr cx.gr ha;have hu:=aI hs (by simp);have hty:=ek ht;have hex:∀v,(Instr.sliceAt t (a.eval x) (lo.map a.eval) (hi.map a.eval) (mx.map a.eval)).run P w= .ok v w->(execOp a.eval o).run P w= .ok (.value v) w:=by
  intro v e;simp[execOp,ho,e]
 generalize ev tm ax=dx at*
 unfold PJ at h;split at h
 ·rename_i id lo0 len0 z xs heq;simp only[lω]at heq;obtain⟨rfl,rfl⟩:=heq;simp only[VR]at h1;obtain⟨b,o',cap,nn,b0,hb,hl,hcn,hv,hb0⟩:=h1;rw[beq_eq]at h;by_cases hz:z=y.size
  ·simp only[hz,decide_true,cond_true]at h;split at h
   ·rename_i l h' m hbd;have hbd2:cz lo.isSome hi.isSome mx.isSome len0 (as.map (ev tm))=some (l,h',m):=by rw[hm];exact hbd
    obtain⟨e1,e2,e3,e4⟩:=f6 (P:=P) (cap:=cap - lo0) h2 hbd2 (by omega) true;have e5:=jH hu hty (b0:=b0) e1;rw[<-hv]at e5;rw[hm]at e5;refine aD cx h (hex _ e5) ?_;simp only[Bool.false_eq_true,if_false,VR];refine⟨b,o',cap,nn,_,hz▸hb,by omega,hcn,by rw[show cap - lo0 - l=cap - (lo0+l) by omega],?_⟩
    intro hlt;rw[if_neg (by omega),hb0 (by omega)];simp[dt,hz,mκ,Nat.add_assoc]
   ·simp at h
  ·simp[hz]at h
 ·simp at h
end
def em:O->Bool
 | .call _ _=>true
 | .callv=>true
 | .clone=>true
 |_=>false
section
variable {P:Program} {G:bP} {o:Oper} {a:Act} {φ:List cQ} {w:World} {S:Nat->Prop} {hp:List Ob} {tm:Tm} {base:Nat} {d:D} {ups:List (Nat×Ob)} {new:List Ob}
def HY {t:TypeId}(h1:∀ms,und P t≠ .interface ms)(h2:und P t≠ .invalid):∃e,P.underlying t=some e/\∀ms,e≠ .interface ms:=
 ⟨_,aI rfl h2,h1⟩
def bu {α β:Type}{a b:α}{c e:β}(h:some (a,c)=some (b,e)):a=b/\c=e:=by simp_all
variable {k:Nat}
def tA (cx:Cx G a φ w S hp tm){raw:Nat->Bool}{c:Call}{b:Builtin}{q:O}{as:List A}(ho:o.op= .call c)(hc:c.callee= .builtin b)(hq:nz P G raw c=some (q,as)){call:aG}{len:Nat}(hmk:ep q=true->hp[base+k]?=some .unborn)(h:oX call base q k (as.map (ev tm)) (bB q (as.map (ev tm)) hp) ((bB q (as.map (ev tm)) hp).map (aS hp)) len=some (d,ups,new)):EffOk P o a φ w S hp base d (grow (aw hp ups) new):=by
 unfold nz at hq;rw[hc]at hq;simp only at hq;split at hq
 ·rename_i as' has;cases b<;>simp only[reduceCtorEq]at hq;case len=>
   split at hq
   ·rename_i t ht;split at hq
    ·rename_i hu;obtain⟨rfl,rfl⟩:=bu hq;exact CZ cx ho hc ht (.inl ⟨rfl,hu⟩) has h
    ·rename_i e hu;obtain⟨rfl,rfl⟩:=bu hq;exact CZ cx ho hc ht (.inr (.inl ⟨rfl,e,hu⟩)) has h
    ·rename_i k e hu;obtain⟨rfl,rfl⟩:=bu hq;exact CZ cx ho hc ht (.inr (.inr ⟨rfl,k,e,hu⟩)) has h
    ·simp at hq
   ·simp at hq
  case cap=>
   split at hq
   ·rename_i t ht;split at hq
    ·rename_i e hu;obtain⟨rfl,rfl⟩:=bu hq;exact Y2 cx ho hc ht hu has h
    ·simp at hq
   ·simp at hq
  case append=>
   split at hq
   ·rename_i t u h0 h1;split at hq
    ·rename_i e e2 ht hu;split at hq
     ·rename_i y zs hy hz;obtain⟨hq1,rfl⟩:=bu hq;cases h6:(raw 6000000&&(Nat.beq e Jp&&Nat.beq y.size 1))with
      |true=>
       rw[h6,cond_true]at hq1;subst hq1;rw[lγ,lγ,beq_eq,beq_eq,lδ,lδ]at h6;exact GT cx ho hc h0 h1 ht (.inl ⟨e2,hu⟩) hy h6.2.1 h6.2.2 hz has (hmk rfl) h
      |false=>
      rw[h6,cond_false]at hq1;cases hm:raw 3000000 with
      |false=>
       rw[hm]at hq1;simp only[cond_false]at hq1;subst hq1;exact Nr cx ho hc h0 h1 ht (.inl ⟨e2,hu⟩) hy hz has (hmk rfl) h
      |true=>
       rw[hm]at hq1;simp only[cond_true]at hq1;subst hq1;exact UQ cx ho hc h0 h1 ht (.inl ⟨e2,hu⟩) hy has h
     ·simp at hq
    ·rename_i e ht hu;split at hq
     ·rename_i y zs hy hz;obtain⟨hq1,rfl⟩:=bu hq;cases h6:(raw 6000000&&(Nat.beq e Jp&&Nat.beq y.size 1))with
      |true=>
       rw[h6,cond_true]at hq1;subst hq1;rw[lγ,lγ,beq_eq,beq_eq,lδ,lδ]at h6;exact GT cx ho hc h0 h1 ht (.inr hu) hy h6.2.1 h6.2.2 hz has (hmk rfl) h
      |false=>
       rw[h6,cond_false]at hq1;subst hq1;exact Nr cx ho hc h0 h1 ht (.inr hu) hy hz has (hmk rfl) h
     ·simp at hq
    ·rename_i e ht hu;split at hq
     ·rename_i z y hz hy;obtain⟨rfl,rfl⟩:=bu hq;exact UR cx ho hc h0 h1 ht hu hy hz has (hmk rfl) h
     ·simp at hq
    ·simp at hq
   ·simp at hq
  case copy=>
   split at hq
   ·rename_i t h0;split at hq
    ·rename_i e ht;split at hq
     ·rename_i y hy;obtain⟨rfl,rfl⟩:=bu hq;exact Y4 cx ho hc h0 ht hy has h
     ·simp at hq
    ·simp at hq
   ·simp at hq
  case clear=>
   split at hq
   ·rename_i t h0;split at hq
    ·rename_i e ht;split at hq
     ·rename_i z y hz hy;obtain⟨rfl,rfl⟩:=bu hq;exact Y3 cx ho hc h0 ht hz hy has h
     ·simp at hq
    ·simp at hq
   ·simp at hq
  case min=>
   split at hq
   ·obtain⟨rfl,rfl⟩:=bu hq;exact Zb cx ho hc has h
   ·simp at hq
  case max=>
   split at hq
   ·obtain⟨rfl,rfl⟩:=bu hq;exact Za cx ho hc has h
   ·simp at hq
  case unsafeSliceData=>
   obtain⟨rfl,rfl⟩:=bu hq;exact Qc cx ho hc has h
  case unsafeString=>
   split at hq
   ·rename_i pt it hat;split at hq
    ·rename_i e hpt;cases hg:(Nat.beq e Jp&&Nat.beq (P.cellsOf Jp) 1)with
     |false=>rw[hg]at hq;simp at hq
     |true=>
      rw[hg,cond_true]at hq;rw[lγ,beq_eq,beq_eq,lδ,lδ]at hg;obtain⟨rfl,h1c⟩:=hg;obtain⟨rfl,rfl⟩:=bu hq;exact U4 cx ho hc hat hpt h1c has h
    ·simp at hq
   ·simp at hq
 ·simp at hq
def KS {fn : Func} (h : fn.name = "internal/abi.NoEscape") : Extern.find fn = some Extern.AbiNoEscape.same := by
 unfold Extern.find;simp only[h];rfl
def Qb (cx : Cx G a φ w S hp tm) {c : Call} {f : Nat} {fn : Func} {as : List A} (ho : o.op = .call c) (hc : c.callee = .value (.func f)) (hfn : P.funcs[f]? = some fn) (hb : fn.body = none) (hname : fn.name = "internal/abi.NoEscape") (hnx : Extern.findNext fn = none) {ts : List TypeId} (ha : nb P G ts c.args.toList = some as)
  (h:d_ (as.map (ev tm))=some (d,ups,new)):EffOk P o a φ w S hp base d (grow (aw hp ups) new):=by
 unfold d_ at h;split at h
 ·rename_i x heq;obtain⟨v,e1,e2⟩:=s0 cx ha heq;refine aD cx h (v:=v) ?_ e2;have hx:a.eval (.func f)= .func (.func f) #[] #[]:=rfl;have e:(execOp a.eval o).run P w=(callFunc f (#[]++c.args.map a.eval++ #[])).run P w:=by
   simp[execOp,ho,resolve,hc,hx,Deferred.ofValue,invoke]
  rw[e,run_callFunc_extern hfn (by rw[hname];rfl) (by rw[hb];rfl) hnx (KS hname)];rw[show #[]++c.args.map a.eval++ #[]= #[v] by rw[e1];rfl,Lib.run_noEscape];rfl
 ·simp at h
def YQ {raw : Nat → Bool} {c : Call} {x : Operand} {q : O} {as : List A} (hc : c.callee = .value x) (hq : nz P G raw c = some (q, as)) : em q = true ∨ ∃ f fn, x = .func f ∧ P.funcs[f]? = some fn ∧ fn.body = none ∧ fn.name = "internal/abi.NoEscape" ∧ Extern.findNext fn = none ∧ q = .mv ∧ nb P G c.argTypes.toList c.args.toList = some as := by
 unfold nz at hq;rw[hc]at hq;simp only at hq;split at hq
 ·split at hq
  ·rename_i f heq _ _ fn as' hfn has;split at hq
   ·obtain⟨rfl,rfl⟩:=bu hq;exact .inl rfl
   ·rename_i hbody;cases hcl : (fn.name == "maps.clone" && (Extern.findNext fn).isNone) with
    |true=>rw[hcl,cond_true]at hq;obtain⟨rfl,rfl⟩:=bu hq;exact .inl rfl
    |false=>
     rw[hcl,cond_false]at hq;cases hne : (fn.name == "internal/abi.NoEscape" && (Extern.findNext fn).isNone) with
     |false=>rw[hne]at hq;simp at hq
     |true=>
      rw[hne,cond_true]at hq;obtain⟨rfl,rfl⟩:=bu hq;rw[lγ,beq_iff_eq]at hne;simp only[Callee.value.injEq]at heq;exact .inr ⟨f,fn,heq,hfn,hbody,hne.1,by simpa using hne.2,rfl,has⟩
  ·simp at hq
 ·split at hq
  ·obtain⟨rfl,rfl⟩:=bu hq;exact .inl rfl
  ·simp at hq
 ·rename_i hb;simp at hb
 ·rename_i hb;simp at hb
variable {raw:Nat->Bool}
def Zc (cx:Cx G a φ w S hp tm){q:O}{as:List A}(hq:Um P G raw o=some (q,as)){call:aG}{len:Nat}(hnc:em q=false)(hmk:ep q=true->hp[base+k]?=some .unborn)(h:oX call base q k (as.map (ev tm)) (bB q (as.map (ev tm)) hp) ((bB q (as.map (ev tm)) hp).map (aS hp)) len=some (d,ups,new)):EffOk P o a φ w S hp base d (grow (aw hp ups) new):=by
 unfold Um at hq;split at hq
 ·rename_i x ho;obtain⟨ax,hx,he⟩:=dy hq;cases he;exact UZ cx (.inl ho) hx h
 ·rename_i x ho;obtain⟨ax,hx,he⟩:=dy hq;cases he;exact UZ cx (.inr ho) hx h
 ·rename_i c x y ho;split at hq
  ·rename_i ac ax ay hc hx hy;obtain⟨rfl,rfl⟩:=bu hq;exact U0 cx ho hc hx hy h
  ·simp at hq
 ·rename_i t ho;split at hq
  ·rename_i zs hz;cases hbt:(b3 zs&&!Nat.beq t EL)with
   |true=>rw[hbt]at hq;simp at hq
   |false=>
   rw[hbt,cond_false]at hq;obtain⟨rfl,rfl⟩:=bu hq;exact P8 cx ho hz (fun h3=>by
    rw[h3,Bool.true_and,Bool.not_eq_false',beq_eq,lδ]at hbt;exact hbt) (hmk rfl) h
  ·simp at hq
 ·rename_i t x ho;split at hq
  ·rename_i y hy;cases hys:Nat.beq y.size 1000003 with
   |true=>rw[hys]at hq;simp at hq
   |false=>
   rw[hys,cond_false]at hq;rw[beq_eq,lζ]at hys;obtain⟨ax,hx,he⟩:=dy hq;cases he;exact Y1 cx ho hx (fun hn=>by
    cases htb:Nat.beq t EL with
    |true=>rw[beq_eq,lδ]at htb;exact htb
    |false=>
     rw[htb,cond_false]at hn;exact absurd hn hys) (hmk rfl) h
  ·simp at hq
 ·rename_i t parts ho;split at hq
  ·rename_i zs ps as' y hz hp1 ha hy;cases hc:(y.agg&&vP P t)with
   |false=>simp[hc]at hq
   |true=>
    simp only[hc,cond_true]at hq;obtain⟨rfl,rfl⟩:=bu hq;rw[lγ]at hc;exact P9 cx ho hz hp1 ha hy hc.1 hc.2 h
  ·simp at hq
 ·rename_i t n parts ho;split at hq
  ·rename_i e hs;split at hq
   ·rename_i z y as' hz hy ha;cases hc:Nat.ble (n*y.size) 16777216 with
    |false=>simp[hc]at hq
    |true=>
     simp only[hc,cond_true]at hq;obtain⟨hq1,rfl⟩:=bu hq;rw[ble_eq,lδ]at hc;cases hm:raw (1000000+t)with
     |false=>
      rw[hm]at hq1;simp only[cond_false]at hq1;cases hm2:raw (2000000+t)with
      |false=>
       rw[hm2]at hq1;simp only[cond_false]at hq1;subst hq1;exact Ns cx ho hs hz hy ha hc h
      |true=>
       rw[hm2]at hq1;simp only[cond_true]at hq1;subst hq1;exact US cx ho hs hz hy ha hc h
     |true=>
      rw[hm]at hq1;simp only[cond_true]at hq1;subst hq1;exact UT cx ho hs hz hy ha hc (hmk rfl) h
   ·simp at hq
  ·simp at hq
 ·rename_i t x ho;split at hq
  ·rename_i y hy;obtain⟨ax,hx,he⟩:=dy hq;cases he;exact UV cx ho hy hx h
  ·simp at hq
 ·rename_i t p x ho;split at hq
  ·rename_i y hy;obtain⟨ap,ax,hp1,hx,he⟩:=iM hq;cases he;exact Qe cx ho hy hp1 hx h
  ·simp at hq
 ·rename_i x ho;obtain⟨ax,hx,he⟩:=dy hq;cases he;exact Qa cx ho hx h
 ·rename_i op t x y yt ho;split at hq
  ·rename_i q' hb;obtain⟨ax,ay,hx,hy,he⟩:=iM hq;cases he;exact Y0 cx ho hb hx hy h
  ·simp at hq
 ·rename_i op t x ho;split at hq
  ·obtain⟨ax,hx,he⟩:=dy hq;cases he;exact U3 cx ho hx h
  ·obtain⟨ax,hx,he⟩:=dy hq;cases he;exact U3 cx ho hx h
  ·simp at hq
 ·rename_i s t x ho;split at hq
  ·rename_i q' hcv;obtain⟨ax,hx,he⟩:=dy hq;cases he;by_cases hb:q= .b2s
   ·subst hb;unfold qZ at hcv;split at hcv
    ·simp at hcv
    ·simp at hcv
    ·rename_i e hs ht;split at hcv
     ·rename_i he;exact YZ cx ho hs ht he hx h
     ·simp at hcv
    ·rename_i e hs ht;split at hcv
     ·simp at hcv
     ·simp at hcv
    ·split at hcv
     ·cases hz:Nat.beq _ 0<;>rw[hz]at hcv<;>simp at hcv
     ·simp at hcv
    ·split at hcv
     ·cases hz:liesAt P P.depth EL (3 / P.cellsOf EL) 0 _ 1<;>rw[hz]at hcv<;>simp at hcv
     ·simp at hcv
    ·simp at hcv
   ·by_cases hb2:q= .s2b
    ·subst hb2;unfold qZ at hcv;split at hcv
     ·simp at hcv
     ·simp at hcv
     ·split at hcv
      ·simp at hcv
      ·simp at hcv
     ·rename_i e hs ht;split at hcv
      ·rename_i he;exact Zd cx ho hs ht he hx h
      ·simp at hcv
     ·split at hcv
      ·cases hz:Nat.beq _ 0<;>rw[hz]at hcv<;>simp at hcv
      ·simp at hcv
     ·split at hcv
      ·cases hz:liesAt P P.depth EL (3 / P.cellsOf EL) 0 _ 1<;>rw[hz]at hcv<;>simp at hcv
      ·simp at hcv
     ·simp at hcv
    ·by_cases hb3:q= .uns
     ·subst hb3;exact Zg cx ho hcv hx h
     ·exact UU cx ho hcv hx h ⟨hb,hb2,hb3⟩
  ·simp at hq
 ·rename_i t x ho;split at hq
  ·simp at hq
  ·simp at hq
  ·rename_i h1 h2;obtain⟨ax,hx,he⟩:=dy hq;cases he;exact UX cx ho (HY h1 h2) hx h
 ·rename_i f first captured ho
  cases hb:Nat.blt f 1000000 with
  |false=>simp[hb]at hq
  |true=>
   simp only[hb,cond_true]at hq;split at hq
   ·rename_i as' ha;obtain⟨rfl,rfl⟩:=bu hq;exact UW cx ho (Nat.le_of_ble_eq_true hb) ha h
   ·simp at hq
 ·rename_i t r ho;split at hq
  ·obtain⟨rfl,rfl⟩:=bu hq;exact Br cx ho (.inl rfl) (hmk rfl) h
  ·rename_i kk n;split at hq
   ·rename_i x y hu;obtain⟨rfl,rfl⟩:=bu hq;exact Br cx ho (.inr ⟨⟨kk,n,rfl⟩,x,y,aI hu (by simp)⟩) (hmk rfl) h
   ·simp at hq
  ·simp at hq
 ·rename_i t l c ho;split at hq
  ·rename_i e hs;split at hq
   ·rename_i z y hz hy;obtain⟨al,ac,hl,hc,he⟩:=iM hq;cases he;exact UY cx ho hs hz hy hl hc (hmk rfl) h
   ·simp at hq
  ·simp at hq
 ·rename_i t x lo hi mx ho;split at hq
  ·rename_i ax as' hx ha;split at hq
   ·rename_i hs;cases mx with
    |some m=>simp at hq
    |none=>
     simp at hq;obtain⟨rfl,rfl⟩:=hq;exact Qd cx ho hs hx ha h
   ·rename_i e hs;split at hq
    ·rename_i y hy;obtain⟨hq1,rfl⟩:=bu hq;cases hc0:raw 5000000&&!mx.isSome with
     |true=>
      rw[hc0]at hq1;simp only[cond_true]at hq1;subst hq1;rw[lγ]at hc0;exact Ze cx ho hs hy hx ha (by simpa using hc0.2) h
     |false=>
     rw[hc0]at hq1;simp only[cond_false]at hq1;cases hc1:raw 3000000&&(hi.isSome&&!mx.isSome)with
     |true=>
      rw[hc1]at hq1;simp only[cond_true]at hq1;subst hq1;rw[lγ,lγ]at hc1;exact Zf cx ho hs hy hx ha hc1.2.1 (by simpa using hc1.2.2) h
     |false=>
      rw[hc1]at hq1;simp only[cond_false]at hq1;cases hc2:raw 3000000&&mx.isSome with
      |true=>
       rw[hc2]at hq1;simp only[cond_true]at hq1;subst hq1;rw[lγ]at hc2;exact U2 cx ho hs hy hx ha hc2.2 h
      |false=>
       rw[hc2]at hq1;simp only[cond_false]at hq1;subst hq1;exact GV cx ho hs hy hx ha h
    ·simp at hq
   ·simp at hq
  ·simp at hq
 ·rename_i s x i ho;split at hq
  ·rename_i fs hs;split at hq
   ·rename_i f hf;split at hq
    ·rename_i y hy;obtain⟨ax,hx,he⟩:=dy hq;cases he;exact ŵ cx ho hs hf hy hx h
    ·simp at hq
   ·simp at hq
  ·simp at hq
 ·rename_i s x i ho;split at hq
  ·rename_i fs hs;split at hq
   ·rename_i f hf;split at hq
    ·rename_i y hy;obtain⟨ax,hx,he⟩:=dy hq;cases he;exact Y6 cx ho hs hf hy hx h
    ·simp at hq
   ·simp at hq
  ·simp at hq
 ·rename_i t x i ho;split at hq
  ·rename_i e hs;split at hq
   ·rename_i y hy;obtain⟨ax,ai,hx,hi,he⟩:=iM hq;cases he;exact Ŷ cx ho hs hy hx hi h
   ·simp at hq
  ·rename_i n e hs;split at hq
   ·rename_i y hy;obtain⟨ax,ai,hx,hi,he⟩:=iM hq;cases he;exact Y7 cx ho hs hy hx hi h
   ·simp at hq
  ·simp at hq
 ·rename_i t x i ho;split at hq
  ·rename_i hs;obtain⟨ax,ai,hx,hi,he⟩:=iM hq;cases he;exact ŷ cx ho hs hx hi h
  ·rename_i n e hs;split at hq
   ·rename_i y hy;obtain⟨ax,ai,hx,hi,he⟩:=iM hq;cases he;exact Y8 cx ho hs hy hx hi h
   ·simp at hq
  ·simp at hq
 ·rename_i t x i ok ho;split at hq
  ·rename_i k' e hs;cases hk:eD (und P k')with
   |false=>simp[hk]at hq
   |true=>
    simp only[hk,cond_true]at hq;split at hq
    ·rename_i z hz;obtain⟨ax,ai,hx,hi,he⟩:=iM hq;cases he;exact Y9 cx ho hs hk hz hx hi h
    ·simp at hq
  ·simp at hq
 ·rename_i t m k' x ho;split at hq
  ·rename_i kt e hs;cases hk:eD (und P kt)with
   |false=>simp[hk]at hq
   |true=>
    simp only[hk,cond_true]at hq;split at hq
    ·rename_i am ak ax hm hk' hx;obtain⟨rfl,rfl⟩:=bu hq;exact GU cx (.inl ho) hs hk hm hk' hx h
    ·simp at hq
  ·simp at hq
 ·rename_i t m k' x ho;split at hq
  ·rename_i kt e hs;cases hk:eD (und P kt)with
   |false=>simp[hk]at hq
   |true=>
    simp only[hk,cond_true]at hq;split at hq
    ·rename_i am ak ax hm hk' hx;obtain⟨rfl,rfl⟩:=bu hq;exact GU cx (.inr ho) hs hk hm hk' hx h
    ·simp at hq
  ·simp at hq
 ·rename_i x xt t ok ho;split at hq
  ·simp at hq
  ·simp at hq
  ·rename_i h1 h2;split at hq
   ·rename_i z hz;obtain⟨ax,hx,he⟩:=dy hq;cases he;exact KJ cx ho (HY h1 h2) hz hx h
   ·simp at hq
 ·rename_i x i ho;obtain⟨ax,hx,he⟩:=dy hq;cases he;exact Y5 cx ho hx h
 ·rename_i x ho;obtain⟨ax,hx,he⟩:=dy hq;cases he;simp[oX]at h
 ·rename_i c ho;cases hc:c.callee with
  |builtin b=>exact tA cx ho hc hq hmk h
  |value x=>
   rcases YQ hc hq with hcc|⟨f,fn,rfl,hfn,hbody,hname,hnx,rfl,has⟩
   ·rw[hcc]at hnc;simp at hnc
   ·exact Qb cx ho hc hfn hbody hname hnx has h
  |invoke i m=>
   unfold nz at hq;rw[hc]at hq;simp at hq
 ·simp at hq
def Ÿ (cx:Cx G a φ w S hp tm){q:O}{as:List A}(hq:Ŕ P G raw o=some (q,as)){call:aG}{len:Nat}(hnc:em q=false)(hmk:ep q=true->hp[base+k]?=some .unborn)(h:oX call base q k (as.map (ev tm)) (bB q (as.map (ev tm)) hp) ((bB q (as.map (ev tm)) hp).map (aS hp)) len=some (d,ups,new)):EffOk P o a φ w S hp base d (grow (aw hp ups) new):=by
 unfold Ŕ at hq;split at hq
 ·rename_i r hr;simp only[lβ]at hq;subst hq;exact Zc cx hr hnc hmk h
 ·simp only[lβ,lτ]at hq;obtain⟨rfl,rfl⟩:=hq;cases h
end
end
end Go.Ab
