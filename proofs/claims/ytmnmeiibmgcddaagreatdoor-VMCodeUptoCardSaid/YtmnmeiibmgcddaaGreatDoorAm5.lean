import Derived.Test.YtmnmeiibmgcddaaGreatDoorAm3
import Derived.WideKeyArgs
import Derived.Below
import Derived.OpenVars
import Derived.ChangeSame
import Derived.Carry
set_option linter.all false
namespace Go.Ab
open Go Go.RowKit Go.WideShapes Go.ChangeShapes
section
variable [Letters]
def I4 (P:Program)(ok:TypeId->Bool):List Field->Nat->Option Nat
 |[],off=>some off
 |f::r,off=>bif Nat.beq f.offset off&&ok f.type then I4 P ok r (off+P.cellsOf f.type)else none
def yL (P:Program):Nat->TypeId->Bool
 |0,_=>false
 |n+1,t=>match P.underlying t with
  |some .bool=>true
  |some (.int _)=>true
  |some .string=>true
  |some (.slice e)=>yL P n e&&Nat.blt 0 (P.cellsOf e)
  |some (.struct fs)=>match I4 P (yL P n) fs.toList 0 with
   |some m=>Nat.beq m (P.cellsOf t)
   |none=>false
  |_=>false
def iv (P:Program)(t:TypeId):Bool:=
 match P.underlying t with
 |some (.struct _)=>true
 |_=>false
def rn (C:TypeId->LD->Prop):List Field->LD->Prop
 |[],xs=>xs=[]
 |f::r,xs=>∃ys zs,xs=ys++zs/\C f.type ys/\rn C r zs
def hH (P:Program)(C:TypeId->LD->Prop)(t:TypeId)(x:Da):Prop:=
 match iv P t with
 |true=>∃cs,x= .agg cs/\C t cs
 |false=>C t [x]
def cg (P:Program)(B:TypeId->Nat):Nat->TypeId->LD->Prop
 |0,_,_=>False
 |n+1,t,xs=>match P.underlying t with
  |some .bool=>∃b,xs=[.bool b]
  |some (.int k)=>∃i,xs=[.int k i]/\(Lit.int k i).wf=true
  |some .string=>∃s,xs=[.str s]/\s.length<=maxLen/\∀c∈s,c<256
  |some (.slice e)=>∃es,xs=[.slice (P.cellsOf e) es]/\es.length<=maxLen/\es.length<=B e/\∀x∈es,hH P (cg P B n) e x
  |some (.struct fs)=>rn (cg P B n) fs.toList xs
  |_=>False
def N9 {α:Type}{Q:Nat->α->Prop}:∀(n:Nat),(∀i,i<n->∃y,Q i y)->∃l:List α,l.length=n/\∀(i:Nat) y,l[i]?=some y->Q i y
 |0,_=>⟨[],rfl,by simp⟩
 |n+1,h=>by
  obtain⟨l,hl,hq⟩:=N9 n fun i hi=>h i (by omega)
  obtain⟨y,hy⟩:=h n (by omega);refine⟨l++[y],by simp[hl],fun i z hz=>?_⟩
  grind
section
structure Hered {H:Type}(P:Program)(B:TypeId->Nat)(W:TypeId->DataW H->Prop):Prop where
 sl:∀t e elems spare,P.underlying t=some (.slice e)->W t (.slice elems spare)->elems.length<=B e/\∀d∈elems,W e d
 st:∀t fs parts,P.underlying t=some (.struct fs)->W t (.agg parts)->∀(i:Nat) f d,fs[i]?=some f->parts[i]?=some d->W f.type d
variable {H:Type} {enc:TypeId×Value->H} {P:Program} {B:TypeId->Nat} {K:TypeId->DataW H->Prop} {w:World} {base:Nat} {sp:Nat->Bool} {held:Bool} {S:Nat->Prop}
def uK {ok:TypeId->Bool}{C:TypeId->LD->Prop}{fuel:Nat}{cs:List Value}(ih:∀t cs x,ok t=true->K t x.1->DataW.trod enc P w base sp held fuel t cs=some x->∃xs,qH w S xs cs/\C t xs/\∀c∈cs,bb c):
  ∀(fs:List Field) (off m:Nat),I4 P ok fs off=some m->(∀f∈fs,∃y,K f.type y.1/\DataW.trod enc P w base sp held fuel f.type ((cs.drop f.offset).take (P.cellsOf f.type))=some y)->off<=m/\∃xs,qH w S xs ((cs.drop off).take (m - off))/\rn C fs xs/\∀c∈(cs.drop off).take (m - off),bb c
 |[],off,m,h,_=>by
  simp only[I4,lβ]at h;subst h;refine⟨Nat.le_refl _,[],by simp[qH],rfl,by simp⟩
 |f::r,off,m,h,hf=>by
  simp only[I4]at h;cases hc:(Nat.beq f.offset off&&ok f.type)
  ·simp_all
  ·simp only[hc,cond_true]at h;rw[lγ]at hc;have ho:=lν hc.1;obtain⟨h1,zs,h2,h3,h4⟩:=uK ih r _ m h fun g hg=>hf g (mα _ hg)
   obtain⟨y,hKy,hy⟩:=hf f (lχ ..);obtain⟨ys,k1,k2,k3⟩:=ih _ _ _ hc.2 hKy hy;rw[ho]at k1 k3;have hsplit:(cs.drop off).take (m - off)=(cs.drop off).take (P.cellsOf f.type)++(cs.drop (off+P.cellsOf f.type)).take (m - (off+P.cellsOf f.type)):=by
    have:m - off=P.cellsOf f.type+(m - (off+P.cellsOf f.type)):=by omega
    rw[this,List.take_add,mω]
   refine⟨by omega,ys++zs,?_,⟨ys,zs,rfl,k2,h3⟩,?_⟩
   ·rw[hsplit];exact PRs_iff.2 (Pw.append (PRs_iff.1 k1) (PRs_iff.1 h2))
   all_goals grind
def sG (P:Program)(t:TypeId)(cs:List Value):Value:=
 match iv P t with
 |true=> .agg cs.toArray
 |false=>cs.headD undef
def Jh {n:Nat}{t:TypeId}{xs:LD}{cs:List Value}(h1:qH w S xs cs)(h2:cg P B n t xs)(h3:∀c∈cs,bb c):∃x,PR w S x (sG P t cs)/\hH P (cg P B n) t x/\(sG P t cs).cells.toList=cs:=by
 unfold sG hH;cases ha:iv P t with
 |true=>
  refine⟨.agg xs,?_,⟨xs,rfl,h2⟩,by rfl⟩
  simp only[PR];simp_all
 |false=>
  have one:∃x,xs=[x]:=by
   cases n with
   |zero=>exact h2.elim
   |succ n=>
    simp only[cg]at h2;simp only[iv]at ha;grind
  obtain⟨x,rfl⟩:=one;have hp:=PRs_iff.1 h1;obtain⟨u,us,rfl,hu,hr⟩:=hp.cons_inv;obtain rfl:=hr.nil_inv;refine⟨x,hu,h2,?_⟩;cases u<;>simp_all [bb,Value.cells]
def qz (hK:Hered P B K)(hS:∀b,b<w.heap.size->S b):∀(n:Nat) (t:TypeId) (fuel:Nat) (cs:List Value) (x:DataW H×List MemPlace),yL P n t=true->K t x.1->DataW.trod enc P w base sp held fuel t cs=some x->∃xs,qH w S xs cs/\cg P B n t xs/\∀c∈cs,bb c
 |0,t,fuel,cs,x,ho,hk,h=>by simp[yL]at ho
 |n+1,t,fuel,cs,x,ho,hk,h=>by
  simp only[yL]at ho;simp only[cg];split at ho
  ·rename_i hu;obtain⟨b,rfl,_⟩:=DataW.trod_bool hu h;exact⟨[.bool b],by simp[qH,PR],⟨b,rfl⟩,by simp[bb]⟩
  ·rename_i k hu;obtain⟨b,rfl,_,hw⟩:=DataW.trod_int hu h;exact⟨[.int k b],by simp[qH,PR],⟨b,rfl,hw⟩,by simp[bb]⟩
  ·rename_i hu;obtain⟨s,rfl,_,hl⟩:=DataW.trod_string hu h;refine⟨[.str (s.data.toList.map UInt8.toNat)],by simp[qH,PR],⟨_,rfl,?_,?_⟩,by simp[bb]⟩
   ·simp_all
   ·intro c hc;obtain⟨u,_,rfl⟩:=List.mem_map.1 hc;exact u.toNat_lt
  ·rename_i e hu;rw[lγ]at ho;have hpos:0<P.cellsOf e:=Nat.ble_eq.mp ho.2;rcases DataW.trod_slice hu h with⟨rfl,_⟩|⟨a,len,cap,elems,rest,m,_,rfl,hx1,hb,hlc,hcm,hel,hget,_,_⟩
   ·refine⟨[.slice (P.cellsOf e) []],?_,⟨[],rfl,by simp,by simp,by simp⟩,by simp[bb]⟩
    exact⟨_,_,rfl,⟨none,0,[],rfl,by simp,rfl,by simp⟩,rfl⟩
   ·obtain⟨hB,hKe⟩:=hK.sl t e _ _ hu (by simp_all;omega);have hi:∀i,i<len->∃y:Da×List Value,PR w S y.1 (sG P e y.2)/\hH P (cg P B n) e y.1/\(sG P e y.2).cells.toList=y.2/\y.2.length=P.cellsOf e/\∀j,j<P.cellsOf e->w.cell? ((a.add (i*P.cellsOf e)).add j)=y.2[j]?:=by
     intro i hi;have hg:=hget i hi;have:∃el,elems[i]?=some el:=⟨elems[i]'(by omega),lη (by omega)⟩;obtain⟨el,hel'⟩:=this;rw[hel',Option.bind_eq_some_iff]at hg;obtain⟨cs',hc',ht'⟩:=hg;obtain⟨_,hlen,hcell⟩:=World.cells?_some hc';obtain⟨xs,q1,q2,q3⟩:=qz hK hS n e m cs' el ho.1 (hKe _ (List.mem_map.2 ⟨el,mθ hel',rfl⟩)) ht';obtain⟨y,r1,r2,r3⟩:=Jh q1 q2 q3;exact⟨(y,cs'),r1,r2,r3,hlen,hcell⟩
    obtain⟨l,hl,hq⟩:=N9 len hi;have hus:(l.map fun y=>sG P e y.2).length=len:=by simp[hl]
    refine⟨[.slice (P.cellsOf e) (l.map (·.1))],?_,⟨_,rfl,by grind,by simp_all,?_⟩,by simp[bb]⟩
    ·refine⟨_,_,rfl,?_,rfl⟩;refine⟨some a,cap,l.map fun y=>sG P e y.2,by rw[hus],by omega,?_,?_⟩
     ·refine PRs_iff.2 ⟨by simp,fun i x v hx hv=>?_⟩
      grind
     ·intro hne;have hlen:0<len:=by
       grind
      have hspot:∀i,i<len->∀j,j<P.cellsOf e->∃v,w.cell? ((a.add (i*P.cellsOf e)).add j)=some v:=by
       intro i hi j hj;have hy:l[i]?=some (l[i]'(by omega)):=lη (by omega);obtain⟨_,_,_,h4,h5⟩:=hq i _ hy;exact⟨_,(h5 j hj).trans (lη (by omega))⟩
      obtain⟨v0,hv0⟩:=hspot 0 hlen 0 hpos;have ha0:(a.add (0*P.cellsOf e)).add 0=a:=by simp[Addr.add]
      rw[ha0]at hv0;have hsp:a.spot=none/\a.block<w.heap.size:=by
       simp only[World.cell?]at hv0;split at hv0
       ·rename_i hh;refine⟨?_,?_⟩
        ·cases hs:a.spot with
         |none=>rfl
         |some s=>simp[hs]at hv0
        ·exact(Array.getElem?_eq_some_iff.1 hh).1
       ·cases hv0
      refine⟨a.block,a.off,by cases a;simp_all,hS _ hsp.2,fun i u hu=>?_⟩
      rw[lσ]at hu;cases hy:l[i]? with
      |none=>simp[hy]at hu
      |some y=>
       simp only[hy,Option.map_some,lβ]at hu;subst hu;obtain⟨_,_,h3,h4,h5⟩:=hq i y hy;refine⟨by rw[<-Array.length_toList,h3,h4],fun j c hc=>?_⟩
       have hj:j<P.cellsOf e:=by
        have:=(Array.getElem?_eq_some_iff.1 hc).1;rw[<-Array.length_toList,h3,h4]at this;omega
       have h6:=h5 j hj;have h7:y.2[j]?=some c:=by rw[<-h3,Array.getElem?_toList];exact hc
       rw[h7]at h6;have h8:(a.add (i*P.cellsOf e)).add j=⟨a.block,a.off+i*P.cellsOf e+j,none⟩:=by
        cases a with
        |mk b o s=>
         simp only[Addr.add];grind
       rw[h8]at h6;exact h6
    ·intro x hx;obtain⟨y,hy,rfl⟩:=List.mem_map.1 hx;obtain⟨i,hi⟩:=List.getElem?_of_mem hy;grind
  ·rename_i fs hu;split at ho
   ·rename_i m hm;obtain⟨xs,m',_,hx1,hlen,hxl,hf⟩:=DataW.trod_struct hu h;have hKp:=hK.st t fs _ hu (by simp_all;omega);have hm':=lν ho;obtain⟨_,ys,k1,k2,k3⟩:=uK (C:=cg P B n) (K:=K) (fun t cs x ho hk h=>qz hK hS n t m' cs x ho hk h) fs.toList 0 m hm (by
     intro f hfm;obtain⟨i,hi⟩:=List.getElem?_of_mem hfm;have hi':fs[i]?=some f:=by simp_all
     have hlt:=(Array.getElem?_eq_some_iff.1 hi').1;have hil:i<xs.length:=by omega
     have hq:(xs.map (·.1))[i]?=some (xs[i]).1:=by simp_all
     exact⟨xs[i],hKp i f _ hi' hq,(hf i f hi').trans (lη hil)⟩)
    grind
   ·cases ho
  ·cases ho
end
end
section
variable [Letters]
section
variable {H:Type} {enc:TypeId×Value->H} {P:Program} {B:TypeId->Nat} {K:TypeId->DataW H->Prop} {W:World} {sp:Nat->Bool} {held:Bool} {S:Nat->Prop}
def T4 (hK:Hered P B K)(hS:∀b,b<W.heap.size->S b){n:Nat}{t:TypeId}{v:Value}{d:DataW H}{ps:List MemPlace}{r:Reach}{b0 base:Nat}(ho:yL P n t=true)(hv:Value.okWide P W r b0 t v)(hk:K t d)(h:DataW.Trod enc P W base sp held t v d ps):
  ∃x,PR W S x v/\hH P (cg P B n) t x:=by
 obtain⟨fuel,hf⟩:=h;obtain⟨xs,h1,h2,h3⟩:=qz hK hS n t fuel _ _ ho hk hf;obtain⟨x,k1,k2,_⟩:=Jh h1 h2 h3;have e:sG P t v.cells.toList=v:=by
  unfold sG iv;cases n with
  |zero=>simp[yL]at ho
  |succ n=>
   simp only[yL]at ho;split at ho
   ·rename_i hu;obtain⟨b,rfl⟩:=okWide_bool hu hv;simp[hu,Value.cells]
   ·rename_i k hu;obtain⟨b,rfl⟩:=okWide_int hu hv;simp[hu,Value.cells]
   ·rename_i hu;obtain⟨b,rfl⟩:=okWide_string hu hv;simp[hu,Value.cells]
   ·rename_i e hu;obtain⟨a,l,c,rfl⟩:=okWide_slice hu hv;simp[hu,Value.cells]
   ·rename_i fs hu;obtain⟨cs,rfl,_⟩:=okWide_struct hu hv;simp[hu,Value.cells]
   ·cases ho
 grind
def Be (hK:Hered P B K)(hS:∀b,b<W.heap.size->S b){n:Nat}{r:Reach}{b0 base:Nat}:∀{ts:List TypeId} {vs:List Value} {ds:List (DataW H)} {ps:List MemPlace},(∀t∈ts,yL P n t=true)->(∀(i:Nat) t v,ts[i]?=some t->vs[i]?=some v->Value.okWide P W r b0 t v)->(∀(i:Nat) t d,ts[i]?=some t->ds[i]?=some d->K t d)->
  DataW.TrodAll enc P W base sp held ts vs ds ps->∃xs,Pw (PR W S) xs vs/\Pw (hH P (cg P B n)) ts xs
 |[],[],[],ps,_,_,_,_=>⟨[],Pw.nil,Pw.nil⟩
 |t::ts,v::vs,d::ds,ps,ho,hv,hk,h=>by
  obtain⟨p,q,h1,h2,_⟩:=h;obtain⟨x,k1,k2⟩:=T4 hK hS (ho t (lχ ..)) (hv 0 t v rfl rfl) (hk 0 t d rfl rfl) h1;obtain⟨xs,k3,k4⟩:=Be hK hS (fun t ht=>ho t (mα _ ht)) (fun i t v hi hj=>hv (i+1) t v (by simp_all) (by simp_all)) (fun i t d hi hj=>hk (i+1) t d (by simp_all) (by simp_all)) h2;exact⟨x::xs,Pw.cons k1 k3,Pw.cons k2 k4⟩
 |[],_::_,_,_,_,_,_,h=>h.elim
 |[],[],_::_,_,_,_,_,h=>h.elim
 |_::_,[],_,_,_,_,_,h=>h.elim
 |_::_,_::_,[],_,_,_,_,h=>h.elim
variable {args:Array Value}
def Z8 [Mv]{G:bP}{call:aG}(hc:eK P G call)(hG:GR G W (fun b=>b<W.heap.size)){k:Nat}{xs:LD}(hx:Pw (PR W (fun b=>b<W.heap.size)) xs args.toList)(hrun:call k (xs.map .p) []=some (.p (.bool true),[])):
  Calls P k args W fun e W'=>e= .returned (.bool true)/\Below W.heap.size W W':=by
 obtain⟨_,h⟩:=hc k _ [] _ _ hrun;have hr:HR [] W (fun b=>b<W.heap.size) []:=⟨rfl,by intro id l o h;simp at h,by rintro b ⟨id,l,o,h,_⟩;simp at h,by intro id id' l l' o o' b h;simp at h,fun b hb=>hb⟩
 have hv:=h [] W (fun b=>b<W.heap.size) args.toList hr hG (Pw.map_left (by simpa only[VR]using hx));simp only[Array.toArray_toList]at hv;refine hv.mono fun e W' he=>?_
 cases e<;>try exact he.elim
 rename_i v;obtain⟨φ',S',h1,h2,h3,_⟩:=he;simp only[VR,PR]at h1;subst h1;refine⟨rfl,h3.os,h3.tape,h3.output,h3.size,fun b hb=>h3.keep b hb ?_⟩
 rintro⟨id,l,o,hh,_⟩
 simp at hh
def Bf (hl:laidOutB P=true){W':World}(hb:Below W.heap.size W W'){sp':Nat->Bool}:∀{ts:List TypeId} {vs:List Value} {ds:List (DataW H)} {ps:List MemPlace},(∀t∈ts,P.readableRec t=true/\t<P.types.size)->(∀x∈ps,x.block<W.heap.size)->(∀x∈ps,sp' x.block=true)->
  DataW.TrodAll enc P W 0 (fun _=>true) true ts vs ds ps->DataW.TrodAll enc P W' 0 sp' true ts vs ds ps
 |[],[],[],ps,_,_,_,h=>h
 |t::ts,v::vs,d::ds,ps,ho,hlt,hsp,h=>by
  obtain⟨p,q,h1,h2,rfl⟩:=h;refine⟨p,q,?_,Bf hl hb (fun t ht=>ho t (mα _ ht)) (fun x hx=>hlt x (List.mem_append_right _ hx)) (fun x hx=>hsp x (List.mem_append_right _ hx)) h2,rfl⟩;obtain⟨hr,hrow⟩:=ho t (lχ ..);exact WideElems.Trod_stays hl hr hrow h1 (fun x hx=>hb.same (hlt x (List.mem_append_left _ hx))) (fun x hx=>hsp x (List.mem_append_left _ hx))
 |[],_::_,_,_,_,_,_,h=>h.elim
 |[],[],_::_,_,_,_,_,h=>h.elim
 |_::_,[],_,_,_,_,_,h=>h.elim
 |_::_,_::_,[],_,_,_,_,h=>h.elim
variable {ds:List (DataW H)} {before:List MemPlace}
def VS {f:Func}{s:ChangeSpec}{kJ fresh handsOn again:Bool}{W':World}{tb:TypeId}(hb:Below W.heap.size W W')(hl:laidOutB P=true)(hs:s.vars=[])(hfn:(s.fn H (ds++[])).results=[.lit (.bool true)]/\(s.fn H (ds++[])).args=ds/\(s.fn H (ds++[])).vars=[])(hts:∀t∈f.params.toList,P.readableRec t=true/\t<P.types.size)(hrt:f.resultTypes= #[tb])(htb:P.underlying tb=some .bool)(hW:DataW.Whole enc P f.params.toList s.vars kJ W args.toList ds [] before):s.post enc P f kJ fresh handsOn again W args (.bool true) W':=by
 have hW2:=hW;obtain⟨p,q,hA,hV,hpq,hz,hn⟩:=hW;have hlt:∀x∈before,x.block<W.heap.size:=fun x hx=>hW2.lt x hx
 rw[hs]at hV;have hq:q=[]:=by
  have:DataW.TrodVars enc P W (fun _=>true) [] ([]:List (DataW H)) q:=hV;exact this
 subst hq;have hbe:before=p:=by rw[hpq,mη]
 subst hbe;have shut:∀(W:World) (b:Nat) (sp:Nat->Bool) (hd:Bool),DataW.TrodAll enc P W b sp hd f.resultTypes.toList ((Value.bool true).resultList f.resultTypes.size) (s.fn H (ds++[])).results []:=by
  intro W b sp hd;rw[hrt,hfn.1];exact⟨[],[],⟨1,by simp[DataW.trod,Value.cells,htb]⟩,rfl,rfl⟩
 have stay:∀sp':Nat->Bool,(∀x∈before,sp' x.block=true)->DataW.TrodAll enc P W' 0 sp' true f.params.toList args.toList (s.fn H (ds++[])).args before:=by
  intro sp' hsp;rw[hfn.2.1];exact Bf hl hb hts hlt hsp hA
 have vars:∀sp':Nat->Bool,DataW.TrodVars enc P W' sp' s.vars (s.fn H (ds++[])).vars []:=by
  intro sp';rw[hs,hfn.2.2];rfl
 have hall:=trodAll_append (stay (fun _=>true) fun _ _=>rfl) (shut W' 0 (fun _=>true) true);refine⟨ds,[],before,[],before,[],hW2,shut _ _ _ _,stay _ fun x hx=>by simpa using hlt x hx,vars _,World.keptBut_mono (fun x hx=>⟨hx,.inr (.inl hx)⟩) (hb.frame (· ∈before)),fun _=>⟨?_,_,_,_,⟨_,_,hall,vars _,rfl,?_,?_⟩,?_⟩⟩
 ·intro j t r hj hr;rw[hrt]at hj hr;have:j=0:=by
   rcases Nat.eq_zero_or_pos j with h0|h0
   ·exact h0
   ·rw[Array.getElem?_eq_none (by simp;omega)]at hj;cases hj
  subst this;simp at hj;subst hj;simp[Value.resultList]at hr;subst hr;simp[Value.okWide,htb,Cell.okWide,Cell.ok]
 ·intro b off hp;have hp':MemPlace.cell b off∈before:=by simpa using hp
  rw[hb.frozen (hlt _ hp')];exact hz b off hp'
 ·intro ha;simpa using hn ha
 ·intro x hx _;simpa using hx
def om {base:Nat}:∀{ts:List TypeId} {vs:List Value} {ds:List (DataW H)} {ps:List MemPlace},DataW.TrodAll enc P W base sp held ts vs ds ps->ds.length=ts.length
 |[],[],[],_,_=>rfl
 |_::ts,_::vs,_::ds,ps,h=>by
  obtain⟨p,q,_,h2,_⟩:=h;simp[om h2]
 |[],_::_,_,_,h=>h.elim
 |[],[],_::_,_,h=>h.elim
 |_::_,[],_,_,h=>h.elim
 |_::_,_::_,[],_,h=>h.elim
def law_contractN [Mv](hK:Hered P B K){G:bP}{ev:Nat->aG}(hc:∀N,eK P G (ev N))(hl:laidOutB P=true){n k:Nat}{f:Func}{s:ChangeSpec}{kJ fresh handsOn again:Bool}{tb:TypeId}(hts:f.params.toList.all (fun t=>yL P n t&&P.readableRec t&&Nat.blt t P.types.size)=true)(hrt:f.resultTypes= #[tb])(htb:P.underlying tb=some .bool)(hs:s.vars=[])(hfn:∀ds:List (DataW H),ds.length=f.params.toList.length->(s.fn H (ds++[])).results=[.lit (.bool true)]/\(s.fn H (ds++[])).args=ds/\(s.fn H (ds++[])).vars=[])(run:∀xs,Pw (hH P (cg P B n)) f.params.toList xs->∃N,ev N k (xs.map .p) []=some (.p (.bool true),[])){base:Nat}{gs:List (DataW H)}(hG:GR G W (fun b=>b<W.heap.size))(hval:∀(j:Nat) t v,f.params[j]?=some t->args[j]?=some v->Value.okWide P W .any base t v)(hKd:∀(i:Nat) t d,f.params.toList[i]?=some t->ds[i]?=some d->K t d)(hW:DataW.Whole enc P f.params.toList s.vars kJ W args.toList ds gs before):Calls P k args W fun e W'=>∃v,e= .returned v/\s.post enc P f kJ fresh handsOn again W args v W':=by
 have hts':∀t∈f.params.toList,yL P n t=true/\P.readableRec t=true/\t<P.types.size:=by
  intro t ht;have:=mζ.1 hts t ht;rw[lγ,lγ]at this;exact⟨this.1.1,this.1.2,Nat.ble_eq.mp this.2⟩
 have hW2:=hW;obtain⟨p,q,hA,hV,_,_,_⟩:=hW;have hg:gs=[]:=by
  rw[hs]at hV;cases gs with
  |nil=>rfl
  |cons _ _=>exact hV.elim
 subst hg;obtain⟨xs,h1,h2⟩:=Be hK (S:=fun b=>b<W.heap.size) (fun _ h=>h) (fun t ht=>(hts' t ht).1) (fun i t v hi hj=>hval i t v (by simpa using hi) (by simpa using hj)) hKd hA;obtain⟨N,hN⟩:=run xs h2;refine(Z8 (hc N) hG h1 hN).mono fun e W' ⟨he,hb⟩=>?_
 subst he;exact⟨_,rfl,VS hb hl hs (hfn ds (om hA)) (fun t ht=>(hts' t ht).2) hrt htb hW2⟩
end
end
section
section
variable {H:Type} {enc:TypeId×Value->H} {P:Program} {B:TypeId->Nat} {K:TypeId->DataW H->Prop} {W:World}
end
structure xw (P:Program)(G:bP) where
 tabH:Nat->Option Hn
 tab:Nat->Option Fn
 same:∀f,same (tabH f) (tab f)
 ok:∀L:Letters,@pj L mvNone P G tab
section
variable {P:Program} {G:bP}
noncomputable def xw.base (s : Ry) (hn : P.funcs.toList.all (fun fn => !(fn.name == "runtime.NumGoroutine")) = true) (hp : ∀ (L : Letters) f g, s.prim f = some g → @fe L P G f g) : xw P G where
 tabH:=ĝ P G s
 tab:=WJ P G s
 same:=Ri P G s
 ok L:= @â L P G s hn (hp L)
def xw.call (l:xw P G)(hmix:P.follows .mixedOrders=true)(L:Letters)(n:Nat): @eK L mvNone P G (KQ l.tabH n):= @Zp L P G hmix l.tab l.tabH (l.ok L) l.same n
noncomputable def xw.memo (l:xw P G)(hmix:P.follows .mixedOrders=true)(f:Nat)(kn:List (LD×R))(h:∀p∈kn,KQ l.tabH 3000 f (p.1.map .p) []=p.2):xw P G where
 tabH g:=Z1 (Nat.beq g f) (some (.prim (BP kn (KQ l.tabH 3000) f))) (l.tabH g)
 tab g:=bif Nat.beq g f then some (.prim (BP kn (KQ l.tabH 3000) f))else l.tab g
 same g:=uc rfl (l.same g)
 ok L:= @Ol L P G l.tab (l.ok L) f _ (@yC L P G _ (l.call hmix L 3000) f kn fun p hp=> .inr (h p hp))
def xw.okM (l:xw P G)(L:Letters)(M:Mv): @pj L M P G l.tab:=by
 obtain⟨h1,h2,h3,h4⟩:=l.ok L;refine @pj.mk L M P G l.tab h1 h2 h3 fun f g hf ds hp r out hg=>⟨(h4 f g hf ds hp r out hg).1,fun φ w S vs q1 q2 q3=>((h4 f g hf ds hp r out hg).2 φ w S vs q1 q2 q3).mono fun _ _ q=>q.le (@rG L M f ds hp.length)⟩
section known
end known
noncomputable def xw.anyOf (l:xw P G)(f:Nat)(g:List D->List Ob->Option (D×List Ob))(hg:∀L:Letters,@EM L mvNone P G f g):xw P G where
 tabH k:=Z1 (Nat.beq k f) (some (.any g)) (l.tabH k)
 tab k:=bif Nat.beq k f then some (.any g)else l.tab k
 same k:=uc rfl (l.same k)
 ok L:= @ã L P G l.tab (l.ok L) f _ (hg L)
variable {f z bytes: Nat} {zd: Da}
def LL {s: Ry}(hmix : P.follows .mixedOrders = true)(h : gK P G s f = some (k8 z zd bytes))(hn : P.funcs.toList.all (fun fn => !(fn.name == "runtime.NumGoroutine")) = true)(h0:cU (fun _ _ _=>none) 0 (k8 z zd bytes) [.sl .na z []] []=some (.p (.slice z []),[]))(h1:cU (fun _ _ _=>none) 0 (k8 z zd bytes) [.sl .some z []] []=some (.p (.slice z []),[]))(L:Letters): @fe L P G f (oS z bytes):=by
 obtain⟨fn,h2,h3⟩:=oN h;have hm:fn∈P.funcs.toList:=by
  rw[Array.mem_toList_iff];exact Array.mem_of_getElem? h2
 exact @UB L P G hmix (s.raw f) f fn _ h2 h3 (by simpa using List.all_eq_true.mp hn fn hm) z bytes h0 h1 (P2 z zd bytes)
def nZ {s: Ry}(hmix : P.follows .mixedOrders = true)(h : gK P G s f = some (cB z zd bytes))(hn : P.funcs.toList.all (fun fn => !(fn.name == "runtime.NumGoroutine")) = true)(h0:cU (fun _ _ _=>none) 0 (cB z zd bytes) [.sl .na z []] []=some (.arr 0 0 0 z,[.arr []]))(h1:cU (fun _ _ _=>none) 0 (cB z zd bytes) [.sl .some z []] []=some (.arr 0 0 0 z,[.arr []]))(L:Letters): @fe L P G f (eo z bytes):=by
 obtain⟨fn,h2,h3⟩:=oN h;have hm:fn∈P.funcs.toList:=by
  rw[Array.mem_toList_iff];exact Array.mem_of_getElem? h2
 exact @P1 L P G hmix (s.raw f) f fn _ h2 h3 (by simpa using List.all_eq_true.mp hn fn hm) z bytes h0 h1 (KG z zd bytes)
def Iw {s: Ry}(hmix : P.follows .mixedOrders = true)(h : gK P G s f = some (cB z zd bytes))(hn : P.funcs.toList.all (fun fn => !(fn.name == "runtime.NumGoroutine")) = true)(h0:cU (fun _ _ _=>none) 0 (cB z zd bytes) [.sl .na z []] []=some (.arr 0 0 0 z,[.arr []]))(h1:cU (fun _ _ _=>none) 0 (cB z zd bytes) [.sl .some z []] []=some (.arr 0 0 0 z,[.arr []]))(g0:∀es,cU (fun _ _ _=>none) 0 (cB z zd bytes) [.sl .na z []] [.arr es]=some (.arr 1 0 0 z,[.arr es,.arr []]))(g1:∀es,cU (fun _ _ _=>none) 0 (cB z zd bytes) [.sl .some z []] [.arr es]=some (.arr 1 0 0 z,[.arr es,.arr []]))(g2:∀lo n es,((es.drop lo).take (n+1)).length=n+1→eY (n+1) bytes=true→cU (fun _ _ _=>none) 0 (cB z zd bytes) [.arr 0 lo (n+1) z] [.arr es]=some (.arr 1 0 (n+1) z,[.arr es,.arr ((es.drop lo).take (n+1))]))(L:Letters): @EM L mvNone P G f (j7 z bytes):=by
 obtain⟨fn,h2,h3⟩:=oN h;have hm:fn∈P.funcs.toList:=by
  rw[Array.mem_toList_iff];exact Array.mem_of_getElem? h2
 exact @P0 L P G hmix (s.raw f) f fn z bytes zd h2 h3 (by simpa using List.all_eq_true.mp hn fn hm) (nZ hmix h hn h0 h1 L) g0 g1 g2
end
end
end Go.Ab
