import Derived.Test.YtmnmeiibmgcddaaGreatDoorAm3
set_option linter.all false
namespace Go.Ab
open Go
noncomputable section
section
def Le (a b:R):Prop:=∀r,a=some r->b=some r
theorem Le.refl (a:R):Le a a:=fun _ h=>h
theorem Le.no (b:R):Le none b:=fun _ h=>by cases h
theorem Le.trans {a b c:R}(h:Le a b)(g:Le b c):Le a c:=fun r e=>g r (h r e)
theorem Le.of_eq {a b:R}(h:a=b):Le a b:=by rw[h];exact Le.refl b
def iL (b:Bool)(t e:R):R:=Bool.rec (motive:=fun _=>R) e t b
def cL {α:Type}(o:Option α)(k:α->R):R:=Option.rec (motive:=fun _=>R) none (fun x=>k x) o
theorem Le.grd {b:Bool}{t t':R}(h:b=true->Le t t'):Le (iL b t none) t':=by
 cases b
 ·exact Le.no _
 ·exact h rfl
theorem Le.two {b:Bool}{t e x:R}(h:b=true->Le t x)(g:b=false->Le e x):Le (iL b t e) x:=by
 cases b
 ·exact g rfl
 ·exact h rfl
variable {α:Type}
theorem Le.opt {o:Option α}{k:α->R}{x:R}(h:∀a,o=some a->Le (k a) x):Le (cL o k) x:=by
 cases o
 ·exact Le.no _
 ·exact h _ rfl
def ba (i:IntKind)(x:Da)(k:Int->R):R:=match x with| .int j n=>iL (Nat.beq (kc j) (kc i)) (k n) none|_=>none
def eR (x:Da)(k:LN->R):R:=match x with| .str s=>k s|_=>none
def aH (x:Da)(k:Bool->R):R:=match x with| .bool b=>k b|_=>none
def hM (z:Nat)(x:Da)(k:LD->R):R:=match x with| .slice y es=>iL (Nat.beq y z) (k es) none|_=>none
def bV (x:Da)(k:LD->R):R:=match x with| .agg cs=>k cs|_=>none
def YO (x:Da)(k:LD->LD->R):R:=match x with| .map ks vs=>k ks vs|_=>none
def ab {α:Type}(l:List α)(k:α->List α->R):R:=match l with|x::r=>k x r|[]=>none
def af {α:Type}(l:List α)(k:R):R:=match l with|_::_=>none|[]=>k
def dP (d:D)(k:Da->R):R:=match d with| .p x=>k x|_=>none
def ff (d:D)(k:List D->R):R:=match d with| .tup ds=>k ds|_=>none
def YL (id off:Nat)(d:D)(k:R):R:=match d with| .box i o=>iL (Nat.beq i id) (iL (Nat.beq o off) k none) none|_=>none
def dF (id z:Nat)(d:D)(k:Nat->R):R:=match d with| .arr i lo len y=>iL (Nat.beq i id) (iL (Nat.beq lo 0) (iL (Nat.beq y z) (k len) none) none) none|_=>none
def YP (id:Nat)(d:D)(k:R):R:=match d with| .map i=>iL (Nat.beq i id) k none|_=>none
def Ó (z:Nat)(d:D)(k:R):R:=match d with| .sl .nil y []=>iL (Nat.beq y z) k none|_=>none
def Ò (z:Nat)(d:D)(k:LD->R):R:=match d with| .sl .exact y es=>iL (Nat.beq y z) (k es) none|_=>none
def đ (f:Nat)(d:D)(k:List D->R):R:=match d with| .fn g cs=>iL (Nat.beq g f) (k cs) none|_=>none
def Zo (o:Ob)(k:List D->R):R:=match o with| .box cs=>k cs|_=>none
def cO (o:Ob)(k:LD->R):R:=match o with| .arr es=>k es|_=>none
def Á (o:Ob)(k:LD->R):R:=match o with| .fz es=>k es|_=>none
def Zp (o:Ob)(k:LD->LD->R):R:=match o with| .map ks vs=>k ks vs|_=>none
def Ő (o:Ob)(k:LD->LD->R):R:=match o with| .fzm ks vs=>k ks vs|_=>none
def ŏ (o:Ob)(k:LD->R):R:=match o with| .byt es=>k es|_=>none
def ő (o:Ob)(k:Bool->LD->R):R:=match o with| .may b es=>k b es|_=>none
def ŋ (o:Ob)(k:R):R:=match o with| .dead=>k|_=>none
def Vh (i:IntKind)(c:Int)(x:Da)(k:R):R:=match x with| .int j n=>iL (Nat.beq (kc j) (kc i)) (iL (az n c) k none) none|_=>none
def ON (c:Bool)(x:Da)(k:R):R:=match x,c with| .bool true,true=>k| .bool false,false=>k|_,_=>none
def afe (d:D)(k:List D->R):R:=match d with| .agg cs=>k cs|_=>none
def SM (id off:Nat)(d:D)(k:Nat->R):R:=match d with| .el i n o=>iL (Nat.beq i id) (iL (Nat.beq o off) (k n) none) none|_=>none
def œ (x:Da)(k:R):R:=match x with| .nilptr=>k|_=>none
def Œ (x:Da)(k:R):R:=match x with| .nilmap=>k|_=>none
def cV (f:Nat)(x:Da)(k:LD->R):R:=match x with| .fn g cs=>iL (Nat.beq g f) (k cs) none|_=>none
def QJ (s:Nat)(tm:Tm)(k:D->Tm->R):R:=match tm with| .cons t d r=>iL (Nat.beq t s) (k d r) none| .nil=>none
def ZF (tm:Tm)(k:R):R:=match tm with| .cons _ _ _=>none| .nil=>k
section
variable {x:Da} {d:D} {o:Ob} {tm:Tm} {z:Nat} {Z:R}
theorem Gf {i j:IntKind}(h:Nat.beq (kc j) (kc i)=true):j=i:=by
 rw[PX,lδ]at h;exact h
theorem Pn {a b:Int}(h:az a b=true):a=b:=by
 cases a<;>cases b<;>simp only[az,Bool.false_eq_true]at h;all_goals simp_all
theorem bL {i:IntKind}{k:Int->R}(h:∀n,x= .int i n->Le (k n) Z):Le (ba i x k) Z:=by
 cases x<;>first|exact Le.no _|skip
 exact Le.grd fun e0=>h _ (by rw[Gf e0])
theorem jx {k:LN->R}(h:∀s,x= .str s->Le (k s) Z):Le (eR x k) Z:=by
 cases x<;>first|exact Le.no _|exact h _ rfl
theorem lU {k:Bool->R}(h:∀s,x= .bool s->Le (k s) Z):Le (aH x k) Z:=by
 cases x<;>first|exact Le.no _|exact h _ rfl
variable {k:LD->R}
theorem FR (h:∀s,x= .slice z s->Le (k s) Z):Le (hM z x k) Z:=by
 cases x<;>first|exact Le.no _|skip
 exact Le.grd fun e0=>h _ (by simp_all)
theorem y7 (h:∀s,x= .agg s->Le (k s) Z):Le (bV x k) Z:=by
 cases x<;>first|exact Le.no _|exact h _ rfl
theorem SN {k:LD->LD->R}(h:∀s t,x= .map s t->Le (k s t) Z):Le (YO x k) Z:=by
 cases x<;>first|exact Le.no _|exact h _ _ rfl
theorem bD {l:List α}{k:α->List α->R}(h:∀a r,l=a::r->Le (k a r) Z):Le (ab l k) Z:=by
 cases l<;>first|exact Le.no _|exact h _ _ rfl
theorem c6 {l:List α}{k:R}(h:l=[]->Le k Z):Le (af l k) Z:=by
 cases l<;>first|exact Le.no _|exact h rfl
theorem lj {k:Da->R}(h:∀y,d= .p y->Le (k y) Z):Le (dP d k) Z:=by
 cases d<;>first|exact Le.no _|exact h _ rfl
theorem SO {k:List D->R}(h:∀y,d= .tup y->Le (k y) Z):Le (ff d k) Z:=by
 cases d<;>first|exact Le.no _|exact h _ rfl
variable {id:Nat}
theorem SL {off:Nat}{k:R}(h:d= .box id off->Le k Z):Le (YL id off d k) Z:=by
 cases d<;>first|exact Le.no _|skip
 exact Le.grd fun e0=>Le.grd fun e1=>h (by simp_all)
theorem mX {k:Nat->R}(h:∀len,d= .arr id 0 len z->Le (k len) Z):Le (dF id z d k) Z:=by
 cases d<;>first|exact Le.no _|skip
 exact Le.grd fun e0=>Le.grd fun e1=>Le.grd fun e2=>h _ (by simp_all)
theorem OQ {k:R}(h:d= .map id->Le k Z):Le (YP id d k) Z:=by
 cases d<;>first|exact Le.no _|skip
 exact Le.grd fun e0=>h (by simp_all)
theorem WR {k:R}(h:d= .sl .nil z []->Le k Z):Le (Ó z d k) Z:=by
 unfold Ó;split
 ·exact Le.grd fun e=>h (by simp_all)
 ·exact Le.no _
theorem WP (h:∀es,d= .sl .exact z es->Le (k es) Z):Le (Ò z d k) Z:=by
 unfold Ò;split
 ·exact Le.grd fun e=>h _ (by simp_all)
 ·exact Le.no _
variable {k:List D->R}
theorem WQ {f:Nat}(h:∀es,d= .fn f es->Le (k es) Z):Le (đ f d k) Z:=by
 cases d<;>first|exact Le.no _|skip
 exact Le.grd fun e0=>h _ (by simp_all)
theorem Ul (h:∀y,o= .box y->Le (k y) Z):Le (Zo o k) Z:=by
 cases o<;>first|exact Le.no _|exact h _ rfl
variable {k:LD->R}
theorem lc (h:∀y,o= .arr y->Le (k y) Z):Le (cO o k) Z:=by
 cases o<;>first|exact Le.no _|exact h _ rfl
theorem Qm (h:∀y,o= .fz y->Le (k y) Z):Le (Á o k) Z:=by
 cases o<;>first|exact Le.no _|exact h _ rfl
variable {k:LD->LD->R}
theorem Um (h:∀s t,o= .map s t->Le (k s t) Z):Le (Zp o k) Z:=by
 cases o<;>first|exact Le.no _|exact h _ _ rfl
theorem ŉ (h:∀s t,o= .fzm s t->Le (k s t) Z):Le (Ő o k) Z:=by
 cases o<;>first|exact Le.no _|exact h _ _ rfl
theorem ň {k:LD->R}(h:∀y,o= .byt y->Le (k y) Z):Le (ŏ o k) Z:=by
 cases o<;>first|exact Le.no _|exact h _ rfl
theorem Ŋ {k:Bool->LD->R}(h:∀b y,o= .may b y->Le (k b y) Z):Le (ő o k) Z:=by
 cases o<;>first|exact Le.no _|exact h _ _ rfl
variable {k:R}
theorem ņ (h:o= .dead->Le k Z):Le (ŋ o k) Z:=by
 cases o<;>first|exact Le.no _|exact h rfl
theorem OP {i:IntKind}{c:Int}(h:x= .int i c->Le k Z):Le (Vh i c x k) Z:=by
 cases x<;>first|exact Le.no _|skip
 exact Le.grd fun e0=>Le.grd fun e1=>h (by rw[Gf e0,Pn e1])
theorem Kr {c:Bool}(h:x= .bool c->Le k Z):Le (ON c x k) Z:=by
 cases x<;>first|exact Le.no _|skip
 rename_i b;cases b<;>cases c<;>first|exact Le.no _|exact h rfl
theorem SK {k:List D->R}(h:∀y,d= .agg y->Le (k y) Z):Le (afe d k) Z:=by
 cases d<;>first|exact Le.no _|exact h _ rfl
theorem OO {off:Nat}{k:Nat->R}(h:∀n,d= .el id n off->Le (k n) Z):Le (SM id off d k) Z:=by
 cases d<;>first|exact Le.no _|skip
 exact Le.grd fun e0=>Le.grd fun e1=>h _ (by simp_all)
theorem Ŏ (h:x= .nilptr->Le k Z):Le (œ x k) Z:=by
 cases x<;>first|exact Le.no _|exact h rfl
theorem ō (h:x= .nilmap->Le k Z):Le (Œ x k) Z:=by
 cases x<;>first|exact Le.no _|exact h rfl
theorem sC {f:Nat}{k:LD->R}(h:∀es,x= .fn f es->Le (k es) Z):Le (cV f x k) Z:=by
 cases x<;>first|exact Le.no _|skip
 exact Le.grd fun e0=>h _ (by simp_all)
theorem EB {s:Nat}{k:D->Tm->R}(h:∀d r,tm= .cons s d r->Le (k d r) Z):Le (QJ s tm k) Z:=by
 cases tm<;>first|exact Le.no _|skip
 exact Le.grd fun e=>h _ _ (by simp_all)
theorem UF (h:tm= .nil->Le k Z):Le (ZF tm k) Z:=by
 cases tm<;>first|exact Le.no _|exact h rfl
end
mutual
def Ķ:Da->Da->(Da->R)->R
 | .int i _,x,k=>ba i x fun n=>k (.int i n)
 | .str _,x,k=>eR x fun s=>k (.str s)
 | .bool _,x,k=>aH x fun b=>k (.bool b)
 | .slice z _,x,k=>hM z x fun l=>k (.slice z l)
 | .map _ _,x,k=>YO x fun a b=>k (.map a b)
 | .agg cs,x,k=>bV x fun ds=>ļ cs ds fun es=>k (.agg es)
 | .nilptr,x,k=>œ x (k .nilptr)
 | .nilmap,x,k=>Œ x (k .nilmap)
 |_,x,k=>k x
def ļ:LD->LD->(LD->R)->R
 |[],l,k=>af l (k [])
 |s::r,l,k=>ab l fun x t=>Ķ s x fun x=>ļ r t fun t=>k (x::t)
end
mutual
def Ĺ:D->D->(D->R)->R
 | .p s,d,k=>dP d fun x=>Ķ s x fun x=>k (.p x)
 | .box i o,d,k=>YL i o d (k (.box i o))
 | .arr i 0 _ z,d,k=>dF i z d fun n=>k (.arr i 0 n z)
 | .map i,d,k=>YP i d (k (.map i))
 | .sl .nil z [],d,k=>Ó z d (k (.sl .nil z []))
 | .fn f cs,d,k=>đ f d fun ds=>Ļ cs ds fun es=>k (.fn f es)
 | .agg cs,d,k=>afe d fun ds=>Ļ cs ds fun es=>k (.agg es)
 |_,d,k=>k d
def Ļ:List D->List D->(List D->R)->R
 |[],l,k=>af l (k [])
 |s::r,l,k=>ab l fun x t=>Ĺ s x fun x=>Ļ r t fun t=>k (x::t)
end
def Ņ (s o:Ob)(k:Ob->R):R:=
 match s with
 | .box cs=>Zo o fun ds=>Ļ cs ds fun es=>k (.box es)
 | .arr _=>cO o fun l=>k (.arr l)
 | .fz _=>Á o fun l=>k (.fz l)
 | .byt _=>ŏ o fun l=>k (.byt l)
 | .may _ _=>ő o fun b l=>k (.may b l)
 | .map _ _=>Zp o fun a b=>k (.map a b)
 | .fzm _ _=>Ő o fun a b=>k (.fzm a b)
 | .dead=>ŋ o (k .dead)
 |_=>k o
def ł:List Ob->List Ob->(List Ob->R)->R
 |[],l,k=>af l (k [])
 |s::r,l,k=>ab l fun x t=>Ņ s x fun x=>ł r t fun t=>k (x::t)
mutual
theorem Ŀ:∀(s x:Da) {k:Da->R} {Z:R},Le (k x) Z->Le (Ķ s x k) Z
 | .int i _,x,k,Z,h=>by simp only[Ķ];exact bL fun n e=>by subst e;exact h
 | .str _,x,k,Z,h=>by simp only[Ķ];exact jx fun n e=>by subst e;exact h
 | .bool _,x,k,Z,h=>by simp only[Ķ];exact lU fun n e=>by subst e;exact h
 | .slice z _,x,k,Z,h=>by simp only[Ķ];exact FR fun n e=>by subst e;exact h
 | .map _ _,x,k,Z,h=>by simp only[Ķ];exact SN fun a b e=>by subst e;exact h
 | .agg cs,x,k,Z,h=>by simp only[Ķ];exact y7 fun ds e=>by subst e;exact ľ cs ds h
 | .nilptr,x,k,Z,h=>by simp only[Ķ];exact Ŏ fun e=>by subst e;exact h
 | .ptr _,x,k,Z,h=>by simp only[Ķ];exact h
 | .nilmap,x,k,Z,h=>by simp only[Ķ];exact ō fun e=>by subst e;exact h
 | .fn _ _,x,k,Z,h=>by simp only[Ķ];exact h
 | .nilfn,x,k,Z,h=>by simp only[Ķ];exact h
 | .iface _ _,x,k,Z,h=>by simp only[Ķ];exact h
 | .nilif,x,k,Z,h=>by simp only[Ķ];exact h
 | .sliceE _ _,x,k,Z,h=>by simp only[Ķ];exact h
 | .sym _ _,x,k,Z,h=>by simp only[Ķ];exact h
theorem ľ:∀(s l:LD) {k:LD->R} {Z:R},Le (k l) Z->Le (ļ s l k) Z
 |[],l,k,Z,h=>by simp only[ļ];exact c6 fun e=>by subst e;exact h
 |s::r,l,k,Z,h=>by simp only[ļ];exact bD fun x t e=>by subst e;exact Ŀ s x (ľ r t h)
end
mutual
theorem ń:∀(s d:D) {k:D->R} {Z:R},Le (k d) Z->Le (Ĺ s d k) Z
 | .p s,d,k,Z,h=>by simp only[Ĺ];exact lj fun n e=>by subst e;exact Ŀ s n h
 | .box i o,d,k,Z,h=>by simp only[Ĺ];exact SL fun e=>by subst e;exact h
 | .arr i 0 _ z,d,k,Z,h=>by simp only[Ĺ];exact mX fun n e=>by subst e;exact h
 | .arr i (_+1) _ z,d,k,Z,h=>by simp only[Ĺ];exact h
 | .map i,d,k,Z,h=>by simp only[Ĺ];exact OQ fun e=>by subst e;exact h
 | .sl g z es,d,k,Z,h=>by
  unfold Ĺ;split<;>first
   |contradiction
   |exact h
   |(rename_i e;cases e;exact WR fun e=>by subst e;exact h)
 | .fn f cs,d,k,Z,h=>by simp only[Ĺ];exact WQ fun ds e=>by subst e;exact ĺ cs ds h
 | .agg cs,d,k,Z,h=>by simp only[Ĺ];exact SK fun ds e=>by subst e;exact ĺ cs ds h
 | .tup _,d,k,Z,h=>by simp only[Ĺ];exact h
 | .el _ _ _,d,k,Z,h=>by simp only[Ĺ];exact h
 | .ip _ _,d,k,Z,h=>by simp only[Ĺ];exact h
 | .iface _ _,d,k,Z,h=>by simp only[Ĺ];exact h
 | .junk,d,k,Z,h=>by simp only[Ĺ];exact h
theorem ĺ:∀(s l:List D) {k:List D->R} {Z:R},Le (k l) Z->Le (Ļ s l k) Z
 |[],l,k,Z,h=>by simp only[Ļ];exact c6 fun e=>by subst e;exact h
 |s::r,l,k,Z,h=>by simp only[Ļ];exact bD fun x t e=>by subst e;exact ń s x (ĺ r t h)
end
variable {Z:R}
theorem Ń (s o:Ob){k:Ob->R}(h:Le (k o) Z):Le (Ņ s o k) Z:=by
 cases s<;>first
  |exact h
  |exact Ul fun ds e=>by subst e;exact ĺ _ ds h
  |exact lc fun n e=>by subst e;exact h
  |exact Qm fun n e=>by subst e;exact h
  |exact ň fun n e=>by subst e;exact h
  |exact Ŋ fun b n e=>by subst e;exact h
  |exact Um fun a b e=>by subst e;exact h
  |exact ŉ fun a b e=>by subst e;exact h
  |exact ņ fun e=>by subst e;exact h
theorem ŀ:∀(s l:List Ob) {k:List Ob->R} {Z:R},Le (k l) Z->Le (ł s l k) Z
 |[],l,k,Z,h=>by exact c6 fun e=>by simp_all
 |s::r,l,k,Z,h=>by exact bD fun x t e=>by subst e;exact Ń s x (ŀ r t h)
structure gI where
 el:Nat->Da->(Da->R)->R
 ca:Nat->List Ob->D->List Ob->KV->R
 mv:D->Da->(Da->R)->R
 (keys spl par:Bool)
structure gI.Ok (dc:gI):Prop where
 el:∀z x k,Le (dc.el z x k) (k x)
 ca:∀f hi v hp k,Le (dc.ca f hi v hp k) (k v hp)
 mv:∀z x k,Le (dc.mv z x k) (k x)
abbrev ae:=Nat->List D->List Ob->KV->R
def bO (cc:ae)(call:aD):Prop:=∀f vs hp (k k':KV),(∀v out,Le (k v out) (k' v out))->Le (cc f vs hp k) (cL (call f vs hp) fun p=>k' p.1 p.2)
abbrev KE:=D->List (Nat×Ob)->List Ob->R
def cM (o:Option eV)(k:KE):R:=cL o fun e=>k e.1 e.2.1 e.2.2
def Qq (vs:List D)(k:KE):R:=match vs with|[.p (.bool c),a,b]=>iL c (k a [] []) (k b [] [])|_=>none
def Wr (op:BinOp)(vs:List D)(k:KE):R:=
 match vs with
 |[.p (.int i a),.p (.int j b)]=>match op with
  | .quo=>iL (az b 0) none (if i=j then k (.p (.int i (ag i (a.tdiv b)))) [] []else none)
  | .rem=>iL (az b 0) none (if i=j then k (.p (.int i (a.tmod b))) [] []else none)
  | .shl=>iL (aG b 0) none (k (.p (.int i (ag i (a*2 ^ (min b.toNat i.bits))))) [] [])
  | .shr=>iL (aG b 0) none (k (.p (.int i (a.fdiv (2 ^ (min b.toNat i.bits))))) [] [])
  |op=>cM (jg (bin op (.p (.int i a)) (.p (.int j b)))) k
 |[.p (.str a),.p (.str b)]=>match op with
  | .add=>iL (Nat.ble (a.length+b.length) ŭ) (k (.p (.str (a++b))) [] []) none
  |op=>cM (jg (bin op (.p (.str a)) (.p (.str b)))) k
 |[x,y]=>cM (jg (bin op x y)) k
 |_=>none
def gW:LN->LD->LD->(Bool->R)->R
 |[],_,_,k=>k true
 |c::ks,x::xs,y::ys,k=>cL (qJ c x y) fun b=>iL b (gW ks xs ys k) (k false)
 |_,_,_,_=>none
def Og (ks:LN)(op:BinOp)(vs:List D)(k:KE):R:=
 match vs with
 |[.p (.agg xs),.p (.agg ys)]=>match op with
  | .eql=>gW ks xs ys fun b=>k (.p (.bool b)) [] []
  | .neq=>gW ks xs ys fun b=>k (.p (.bool (!b))) [] []
  |_=>none
 |_=>none
def ó (dc:gI)(esz:Nat)(vs:List D)(k:KE):R:=
 match vs with
 |[.p (.slice z es),.p (.int _ i)]=>iL (Nat.beq z esz) (cL (bU es i) fun x=>dc.el esz x fun x=>k (.ip x 0) [] []) none
 |[.p (.sliceE z es),.p (.int _ i)]=>iL (Nat.beq z esz) (cL (bU es i) fun x=>dc.el esz x fun x=>k (.ip x 0) [] []) none
 |[.sl _ z es,.p (.int _ i)]=>iL (Nat.beq z esz) (cL (bU es i) fun x=>dc.el esz x fun x=>k (.ip x 0) [] []) none
 |[.arr id lo len z,.p (.int _ i)]=>iL (Nat.beq z esz) (iL (aL 0 i) (iL (aG i len) (k (.el id (lo+i.toNat) 0) [] []) none) none) none
 |_=>none
def ö (vs:List D)(k:KE):R:=
 match vs with
 |[.p (.str s),.p (.int _ i)]=>cL (bif aL 0 i then s[i.toNat]? else none) fun b=>k (.p (.int .u8 (Int.ofNat b))) [] []
 |_=>none
def iT (x:D)(y:Nat)(k:Nat->R):R:=match x with| .p (.int _ i)=>iL (aL 0 i) (iL (aL i y) (k i.toNat) none) none|_=>none
def iv (lo hi mx:Bool)(len:Nat)(xs:List D)(k:Nat->Nat->Nat->R):R:=
 match lo,hi,mx,xs with
 |false,false,false,[]=>k 0 len len
 |true,false,false,[a]=>iT a len fun l=>k l len len
 |false,true,false,[b]=>iT b len fun h=>k 0 h len
 |true,true,false,[a,b]=>iT b len fun h=>iT a h fun l=>k l h len
 |false,true,true,[b,c]=>iT c len fun m=>iT b m fun h=>k 0 h m
 |true,true,true,[a,b,c]=>iT c len fun m=>iT b m fun h=>iT a h fun l=>k l h m
 |_,_,_,_=>none
theorem q7 {x:D}{y:Nat}{k:Nat->R}(h:∀n,j0 x y=some n->Le (k n) Z):Le (iT x y k) Z:=by
 unfold iT;split
 ·refine Le.grd fun h1=>Le.grd fun h2=>h _ ?_
  simp only[j0,h1,h2,Bool.and_self,cond_true]
 ·exact Le.no _
theorem fx {lo hi mx:Bool}{len:Nat}{xs:List D}{k:Nat->Nat->Nat->R}(h:∀l a m,l0 lo hi mx len xs=some (l,a,m)->Le (k l a m) Z):Le (iv lo hi mx len xs k) Z:=by
 unfold iv;split
 ·exact h _ _ _ rfl
 ·exact q7 fun l h1=>h _ _ _ (by simp only[l0,h1])
 ·exact q7 fun l h1=>h _ _ _ (by simp only[l0,h1])
 ·exact q7 fun l h1=>q7 fun l' h2=>h _ _ _ (by simp only[l0,h1,h2])
 ·exact q7 fun l h1=>q7 fun l' h2=>h _ _ _ (by simp only[l0,h1,h2])
 ·exact q7 fun l h1=>q7 fun l' h2=>q7 fun l'' h3=>h _ _ _ (by simp only[l0,h1,h2,h3])
 ·exact Le.no _
def G7 (lo hi:Bool)(vs:List D)(k:KE):R:=
 match vs with
 | .p (.str s)::xs=>iv lo hi false s.length xs fun l h _=>k (.p (.str ((s.drop l).take (h - l)))) [] []
 |_=>none
def QM (lo hi:Bool)(l h lo0:Nat)(n:Option Nat)(e v:R):R:=
 match lo,hi,n with
 |true,false,some n=>iL (Nat.beq l h) (iL (Nat.blt lo0 n) e v) v
 |_,_,_=>v
theorem QN (lo hi:Bool)(l h lo0:Nat)(os:List (Nat×Ob))(id:Nat)(e v:R):QM lo hi l h lo0 (rA os id) e v=bif lo&&!hi&&(Nat.beq l h&&mh os id lo0)then e else v:=by
 have hf:mh os id lo0=match rA os id with|some n=>Nat.blt lo0 n|none=>false:=by
  unfold mh rA;grind
 rw[hf];cases lo<;>cases hi<;>cases rA os id<;>simp only[QM,Bool.false_and,Bool.not_true,Bool.and_false,cond_false];cases Nat.beq l h<;>cases Nat.blt lo0 _<;>rfl
def QA (esz:Nat)(lo hi mx:Bool)(vs:List D)(ids:LN)(obs:List Ob)(k:KE):R:=
 match mx,vs with
 |false,.p (.slice z es)::xs=>iL (s0 z esz es) (iv lo hi false es.length xs fun l h _=>k (.p (.slice z ((es.drop l).take (h - l)))) [] []) none
 |false,.sl .nil z es::xs=>iL (s0 z esz es) (iv lo hi false es.length xs fun _ _ _=>k (.sl .nil z []) [] []) none
 |false,.arr id lo0 len0 z::xs=>iL (Nat.beq z esz) (iv lo hi false len0 xs fun l h _=>QM lo hi l h lo0 (rA (ids.zip obs) id) (k (.sl .some z []) [] []) (k (.arr id (lo0+l) (h - l) z) [] [])) none
 |true,.p (.slice z es)::xs=>iL (s0 z esz es) (iv lo hi true es.length xs fun l h m=>iL (Nat.beq h m) (k (.sl .exact z ((es.drop l).take (h - l))) [] []) (k (.p (.slice z ((es.drop l).take (h - l)))) [] [])) none
 |true,.arr id lo0 len0 z::xs=>iL (Nat.beq z esz) (iv lo hi true len0 xs fun l h m=>iL (Nat.beq m l) (k (.sl .exact z []) [] []) (match ej (ids.zip obs) id with
  | .arr es=>iL (Nat.beq h m) (k (.sl .exact z ((es.drop (lo0+l)).take (h - l))) [(id,.fz es)] []) (k (.p (.slice z ((es.drop (lo0+l)).take (h - l)))) [(id,.fz es)] [])
  | .fz es=>iL (Nat.beq h m) (k (.sl .exact z ((es.drop (lo0+l)).take (h - l))) [] []) (k (.p (.slice z ((es.drop (lo0+l)).take (h - l)))) [] [])
  |_=>none)) none
 |mx,vs=>cM (gc esz lo hi mx vs ids obs) k
def XH (dc:gI)(n esz:Nat)(agg:Bool)(vs:List D)(k:KE):R:=
 match esz,agg,vs with
 |1,false,[.p (.agg cs),.p (.int _ i)]=>iL (aL 0 i) (iL (aG i n) (cL cs[i.toNat]? fun x=>dc.el 2001 x fun x=>k (.p x) [] []) none) none
 |esz,agg,vs=>cM (Fz n esz agg vs) k
def Is (id o esz:Nat)(i:Int)(k:KE):Nat->Nat->R
 |0,_=>none
 |m+1,j=>iL (az i (j:Int)) (k (.box id (o+j*esz)) [] []) (Is id o esz i k m (j+1))
def Xy (n esz:Nat)(vs:List D)(k:KE):R:=
 match vs with
 |[.box id o,.p (.int _ i)]=>Is id o esz i k n 0
 |vs=>cM (B3 n esz vs) k
def X9 (esz:Nat)(lo hi:Bool)(vs:List D)(k:KE):R:=
 match vs with
 | .arr id lo0 len0 z::xs=>iL (Nat.beq z esz) (iv lo hi false len0 xs fun l h _=>k (.arr id (lo0+l) (h - l) z) [] []) none
 |_=>none
def Ve (n off:Nat)(agg:Bool)(e:Da)(k:KE):R:=cL (sub (cells e) off n) fun ds=>cL (dN agg (ds.map .p)) fun d=>k d [] []
def Vm (dc:gI)(off n:Nat):Nat:=match dc.par with|true=>1000*(off+1)+n|false=>0
def P4 (dc:gI)(n:Nat)(agg:Bool)(vs:List D)(obs:List Ob)(k:KE):R:=
 match vs with
 |[.el _ i off]=>match obs with
  |[.arr es]=>cL es[i]? fun e=>dc.el (Vm dc off n) e fun e=>Ve n off agg e k
  |[.fz es]=>cL es[i]? fun e=>dc.el (Vm dc off n) e fun e=>Ve n off agg e k
  |_=>none
 |vs=>cM (fJ n agg vs obs) k
def Hb (dc:gI)(n id i off:Nat)(d:D)(ids:LN)(obs:List Ob)(k:KE):R:=
 match ej (ids.zip obs) id with
 | .arr es=>cL es[i]? fun e=>dc.el (1000*(off+1)+n) e fun e=>cL (pur ((ids.zip obs).filter fun p=>!Nat.beq p.1 id) d) fun x=>iL (Nat.beq (cells x).length n) (iL (Nat.ble (off+n) (cells e).length) (cL (eK e (splice (cells e) off (cells x))) fun e'=>k .junk (dh ((ids.zip obs).filter fun p=>!Nat.beq p.1 id)++[(id,.arr (es.set i e'))]) []) none) none
 |_=>none
def Ha (dc:gI)(n:Nat)(vs:List D)(ids:LN)(obs:List Ob)(k:KE):R:=
 match dc.par,vs with
 |true,[.el id i off,d]=>Hb dc n id i off d ids obs k
 |false,[.el id i 0,d]=>match ej (ids.zip obs) id with
  | .arr es=>cL es[i]? fun e=>cL (pur ((ids.zip obs).filter fun p=>!Nat.beq p.1 id) d) fun x=>iL (Nat.beq (cells x).length n) (iL (Nat.beq (cells e).length n) (cL (eK e (cells x)) fun e'=>k .junk (dh ((ids.zip obs).filter fun p=>!Nat.beq p.1 id)++[(id,.arr (es.set i e'))]) []) none) none
  |_=>none
 |_,vs=>cM (kV n vs ids obs) k
def xM (kt:TypeDesc)(x:Da):LD->Nat->(Option Nat->R)->R
 |[],_,k=>k none
 |y::r,i,k=>cL (ja kt x y) fun b=>iL b (k (some i)) (xM kt x r (i+1) k)
def Py (keys:Bool)(kt:TypeDesc)(x:Da)(ks:LD)(k:Option Nat->R):R:=
 match keys with
 |true=>xM kt x ks 0 k
 |false=>cL (cr kt x ks 0) k
def od (o:Option Nat)(e:R)(k:Nat->R):R:=match o with|none=>e|some i=>k i
def ù (kt:TypeDesc)(z:D)(ok:Bool)(x:Da)(ks:LD)(ws:List D)(k:KE):R:=xM kt x ks 0 fun o=>od o (k (bif ok then .tup [z,.p (.bool false)]else z) [] []) fun i=>cL ws[i]? fun v=>k (bif ok then .tup [v,.p (.bool true)]else v) [] []
def XL (dc:gI)(kt:TypeDesc)(z:D)(ok:Bool)(vs:List D)(ids:LN)(obs:List Ob)(k:KE):R:=
 match vs with
 |[d,.p x]=>
  match (match d with
   | .p .nilmap=>some ([],[])
   | .p (.map ks ws)=>some (ks,ws)
   | .map id=>match ej (ids.zip obs) id with
    | .map ks ws=>some (ks,ws)
    | .fzm ks ws=>some (ks,ws)
    |_=>none
   |_=>none:Option (LD×LD))with
  |some (ks,ws)=>Py dc.keys kt x ks fun o=>od o (k (bif ok then .tup [z,.p (.bool false)]else z) [] []) fun i=>cL ws[i]? fun v=>dc.mv z v fun v=>k (bif ok then .tup [.p v,.p (.bool true)]else .p v) [] []
  |none=>match d with
   | .map id=>match ej (ids.zip obs) id with
    | .mapd ks ws=>ù kt z ok x ks ws k
    |_=>cM (tW kt z ok vs ids obs) k
   |_=>cM (tW kt z ok vs ids obs) k
 |vs=>cM (tW kt z ok vs ids obs) k
def Qe (keys:Bool)(kt:TypeDesc)(vs:List D)(ids:LN)(obs:List Ob)(k:KE):R:=
 match vs with
 |[.map id,.p x,d]=>
  match ej (ids.zip obs) id with
  | .map ks ws=>match pur ((ids.zip obs).filter fun p=>!Nat.beq p.1 id) d with
   |some y=>Py keys kt x ks fun o=>od o (k .junk (dh ((ids.zip obs).filter fun p=>!Nat.beq p.1 id)++[(id,.map (ks++[x]) (ws++[y]))]) []) fun i=>k .junk (dh ((ids.zip obs).filter fun p=>!Nat.beq p.1 id)++[(id,.map ks (ws.set i y))]) []
   |none=>cM (rx kt vs ids obs) k
  |_=>cM (rx kt vs ids obs) k
 |vs=>cM (rx kt vs ids obs) k
def Qc (esz:Nat)(z:Da)(bytes base kk:Nat)(vs:List D)(k:KE):R:=
 match vs with
 |[.p (.int _ l),.p (.int _ c)]=>iL (aL 0 l&&aL l c&&Nat.ble (c.toNat*bytes) 281474976710656&&aL c 9223372036854775807) (k (.arr (base+kk) 0 l.toNat esz) [(base+kk,.arr (List.replicate l.toNat z))] []) none
 |_=>none
def c8 (n bytes:Nat):Bool:=Nat.ble ((2*n+192)*bytes) 281474976710656&&Nat.ble (2*n+192) 9223372036854775807
def Wm (tr:Bool)(esz bytes base kk:Nat)(vs:List D)(ids:LN)(obs:List Ob)(k:KE):R:=
 match vs with
 |[.arr id 0 len z,b]=>match ej (ids.zip obs) id with
  | .arr es=>match tr with
   |true=>iL (Nat.beq z esz) (cL (elems esz (ids.zip obs) b) fun ys=>iL (c8 ((es.take len).length+ys.length) bytes) (k (.arr (base+kk) 0 (es.take len++ys).length esz) [(id,.dead),(base+kk,.arr (es.take len++ys))] []) none) none
   |false=>iL (Nat.beq z esz) (iL (Nat.beq len es.length) (cL (elems esz (ids.zip obs) b) fun ys=>iL (c8 (es.length+ys.length) bytes) (k (.arr (base+kk) 0 (es++ys).length esz) [(id,.dead),(base+kk,.arr (es++ys))] []) none) none) none
  |_=>none
 |[.sl .nil z es,b]=>cL (elems esz (ids.zip obs) b) fun ys=>iL (c8 (0+ys.length) bytes) (k (.arr (base+kk) 0 ys.length esz) [(base+kk,.arr ys)] []) none
 |[.sl .exact z [],b]=>cL (elems esz (ids.zip obs) b) fun ys=>iL (c8 (0+ys.length) bytes) (k (.arr (base+kk) 0 ys.length esz) [(base+kk,.arr ys)] []) none
 |[.sl .exact z es,b]=>iL (s0 z esz es) (cL (elems esz (ids.zip obs) b) fun ys=>iL (!es.isEmpty&&ys.isEmpty) (k (.sl .exact z es) [] []) (iL (c8 (es.length+ys.length) bytes) (k (.arr (base+kk) 0 (es++ys).length esz) [(base+kk,.arr (es++ys))] []) none)) none
 |vs=>cM (lu esz bytes base kk vs ids obs) k
def Wn (dc:gI)(esz bytes base kk:Nat)(vs:List D)(ids:LN)(obs:List Ob)(k:KE):R:=
 match dc.par,vs with
 |true,[.sl .exact z es,b]=>iL (s0 z esz es) (cL (elems esz (ids.zip obs) b) fun ys=>iL (!es.isEmpty&&ys.isEmpty) (k (.sl .exact z es) [] []) (iL (c8 (es.length+ys.length) bytes) (k (.arr (base+kk) 0 (es++ys).length esz) [(base+kk,.arr (es++ys))] []) none)) none
 |_,vs=>Wm dc.keys esz bytes base kk vs ids obs k
def N5 (bytes base kk:Nat)(vs:List D)(ids:LN)(obs:List Ob)(k:KE):R:=
 match vs with
 |[.arr id 0 len z,b]=>match ej (ids.zip obs) id with
  | .byt es=>iL (Nat.beq z 1) (iL (Nat.beq len es.length) (cL (elems 1 (ids.zip obs) b) fun ys=>iL (c8 (es.length+ys.length) bytes) (k (.arr (base+kk) 0 (es++ys).length 1) [(id,.dead),(base+kk,.byt (es++ys))] []) none) none) none
  |_=>none
 |[.sl .nil z es,b]=>cL (elems 1 (ids.zip obs) b) fun ys=>iL (c8 (0+ys.length) bytes) (k (.arr (base+kk) 0 ys.length 1) [(base+kk,.byt ys)] []) none
 |vs=>cM (tV bytes base kk vs ids obs) k
def G4 (vs:List D)(k:KE):R:=
 match vs with
 |[.arr id lo len _]=>iL (Nat.beq len 0) none (k (.el id lo 0) [] [])
 |vs=>cM (nH vs) k
def QT (vs:List D)(ids:LN)(obs:List Ob)(k:KE):R:=
 match vs with
 |[.el id i off,.p (.int .i64 n)]=>match ej (ids.zip obs) id with
  | .byt es=>iL (Nat.beq off 0&&((aL 1 n&&aL n 9223372036854775807)&&Nat.ble (i+n.toNat) es.length)) (cL (fU ((es.drop i).take n.toNat)) fun s=>k (.p (.str s)) [(id,.dead)] []) none
  |_=>none
 |vs=>cM (xv vs ids obs) k
def Wp (vs:List D)(ids:LN)(obs:List Ob)(k:KE):R:=
 match vs with
 |[d]=>cL (elems 1 (ids.zip obs) d) fun es=>cL (fU es) fun s=>k (.p (.str s)) [] []
 |_=>none
def WO (esz:Nat)(vs:List D)(ids:LN)(obs:List Ob)(k:KE):R:=
 match vs with
 |[.arr id lo len z,b]=>match ej (ids.zip obs) id with
  | .arr es=>cL (elems esz (ids.zip obs) b) fun ys=>iL (ys.take len).isEmpty (k (.p (xR 0)) [] []) (iL (Nat.beq z esz) (k (.p (xR (ys.take len).length)) [(id,.arr (splice es lo (ys.take len)))] []) none)
  |_=>none
 |_=>none
def Vd (dc:gI)(cc:ae)(f:Nat)(args:List D)(ids:LN)(obs:List Ob)(len:Nat)(k:KE):R:=
 cc f (fi (hU ids) args) (ll (hU ids) obs) fun r out=>dc.ca f (ll (hU ids) obs) r out fun r out=>iL (Nat.ble ids.length out.length) (k (R_ (back ids.length len ids out.length) r) (ids.zip (ll (back ids.length len ids out.length) out)) ((ll (back ids.length len ids out.length) out).drop ids.length)) none
def ug [Mv](dc:gI)(cc:ae)(f:Nat)(args:List D)(ids:LN)(obs:List Ob)(len:Nat)(k:KE):R:=
 match Mv.mv f with
 |true=>cc f (fi (hU ids) args) (ll (hU ids) obs) fun r out=>dc.ca f (ll (hU ids) obs) r out fun r out=>iL (Nat.ble (dW f (fi (hU ids) args) ids.length) out.length) (k (R_ (back (dW f (fi (hU ids) args) ids.length) len ids out.length) r) ((ids.take (dW f (fi (hU ids) args) ids.length)).zip (ll (back (dW f (fi (hU ids) args) ids.length) len ids out.length) out)++(ids.drop (dW f (fi (hU ids) args) ids.length)).map fun i=>(i,.dead)) ((ll (back (dW f (fi (hU ids) args) ids.length) len ids out.length) out).drop (dW f (fi (hU ids) args) ids.length))) none
 |false=>Vd dc cc f args ids obs len k
def FM [Mv](dc:gI)(cc:ae)(vs:List D)(ids:LN)(obs:List Ob)(len:Nat)(k:KE):R:=
 match vs with
 | .p (.fn f caps)::args=>ug dc cc (wi f) (fX f (caps.map .p) (args.map norm)) ids obs len k
 | .fn f caps::args=>ug dc cc (wi f) (fX f caps (args.map norm)) ids obs len k
 |_=>none
def Wh [Mv](dc:gI)(cc:ae)(base:Nat)(o:O)(kk:Nat)(vs:List D)(ids:LN)(obs:List Ob)(len:Nat)(k:KE):R:=
 match o with
 | .pick=>Qq vs k
 | .bin op=>Wr op vs k
 | .binS ks op=>Og ks op vs k
 | .ia esz=>ó dc esz vs k
 | .ix=>ö vs k
 | .slStr lo hi=>G7 lo hi vs k
 | .slSl esz lo hi mx=>QA esz lo hi mx vs ids obs k
 | .slW esz lo hi=>X9 esz lo hi vs k
 | .ixa n esz agg=>XH dc n esz agg vs k
 | .iaa n esz=>Xy n esz vs k
 | .load n agg=>P4 dc n agg vs obs k
 | .store n=>Ha dc n vs ids obs k
 | .lkp kt z ok=>XL dc kt z ok vs ids obs k
 | .mupd kt=>Qe dc.keys kt vs ids obs k
 | .mksl esz z bytes=>Qc esz z bytes base kk vs k
 | .app esz bytes=>Wn dc esz bytes base kk vs ids obs k
 | .b2s=>Wp vs ids obs k
 | .appB bytes=>N5 bytes base kk vs ids obs k
 | .sdata=>G4 vs k
 | .ustr=>QT vs ids obs k
 | .cpy esz=>WO esz vs ids obs k
 | .call f raw=>ug dc cc f (bif raw then vs else vs.map norm) ids obs len k
 | .callv=>FM dc cc vs ids obs len k
 |o=>cM (nb (fun _ _ _=>none) base o kk vs ids obs len) k
section laws
variable {k k':KE} (hk:∀v u n,Le (k v u n) (k' v u n))
include hk
theorem cW (o:Option eV):Le (cM o k) (cM o k'):=Le.opt fun e h=>by subst h;exact hk _ _ _
theorem Qr (vs:List D):Le (Qq vs k) (cM (xu vs) k'):=by
 unfold Qq;split
 ·exact Le.two (fun h=>by subst h;exact hk _ _ _) (fun h=>by subst h;exact hk _ _ _)
 ·exact Le.no _
theorem Sd (op:BinOp)(vs:List D):Le (Wr op vs k) (cM (yR op vs) k'):=by
 unfold Wr;split
 ·split
  ·refine Le.two (fun _=>Le.no _) (fun h=>?_);split
   ·rename_i e;subst e;simp only[yR,bin,iS,h,jg];exact hk _ _ _
   ·exact Le.no _
  ·refine Le.two (fun _=>Le.no _) (fun h=>?_);split
   ·rename_i e;subst e;simp only[yR,bin,iS,h,jg];exact hk _ _ _
   ·exact Le.no _
  ·refine Le.two (fun _=>Le.no _) (fun h=>?_);simp only[yR,bin,kg,h,jg];exact hk _ _ _
  ·refine Le.two (fun _=>Le.no _) (fun h=>?_);simp only[yR,bin,kg,h,jg];exact hk _ _ _
  ·exact cW hk _
 ·split
  ·refine Le.grd fun h=>?_
   simp only[yR,bin,nL,h,jg];exact hk _ _ _
  ·exact cW hk _
 ·exact cW hk _
 ·exact Le.no _
omit hk in
theorem lZ {q:Bool->R}{x:R}:∀(ks:LN) (xs ys:LD),(∀b,fV ks xs ys=some b->Le (q b) x)->Le (gW ks xs ys q) x
 |[],xs,ys,h=>by unfold gW;exact h true (by simp[fV])
 |c::ks,[],ys,h=>by unfold gW;exact Le.no _
 |c::ks,x::xs,[],h=>by unfold gW;exact Le.no _
 |c::ks,x::xs,y::ys,h=>by
  unfold gW;refine Le.opt fun b hb=>Le.two (fun e=>?_) (fun e=>?_)
  ·exact lZ ks xs ys fun b' h'=>h b' (by simp only[fV,hb,e,cond_true,h'])
  ·exact h false (by simp only[fV,hb,e,cond_false])
theorem Oh (ks:LN)(op:BinOp)(vs:List D):Le (Og ks op vs k) (cM (xq ks op vs) k'):=by
 unfold Og;split
 ·split
  ·refine lZ _ _ _ fun b hb=>?_
   simp only[xq,binS,hb,jg];exact hk _ _ _
  ·refine lZ _ _ _ fun b hb=>?_
   simp only[xq,binS,hb,jg];exact hk _ _ _
  ·exact Le.no _
 ·exact Le.no _
variable {dc:gI}
theorem Xw (hd:dc.Ok)(esz:Nat)(vs:List D):Le (ó dc esz vs k) (cM (HN esz vs) k'):=by
 unfold ó;split
 ·refine Le.grd fun h=>Le.opt fun x hx=>(hd.el _ _ _).trans ?_
  simp only[HN,h,hx];exact hk _ _ _
 ·refine Le.grd fun h=>Le.opt fun x hx=>(hd.el _ _ _).trans ?_
  simp only[HN,h,hx];exact hk _ _ _
 ·refine Le.grd fun h=>Le.opt fun x hx=>(hd.el _ _ _).trans ?_
  simp only[HN,h,hx];exact hk _ _ _
 ·refine Le.grd fun h=>Le.grd fun h1=>Le.grd fun h2=>?_
  simp only[HN,h,h1,h2,cond_true];exact hk _ _ _
 ·exact Le.no _
theorem XF (vs:List D):Le (ö vs k) (cM (RZ vs) k'):=by
 unfold ö;split
 ·refine Le.opt fun x hx=>?_
  simp only[RZ,hx];exact hk _ _ _
 ·exact Le.no _
theorem LA (lo hi:Bool)(vs:List D):Le (G7 lo hi vs k) (cM (kU lo hi vs) k'):=by
 unfold G7;split
 ·refine fx fun l h m hp=>?_
  simp only[kU,hp];exact hk _ _ _
 ·exact Le.no _
theorem QB (esz:Nat)(lo hi mx:Bool)(vs:List D)(ids:LN)(obs:List Ob):Le (QA esz lo hi mx vs ids obs k) (cM (gc esz lo hi mx vs ids obs) k'):=by
 unfold QA;split
 ·refine Le.grd fun h=>fx fun l h' m hp=>?_
  simp only[gc,h,hp,cond_true,Bool.false_and,cond_false];exact hk _ _ _
 ·refine Le.grd fun h=>fx fun l h' m hp=>?_
  simp only[gc,h,hp,cond_true];exact hk _ _ _
 ·refine Le.grd fun h=>fx fun l h' m hp=>?_
  rw[QN];simp only[gc,h,hp,cond_true,cond_false];cases lo&&!hi&&(Nat.beq l h'&&mh (ids.zip obs) _ _)<;>exact hk _ _ _
 ·refine Le.grd fun h=>fx fun l h' m hp=>Le.two (fun h1=>?_) (fun h1=>?_)
  ·simp only[gc,h,hp,cond_true,Bool.true_and,h1];exact hk _ _ _
  ·simp only[gc,h,hp,cond_true,cond_false,Bool.true_and,h1];exact hk _ _ _
 ·refine Le.grd fun h=>fx fun l h' m hp=>Le.two (fun h0=>?_) (fun h0=>?_)
  ·simp only[gc,h,hp,cond_true,h0];exact hk _ _ _
  split
  ·rename_i es hl;refine Le.two (fun h1=>?_) (fun h1=>?_)
   ·simp only[gc,h,hp,hl,cond_true,h0,cond_false,h1];exact hk _ _ _
   ·simp only[gc,h,hp,hl,cond_true,h0,cond_false,h1];exact hk _ _ _
  ·rename_i es hl;refine Le.two (fun h1=>?_) (fun h1=>?_)
   ·simp only[gc,h,hp,hl,cond_true,h0,cond_false,h1];exact hk _ _ _
   ·simp only[gc,h,hp,hl,cond_true,h0,cond_false,h1];exact hk _ _ _
  ·exact Le.no _
 ·exact cW hk _
theorem T5 (hd:dc.Ok)(n esz:Nat)(agg:Bool)(vs:List D):Le (XH dc n esz agg vs k) (cM (Fz n esz agg vs) k'):=by
 unfold XH;split
 ·rename_i cs kk i;refine Le.grd fun h1=>Le.grd fun h2=>Le.opt fun x hx=>(hd.el _ _ _).trans ?_
  have hs:sub (cs.map D.p) (i.toNat*1) 1=some [.p x]:=by
   have hl:i.toNat<cs.length:=by
    grind
   rw[lε hl,lα]at hx;unfold sub;rw[Nat.mul_one,lβ,show Nat.ble (i.toNat+1) cs.length=true by simp;omega,mπ (by simp_all),List.getElem_map,hx];rfl
  simp only[Fz,h1,h2,hs,dN];exact hk _ _ _
 ·exact cW hk _
omit hk in
theorem cE (a b:Int):az a b=decide (a=b):=by
 cases a<;>cases b<;>simp only[az]
 ·rw[mζ];simp;omega
 ·simp
 ·simp
 ·rw[mζ];simp
omit hk in
theorem bX (a b:Int):aG a b=decide (a<b):=by
 cases a<;>cases b<;>simp only[aG]
 ·rw[mζ];simp[Nat.blt_eq]
 ·rw[mζ];simp;omega
 ·rw[mζ];simp;omega
 ·rw[mζ];simp[Nat.blt_eq];omega
omit hk in
theorem bj (a b:Int):aL a b=decide (a<=b):=by
 unfold aL;rw[bX,mζ];simp
omit hk in
theorem CS (id o esz:Nat)(i:Int){X:R}:∀(m j n:Nat),j+m=n->(∀q:Nat,i=(q:Int)->q<n->Le (k (.box id (o+q*esz)) [] []) X)->Le (Is id o esz i k m j) X
 |0,_,_,_,_=>Le.no _
 |m+1,j,n,h,hX=>by
  unfold Is;refine Le.two (fun e=>?_) (fun _=>CS id o esz i m (j+1) n (by omega) hX);rw[cE,lδ]at e;exact hX j e (by omega)
theorem TY (n esz:Nat)(vs:List D):Le (Xy n esz vs k) (cM (B3 n esz vs) k'):=by
 unfold Xy;split
 ·rename_i id o kk i;refine CS id o esz i n 0 n (by omega) fun q hq hn=>?_
  subst hq;have h1:aL 0 (q:Int)=true:=by rfl
  have h2:aG (q:Int) (n:Int)=true:=by rw[bX,lδ];omega
  simp only[B3,h2,Int.toNat_natCast];exact hk _ _ _
 ·exact cW hk _
theorem UA (esz:Nat)(lo hi:Bool)(vs:List D):Le (X9 esz lo hi vs k) (cM (J5 esz lo hi vs) k'):=by
 unfold X9;split
 ·refine Le.grd fun h=>fx fun l h' m hp=>?_
  simp only[J5,h,hp,cond_true];exact hk _ _ _
 ·exact Le.no _
theorem P5 (hd:dc.Ok)(n:Nat)(agg:Bool)(vs:List D)(obs:List Ob):Le (P4 dc n agg vs obs k) (cM (fJ n agg vs obs) k'):=by
 unfold P4;split
 ·split
  ·refine Le.opt fun e he=>(hd.el _ _ _).trans (Le.opt fun ds hds=>Le.opt fun d hd=>?_)
   simp only[fJ,he,hds,hd];exact hk _ _ _
  ·refine Le.opt fun e he=>(hd.el _ _ _).trans (Le.opt fun ds hds=>Le.opt fun d hd=>?_)
   simp only[fJ,he,hds,hd];exact hk _ _ _
  ·exact Le.no _
 ·exact cW hk _
theorem LK (hd:dc.Ok)(n id i off:Nat)(d:D)(ids:LN)(obs:List Ob):Le (Hb dc n id i off d ids obs k) (cM (kV n [.el id i off,d] ids obs) k'):=by
 unfold Hb;split
 ·rename_i es hl;refine Le.opt fun e he=>(hd.el _ _ _).trans (Le.opt fun x hx=>Le.grd fun h1=>Le.grd fun h2=>Le.opt fun e' he'=>?_)
  simp only[kV,hl,he,hx,h1,h2,he'];exact hk _ _ _
 ·exact Le.no _
theorem LJ (hd:dc.Ok)(n:Nat)(vs:List D)(ids:LN)(obs:List Ob):Le (Ha dc n vs ids obs k) (cM (kV n vs ids obs) k'):=by
 unfold Ha;split
 ·exact LK hk hd _ _ _ _ _ _ _
 ·split
  ·rename_i es hl;refine Le.opt fun e he=>Le.opt fun x hx=>Le.grd fun h1=>Le.grd fun h2=>Le.opt fun e' he'=>?_
   have hb:=lθ h1;have hb2:=lθ h2;have hs:splice (cells e) 0 (cells x)=cells x:=by simp[splice,hb,hb2.symm▸List.drop_length]
   have hle:Nat.ble (0+n) (cells e).length=true:=by simp_all
   simp only[kV,hl,he,hx,h1,hle,hs,he'];exact hk _ _ _
  ·exact Le.no _
 ·exact cW hk _
omit hk in
theorem uv {kt:TypeDesc}{x:Da}{q:Option Nat->R}{y:R}:∀(ks:LD) (i:Nat),(∀o,cr kt x ks i=some o->Le (q o) y)->Le (xM kt x ks i q) y
 |[],i,h=>by unfold xM;exact h none rfl
 |c::r,i,h=>by
  unfold xM;refine Le.opt fun b hb=>Le.two (fun e=>?_) (fun e=>?_)
  ·subst e;exact h _ (by simp only[cr,hb])
  ·subst e;exact uv r (i+1) fun o ho=>h o (by simp only[cr,hb,ho])
omit hk in
theorem CK {keys:Bool}{kt:TypeDesc}{x:Da}{q:Option Nat->R}{y:R}(ks:LD)(h:∀o,cr kt x ks 0=some o->Le (q o) y):Le (Py keys kt x ks q) y:=by
 cases keys
 ·exact Le.opt h
 ·exact uv ks 0 h
theorem Uc (hd:dc.Ok)(kt:TypeDesc)(z:D)(ok:Bool)(vs:List D)(ids:LN)(obs:List Ob):Le (XL dc kt z ok vs ids obs k) (cM (tW kt z ok vs ids obs) k'):=by
 unfold XL;split
 ·rename_i d x;split
  ·rename_i ks ws he;refine CK ks fun o ho=>?_
   have key:Le (od o (k (bif ok then .tup [z,.p (.bool false)]else z) [] []) fun i=>cL ws[i]? fun v=>dc.mv z v fun v=>k (bif ok then .tup [.p v,.p (.bool true)]else .p v) [] []) (cM (match cr kt x ks 0 with
    |some (some i)=>match ws[i]? with
     |some v=>val (bif ok then .tup [.p v,.p (.bool true)]else .p v)
     |none=>none
    |some none=>val (bif ok then .tup [z,.p (.bool false)]else z)
    |none=>none) k'):=by
    rw[ho];cases o with
    |none=>exact hk _ _ _
    |some i=>
     refine Le.opt fun v hv=>(hd.mv _ _ _).trans ?_
     simp only[hv];exact hk _ _ _
   split at he
   ·simp only[lα,lμ]at he;obtain⟨rfl,rfl⟩:=he;exact key
   ·simp only[lα,lμ]at he;obtain⟨rfl,rfl⟩:=he;exact key
   ·split at he
    ·rename_i hl;simp only[lα,lμ]at he;obtain⟨rfl,rfl⟩:=he;simp only[tW,hl];exact key
    ·rename_i hl;simp only[lα,lμ]at he;obtain⟨rfl,rfl⟩:=he;simp only[tW,hl];exact key
    ·cases he
   ·cases he
  ·split
   ·split
    ·rename_i hl;refine uv _ _ fun o ho=>?_
     simp only[tW,hl,K4,ho];cases o with
     |none=>exact hk _ _ _
     |some i=>
      refine Le.opt fun v hv=>?_
      simp only[hv];exact hk _ _ _
    ·exact cW hk _
   ·exact cW hk _
 ·exact cW hk _
theorem Qf (keys:Bool)(kt:TypeDesc)(vs:List D)(ids:LN)(obs:List Ob):Le (Qe keys kt vs ids obs k) (cM (rx kt vs ids obs) k'):=by
 unfold Qe;split
 ·split
  ·rename_i hl;split
   ·rename_i y hp;refine CK _ fun o ho=>?_
    simp only[rx,hl,hp,ho];cases o<;>exact hk _ _ _
   ·exact cW hk _
  ·exact cW hk _
 ·exact cW hk _
theorem Qd (esz:Nat)(z:Da)(bytes base kk:Nat)(vs:List D):Le (Qc esz z bytes base kk vs k) (cM (B8 esz z bytes base kk vs) k'):=by
 unfold Qc;split
 ·refine Le.grd fun h=>?_
  simp only[B8,h,cond_true];exact hk _ _ _
 ·exact Le.no _
theorem R5 (tr:Bool)(esz bytes base kk:Nat)(vs:List D)(ids:LN)(obs:List Ob):Le (Wm tr esz bytes base kk vs ids obs k) (cM (lu esz bytes base kk vs ids obs) k'):=by
 unfold Wm;split
 ·split
  ·rename_i es hl;split
   ·refine Le.grd fun h1=>Le.opt fun ys hy=>Le.grd fun h3=>?_
    unfold c8 at h3;simp only[lu,jv,hl,h1,cond_true,hy,List.drop_zero,h3,mη,List.nil_append];exact hk _ _ _
   refine Le.grd fun h1=>Le.grd fun h2=>Le.opt fun ys hy=>Le.grd fun h3=>?_
   have h2':=lθ h2;subst h2';unfold c8 at h3;simp only[lu,jv,hl,h1,cond_true,hy,List.drop_zero,List.take_length,h3,mη,List.nil_append];exact hk _ _ _
  ·exact Le.no _
 ·refine Le.opt fun ys hy=>Le.grd fun h3=>?_
  unfold c8 at h3;simp only[lu,jv,hy,List.isEmpty_nil,Bool.not_true,Bool.and_false,List.length_nil,h3,List.nil_append];rw[Nat.zero_add];exact hk _ _ _
 ·refine Le.opt fun ys hy=>Le.grd fun h3=>?_
  unfold c8 at h3;simp only[lu,jv,s0,List.isEmpty_nil,Bool.or_true,cond_true,hy,Bool.not_true,Bool.and_false,List.length_nil,h3,List.nil_append];rw[Nat.zero_add];exact hk _ _ _
 ·refine Le.grd fun h1=>Le.opt fun ys hy=>Le.two (fun h2=>?_) (fun h2=>Le.grd fun h3=>?_)
  ·rw[lγ]at h2;simp only[lu,jv,h1,cond_true,hy,h2.1,h2.2,Bool.and_self];exact hk _ _ _
  ·unfold c8 at h3;rw[Bool.and_comm]at h2;simp only[lu,jv,h1,cond_true,hy,List.isEmpty_nil,Bool.true_and,h2,h3,List.nil_append];rw[<-mη];exact hk _ _ _
 ·exact cW hk _
theorem R6 (dc:gI)(esz bytes base kk:Nat)(vs:List D)(ids:LN)(obs:List Ob):Le (Wn dc esz bytes base kk vs ids obs k) (cM (lu esz bytes base kk vs ids obs) k'):=by
 unfold Wn;split
 ·refine Le.grd fun h1=>Le.opt fun ys hy=>Le.two (fun h2=>?_) (fun h2=>Le.grd fun h3=>?_)
  ·rw[lγ]at h2;simp only[lu,jv,h1,cond_true,hy,h2.1,h2.2,Bool.and_self];exact hk _ _ _
  ·unfold c8 at h3;rw[Bool.and_comm]at h2;simp only[lu,jv,h1,cond_true,hy,List.isEmpty_nil,Bool.true_and,h2,h3,List.nil_append];rw[<-mη];exact hk _ _ _
 ·exact R5 hk _ _ _ _ _ _ _ _
theorem N6 (bytes base kk:Nat)(vs:List D)(ids:LN)(obs:List Ob):Le (N5 bytes base kk vs ids obs k) (cM (tV bytes base kk vs ids obs) k'):=by
 unfold N5;split
 ·split
  ·rename_i es hl;refine Le.grd fun h1=>Le.grd fun h2=>Le.opt fun ys hy=>Le.grd fun h3=>?_
   have h2':=lθ h2;subst h2';unfold c8 at h3;simp only[tV,ua,hl,h1,cond_true,hy,List.drop_zero,List.take_length,h3,mη,List.nil_append];exact hk _ _ _
  ·exact Le.no _
 ·refine Le.opt fun ys hy=>Le.grd fun h3=>?_
  unfold c8 at h3;simp only[tV,ua,hy,List.isEmpty_nil,Bool.not_true,Bool.and_false,List.length_nil,h3,List.nil_append];rw[Nat.zero_add];exact hk _ _ _
 ·exact cW hk _
theorem Lx (vs:List D):Le (G4 vs k) (cM (nH vs) k'):=by
 unfold G4;split
 ·refine Le.two (fun _=>Le.no _) (fun h=>?_);simp only[nH,h,val];exact hk _ _ _
 ·exact cW hk _
theorem QU (vs:List D)(ids:LN)(obs:List Ob):Le (QT vs ids obs k) (cM (xv vs ids obs) k'):=by
 unfold QT;split
 ·split
  ·rename_i es hl;refine Le.grd fun h1=>Le.opt fun s hs=>?_
   simp only[xv,hl,h1,hs];exact hk _ _ _
  ·exact Le.no _
 ·exact cW hk _
theorem Sa (vs:List D)(ids:LN)(obs:List Ob):Le (Wp vs ids obs k) (cM (J1 vs ids obs) k'):=by
 unfold Wp;split
 ·refine Le.opt fun es he=>Le.opt fun s hs=>?_
  simp only[J1,he,hs];exact hk _ _ _
 ·exact Le.no _
theorem SI (esz:Nat)(vs:List D)(ids:LN)(obs:List Ob):Le (WO esz vs ids obs k) (cM (J3 esz vs ids obs) k'):=by
 unfold WO;split
 ·split
  ·rename_i es hl;refine Le.opt fun ys hy=>Le.two (fun h=>?_) (fun h=>Le.grd fun h1=>?_)
   ·simp only[J3,hl,hy,h,cond_true,val];exact hk _ _ _
   ·simp only[J3,hl,hy,h,cond_false,h1,cond_true];exact hk _ _ _
  ·exact Le.no _
 ·exact Le.no _
variable {cc:ae}
theorem OE (hd:dc.Ok){call:aD}(hc:bO cc call)(f:Nat)(args:List D)(ids:LN)(obs:List Ob)(len:Nat):Le (Vd dc cc f args ids obs len k) (cM (fg call f args ids obs len) k'):=by
 refine(hc f _ _ _ (fun r out=>iL (Nat.ble ids.length out.length) (k' (mapD (back ids.length len ids out.length) r) (ids.zip (out.map (bS (back ids.length len ids out.length)))) ((out.map (bS (back ids.length len ids out.length))).drop ids.length)) none) fun r out=>(hd.ca _ _ _ _ _).trans ?_).trans ?_
 ·rw[fm,j4];exact Le.grd fun h=>by simp only[h,iL];simp_all
 ·rw[gC,j4,iz];unfold fg cM;cases call f (mapD.mapDL (idx ids) args) (obs.map (bS (idx ids)))with
  |none=>exact Le.no _
  |some p=>
   refine Le.grd fun h=>?_
   simp only[h,cond_true];exact Le.refl _
theorem qB [Mv](hd:dc.Ok){call:aD}(hc:bO cc call)(f:Nat)(args:List D)(ids:LN)(obs:List Ob)(len:Nat):Le (ug dc cc f args ids obs len k) (cM (lS call f args ids obs len) k'):=by
 unfold ug lS;cases Mv.mv f
 ·exact OE hk hd hc _ _ _ _ _
 generalize hm:dW f (fi (hU ids) args) ids.length=m;refine(hc f _ _ _ (fun r out=>iL (Nat.ble m out.length) (k' (mapD (back m len ids out.length) r) ((ids.take m).zip (out.map (bS (back m len ids out.length)))++(ids.drop m).map fun i=>(i,.dead)) ((out.map (bS (back m len ids out.length))).drop m)) none) fun r out=>(hd.ca _ _ _ _ _).trans ?_).trans ?_
 ·rw[fm,j4];exact Le.grd fun h=>by simp only[h,iL];simp_all
 ·rw[gC,iz]at hm;rw[gC,j4,iz,hm];unfold iy cM;cases call f (mapD.mapDL (idx ids) args) (obs.map (bS (idx ids)))with
  |none=>exact Le.no _
  |some p=>
   refine Le.grd fun h=>?_
   simp only[h,cond_true];exact Le.refl _
theorem Kl [Mv](hd:dc.Ok){call:aD}(hc:bO cc call)(vs:List D)(ids:LN)(obs:List Ob)(len:Nat):Le (FM dc cc vs ids obs len k) (cM (uh call vs ids obs len) k'):=by
 unfold FM uh;split
 ·exact qB hk hd hc _ _ _ _ _
 ·exact qB hk hd hc _ _ _ _ _
 ·exact Le.no _
theorem R0 [Mv](hd:dc.Ok){call:aD}(hc:bO cc call)(base:Nat)(o:O)(kk:Nat)(vs:List D)(ids:LN)(obs:List Ob)(len:Nat):Le (Wh dc cc base o kk vs ids obs len k) (cM (qv call base o kk vs ids obs len) k'):=by
 unfold Wh;split
 ·exact Qr hk _
 ·exact Sd hk _ _
 ·exact Oh hk _ _ _
 ·exact Xw hk hd _ _
 ·exact XF hk _
 ·exact LA hk _ _ _
 ·exact QB hk _ _ _ _ _ _ _
 ·exact UA hk _ _ _ _
 ·exact T5 hk hd _ _ _ _
 ·exact TY hk _ _ _
 ·exact P5 hk hd _ _ _ _
 ·exact LJ hk hd _ _ _ _
 ·exact Uc hk hd _ _ _ _ _ _
 ·exact Qf hk _ _ _ _ _
 ·exact Qd hk _ _ _ _ _ _
 ·exact R6 hk _ _ _ _ _ _ _ _
 ·exact Sa hk _ _ _
 ·exact N6 hk _ _ _ _ _ _
 ·exact Lx hk _
 ·exact QU hk _ _ _
 ·exact SI hk _ _ _ _
 ·exact qB hk hd hc _ _ _ _ _
 ·exact Kl hk hd hc _ _ _ _
 ·rename_i o' h1 h2 h3 h4 h5 h6 h7 h8 h9 h10 h11 h12 h13 h14 h15 h16 h17;have e:nb (fun _ _ _=>none) base o kk vs ids obs len=qv call base o kk vs ids obs len:=by
   cases o<;>first|rfl|exact absurd rfl (h16 _ _)|exact absurd rfl h17
  rw[e];exact cW hk _
end laws
end
section
def î (x:ek)(tm:Tm)(t e:R):R:=
 match x.gd with
 |none=>t
 |some (g,w)=>match get tm g with
  | .p (.bool b)=>match w with
   |true=>iL b t e
   |false=>iL b e t
  | .tup []=>e
  |_=>none
theorem Xi {x:ek}{tm:Tm}{t e X:R}(ht:c7 x tm=some true->Le t X)(he:c7 x tm=some false->Le e X):Le (î x tm t e) X:=by
 unfold î;split
 ·rename_i h;exact ht (by simp[c7,h])
 ·rename_i g w h;split
  ·rename_i b hb;have hg:c7 x tm=some (b==w):=by simp[c7,h,hb]
   cases w
   ·exact Le.two (fun e=>he (by simp_all)) (fun e=>ht (by simp_all))
   ·exact Le.two (fun e=>ht (by simp_all)) (fun e=>he (by simp_all))
  ·rename_i hb;exact he (by simp[c7,h,hb])
  ·exact Le.no _
variable [Mv]
def pG (o:O)(vs:List D)(hp:List Ob):LN:=
 match o with
 | .call f _=>match Mv.mv f with
  |true=>eg hp aZ ((gV (dr vs []) []).flatMap fun i=>gj (aI hp i)) (gV (dr vs []) [])
  |false=>eg hp aZ (dr vs []) []
 | .callv=>match vs with
  | .fn f caps::args=>match Mv.mv (wi f)with
   |true=>eg hp aZ ((gV (dr (fX f caps (args.map norm)) []) []).flatMap fun i=>gj (aI hp i)) (gV (dr (fX f caps (args.map norm)) []) [])
   |false=>eg hp aZ (dr vs []) []
  | .p (.fn f caps)::args=>match Mv.mv (wi f)with
   |true=>eg hp aZ ((gV (dr (fX f (caps.map .p) (args.map norm)) []) []).flatMap fun i=>gj (aI hp i)) (gV (dr (fX f (caps.map .p) (args.map norm)) []) [])
   |false=>eg hp aZ (dr vs []) []
  |vs=>eg hp aZ (dr vs []) []
 |o=>bm o vs hp
theorem Qi (o:O)(vs:List D)(hp:List Ob):pG o vs hp=c5 o vs hp:=by
 cases o<;>first
  |rfl
  |(simp only[pG,cY,dw,mκ,c5,bm];done)
  |(
    rename_i f raw;simp only[pG,cY,dw,mκ,c5,k8];cases Mv.mv f<;>rfl)
  |(
    simp only[pG,c5,nr];split
    ·simp only[cY,dw,mκ,k8];cases Mv.mv _<;>rfl
    ·simp only[cY,dw,mκ,k8];cases Mv.mv _<;>rfl
    ·simp only[cY,dw,mκ];rfl)
def G8 (v:D)(k:D->R):R:=match v with
 | .p (.bool b)=>iL b (k (.p (.bool true))) (k (.p (.bool false)))
 |v=>k v
theorem LF {v:D}{k:D->R}{X:R}(h:Le (k v) X):Le (G8 v k) X:=by
 unfold G8;split
 ·rename_i b;cases b<;>exact h
 ·exact h
def QF (s:Bool)(v:D)(k:D->R):R:=match s with
 |true=>G8 v k
 |false=>k v
theorem LG {s:Bool}{v:D}{k:D->R}{X:R}(h:Le (k v) X):Le (QF s v k) X:=by
 cases s
 ·exact h
 ·exact LF h
def U9 (d:Option Nat):List ek->Bool
 |[]=>false
 |x::r=>match d with
  |none=>false
  |some t=>(match x.gd with|some (g,_)=>Nat.beq g t|none=>false)||((match x.op,x.as with| .pick,.t g::_=>Nat.beq g t|_,_=>false)||U9 d r)
def ou (ids:LN)(hp:List Ob)(l:List (Nat×Ob)):List (Nat×Bool):=List.rec (motive:=fun _=>List (Nat×Bool)) [] (fun p _ ih=>(p.1,!(lk p.1 ids&&Mv.eq (aI hp p.1) p.2))::ih) l
theorem hH (ids:LN)(hp:List Ob):∀l,mH (ou ids hp l)=f8 ids hp l
 |[]=>rfl
 |(i,o)::r=>by
  show(bif !(lk i ids&&Mv.eq (aI hp i) o)then i::mH (ou ids hp r)else mH (ou ids hp r))=_;rw[hH ids hp r];simp only[f8];cases lk i ids&&Mv.eq (aI hp i) o<;>rfl
def FY (a b:List Ob):Bool:= @decide (a=b) (Classical.propDecidable _)
def Ca (ids:LN):List (Nat×Ob)->Bool
 |[]=>true
 |p::r=>lk p.1 ids&&Ca ids r
theorem ow {f:Nat}(hf:Mv.sm f=true)(ids:LN)(hp:List Ob):∀l:List (Nat×Ob),Ca ids l=true->l.map (fun p=>aI hp p.1)=l.map (·.2)->f8 ids hp l=[]
 |[],_,_=>rfl
 |(i,o)::r,h1,h2=>by
  simp only[Ca,lγ]at h1;simp only[List.map_cons,lχ]at h2;simp only[f8,h1.1,h2.1,Mv.rf f hf,Bool.and_self,cond_true];exact ow hf ids hp r h1.2 h2.2
def Ą (o:O)(vs:List D)(ids:LN)(hp:List Ob)(ups:List (Nat×Ob))(k:List (Nat×Bool)->R):R:=
 match o with
 | .call f _=>match Mv.sm f with
  |true=>iL (Ca ids ups) (iL (FY (ups.map fun p=>aI hp p.1) (ups.map (·.2))) (k []) none) none
  |false=>k (ou ids hp ups)
 | .callv=>match vs with
  | .fn f _::_=>match Mv.sm (wi f)with
   |true=>iL (Ca ids ups) (iL (FY (ups.map fun p=>aI hp p.1) (ups.map (·.2))) (k []) none) none
   |false=>k (ou ids hp ups)
  |_=>k (ou ids hp ups)
 |_=>k (ou ids hp ups)
theorem Yb {o:O}{vs:List D}{ids:LN}{hp:List Ob}{ups:List (Nat×Ob)}{k:List (Nat×Bool)->R}{X:R}(h:∀l,mH l=f8 ids hp ups->Le (k l) X):Le (Ą o vs ids hp ups k) X:=by
 unfold Ą;split
 ·split
  ·rename_i hf;refine Le.grd fun h1=>Le.grd fun h2=>h [] ?_
   unfold FY at h2;rw[ow hf ids hp ups h1 (@of_decide_eq_true _ (Classical.propDecidable _) h2)];rfl
  ·exact h _ (hH ids hp ups)
 ·split
  ·split
   ·rename_i hf;refine Le.grd fun h1=>Le.grd fun h2=>h [] ?_
    unfold FY at h2;rw[ow hf ids hp ups h1 (@of_decide_eq_true _ (Classical.propDecidable _) h2)];rfl
   ·exact h _ (hH ids hp ups)
  ·exact h _ (hH ids hp ups)
 ·exact h _ (hH ids hp ups)
def ý (dc:gI)(s:Bool)(cc:ae)(base:Nat)(x:ek)(tm:Tm)(hp:List Ob)(k:D->List Ob->fb->R):R:=
 iL (!(dJ x.op)||cT (aI hp (base+x.k)))
  (Wh dc cc base x.op x.k (x.as.map (ev tm)) (pG x.op (x.as.map (ev tm)) hp) ((pG x.op (x.as.map (ev tm)) hp).map (aI hp)) hp.length fun v ups new=>QF s v fun v=>Ą x.op (x.as.map (ev tm)) (pG x.op (x.as.map (ev tm)) hp) hp ups fun wl=>
   k v (grow (au hp ups) new) ⟨bif dJ x.op then(base+x.k)::pG x.op (x.as.map (ev tm)) hp else pG x.op (x.as.map (ev tm)) hp,wl,!new.isEmpty,hp.length⟩) none
def û (tm:Tm)(hp:List Ob)(k:K):R:=k tm hp
def Up (dc:gI)(cc:ae)(base:Nat):List ek->Tm->List Ob->List fb->(Tm->List Ob->List fb->R)->R
 |[],tm,hp,fs,k=>k tm hp fs.reverse
 |x::r,tm,hp,fs,k=>û tm hp fun tm hp=>î x tm (ý dc (dc.spl||U9 x.dst r) cc base x tm hp fun v hp f=>Up dc cc base r (put x.dst v tm) hp (f::fs) k) (Up dc cc base r (put x.dst (.tup []) tm) hp (⟨[],[],false,0⟩::fs) k)
section
variable {dc:gI} (hd:dc.Ok) {cc:ae} {call:aD} (hc:bO cc call) {base:Nat}
include hd hc
theorem XY {s:Bool}{x:ek}{tm:Tm}{hp:List Ob}{k:D->List Ob->fb->R}{X:R}(h:∀v hp' fL,nf call base x ⟨tm,hp⟩=some (⟨put x.dst v tm,hp'⟩,cp fL)->Le (k v hp' fL) X):Le (ý dc s cc base x tm hp k) X:=by
 unfold ý;refine Le.grd fun hm=>(R0 (fun _ _ _=>Le.refl _) hd hc _ _ _ _ _ _ _).trans ?_
 unfold cM;refine Le.opt fun e he=>?_
 obtain⟨v,ups,new⟩:=e;refine LG (Yb fun wl hw=>h v _ _ ?_);simp only[Qi]at he hw ⊢
 simp only[nf,hm,cond_true,he,cp,hw]
theorem Ah:∀(ops:List ek) (tm:Tm) (hp:List Ob) (fs:List fb) (k:Tm->List Ob->List fb->R) (X:R),(∀tm' hp' fs',eh call base ops ⟨tm,hp⟩ (fs.map cp)=some (⟨tm',hp'⟩,fs'.map cp)->Le (k tm' hp' fs') X)->Le (Up dc cc base ops tm hp fs k) X
 |[],tm,hp,fs,k,X,h=>h _ _ _ (by simp only[eh,List.map_reverse])
 |x::r,tm,hp,fs,k,X,h=>by
  refine Xi (fun hg=>XY hd hc fun v hp' fL he=>Ah r _ _ _ _ _ fun tm' hp'' fs' hr=>h _ _ _ ?_) (fun hg=>Ah r _ _ _ _ _ fun tm' hp'' fs' hr=>h _ _ _ ?_)
  ·simp only[eh,hg,he];exact hr
  ·simp only[eh,hg];exact hr
end
theorem uq {call:aD}{base:Nat}:∀{ops:List ek} {st st':St} {fs fs':List dR},eh call base ops st fs=some (st',fs')->jz call base ops st=some st'
 |[],st,st',fs,fs',h=>by
  simp only[eh,lα,lμ]at h;simp only[jz,h.1]
 |x::r,st,st',fs,fs',h=>by
  simp only[eh]at h;simp only[jz];split at h
  ·cases h
  ·split at h
   ·cases h
   ·exact uq h
  ·exact uq h
abbrev JJ:=Ex->Tm->List Ob->R
def lx (o:Option (Ex×St))(J:JJ):R:=cL o fun p=>J p.1 p.2.tm p.2.hp
def Yv (J J':JJ):Prop:=∀ex tm hp,Le (J ex tm hp) (J' ex tm hp)
def Q4 (ex:Ex)(n:R)(e:Nat->R)(r:R):R:=Ex.rec (motive:=fun _=>R) n (fun i=>e i) r ex
def Zw (dc:gI)(cc:ae)(nal:Nat)(ops:List ek)(prs:Option (List (Nat×Nat)))(out:LN)(tm:Tm)(hp:List Ob)(J:JJ):R:=
 Up dc cc hp.length ops tm (grow hp (List.replicate nal .unborn)) [] fun tm hp fs=>match prs with
  |none=>J .norm (eS out id tm) hp
  |some ps=>iL (jZ fs ps) (J .norm (eS out id tm) hp) none
variable {dc:gI} {cc:ae}
theorem Ux (hd:dc.Ok){call:aD}(hc:bO cc call)(nal:Nat)(ops:List ek)(prs:Option (List (Nat×Nat)))(out:LN)(tm:Tm)(hp:List Ob){J J':JJ}(hJ:Yv J J')(n m:Nat):Le (Zw dc cc nal ops prs out tm hp J) (lx (bN call n m (.reg nal ops prs out) ⟨tm,hp⟩) J'):=by
 refine Ah hd hc _ _ _ _ _ _ fun tm' hp' fs' he=>?_
 split
 ·have h0:=uq he;simp only[bN,pe,h0,cL];exact hJ _ _ _
 ·refine Le.grd fun ha=>?_
  rw[kW]at ha;simp at he;simp only[bN,pe,he,ha,cL];exact hJ _ _ _
def Iy (m:Nat)(live:LN)(tm:Tm)(hp:List Ob)(k:K):R:=
 k (eS live (R_ (hU (eg hp aZ (dr (live.map (get tm)) (gO m hp)) (List.range m)))) tm) (lg (eg hp aZ (dr (live.map (get tm)) (gO m hp)) (List.range m)) hp)
theorem zE (m:Nat)(live:LN)(tm:Tm)(hp:List Ob):∃st,dU m (.keep live) ⟨tm,hp⟩=some st/\∀k,Iy m live tm hp k=k st.tm st.hp:=by
 refine⟨_,rfl,fun k=>?_⟩
 unfold Iy;have e:R_ (hU (eg hp aZ (dr (live.map (get tm)) (gO m hp)) (List.range m)))=mapD (idx (ce hp aZ (dids.didsL (live.map (get tm))++(hp.take m).flatMap gj) (List.range m))):=by
  funext d
  rw[fm,iz,cY,dw,gD]
 rw[e,jf,cY,dw,gD]
def Y9 (m:Nat)(g:Gh)(tm:Tm)(hp:List Ob)(k:K):R:=
 match g with
 | .keep live=>Iy m live tm hp k
 |g=>cL (dU m g ⟨tm,hp⟩) fun st=>k st.tm st.hp
def QQ (s off:Nat)(tm:Tm)(hp:List Ob)(k:K):R:=
 match Yo ⟨tm,hp⟩ s off with
 | .box id o=>match aI hp id with
  | .box cs=>match cs[o+F7 off]? with
   |some (.arr i _ _ _)=>match aI hp i with
    | .arr es=>k tm (jd hp i (.may false es))
    | .fz es=>k tm (jd hp i (.may true es))
    | .may b es=>iL b none (k tm (jd hp i (.arr es)))
    |_=>none
   |_=>none
  |_=>none
 |_=>none
theorem I5 (m s off:Nat)(tm:Tm)(hp:List Ob){k k':K}(hk:∀tm hp,Le (k tm hp) (k' tm hp)):Le (QQ s off tm hp k) (cL (dU m (.tog s off) ⟨tm,hp⟩) fun st=>k' st.tm st.hp):=by
 unfold QQ;split
 ·rename_i id o hs;split
  ·rename_i cs hcs;split
   ·rename_i i _ _ _ hd;split
    ·rename_i es ho;simp only[dU,hs,hcs,hd,ho];exact hk _ _
    ·rename_i es ho;simp only[dU,hs,hcs,hd,ho];exact hk _ _
    ·rename_i b es ho;simp only[dU,hs,hcs,hd,ho];cases b
     ·exact hk _ _
     ·exact Le.no _
    ·exact Le.no _
   ·exact Le.no _
  ·exact Le.no _
 ·exact Le.no _
def OL (d:D)(t e:R):R:=match d with| .p (.bool b)=>iL b t e|_=>none
abbrev dT:=Nat->Bool->Nat->LN->Co->Nat->Tm->List Ob->JJ->R
def İ (lp:dT)(n m:Nat)(g:Gh)(c:Co)(p:Nat)(tm:Tm)(hp:List Ob)(J:JJ)(k:JJ->K):R:=
 match g with
 | .keep live=>lp p false m live c n tm hp J
 | .own s z=>Y9 m (.own s z) tm hp (k J)
 | .ownc s o z=>Y9 m (.ownc s o z) tm hp (k J)
 | .frz s=>Y9 m (.frz s) tm hp (k J)
 | .frzc s o=>Y9 m (.frzc s o) tm hp (k J)
 | .tog s o=>QQ s o tm hp (k J)
 | .pst s o=>k (fun ex tm hp=>QQ s o tm hp fun tm hp=>J ex tm hp) tm hp
 | .pfz s o=>k (fun ex tm hp=>Y9 m (.frzc s o) tm hp fun tm hp=>J ex tm hp) tm hp
 | .pkp live=>k (fun ex tm hp=>Iy m live tm hp fun tm hp=>J ex tm hp) tm hp
def qF (lp:dT)(dc:gI)(cc:ae)(n m:Nat)(c:Co):Nat->Tm->List Ob->JJ->R:=
 Co.rec (motive:=fun _=>Nat->Tm->List Ob->JJ->R)
  (fun _ tm hp J=>J .norm tm hp)
  (fun nal ops prs out _ tm hp J=>Zw dc cc nal ops prs out tm hp J)
  (fun _ _ a b p tm hp J=>a (4*p+1) tm hp fun ex tm hp=>Q4 ex (b (4*p+2) tm hp J) (fun i=>J (.exit i) tm hp) (J .ret tm hp))
  (fun x _ _ t e p tm hp J=>OL (ev tm x) (t (4*p+1) tm hp J) (e (4*p+2) tm hp J))
  (fun id _ b p tm hp J=>b (4*p+3) tm hp fun ex tm hp=>Q4 ex (J .norm tm hp) (fun i=>iL (Nat.beq i id) (J .norm tm hp) (J (.exit i) tm hp)) (J .ret tm hp))
  (fun live b _ p tm hp J=>lp p true m live b n tm hp J)
  (fun id _ tm hp J=>J (.exit id) tm hp)
  (fun _ tm hp J=>J .ret tm hp)
  (fun g c b p tm hp J=>İ lp n m g c p tm hp J fun J tm hp=>b (4*p+3) tm hp J)
  c
def cn:Co->Nat->List (Nat×LN×Co×Bool)
 | .seq a b,p=>cn a (4*p+1)++cn b (4*p+2)
 | .cond _ a b,p=>cn a (4*p+1)++cn b (4*p+2)
 | .block _ b,p=>cn b (4*p+3)
 | .loop live b,p=>[(p,live,b,true)]
 | .gh (.keep live) b,p=>[(p,live,b,false)]
 | .gh _ b,p=>cn b (4*p+3)
 |_,_=>[]
def Zs (live:LN)(b:Co)(k:Bool):Co:=match k with|true=> .loop live b|false=> .gh (.keep live) b
def bt (lp:dT)(call:aD)(n m:Nat)(e:Nat×LN×Co×Bool):Prop:=
 ∀tm hp J J',Yv J J'->Le (lp e.1 e.2.2.2 m e.2.1 e.2.2.1 n tm hp J) (lx (bN call n m (Zs e.2.1 e.2.2.1 e.2.2.2) ⟨tm,hp⟩) J')
section
variable {lp:dT} {dc:gI} (hd:dc.Ok) {cc:ae} {call:aD} (hc:bO cc call) {n m:Nat}
include hd hc
theorem dK:∀(c:Co) (p:Nat) (tm:Tm) (hp:List Ob) (J J':JJ),(∀e∈cn c p,bt lp call n m e)->Yv J J'->Le (qF lp dc cc n m c p tm hp J) (lx (bN call n m c ⟨tm,hp⟩) J')
 | .skip,p,tm,hp,J,J',hl,hJ=>hJ _ _ _
 | .ret,p,tm,hp,J,J',hl,hJ=>hJ _ _ _
 | .exit i,p,tm,hp,J,J',hl,hJ=>hJ _ _ _
 | .reg nal ops prs out,p,tm,hp,J,J',hl,hJ=>Ux hd hc nal ops prs out tm hp hJ n m
 | .seq a b,p,tm,hp,J,J',hl,hJ=>by
  have hl1:∀e∈cn a (4*p+1),bt lp call n m e:=fun e he=>hl e (List.mem_append_left _ he)
  have hl2:∀e∈cn b (4*p+2),bt lp call n m e:=fun e he=>hl e (List.mem_append_right _ he)
  refine(dK a (4*p+1) tm hp _ (fun ex tm hp=>Q4 ex (lx (bN call n m b ⟨tm,hp⟩) J') (fun i=>J' (.exit i) tm hp) (J' .ret tm hp)) hl1 ?_).trans ?_
  ·intro ex tm hp;cases ex with
   |norm=>exact dK b (4*p+2) tm hp J J' hl2 hJ
   |exit i=>exact hJ _ _ _
   |ret=>exact hJ _ _ _
  ·simp only[bN,lx];cases bN call n m a ⟨tm,hp⟩with
   |none=>exact Le.no _
   |some q=>
    obtain⟨ex,st⟩:=q;cases ex<;>exact Le.refl _
 | .cond x t e,p,tm,hp,J,J',hl,hJ=>by
  have hl1:∀e∈cn t (4*p+1),bt lp call n m e:=fun e he=>hl e (List.mem_append_left _ he)
  have hl2:∀e'∈cn e (4*p+2),bt lp call n m e':=fun e' he=>hl e' (List.mem_append_right _ he)
  show Le (OL (ev tm x) (qF lp dc cc n m t (4*p+1) tm hp J) (qF lp dc cc n m e (4*p+2) tm hp J)) _;unfold OL;simp only[bN];split
  ·rename_i b hb;refine Le.two (fun h=>?_) (fun h=>?_)
   ·subst h;simp only[hb];exact dK t _ tm hp J J' hl1 hJ
   ·subst h;simp only[hb];exact dK e _ tm hp J J' hl2 hJ
  ·exact Le.no _
 | .block id b,p,tm,hp,J,J',hl,hJ=>by
  refine(dK b (4*p+3) tm hp _ (fun ex tm hp=>Q4 ex (J' .norm tm hp) (fun i=>iL (Nat.beq i id) (J' .norm tm hp) (J' (.exit i) tm hp)) (J' .ret tm hp)) hl ?_).trans ?_
  ·intro ex tm hp;cases ex with
   |norm=>exact hJ _ _ _
   |exit i=>
    show Le (iL (Nat.beq i id) _ _) (iL (Nat.beq i id) _ _);cases Nat.beq i id<;>exact hJ _ _ _
   |ret=>exact hJ _ _ _
  ·simp only[bN,lx];cases bN call n m b ⟨tm,hp⟩with
   |none=>exact Le.no _
   |some q=>
    obtain⟨ex,st⟩:=q;cases ex with
    |norm=>exact Le.refl _
    |ret=>exact Le.refl _
    |exit i=>
     simp only[cL,Q4];cases h:Nat.beq i id<;>simp<;>exact Le.refl _
 | .loop live b,p,tm,hp,J,J',hl,hJ=>hl (p,live,b,true) (lυ ..) tm hp J J' hJ
 | .gh (.keep live) b,p,tm,hp,J,J',hl,hJ=>hl (p,live,b,false) (lυ ..) tm hp J J' hJ
 | .gh (.own s z) b,p,tm,hp,J,J',hl,hJ=>by
  refine Le.opt fun st hs=>?_
  simp only[bN,hs];exact dK b (4*p+3) st.tm st.hp J J' hl hJ
 | .gh (.ownc s o z) b,p,tm,hp,J,J',hl,hJ=>by
  refine Le.opt fun st hs=>?_
  simp only[bN,hs];exact dK b (4*p+3) st.tm st.hp J J' hl hJ
 | .gh (.frz s) b,p,tm,hp,J,J',hl,hJ=>by
  refine Le.opt fun st hs=>?_
  simp only[bN,hs];exact dK b (4*p+3) st.tm st.hp J J' hl hJ
 | .gh (.frzc s o) b,p,tm,hp,J,J',hl,hJ=>by
  refine Le.opt fun st hs=>?_
  simp only[bN,hs];exact dK b (4*p+3) st.tm st.hp J J' hl hJ
 | .gh (.tog s o) b,p,tm,hp,J,J',hl,hJ=>by
  refine(I5 m s o tm hp (k':=fun tm hp=>lx (bN call n m b ⟨tm,hp⟩) J') fun tm hp=>dK b (4*p+3) tm hp J J' hl hJ).trans ?_;refine Le.opt fun st hs=>?_
  simp only[bN,hs];exact Le.refl _
 | .gh (.pst s o) b,p,tm,hp,J,J',hl,hJ=>by
  show Le (qF lp dc cc n m b (4*p+3) tm hp fun ex tm hp=>QQ s o tm hp fun tm hp=>J ex tm hp) _;refine(dK b (4*p+3) tm hp _ (fun ex tm hp=>cL (dU m (.tog s o) ⟨tm,hp⟩) fun st=>J' ex st.tm st.hp) hl fun ex tm hp=>I5 m s o tm hp fun tm hp=>hJ ex tm hp).trans ?_
  have e:bN call n m (.gh (.pst s o) b) ⟨tm,hp⟩=vh m (.pst s o) (bN call n m b ⟨tm,hp⟩):=by simp only[bN,dU]
  rw[e];cases bN call n m b ⟨tm,hp⟩with
  |none=>exact Le.no _
  |some q=>
   obtain⟨ex,st⟩:=q;simp only[lx,vh,GL];show Le (cL (dU m (.tog s o) st) _) _;cases dU m (.tog s o) st<;>exact Le.refl _
 | .gh (.pfz s o) b,p,tm,hp,J,J',hl,hJ=>by
  show Le (qF lp dc cc n m b (4*p+3) tm hp fun ex tm hp=>cL (dU m (.frzc s o) ⟨tm,hp⟩) fun st=>J ex st.tm st.hp) _;refine(dK b (4*p+3) tm hp _ (fun ex tm hp=>cL (dU m (.frzc s o) ⟨tm,hp⟩) fun st=>J' ex st.tm st.hp) hl fun ex tm hp=>Le.opt fun st hs=>?_).trans ?_
  ·simp only[hs];exact hJ _ _ _
  have e:bN call n m (.gh (.pfz s o) b) ⟨tm,hp⟩=vh m (.pfz s o) (bN call n m b ⟨tm,hp⟩):=by simp only[bN,dU]
  rw[e];cases bN call n m b ⟨tm,hp⟩with
  |none=>exact Le.no _
  |some q=>
   obtain⟨ex,st⟩:=q;simp only[lx,vh,GL];show Le (cL (dU m (.frzc s o) st) _) _;cases dU m (.frzc s o) st<;>exact Le.refl _
 | .gh (.pkp live) b,p,tm,hp,J,J',hl,hJ=>by
  show Le (qF lp dc cc n m b (4*p+3) tm hp fun ex tm hp=>Iy m live tm hp fun tm hp=>J ex tm hp) _;refine(dK b (4*p+3) tm hp _ (fun ex tm hp=>cL (dU m (.keep live) ⟨tm,hp⟩) fun st=>J' ex st.tm st.hp) hl fun ex tm hp=>?_).trans ?_
  ·obtain⟨st,h1,h2⟩:=zE m live tm hp;rw[h2];show Le (J ex st.tm st.hp) (cL (dU m (.keep live) ⟨tm,hp⟩) fun st=>J' ex st.tm st.hp);rw[h1];exact hJ _ _ _
  have e:bN call n m (.gh (.pkp live) b) ⟨tm,hp⟩=vh m (.pkp live) (bN call n m b ⟨tm,hp⟩):=by simp only[bN,dU]
  rw[e];cases bN call n m b ⟨tm,hp⟩with
  |none=>exact Le.no _
  |some q=>
   obtain⟨ex,st⟩:=q;simp only[lx,vh,GL];exact Le.refl _
def itL {ST:Type}(S:(ST->R)->ST->R)(k:Nat)(st:ST):R:=Nat.rec (motive:=fun _=>ST->R) (fun _=>none) (fun _ ih st=>S ih st) k st
theorem ID {ST:Type}{live:LN}{b:Co}{p:Nat}{dec:Tm->List Ob->(ST->R)->R}{tmO:ST->Tm}{hpO:ST->List Ob}{S:JJ->(ST->R)->ST->R}
  (hdec:∀tm hp (Y:ST->R) (X:K),(∀st,Le (Y st) (X (tmO st) (hpO st)))->Le (dec tm hp Y) (X tm hp))
  (hS:∀(J:JJ) (Y:ST->R) st,qF lp dc cc n m b p (tmO st) (hpO st) (fun ex tm hp=>Q4 ex (Iy m live tm hp fun tm hp=>dec tm hp Y) (fun i=>J (.exit i) tm hp) (J .ret tm hp))=S J Y st)
  (hin:∀e∈cn b p,bt lp call n m e) {J J':JJ} (hJ:Yv J J'):∀(k:Nat) (tm:Tm) (hp:List Ob),
  Le (Iy m live tm hp fun tm hp=>dec tm hp fun st=>itL (S J) k st) (lx (qU m (bN call n m b) live k ⟨tm,hp⟩) J')
 |0,tm,hp=>by
  obtain⟨st,_,h2⟩:=zE m live tm hp;rw[h2];exact(hdec st.tm st.hp _ (fun _ _=>none) fun _=>Le.no _).trans (Le.no _)
 |k+1,tm,hp=>by
  obtain⟨st,h1,h2⟩:=zE m live tm hp;rw[h2];have e:lx (qU m (bN call n m b) live (k+1) ⟨tm,hp⟩) J'=lx (bN call n m b st) (fun ex tm hp=>Q4 ex (lx (qU m (bN call n m b) live k ⟨tm,hp⟩) J') (fun i=>J' (.exit i) tm hp) (J' .ret tm hp)):=by
   simp only[qU,h1];cases bN call n m b st with
   |none=>rfl
   |some q=>
    obtain⟨ex,st'⟩:=q;cases ex<;>rfl
  rw[e];refine hdec st.tm st.hp _ (fun tm hp=>lx (bN call n m b ⟨tm,hp⟩) _) fun s=>?_
  have e2:itL (S J) (k+1) s=S J (itL (S J) k) s:=rfl;rw[e2,<-hS];refine dK hd hc b p _ _ _ _ hin ?_;intro ex tm hp;cases ex with
  |norm=>exact ID hdec hS hin hJ k tm hp
  |exit i=>exact hJ _ _ _
  |ret=>exact hJ _ _ _
end
def P7 {ST:Type}(q:Nat)(dec:Tm->List Ob->(ST->R)->R)(S:JJ->(ST->R)->ST->R)(lp:dT):dT:=fun p k m live b n tm hp J=>iL (Nat.beq p q) (Iy m live tm hp fun tm hp=>dec tm hp fun st=>itL (S J) n st) (lp p k m live b n tm hp J)
def x0 {ST:Type}(q:Nat)(dec:Tm->List Ob->(ST->R)->R)(S:JJ->ST->R)(lp:dT):dT:=fun p k m live b n tm hp J=>iL (Nat.beq p q) (Iy m live tm hp fun tm hp=>dec tm hp fun st=>S J st) (lp p k m live b n tm hp J)
def eD:dT:=fun _ _ _ _ _ _ _ _ _=>none
variable {ST:Type} {q:Nat} {dec:Tm->List Ob->(ST->R)->R} {lp:dT} {m:Nat} {live:LN}
theorem K6 {S:JJ->(ST->R)->ST->R}{call:aD}{n:Nat}{b:Co}(h:∀tm hp J J',Yv J J'->Le (Iy m live tm hp fun tm hp=>dec tm hp fun st=>itL (S J) n st) (lx (qU m (bN call n m b) live n ⟨tm,hp⟩) J')):bt (P7 q dec S lp) call n m (q,live,b,true):=by
 intro tm hp J J' hJ;have:P7 q dec S lp q true m live b n tm hp J=Iy m live tm hp fun tm hp=>dec tm hp fun st=>itL (S J) n st:=by
  show iL (Nat.beq q q) _ _=_;rw[Nat.beq_refl];rfl
 rw[this];exact h tm hp J J' hJ
theorem lpCut_here {tmO:ST->Tm}{hpO:ST->List Ob}{S:JJ->ST->R}(hd:dc.Ok){call:aD}(hc:bO cc call){n:Nat}{b:Co}(hdec:∀tm hp (Y:ST->R) (X:K),(∀st,Le (Y st) (X (tmO st) (hpO st)))->Le (dec tm hp Y) (X tm hp))(hS:∀(J:JJ) st,qF lp dc cc n m b (4*q+3) (tmO st) (hpO st) J=S J st)(hin:∀e∈cn b (4*q+3),bt lp call n m e):bt (x0 q dec S lp) call n m (q,live,b,false):=by
 intro tm hp J J' hJ;have:x0 q dec S lp q false m live b n tm hp J=Iy m live tm hp fun tm hp=>dec tm hp fun st=>S J st:=by
  show iL (Nat.beq q q) _ _=_;rw[Nat.beq_refl];rfl
 show Le (x0 q dec S lp q false m live b n tm hp J) (lx (bN call n m (.gh (.keep live) b) ⟨tm,hp⟩) J');rw[this];obtain⟨st,h1,h2⟩:=zE m live tm hp;rw[h2];simp only[bN,h1];refine hdec st.tm st.hp _ (fun tm hp=>lx (bN call n m b ⟨tm,hp⟩) J') fun s=>?_
 rw[<-hS];exact dK hd hc b _ _ _ _ _ hin hJ
theorem Gp {S:JJ->(ST->R)->ST->R}{call:aD}{n:Nat}{e:Nat×LN×Co×Bool}(hq:Nat.beq e.1 q=false)(h:bt lp call n m e):bt (P7 q dec S lp) call n m e:=by
 intro tm hp J J' hJ;have:P7 q dec S lp e.1 e.2.2.2 m e.2.1 e.2.2.1 n tm hp J=lp e.1 e.2.2.2 m e.2.1 e.2.2.1 n tm hp J:=by
  show iL (Nat.beq e.1 q) _ _=_;rw[hq];rfl
 rw[this];exact h tm hp J J' hJ
theorem Do {S:JJ->ST->R}{call:aD}{n:Nat}{e:Nat×LN×Co×Bool}(hq:Nat.beq e.1 q=false)(h:bt lp call n m e):bt (x0 q dec S lp) call n m e:=by
 intro tm hp J J' hJ;have:x0 q dec S lp e.1 e.2.2.2 m e.2.1 e.2.2.1 n tm hp J=lp e.1 e.2.2.2 m e.2.1 e.2.2.1 n tm hp J:=by
  show iL (Nat.beq e.1 q) _ _=_;rw[hq];rfl
 rw[this];exact h tm hp J J' hJ
def Ts (m:Nat)(fz:Bool)(res:List Rv)(tm:Tm)(hp:List Ob):R:=cL (iV ⟨tm,hp⟩ res) fun ds=>Prod.rec (motive:=fun _=>R) (fun ds hp=>some (R_ (hU (eg hp aZ (dr ds (gO m hp)) (List.range m))) (one ds),lg (eg hp aZ (dr ds (gO m hp)) (List.range m)) hp)) (bif fz then aa3 hp ds else(ds,hp))
def G2 (m:Nat)(lp:dT)(dc:gI)(cc:ae)(n:Nat)(x:Fx)(args:List D)(hp:List Ob):R:=
 qF lp dc cc n m x.body 1 (ep args 0) hp fun ex tm hp'=>Q4 ex (Ts m x.fz x.res tm hp') (fun _=>none) (Ts m x.fz x.res tm hp')
theorem Im (m:Nat)(fz:Bool)(res:List Rv)(tm:Tm)(hp:List Ob):Ts m fz res tm hp=match iV ⟨tm,hp⟩ res with
  |some ds=>some (ji m fz ds hp)
  |none=>none:=by
 unfold Ts;cases iV ⟨tm,hp⟩ res with
 |none=>rfl
 |some ds=>
  simp only[cL,ji,fm,iz,cY,dw,gD,jf]
theorem IX (hd:dc.Ok){call:aD}(hc:bO cc call){n:Nat}{x:Fx}{args:List D}{hp:List Ob}(hl:∀e∈cn x.body 1,bt lp call n m e):Le (G2 m lp dc cc n x args hp) (mC m call n x args hp):=by
 unfold G2 mC;refine(dK hd hc x.body 1 _ _ _ _ hl fun _ _ _=>Le.refl _).trans ?_;cases bN call n m x.body ⟨ep args 0,hp⟩with
 |none=>exact Le.no _
 |some q=>
  obtain⟨ex,st⟩:=q;cases ex with
  |norm=>exact Le.of_eq (Im _ _ _ _ _)
  |ret=>exact Le.of_eq (Im _ _ _ _ _)
  |exit i=>exact Le.no _
def dC (tab:Nat->Option Fn)(n:Nat):ae:=fun f vs hp k=>cL (evFn tab n f vs hp) fun p=>k p.1 p.2
theorem Pr (tab:Nat->Option Fn)(n:Nat):bO (dC tab n) (evFn tab n):=by
 intro f vs hp k k' hk;unfold dC;cases evFn tab n f vs hp with
 |none=>exact Le.no _
 |some p=>exact hk _ _
variable {tab:Nat->Option Fn}
theorem aa {n f:Nat}{vs:List D}{hp:List Ob}{v:D}{out:List Ob}(h:evFn tab n f vs hp=some (v,out))(k:KV):dC tab n f vs hp k=k v out:=by
 unfold dC;rw[h];rfl
theorem Y6 {f n:Nat}{x:Fx}(hd:dc.Ok){args:List D}{hp:List Ob}{F:R}(hx:tab f=some (.code x))(hm:dW f args hp.length=m)(hl:∀e∈cn x.body 1,bt lp (evFn tab n) n m e)(h:G2 m lp dc (dC tab n) n x args hp=F):Le F (evFn tab (n+1) f args hp):=by
 subst h;have:evFn tab (n+1) f args hp=mC m (evFn tab n) n x args hp:=by simp only[evFn,hx,hm]
 rw[this];exact IX hd (Pr tab n) hl
end
section
variable [Mv]
structure Rd (T α:Type) where
 e:α->T
 d:T->(α->R)->R
 le:∀(x:T) (k:α->R) (Z:R),(∀a,x=e a->Le (k a) Z)->Le (d x k) Z
namespace Rd
variable {T α β:Type}
theorem ok (r:Rd T α)(x:T)(k:α->R)(X:T->R)(H:∀a,Le (k a) (X (r.e a))):Le (r.d x k) (X x):=r.le x k _ fun a q=>by simp_all
def rm (r:Rd T α)(f:α->β)(g:β->α)(h:∀a,g (f a)=a:=by exact fun _=>rfl):Rd T β where
 e b:=r.e (g b)
 d x k:=r.d x fun a=>k (f a)
 le x _ _ H:=r.le x _ _ fun a q=>H (f a) (by rw[h a];exact q)
def I (i:IntKind):Rd Da Int:=⟨fun n=> .int i n,ba i,fun _ _ _=>bL⟩
def S:Rd Da (LN):=⟨fun s=> .str s,eR,fun _ _ _=>jx⟩
def B:Rd Da Bool:=⟨fun s=> .bool s,aH,fun _ _ _=>lU⟩
def L (z:Nat):Rd Da (LD):=⟨fun s=> .slice z s,hM z,fun _ _ _=>FR⟩
def M:Rd Da (LD×LD):=⟨fun s=> .map s.1 s.2,fun x k=>YO x fun a b=>k (a,b),fun _ _ _ H=>SN fun a b q=>H (a,b) q⟩
def X:Rd Da Da:=⟨fun x=>x,fun x k=>k x,fun x _ _ H=>H x rfl⟩
def K (i:IntKind)(c:Int):Rd Da Unit:=⟨fun _=> .int i c,fun x k=>Vh i c x (k ()),fun _ _ _ H=>OP fun q=>H () q⟩
def C (c:Bool):Rd Da Unit:=⟨fun _=> .bool c,fun x k=>ON c x (k ()),fun _ _ _ H=>Kr fun q=>H () q⟩
def G (l:Rd (LD) α):Rd Da α:=⟨fun a=> .agg (l.e a),fun x k=>bV x fun cs=>l.d cs k,fun _ _ _ H=>y7 fun cs q=>l.le cs _ _ fun a p=>H a (p▸q)⟩
def FP (f:Nat)(l:Rd (LD) α):Rd Da α:=⟨fun a=> .fn f (l.e a),fun x k=>cV f x fun cs=>l.d cs k,fun _ _ _ H=>sC fun cs q=>l.le cs _ _ fun a p=>H a (p▸q)⟩
def P (r:Rd Da α):Rd D α:=⟨fun a=> .p (r.e a),fun x k=>dP x fun y=>r.d y k,fun _ _ _ H=>lj fun y q=>r.le y _ _ fun a p=>H a (p▸q)⟩
def Bo (i o:Nat):Rd D Unit:=⟨fun _=> .box i o,fun x k=>YL i o x (k ()),fun _ _ _ H=>SL fun q=>H () q⟩
def Ar (i z:Nat):Rd D Nat:=⟨fun n=> .arr i 0 n z,dF i z,fun _ _ _=>mX⟩
def Mp (i:Nat):Rd D Unit:=⟨fun _=> .map i,fun x k=>YP i x (k ()),fun _ _ _ H=>OQ fun q=>H () q⟩
def Nl (z:Nat):Rd D Unit:=⟨fun _=> .sl .nil z [],fun x k=>Ó z x (k ()),fun _ _ _ H=>WR fun q=>H () q⟩
def Ex (z:Nat):Rd D (LD):=⟨fun es=> .sl .exact z es,Ò z,fun _ _ _=>WP⟩
def F (f:Nat)(l:Rd (List D) α):Rd D α:=⟨fun a=> .fn f (l.e a),fun x k=>đ f x fun cs=>l.d cs k,fun _ _ _ H=>WQ fun cs q=>l.le cs _ _ fun a p=>H a (p▸q)⟩
def Tu (l:Rd (List D) α):Rd D α:=⟨fun a=> .tup (l.e a),fun x k=>ff x fun cs=>l.d cs k,fun _ _ _ H=>SO fun cs q=>l.le cs _ _ fun a p=>H a (p▸q)⟩
def Ob (l:Rd (List D) α):Rd Go.Ab.Ob α:=⟨fun a=> .box (l.e a),fun x k=>Zo x fun cs=>l.d cs k,fun _ _ _ H=>Ul fun cs q=>l.le cs _ _ fun a p=>H a (p▸q)⟩
def Oa:Rd Go.Ab.Ob (LD):=⟨fun s=> .arr s,cO,fun _ _ _=>lc⟩
def Of:Rd Go.Ab.Ob (LD):=⟨fun s=> .fz s,Á,fun _ _ _=>Qm⟩
def Om:Rd Go.Ab.Ob (LD×LD):=⟨fun s=> .map s.1 s.2,fun x k=>Zp x fun a b=>k (a,b),fun _ _ _ H=>Um fun a b q=>H (a,b) q⟩
def c (a:Rd T α)(r:Rd (List T) β):Rd (List T) (α×β):=⟨fun x=>a.e x.1::r.e x.2,fun l k=>ab l fun y t=>a.d y fun x=>r.d t fun z=>k (x,z),fun _ _ _ H=>bD fun y t q=>a.le y _ _ fun x p=>r.le t _ _ fun z s=>H (x,z) (by rw[q,p,s])⟩
def u (a:Rd T Unit)(r:Rd (List T) β):Rd (List T) β:=⟨fun x=>a.e ()::r.e x,fun l k=>ab l fun y t=>a.d y fun _=>r.d t k,fun _ _ _ H=>bD fun y t q=>a.le y _ _ fun x p=>r.le t _ _ fun z s=>H z (by rw[q,p,s])⟩
def n:Rd (List T) Unit:=⟨fun _=>[],fun l k=>af l (k ()),fun _ _ _ H=>c6 fun q=>H () q⟩
def t (s:Nat)(a:Rd D α)(r:Rd (Tm×List Go.Ab.Ob) β):Rd (Tm×List Go.Ab.Ob) (α×β):=⟨fun x=>(.cons s (a.e x.1) (r.e x.2).1,(r.e x.2).2),fun st k=>QJ s st.1 fun y t=>a.d y fun x=>r.d (t,st.2) fun z=>k (x,z),fun _ _ _ H=>EB fun y t q=>a.le y _ _ fun x p=>r.le (t,_) _ _ fun z s=>H (x,z) (Prod.ext (by rw[q,p,<-s]) (by rw[<-s]))⟩
def v (s:Nat)(a:Rd D Unit)(r:Rd (Tm×List Go.Ab.Ob) β):Rd (Tm×List Go.Ab.Ob) β:=⟨fun x=>(.cons s (a.e ()) (r.e x).1,(r.e x).2),fun st k=>QJ s st.1 fun y t=>a.d y fun _=>r.d (t,st.2) k,fun _ _ _ H=>EB fun y t q=>a.le y _ _ fun x p=>r.le (t,_) _ _ fun z s=>H z (Prod.ext (by rw[q,p,<-s]) (by rw[<-s]))⟩
def h (l:Rd (List Go.Ab.Ob) α):Rd (Tm×List Go.Ab.Ob) α:=⟨fun x=>(.nil,l.e x),fun st k=>ZF st.1 (l.d st.2 k),fun _ _ _ H=>UF fun q=>l.le _ _ _ fun a p=>H a (Prod.ext q p)⟩
end Rd
abbrev f9:=Tm×List Ob
def cK (c:Co)(p j:Nat):Co:=(((cn c p)[j]?).getD (0,[],.skip,true)).2.2.1
def rd (lp:dT)(call:aD)(n m:Nat):List (Nat×LN×Co×Bool)->Prop
 |[]=>True
 |e::r=>bt lp call n m e/\rd lp call n m r
theorem HT {lp:dT}{call:aD}{n m:Nat}:∀{l l':List (Nat×LN×Co×Bool)},l=l'->rd lp call n m l'->∀e∈l,bt lp call n m e
 |_,[],rfl,_=>fun _ h=>by cases h
 |_,_::_,rfl,⟨g,r⟩=>fun e h=>by
  rcases lω.1 h with rfl|h
  ·exact g
  ·exact HT rfl r e h
theorem aV {lp:dT}{call:aD}{n m:Nat}:rd lp call n m []:=trivial
theorem bC {lp:dT}{call:aD}{n m:Nat}{e:Nat×LN×Co×Bool}{r:List (Nat×LN×Co×Bool)}(h:bt lp call n m e)(g:rd lp call n m r):rd lp call n m (e::r):=⟨h,g⟩
def jS {ST:Type}(q:Nat)(r:Rd f9 ST)(S:JJ->(ST->R)->ST->R)(lp:dT):dT:=P7 q (fun tm hp Y=>r.d (tm,hp) Y) S lp
def pl (n:Nat)(k:Nat->R):R:=Nat.rec (motive:=fun _=>R) none (fun q _=>k q) n
def zR {ST:Type}(q:Nat)(r:Rd f9 ST)(S:JJ->ST->R)(lp:dT):dT:=x0 q (fun tm hp Y=>r.d (tm,hp) Y) S lp
section
variable {ST:Type} {q:Nat} {r:Rd f9 ST} {lp:dT} {dc:gI} {cc:ae} {call:aD} {n m:Nat} {live:LN} {b:Co}
theorem XN {S:JJ->(ST->R)->ST->R}(hd:dc.Ok)(hc:bO cc call)
  (hS:∀(J:JJ) (Y:ST->R) st,qF lp dc cc n m b q (r.e st).1 (r.e st).2 (fun ex tm hp=>Q4 ex (Iy m live tm hp fun tm hp=>r.d (tm,hp) Y) (fun i=>J (.exit i) tm hp) (J .ret tm hp))=S J Y st)
  (hin:∀e∈cn b q,bt lp call n m e):bt (jS q r S lp) call n m (q,live,b,true):=
 K6 fun tm hp _ _ hJ=>ID (tmO:=fun st=>(r.e st).1) (hpO:=fun st=>(r.e st).2) hd hc (fun tm hp Y X h=>r.ok (tm,hp) Y (fun st=>X st.1 st.2) h) hS hin hJ n tm hp
theorem XP {S:JJ->ST->R}(hd:dc.Ok)(hc:bO cc call)
  (hS:∀(J:JJ) st,qF lp dc cc n m b (4*q+3) (r.e st).1 (r.e st).2 J=S J st)
  (hin:∀e∈cn b (4*q+3),bt lp call n m e):bt (zR q r S lp) call n m (q,live,b,false):=
 lpCut_here (tmO:=fun st=>(r.e st).1) (hpO:=fun st=>(r.e st).2) hd hc (fun tm hp Y X h=>r.ok (tm,hp) Y (fun st=>X st.1 st.2) h) hS hin
theorem XO {S:JJ->(ST->R)->ST->R}{e:Nat×LN×Co×Bool}(hq:Nat.beq e.1 q=false)(h:bt lp call n m e):bt (jS q r S lp) call n m e:=Gp hq h
theorem XQ {S:JJ->ST->R}{e:Nat×LN×Co×Bool}(hq:Nat.beq e.1 q=false)(h:bt lp call n m e):bt (zR q r S lp) call n m e:=Do hq h
end
end
section
variable [Mv]
theorem be (t e:R):iL true t e=t:=rfl
theorem bo (t e:R):iL false t e=e:=rfl
theorem mj (b:Bool)(t e:R):iL b t e=if b=true then t else e:=by cases b<;>rfl
theorem agw (p:Prop)[Decidable p](t e:R):iL (decide p) t e=if p then t else e:=by rw[mj];simp only[lδ]
theorem pp (p:Prop)[Decidable p](t e:R):iL (!decide p) t e=if p then e else t:=by
 rw[mj];by_cases h:p<;>simp[h]
variable {α:Type}
theorem bG (x:α)(k:α->R):cL (some x) k=k x:=rfl
theorem bf {β:Type}(f:α->β)(o:Option α)(k:β->R):cL (o.map f) k=cL o fun x=>k (f x):=by cases o<;>rfl
theorem GH (e:R)(k:Nat->R):od none e k=e:=rfl
theorem ma:∀a b:LN,cg a b=decide (a=b)
 |[],[]=>by simp[cg]
 |[],_::_=>by simp[cg]
 |_::_,[]=>by simp[cg]
 |x::a,y::b=>by
  simp only[cg,ma a b];rw[mζ];cases h:Nat.beq x y
  ·have:x≠y:=fun e=>by rw[e,Nat.beq_refl]at h;cases h
   simp[this]
  ·have:=lθ h;simp[this]
theorem fO {n:Int}(h1: -9223372036854775808<=n)(h2:n<9223372036854775808):ag .i64 n=n:=by
 cases n with
 |ofNat m=>
  have:Nat.blt m 9223372036854775808=true:=by rw[Nat.blt_eq];exact Int.ofNat_lt.mp h2
  simp only[ag,this,cond_true]
 |negSucc m=>
  have:Nat.blt m 9223372036854775808=true:=by rw[Nat.blt_eq];omega
  simp only[ag,this,cond_true]
def dj {α:Type}(l:List α)(i:Int):Option α:=if 0<=i then l[i.toNat]? else none
theorem aU (f:α->Da)(l:List α)(i:Int):bU (l.map f) i=(dj l i).map f:=by
 unfold bU dj;rw[bj];by_cases h:0<=i<;>simp[h]
theorem oL (l:List α)(j:Nat):dj l (j:Int)=l[j]?:=by simp[dj]
theorem bw {l:List α}{j:Nat}(h:j<l.length):dj l (j:Int)=some l[j]:=by rw[oL,lε h]
theorem bW (i:IntKind)(n:Int)(k:Int->R):ba i (.int i n) k=k n:=by cases i<;>rfl
theorem iU (s:LN)(k:LN->R):eR (.str s) k=k s:=rfl
theorem aJ (b:Bool)(k:Bool->R):aH (.bool b) k=k b:=rfl
theorem oU (z:Nat)(es:LD)(k:LD->R):hM z (.slice z es) k=k es:=by
 show iL (Nat.beq z z) _ _=_;rw[Nat.beq_refl];rfl
theorem aY (x:Da)(k:Da->R):dP (.p x) k=k x:=rfl
theorem c3 (ds:List D)(k:List D->R):ff (.tup ds) k=k ds:=rfl
theorem aR (x:α)(l:List α)(k:α->List α->R):ab (x::l) k=k x l:=rfl
theorem aB (k:R):af ([]:List α) k=k:=rfl
theorem xZ {α:Type}(xs:List α)(L:Nat->Int->R)(p:α->Bool)(hit:Nat->R)(out:R)
  (hs:∀q i (h:i<xs.length),L (q+1) (i:Int)=if p xs[i]=true then hit i else L q ((i+1:Nat):Int)) (he:∀q,L (q+1) (xs.length:Int)=out):
  ∀(d q i:Nat),i+d=xs.length->d<q->L q (i:Int)=match (xs.drop i).findIdx? p with|some j=>hit (i+j)|none=>out
 |0,q+1,i,h,_=>by
  obtain rfl:i=xs.length:=by omega
  rw[List.drop_length];exact he q
 |d+1,q+1,i,h,hq=>by
  have hi:i<xs.length:=by omega
  rw[hs q i hi,mπ hi,qζ];cases hp:p xs[i]
  ·simp only[Bool.false_eq_true,if_false];rw[xZ xs L p hit out hs he d q (i+1) (by omega) (by omega)];cases(xs.drop (i+1)).findIdx? p with
   |none=>rfl
   |some j=>simp only[Option.map_some];rw[show i+1+j=i+(j+1) by omega]
  ·simp only[if_true,Nat.add_zero]
theorem bA (xs:List α)(L:Nat->Int->R)(p:α->Bool)(hit:Nat->R)(out:R)(hs:∀q i (h:i<xs.length),L (q+1) (i:Int)=if p xs[i]=true then hit i else L q ((i+1:Nat):Int))(he:∀q,L (q+1) (xs.length:Int)=out){q:Nat}(hq:xs.length<q):
  L q 0=match xs.findIdx? p with|some j=>hit j|none=>out:=by
 have:=xZ xs L p hit out hs he xs.length q 0 (by omega) hq;simpa using this
end
end
end Go.Ab
