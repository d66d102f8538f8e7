import Derived.Test.YtmnmeiibmgcddaaGreatDoorAm3
set_option linter.all false
namespace Go.Ab
open Go
noncomputable section
section
def Le (a b:R):Prop:=∀r,a=some r->b=some r
theorem Le.refl (a:R):Le a a:=fun _ h=>h
theorem Le.no (b:R):Le none b:=fun _ h=>by cases h
theorem Le.trans {a b c:R}(h:Le a b)(g:Le b c):Le a c:=fun r e=>g r (h r e)
theorem Le.of_eq {a b:R}(h:a=b):Le a b:=by rw[h];exact Le.refl b
def iL (b:Bool)(t e:R):R:=Bool.rec (motive:=fun _=>R) e t b
def cL {α:Type}(o:Option α)(k:α->R):R:=Option.rec (motive:=fun _=>R) none (fun x=>k x) o
theorem Le.grd {b:Bool}{t t':R}(h:b=true->Le t t'):Le (iL b t none) t':=by
 cases b
 ·exact Le.no _
 ·exact h rfl
theorem Le.two {b:Bool}{t e x:R}(h:b=true->Le t x)(g:b=false->Le e x):Le (iL b t e) x:=by
 cases b
 ·exact g rfl
 ·exact h rfl
variable {α:Type}
theorem Le.opt {o:Option α}{k:α->R}{x:R}(h:∀a,o=some a->Le (k a) x):Le (cL o k) x:=by
 cases o
 ·exact Le.no _
 ·exact h _ rfl
def aJ (i:IntKind)(x:Da)(k:Int->R):R:=match x with| .int j n=>iL (Nat.beq (kc j) (kc i)) (k n) none|_=>none
def dG (x:Da)(k:LN->R):R:=match x with| .str s=>k s|_=>none
def aE (x:Da)(k:Bool->R):R:=match x with| .bool b=>k b|_=>none
def cR (z:Nat)(x:Da)(k:LD->R):R:=match x with| .slice y es=>iL (Nat.beq y z) (k es) none|_=>none
def cp (x:Da)(k:LD->R):R:=match x with| .agg cs=>k cs|_=>none
def ũ (x:Da)(k:LD->LD->R):R:=match x with| .map ks vs=>k ks vs|_=>none
def aa {α:Type}(l:List α)(k:α->List α->R):R:=match l with|x::r=>k x r|[]=>none
def ag {α:Type}(l:List α)(k:R):R:=match l with|_::_=>none|[]=>k
def dP (d:D)(k:Da->R):R:=match d with| .p x=>k x|_=>none
def bQ (d:D)(k:List D->R):R:=match d with| .tup ds=>k ds|_=>none
def Ŧ (id off:Nat)(d:D)(k:R):R:=match d with| .box i o=>iL (Nat.beq i id) (iL (Nat.beq o off) k none) none|_=>none
def cf (id z:Nat)(d:D)(k:Nat->R):R:=match d with| .arr i lo len y=>iL (Nat.beq i id) (iL (Nat.beq lo 0) (iL (Nat.beq y z) (k len) none) none) none|_=>none
def g_ (id:Nat)(d:D)(k:R):R:=match d with| .map i=>iL (Nat.beq i id) k none|_=>none
def dNl (z:Nat)(d:D)(k:R):R:=match d with| .sl .nil y []=>iL (Nat.beq y z) k none|_=>none
def dEx (z:Nat)(d:D)(k:LD->R):R:=match d with| .sl .exact y es=>iL (Nat.beq y z) (k es) none|_=>none
def dFn (f:Nat)(d:D)(k:List D->R):R:=match d with| .fn g cs=>iL (Nat.beq g f) (k cs) none|_=>none
def dO (o:Ob)(k:List D->R):R:=match o with| .box cs=>k cs|_=>none
def bL (o:Ob)(k:LD->R):R:=match o with| .arr es=>k es|_=>none
def oFz (o:Ob)(k:LD->R):R:=match o with| .fz es=>k es|_=>none
def ϟ (o:Ob)(k:LD->LD->R):R:=match o with| .map ks vs=>k ks vs|_=>none
def aaw (o:Ob)(k:LD->LD->R):R:=match o with| .fzm ks vs=>k ks vs|_=>none
def aav (o:Ob)(k:LD->R):R:=match o with| .byt es=>k es|_=>none
def aax (o:Ob)(k:Bool->LD->R):R:=match o with| .may b es=>k b es|_=>none
def jb (o:Ob)(k:R):R:=match o with| .dead=>k|_=>none
def ć (i:IntKind)(c:Int)(x:Da)(k:R):R:=match x with| .int j n=>iL (Nat.beq (kc j) (kc i)) (iL (az n c) k none) none|_=>none
def UE (c:Bool)(x:Da)(k:R):R:=match x,c with| .bool true,true=>k| .bool false,false=>k|_,_=>none
def nD (d:D)(k:List D->R):R:=match d with| .agg cs=>k cs|_=>none
def YV (id off:Nat)(d:D)(k:Nat->R):R:=match d with| .el i n o=>iL (Nat.beq i id) (iL (Nat.beq o off) (k n) none) none|_=>none
def dNp (x:Da)(k:R):R:=match x with| .nilptr=>k|_=>none
def dNm (x:Da)(k:R):R:=match x with| .nilmap=>k|_=>none
def dA (f:Nat)(x:Da)(k:LD->R):R:=match x with| .fn g cs=>iL (Nat.beq g f) (k cs) none|_=>none
def WH (s:Nat)(tm:Tm)(k:D->Tm->R):R:=match tm with| .cons t d r=>iL (Nat.beq t s) (k d r) none| .nil=>none
def aaK (tm:Tm)(k:R):R:=match tm with| .cons _ _ _=>none| .nil=>k
section
variable {x:Da} {d:D} {o:Ob} {tm:Tm} {z:Nat} {Z:R}
theorem K4 {i j:IntKind}(h:Nat.beq (kc j) (kc i)=true):j=i:=by
 rw[VO,lδ]at h;exact h
theorem Ve {a b:Int}(h:az a b=true):a=b:=by
 cases a<;>cases b<;>simp only[az,Bool.false_eq_true]at h;all_goals simp_all
theorem bO {i:IntKind}{k:Int->R}(h:∀n,x= .int i n->Le (k n) Z):Le (aJ i x k) Z:=by
 cases x<;>first|exact Le.no _|skip
 exact Le.grd fun e0=>h _ (by rw[K4 e0])
theorem jw {k:LN->R}(h:∀s,x= .str s->Le (k s) Z):Le (dG x k) Z:=by
 cases x<;>first|exact Le.no _|exact h _ rfl
theorem ly {k:Bool->R}(h:∀s,x= .bool s->Le (k s) Z):Le (aE x k) Z:=by
 cases x<;>first|exact Le.no _|exact h _ rfl
variable {k:LD->R}
theorem CV (h:∀s,x= .slice z s->Le (k s) Z):Le (cR z x k) Z:=by
 cases x<;>first|exact Le.no _|skip
 exact Le.grd fun e0=>h _ (by simp_all)
theorem vW (h:∀s,x= .agg s->Le (k s) Z):Le (cp x k) Z:=by
 cases x<;>first|exact Le.no _|exact h _ rfl
theorem Nj {k:LD->LD->R}(h:∀s t,x= .map s t->Le (k s t) Z):Le (ũ x k) Z:=by
 cases x<;>first|exact Le.no _|exact h _ _ rfl
theorem bq {l:List α}{k:α->List α->R}(h:∀a r,l=a::r->Le (k a r) Z):Le (aa l k) Z:=by
 cases l<;>first|exact Le.no _|exact h _ _ rfl
theorem cE {l:List α}{k:R}(h:l=[]->Le k Z):Le (ag l k) Z:=by
 cases l<;>first|exact Le.no _|exact h rfl
theorem lz {k:Da->R}(h:∀y,d= .p y->Le (k y) Z):Le (dP d k) Z:=by
 cases d<;>first|exact Le.no _|exact h _ rfl
theorem Nk {k:List D->R}(h:∀y,d= .tup y->Le (k y) Z):Le (bQ d k) Z:=by
 cases d<;>first|exact Le.no _|exact h _ rfl
variable {id:Nat}
theorem Ni {off:Nat}{k:R}(h:d= .box id off->Le k Z):Le (Ŧ id off d k) Z:=by
 cases d<;>first|exact Le.no _|skip
 exact Le.grd fun e0=>Le.grd fun e1=>h (by simp_all)
theorem iI {k:Nat->R}(h:∀len,d= .arr id 0 len z->Le (k len) Z):Le (cf id z d k) Z:=by
 cases d<;>first|exact Le.no _|skip
 exact Le.grd fun e0=>Le.grd fun e1=>Le.grd fun e2=>h _ (by simp_all)
theorem KH {k:R}(h:d= .map id->Le k Z):Le (g_ id d k) Z:=by
 cases d<;>first|exact Le.no _|skip
 exact Le.grd fun e0=>h (by simp_all)
theorem UI {k:R}(h:d= .sl .nil z []->Le k Z):Le (dNl z d k) Z:=by
 unfold dNl;split
 ·exact Le.grd fun e=>h (by simp_all)
 ·exact Le.no _
theorem ŧ (h:∀es,d= .sl .exact z es->Le (k es) Z):Le (dEx z d k) Z:=by
 unfold dEx;split
 ·exact Le.grd fun e=>h _ (by simp_all)
 ·exact Le.no _
variable {k:List D->R}
theorem UG {f:Nat}(h:∀es,d= .fn f es->Le (k es) Z):Le (dFn f d k) Z:=by
 cases d<;>first|exact Le.no _|skip
 exact Le.grd fun e0=>h _ (by simp_all)
theorem NX (h:∀y,o= .box y->Le (k y) Z):Le (dO o k) Z:=by
 cases o<;>first|exact Le.no _|exact h _ rfl
variable {k:LD->R}
theorem f3 (h:∀y,o= .arr y->Le (k y) Z):Le (bL o k) Z:=by
 cases o<;>first|exact Le.no _|exact h _ rfl
theorem Lp (h:∀y,o= .fz y->Le (k y) Z):Le (oFz o k) Z:=by
 cases o<;>first|exact Le.no _|exact h _ rfl
variable {k:LD->LD->R}
theorem NY (h:∀s t,o= .map s t->Le (k s t) Z):Le (ϟ o k) Z:=by
 cases o<;>first|exact Le.no _|exact h _ _ rfl
theorem Í (h:∀s t,o= .fzm s t->Le (k s t) Z):Le (aaw o k) Z:=by
 cases o<;>first|exact Le.no _|exact h _ _ rfl
theorem Ì {k:LD->R}(h:∀y,o= .byt y->Le (k y) Z):Le (aav o k) Z:=by
 cases o<;>first|exact Le.no _|exact h _ rfl
theorem Î {k:Bool->LD->R}(h:∀b y,o= .may b y->Le (k b y) Z):Le (aax o k) Z:=by
 cases o<;>first|exact Le.no _|exact h _ _ rfl
variable {k:R}
theorem yI (h:o= .dead->Le k Z):Le (jb o k) Z:=by
 cases o<;>first|exact Le.no _|exact h rfl
theorem UH {i:IntKind}{c:Int}(h:x= .int i c->Le k Z):Le (ć i c x k) Z:=by
 cases x<;>first|exact Le.no _|skip
 exact Le.grd fun e0=>Le.grd fun e1=>h (by rw[K4 e0,Ve e1])
theorem P5 {c:Bool}(h:x= .bool c->Le k Z):Le (UE c x k) Z:=by
 cases x<;>first|exact Le.no _|skip
 rename_i b;cases b<;>cases c<;>first|exact Le.no _|exact h rfl
theorem Nh {k:List D->R}(h:∀y,d= .agg y->Le (k y) Z):Le (nD d k) Z:=by
 cases d<;>first|exact Le.no _|exact h _ rfl
theorem UF {off:Nat}{k:Nat->R}(h:∀n,d= .el id n off->Le (k n) Z):Le (YV id off d k) Z:=by
 cases d<;>first|exact Le.no _|skip
 exact Le.grd fun e0=>Le.grd fun e1=>h _ (by simp_all)
theorem ū (h:x= .nilptr->Le k Z):Le (dNp x k) Z:=by
 cases x<;>first|exact Le.no _|exact h rfl
theorem Ū (h:x= .nilmap->Le k Z):Le (dNm x k) Z:=by
 cases x<;>first|exact Le.no _|exact h rfl
theorem vX {f:Nat}{k:LD->R}(h:∀es,x= .fn f es->Le (k es) Z):Le (dA f x k) Z:=by
 cases x<;>first|exact Le.no _|skip
 exact Le.grd fun e0=>h _ (by simp_all)
theorem Jc {s:Nat}{k:D->Tm->R}(h:∀d r,tm= .cons s d r->Le (k d r) Z):Le (WH s tm k) Z:=by
 cases tm<;>first|exact Le.no _|skip
 exact Le.grd fun e=>h _ _ (by simp_all)
theorem à (h:tm= .nil->Le k Z):Le (aaK tm k) Z:=by
 cases tm<;>first|exact Le.no _|exact h rfl
end
mutual
def ff:Da->Da->(Da->R)->R
 | .int i _,x,k=>aJ i x fun n=>k (.int i n)
 | .str _,x,k=>dG x fun s=>k (.str s)
 | .bool _,x,k=>aE x fun b=>k (.bool b)
 | .slice z _,x,k=>cR z x fun l=>k (.slice z l)
 | .map _ _,x,k=>ũ x fun a b=>k (.map a b)
 | .agg cs,x,k=>cp x fun ds=>rL cs ds fun es=>k (.agg es)
 | .nilptr,x,k=>dNp x (k .nilptr)
 | .nilmap,x,k=>dNm x (k .nilmap)
 |_,x,k=>k x
def rL:LD->LD->(LD->R)->R
 |[],l,k=>ag l (k [])
 |s::r,l,k=>aa l fun x t=>ff s x fun x=>rL r t fun t=>k (x::t)
end
mutual
def j6:D->D->(D->R)->R
 | .p s,d,k=>dP d fun x=>ff s x fun x=>k (.p x)
 | .box i o,d,k=>Ŧ i o d (k (.box i o))
 | .arr i 0 _ z,d,k=>cf i z d fun n=>k (.arr i 0 n z)
 | .map i,d,k=>g_ i d (k (.map i))
 | .sl .nil z [],d,k=>dNl z d (k (.sl .nil z []))
 | .fn f cs,d,k=>dFn f d fun ds=>qp cs ds fun es=>k (.fn f es)
 | .agg cs,d,k=>nD d fun ds=>qp cs ds fun es=>k (.agg es)
 |_,d,k=>k d
def qp:List D->List D->(List D->R)->R
 |[],l,k=>ag l (k [])
 |s::r,l,k=>aa l fun x t=>j6 s x fun x=>qp r t fun t=>k (x::t)
end
def VW (s o:Ob)(k:Ob->R):R:=
 match s with
 | .box cs=>dO o fun ds=>qp cs ds fun es=>k (.box es)
 | .arr _=>bL o fun l=>k (.arr l)
 | .fz _=>oFz o fun l=>k (.fz l)
 | .byt _=>aav o fun l=>k (.byt l)
 | .may _ _=>aax o fun b l=>k (.may b l)
 | .map _ _=>ϟ o fun a b=>k (.map a b)
 | .fzm _ _=>aaw o fun a b=>k (.fzm a b)
 | .dead=>jb o (k .dead)
 |_=>k o
def Li:List Ob->List Ob->(List Ob->R)->R
 |[],l,k=>ag l (k [])
 |s::r,l,k=>aa l fun x t=>VW s x fun x=>Li r t fun t=>k (x::t)
mutual
theorem BI:∀(s x:Da) {k:Da->R} {Z:R},Le (k x) Z->Le (ff s x k) Z
 | .int i _,x,k,Z,h=>by simp only[ff];exact bO fun n e=>by subst e;exact h
 | .str _,x,k,Z,h=>by simp only[ff];exact jw fun n e=>by subst e;exact h
 | .bool _,x,k,Z,h=>by simp only[ff];exact ly fun n e=>by subst e;exact h
 | .slice z _,x,k,Z,h=>by simp only[ff];exact CV fun n e=>by subst e;exact h
 | .map _ _,x,k,Z,h=>by simp only[ff];exact Nj fun a b e=>by subst e;exact h
 | .agg cs,x,k,Z,h=>by simp only[ff];exact vW fun ds e=>by subst e;exact yy cs ds h
 | .nilptr,x,k,Z,h=>by simp only[ff];exact ū fun e=>by subst e;exact h
 | .ptr _,x,k,Z,h=>by simp only[ff];exact h
 | .nilmap,x,k,Z,h=>by simp only[ff];exact Ū fun e=>by subst e;exact h
 | .fn _ _,x,k,Z,h=>by simp only[ff];exact h
 | .nilfn,x,k,Z,h=>by simp only[ff];exact h
 | .iface _ _,x,k,Z,h=>by simp only[ff];exact h
 | .nilif,x,k,Z,h=>by simp only[ff];exact h
 | .sliceE _ _,x,k,Z,h=>by simp only[ff];exact h
 | .sym _ _,x,k,Z,h=>by simp only[ff];exact h
theorem yy:∀(s l:LD) {k:LD->R} {Z:R},Le (k l) Z->Le (rL s l k) Z
 |[],l,k,Z,h=>by simp only[rL];exact cE fun e=>by subst e;exact h
 |s::r,l,k,Z,h=>by simp only[rL];exact bq fun x t e=>by subst e;exact BI s x (yy r t h)
end
mutual
theorem VV:∀(s d:D) {k:D->R} {Z:R},Le (k d) Z->Le (j6 s d k) Z
 | .p s,d,k,Z,h=>by simp only[j6];exact lz fun n e=>by subst e;exact BI s n h
 | .box i o,d,k,Z,h=>by simp only[j6];exact Ni fun e=>by subst e;exact h
 | .arr i 0 _ z,d,k,Z,h=>by simp only[j6];exact iI fun n e=>by subst e;exact h
 | .arr i (_+1) _ z,d,k,Z,h=>by simp only[j6];exact h
 | .map i,d,k,Z,h=>by simp only[j6];exact KH fun e=>by subst e;exact h
 | .sl g z es,d,k,Z,h=>by
  unfold j6;split<;>first
   |contradiction
   |exact h
   |(rename_i e;cases e;exact UI fun e=>by subst e;exact h)
 | .fn f cs,d,k,Z,h=>by simp only[j6];exact UG fun ds e=>by subst e;exact oQ cs ds h
 | .agg cs,d,k,Z,h=>by simp only[j6];exact Nh fun ds e=>by subst e;exact oQ cs ds h
 | .tup _,d,k,Z,h=>by simp only[j6];exact h
 | .el _ _ _,d,k,Z,h=>by simp only[j6];exact h
 | .ip _ _,d,k,Z,h=>by simp only[j6];exact h
 | .iface _ _,d,k,Z,h=>by simp only[j6];exact h
 | .junk,d,k,Z,h=>by simp only[j6];exact h
theorem oQ:∀(s l:List D) {k:List D->R} {Z:R},Le (k l) Z->Le (qp s l k) Z
 |[],l,k,Z,h=>by simp only[qp];exact cE fun e=>by subst e;exact h
 |s::r,l,k,Z,h=>by simp only[qp];exact bq fun x t e=>by subst e;exact VV s x (oQ r t h)
end
variable {Z:R}
theorem QD (s o:Ob){k:Ob->R}(h:Le (k o) Z):Le (VW s o k) Z:=by
 cases s<;>first
  |exact h
  |exact NX fun ds e=>by subst e;exact oQ _ ds h
  |exact f3 fun n e=>by subst e;exact h
  |exact Lp fun n e=>by subst e;exact h
  |exact Ì fun n e=>by subst e;exact h
  |exact Î fun b n e=>by subst e;exact h
  |exact NY fun a b e=>by subst e;exact h
  |exact Í fun a b e=>by subst e;exact h
  |exact yI fun e=>by subst e;exact h
theorem BJ:∀(s l:List Ob) {k:List Ob->R} {Z:R},Le (k l) Z->Le (Li s l k) Z
 |[],l,k,Z,h=>by exact cE fun e=>by simp_all
 |s::r,l,k,Z,h=>by exact bq fun x t e=>by subst e;exact QD s x (BJ r t h)
structure hR where
 el:Nat->Da->(Da->R)->R
 ca:Nat->List Ob->D->List Ob->KV->R
 mv:D->Da->(Da->R)->R
 (keys spl par:Bool)
structure hR.Ok (dc:hR):Prop where
 el:∀z x k,Le (dc.el z x k) (k x)
 ca:∀f hi v hp k,Le (dc.ca f hi v hp k) (k v hp)
 mv:∀z x k,Le (dc.mv z x k) (k x)
abbrev af:=Nat->List D->List Ob->KV->R
def bE (cc:af)(call:aG):Prop:=∀f vs hp (k k':KV),(∀v out,Le (k v out) (k' v out))->Le (cc f vs hp k) (cL (call f vs hp) fun p=>k' p.1 p.2)
abbrev KE:=D->List (Nat×Ob)->List Ob->R
def df (o:Option fF)(k:KE):R:=cL o fun e=>k e.1 e.2.1 e.2.2
def Wl (vs:List D)(k:KE):R:=match vs with|[.p (.bool c),a,b]=>iL c (k a [] []) (k b [] [])|_=>none
def Ō (op:BinOp)(vs:List D)(k:KE):R:=
 match vs with
 |[.p (.int i a),.p (.int j b)]=>match op with
  | .quo=>iL (az b 0) none (if i=j then k (.p (.int i (ab i (a.tdiv b)))) [] []else none)
  | .rem=>iL (az b 0) none (if i=j then k (.p (.int i (a.tmod b))) [] []else none)
  | .shl=>iL (aK b 0) none (k (.p (.int i (ab i (a*2 ^ (min b.toNat i.bits))))) [] [])
  | .shr=>iL (aK b 0) none (k (.p (.int i (a.fdiv (2 ^ (min b.toNat i.bits))))) [] [])
  |op=>df (kf (bin op (.p (.int i a)) (.p (.int j b)))) k
 |[.p (.str a),.p (.str b)]=>match op with
  | .add=>iL (Nat.ble (a.length+b.length) oU) (k (.p (.str (a++b))) [] []) none
  |op=>df (kf (bin op (.p (.str a)) (.p (.str b)))) k
 |[x,y]=>df (kf (bin op x y)) k
 |_=>none
def iZ:LN->LD->LD->(Bool->R)->R
 |[],_,_,k=>k true
 |c::ks,x::xs,y::ys,k=>cL (tD c x y) fun b=>iL b (iZ ks xs ys k) (k false)
 |_,_,_,_=>none
def Ua (ks:LN)(op:BinOp)(vs:List D)(k:KE):R:=
 match vs with
 |[.p (.agg xs),.p (.agg ys)]=>match op with
  | .eql=>iZ ks xs ys fun b=>k (.p (.bool b)) [] []
  | .neq=>iZ ks xs ys fun b=>k (.p (.bool (!b))) [] []
  |_=>none
 |_=>none
def iaL (dc:hR)(esz:Nat)(vs:List D)(k:KE):R:=
 match vs with
 |[.p (.slice z es),.p (.int _ i)]=>iL (Nat.beq z esz) (cL (bI es i) fun x=>dc.el esz x fun x=>k (.ip x 0) [] []) none
 |[.p (.sliceE z es),.p (.int _ i)]=>iL (Nat.beq z esz) (cL (bI es i) fun x=>dc.el esz x fun x=>k (.ip x 0) [] []) none
 |[.sl _ z es,.p (.int _ i)]=>iL (Nat.beq z esz) (cL (bI es i) fun x=>dc.el esz x fun x=>k (.ip x 0) [] []) none
 |[.arr id lo len z,.p (.int _ i)]=>iL (Nat.beq z esz) (iL (aV 0 i) (iL (aK i len) (k (.el id (lo+i.toNat) 0) [] []) none) none) none
 |_=>none
def ixL (vs:List D)(k:KE):R:=
 match vs with
 |[.p (.str s),.p (.int _ i)]=>cL (bif aV 0 i then s[i.toNat]? else none) fun b=>k (.p (.int .u8 (Int.ofNat b))) [] []
 |_=>none
def jY (x:D)(y:Nat)(k:Nat->R):R:=match x with| .p (.int _ i)=>iL (aV 0 i) (iL (aV i y) (k i.toNat) none) none|_=>none
def jv (lo hi mx:Bool)(len:Nat)(xs:List D)(k:Nat->Nat->Nat->R):R:=
 match lo,hi,mx,xs with
 |false,false,false,[]=>k 0 len len
 |true,false,false,[a]=>jY a len fun l=>k l len len
 |false,true,false,[b]=>jY b len fun h=>k 0 h len
 |true,true,false,[a,b]=>jY b len fun h=>jY a h fun l=>k l h len
 |false,true,true,[b,c]=>jY c len fun m=>jY b m fun h=>k 0 h m
 |true,true,true,[a,b,c]=>jY c len fun m=>jY b m fun h=>jY a h fun l=>k l h m
 |_,_,_,_=>none
theorem fI {x:D}{y:Nat}{k:Nat->R}(h:∀n,lw x y=some n->Le (k n) Z):Le (jY x y k) Z:=by
 unfold jY;split
 ·refine Le.grd fun h1=>Le.grd fun h2=>h _ ?_
  simp only[lw,h1,h2,Bool.and_self,cond_true]
 ·exact Le.no _
theorem f5 {lo hi mx:Bool}{len:Nat}{xs:List D}{k:Nat->Nat->Nat->R}(h:∀l a m,cz lo hi mx len xs=some (l,a,m)->Le (k l a m) Z):Le (jv lo hi mx len xs k) Z:=by
 unfold jv;split
 ·exact h _ _ _ rfl
 ·exact fI fun l h1=>h _ _ _ (by simp only[cz,h1])
 ·exact fI fun l h1=>h _ _ _ (by simp only[cz,h1])
 ·exact fI fun l h1=>fI fun l' h2=>h _ _ _ (by simp only[cz,h1,h2])
 ·exact fI fun l h1=>fI fun l' h2=>h _ _ _ (by simp only[cz,h1,h2])
 ·exact fI fun l h1=>fI fun l' h2=>fI fun l'' h3=>h _ _ _ (by simp only[cz,h1,h2,h3])
 ·exact Le.no _
def Md (lo hi:Bool)(vs:List D)(k:KE):R:=
 match vs with
 | .p (.str s)::xs=>jv lo hi false s.length xs fun l h _=>k (.p (.str ((s.drop l).take (h - l)))) [] []
 |_=>none
def WL (lo hi:Bool)(l h lo0:Nat)(n:Option Nat)(e v:R):R:=
 match lo,hi,n with
 |true,false,some n=>iL (Nat.beq l h) (iL (Nat.blt lo0 n) e v) v
 |_,_,_=>v
theorem WM (lo hi:Bool)(l h lo0:Nat)(os:List (Nat×Ob))(id:Nat)(e v:R):WL lo hi l h lo0 (uA os id) e v=bif lo&&!hi&&(Nat.beq l h&&nO os id lo0)then e else v:=by
 have hf:nO os id lo0=match uA os id with|some n=>Nat.blt lo0 n|none=>false:=by
  unfold nO uA;grind
 rw[hf];cases lo<;>cases hi<;>cases uA os id<;>simp only[WL,Bool.false_and,Bool.not_true,Bool.and_false,cond_false];cases Nat.beq l h<;>cases Nat.blt lo0 _<;>rfl
def Wy (esz:Nat)(lo hi mx:Bool)(vs:List D)(ids:LN)(obs:List Ob)(k:KE):R:=
 match mx,vs with
 |false,.p (.slice z es)::xs=>iL (wF z esz es) (jv lo hi false es.length xs fun l h _=>k (.p (.slice z ((es.drop l).take (h - l)))) [] []) none
 |false,.sl .nil z es::xs=>iL (wF z esz es) (jv lo hi false es.length xs fun _ _ _=>k (.sl .nil z []) [] []) none
 |false,.arr id lo0 len0 z::xs=>iL (Nat.beq z esz) (jv lo hi false len0 xs fun l h _=>WL lo hi l h lo0 (uA (ids.zip obs) id) (k (.sl .some z []) [] []) (k (.arr id (lo0+l) (h - l) z) [] [])) none
 |true,.p (.slice z es)::xs=>iL (wF z esz es) (jv lo hi true es.length xs fun l h m=>iL (Nat.beq h m) (k (.sl .exact z ((es.drop l).take (h - l))) [] []) (k (.p (.slice z ((es.drop l).take (h - l)))) [] [])) none
 |true,.arr id lo0 len0 z::xs=>iL (Nat.beq z esz) (jv lo hi true len0 xs fun l h m=>iL (Nat.beq m l) (k (.sl .exact z []) [] []) (match eS (ids.zip obs) id with
  | .arr es=>iL (Nat.beq h m) (k (.sl .exact z ((es.drop (lo0+l)).take (h - l))) [(id,.fz es)] []) (k (.p (.slice z ((es.drop (lo0+l)).take (h - l)))) [(id,.fz es)] [])
  | .fz es=>iL (Nat.beq h m) (k (.sl .exact z ((es.drop (lo0+l)).take (h - l))) [] []) (k (.p (.slice z ((es.drop (lo0+l)).take (h - l)))) [] [])
  |_=>none)) none
 |mx,vs=>df (hD esz lo hi mx vs ids obs) k
def ϐ (dc:hR)(n esz:Nat)(agg:Bool)(vs:List D)(k:KE):R:=
 match esz,agg,vs with
 |1,false,[.p (.agg cs),.p (.int _ i)]=>iL (aV 0 i) (iL (aK i n) (cL cs[i.toNat]? fun x=>dc.el 2001 x fun x=>k (.p x) [] []) none) none
 |esz,agg,vs=>df (Kp n esz agg vs) k
def ND (id o esz:Nat)(i:Int)(k:KE):Nat->Nat->R
 |0,_=>none
 |m+1,j=>iL (az i (j:Int)) (k (.box id (o+j*esz)) [] []) (ND id o esz i k m (j+1))
def Χ (n esz:Nat)(vs:List D)(k:KE):R:=
 match vs with
 |[.box id o,.p (.int _ i)]=>ND id o esz i k n 0
 |vs=>df (Gr n esz vs) k
def ϭ (esz:Nat)(lo hi:Bool)(vs:List D)(k:KE):R:=
 match vs with
 | .arr id lo0 len0 z::xs=>iL (Nat.beq z esz) (jv lo hi false len0 xs fun l h _=>k (.arr id (lo0+l) (h - l) z) [] []) none
 |_=>none
def ą (n off:Nat)(agg:Bool)(e:Da)(k:KE):R:=cL (sub (cells e) off n) fun ds=>cL (eC agg (ds.map .p)) fun d=>k d [] []
def ċ (dc:hR)(off n:Nat):Nat:=match dc.par with|true=>1000*(off+1)+n|false=>0
def VY (dc:hR)(n:Nat)(agg:Bool)(vs:List D)(obs:List Ob)(k:KE):R:=
 match vs with
 |[.el _ i off]=>match obs with
  |[.arr es]=>cL es[i]? fun e=>dc.el (ċ dc off n) e fun e=>ą n off agg e k
  |[.fz es]=>cL es[i]? fun e=>dc.el (ċ dc off n) e fun e=>ą n off agg e k
  |_=>none
 |vs=>df (gn n agg vs obs) k
def Mh (dc:hR)(n id i off:Nat)(d:D)(ids:LN)(obs:List Ob)(k:KE):R:=
 match eS (ids.zip obs) id with
 | .arr es=>cL es[i]? fun e=>dc.el (1000*(off+1)+n) e fun e=>cL (pur ((ids.zip obs).filter fun p=>!Nat.beq p.1 id) d) fun x=>iL (Nat.beq (cells x).length n) (iL (Nat.ble (off+n) (cells e).length) (cL (fk e (splice (cells e) off (cells x))) fun e'=>k .junk (dU ((ids.zip obs).filter fun p=>!Nat.beq p.1 id)++[(id,.arr (es.set i e'))]) []) none) none
 |_=>none
def Mg (dc:hR)(n:Nat)(vs:List D)(ids:LN)(obs:List Ob)(k:KE):R:=
 match dc.par,vs with
 |true,[.el id i off,d]=>Mh dc n id i off d ids obs k
 |false,[.el id i 0,d]=>match eS (ids.zip obs) id with
  | .arr es=>cL es[i]? fun e=>cL (pur ((ids.zip obs).filter fun p=>!Nat.beq p.1 id) d) fun x=>iL (Nat.beq (cells x).length n) (iL (Nat.beq (cells e).length n) (cL (fk e (cells x)) fun e'=>k .junk (dU ((ids.zip obs).filter fun p=>!Nat.beq p.1 id)++[(id,.arr (es.set i e'))]) []) none) none
  |_=>none
 |_,vs=>df (mA n vs ids obs) k
def Bu (kt:TypeDesc)(x:Da):LD->Nat->(Option Nat->R)->R
 |[],_,k=>k none
 |y::r,i,k=>cL (j5 kt x y) fun b=>iL b (k (some i)) (Bu kt x r (i+1) k)
def Vo (keys:Bool)(kt:TypeDesc)(x:Da)(ks:LD)(k:Option Nat->R):R:=
 match keys with
 |true=>Bu kt x ks 0 k
 |false=>cL (cS kt x ks 0) k
def qw (o:Option Nat)(e:R)(k:Nat->R):R:=match o with|none=>e|some i=>k i
def abl (kt:TypeDesc)(z:D)(ok:Bool)(x:Da)(ks:LD)(ws:List D)(k:KE):R:=Bu kt x ks 0 fun o=>qw o (k (bif ok then .tup [z,.p (.bool false)]else z) [] []) fun i=>cL ws[i]? fun v=>k (bif ok then .tup [v,.p (.bool true)]else v) [] []
def ϔ (dc:hR)(kt:TypeDesc)(z:D)(ok:Bool)(vs:List D)(ids:LN)(obs:List Ob)(k:KE):R:=
 match vs with
 |[d,.p x]=>
  match (match d with
   | .p .nilmap=>some ([],[])
   | .p (.map ks ws)=>some (ks,ws)
   | .map id=>match eS (ids.zip obs) id with
    | .map ks ws=>some (ks,ws)
    | .fzm ks ws=>some (ks,ws)
    |_=>none
   |_=>none:Option (LD×LD))with
  |some (ks,ws)=>Vo dc.keys kt x ks fun o=>qw o (k (bif ok then .tup [z,.p (.bool false)]else z) [] []) fun i=>cL ws[i]? fun v=>dc.mv z v fun v=>k (bif ok then .tup [.p v,.p (.bool true)]else .p v) [] []
  |none=>match d with
   | .map id=>match eS (ids.zip obs) id with
    | .mapd ks ws=>abl kt z ok x ks ws k
    |_=>df (xD kt z ok vs ids obs) k
   |_=>df (xD kt z ok vs ids obs) k
 |vs=>df (xD kt z ok vs ids obs) k
def V8 (keys:Bool)(kt:TypeDesc)(vs:List D)(ids:LN)(obs:List Ob)(k:KE):R:=
 match vs with
 |[.map id,.p x,d]=>
  match eS (ids.zip obs) id with
  | .map ks ws=>match pur ((ids.zip obs).filter fun p=>!Nat.beq p.1 id) d with
   |some y=>Vo keys kt x ks fun o=>qw o (k .junk (dU ((ids.zip obs).filter fun p=>!Nat.beq p.1 id)++[(id,.map (ks++[x]) (ws++[y]))]) []) fun i=>k .junk (dU ((ids.zip obs).filter fun p=>!Nat.beq p.1 id)++[(id,.map ks (ws.set i y))]) []
   |none=>df (uw kt vs ids obs) k
  |_=>df (uw kt vs ids obs) k
 |vs=>df (uw kt vs ids obs) k
def V6 (esz:Nat)(z:Da)(bytes base kk:Nat)(vs:List D)(k:KE):R:=
 match vs with
 |[.p (.int _ l),.p (.int _ c)]=>iL (aV 0 l&&aV l c&&Nat.ble (c.toNat*bytes) 281474976710656&&aV c 9223372036854775807) (k (.arr (base+kk) 0 l.toNat esz) [(base+kk,.arr (List.replicate l.toNat z))] []) none
 |_=>none
def cI (n bytes:Nat):Bool:=Nat.ble ((2*n+192)*bytes) 281474976710656&&Nat.ble (2*n+192) 9223372036854775807
def Ň (tr:Bool)(esz bytes base kk:Nat)(vs:List D)(ids:LN)(obs:List Ob)(k:KE):R:=
 match vs with
 |[.arr id 0 len z,b]=>match eS (ids.zip obs) id with
  | .arr es=>match tr with
   |true=>iL (Nat.beq z esz) (cL (elems esz (ids.zip obs) b) fun ys=>iL (cI ((es.take len).length+ys.length) bytes) (k (.arr (base+kk) 0 (es.take len++ys).length esz) [(id,.dead),(base+kk,.arr (es.take len++ys))] []) none) none
   |false=>iL (Nat.beq z esz) (iL (Nat.beq len es.length) (cL (elems esz (ids.zip obs) b) fun ys=>iL (cI (es.length+ys.length) bytes) (k (.arr (base+kk) 0 (es++ys).length esz) [(id,.dead),(base+kk,.arr (es++ys))] []) none) none) none
  |_=>none
 |[.sl .nil z es,b]=>cL (elems esz (ids.zip obs) b) fun ys=>iL (cI (0+ys.length) bytes) (k (.arr (base+kk) 0 ys.length esz) [(base+kk,.arr ys)] []) none
 |[.sl .exact z [],b]=>cL (elems esz (ids.zip obs) b) fun ys=>iL (cI (0+ys.length) bytes) (k (.arr (base+kk) 0 ys.length esz) [(base+kk,.arr ys)] []) none
 |[.sl .exact z es,b]=>iL (wF z esz es) (cL (elems esz (ids.zip obs) b) fun ys=>iL (!es.isEmpty&&ys.isEmpty) (k (.sl .exact z es) [] []) (iL (cI (es.length+ys.length) bytes) (k (.arr (base+kk) 0 (es++ys).length esz) [(base+kk,.arr (es++ys))] []) none)) none
 |vs=>df (m4 esz bytes base kk vs ids obs) k
def ň (dc:hR)(esz bytes base kk:Nat)(vs:List D)(ids:LN)(obs:List Ob)(k:KE):R:=
 match dc.par,vs with
 |true,[.sl .exact z es,b]=>iL (wF z esz es) (cL (elems esz (ids.zip obs) b) fun ys=>iL (!es.isEmpty&&ys.isEmpty) (k (.sl .exact z es) [] []) (iL (cI (es.length+ys.length) bytes) (k (.arr (base+kk) 0 (es++ys).length esz) [(base+kk,.arr (es++ys))] []) none)) none
 |_,vs=>Ň dc.keys esz bytes base kk vs ids obs k
def T1 (bytes base kk:Nat)(vs:List D)(ids:LN)(obs:List Ob)(k:KE):R:=
 match vs with
 |[.arr id 0 len z,b]=>match eS (ids.zip obs) id with
  | .byt es=>iL (Nat.beq z 1) (iL (Nat.beq len es.length) (cL (elems 1 (ids.zip obs) b) fun ys=>iL (cI (es.length+ys.length) bytes) (k (.arr (base+kk) 0 (es++ys).length 1) [(id,.dead),(base+kk,.byt (es++ys))] []) none) none) none
  |_=>none
 |[.sl .nil z es,b]=>cL (elems 1 (ids.zip obs) b) fun ys=>iL (cI (0+ys.length) bytes) (k (.arr (base+kk) 0 ys.length 1) [(base+kk,.byt ys)] []) none
 |vs=>df (xC bytes base kk vs ids obs) k
def L9 (vs:List D)(k:KE):R:=
 match vs with
 |[.arr id lo len _]=>iL (Nat.beq len 0) none (k (.el id lo 0) [] [])
 |vs=>df (pZ vs) k
def WT (vs:List D)(ids:LN)(obs:List Ob)(k:KE):R:=
 match vs with
 |[.el id i off,.p (.int .i64 n)]=>match eS (ids.zip obs) id with
  | .byt es=>iL (Nat.beq off 0&&((aV 1 n&&aV n 9223372036854775807)&&Nat.ble (i+n.toNat) es.length)) (cL (fi ((es.drop i).take n.toNat)) fun s=>k (.p (.str s)) [(id,.dead)] []) none
  |_=>none
 |vs=>df (Bd vs ids obs) k
def Ŋ (vs:List D)(ids:LN)(obs:List Ob)(k:KE):R:=
 match vs with
 |[d]=>cL (elems 1 (ids.zip obs) d) fun es=>cL (fi es) fun s=>k (.p (.str s)) [] []
 |_=>none
def ţ (esz:Nat)(vs:List D)(ids:LN)(obs:List Ob)(k:KE):R:=
 match vs with
 |[.arr id lo len z,b]=>match eS (ids.zip obs) id with
  | .arr es=>cL (elems esz (ids.zip obs) b) fun ys=>iL (ys.take len).isEmpty (k (.p (BB 0)) [] []) (iL (Nat.beq z esz) (k (.p (BB (ys.take len).length)) [(id,.arr (splice es lo (ys.take len)))] []) none)
  |_=>none
 |_=>none
def Ą (dc:hR)(cc:af)(f:Nat)(args:List D)(ids:LN)(obs:List Ob)(len:Nat)(k:KE):R:=
 cc f (fQ (ji ids) args) (mZ (ji ids) obs) fun r out=>dc.ca f (mZ (ji ids) obs) r out fun r out=>iL (Nat.ble ids.length out.length) (k (gO (back ids.length len ids out.length) r) (ids.zip (mZ (back ids.length len ids out.length) out)) ((mZ (back ids.length len ids out.length) out).drop ids.length)) none
def xP [Mv](dc:hR)(cc:af)(f:Nat)(args:List D)(ids:LN)(obs:List Ob)(len:Nat)(k:KE):R:=
 match Mv.mv f with
 |true=>cc f (fQ (ji ids) args) (mZ (ji ids) obs) fun r out=>dc.ca f (mZ (ji ids) obs) r out fun r out=>iL (Nat.ble (eH f (fQ (ji ids) args) ids.length) out.length) (k (gO (back (eH f (fQ (ji ids) args) ids.length) len ids out.length) r) ((ids.take (eH f (fQ (ji ids) args) ids.length)).zip (mZ (back (eH f (fQ (ji ids) args) ids.length) len ids out.length) out)++(ids.drop (eH f (fQ (ji ids) args) ids.length)).map fun i=>(i,.dead)) ((mZ (back (eH f (fQ (ji ids) args) ids.length) len ids out.length) out).drop (eH f (fQ (ji ids) args) ids.length))) none
 |false=>Ą dc cc f args ids obs len k
def KC [Mv](dc:hR)(cc:af)(vs:List D)(ids:LN)(obs:List Ob)(len:Nat)(k:KE):R:=
 match vs with
 | .p (.fn f caps)::args=>xP dc cc (zM f) (gJ f (caps.map .p) (args.map norm)) ids obs len k
 | .fn f caps::args=>xP dc cc (zM f) (gJ f caps (args.map norm)) ids obs len k
 |_=>none
def ł [Mv](dc:hR)(cc:af)(base:Nat)(o:O)(kk:Nat)(vs:List D)(ids:LN)(obs:List Ob)(len:Nat)(k:KE):R:=
 match o with
 | .pick=>Wl vs k
 | .bin op=>Ō op vs k
 | .binS ks op=>Ua ks op vs k
 | .ia esz=>iaL dc esz vs k
 | .ix=>ixL vs k
 | .slStr lo hi=>Md lo hi vs k
 | .slSl esz lo hi mx=>Wy esz lo hi mx vs ids obs k
 | .slW esz lo hi=>ϭ esz lo hi vs k
 | .ixa n esz agg=>ϐ dc n esz agg vs k
 | .iaa n esz=>Χ n esz vs k
 | .load n agg=>VY dc n agg vs obs k
 | .store n=>Mg dc n vs ids obs k
 | .lkp kt z ok=>ϔ dc kt z ok vs ids obs k
 | .mupd kt=>V8 dc.keys kt vs ids obs k
 | .mksl esz z bytes=>V6 esz z bytes base kk vs k
 | .app esz bytes=>ň dc esz bytes base kk vs ids obs k
 | .b2s=>Ŋ vs ids obs k
 | .appB bytes=>T1 bytes base kk vs ids obs k
 | .sdata=>L9 vs k
 | .ustr=>WT vs ids obs k
 | .cpy esz=>ţ esz vs ids obs k
 | .call f raw=>xP dc cc f (bif raw then vs else vs.map norm) ids obs len k
 | .callv=>KC dc cc vs ids obs len k
 |o=>df (oX (fun _ _ _=>none) base o kk vs ids obs len) k
section laws
variable {k k':KE} (hk:∀v u n,Le (k v u n) (k' v u n))
include hk
theorem dD (o:Option fF):Le (df o k) (df o k'):=Le.opt fun e h=>by subst h;exact hk _ _ _
theorem Wm (vs:List D):Le (Wl vs k) (df (Bb vs) k'):=by
 unfold Wl;split
 ·exact Le.two (fun h=>by subst h;exact hk _ _ _) (fun h=>by subst h;exact hk _ _ _)
 ·exact Le.no _
theorem Yn (op:BinOp)(vs:List D):Le (Ō op vs k) (df (CG op vs) k'):=by
 unfold Ō;split
 ·split
  ·refine Le.two (fun _=>Le.no _) (fun h=>?_);split
   ·rename_i e;subst e;simp only[CG,bin,jX,h,kf];exact hk _ _ _
   ·exact Le.no _
  ·refine Le.two (fun _=>Le.no _) (fun h=>?_);split
   ·rename_i e;subst e;simp only[CG,bin,jX,h,kf];exact hk _ _ _
   ·exact Le.no _
  ·refine Le.two (fun _=>Le.no _) (fun h=>?_);simp only[CG,bin,lK,h,kf];exact hk _ _ _
  ·refine Le.two (fun _=>Le.no _) (fun h=>?_);simp only[CG,bin,lK,h,kf];exact hk _ _ _
  ·exact dD hk _
 ·split
  ·refine Le.grd fun h=>?_
   simp only[CG,bin,p9,h,kf];exact hk _ _ _
  ·exact dD hk _
 ·exact dD hk _
 ·exact Le.no _
omit hk in
theorem nJ {q:Bool->R}{x:R}:∀(ks:LN) (xs ys:LD),(∀b,gH ks xs ys=some b->Le (q b) x)->Le (iZ ks xs ys q) x
 |[],xs,ys,h=>by unfold iZ;exact h true (by simp[gH])
 |c::ks,[],ys,h=>by unfold iZ;exact Le.no _
 |c::ks,x::xs,[],h=>by unfold iZ;exact Le.no _
 |c::ks,x::xs,y::ys,h=>by
  unfold iZ;refine Le.opt fun b hb=>Le.two (fun e=>?_) (fun e=>?_)
  ·exact nJ ks xs ys fun b' h'=>h b' (by simp only[gH,hb,e,cond_true,h'])
  ·exact h false (by simp only[gH,hb,e,cond_false])
theorem Ub (ks:LN)(op:BinOp)(vs:List D):Le (Ua ks op vs k) (df (Ba ks op vs) k'):=by
 unfold Ua;split
 ·split
  ·refine nJ _ _ _ fun b hb=>?_
   simp only[Ba,binS,hb,kf];exact hk _ _ _
  ·refine nJ _ _ _ fun b hb=>?_
   simp only[Ba,binS,hb,kf];exact hk _ _ _
  ·exact Le.no _
 ·exact Le.no _
variable {dc:hR}
theorem Υ (hd:dc.Ok)(esz:Nat)(vs:List D):Le (iaL dc esz vs k) (df (MX esz vs) k'):=by
 unfold iaL;split
 ·refine Le.grd fun h=>Le.opt fun x hx=>(hd.el _ _ _).trans ?_
  simp only[MX,h,hx];exact hk _ _ _
 ·refine Le.grd fun h=>Le.opt fun x hx=>(hd.el _ _ _).trans ?_
  simp only[MX,h,hx];exact hk _ _ _
 ·refine Le.grd fun h=>Le.opt fun x hx=>(hd.el _ _ _).trans ?_
  simp only[MX,h,hx];exact hk _ _ _
 ·refine Le.grd fun h=>Le.grd fun h1=>Le.grd fun h2=>?_
  simp only[MX,h,h1,h2,cond_true];exact hk _ _ _
 ·exact Le.no _
theorem ώ (vs:List D):Le (ixL vs k) (df (X8 vs) k'):=by
 unfold ixL;split
 ·refine Le.opt fun x hx=>?_
  simp only[X8,hx];exact hk _ _ _
 ·exact Le.no _
theorem Q7 (lo hi:Bool)(vs:List D):Le (Md lo hi vs k) (df (mz lo hi vs) k'):=by
 unfold Md;split
 ·refine f5 fun l h m hp=>?_
  simp only[mz,hp];exact hk _ _ _
 ·exact Le.no _
theorem Wz (esz:Nat)(lo hi mx:Bool)(vs:List D)(ids:LN)(obs:List Ob):Le (Wy esz lo hi mx vs ids obs k) (df (hD esz lo hi mx vs ids obs) k'):=by
 unfold Wy;split
 ·refine Le.grd fun h=>f5 fun l h' m hp=>?_
  simp only[hD,h,hp,cond_true,Bool.false_and,cond_false];exact hk _ _ _
 ·refine Le.grd fun h=>f5 fun l h' m hp=>?_
  simp only[hD,h,hp,cond_true];exact hk _ _ _
 ·refine Le.grd fun h=>f5 fun l h' m hp=>?_
  rw[WM];simp only[hD,h,hp,cond_true,cond_false];cases lo&&!hi&&(Nat.beq l h'&&nO (ids.zip obs) _ _)<;>exact hk _ _ _
 ·refine Le.grd fun h=>f5 fun l h' m hp=>Le.two (fun h1=>?_) (fun h1=>?_)
  ·simp only[hD,h,hp,cond_true,Bool.true_and,h1];exact hk _ _ _
  ·simp only[hD,h,hp,cond_true,cond_false,Bool.true_and,h1];exact hk _ _ _
 ·refine Le.grd fun h=>f5 fun l h' m hp=>Le.two (fun h0=>?_) (fun h0=>?_)
  ·simp only[hD,h,hp,cond_true,h0];exact hk _ _ _
  split
  ·rename_i es hl;refine Le.two (fun h1=>?_) (fun h1=>?_)
   ·simp only[hD,h,hp,hl,cond_true,h0,cond_false,h1];exact hk _ _ _
   ·simp only[hD,h,hp,hl,cond_true,h0,cond_false,h1];exact hk _ _ _
  ·rename_i es hl;refine Le.two (fun h1=>?_) (fun h1=>?_)
   ·simp only[hD,h,hp,hl,cond_true,h0,cond_false,h1];exact hk _ _ _
   ·simp only[hD,h,hp,hl,cond_true,h0,cond_false,h1];exact hk _ _ _
  ·exact Le.no _
 ·exact dD hk _
theorem Z5 (hd:dc.Ok)(n esz:Nat)(agg:Bool)(vs:List D):Le (ϐ dc n esz agg vs k) (df (Kp n esz agg vs) k'):=by
 unfold ϐ;split
 ·rename_i cs kk i;refine Le.grd fun h1=>Le.grd fun h2=>Le.opt fun x hx=>(hd.el _ _ _).trans ?_
  have hs:sub (cs.map D.p) (i.toNat*1) 1=some [.p x]:=by
   have hl:i.toNat<cs.length:=by
    grind
   rw[lη hl,lβ]at hx;unfold sub;rw[Nat.mul_one,lα,show Nat.ble (i.toNat+1) cs.length=true by simp;omega,mμ (by simp_all),List.getElem_map,hx];rfl
  simp only[Kp,h1,h2,hs,eC];exact hk _ _ _
 ·exact dD hk _
omit hk in
theorem bp (a b:Int):az a b=decide (a=b):=by
 cases a<;>cases b<;>simp only[az]
 ·rw[mι];simp;omega
 ·simp
 ·simp
 ·rw[mι];simp
omit hk in
theorem bT (a b:Int):aK a b=decide (a<b):=by
 cases a<;>cases b<;>simp only[aK]
 ·rw[mι];simp[Nat.blt_eq]
 ·rw[mι];simp;omega
 ·rw[mι];simp;omega
 ·rw[mι];simp[Nat.blt_eq];omega
omit hk in
theorem bk (a b:Int):aV a b=decide (a<=b):=by
 unfold aV;rw[bT,mι];simp
omit hk in
theorem He (id o esz:Nat)(i:Int){X:R}:∀(m j n:Nat),j+m=n->(∀q:Nat,i=(q:Int)->q<n->Le (k (.box id (o+q*esz)) [] []) X)->Le (ND id o esz i k m j) X
 |0,_,_,_,_=>Le.no _
 |m+1,j,n,h,hX=>by
  unfold ND;refine Le.two (fun e=>?_) (fun _=>He id o esz i m (j+1) n (by omega) hX);rw[bp,lδ]at e;exact hX j e (by omega)
theorem ZX (n esz:Nat)(vs:List D):Le (Χ n esz vs k) (df (Gr n esz vs) k'):=by
 unfold Χ;split
 ·rename_i id o kk i;refine He id o esz i n 0 n (by omega) fun q hq hn=>?_
  subst hq;have h1:aV 0 (q:Int)=true:=by rfl
  have h2:aK (q:Int) (n:Int)=true:=by rw[bT,lδ];omega
  simp only[Gr,h2,Int.toNat_natCast];exact hk _ _ _
 ·exact dD hk _
theorem Ü (esz:Nat)(lo hi:Bool)(vs:List D):Le (ϭ esz lo hi vs k) (df (PJ esz lo hi vs) k'):=by
 unfold ϭ;split
 ·refine Le.grd fun h=>f5 fun l h' m hp=>?_
  simp only[PJ,h,hp,cond_true];exact hk _ _ _
 ·exact Le.no _
theorem VZ (hd:dc.Ok)(n:Nat)(agg:Bool)(vs:List D)(obs:List Ob):Le (VY dc n agg vs obs k) (df (gn n agg vs obs) k'):=by
 unfold VY;split
 ·split
  ·refine Le.opt fun e he=>(hd.el _ _ _).trans (Le.opt fun ds hds=>Le.opt fun d hd=>?_)
   simp only[gn,he,hds,hd];exact hk _ _ _
  ·refine Le.opt fun e he=>(hd.el _ _ _).trans (Le.opt fun ds hds=>Le.opt fun d hd=>?_)
   simp only[gn,he,hds,hd];exact hk _ _ _
  ·exact Le.no _
 ·exact dD hk _
theorem Rf (hd:dc.Ok)(n id i off:Nat)(d:D)(ids:LN)(obs:List Ob):Le (Mh dc n id i off d ids obs k) (df (mA n [.el id i off,d] ids obs) k'):=by
 unfold Mh;split
 ·rename_i es hl;refine Le.opt fun e he=>(hd.el _ _ _).trans (Le.opt fun x hx=>Le.grd fun h1=>Le.grd fun h2=>Le.opt fun e' he'=>?_)
  simp only[mA,hl,he,hx,h1,h2,he'];exact hk _ _ _
 ·exact Le.no _
theorem Re (hd:dc.Ok)(n:Nat)(vs:List D)(ids:LN)(obs:List Ob):Le (Mg dc n vs ids obs k) (df (mA n vs ids obs) k'):=by
 unfold Mg;split
 ·exact Rf hk hd _ _ _ _ _ _ _
 ·split
  ·rename_i es hl;refine Le.opt fun e he=>Le.opt fun x hx=>Le.grd fun h1=>Le.grd fun h2=>Le.opt fun e' he'=>?_
   have hb:=lν h1;have hb2:=lν h2;have hs:splice (cells e) 0 (cells x)=cells x:=by simp[splice,hb,hb2.symm▸List.drop_length]
   have hle:Nat.ble (0+n) (cells e).length=true:=by simp_all
   simp only[mA,hl,he,hx,h1,hle,hs,he'];exact hk _ _ _
  ·exact Le.no _
 ·exact dD hk _
omit hk in
theorem yf {kt:TypeDesc}{x:Da}{q:Option Nat->R}{y:R}:∀(ks:LD) (i:Nat),(∀o,cS kt x ks i=some o->Le (q o) y)->Le (Bu kt x ks i q) y
 |[],i,h=>by unfold Bu;exact h none rfl
 |c::r,i,h=>by
  unfold Bu;refine Le.opt fun b hb=>Le.two (fun e=>?_) (fun e=>?_)
  ·subst e;exact h _ (by simp only[cS,hb])
  ·subst e;exact yf r (i+1) fun o ho=>h o (by simp only[cS,hb,ho])
omit hk in
theorem G8 {keys:Bool}{kt:TypeDesc}{x:Da}{q:Option Nat->R}{y:R}(ks:LD)(h:∀o,cS kt x ks 0=some o->Le (q o) y):Le (Vo keys kt x ks q) y:=by
 cases keys
 ·exact Le.opt h
 ·exact yf ks 0 h
theorem Â (hd:dc.Ok)(kt:TypeDesc)(z:D)(ok:Bool)(vs:List D)(ids:LN)(obs:List Ob):Le (ϔ dc kt z ok vs ids obs k) (df (xD kt z ok vs ids obs) k'):=by
 unfold ϔ;split
 ·rename_i d x;split
  ·rename_i ks ws he;refine G8 ks fun o ho=>?_
   have key:Le (qw o (k (bif ok then .tup [z,.p (.bool false)]else z) [] []) fun i=>cL ws[i]? fun v=>dc.mv z v fun v=>k (bif ok then .tup [.p v,.p (.bool true)]else .p v) [] []) (df (match cS kt x ks 0 with
    |some (some i)=>match ws[i]? with
     |some v=>val (bif ok then .tup [.p v,.p (.bool true)]else .p v)
     |none=>none
    |some none=>val (bif ok then .tup [z,.p (.bool false)]else z)
    |none=>none) k'):=by
    rw[ho];cases o with
    |none=>exact hk _ _ _
    |some i=>
     refine Le.opt fun v hv=>(hd.mv _ _ _).trans ?_
     simp only[hv];exact hk _ _ _
   split at he
   ·simp only[lβ,lτ]at he;obtain⟨rfl,rfl⟩:=he;exact key
   ·simp only[lβ,lτ]at he;obtain⟨rfl,rfl⟩:=he;exact key
   ·split at he
    ·rename_i hl;simp only[lβ,lτ]at he;obtain⟨rfl,rfl⟩:=he;simp only[xD,hl];exact key
    ·rename_i hl;simp only[lβ,lτ]at he;obtain⟨rfl,rfl⟩:=he;simp only[xD,hl];exact key
    ·cases he
   ·cases he
  ·split
   ·split
    ·rename_i hl;refine yf _ _ fun o ho=>?_
     simp only[xD,hl,QE,ho];cases o with
     |none=>exact hk _ _ _
     |some i=>
      refine Le.opt fun v hv=>?_
      simp only[hv];exact hk _ _ _
    ·exact dD hk _
   ·exact dD hk _
 ·exact dD hk _
theorem V9 (keys:Bool)(kt:TypeDesc)(vs:List D)(ids:LN)(obs:List Ob):Le (V8 keys kt vs ids obs k) (df (uw kt vs ids obs) k'):=by
 unfold V8;split
 ·split
  ·rename_i hl;split
   ·rename_i y hp;refine G8 _ fun o ho=>?_
    simp only[uw,hl,hp,ho];cases o<;>exact hk _ _ _
   ·exact dD hk _
  ·exact dD hk _
 ·exact dD hk _
theorem V7 (esz:Nat)(z:Da)(bytes base kk:Nat)(vs:List D):Le (V6 esz z bytes base kk vs k) (df (Gw esz z bytes base kk vs) k'):=by
 unfold V6;split
 ·refine Le.grd fun h=>?_
  simp only[Gw,h,cond_true];exact hk _ _ _
 ·exact Le.no _
theorem Yf (tr:Bool)(esz bytes base kk:Nat)(vs:List D)(ids:LN)(obs:List Ob):Le (Ň tr esz bytes base kk vs ids obs k) (df (m4 esz bytes base kk vs ids obs) k'):=by
 unfold Ň;split
 ·split
  ·rename_i es hl;split
   ·refine Le.grd fun h1=>Le.opt fun ys hy=>Le.grd fun h3=>?_
    unfold cI at h3;simp only[m4,kK,hl,h1,cond_true,hy,List.drop_zero,h3,lε,List.nil_append];exact hk _ _ _
   refine Le.grd fun h1=>Le.grd fun h2=>Le.opt fun ys hy=>Le.grd fun h3=>?_
   have h2':=lν h2;subst h2';unfold cI at h3;simp only[m4,kK,hl,h1,cond_true,hy,List.drop_zero,List.take_length,h3,lε,List.nil_append];exact hk _ _ _
  ·exact Le.no _
 ·refine Le.opt fun ys hy=>Le.grd fun h3=>?_
  unfold cI at h3;simp only[m4,kK,hy,List.isEmpty_nil,Bool.not_true,Bool.and_false,List.length_nil,h3,List.nil_append];rw[Nat.zero_add];exact hk _ _ _
 ·refine Le.opt fun ys hy=>Le.grd fun h3=>?_
  unfold cI at h3;simp only[m4,kK,wF,List.isEmpty_nil,Bool.or_true,cond_true,hy,Bool.not_true,Bool.and_false,List.length_nil,h3,List.nil_append];rw[Nat.zero_add];exact hk _ _ _
 ·refine Le.grd fun h1=>Le.opt fun ys hy=>Le.two (fun h2=>?_) (fun h2=>Le.grd fun h3=>?_)
  ·rw[lγ]at h2;simp only[m4,kK,h1,cond_true,hy,h2.1,h2.2,Bool.and_self];exact hk _ _ _
  ·unfold cI at h3;rw[Bool.and_comm]at h2;simp only[m4,kK,h1,cond_true,hy,List.isEmpty_nil,Bool.true_and,h2,h3,List.nil_append];rw[<-lε];exact hk _ _ _
 ·exact dD hk _
theorem Yg (dc:hR)(esz bytes base kk:Nat)(vs:List D)(ids:LN)(obs:List Ob):Le (ň dc esz bytes base kk vs ids obs k) (df (m4 esz bytes base kk vs ids obs) k'):=by
 unfold ň;split
 ·refine Le.grd fun h1=>Le.opt fun ys hy=>Le.two (fun h2=>?_) (fun h2=>Le.grd fun h3=>?_)
  ·rw[lγ]at h2;simp only[m4,kK,h1,cond_true,hy,h2.1,h2.2,Bool.and_self];exact hk _ _ _
  ·unfold cI at h3;rw[Bool.and_comm]at h2;simp only[m4,kK,h1,cond_true,hy,List.isEmpty_nil,Bool.true_and,h2,h3,List.nil_append];rw[<-lε];exact hk _ _ _
 ·exact Yf hk _ _ _ _ _ _ _ _
theorem T2 (bytes base kk:Nat)(vs:List D)(ids:LN)(obs:List Ob):Le (T1 bytes base kk vs ids obs k) (df (xC bytes base kk vs ids obs) k'):=by
 unfold T1;split
 ·split
  ·rename_i es hl;refine Le.grd fun h1=>Le.grd fun h2=>Le.opt fun ys hy=>Le.grd fun h3=>?_
   have h2':=lν h2;subst h2';unfold cI at h3;simp only[xC,xL,hl,h1,cond_true,hy,List.drop_zero,List.take_length,h3,lε,List.nil_append];exact hk _ _ _
  ·exact Le.no _
 ·refine Le.opt fun ys hy=>Le.grd fun h3=>?_
  unfold cI at h3;simp only[xC,xL,hy,List.isEmpty_nil,Bool.not_true,Bool.and_false,List.length_nil,h3,List.nil_append];rw[Nat.zero_add];exact hk _ _ _
 ·exact dD hk _
theorem Q4 (vs:List D):Le (L9 vs k) (df (pZ vs) k'):=by
 unfold L9;split
 ·refine Le.two (fun _=>Le.no _) (fun h=>?_);simp only[pZ,h,val];exact hk _ _ _
 ·exact dD hk _
theorem WU (vs:List D)(ids:LN)(obs:List Ob):Le (WT vs ids obs k) (df (Bd vs ids obs) k'):=by
 unfold WT;split
 ·split
  ·rename_i es hl;refine Le.grd fun h1=>Le.opt fun s hs=>?_
   simp only[Bd,hl,h1,hs];exact hk _ _ _
  ·exact Le.no _
 ·exact dD hk _
theorem Yk (vs:List D)(ids:LN)(obs:List Ob):Le (Ŋ vs ids obs k) (df (PF vs ids obs) k'):=by
 unfold Ŋ;split
 ·refine Le.opt fun es he=>Le.opt fun s hs=>?_
  simp only[PF,he,hs];exact hk _ _ _
 ·exact Le.no _
theorem YS (esz:Nat)(vs:List D)(ids:LN)(obs:List Ob):Le (ţ esz vs ids obs k) (df (PH esz vs ids obs) k'):=by
 unfold ţ;split
 ·split
  ·rename_i es hl;refine Le.opt fun ys hy=>Le.two (fun h=>?_) (fun h=>Le.grd fun h1=>?_)
   ·simp only[PH,hl,hy,h,cond_true,val];exact hk _ _ _
   ·simp only[PH,hl,hy,h,cond_false,h1,cond_true];exact hk _ _ _
  ·exact Le.no _
 ·exact Le.no _
variable {cc:af}
theorem Uv (hd:dc.Ok){call:aG}(hc:bE cc call)(f:Nat)(args:List D)(ids:LN)(obs:List Ob)(len:Nat):Le (Ą dc cc f args ids obs len k) (df (fO call f args ids obs len) k'):=by
 refine(hc f _ _ _ (fun r out=>iL (Nat.ble ids.length out.length) (k' (mapD (back ids.length len ids out.length) r) (ids.zip (out.map (cm (back ids.length len ids out.length)))) ((out.map (cm (back ids.length len ids out.length))).drop ids.length)) none) fun r out=>(hd.ca _ _ _ _ _).trans ?_).trans ?_
 ·rw[fW,lD];exact Le.grd fun h=>by simp only[h,iL];simp_all
 ·rw[iy,lD,jz];unfold fO df;cases call f (mapD.mapDL (idx ids) args) (obs.map (cm (idx ids)))with
  |none=>exact Le.no _
  |some p=>
   refine Le.grd fun h=>?_
   simp only[h,cond_true];exact Le.refl _
theorem tq [Mv](hd:dc.Ok){call:aG}(hc:bE cc call)(f:Nat)(args:List D)(ids:LN)(obs:List Ob)(len:Nat):Le (xP dc cc f args ids obs len k) (df (nB call f args ids obs len) k'):=by
 unfold xP nB;cases Mv.mv f
 ·exact Uv hk hd hc _ _ _ _ _
 generalize hm:eH f (fQ (ji ids) args) ids.length=m;refine(hc f _ _ _ (fun r out=>iL (Nat.ble m out.length) (k' (mapD (back m len ids out.length) r) ((ids.take m).zip (out.map (cm (back m len ids out.length)))++(ids.drop m).map fun i=>(i,.dead)) ((out.map (cm (back m len ids out.length))).drop m)) none) fun r out=>(hd.ca _ _ _ _ _).trans ?_).trans ?_
 ·rw[fW,lD];exact Le.grd fun h=>by simp only[h,iL];simp_all
 ·rw[iy,jz]at hm;rw[iy,lD,jz,hm];unfold jy df;cases call f (mapD.mapDL (idx ids) args) (obs.map (cm (idx ids)))with
  |none=>exact Le.no _
  |some p=>
   refine Le.grd fun h=>?_
   simp only[h,cond_true];exact Le.refl _
theorem PZ [Mv](hd:dc.Ok){call:aG}(hc:bE cc call)(vs:List D)(ids:LN)(obs:List Ob)(len:Nat):Le (KC dc cc vs ids obs len k) (df (xQ call vs ids obs len) k'):=by
 unfold KC xQ;split
 ·exact tq hk hd hc _ _ _ _ _
 ·exact tq hk hd hc _ _ _ _ _
 ·exact Le.no _
theorem X9 [Mv](hd:dc.Ok){call:aG}(hc:bE cc call)(base:Nat)(o:O)(kk:Nat)(vs:List D)(ids:LN)(obs:List Ob)(len:Nat):Le (ł dc cc base o kk vs ids obs len k) (df (sZ call base o kk vs ids obs len) k'):=by
 unfold ł;split
 ·exact Wm hk _
 ·exact Yn hk _ _
 ·exact Ub hk _ _ _
 ·exact Υ hk hd _ _
 ·exact ώ hk _
 ·exact Q7 hk _ _ _
 ·exact Wz hk _ _ _ _ _ _ _
 ·exact Ü hk _ _ _ _
 ·exact Z5 hk hd _ _ _ _
 ·exact ZX hk _ _ _
 ·exact VZ hk hd _ _ _ _
 ·exact Re hk hd _ _ _ _
 ·exact Â hk hd _ _ _ _ _ _
 ·exact V9 hk _ _ _ _ _
 ·exact V7 hk _ _ _ _ _ _
 ·exact Yg hk _ _ _ _ _ _ _ _
 ·exact Yk hk _ _ _
 ·exact T2 hk _ _ _ _ _ _
 ·exact Q4 hk _
 ·exact WU hk _ _ _
 ·exact YS hk _ _ _ _
 ·exact tq hk hd hc _ _ _ _ _
 ·exact PZ hk hd hc _ _ _ _
 ·rename_i o' h1 h2 h3 h4 h5 h6 h7 h8 h9 h10 h11 h12 h13 h14 h15 h16 h17;have e:oX (fun _ _ _=>none) base o kk vs ids obs len=sZ call base o kk vs ids obs len:=by
   cases o<;>first|rfl|exact absurd rfl (h16 _ _)|exact absurd rfl h17
  rw[e];exact dD hk _
end laws
end
section
def gdL (x:eT)(tm:Tm)(t e:R):R:=
 match x.gd with
 |none=>t
 |some (g,w)=>match get tm g with
  | .p (.bool b)=>match w with
   |true=>iL b t e
   |false=>iL b e t
  | .tup []=>e
  |_=>none
theorem Η {x:eT}{tm:Tm}{t e X:R}(ht:dN x tm=some true->Le t X)(he:dN x tm=some false->Le e X):Le (gdL x tm t e) X:=by
 unfold gdL;split
 ·rename_i h;exact ht (by simp[dN,h])
 ·rename_i g w h;split
  ·rename_i b hb;have hg:dN x tm=some (b==w):=by simp[dN,h,hb]
   cases w
   ·exact Le.two (fun e=>he (by simp_all)) (fun e=>ht (by simp_all))
   ·exact Le.two (fun e=>ht (by simp_all)) (fun e=>he (by simp_all))
  ·rename_i hb;exact he (by simp[dN,h,hb])
  ·exact Le.no _
variable [Mv]
def rO (o:O)(vs:List D)(hp:List Ob):LN:=
 match o with
 | .call f _=>match Mv.mv f with
  |true=>eQ hp bf ((iY (dX vs []) []).flatMap fun i=>hO (aS hp i)) (iY (dX vs []) [])
  |false=>eQ hp bf (dX vs []) []
 | .callv=>match vs with
  | .fn f caps::args=>match Mv.mv (zM f)with
   |true=>eQ hp bf ((iY (dX (gJ f caps (args.map norm)) []) []).flatMap fun i=>hO (aS hp i)) (iY (dX (gJ f caps (args.map norm)) []) [])
   |false=>eQ hp bf (dX vs []) []
  | .p (.fn f caps)::args=>match Mv.mv (zM f)with
   |true=>eQ hp bf ((iY (dX (gJ f (caps.map .p) (args.map norm)) []) []).flatMap fun i=>hO (aS hp i)) (iY (dX (gJ f (caps.map .p) (args.map norm)) []) [])
   |false=>eQ hp bf (dX vs []) []
  |vs=>eQ hp bf (dX vs []) []
 |o=>bB o vs hp
theorem Wd (o:O)(vs:List D)(hp:List Ob):rO o vs hp=dM o vs hp:=by
 cases o<;>first
  |rfl
  |(simp only[rO,dF,ed,mη,dM,bB];done)
  |(
    rename_i f raw;simp only[rO,dF,ed,mη,dM,mH];cases Mv.mv f<;>rfl)
  |(
    simp only[rO,dM,pp];split
    ·simp only[dF,ed,mη,mH];cases Mv.mv _<;>rfl
    ·simp only[dF,ed,mη,mH];cases Mv.mv _<;>rfl
    ·simp only[dF,ed,mη];rfl)
def Me (v:D)(k:D->R):R:=match v with
 | .p (.bool b)=>iL b (k (.p (.bool true))) (k (.p (.bool false)))
 |v=>k v
theorem Ra {v:D}{k:D->R}{X:R}(h:Le (k v) X):Le (Me v k) X:=by
 unfold Me;split
 ·rename_i b;cases b<;>exact h
 ·exact h
def WD (s:Bool)(v:D)(k:D->R):R:=match s with
 |true=>Me v k
 |false=>k v
theorem Rb {s:Bool}{v:D}{k:D->R}{X:R}(h:Le (k v) X):Le (WD s v k) X:=by
 cases s
 ·exact h
 ·exact Ra h
def Ā (d:Option Nat):List eT->Bool
 |[]=>false
 |x::r=>match d with
  |none=>false
  |some t=>(match x.gd with|some (g,_)=>Nat.beq g t|none=>false)||((match x.op,x.as with| .pick,.t g::_=>Nat.beq g t|_,_=>false)||Ā d r)
def qE (ids:LN)(hp:List Ob)(l:List (Nat×Ob)):List (Nat×Bool):=List.rec (motive:=fun _=>List (Nat×Bool)) [] (fun p _ ih=>(p.1,!(mY p.1 ids&&Mv.eq (aS hp p.1) p.2))::ih) l
theorem jf (ids:LN)(hp:List Ob):∀l,oo (qE ids hp l)=gW ids hp l
 |[]=>rfl
 |(i,o)::r=>by
  show(bif !(mY i ids&&Mv.eq (aS hp i) o)then i::oo (qE ids hp r)else oo (qE ids hp r))=_;rw[jf ids hp r];simp only[gW];cases mY i ids&&Mv.eq (aS hp i) o<;>rfl
def KO (a b:List Ob):Bool:= @decide (a=b) (Classical.propDecidable _)
theorem Vf (a:List Ob):KO a a=true:=by unfold KO;exact @lκ _ (Classical.propDecidable _) rfl
def Gy (ids:LN):List (Nat×Ob)->Bool
 |[]=>true
 |p::r=>mY p.1 ids&&Gy ids r
theorem qF {f:Nat}(hf:Mv.sm f=true)(ids:LN)(hp:List Ob):∀l:List (Nat×Ob),Gy ids l=true->l.map (fun p=>aS hp p.1)=l.map (·.2)->gW ids hp l=[]
 |[],_,_=>rfl
 |(i,o)::r,h1,h2=>by
  simp only[Gy,lγ]at h1;simp only[List.map_cons,lω]at h2;simp only[gW,h1.1,h2.1,Mv.rf f hf,Bool.and_self,cond_true];exact qF hf ids hp r h1.2 h2.2
def smL (o:O)(vs:List D)(ids:LN)(hp:List Ob)(ups:List (Nat×Ob))(k:List (Nat×Bool)->R):R:=
 match o with
 | .call f _=>match Mv.sm f with
  |true=>iL (Gy ids ups) (iL (KO (ups.map fun p=>aS hp p.1) (ups.map (·.2))) (k []) none) none
  |false=>k (qE ids hp ups)
 | .callv=>match vs with
  | .fn f _::_=>match Mv.sm (zM f)with
   |true=>iL (Gy ids ups) (iL (KO (ups.map fun p=>aS hp p.1) (ups.map (·.2))) (k []) none) none
   |false=>k (qE ids hp ups)
  |_=>k (qE ids hp ups)
 |_=>k (qE ids hp ups)
theorem ϯ {o:O}{vs:List D}{ids:LN}{hp:List Ob}{ups:List (Nat×Ob)}{k:List (Nat×Bool)->R}{X:R}(h:∀l,oo l=gW ids hp ups->Le (k l) X):Le (smL o vs ids hp ups k) X:=by
 unfold smL;split
 ·split
  ·rename_i hf;refine Le.grd fun h1=>Le.grd fun h2=>h [] ?_
   unfold KO at h2;rw[qF hf ids hp ups h1 (@of_decide_eq_true _ (Classical.propDecidable _) h2)];rfl
  ·exact h _ (jf ids hp ups)
 ·split
  ·split
   ·rename_i hf;refine Le.grd fun h1=>Le.grd fun h2=>h [] ?_
    unfold KO at h2;rw[qF hf ids hp ups h1 (@of_decide_eq_true _ (Classical.propDecidable _) h2)];rfl
   ·exact h _ (jf ids hp ups)
  ·exact h _ (jf ids hp ups)
 ·exact h _ (jf ids hp ups)
def opL (dc:hR)(s:Bool)(cc:af)(base:Nat)(x:eT)(tm:Tm)(hp:List Ob)(k:D->List Ob->fM->R):R:=
 iL (!(ep x.op)||dw (aS hp (base+x.k)))
  (ł dc cc base x.op x.k (x.as.map (ev tm)) (rO x.op (x.as.map (ev tm)) hp) ((rO x.op (x.as.map (ev tm)) hp).map (aS hp)) hp.length fun v ups new=>WD s v fun v=>smL x.op (x.as.map (ev tm)) (rO x.op (x.as.map (ev tm)) hp) hp ups fun wl=>
   k v (grow (aw hp ups) new) ⟨bif ep x.op then(base+x.k)::rO x.op (x.as.map (ev tm)) hp else rO x.op (x.as.map (ev tm)) hp,wl,!new.isEmpty,hp.length⟩) none
def abp (tm:Tm)(hp:List Ob)(k:K):R:=k tm hp
def Ñ (dc:hR)(cc:af)(base:Nat):List eT->Tm->List Ob->List fM->(Tm->List Ob->List fM->R)->R
 |[],tm,hp,fs,k=>k tm hp fs.reverse
 |x::r,tm,hp,fs,k=>abp tm hp fun tm hp=>gdL x tm (opL dc (dc.spl||Ā x.dst r) cc base x tm hp fun v hp f=>Ñ dc cc base r (put x.dst v tm) hp (f::fs) k) (Ñ dc cc base r (put x.dst (.tup []) tm) hp (⟨[],[],false,0⟩::fs) k)
section
variable {dc:hR} (hd:dc.Ok) {cc:af} {call:aG} (hc:bE cc call) {base:Nat}
include hd hc
theorem Ϣ {s:Bool}{x:eT}{tm:Tm}{hp:List Ob}{k:D->List Ob->fM->R}{X:R}(h:∀v hp' fL,oZ call base x ⟨tm,hp⟩=some (⟨put x.dst v tm,hp'⟩,cP fL)->Le (k v hp' fL) X):Le (opL dc s cc base x tm hp k) X:=by
 unfold opL;refine Le.grd fun hm=>(X9 (fun _ _ _=>Le.refl _) hd hc _ _ _ _ _ _ _).trans ?_
 unfold df;refine Le.opt fun e he=>?_
 obtain⟨v,ups,new⟩:=e;refine Rb (ϯ fun wl hw=>h v _ _ ?_);simp only[Wd]at he hw ⊢
 simp only[oZ,hm,cond_true,he,cP,hw]
theorem D7:∀(ops:List eT) (tm:Tm) (hp:List Ob) (fs:List fM) (k:Tm->List Ob->List fM->R) (X:R),(∀tm' hp' fs',eR call base ops ⟨tm,hp⟩ (fs.map cP)=some (⟨tm',hp'⟩,fs'.map cP)->Le (k tm' hp' fs') X)->Le (Ñ dc cc base ops tm hp fs k) X
 |[],tm,hp,fs,k,X,h=>h _ _ _ (by simp only[eR,List.map_reverse])
 |x::r,tm,hp,fs,k,X,h=>by
  refine Η (fun hg=>Ϣ hd hc fun v hp' fL he=>D7 r _ _ _ _ _ fun tm' hp'' fs' hr=>h _ _ _ ?_) (fun hg=>D7 r _ _ _ _ _ fun tm' hp'' fs' hr=>h _ _ _ ?_)
  ·simp only[eR,hg,he];exact hr
  ·simp only[eR,hg];exact hr
end
theorem yb {call:aG}{base:Nat}:∀{ops:List eT} {st st':St} {fs fs':List eE},eR call base ops st fs=some (st',fs')->kO call base ops st=some st'
 |[],st,st',fs,fs',h=>by
  simp only[eR,lβ,lτ]at h;simp only[kO,h.1]
 |x::r,st,st',fs,fs',h=>by
  simp only[eR]at h;simp only[kO];split at h
  ·cases h
  ·split at h
   ·cases h
   ·exact yb h
  ·exact yb h
abbrev JJ:=Ex->Tm->List Ob->R
def m6 (o:Option (Ex×St))(J:JJ):R:=cL o fun p=>J p.1 p.2.tm p.2.hp
def u_ (J J':JJ):Prop:=∀ex tm hp,Le (J ex tm hp) (J' ex tm hp)
def W8 (ex:Ex)(n:R)(e:Nat->R)(r:R):R:=Ex.rec (motive:=fun _=>R) n (fun i=>e i) r ex
def aaD (dc:hR)(cc:af)(nal:Nat)(ops:List eT)(prs:Option (List (Nat×Nat)))(out:LN)(tm:Tm)(hp:List Ob)(J:JJ):R:=
 Ñ dc cc hp.length ops tm (grow hp (List.replicate nal .unborn)) [] fun tm hp fs=>match prs with
  |none=>J .norm (fD out id tm) hp
  |some ps=>iL (lu fs ps) (J .norm (fD out id tm) hp) none
variable {dc:hR} {cc:af}
theorem Ù (hd:dc.Ok){call:aG}(hc:bE cc call)(nal:Nat)(ops:List eT)(prs:Option (List (Nat×Nat)))(out:LN)(tm:Tm)(hp:List Ob){J J':JJ}(hJ:u_ J J')(n m:Nat):Le (aaD dc cc nal ops prs out tm hp J) (m6 (ce call n m (.reg nal ops prs out) ⟨tm,hp⟩) J'):=by
 refine D7 hd hc _ _ _ _ _ _ fun tm' hp' fs' he=>?_
 split
 ·have h0:=yb he;simp only[ce,rk,h0,cL];exact hJ _ _ _
 ·refine Le.grd fun ha=>?_
  rw[mB]at ha;simp at he;simp only[ce,rk,he,ha,cL];exact hJ _ _ _
def NL (m:Nat)(live:LN)(tm:Tm)(hp:List Ob)(k:K):R:=
 k (fD live (gO (ji (eQ hp bf (dX (live.map (get tm)) (iK m hp)) (List.range m)))) tm) (mS (eQ hp bf (dX (live.map (get tm)) (iK m hp)) (List.range m)) hp)
theorem Dp (m:Nat)(live:LN)(tm:Tm)(hp:List Ob):∃st,eF m (.keep live) ⟨tm,hp⟩=some st/\∀k,NL m live tm hp k=k st.tm st.hp:=by
 refine⟨_,rfl,fun k=>?_⟩
 unfold NL;have e:gO (ji (eQ hp bf (dX (live.map (get tm)) (iK m hp)) (List.range m)))=mapD (idx (cF hp bf (dids.didsL (live.map (get tm))++(hp.take m).flatMap hO) (List.range m))):=by
  funext d
  rw[fW,jz,dF,ed,iA]
 rw[e,ka,dF,ed,iA]
def ghL (m:Nat)(g:Gh)(tm:Tm)(hp:List Ob)(k:K):R:=
 match g with
 | .keep live=>NL m live tm hp k
 |g=>cL (eF m g ⟨tm,hp⟩) fun st=>k st.tm st.hp
def WQ (s off:Nat)(tm:Tm)(hp:List Ob)(k:K):R:=
 match j_ ⟨tm,hp⟩ s off with
 | .box id o=>match aS hp id with
  | .box cs=>match cs[o+KY off]? with
   |some (.arr i _ _ _)=>match aS hp i with
    | .arr es=>k tm (jm hp i (.may false es))
    | .fz es=>k tm (jm hp i (.may true es))
    | .may b es=>iL b none (k tm (jm hp i (.arr es)))
    |_=>none
   |_=>none
  |_=>none
 |_=>none
theorem Oo (m s off:Nat)(tm:Tm)(hp:List Ob){k k':K}(hk:∀tm hp,Le (k tm hp) (k' tm hp)):Le (WQ s off tm hp k) (cL (eF m (.tog s off) ⟨tm,hp⟩) fun st=>k' st.tm st.hp):=by
 unfold WQ;split
 ·rename_i id o hs;split
  ·rename_i cs hcs;split
   ·rename_i i _ _ _ hd;split
    ·rename_i es ho;simp only[eF,hs,hcs,hd,ho];exact hk _ _
    ·rename_i es ho;simp only[eF,hs,hcs,hd,ho];exact hk _ _
    ·rename_i b es ho;simp only[eF,hs,hcs,hd,ho];cases b
     ·exact hk _ _
     ·exact Le.no _
    ·exact Le.no _
   ·exact Le.no _
  ·exact Le.no _
 ·exact Le.no _
def UC (d:D)(t e:R):R:=match d with| .p (.bool b)=>iL b t e|_=>none
abbrev dr:=Nat->Bool->Nat->LN->Co->Nat->Tm->List Ob->JJ->R
def ghD (lp:dr)(n m:Nat)(g:Gh)(c:Co)(p:Nat)(tm:Tm)(hp:List Ob)(J:JJ)(k:JJ->K):R:=
 match g with
 | .keep live=>lp p false m live c n tm hp J
 | .own s z=>ghL m (.own s z) tm hp (k J)
 | .ownc s o z=>ghL m (.ownc s o z) tm hp (k J)
 | .frz s=>ghL m (.frz s) tm hp (k J)
 | .frzc s o=>ghL m (.frzc s o) tm hp (k J)
 | .tog s o=>WQ s o tm hp (k J)
 | .pst s o=>k (fun ex tm hp=>WQ s o tm hp fun tm hp=>J ex tm hp) tm hp
 | .pfz s o=>k (fun ex tm hp=>ghL m (.frzc s o) tm hp fun tm hp=>J ex tm hp) tm hp
 | .pkp live=>k (fun ex tm hp=>NL m live tm hp fun tm hp=>J ex tm hp) tm hp
def tz (lp:dr)(dc:hR)(cc:af)(n m:Nat)(c:Co):Nat->Tm->List Ob->JJ->R:=
 Co.rec (motive:=fun _=>Nat->Tm->List Ob->JJ->R)
  (fun _ tm hp J=>J .norm tm hp)
  (fun nal ops prs out _ tm hp J=>aaD dc cc nal ops prs out tm hp J)
  (fun _ _ a b p tm hp J=>a (4*p+1) tm hp fun ex tm hp=>W8 ex (b (4*p+2) tm hp J) (fun i=>J (.exit i) tm hp) (J .ret tm hp))
  (fun x _ _ t e p tm hp J=>UC (ev tm x) (t (4*p+1) tm hp J) (e (4*p+2) tm hp J))
  (fun id _ b p tm hp J=>b (4*p+3) tm hp fun ex tm hp=>W8 ex (J .norm tm hp) (fun i=>iL (Nat.beq i id) (J .norm tm hp) (J (.exit i) tm hp)) (J .ret tm hp))
  (fun live b _ p tm hp J=>lp p true m live b n tm hp J)
  (fun id _ tm hp J=>J (.exit id) tm hp)
  (fun _ tm hp J=>J .ret tm hp)
  (fun g c b p tm hp J=>ghD lp n m g c p tm hp J fun J tm hp=>b (4*p+3) tm hp J)
  c
def cN:Co->Nat->List (Nat×LN×Co×Bool)
 | .seq a b,p=>cN a (4*p+1)++cN b (4*p+2)
 | .cond _ a b,p=>cN a (4*p+1)++cN b (4*p+2)
 | .block _ b,p=>cN b (4*p+3)
 | .loop live b,p=>[(p,live,b,true)]
 | .gh (.keep live) b,p=>[(p,live,b,false)]
 | .gh _ b,p=>cN b (4*p+3)
 |_,_=>[]
def aaA (live:LN)(b:Co)(k:Bool):Co:=match k with|true=> .loop live b|false=> .gh (.keep live) b
def bn (lp:dr)(call:aG)(n m:Nat)(e:Nat×LN×Co×Bool):Prop:=
 ∀tm hp J J',u_ J J'->Le (lp e.1 e.2.2.2 m e.2.1 e.2.2.1 n tm hp J) (m6 (ce call n m (aaA e.2.1 e.2.2.1 e.2.2.2) ⟨tm,hp⟩) J')
section
variable {lp:dr} {dc:hR} (hd:dc.Ok) {cc:af} {call:aG} (hc:bE cc call) {n m:Nat}
include hd hc
theorem eu:∀(c:Co) (p:Nat) (tm:Tm) (hp:List Ob) (J J':JJ),(∀e∈cN c p,bn lp call n m e)->u_ J J'->Le (tz lp dc cc n m c p tm hp J) (m6 (ce call n m c ⟨tm,hp⟩) J')
 | .skip,p,tm,hp,J,J',hl,hJ=>hJ _ _ _
 | .ret,p,tm,hp,J,J',hl,hJ=>hJ _ _ _
 | .exit i,p,tm,hp,J,J',hl,hJ=>hJ _ _ _
 | .reg nal ops prs out,p,tm,hp,J,J',hl,hJ=>Ù hd hc nal ops prs out tm hp hJ n m
 | .seq a b,p,tm,hp,J,J',hl,hJ=>by
  have hl1:∀e∈cN a (4*p+1),bn lp call n m e:=fun e he=>hl e (List.mem_append_left _ he)
  have hl2:∀e∈cN b (4*p+2),bn lp call n m e:=fun e he=>hl e (List.mem_append_right _ he)
  refine(eu a (4*p+1) tm hp _ (fun ex tm hp=>W8 ex (m6 (ce call n m b ⟨tm,hp⟩) J') (fun i=>J' (.exit i) tm hp) (J' .ret tm hp)) hl1 ?_).trans ?_
  ·intro ex tm hp;cases ex with
   |norm=>exact eu b (4*p+2) tm hp J J' hl2 hJ
   |exit i=>exact hJ _ _ _
   |ret=>exact hJ _ _ _
  ·simp only[ce,m6];cases ce call n m a ⟨tm,hp⟩with
   |none=>exact Le.no _
   |some q=>
    obtain⟨ex,st⟩:=q;cases ex<;>exact Le.refl _
 | .cond x t e,p,tm,hp,J,J',hl,hJ=>by
  have hl1:∀e∈cN t (4*p+1),bn lp call n m e:=fun e he=>hl e (List.mem_append_left _ he)
  have hl2:∀e'∈cN e (4*p+2),bn lp call n m e':=fun e' he=>hl e' (List.mem_append_right _ he)
  show Le (UC (ev tm x) (tz lp dc cc n m t (4*p+1) tm hp J) (tz lp dc cc n m e (4*p+2) tm hp J)) _;unfold UC;simp only[ce];split
  ·rename_i b hb;refine Le.two (fun h=>?_) (fun h=>?_)
   ·subst h;simp only[hb];exact eu t _ tm hp J J' hl1 hJ
   ·subst h;simp only[hb];exact eu e _ tm hp J J' hl2 hJ
  ·exact Le.no _
 | .block id b,p,tm,hp,J,J',hl,hJ=>by
  refine(eu b (4*p+3) tm hp _ (fun ex tm hp=>W8 ex (J' .norm tm hp) (fun i=>iL (Nat.beq i id) (J' .norm tm hp) (J' (.exit i) tm hp)) (J' .ret tm hp)) hl ?_).trans ?_
  ·intro ex tm hp;cases ex with
   |norm=>exact hJ _ _ _
   |exit i=>
    show Le (iL (Nat.beq i id) _ _) (iL (Nat.beq i id) _ _);cases Nat.beq i id<;>exact hJ _ _ _
   |ret=>exact hJ _ _ _
  ·simp only[ce,m6];cases ce call n m b ⟨tm,hp⟩with
   |none=>exact Le.no _
   |some q=>
    obtain⟨ex,st⟩:=q;cases ex with
    |norm=>exact Le.refl _
    |ret=>exact Le.refl _
    |exit i=>
     simp only[cL,W8];cases h:Nat.beq i id<;>simp<;>exact Le.refl _
 | .loop live b,p,tm,hp,J,J',hl,hJ=>hl (p,live,b,true) (lχ ..) tm hp J J' hJ
 | .gh (.keep live) b,p,tm,hp,J,J',hl,hJ=>hl (p,live,b,false) (lχ ..) tm hp J J' hJ
 | .gh (.own s z) b,p,tm,hp,J,J',hl,hJ=>by
  refine Le.opt fun st hs=>?_
  simp only[ce,hs];exact eu b (4*p+3) st.tm st.hp J J' hl hJ
 | .gh (.ownc s o z) b,p,tm,hp,J,J',hl,hJ=>by
  refine Le.opt fun st hs=>?_
  simp only[ce,hs];exact eu b (4*p+3) st.tm st.hp J J' hl hJ
 | .gh (.frz s) b,p,tm,hp,J,J',hl,hJ=>by
  refine Le.opt fun st hs=>?_
  simp only[ce,hs];exact eu b (4*p+3) st.tm st.hp J J' hl hJ
 | .gh (.frzc s o) b,p,tm,hp,J,J',hl,hJ=>by
  refine Le.opt fun st hs=>?_
  simp only[ce,hs];exact eu b (4*p+3) st.tm st.hp J J' hl hJ
 | .gh (.tog s o) b,p,tm,hp,J,J',hl,hJ=>by
  refine(Oo m s o tm hp (k':=fun tm hp=>m6 (ce call n m b ⟨tm,hp⟩) J') fun tm hp=>eu b (4*p+3) tm hp J J' hl hJ).trans ?_;refine Le.opt fun st hs=>?_
  simp only[ce,hs];exact Le.refl _
 | .gh (.pst s o) b,p,tm,hp,J,J',hl,hJ=>by
  show Le (tz lp dc cc n m b (4*p+3) tm hp fun ex tm hp=>WQ s o tm hp fun tm hp=>J ex tm hp) _;refine(eu b (4*p+3) tm hp _ (fun ex tm hp=>cL (eF m (.tog s o) ⟨tm,hp⟩) fun st=>J' ex st.tm st.hp) hl fun ex tm hp=>Oo m s o tm hp fun tm hp=>hJ ex tm hp).trans ?_
  have e:ce call n m (.gh (.pst s o) b) ⟨tm,hp⟩=yR m (.pst s o) (ce call n m b ⟨tm,hp⟩):=by simp only[ce,eF]
  rw[e];cases ce call n m b ⟨tm,hp⟩with
  |none=>exact Le.no _
  |some q=>
   obtain⟨ex,st⟩:=q;simp only[m6,yR,LM];show Le (cL (eF m (.tog s o) st) _) _;cases eF m (.tog s o) st<;>exact Le.refl _
 | .gh (.pfz s o) b,p,tm,hp,J,J',hl,hJ=>by
  show Le (tz lp dc cc n m b (4*p+3) tm hp fun ex tm hp=>cL (eF m (.frzc s o) ⟨tm,hp⟩) fun st=>J ex st.tm st.hp) _;refine(eu b (4*p+3) tm hp _ (fun ex tm hp=>cL (eF m (.frzc s o) ⟨tm,hp⟩) fun st=>J' ex st.tm st.hp) hl fun ex tm hp=>Le.opt fun st hs=>?_).trans ?_
  ·simp only[hs];exact hJ _ _ _
  have e:ce call n m (.gh (.pfz s o) b) ⟨tm,hp⟩=yR m (.pfz s o) (ce call n m b ⟨tm,hp⟩):=by simp only[ce,eF]
  rw[e];cases ce call n m b ⟨tm,hp⟩with
  |none=>exact Le.no _
  |some q=>
   obtain⟨ex,st⟩:=q;simp only[m6,yR,LM];show Le (cL (eF m (.frzc s o) st) _) _;cases eF m (.frzc s o) st<;>exact Le.refl _
 | .gh (.pkp live) b,p,tm,hp,J,J',hl,hJ=>by
  show Le (tz lp dc cc n m b (4*p+3) tm hp fun ex tm hp=>NL m live tm hp fun tm hp=>J ex tm hp) _;refine(eu b (4*p+3) tm hp _ (fun ex tm hp=>cL (eF m (.keep live) ⟨tm,hp⟩) fun st=>J' ex st.tm st.hp) hl fun ex tm hp=>?_).trans ?_
  ·obtain⟨st,h1,h2⟩:=Dp m live tm hp;rw[h2];show Le (J ex st.tm st.hp) (cL (eF m (.keep live) ⟨tm,hp⟩) fun st=>J' ex st.tm st.hp);rw[h1];exact hJ _ _ _
  have e:ce call n m (.gh (.pkp live) b) ⟨tm,hp⟩=yR m (.pkp live) (ce call n m b ⟨tm,hp⟩):=by simp only[ce,eF]
  rw[e];cases ce call n m b ⟨tm,hp⟩with
  |none=>exact Le.no _
  |some q=>
   obtain⟨ex,st⟩:=q;simp only[m6,yR,LM];exact Le.refl _
def itL {ST:Type}(S:(ST->R)->ST->R)(k:Nat)(st:ST):R:=Nat.rec (motive:=fun _=>ST->R) (fun _=>none) (fun _ ih st=>S ih st) k st
theorem NQ {ST:Type}{live:LN}{b:Co}{p:Nat}{dec:Tm->List Ob->(ST->R)->R}{tmO:ST->Tm}{hpO:ST->List Ob}{S:JJ->(ST->R)->ST->R}
  (hdec:∀tm hp (Y:ST->R) (X:K),(∀st,Le (Y st) (X (tmO st) (hpO st)))->Le (dec tm hp Y) (X tm hp))
  (hS:∀(J:JJ) (Y:ST->R) st,tz lp dc cc n m b p (tmO st) (hpO st) (fun ex tm hp=>W8 ex (NL m live tm hp fun tm hp=>dec tm hp Y) (fun i=>J (.exit i) tm hp) (J .ret tm hp))=S J Y st)
  (hin:∀e∈cN b p,bn lp call n m e) {J J':JJ} (hJ:u_ J J'):∀(k:Nat) (tm:Tm) (hp:List Ob),
  Le (NL m live tm hp fun tm hp=>dec tm hp fun st=>itL (S J) k st) (m6 (tU m (ce call n m b) live k ⟨tm,hp⟩) J')
 |0,tm,hp=>by
  obtain⟨st,_,h2⟩:=Dp m live tm hp;rw[h2];exact(hdec st.tm st.hp _ (fun _ _=>none) fun _=>Le.no _).trans (Le.no _)
 |k+1,tm,hp=>by
  obtain⟨st,h1,h2⟩:=Dp m live tm hp;rw[h2];have e:m6 (tU m (ce call n m b) live (k+1) ⟨tm,hp⟩) J'=m6 (ce call n m b st) (fun ex tm hp=>W8 ex (m6 (tU m (ce call n m b) live k ⟨tm,hp⟩) J') (fun i=>J' (.exit i) tm hp) (J' .ret tm hp)):=by
   simp only[tU,h1];cases ce call n m b st with
   |none=>rfl
   |some q=>
    obtain⟨ex,st'⟩:=q;cases ex<;>rfl
  rw[e];refine hdec st.tm st.hp _ (fun tm hp=>m6 (ce call n m b ⟨tm,hp⟩) _) fun s=>?_
  have e2:itL (S J) (k+1) s=S J (itL (S J) k) s:=rfl;rw[e2,<-hS];refine eu hd hc b p _ _ _ _ hin ?_;intro ex tm hp;cases ex with
  |norm=>exact NQ hdec hS hin hJ k tm hp
  |exit i=>exact hJ _ _ _
  |ret=>exact hJ _ _ _
end
def V1 {ST:Type}(q:Nat)(dec:Tm->List Ob->(ST->R)->R)(S:JJ->(ST->R)->ST->R)(lp:dr):dr:=fun p k m live b n tm hp J=>iL (Nat.beq p q) (NL m live tm hp fun tm hp=>dec tm hp fun st=>itL (S J) n st) (lp p k m live b n tm hp J)
def BM {ST:Type}(q:Nat)(dec:Tm->List Ob->(ST->R)->R)(S:JJ->ST->R)(lp:dr):dr:=fun p k m live b n tm hp J=>iL (Nat.beq p q) (NL m live tm hp fun tm hp=>dec tm hp fun st=>S J st) (lp p k m live b n tm hp J)
def c7:dr:=fun _ _ _ _ _ _ _ _ _=>none
variable {ST:Type} {q:Nat} {dec:Tm->List Ob->(ST->R)->R} {lp:dr} {m:Nat} {live:LN}
theorem QG {S:JJ->(ST->R)->ST->R}{call:aG}{n:Nat}{b:Co}(h:∀tm hp J J',u_ J J'->Le (NL m live tm hp fun tm hp=>dec tm hp fun st=>itL (S J) n st) (m6 (tU m (ce call n m b) live n ⟨tm,hp⟩) J')):bn (V1 q dec S lp) call n m (q,live,b,true):=by
 intro tm hp J J' hJ;have:V1 q dec S lp q true m live b n tm hp J=NL m live tm hp fun tm hp=>dec tm hp fun st=>itL (S J) n st:=by
  show iL (Nat.beq q q) _ _=_;rw[Nat.beq_refl];rfl
 rw[this];exact h tm hp J J' hJ
theorem lpCut_here {tmO:ST->Tm}{hpO:ST->List Ob}{S:JJ->ST->R}(hd:dc.Ok){call:aG}(hc:bE cc call){n:Nat}{b:Co}(hdec:∀tm hp (Y:ST->R) (X:K),(∀st,Le (Y st) (X (tmO st) (hpO st)))->Le (dec tm hp Y) (X tm hp))(hS:∀(J:JJ) st,tz lp dc cc n m b (4*q+3) (tmO st) (hpO st) J=S J st)(hin:∀e∈cN b (4*q+3),bn lp call n m e):bn (BM q dec S lp) call n m (q,live,b,false):=by
 intro tm hp J J' hJ;have:BM q dec S lp q false m live b n tm hp J=NL m live tm hp fun tm hp=>dec tm hp fun st=>S J st:=by
  show iL (Nat.beq q q) _ _=_;rw[Nat.beq_refl];rfl
 show Le (BM q dec S lp q false m live b n tm hp J) (m6 (ce call n m (.gh (.keep live) b) ⟨tm,hp⟩) J');rw[this];obtain⟨st,h1,h2⟩:=Dp m live tm hp;rw[h2];simp only[ce,h1];refine hdec st.tm st.hp _ (fun tm hp=>m6 (ce call n m b ⟨tm,hp⟩) J') fun s=>?_
 rw[<-hS];exact eu hd hc b _ _ _ _ _ hin hJ
theorem Lj {S:JJ->(ST->R)->ST->R}{call:aG}{n:Nat}{e:Nat×LN×Co×Bool}(hq:Nat.beq e.1 q=false)(h:bn lp call n m e):bn (V1 q dec S lp) call n m e:=by
 intro tm hp J J' hJ;have:V1 q dec S lp e.1 e.2.2.2 m e.2.1 e.2.2.1 n tm hp J=lp e.1 e.2.2.2 m e.2.1 e.2.2.1 n tm hp J:=by
  show iL (Nat.beq e.1 q) _ _=_;rw[hq];rfl
 rw[this];exact h tm hp J J' hJ
theorem HN {S:JJ->ST->R}{call:aG}{n:Nat}{e:Nat×LN×Co×Bool}(hq:Nat.beq e.1 q=false)(h:bn lp call n m e):bn (BM q dec S lp) call n m e:=by
 intro tm hp J J' hJ;have:BM q dec S lp e.1 e.2.2.2 m e.2.1 e.2.2.1 n tm hp J=lp e.1 e.2.2.2 m e.2.1 e.2.2.1 n tm hp J:=by
  show iL (Nat.beq e.1 q) _ _=_;rw[hq];rfl
 rw[this];exact h tm hp J J' hJ
def Zs (m:Nat)(fz:Bool)(res:List Rv)(tm:Tm)(hp:List Ob):R:=cL (j0 ⟨tm,hp⟩ res) fun ds=>Prod.rec (motive:=fun _=>R) (fun ds hp=>some (gO (ji (eQ hp bf (dX ds (iK m hp)) (List.range m))) (one ds),mS (eQ hp bf (dX ds (iK m hp)) (List.range m)) hp)) (bif fz then ru hp ds else(ds,hp))
def L7 (m:Nat)(lp:dr)(dc:hR)(cc:af)(n:Nat)(x:Fx)(args:List D)(hp:List Ob):R:=
 tz lp dc cc n m x.body 1 (eX args 0) hp fun ex tm hp'=>W8 ex (Zs m x.fz x.res tm hp') (fun _=>none) (Zs m x.fz x.res tm hp')
theorem Nx (m:Nat)(fz:Bool)(res:List Rv)(tm:Tm)(hp:List Ob):Zs m fz res tm hp=match j0 ⟨tm,hp⟩ res with
  |some ds=>some (gu m fz ds hp)
  |none=>none:=by
 unfold Zs;cases j0 ⟨tm,hp⟩ res with
 |none=>rfl
 |some ds=>
  simp only[cL,gu,fW,jz,dF,ed,iA,ka]
theorem Oc (hd:dc.Ok){call:aG}(hc:bE cc call){n:Nat}{x:Fx}{args:List D}{hp:List Ob}(hl:∀e∈cN x.body 1,bn lp call n m e):Le (L7 m lp dc cc n x args hp) (og m call n x args hp):=by
 unfold L7 og;refine(eu hd hc x.body 1 _ _ _ _ hl fun _ _ _=>Le.refl _).trans ?_;cases ce call n m x.body ⟨eX args 0,hp⟩with
 |none=>exact Le.no _
 |some q=>
  obtain⟨ex,st⟩:=q;cases ex with
  |norm=>exact Le.of_eq (Nx _ _ _ _ _)
  |ret=>exact Le.of_eq (Nx _ _ _ _ _)
  |exit i=>exact Le.no _
def cq (tab:Nat->Option Fn)(n:Nat):af:=fun f vs hp k=>cL (evFn tab n f vs hp) fun p=>k p.1 p.2
theorem Vi (tab:Nat->Option Fn)(n:Nat):bE (cq tab n) (evFn tab n):=by
 intro f vs hp k k' hk;unfold cq;cases evFn tab n f vs hp with
 |none=>exact Le.no _
 |some p=>exact hk _ _
variable {tab:Nat->Option Fn}
theorem ae {n f:Nat}{vs:List D}{hp:List Ob}{v:D}{out:List Ob}(h:evFn tab n f vs hp=some (v,out))(k:KV):cq tab n f vs hp k=k v out:=by
 unfold cq;rw[h];rfl
theorem aad {f n:Nat}{x:Fx}(hd:dc.Ok){args:List D}{hp:List Ob}{F:R}(hx:tab f=some (.code x))(hm:eH f args hp.length=m)(hl:∀e∈cN x.body 1,bn lp (evFn tab n) n m e)(h:L7 m lp dc (cq tab n) n x args hp=F):Le F (evFn tab (n+1) f args hp):=by
 subst h;have:evFn tab (n+1) f args hp=og m (evFn tab n) n x args hp:=by simp only[evFn,hx,hm]
 rw[this];exact Oc hd (Vi tab n) hl
end
section
variable [Mv]
structure Rd (T α:Type) where
 e:α->T
 d:T->(α->R)->R
 le:∀(x:T) (k:α->R) (Z:R),(∀a,x=e a->Le (k a) Z)->Le (d x k) Z
namespace Rd
variable {T α β:Type}
theorem ok (r:Rd T α)(x:T)(k:α->R)(X:T->R)(H:∀a,Le (k a) (X (r.e a))):Le (r.d x k) (X x):=r.le x k _ fun a q=>by simp_all
def rm (r:Rd T α)(f:α->β)(g:β->α)(h:∀a,g (f a)=a:=by exact fun _=>rfl):Rd T β where
 e b:=r.e (g b)
 d x k:=r.d x fun a=>k (f a)
 le x _ _ H:=r.le x _ _ fun a q=>H (f a) (by rw[h a];exact q)
def I (i:IntKind):Rd Da Int:=⟨fun n=> .int i n,aJ i,fun _ _ _=>bO⟩
def S:Rd Da (LN):=⟨fun s=> .str s,dG,fun _ _ _=>jw⟩
def B:Rd Da Bool:=⟨fun s=> .bool s,aE,fun _ _ _=>ly⟩
def L (z:Nat):Rd Da (LD):=⟨fun s=> .slice z s,cR z,fun _ _ _=>CV⟩
def M:Rd Da (LD×LD):=⟨fun s=> .map s.1 s.2,fun x k=>ũ x fun a b=>k (a,b),fun _ _ _ H=>Nj fun a b q=>H (a,b) q⟩
def X:Rd Da Da:=⟨fun x=>x,fun x k=>k x,fun x _ _ H=>H x rfl⟩
def K (i:IntKind)(c:Int):Rd Da Unit:=⟨fun _=> .int i c,fun x k=>ć i c x (k ()),fun _ _ _ H=>UH fun q=>H () q⟩
def C (c:Bool):Rd Da Unit:=⟨fun _=> .bool c,fun x k=>UE c x (k ()),fun _ _ _ H=>P5 fun q=>H () q⟩
def G (l:Rd (LD) α):Rd Da α:=⟨fun a=> .agg (l.e a),fun x k=>cp x fun cs=>l.d cs k,fun _ _ _ H=>vW fun cs q=>l.le cs _ _ fun a p=>H a (p▸q)⟩
def FP (f:Nat)(l:Rd (LD) α):Rd Da α:=⟨fun a=> .fn f (l.e a),fun x k=>dA f x fun cs=>l.d cs k,fun _ _ _ H=>vX fun cs q=>l.le cs _ _ fun a p=>H a (p▸q)⟩
def P (r:Rd Da α):Rd D α:=⟨fun a=> .p (r.e a),fun x k=>dP x fun y=>r.d y k,fun _ _ _ H=>lz fun y q=>r.le y _ _ fun a p=>H a (p▸q)⟩
def Bo (i o:Nat):Rd D Unit:=⟨fun _=> .box i o,fun x k=>Ŧ i o x (k ()),fun _ _ _ H=>Ni fun q=>H () q⟩
def Ar (i z:Nat):Rd D Nat:=⟨fun n=> .arr i 0 n z,cf i z,fun _ _ _=>iI⟩
def Mp (i:Nat):Rd D Unit:=⟨fun _=> .map i,fun x k=>g_ i x (k ()),fun _ _ _ H=>KH fun q=>H () q⟩
def Nl (z:Nat):Rd D Unit:=⟨fun _=> .sl .nil z [],fun x k=>dNl z x (k ()),fun _ _ _ H=>UI fun q=>H () q⟩
def Ex (z:Nat):Rd D (LD):=⟨fun es=> .sl .exact z es,dEx z,fun _ _ _=>ŧ⟩
def F (f:Nat)(l:Rd (List D) α):Rd D α:=⟨fun a=> .fn f (l.e a),fun x k=>dFn f x fun cs=>l.d cs k,fun _ _ _ H=>UG fun cs q=>l.le cs _ _ fun a p=>H a (p▸q)⟩
def Tu (l:Rd (List D) α):Rd D α:=⟨fun a=> .tup (l.e a),fun x k=>bQ x fun cs=>l.d cs k,fun _ _ _ H=>Nk fun cs q=>l.le cs _ _ fun a p=>H a (p▸q)⟩
def Ob (l:Rd (List D) α):Rd Go.Ab.Ob α:=⟨fun a=> .box (l.e a),fun x k=>dO x fun cs=>l.d cs k,fun _ _ _ H=>NX fun cs q=>l.le cs _ _ fun a p=>H a (p▸q)⟩
def Oa:Rd Go.Ab.Ob (LD):=⟨fun s=> .arr s,bL,fun _ _ _=>f3⟩
def Of:Rd Go.Ab.Ob (LD):=⟨fun s=> .fz s,oFz,fun _ _ _=>Lp⟩
def Om:Rd Go.Ab.Ob (LD×LD):=⟨fun s=> .map s.1 s.2,fun x k=>ϟ x fun a b=>k (a,b),fun _ _ _ H=>NY fun a b q=>H (a,b) q⟩
def Od:Rd Go.Ab.Ob Unit:=⟨fun _=> .dead,fun x k=>jb x (k ()),fun _ _ _ H=>yI fun q=>H () q⟩
def c (a:Rd T α)(r:Rd (List T) β):Rd (List T) (α×β):=⟨fun x=>a.e x.1::r.e x.2,fun l k=>aa l fun y t=>a.d y fun x=>r.d t fun z=>k (x,z),fun _ _ _ H=>bq fun y t q=>a.le y _ _ fun x p=>r.le t _ _ fun z s=>H (x,z) (by rw[q,p,s])⟩
def u (a:Rd T Unit)(r:Rd (List T) β):Rd (List T) β:=⟨fun x=>a.e ()::r.e x,fun l k=>aa l fun y t=>a.d y fun _=>r.d t k,fun _ _ _ H=>bq fun y t q=>a.le y _ _ fun x p=>r.le t _ _ fun z s=>H z (by rw[q,p,s])⟩
def n:Rd (List T) Unit:=⟨fun _=>[],fun l k=>ag l (k ()),fun _ _ _ H=>cE fun q=>H () q⟩
def t (s:Nat)(a:Rd D α)(r:Rd (Tm×List Go.Ab.Ob) β):Rd (Tm×List Go.Ab.Ob) (α×β):=⟨fun x=>(.cons s (a.e x.1) (r.e x.2).1,(r.e x.2).2),fun st k=>WH s st.1 fun y t=>a.d y fun x=>r.d (t,st.2) fun z=>k (x,z),fun _ _ _ H=>Jc fun y t q=>a.le y _ _ fun x p=>r.le (t,_) _ _ fun z s=>H (x,z) (Prod.ext (by rw[q,p,<-s]) (by rw[<-s]))⟩
def v (s:Nat)(a:Rd D Unit)(r:Rd (Tm×List Go.Ab.Ob) β):Rd (Tm×List Go.Ab.Ob) β:=⟨fun x=>(.cons s (a.e ()) (r.e x).1,(r.e x).2),fun st k=>WH s st.1 fun y t=>a.d y fun _=>r.d (t,st.2) k,fun _ _ _ H=>Jc fun y t q=>a.le y _ _ fun x p=>r.le (t,_) _ _ fun z s=>H z (Prod.ext (by rw[q,p,<-s]) (by rw[<-s]))⟩
def h (l:Rd (List Go.Ab.Ob) α):Rd (Tm×List Go.Ab.Ob) α:=⟨fun x=>(.nil,l.e x),fun st k=>aaK st.1 (l.d st.2 k),fun _ _ _ H=>à fun q=>l.le _ _ _ fun a p=>H a (Prod.ext q p)⟩
end Rd
abbrev eU:=Tm×List Ob
def bZ (c:Co)(p j:Nat):Co:=(((cN c p)[j]?).getD (0,[],.skip,true)).2.2.1
def uj (lp:dr)(call:aG)(n m:Nat):List (Nat×LN×Co×Bool)->Prop
 |[]=>True
 |e::r=>bn lp call n m e/\uj lp call n m r
theorem M2 {lp:dr}{call:aG}{n m:Nat}:∀{l l':List (Nat×LN×Co×Bool)},l=l'->uj lp call n m l'->∀e∈l,bn lp call n m e
 |_,[],rfl,_=>fun _ h=>by cases h
 |_,_::_,rfl,⟨g,r⟩=>fun e h=>by
  rcases mγ.1 h with rfl|h
  ·exact g
  ·exact M2 rfl r e h
theorem aO {lp:dr}{call:aG}{n m:Nat}:uj lp call n m []:=trivial
theorem bj {lp:dr}{call:aG}{n m:Nat}{e:Nat×LN×Co×Bool}{r:List (Nat×LN×Co×Bool)}(h:bn lp call n m e)(g:uj lp call n m r):uj lp call n m (e::r):=⟨h,g⟩
def ga {ST:Type}(q:Nat)(r:Rd eU ST)(S:JJ->(ST->R)->ST->R)(lp:dr):dr:=V1 q (fun tm hp Y=>r.d (tm,hp) Y) S lp
def pl (n:Nat)(k:Nat->R):R:=Nat.rec (motive:=fun _=>R) none (fun q _=>k q) n
def DG {ST:Type}(q:Nat)(r:Rd eU ST)(S:JJ->ST->R)(lp:dr):dr:=BM q (fun tm hp Y=>r.d (tm,hp) Y) S lp
section
variable {ST:Type} {q:Nat} {r:Rd eU ST} {lp:dr} {dc:hR} {cc:af} {call:aG} {n m:Nat} {live:LN} {b:Co}
theorem ϖ {S:JJ->(ST->R)->ST->R}(hd:dc.Ok)(hc:bE cc call)
  (hS:∀(J:JJ) (Y:ST->R) st,tz lp dc cc n m b q (r.e st).1 (r.e st).2 (fun ex tm hp=>W8 ex (NL m live tm hp fun tm hp=>r.d (tm,hp) Y) (fun i=>J (.exit i) tm hp) (J .ret tm hp))=S J Y st)
  (hin:∀e∈cN b q,bn lp call n m e):bn (ga q r S lp) call n m (q,live,b,true):=
 QG fun tm hp _ _ hJ=>NQ (tmO:=fun st=>(r.e st).1) (hpO:=fun st=>(r.e st).2) hd hc (fun tm hp Y X h=>r.ok (tm,hp) Y (fun st=>X st.1 st.2) h) hS hin hJ n tm hp
theorem Ϙ {S:JJ->ST->R}(hd:dc.Ok)(hc:bE cc call)
  (hS:∀(J:JJ) st,tz lp dc cc n m b (4*q+3) (r.e st).1 (r.e st).2 J=S J st)
  (hin:∀e∈cN b (4*q+3),bn lp call n m e):bn (DG q r S lp) call n m (q,live,b,false):=
 lpCut_here (tmO:=fun st=>(r.e st).1) (hpO:=fun st=>(r.e st).2) hd hc (fun tm hp Y X h=>r.ok (tm,hp) Y (fun st=>X st.1 st.2) h) hS hin
theorem ϗ {S:JJ->(ST->R)->ST->R}{e:Nat×LN×Co×Bool}(hq:Nat.beq e.1 q=false)(h:bn lp call n m e):bn (ga q r S lp) call n m e:=Lj hq h
theorem ϙ {S:JJ->ST->R}{e:Nat×LN×Co×Bool}(hq:Nat.beq e.1 q=false)(h:bn lp call n m e):bn (DG q r S lp) call n m e:=HN hq h
end
end
section
variable [Mv]
theorem aN (t e:R):iL true t e=t:=rfl
theorem aX (t e:R):iL false t e=e:=rfl
theorem lC (b:Bool)(t e:R):iL b t e=if b=true then t else e:=by cases b<;>rfl
theorem mJ (p:Prop)[Decidable p](t e:R):iL (!decide p) t e=if p then e else t:=by
 rw[lC];by_cases h:p<;>simp[h]
variable {α:Type}
theorem bw (x:α)(k:α->R):cL (some x) k=k x:=rfl
theorem be {β:Type}(f:α->β)(o:Option α)(k:β->R):cL (o.map f) k=cL o fun x=>k (f x):=by cases o<;>rfl
theorem LH (e:R)(k:Nat->R):qw none e k=e:=rfl
theorem hM:∀a b:LN,cM a b=decide (a=b)
 |[],[]=>by simp[cM]
 |[],_::_=>by simp[cM]
 |_::_,[]=>by simp[cM]
 |x::a,y::b=>by
  simp only[cM,hM a b];rw[mι];cases h:Nat.beq x y
  ·have:x≠y:=fun e=>by rw[e,Nat.beq_refl]at h;cases h
   simp[this]
  ·have:=lν h;simp[this]
theorem cV {n:Int}(h1: -9223372036854775808<=n)(h2:n<9223372036854775808):ab .i64 n=n:=by
 cases n with
 |ofNat m=>
  have:Nat.blt m 9223372036854775808=true:=by rw[Nat.blt_eq];exact Int.ofNat_lt.mp h2
  simp only[ab,this,cond_true]
 |negSucc m=>
  have:Nat.blt m 9223372036854775808=true:=by rw[Nat.blt_eq];omega
  simp only[ab,this,cond_true]
def dK {α:Type}(l:List α)(i:Int):Option α:=if 0<=i then l[i.toNat]? else none
theorem aU (f:α->Da)(l:List α)(i:Int):bI (l.map f) i=(dK l i).map f:=by
 unfold bI dK;rw[bk];by_cases h:0<=i<;>simp[h]
theorem qX (l:List α)(j:Nat):dK l (j:Int)=l[j]?:=by simp[dK]
theorem bh {l:List α}{j:Nat}(h:j<l.length):dK l (j:Int)=some l[j]:=by rw[qX,lη h]
theorem bV (i:IntKind)(n:Int)(k:Int->R):aJ i (.int i n) k=k n:=by cases i<;>rfl
theorem jZ (s:LN)(k:LN->R):dG (.str s) k=k s:=rfl
theorem aL (b:Bool)(k:Bool->R):aE (.bool b) k=k b:=rfl
theorem mX (z:Nat)(es:LD)(k:LD->R):cR z (.slice z es) k=k es:=by
 show iL (Nat.beq z z) _ _=_;rw[Nat.beq_refl];rfl
theorem UD (cs:LD)(k:LD->R):cp (.agg cs) k=k cs:=rfl
theorem ba (x:Da)(k:Da->R):dP (.p x) k=k x:=rfl
theorem dB (ds:List D)(k:List D->R):bQ (.tup ds) k=k ds:=rfl
theorem aY (x:α)(l:List α)(k:α->List α->R):aa (x::l) k=k x l:=rfl
theorem aC (k:R):ag ([]:List α) k=k:=rfl
theorem BL {α:Type}(xs:List α)(L:Nat->Int->R)(p:α->Bool)(hit:Nat->R)(out:R)
  (hs:∀q i (h:i<xs.length),L (q+1) (i:Int)=if p xs[i]=true then hit i else L q ((i+1:Nat):Int)) (he:∀q,L (q+1) (xs.length:Int)=out):
  ∀(d q i:Nat),i+d=xs.length->d<q->L q (i:Int)=match (xs.drop i).findIdx? p with|some j=>hit (i+j)|none=>out
 |0,q+1,i,h,_=>by
  obtain rfl:i=xs.length:=by omega
  rw[List.drop_length];exact he q
 |d+1,q+1,i,h,hq=>by
  have hi:i<xs.length:=by omega
  rw[hs q i hi,mμ hi,qη];cases hp:p xs[i]
  ·simp only[Bool.false_eq_true,if_false];rw[BL xs L p hit out hs he d q (i+1) (by omega) (by omega)];cases(xs.drop (i+1)).findIdx? p with
   |none=>rfl
   |some j=>simp only[Option.map_some];rw[show i+1+j=i+(j+1) by omega]
  ·simp only[if_true,Nat.add_zero]
theorem br (xs:List α)(L:Nat->Int->R)(p:α->Bool)(hit:Nat->R)(out:R)(hs:∀q i (h:i<xs.length),L (q+1) (i:Int)=if p xs[i]=true then hit i else L q ((i+1:Nat):Int))(he:∀q,L (q+1) (xs.length:Int)=out){q:Nat}(hq:xs.length<q):
  L q 0=match xs.findIdx? p with|some j=>hit j|none=>out:=by
 have:=BL xs L p hit out hs he xs.length q 0 (by omega) hq;simpa using this
end
end
end Go.Ab
