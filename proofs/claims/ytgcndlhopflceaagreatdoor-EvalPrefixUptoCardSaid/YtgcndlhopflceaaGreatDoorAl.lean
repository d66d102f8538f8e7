import Derived.Test.YtgcndlhopflceaaGreatDoorAm3
set_option linter.all false
namespace Go.Ab
open Go
noncomputable section
section
def Le (a b:R):Prop:=∀r,a=some r->b=some r
theorem Le.refl (a:R):Le a a:=fun _ h=>h
theorem Le.no (b:R):Le none b:=fun _ h=>by cases h
theorem Le.trans {a b c:R}(h:Le a b)(g:Le b c):Le a c:=fun r e=>g r (h r e)
theorem Le.of_eq {a b:R}(h:a=b):Le a b:=by rw[h];exact Le.refl b
def iL (b:Bool)(t e:R):R:=Bool.rec (motive:=fun _=>R) e t b
def cL {α:Type}(o:Option α)(k:α->R):R:=Option.rec (motive:=fun _=>R) none (fun x=>k x) o
theorem Le.grd {b:Bool}{t t':R}(h:b=true->Le t t'):Le (iL b t none) t':=by
 cases b
 ·exact Le.no _
 ·exact h rfl
theorem Le.two {b:Bool}{t e x:R}(h:b=true->Le t x)(g:b=false->Le e x):Le (iL b t e) x:=by
 cases b
 ·exact g rfl
 ·exact h rfl
variable {α:Type}
theorem Le.opt {o:Option α}{k:α->R}{x:R}(h:∀a,o=some a->Le (k a) x):Le (cL o k) x:=by
 cases o
 ·exact Le.no _
 ·exact h _ rfl
def bg (i:IntKind)(x:Da)(k:Int->R):R:=match x with| .int j n=>iL (Nat.beq (kc j) (kc i)) (k n) none|_=>none
def ja (x:Da)(k:LN->R):R:=match x with| .str s=>k s|_=>none
def aB (x:Da)(k:Bool->R):R:=match x with| .bool b=>k b|_=>none
def DE (z:Nat)(x:Da)(k:LD->R):R:=match x with| .slice y es=>iL (Nat.beq y z) (k es) none|_=>none
def HV (x:Da)(k:LD->R):R:=match x with| .agg cs=>k cs|_=>none
def yG (x:Da)(k:LD->LD->R):R:=match x with| .map ks vs=>k ks vs|_=>none
def aJ {α:Type}(l:List α)(k:α->List α->R):R:=match l with|x::r=>k x r|[]=>none
def aj {α:Type}(l:List α)(k:R):R:=match l with|_::_=>none|[]=>k
def dP (d:D)(k:Da->R):R:=match d with| .p x=>k x|_=>none
def ba (d:D)(k:List D->R):R:=match d with| .tup ds=>k ds|_=>none
def wu (id off:Nat)(d:D)(k:R):R:=match d with| .box i o=>iL (Nat.beq i id) (iL (Nat.beq o off) k none) none|_=>none
def AN (id z:Nat)(d:D)(k:Nat->R):R:=match d with| .arr i lo len y=>iL (Nat.beq i id) (iL (Nat.beq lo 0) (iL (Nat.beq y z) (k len) none) none) none|_=>none
def gt (id z:Nat)(d:D)(k:Nat->Nat->R):R:=match d with| .arr i lo len y=>iL (Nat.beq i id) (iL (Nat.beq y z) (k lo len) none) none|_=>none
def dMp (id:Nat)(d:D)(k:R):R:=match d with| .map i=>iL (Nat.beq i id) k none|_=>none
def dNl (z:Nat)(d:D)(k:R):R:=match d with| .sl .nil y []=>iL (Nat.beq y z) k none|_=>none
def dEx (z:Nat)(d:D)(k:LD->R):R:=match d with| .sl .exact y es=>iL (Nat.beq y z) (k es) none|_=>none
def dFn (f:Nat)(d:D)(k:List D->R):R:=match d with| .fn g cs=>iL (Nat.beq g f) (k cs) none|_=>none
def wK (o:Ob)(k:List D->R):R:=match o with| .box cs=>k cs|_=>none
def f6 (o:Ob)(k:LD->R):R:=match o with| .arr es=>k es|_=>none
def oFz (o:Ob)(k:LD->R):R:=match o with| .fz es=>k es|_=>none
def r_ (o:Ob)(k:LD->LD->R):R:=match o with| .map ks vs=>k ks vs|_=>none
def aaW (o:Ob)(k:LD->LD->R):R:=match o with| .fzm ks vs=>k ks vs|_=>none
def aaV (o:Ob)(k:LD->R):R:=match o with| .byt es=>k es|_=>none
def s_ (o:Ob)(k:Bool->LD->R):R:=match o with| .may b es=>k b es|_=>none
def ŉ (o:Ob)(k:R):R:=match o with| .dead=>k|_=>none
def HX (i:IntKind)(c:Int)(x:Da)(k:R):R:=match x with| .int j n=>iL (Nat.beq (kc j) (kc i)) (iL (az n c) k none) none|_=>none
def Wa (c:Bool)(x:Da)(k:R):R:=match x,c with| .bool true,true=>k| .bool false,false=>k|_,_=>none
def V9 (d:D)(k:List D->R):R:=match d with| .agg cs=>k cs|_=>none
def LR (id off:Nat)(d:D)(k:Nat->R):R:=match d with| .el i n o=>iL (Nat.beq i id) (iL (Nat.beq o off) (k n) none) none|_=>none
def dNp (x:Da)(k:R):R:=match x with| .nilptr=>k|_=>none
def We (x:Da)(k:R):R:=match x with| .nilmap=>k|_=>none
def Χ (f:Nat)(x:Da)(k:LD->R):R:=match x with| .fn g cs=>iL (Nat.beq g f) (k cs) none|_=>none
def Yi (s:Nat)(tm:Tm)(k:D->Tm->R):R:=match tm with| .cons t d r=>iL (Nat.beq t s) (k d r) none| .nil=>none
def abc (tm:Tm)(k:R):R:=match tm with| .cons _ _ _=>none| .nil=>k
section
variable {x:Da} {d:D} {o:Ob} {tm:Tm} {z:Nat} {Z:R}
theorem Xl {i j:IntKind}(h:Nat.beq (kc j) (kc i)=true):j=i:=by
 rw[Xk,lε]at h;exact h
theorem WK {a b:Int}(h:az a b=true):a=b:=by
 cases a<;>cases b<;>simp only[az,Bool.false_eq_true]at h;all_goals simp_all
theorem c5 {i:IntKind}{k:Int->R}(h:∀n,x= .int i n->Le (k n) Z):Le (bg i x k) Z:=by
 cases x<;>first|exact Le.no _|skip
 exact Le.grd fun e0=>h _ (by rw[Xl e0])
theorem jw {k:LN->R}(h:∀s,x= .str s->Le (k s) Z):Le (ja x k) Z:=by
 cases x<;>first|exact Le.no _|exact h _ rfl
theorem rG {k:Bool->R}(h:∀s,x= .bool s->Le (k s) Z):Le (aB x k) Z:=by
 cases x<;>first|exact Le.no _|exact h _ rfl
theorem uv {k:LD->R}(h:∀s,x= .slice z s->Le (k s) Z):Le (DE z x k) Z:=by
 cases x<;>first|exact Le.no _|skip
 exact Le.grd fun e0=>h _ (by simp_all)
theorem DC {k:LD->R}(h:∀s,x= .agg s->Le (k s) Z):Le (HV x k) Z:=by
 cases x<;>first|exact Le.no _|exact h _ rfl
theorem xa {k:LD->LD->R}(h:∀s t,x= .map s t->Le (k s t) Z):Le (yG x k) Z:=by
 cases x<;>first|exact Le.no _|exact h _ _ rfl
theorem aZ {l:List α}{k:α->List α->R}(h:∀a r,l=a::r->Le (k a r) Z):Le (aJ l k) Z:=by
 cases l<;>first|exact Le.no _|exact h _ _ rfl
theorem bT {l:List α}{k:R}(h:l=[]->Le k Z):Le (aj l k) Z:=by
 cases l<;>first|exact Le.no _|exact h rfl
theorem jk {k:Da->R}(h:∀y,d= .p y->Le (k y) Z):Le (dP d k) Z:=by
 cases d<;>first|exact Le.no _|exact h _ rfl
theorem xb {k:List D->R}(h:∀y,d= .tup y->Le (k y) Z):Le (ba d k) Z:=by
 cases d<;>first|exact Le.no _|exact h _ rfl
variable {id:Nat}
theorem k7 {off:Nat}{k:R}(h:d= .box id off->Le k Z):Le (wu id off d k) Z:=by
 cases d<;>first|exact Le.no _|skip
 exact Le.grd fun e0=>Le.grd fun e1=>h (by simp_all)
theorem rE {k:Nat->R}(h:∀len,d= .arr id 0 len z->Le (k len) Z):Le (AN id z d k) Z:=by
 cases d<;>first|exact Le.no _|skip
 exact Le.grd fun e0=>Le.grd fun e1=>Le.grd fun e2=>h _ (by simp_all)
theorem yE {k:Nat->Nat->R}(h:∀lo len,d= .arr id lo len z->Le (k lo len) Z):Le (gt id z d k) Z:=by
 cases d<;>first|exact Le.no _|skip
 exact Le.grd fun e0=>Le.grd fun e1=>h _ _ (by simp_all)
theorem LS {k:R}(h:d= .map id->Le k Z):Le (dMp id d k) Z:=by
 cases d<;>first|exact Le.no _|skip
 exact Le.grd fun e0=>h (by simp_all)
theorem Wd {k:R}(h:d= .sl .nil z []->Le k Z):Le (dNl z d k) Z:=by
 unfold dNl;split
 ·exact Le.grd fun e=>h (by simp_all)
 ·exact Le.no _
theorem Φ {k:LD->R}(h:∀es,d= .sl .exact z es->Le (k es) Z):Le (dEx z d k) Z:=by
 unfold dEx;split
 ·exact Le.grd fun e=>h _ (by simp_all)
 ·exact Le.no _
theorem Wc {f:Nat}{k:List D->R}(h:∀es,d= .fn f es->Le (k es) Z):Le (dFn f d k) Z:=by
 cases d<;>first|exact Le.no _|skip
 exact Le.grd fun e0=>h _ (by simp_all)
theorem gQ {k:List D->R}(h:∀y,o= .box y->Le (k y) Z):Le (wK o k) Z:=by
 cases o<;>first|exact Le.no _|exact h _ rfl
theorem pq {k:LD->R}(h:∀y,o= .arr y->Le (k y) Z):Le (f6 o k) Z:=by
 cases o<;>first|exact Le.no _|exact h _ rfl
theorem q_ {k:LD->R}(h:∀y,o= .fz y->Le (k y) Z):Le (oFz o k) Z:=by
 cases o<;>first|exact Le.no _|exact h _ rfl
theorem PC {k:LD->LD->R}(h:∀s t,o= .map s t->Le (k s t) Z):Le (r_ o k) Z:=by
 cases o<;>first|exact Le.no _|exact h _ _ rfl
theorem Ć {k:LD->LD->R}(h:∀s t,o= .fzm s t->Le (k s t) Z):Le (aaW o k) Z:=by
 cases o<;>first|exact Le.no _|exact h _ _ rfl
theorem ą {k:LD->R}(h:∀y,o= .byt y->Le (k y) Z):Le (aaV o k) Z:=by
 cases o<;>first|exact Le.no _|exact h _ rfl
theorem PD {k:Bool->LD->R}(h:∀b y,o= .may b y->Le (k b y) Z):Le (s_ o k) Z:=by
 cases o<;>first|exact Le.no _|exact h _ _ rfl
theorem XW {k:R}(h:o= .dead->Le k Z):Le (ŉ o k) Z:=by
 cases o<;>first|exact Le.no _|exact h rfl
theorem HY {i:IntKind}{c:Int}{k:R}(h:x= .int i c->Le k Z):Le (HX i c x k) Z:=by
 cases x<;>first|exact Le.no _|skip
 exact Le.grd fun e0=>Le.grd fun e1=>h (by rw[Xl e0,WK e1])
theorem RM {c:Bool}{k:R}(h:x= .bool c->Le k Z):Le (Wa c x k) Z:=by
 cases x<;>first|exact Le.no _|skip
 rename_i b;cases b<;>cases c<;>first|exact Le.no _|exact h rfl
theorem OJ {k:List D->R}(h:∀y,d= .agg y->Le (k y) Z):Le (V9 d k) Z:=by
 cases d<;>first|exact Le.no _|exact h _ rfl
theorem Wb {off:Nat}{k:Nat->R}(h:∀n,d= .el id n off->Le (k n) Z):Le (LR id off d k) Z:=by
 cases d<;>first|exact Le.no _|skip
 exact Le.grd fun e0=>Le.grd fun e1=>h _ (by simp_all)
theorem Wf {k:R}(h:x= .nilptr->Le k Z):Le (dNp x k) Z:=by
 cases x<;>first|exact Le.no _|exact h rfl
theorem DD {k:R}(h:x= .nilmap->Le k Z):Le (We x k) Z:=by
 cases x<;>first|exact Le.no _|exact h rfl
theorem OL {f:Nat}{k:LD->R}(h:∀es,x= .fn f es->Le (k es) Z):Le (Χ f x k) Z:=by
 cases x<;>first|exact Le.no _|skip
 exact Le.grd fun e0=>h _ (by simp_all)
theorem Ke {s:Nat}{k:D->Tm->R}(h:∀d r,tm= .cons s d r->Le (k d r) Z):Le (Yi s tm k) Z:=by
 cases tm<;>first|exact Le.no _|skip
 exact Le.grd fun e=>h _ _ (by simp_all)
theorem Ė {k:R}(h:tm= .nil->Le k Z):Le (abc tm k) Z:=by
 cases tm<;>first|exact Le.no _|exact h rfl
end
mutual
def eZ:Da->Da->(Da->R)->R
 | .int i _,x,k=>bg i x fun n=>k (.int i n)
 | .str _,x,k=>ja x fun s=>k (.str s)
 | .bool _,x,k=>aB x fun b=>k (.bool b)
 | .slice z _,x,k=>DE z x fun l=>k (.slice z l)
 | .map _ _,x,k=>yG x fun a b=>k (.map a b)
 | .agg cs,x,k=>HV x fun ds=>sC cs ds fun es=>k (.agg es)
 | .nilptr,x,k=>dNp x (k .nilptr)
 | .nilmap,x,k=>We x (k .nilmap)
 |_,x,k=>k x
def sC:LD->LD->(LD->R)->R
 |[],l,k=>aj l (k [])
 |s::r,l,k=>aJ l fun x t=>eZ s x fun x=>sC r t fun t=>k (x::t)
end
mutual
def j4:D->D->(D->R)->R
 | .p s,d,k=>dP d fun x=>eZ s x fun x=>k (.p x)
 | .box i o,d,k=>wu i o d (k (.box i o))
 | .arr i 0 _ z,d,k=>AN i z d fun n=>k (.arr i 0 n z)
 | .map i,d,k=>dMp i d (k (.map i))
 | .sl .nil z [],d,k=>dNl z d (k (.sl .nil z []))
 | .fn f cs,d,k=>dFn f d fun ds=>qQ cs ds fun es=>k (.fn f es)
 | .agg cs,d,k=>V9 d fun ds=>qQ cs ds fun es=>k (.agg es)
 |_,d,k=>k d
def qQ:List D->List D->(List D->R)->R
 |[],l,k=>aj l (k [])
 |s::r,l,k=>aJ l fun x t=>j4 s x fun x=>qQ r t fun t=>k (x::t)
end
def Xu (s o:Ob)(k:Ob->R):R:=
 match s with
 | .box cs=>wK o fun ds=>qQ cs ds fun es=>k (.box es)
 | .arr _=>f6 o fun l=>k (.arr l)
 | .fz _=>oFz o fun l=>k (.fz l)
 | .byt _=>aaV o fun l=>k (.byt l)
 | .may _ _=>s_ o fun b l=>k (.may b l)
 | .map _ _=>r_ o fun a b=>k (.map a b)
 | .fzm _ _=>aaW o fun a b=>k (.fzm a b)
 | .dead=>ŉ o (k .dead)
 |_=>k o
def Mw:List Ob->List Ob->(List Ob->R)->R
 |[],l,k=>aj l (k [])
 |s::r,l,k=>aJ l fun x t=>Xu s x fun x=>Mw r t fun t=>k (x::t)
mutual
theorem Cq:∀(s x:Da) {k:Da->R} {Z:R},Le (k x) Z->Le (eZ s x k) Z
 | .int i _,x,k,Z,h=>by simp only[eZ];exact c5 fun n e=>by subst e;exact h
 | .str _,x,k,Z,h=>by simp only[eZ];exact jw fun n e=>by subst e;exact h
 | .bool _,x,k,Z,h=>by simp only[eZ];exact rG fun n e=>by subst e;exact h
 | .slice z _,x,k,Z,h=>by simp only[eZ];exact uv fun n e=>by subst e;exact h
 | .map _ _,x,k,Z,h=>by simp only[eZ];exact xa fun a b e=>by subst e;exact h
 | .agg cs,x,k,Z,h=>by simp only[eZ];exact DC fun ds e=>by subst e;exact zl cs ds h
 | .nilptr,x,k,Z,h=>by simp only[eZ];exact Wf fun e=>by subst e;exact h
 | .ptr _,x,k,Z,h=>by simp only[eZ];exact h
 | .nilmap,x,k,Z,h=>by simp only[eZ];exact DD fun e=>by subst e;exact h
 | .fn _ _,x,k,Z,h=>by simp only[eZ];exact h
 | .nilfn,x,k,Z,h=>by simp only[eZ];exact h
 | .iface _ _,x,k,Z,h=>by simp only[eZ];exact h
 | .nilif,x,k,Z,h=>by simp only[eZ];exact h
 | .sliceE _ _,x,k,Z,h=>by simp only[eZ];exact h
 | .sym _ _,x,k,Z,h=>by simp only[eZ];exact h
theorem zl:∀(s l:LD) {k:LD->R} {Z:R},Le (k l) Z->Le (sC s l k) Z
 |[],l,k,Z,h=>by simp only[sC];exact bT fun e=>by subst e;exact h
 |s::r,l,k,Z,h=>by simp only[sC];exact aZ fun x t e=>by subst e;exact Cq s x (zl r t h)
end
mutual
theorem Xt:∀(s d:D) {k:D->R} {Z:R},Le (k d) Z->Le (j4 s d k) Z
 | .p s,d,k,Z,h=>by simp only[j4];exact jk fun n e=>by subst e;exact Cq s n h
 | .box i o,d,k,Z,h=>by simp only[j4];exact k7 fun e=>by subst e;exact h
 | .arr i 0 _ z,d,k,Z,h=>by simp only[j4];exact rE fun n e=>by subst e;exact h
 | .arr i (_+1) _ z,d,k,Z,h=>by simp only[j4];exact h
 | .map i,d,k,Z,h=>by simp only[j4];exact LS fun e=>by subst e;exact h
 | .sl g z es,d,k,Z,h=>by
  unfold j4;split<;>first
   |contradiction
   |exact h
   |(rename_i e;cases e;exact Wd fun e=>by subst e;exact h)
 | .fn f cs,d,k,Z,h=>by simp only[j4];exact Wc fun ds e=>by subst e;exact po cs ds h
 | .agg cs,d,k,Z,h=>by simp only[j4];exact OJ fun ds e=>by subst e;exact po cs ds h
 | .tup _,d,k,Z,h=>by simp only[j4];exact h
 | .el _ _ _,d,k,Z,h=>by simp only[j4];exact h
 | .ip _ _,d,k,Z,h=>by simp only[j4];exact h
 | .iface _ _,d,k,Z,h=>by simp only[j4];exact h
 | .junk,d,k,Z,h=>by simp only[j4];exact h
theorem po:∀(s l:List D) {k:List D->R} {Z:R},Le (k l) Z->Le (qQ s l k) Z
 |[],l,k,Z,h=>by simp only[qQ];exact bT fun e=>by subst e;exact h
 |s::r,l,k,Z,h=>by simp only[qQ];exact aZ fun x t e=>by subst e;exact Xt s x (po r t h)
end
variable {Z:R}
theorem Sq (s o:Ob){k:Ob->R}(h:Le (k o) Z):Le (Xu s o k) Z:=by
 cases s<;>first
  |exact h
  |exact gQ fun ds e=>by subst e;exact po _ ds h
  |exact pq fun n e=>by subst e;exact h
  |exact q_ fun n e=>by subst e;exact h
  |exact ą fun n e=>by subst e;exact h
  |exact PD fun b n e=>by subst e;exact h
  |exact PC fun a b e=>by subst e;exact h
  |exact Ć fun a b e=>by subst e;exact h
  |exact XW fun e=>by subst e;exact h
theorem Cr:∀(s l:List Ob) {k:List Ob->R} {Z:R},Le (k l) Z->Le (Mw s l k) Z
 |[],l,k,Z,h=>by exact bT fun e=>by simp_all
 |s::r,l,k,Z,h=>by exact aZ fun x t e=>by subst e;exact Sq s x (Cr r t h)
structure jh where
 el:Nat->Da->(Da->R)->R
 ca:Nat->List Ob->D->List Ob->KV->R
 mv:D->Da->(Da->R)->R
 (keys spl par:Bool)
structure jh.Ok (dc:jh):Prop where
 el:∀z x k,Le (dc.el z x k) (k x)
 ca:∀f hi v hp k,Le (dc.ca f hi v hp k) (k v hp)
 mv:∀z x k,Le (dc.mv z x k) (k x)
abbrev ab:=Nat->List D->List Ob->KV->R
def bF (cc:ab)(call:aG):Prop:=∀f vs hp (k k':KV),(∀v out,Le (k v out) (k' v out))->Le (cc f vs hp k) (cL (call f vs hp) fun p=>k' p.1 p.2)
abbrev KE:=D->List (Nat×Ob)->List Ob->R
def cV (o:Option fj)(k:KE):R:=cL o fun e=>k e.1 e.2.1 e.2.2
def X3 (vs:List D)(k:KE):R:=match vs with|[.p (.bool c),a,b]=>iL c (k a [] []) (k b [] [])|_=>none
def Ÿ (op:BinOp)(vs:List D)(k:KE):R:=
 match vs with
 |[.p (.int i a),.p (.int j b)]=>match op with
  | .quo=>iL (az b 0) none (if i=j then k (.p (.int i (aq i (a.tdiv b)))) [] []else none)
  | .rem=>iL (az b 0) none (if i=j then k (.p (.int i (a.tmod b))) [] []else none)
  | .shl=>iL (aP b 0) none (k (.p (.int i (aq i (a*2 ^ (min b.toNat i.bits))))) [] [])
  | .shr=>iL (aP b 0) none (k (.p (.int i (a.fdiv (2 ^ (min b.toNat i.bits))))) [] [])
  |op=>cV (ka (bin op (.p (.int i a)) (.p (.int j b)))) k
 |[.p (.str a),.p (.str b)]=>match op with
  | .add=>iL (Nat.ble (a.length+b.length) pz) (k (.p (.str (a++b))) [] []) none
  |op=>cV (ka (bin op (.p (.str a)) (.p (.str b)))) k
 |[x,y]=>cV (ka (bin op x y)) k
 |_=>none
def iR:LN->LD->LD->(Bool->R)->R
 |[],_,_,k=>k true
 |c::ks,x::xs,y::ys,k=>cL (uA c x y) fun b=>iL b (iR ks xs ys k) (k false)
 |_,_,_,_=>none
def Vy (ks:LN)(op:BinOp)(vs:List D)(k:KE):R:=
 match vs with
 |[.p (.agg xs),.p (.agg ys)]=>match op with
  | .eql=>iR ks xs ys fun b=>k (.p (.bool b)) [] []
  | .neq=>iR ks xs ys fun b=>k (.p (.bool (!b))) [] []
  |_=>none
 |_=>none
def iaL (dc:jh)(esz:Nat)(vs:List D)(k:KE):R:=
 match vs with
 |[.p (.slice z es),.p (.int _ i)]=>iL (Nat.beq z esz) (cL (bA es i) fun x=>dc.el esz x fun x=>k (.ip x 0) [] []) none
 |[.p (.sliceE z es),.p (.int _ i)]=>iL (Nat.beq z esz) (cL (bA es i) fun x=>dc.el esz x fun x=>k (.ip x 0) [] []) none
 |[.sl _ z es,.p (.int _ i)]=>iL (Nat.beq z esz) (cL (bA es i) fun x=>dc.el esz x fun x=>k (.ip x 0) [] []) none
 |[.arr id lo len z,.p (.int _ i)]=>iL (Nat.beq z esz) (iL (bw 0 i) (iL (aP i len) (k (.el id (lo+i.toNat) 0) [] []) none) none) none
 |_=>none
def ixL (vs:List D)(k:KE):R:=
 match vs with
 |[.p (.str s),.p (.int _ i)]=>cL (bif bw 0 i then s[i.toNat]? else none) fun b=>k (.p (.int .u8 (Int.ofNat b))) [] []
 |_=>none
def jT (x:D)(y:Nat)(k:Nat->R):R:=match x with| .p (.int _ i)=>iL (bw 0 i) (iL (bw i y) (k i.toNat) none) none|_=>none
def jv (lo hi mx:Bool)(len:Nat)(xs:List D)(k:Nat->Nat->Nat->R):R:=
 match lo,hi,mx,xs with
 |false,false,false,[]=>k 0 len len
 |true,false,false,[a]=>jT a len fun l=>k l len len
 |false,true,false,[b]=>jT b len fun h=>k 0 h len
 |true,true,false,[a,b]=>jT b len fun h=>jT a h fun l=>k l h len
 |false,true,true,[b,c]=>jT c len fun m=>jT b m fun h=>k 0 h m
 |true,true,true,[a,b,c]=>jT c len fun m=>jT b m fun h=>jT a h fun l=>k l h m
 |_,_,_,_=>none
theorem fI {x:D}{y:Nat}{k:Nat->R}(h:∀n,lR x y=some n->Le (k n) Z):Le (jT x y k) Z:=by
 unfold jT;split
 ·refine Le.grd fun h1=>Le.grd fun h2=>h _ ?_
  simp only[lR,h1,h2,Bool.and_self,cond_true]
 ·exact Le.no _
theorem gb {lo hi mx:Bool}{len:Nat}{xs:List D}{k:Nat->Nat->Nat->R}(h:∀l a m,cu lo hi mx len xs=some (l,a,m)->Le (k l a m) Z):Le (jv lo hi mx len xs k) Z:=by
 unfold jv;split
 ·exact h _ _ _ rfl
 ·exact fI fun l h1=>h _ _ _ (by simp only[cu,h1])
 ·exact fI fun l h1=>h _ _ _ (by simp only[cu,h1])
 ·exact fI fun l h1=>fI fun l' h2=>h _ _ _ (by simp only[cu,h1,h2])
 ·exact fI fun l h1=>fI fun l' h2=>h _ _ _ (by simp only[cu,h1,h2])
 ·exact fI fun l h1=>fI fun l' h2=>fI fun l'' h3=>h _ _ _ (by simp only[cu,h1,h2,h3])
 ·exact Le.no _
def Np (lo hi:Bool)(vs:List D)(k:KE):R:=
 match vs with
 | .p (.str s)::xs=>jv lo hi false s.length xs fun l h _=>k (.p (.str ((s.drop l).take (h - l)))) [] []
 |_=>none
def Yk (lo hi:Bool)(l h lo0:Nat)(n:Option Nat)(e v:R):R:=
 match lo,hi,n with
 |true,false,some n=>iL (Nat.beq l h) (iL (Nat.blt lo0 n) e v) v
 |_,_,_=>v
theorem Yl (lo hi:Bool)(l h lo0:Nat)(os:List (Nat×Ob))(id:Nat)(e v:R):Yk lo hi l h lo0 (vt os id) e v=bif lo&&!hi&&(Nat.beq l h&&ou os id lo0)then e else v:=by
 have hf:ou os id lo0=match vt os id with|some n=>Nat.blt lo0 n|none=>false:=by
  unfold ou vt;grind
 rw[hf];cases lo<;>cases hi<;>cases vt os id<;>simp only[Yk,Bool.false_and,Bool.not_true,Bool.and_false,cond_false];cases Nat.beq l h<;>cases Nat.blt lo0 _<;>rfl
def X9 (esz:Nat)(lo hi mx:Bool)(vs:List D)(ids:LN)(obs:List Ob)(k:KE):R:=
 match mx,vs with
 |false,.p (.slice z es)::xs=>iL (xE z esz es) (jv lo hi false es.length xs fun l h _=>k (.p (.slice z ((es.drop l).take (h - l)))) [] []) none
 |false,.sl .nil z es::xs=>iL (xE z esz es) (jv lo hi false es.length xs fun _ _ _=>k (.sl .nil z []) [] []) none
 |false,.arr id lo0 len0 z::xs=>iL (Nat.beq z esz) (jv lo hi false len0 xs fun l h _=>Yk lo hi l h lo0 (vt (ids.zip obs) id) (k (.sl .some z []) [] []) (k (.arr id (lo0+l) (h - l) z) [] [])) none
 |true,.p (.slice z es)::xs=>iL (xE z esz es) (jv lo hi true es.length xs fun l h m=>iL (Nat.beq h m) (k (.sl .exact z ((es.drop l).take (h - l))) [] []) (k (.p (.slice z ((es.drop l).take (h - l)))) [] [])) none
 |true,.arr id lo0 len0 z::xs=>iL (Nat.beq z esz) (jv lo hi true len0 xs fun l h m=>match eO (ids.zip obs) id with
  | .arr es=>iL (Nat.beq h m) (k (.sl .exact z ((es.drop (lo0+l)).take (h - l))) [(id,.fz es)] []) (k (.p (.slice z ((es.drop (lo0+l)).take (h - l)))) [(id,.fz es)] [])
  | .fz es=>iL (Nat.beq h m) (k (.sl .exact z ((es.drop (lo0+l)).take (h - l))) [] []) (k (.p (.slice z ((es.drop (lo0+l)).take (h - l)))) [] [])
  |_=>none) none
 |mx,vs=>cV (iN esz lo hi mx vs ids obs) k
def ϻ (dc:jh)(n esz:Nat)(agg:Bool)(vs:List D)(k:KE):R:=
 match esz,agg,vs with
 |1,false,[.p (.agg cs),.p (.int _ i)]=>iL (bw 0 i) (iL (aP i n) (cL cs[i.toNat]? fun x=>dc.el 2001 x fun x=>k (.p x) [] []) none) none
 |esz,agg,vs=>cV (Ly n esz agg vs) k
def Pb (id o esz:Nat)(i:Int)(k:KE):Nat->Nat->R
 |0,_=>none
 |m+1,j=>iL (az i (j:Int)) (k (.box id (o+j*esz)) [] []) (Pb id o esz i k m (j+1))
def ϲ (n esz:Nat)(vs:List D)(k:KE):R:=
 match vs with
 |[.box id o,.p (.int _ i)]=>Pb id o esz i k n 0
 |vs=>cV (Hz n esz vs) k
def J_ (esz:Nat)(lo hi:Bool)(vs:List D)(k:KE):R:=
 match vs with
 | .arr id lo0 len0 z::xs=>iL (Nat.beq z esz) (jv lo hi false len0 xs fun l h _=>k (.arr id (lo0+l) (h - l) z) [] []) none
 |_=>none
def Ĳ (n off:Nat)(agg:Bool)(e:Da)(k:KE):R:=cL (sub (cells e) off n) fun ds=>cL (eg agg (ds.map .p)) fun d=>k d [] []
def ĵ (dc:jh)(off n:Nat):Nat:=match dc.par with|true=>1000*(off+1)+n|false=>0
def Xy (dc:jh)(n:Nat)(agg:Bool)(vs:List D)(obs:List Ob)(k:KE):R:=
 match vs with
 |[.el _ i off]=>match obs with
  |[.arr es]=>cL es[i]? fun e=>dc.el (ĵ dc off n) e fun e=>Ĳ n off agg e k
  |[.fz es]=>cL es[i]? fun e=>dc.el (ĵ dc off n) e fun e=>Ĳ n off agg e k
  |_=>none
 |vs=>cV (gp n agg vs obs) k
def Nt (dc:jh)(n id i off:Nat)(d:D)(ids:LN)(obs:List Ob)(k:KE):R:=
 match eO (ids.zip obs) id with
 | .arr es=>cL es[i]? fun e=>dc.el (1000*(off+1)+n) e fun e=>cL (pur ((ids.zip obs).filter fun p=>!Nat.beq p.1 id) d) fun x=>iL (Nat.beq (cells x).length n) (iL (Nat.ble (off+n) (cells e).length) (cL (cP e (splice (cells e) off (cells x))) fun e'=>k .junk (dn ((ids.zip obs).filter fun p=>!Nat.beq p.1 id)++[(id,.arr (es.set i e'))]) []) none) none
 |_=>none
def Ns (dc:jh)(n:Nat)(vs:List D)(ids:LN)(obs:List Ob)(k:KE):R:=
 match dc.par,vs with
 |true,[.el id i off,d]=>Nt dc n id i off d ids obs k
 |false,[.el id i 0,d]=>match eO (ids.zip obs) id with
  | .arr es=>cL es[i]? fun e=>cL (pur ((ids.zip obs).filter fun p=>!Nat.beq p.1 id) d) fun x=>iL (Nat.beq (cells x).length n) (iL (Nat.beq (cells e).length n) (cL (cP e (cells x)) fun e'=>k .junk (dn ((ids.zip obs).filter fun p=>!Nat.beq p.1 id)++[(id,.arr (es.set i e'))]) []) none) none
  |_=>none
 |_,vs=>cV (mW n vs ids obs) k
def Ik (kt:TypeDesc)(x:Da):LD->Nat->(Option Nat->R)->R
 |[],_,k=>k none
 |y::r,i,k=>cL (j3 kt x y) fun b=>iL b (k (some i)) (Ik kt x r (i+1) k)
def WV (keys:Bool)(kt:TypeDesc)(x:Da)(ks:LD)(k:Option Nat->R):R:=
 match keys with
 |true=>Ik kt x ks 0 k
 |false=>cL (bN kt x ks 0) k
def fC (o:Option Nat)(e:R)(k:Nat->R):R:=match o with|none=>e|some i=>k i
def g_ (dc:jh)(kt:TypeDesc)(z:D)(ok:Bool)(vs:List D)(ids:LN)(obs:List Ob)(k:KE):R:=
 match vs with
 |[d,.p x]=>
  match (match d with
   | .p .nilmap=>some ([],[])
   | .p (.map ks ws)=>some (ks,ws)
   | .map id=>match eO (ids.zip obs) id with
    | .map ks ws=>some (ks,ws)
    | .fzm ks ws=>some (ks,ws)
    |_=>none
   |_=>none:Option (LD×LD))with
  |some (ks,ws)=>WV dc.keys kt x ks fun o=>fC o (k (bif ok then .tup [z,.p (.bool false)]else z) [] []) fun i=>cL ws[i]? fun v=>dc.mv z v fun v=>k (bif ok then .tup [.p v,.p (.bool true)]else .p v) [] []
  |none=>cV (HA kt z ok vs ids obs) k
 |vs=>cV (HA kt z ok vs ids obs) k
def XN (keys:Bool)(kt:TypeDesc)(vs:List D)(ids:LN)(obs:List Ob)(k:KE):R:=
 match vs with
 |[.map id,.p x,d]=>
  match eO (ids.zip obs) id with
  | .map ks ws=>match pur ((ids.zip obs).filter fun p=>!Nat.beq p.1 id) d with
   |some y=>WV keys kt x ks fun o=>fC o (k .junk (dn ((ids.zip obs).filter fun p=>!Nat.beq p.1 id)++[(id,.map (ks++[x]) (ws++[y]))]) []) fun i=>k .junk (dn ((ids.zip obs).filter fun p=>!Nat.beq p.1 id)++[(id,.map ks (ws.set i y))]) []
   |none=>cV (vl kt vs ids obs) k
  |_=>cV (vl kt vs ids obs) k
 |vs=>cV (vl kt vs ids obs) k
def XK (esz:Nat)(z:Da)(bytes base kk:Nat)(vs:List D)(k:KE):R:=
 match vs with
 |[.p (.int _ l),.p (.int _ c)]=>iL (bw 0 l&&bw l c&&Nat.ble (c.toNat*bytes) 281474976710656&&bw c 9223372036854775807) (k (.arr (base+kk) 0 l.toNat esz) [(base+kk,.arr (List.replicate l.toNat z))] []) none
 |_=>none
def ce (n bytes:Nat):Bool:=Nat.ble ((2*n+192)*bytes) 281474976710656&&Nat.ble (2*n+192) 9223372036854775807
def ů (tr:Bool)(esz bytes base kk:Nat)(vs:List D)(ids:LN)(obs:List Ob)(k:KE):R:=
 match vs with
 |[.arr id 0 len z,b]=>match eO (ids.zip obs) id with
  | .arr es=>match tr with
   |true=>iL (Nat.beq z esz) (cL (elems esz (ids.zip obs) b) fun ys=>iL (ce ((es.take len).length+ys.length) bytes) (k (.arr (base+kk) 0 (es.take len++ys).length esz) [(id,.dead),(base+kk,.arr (es.take len++ys))] []) none) none
   |false=>iL (Nat.beq z esz) (iL (Nat.beq len es.length) (cL (elems esz (ids.zip obs) b) fun ys=>iL (ce (es.length+ys.length) bytes) (k (.arr (base+kk) 0 (es++ys).length esz) [(id,.dead),(base+kk,.arr (es++ys))] []) none) none) none
  |_=>none
 |[.sl .nil z es,b]=>cL (elems esz (ids.zip obs) b) fun ys=>iL (ce (0+ys.length) bytes) (k (.arr (base+kk) 0 ys.length esz) [(base+kk,.arr ys)] []) none
 |[.sl .exact z [],b]=>cL (elems esz (ids.zip obs) b) fun ys=>iL (ce (0+ys.length) bytes) (k (.arr (base+kk) 0 ys.length esz) [(base+kk,.arr ys)] []) none
 |[.sl .exact z es,b]=>iL (xE z esz es) (cL (elems esz (ids.zip obs) b) fun ys=>iL (!es.isEmpty&&ys.isEmpty) (k (.sl .exact z es) [] []) (iL (ce (es.length+ys.length) bytes) (k (.arr (base+kk) 0 (es++ys).length esz) [(base+kk,.arr (es++ys))] []) none)) none
 |vs=>cV (nB esz bytes base kk vs ids obs) k
def Ű (dc:jh)(esz bytes base kk:Nat)(vs:List D)(ids:LN)(obs:List Ob)(k:KE):R:=
 match dc.par,vs with
 |true,[.sl .exact z es,b]=>iL (xE z esz es) (cL (elems esz (ids.zip obs) b) fun ys=>iL (!es.isEmpty&&ys.isEmpty) (k (.sl .exact z es) [] []) (iL (ce (es.length+ys.length) bytes) (k (.arr (base+kk) 0 (es++ys).length esz) [(base+kk,.arr (es++ys))] []) none)) none
 |_,vs=>ů dc.keys esz bytes base kk vs ids obs k
def Vk (bytes base kk:Nat)(vs:List D)(ids:LN)(obs:List Ob)(k:KE):R:=
 match vs with
 |[.arr id 0 len z,b]=>match eO (ids.zip obs) id with
  | .byt es=>iL (Nat.beq z 1) (iL (Nat.beq len es.length) (cL (elems 1 (ids.zip obs) b) fun ys=>iL (ce (es.length+ys.length) bytes) (k (.arr (base+kk) 0 (es++ys).length 1) [(id,.dead),(base+kk,.byt (es++ys))] []) none) none) none
  |_=>none
 |[.sl .nil z es,b]=>cL (elems 1 (ids.zip obs) b) fun ys=>iL (ce (0+ys.length) bytes) (k (.arr (base+kk) 0 ys.length 1) [(base+kk,.byt ys)] []) none
 |vs=>cV (yq bytes base kk vs ids obs) k
def Nj (vs:List D)(k:KE):R:=
 match vs with
 |[.arr id lo len _]=>iL (Nat.beq len 0) none (k (.el id lo 0) [] [])
 |vs=>cV (qv vs) k
def Yu (vs:List D)(ids:LN)(obs:List Ob)(k:KE):R:=
 match vs with
 |[.el id i off,.p (.int .i64 n)]=>match eO (ids.zip obs) id with
  | .byt es=>iL (Nat.beq off 0&&((bw 1 n&&bw n 9223372036854775807)&&Nat.ble (i+n.toNat) es.length)) (cL (gH ((es.drop i).take n.toNat)) fun s=>k (.p (.str s)) [(id,.dead)] []) none
  |_=>none
 |vs=>cV (BV vs ids obs) k
def ŵ (vs:List D)(ids:LN)(obs:List Ob)(k:KE):R:=
 match vs with
 |[d]=>cL (elems 1 (ids.zip obs) d) fun es=>cL (gH es) fun s=>k (.p (.str s)) [] []
 |_=>none
def Τ (esz:Nat)(vs:List D)(ids:LN)(obs:List Ob)(k:KE):R:=
 match vs with
 |[.arr id lo len z,b]=>match eO (ids.zip obs) id with
  | .arr es=>cL (elems esz (ids.zip obs) b) fun ys=>iL ys.isEmpty (k (.p (Cf 0)) [] []) (iL (Nat.beq z esz) (iL (Nat.ble ys.length len) (k (.p (Cf ys.length)) [(id,.arr (splice es lo ys))] []) none) none)
  |_=>none
 |_=>none
def VV (dc:jh)(cc:ab)(f:Nat)(args:List D)(ids:LN)(obs:List Ob)(len:Nat)(k:KE):R:=
 cc f (fV (jd ids) args) (nv (jd ids) obs) fun r out=>dc.ca f (nv (jd ids) obs) r out fun r out=>iL (Nat.ble ids.length out.length) (k (gO (back ids.length len ids out.length) r) (ids.zip (nv (back ids.length len ids out.length) out)) ((nv (back ids.length len ids out.length) out).drop ids.length)) none
def DB [Mv](dc:jh)(cc:ab)(f:Nat)(args:List D)(ids:LN)(obs:List Ob)(len:Nat)(k:KE):R:=
 match Mv.mv f with
 |true=>cc f (fV (jd ids) args) (nv (jd ids) obs) fun r out=>dc.ca f (nv (jd ids) obs) r out fun r out=>iL (Nat.ble (eo f (fV (jd ids) args) ids.length) out.length) (k (gO (back (eo f (fV (jd ids) args) ids.length) len ids out.length) r) ((ids.take (eo f (fV (jd ids) args) ids.length)).zip (nv (back (eo f (fV (jd ids) args) ids.length) len ids out.length) out)++(ids.drop (eo f (fV (jd ids) args) ids.length)).map fun i=>(i,.dead)) ((nv (back (eo f (fV (jd ids) args) ids.length) len ids out.length) out).drop (eo f (fV (jd ids) args) ids.length))) none
 |false=>VV dc cc f args ids obs len k
def LM [Mv](dc:jh)(cc:ab)(vs:List D)(ids:LN)(obs:List Ob)(len:Nat)(k:KE):R:=
 match vs with
 | .p (.fn f caps)::args=>match Mv.mv (F9 f)with
  |true=>none
  |false=>VV dc cc (F9 f) (jY f (caps.map .p) (args.map norm)) ids obs len k
 | .fn f caps::args=>DB dc cc (F9 f) (jY f caps (args.map norm)) ids obs len k
 |_=>none
def ū [Mv](dc:jh)(cc:ab)(base:Nat)(o:O)(kk:Nat)(vs:List D)(ids:LN)(obs:List Ob)(len:Nat)(k:KE):R:=
 match o with
 | .pick=>X3 vs k
 | .bin op=>Ÿ op vs k
 | .binS ks op=>Vy ks op vs k
 | .ia esz=>iaL dc esz vs k
 | .ix=>ixL vs k
 | .slStr lo hi=>Np lo hi vs k
 | .slSl esz lo hi mx=>X9 esz lo hi mx vs ids obs k
 | .slW esz lo hi=>J_ esz lo hi vs k
 | .ixa n esz agg=>ϻ dc n esz agg vs k
 | .iaa n esz=>ϲ n esz vs k
 | .load n agg=>Xy dc n agg vs obs k
 | .store n=>Ns dc n vs ids obs k
 | .lkp kt z ok=>g_ dc kt z ok vs ids obs k
 | .mupd kt=>XN dc.keys kt vs ids obs k
 | .mksl esz z bytes=>XK esz z bytes base kk vs k
 | .app esz bytes=>Ű dc esz bytes base kk vs ids obs k
 | .b2s=>ŵ vs ids obs k
 | .appB bytes=>Vk bytes base kk vs ids obs k
 | .sdata=>Nj vs k
 | .ustr=>Yu vs ids obs k
 | .cpy esz=>Τ esz vs ids obs k
 | .call f raw=>DB dc cc f (bif raw then vs else vs.map norm) ids obs len k
 | .callv=>LM dc cc vs ids obs len k
 |o=>cV (pC (fun _ _ _=>none) base o kk vs ids obs len) k
section laws
variable {k k':KE} (hk:∀v u n,Le (k v u n) (k' v u n))
include hk
theorem dh (o:Option fj):Le (cV o k) (cV o k'):=Le.opt fun e h=>by subst h;exact hk _ _ _
theorem X4 (vs:List D):Le (X3 vs k) (cV (BU vs) k'):=by
 unfold X3;split
 ·exact Le.two (fun h=>by subst h;exact hk _ _ _) (fun h=>by subst h;exact hk _ _ _)
 ·exact Le.no _
theorem ZB (op:BinOp)(vs:List D):Le (Ÿ op vs k) (cV (Dn op vs) k'):=by
 unfold Ÿ;split
 ·split
  ·refine Le.two (fun _=>Le.no _) (fun h=>?_);split
   ·rename_i e;subst e;simp only[Dn,bin,jS,h,ka];exact hk _ _ _
   ·exact Le.no _
  ·refine Le.two (fun _=>Le.no _) (fun h=>?_);split
   ·rename_i e;subst e;simp only[Dn,bin,jS,h,ka];exact hk _ _ _
   ·exact Le.no _
  ·refine Le.two (fun _=>Le.no _) (fun h=>?_);simp only[Dn,bin,mj,h,ka];exact hk _ _ _
  ·refine Le.two (fun _=>Le.no _) (fun h=>?_);simp only[Dn,bin,mj,h,ka];exact hk _ _ _
  ·exact dh hk _
 ·split
  ·refine Le.grd fun h=>?_
   simp only[Dn,bin,qy,h,ka];exact hk _ _ _
  ·exact dh hk _
 ·exact dh hk _
 ·exact Le.no _
omit hk in
theorem ol {q:Bool->R}{x:R}:∀(ks:LN) (xs ys:LD),(∀b,gI ks xs ys=some b->Le (q b) x)->Le (iR ks xs ys q) x
 |[],xs,ys,h=>by unfold iR;exact h true (by simp[gI])
 |c::ks,[],ys,h=>by unfold iR;exact Le.no _
 |c::ks,x::xs,[],h=>by unfold iR;exact Le.no _
 |c::ks,x::xs,y::ys,h=>by
  unfold iR;refine Le.opt fun b hb=>Le.two (fun e=>?_) (fun e=>?_)
  ·exact ol ks xs ys fun b' h'=>h b' (by simp only[gI,hb,e,cond_true,h'])
  ·exact h false (by simp only[gI,hb,e,cond_false])
theorem Vz (ks:LN)(op:BinOp)(vs:List D):Le (Vy ks op vs k) (cV (BT ks op vs) k'):=by
 unfold Vy;split
 ·split
  ·refine ol _ _ _ fun b hb=>?_
   simp only[BT,binS,hb,ka];exact hk _ _ _
  ·refine ol _ _ _ fun b hb=>?_
   simp only[BT,binS,hb,ka];exact hk _ _ _
  ·exact Le.no _
 ·exact Le.no _
variable {dc:jh}
theorem ϰ (hd:dc.Ok)(esz:Nat)(vs:List D):Le (iaL dc esz vs k) (cV (Oe esz vs) k'):=by
 unfold iaL;split
 ·refine Le.grd fun h=>Le.opt fun x hx=>(hd.el _ _ _).trans ?_
  simp only[Oe,h,hx];exact hk _ _ _
 ·refine Le.grd fun h=>Le.opt fun x hx=>(hd.el _ _ _).trans ?_
  simp only[Oe,h,hx];exact hk _ _ _
 ·refine Le.grd fun h=>Le.opt fun x hx=>(hd.el _ _ _).trans ?_
  simp only[Oe,h,hx];exact hk _ _ _
 ·refine Le.grd fun h=>Le.grd fun h1=>Le.grd fun h2=>?_
  simp only[Oe,h,h1,h2,cond_true];exact hk _ _ _
 ·exact Le.no _
theorem Ϲ (vs:List D):Le (ixL vs k) (cV (Zn vs) k'):=by
 unfold ixL;split
 ·refine Le.opt fun x hx=>?_
  simp only[Zn,hx];exact hk _ _ _
 ·exact Le.no _
theorem SZ (lo hi:Bool)(vs:List D):Le (Np lo hi vs k) (cV (mV lo hi vs) k'):=by
 unfold Np;split
 ·refine gb fun l h m hp=>?_
  simp only[mV,hp];exact hk _ _ _
 ·exact Le.no _
theorem Ya (esz:Nat)(lo hi mx:Bool)(vs:List D)(ids:LN)(obs:List Ob):Le (X9 esz lo hi mx vs ids obs k) (cV (iN esz lo hi mx vs ids obs) k'):=by
 unfold X9;split
 ·refine Le.grd fun h=>gb fun l h' m hp=>?_
  simp only[iN,h,hp,cond_true,Bool.false_and,cond_false];exact hk _ _ _
 ·refine Le.grd fun h=>gb fun l h' m hp=>?_
  simp only[iN,h,hp,cond_true];exact hk _ _ _
 ·refine Le.grd fun h=>gb fun l h' m hp=>?_
  rw[Yl];simp only[iN,h,hp,cond_true,cond_false];cases lo&&!hi&&(Nat.beq l h'&&ou (ids.zip obs) _ _)<;>exact hk _ _ _
 ·refine Le.grd fun h=>gb fun l h' m hp=>Le.two (fun h1=>?_) (fun h1=>?_)
  ·simp only[iN,h,hp,cond_true,Bool.true_and,h1];exact hk _ _ _
  ·simp only[iN,h,hp,cond_true,cond_false,Bool.true_and,h1];exact hk _ _ _
 ·refine Le.grd fun h=>gb fun l h' m hp=>?_
  split
  ·rename_i es hl;refine Le.two (fun h1=>?_) (fun h1=>?_)
   ·simp only[iN,h,hp,hl,cond_true,h1];exact hk _ _ _
   ·simp only[iN,h,hp,hl,cond_true,cond_false,h1];exact hk _ _ _
  ·rename_i es hl;refine Le.two (fun h1=>?_) (fun h1=>?_)
   ·simp only[iN,h,hp,hl,cond_true,h1];exact hk _ _ _
   ·simp only[iN,h,hp,hl,cond_true,cond_false,h1];exact hk _ _ _
  ·exact Le.no _
 ·exact dh hk _
theorem ì (hd:dc.Ok)(n esz:Nat)(agg:Bool)(vs:List D):Le (ϻ dc n esz agg vs k) (cV (Ly n esz agg vs) k'):=by
 unfold ϻ;split
 ·rename_i cs kk i;refine Le.grd fun h1=>Le.grd fun h2=>Le.opt fun x hx=>(hd.el _ _ _).trans ?_
  have hs:sub (cs.map D.p) (i.toNat*1) 1=some [.p x]:=by
   have hl:i.toNat<cs.length:=by
    grind
   rw[lδ hl,lα]at hx;unfold sub;rw[Nat.mul_one,lβ,show Nat.ble (i.toNat+1) cs.length=true by simp;omega,lχ (by simp_all),List.getElem_map,hx];rfl
  simp only[Ly,h1,h2,hs,eg];exact hk _ _ _
 ·exact dh hk _
omit hk in
theorem bE (a b:Int):az a b=decide (a=b):=by
 cases a<;>cases b<;>simp only[az]
 ·rw[mι];simp;omega
 ·simp
 ·simp
 ·rw[mι];simp
omit hk in
theorem dJ (a b:Int):aP a b=decide (a<b):=by
 cases a<;>cases b<;>simp only[aP]
 ·rw[mι];simp[Nat.blt_eq]
 ·rw[mι];simp;omega
 ·rw[mι];simp;omega
 ·rw[mι];simp[Nat.blt_eq];omega
omit hk in
theorem bW (a b:Int):bw a b=decide (a<=b):=by
 unfold bw;rw[dJ,mι];simp
omit hk in
theorem Ir (id o esz:Nat)(i:Int){X:R}:∀(m j n:Nat),j+m=n->(∀q:Nat,i=(q:Int)->q<n->Le (k (.box id (o+q*esz)) [] []) X)->Le (Pb id o esz i k m j) X
 |0,_,_,_,_=>Le.no _
 |m+1,j,n,h,hX=>by
  unfold Pb;refine Le.two (fun e=>?_) (fun _=>Ir id o esz i m (j+1) n (by omega) hX);rw[bE,lε]at e;exact hX j e (by omega)
theorem ä (n esz:Nat)(vs:List D):Le (ϲ n esz vs k) (cV (Hz n esz vs) k'):=by
 unfold ϲ;split
 ·rename_i id o kk i;refine Ir id o esz i n 0 n (by omega) fun q hq hn=>?_
  subst hq;have h1:bw 0 (q:Int)=true:=by rfl
  have h2:aP (q:Int) (n:Int)=true:=by rw[dJ,lε];omega
  simp only[Hz,h2,Int.toNat_natCast];exact hk _ _ _
 ·exact dh hk _
theorem đ (esz:Nat)(lo hi:Bool)(vs:List D):Le (J_ esz lo hi vs k) (cV (Rf esz lo hi vs) k'):=by
 unfold J_;split
 ·refine Le.grd fun h=>gb fun l h' m hp=>?_
  simp only[Rf,h,hp,cond_true];exact hk _ _ _
 ·exact Le.no _
theorem Xz (hd:dc.Ok)(n:Nat)(agg:Bool)(vs:List D)(obs:List Ob):Le (Xy dc n agg vs obs k) (cV (gp n agg vs obs) k'):=by
 unfold Xy;split
 ·split
  ·refine Le.opt fun e he=>(hd.el _ _ _).trans (Le.opt fun ds hds=>Le.opt fun d hd=>?_)
   simp only[gp,he,hds,hd];exact hk _ _ _
  ·refine Le.opt fun e he=>(hd.el _ _ _).trans (Le.opt fun ds hds=>Le.opt fun d hd=>?_)
   simp only[gp,he,hds,hd];exact hk _ _ _
  ·exact Le.no _
 ·exact dh hk _
theorem S9 (hd:dc.Ok)(n id i off:Nat)(d:D)(ids:LN)(obs:List Ob):Le (Nt dc n id i off d ids obs k) (cV (mW n [.el id i off,d] ids obs) k'):=by
 unfold Nt;split
 ·rename_i es hl;refine Le.opt fun e he=>(hd.el _ _ _).trans (Le.opt fun x hx=>Le.grd fun h1=>Le.grd fun h2=>Le.opt fun e' he'=>?_)
  simp only[mW,hl,he,hx,h1,h2,he'];exact hk _ _ _
 ·exact Le.no _
theorem S8 (hd:dc.Ok)(n:Nat)(vs:List D)(ids:LN)(obs:List Ob):Le (Ns dc n vs ids obs k) (cV (mW n vs ids obs) k'):=by
 unfold Ns;split
 ·exact S9 hk hd _ _ _ _ _ _ _
 ·split
  ·rename_i es hl;refine Le.opt fun e he=>Le.opt fun x hx=>Le.grd fun h1=>Le.grd fun h2=>Le.opt fun e' he'=>?_
   have hb:=lκ h1;have hb2:=lκ h2;have hs:splice (cells e) 0 (cells x)=cells x:=by simp[splice,hb,hb2.symm▸List.drop_length]
   have hle:Nat.ble (0+n) (cells e).length=true:=by simp_all
   simp only[mW,hl,he,hx,h1,hle,hs,he'];exact hk _ _ _
  ·exact Le.no _
 ·exact dh hk _
omit hk in
theorem Il {kt:TypeDesc}{x:Da}{q:Option Nat->R}{y:R}:∀(ks:LD) (i:Nat),(∀o,bN kt x ks i=some o->Le (q o) y)->Le (Ik kt x ks i q) y
 |[],i,h=>by unfold Ik;exact h none rfl
 |c::r,i,h=>by
  unfold Ik;refine Le.opt fun b hb=>Le.two (fun e=>?_) (fun e=>?_)
  ·subst e;exact h _ (by simp only[bN,hb])
  ·subst e;exact Il r (i+1) fun o ho=>h o (by simp only[bN,hb,ho])
omit hk in
theorem Im {keys:Bool}{kt:TypeDesc}{x:Da}{q:Option Nat->R}{y:R}(ks:LD)(h:∀o,bN kt x ks 0=some o->Le (q o) y):Le (WV keys kt x ks q) y:=by
 cases keys
 ·exact Le.opt h
 ·exact Il ks 0 h
theorem ù (hd:dc.Ok)(kt:TypeDesc)(z:D)(ok:Bool)(vs:List D)(ids:LN)(obs:List Ob):Le (g_ dc kt z ok vs ids obs k) (cV (HA kt z ok vs ids obs) k'):=by
 unfold g_;split
 ·rename_i d x;split
  ·rename_i ks ws he;refine Im ks fun o ho=>?_
   have key:Le (fC o (k (bif ok then .tup [z,.p (.bool false)]else z) [] []) fun i=>cL ws[i]? fun v=>dc.mv z v fun v=>k (bif ok then .tup [.p v,.p (.bool true)]else .p v) [] []) (cV (match bN kt x ks 0 with
    |some (some i)=>match ws[i]? with
     |some v=>val (bif ok then .tup [.p v,.p (.bool true)]else .p v)
     |none=>none
    |some none=>val (bif ok then .tup [z,.p (.bool false)]else z)
    |none=>none) k'):=by
    rw[ho];cases o with
    |none=>exact hk _ _ _
    |some i=>
     refine Le.opt fun v hv=>(hd.mv _ _ _).trans ?_
     simp only[hv];exact hk _ _ _
   split at he
   ·simp only[lα,lζ]at he;obtain⟨rfl,rfl⟩:=he;exact key
   ·simp only[lα,lζ]at he;obtain⟨rfl,rfl⟩:=he;exact key
   ·split at he
    ·rename_i hl;simp only[lα,lζ]at he;obtain⟨rfl,rfl⟩:=he;simp only[HA,hl];exact key
    ·rename_i hl;simp only[lα,lζ]at he;obtain⟨rfl,rfl⟩:=he;simp only[HA,hl];exact key
    ·cases he
   ·cases he
  ·exact dh hk _
 ·exact dh hk _
theorem XO (keys:Bool)(kt:TypeDesc)(vs:List D)(ids:LN)(obs:List Ob):Le (XN keys kt vs ids obs k) (cV (vl kt vs ids obs) k'):=by
 unfold XN;split
 ·split
  ·rename_i hl;split
   ·rename_i y hp;refine Im _ fun o ho=>?_
    simp only[vl,hl,hp,ho];cases o<;>exact hk _ _ _
   ·exact dh hk _
  ·exact dh hk _
 ·exact dh hk _
theorem XM (esz:Nat)(z:Da)(bytes base kk:Nat)(vs:List D):Le (XK esz z bytes base kk vs k) (cV (HD esz z bytes base kk vs) k'):=by
 unfold XK;split
 ·refine Le.grd fun h=>?_
  simp only[HD,h,cond_true];exact hk _ _ _
 ·exact Le.no _
theorem Zu (tr:Bool)(esz bytes base kk:Nat)(vs:List D)(ids:LN)(obs:List Ob):Le (ů tr esz bytes base kk vs ids obs k) (cV (nB esz bytes base kk vs ids obs) k'):=by
 unfold ů;split
 ·split
  ·rename_i es hl;split
   ·refine Le.grd fun h1=>Le.opt fun ys hy=>Le.grd fun h3=>?_
    unfold ce at h3;simp only[nB,kY,hl,h1,cond_true,hy,List.drop_zero,h3,mγ,List.nil_append];exact hk _ _ _
   refine Le.grd fun h1=>Le.grd fun h2=>Le.opt fun ys hy=>Le.grd fun h3=>?_
   have h2':=lκ h2;subst h2';unfold ce at h3;simp only[nB,kY,hl,h1,cond_true,hy,List.drop_zero,List.take_length,h3,mγ,List.nil_append];exact hk _ _ _
  ·exact Le.no _
 ·refine Le.opt fun ys hy=>Le.grd fun h3=>?_
  unfold ce at h3;simp only[nB,kY,hy,List.isEmpty_nil,Bool.not_true,Bool.and_false,List.length_nil,h3,List.nil_append];rw[Nat.zero_add];exact hk _ _ _
 ·refine Le.opt fun ys hy=>Le.grd fun h3=>?_
  unfold ce at h3;simp only[nB,kY,xE,List.isEmpty_nil,Bool.or_true,cond_true,hy,Bool.not_true,Bool.and_false,List.length_nil,h3,List.nil_append];rw[Nat.zero_add];exact hk _ _ _
 ·refine Le.grd fun h1=>Le.opt fun ys hy=>Le.two (fun h2=>?_) (fun h2=>Le.grd fun h3=>?_)
  ·rw[lγ]at h2;simp only[nB,kY,h1,cond_true,hy,h2.1,h2.2,Bool.and_self];exact hk _ _ _
  ·unfold ce at h3;rw[Bool.and_comm]at h2;simp only[nB,kY,h1,cond_true,hy,List.isEmpty_nil,Bool.true_and,h2,h3,List.nil_append];rw[<-mγ];exact hk _ _ _
 ·exact dh hk _
theorem Zv (dc:jh)(esz bytes base kk:Nat)(vs:List D)(ids:LN)(obs:List Ob):Le (Ű dc esz bytes base kk vs ids obs k) (cV (nB esz bytes base kk vs ids obs) k'):=by
 unfold Ű;split
 ·refine Le.grd fun h1=>Le.opt fun ys hy=>Le.two (fun h2=>?_) (fun h2=>Le.grd fun h3=>?_)
  ·rw[lγ]at h2;simp only[nB,kY,h1,cond_true,hy,h2.1,h2.2,Bool.and_self];exact hk _ _ _
  ·unfold ce at h3;rw[Bool.and_comm]at h2;simp only[nB,kY,h1,cond_true,hy,List.isEmpty_nil,Bool.true_and,h2,h3,List.nil_append];rw[<-mγ];exact hk _ _ _
 ·exact Zu hk _ _ _ _ _ _ _ _
theorem Vl (bytes base kk:Nat)(vs:List D)(ids:LN)(obs:List Ob):Le (Vk bytes base kk vs ids obs k) (cV (yq bytes base kk vs ids obs) k'):=by
 unfold Vk;split
 ·split
  ·rename_i es hl;refine Le.grd fun h1=>Le.grd fun h2=>Le.opt fun ys hy=>Le.grd fun h3=>?_
   have h2':=lκ h2;subst h2';unfold ce at h3;simp only[yq,yw,hl,h1,cond_true,hy,List.drop_zero,List.take_length,h3,mγ,List.nil_append];exact hk _ _ _
  ·exact Le.no _
 ·refine Le.opt fun ys hy=>Le.grd fun h3=>?_
  unfold ce at h3;simp only[yq,yw,hy,List.isEmpty_nil,Bool.not_true,Bool.and_false,List.length_nil,h3,List.nil_append];rw[Nat.zero_add];exact hk _ _ _
 ·exact dh hk _
theorem SW (vs:List D):Le (Nj vs k) (cV (qv vs) k'):=by
 unfold Nj;split
 ·refine Le.two (fun _=>Le.no _) (fun h=>?_);simp only[qv,h,val];exact hk _ _ _
 ·exact dh hk _
theorem Yv (vs:List D)(ids:LN)(obs:List Ob):Le (Yu vs ids obs k) (cV (BV vs ids obs) k'):=by
 unfold Yu;split
 ·split
  ·rename_i es hl;refine Le.grd fun h1=>Le.opt fun s hs=>?_
   simp only[BV,hl,h1,hs];exact hk _ _ _
  ·exact Le.no _
 ·exact dh hk _
theorem Zy (vs:List D)(ids:LN)(obs:List Ob):Le (ŵ vs ids obs k) (cV (Ra vs ids obs) k'):=by
 unfold ŵ;split
 ·refine Le.opt fun es he=>Le.opt fun s hs=>?_
  simp only[Ra,he,hs];exact hk _ _ _
 ·exact Le.no _
theorem Z4 (esz:Nat)(vs:List D)(ids:LN)(obs:List Ob):Le (Τ esz vs ids obs k) (cV (Rc esz vs ids obs) k'):=by
 unfold Τ;split
 ·split
  ·rename_i es hl;refine Le.opt fun ys hy=>Le.two (fun h=>?_) (fun h=>Le.grd fun h1=>Le.grd fun h2=>?_)
   ·simp only[Rc,hl,hy,h,cond_true,val];exact hk _ _ _
   ·simp only[Rc,hl,hy,h,cond_false,h1,h2,Bool.and_self,cond_true];exact hk _ _ _
  ·exact Le.no _
 ·exact Le.no _
variable {cc:ab}
theorem HP (hd:dc.Ok){call:aG}(hc:bF cc call)(f:Nat)(args:List D)(ids:LN)(obs:List Ob)(len:Nat):Le (VV dc cc f args ids obs len k) (cV (eY call f args ids obs len) k'):=by
 refine(hc f _ _ _ (fun r out=>iL (Nat.ble ids.length out.length) (k' (mapD (back ids.length len ids out.length) r) (ids.zip (out.map (ck (back ids.length len ids out.length)))) ((out.map (ck (back ids.length len ids out.length))).drop ids.length)) none) fun r out=>(hd.ca _ _ _ _ _).trans ?_).trans ?_
 ·rw[fZ,lY];exact Le.grd fun h=>by simp only[h,iL];simp_all
 ·rw[io,lY,jA];unfold eY cV;cases call f (mapD.mapDL (idx ids) args) (obs.map (ck (idx ids)))with
  |none=>exact Le.no _
  |some p=>
   refine Le.grd fun h=>?_
   simp only[h,cond_true];exact Le.refl _
theorem B0 [Mv](hd:dc.Ok){call:aG}(hc:bF cc call)(f:Nat)(args:List D)(ids:LN)(obs:List Ob)(len:Nat):Le (DB dc cc f args ids obs len k) (cV (nZ call f args ids obs len) k'):=by
 unfold DB nZ;cases Mv.mv f
 ·exact HP hk hd hc _ _ _ _ _
 generalize hm:eo f (fV (jd ids) args) ids.length=m;refine(hc f _ _ _ (fun r out=>iL (Nat.ble m out.length) (k' (mapD (back m len ids out.length) r) ((ids.take m).zip (out.map (ck (back m len ids out.length)))++(ids.drop m).map fun i=>(i,.dead)) ((out.map (ck (back m len ids out.length))).drop m)) none) fun r out=>(hd.ca _ _ _ _ _).trans ?_).trans ?_
 ·rw[fZ,lY];exact Le.grd fun h=>by simp only[h,iL];simp_all
 ·rw[io,jA]at hm;rw[io,lY,jA,hm];unfold jz cV;cases call f (mapD.mapDL (idx ids) args) (obs.map (ck (idx ids)))with
  |none=>exact Le.no _
  |some p=>
   refine Le.grd fun h=>?_
   simp only[h,cond_true];exact Le.refl _
theorem RE [Mv](hd:dc.Ok){call:aG}(hc:bF cc call)(vs:List D)(ids:LN)(obs:List Ob)(len:Nat):Le (LM dc cc vs ids obs len k) (cV (yD call vs ids obs len) k'):=by
 unfold LM yD;split
 ·rename_i f caps args;simp;cases Mv.mv (F9 f)
  ·exact HP hk hd hc _ _ _ _ _
  ·exact Le.no _
 ·exact B0 hk hd hc _ _ _ _ _
 ·exact Le.no _
theorem Zo [Mv](hd:dc.Ok){call:aG}(hc:bF cc call)(base:Nat)(o:O)(kk:Nat)(vs:List D)(ids:LN)(obs:List Ob)(len:Nat):Le (ū dc cc base o kk vs ids obs len k) (cV (ui call base o kk vs ids obs len) k'):=by
 unfold ū;split
 ·exact X4 hk _
 ·exact ZB hk _ _
 ·exact Vz hk _ _ _
 ·exact ϰ hk hd _ _
 ·exact Ϲ hk _
 ·exact SZ hk _ _ _
 ·exact Ya hk _ _ _ _ _ _ _
 ·exact đ hk _ _ _ _
 ·exact ì hk hd _ _ _ _
 ·exact ä hk _ _ _
 ·exact Xz hk hd _ _ _ _
 ·exact S8 hk hd _ _ _ _
 ·exact ù hk hd _ _ _ _ _ _
 ·exact XO hk _ _ _ _ _
 ·exact XM hk _ _ _ _ _ _
 ·exact Zv hk _ _ _ _ _ _ _ _
 ·exact Zy hk _ _ _
 ·exact Vl hk _ _ _ _ _ _
 ·exact SW hk _
 ·exact Yv hk _ _ _
 ·exact Z4 hk _ _ _ _
 ·exact B0 hk hd hc _ _ _ _ _
 ·exact RE hk hd hc _ _ _ _
 ·rename_i o' h1 h2 h3 h4 h5 h6 h7 h8 h9 h10 h11 h12 h13 h14 h15 h16 h17;have e:pC (fun _ _ _=>none) base o kk vs ids obs len=ui call base o kk vs ids obs len:=by
   cases o<;>first|rfl|exact absurd rfl (h16 _ _)|exact absurd rfl h17
  rw[e];exact dh hk _
end laws
end
section
def gdL (x:eH)(tm:Tm)(t e:R):R:=
 match x.gd with
 |none=>t
 |some (g,w)=>match get tm g with
  | .p (.bool b)=>match w with
   |true=>iL b t e
   |false=>iL b e t
  | .tup []=>e
  |_=>none
theorem Ϭ {x:eH}{tm:Tm}{t e X:R}(ht:dj x tm=some true->Le t X)(he:dj x tm=some false->Le e X):Le (gdL x tm t e) X:=by
 unfold gdL;split
 ·rename_i h;exact ht (by simp[dj,h])
 ·rename_i g w h;split
  ·rename_i b hb;have hg:dj x tm=some (b==w):=by simp[dj,h,hb]
   cases w
   ·exact Le.two (fun e=>he (by simp_all)) (fun e=>ht (by simp_all))
   ·exact Le.two (fun e=>ht (by simp_all)) (fun e=>he (by simp_all))
  ·rename_i hb;exact he (by simp[dj,h,hb])
  ·exact Le.no _
variable [Mv]
def vA (o:O)(vs:List D)(hp:List Ob):LN:=
 match o with
 | .call f _=>match Mv.mv f with
  |true=>fy hp br ((jV (eC vs []) []).flatMap fun i=>iS (aS hp i)) (jV (eC vs []) [])
  |false=>fy hp br (eC vs []) []
 | .callv=>match vs with
  | .fn f caps::args=>match Mv.mv (F9 f)with
   |true=>fy hp br ((jV (eC (jY f caps (args.map norm)) []) []).flatMap fun i=>iS (aS hp i)) (jV (eC (jY f caps (args.map norm)) []) [])
   |false=>fy hp br (eC vs []) []
  |vs=>fy hp br (eC vs []) []
 |o=>bL o vs hp
theorem XS (o:O)(vs:List D)(hp:List Ob):vA o vs hp=dB o vs hp:=by
 cases o<;>first
  |rfl
  |rfl
  |(
    simp only[vA,dX,eW,mξ,qK];rfl)
  |(
    simp only[vA,dB,pZ];split
    ·simp only[dX,eW,mξ,qK];cases Mv.mv _<;>rfl
    ·simp only[dX,eW,mξ];rfl)
def Nq (v:D)(k:D->R):R:=match v with
 | .p (.bool b)=>iL b (k (.p (.bool true))) (k (.p (.bool false)))
 |v=>k v
theorem S5 {v:D}{k:D->R}{X:R}(h:Le (k v) X):Le (Nq v k) X:=by
 unfold Nq;split
 ·rename_i b;cases b<;>exact h
 ·exact h
def Yh (s:Bool)(v:D)(k:D->R):R:=match s with
 |true=>Nq v k
 |false=>k v
theorem S6 {s:Bool}{v:D}{k:D->R}{X:R}(h:Le (k v) X):Le (Yh s v k) X:=by
 cases s
 ·exact h
 ·exact S5 h
def Ĭ (d:Option Nat):List eH->Bool
 |[]=>false
 |x::r=>match d with
  |none=>false
  |some t=>(match x.gd with|some (g,_)=>Nat.beq g t|none=>false)||((match x.op,x.as with| .pick,.t g::_=>Nat.beq g t|_,_=>false)||Ĭ d r)
def Am (ids:LN)(hp:List Ob)(l:List (Nat×Ob)):List (Nat×Bool):=List.rec (motive:=fun _=>List (Nat×Bool)) [] (fun p _ ih=>(p.1,!(nq p.1 ids&&Mv.eq (aS hp p.1) p.2))::ih) l
theorem oL (ids:LN)(hp:List Ob):∀l,oJ (Am ids hp l)=gV ids hp l
 |[]=>rfl
 |(i,o)::r=>by
  show(bif !(nq i ids&&Mv.eq (aS hp i) o)then i::oJ (Am ids hp r)else oJ (Am ids hp r))=_;rw[oL ids hp r];simp only[gV];cases nq i ids&&Mv.eq (aS hp i) o<;>rfl
def WL (a b:List Ob):Bool:= @decide (a=b) (Classical.propDecidable _)
theorem WM (a:List Ob):WL a a=true:=by unfold WL;exact @mη _ (Classical.propDecidable _) rfl
def Ol (ids:LN):List (Nat×Ob)->Bool
 |[]=>true
 |p::r=>nq p.1 ids&&Ol ids r
theorem Ao {f:Nat}(hf:Mv.sm f=true)(ids:LN)(hp:List Ob):∀l:List (Nat×Ob),Ol ids l=true->l.map (fun p=>aS hp p.1)=l.map (·.2)->gV ids hp l=[]
 |[],_,_=>rfl
 |(i,o)::r,h1,h2=>by
  simp only[Ol,lγ]at h1;simp only[List.map_cons,lτ]at h2;simp only[gV,h1.1,h2.1,Mv.rf f hf,Bool.and_self,cond_true];exact Ao hf ids hp r h1.2 h2.2
def smL (o:O)(ids:LN)(hp:List Ob)(ups:List (Nat×Ob))(k:List (Nat×Bool)->R):R:=
 match o with
 | .call f _=>match Mv.sm f with
  |true=>iL (Ol ids ups) (iL (WL (ups.map fun p=>aS hp p.1) (ups.map (·.2))) (k []) none) none
  |false=>k (Am ids hp ups)
 |_=>k (Am ids hp ups)
theorem M_ {o:O}{ids:LN}{hp:List Ob}{ups:List (Nat×Ob)}{k:List (Nat×Bool)->R}{X:R}(h:∀l,oJ l=gV ids hp ups->Le (k l) X):Le (smL o ids hp ups k) X:=by
 unfold smL;split
 ·split
  ·rename_i hf;refine Le.grd fun h1=>Le.grd fun h2=>h [] ?_
   unfold WL at h2;rw[Ao hf ids hp ups h1 (@of_decide_eq_true _ (Classical.propDecidable _) h2)];rfl
  ·exact h _ (oL ids hp ups)
 ·exact h _ (oL ids hp ups)
def opL (dc:jh)(s:Bool)(cc:ab)(base:Nat)(x:eH)(tm:Tm)(hp:List Ob)(k:D->List Ob->fP->R):R:=
 iL (!(dK x.op)||cZ (aS hp (base+x.k)))
  (ū dc cc base x.op x.k (x.as.map (ev tm)) (vA x.op (x.as.map (ev tm)) hp) ((vA x.op (x.as.map (ev tm)) hp).map (aS hp)) hp.length fun v ups new=>Yh s v fun v=>smL x.op (vA x.op (x.as.map (ev tm)) hp) hp ups fun wl=>
   k v (grow (ao hp ups) new) ⟨bif dK x.op then(base+x.k)::vA x.op (x.as.map (ev tm)) hp else vA x.op (x.as.map (ev tm)) hp,wl,!new.isEmpty,hp.length⟩) none
def ab0 (tm:Tm)(hp:List Ob)(k:K):R:=k tm hp
def ĉ (dc:jh)(cc:ab)(base:Nat):List eH->Tm->List Ob->List fP->(Tm->List Ob->List fP->R)->R
 |[],tm,hp,fs,k=>k tm hp fs.reverse
 |x::r,tm,hp,fs,k=>ab0 tm hp fun tm hp=>gdL x tm (opL dc (dc.spl||Ĭ x.dst r) cc base x tm hp fun v hp f=>ĉ dc cc base r (put x.dst v tm) hp (f::fs) k) (ĉ dc cc base r (put x.dst (.tup []) tm) hp (⟨[],[],false,0⟩::fs) k)
section
variable {dc:jh} (hd:dc.Ok) {cc:ab} {call:aG} (hc:bF cc call) {base:Nat}
include hd hc
theorem v_ {s:Bool}{x:eH}{tm:Tm}{hp:List Ob}{k:D->List Ob->fP->R}{X:R}(h:∀v hp' fL,pG call base x ⟨tm,hp⟩=some (⟨put x.dst v tm,hp'⟩,cF fL)->Le (k v hp' fL) X):Le (opL dc s cc base x tm hp k) X:=by
 unfold opL;refine Le.grd fun hm=>(Zo (fun _ _ _=>Le.refl _) hd hc _ _ _ _ _ _ _).trans ?_
 unfold cV;refine Le.opt fun e he=>?_
 obtain⟨v,ups,new⟩:=e;refine S6 (M_ fun wl hw=>h v _ _ ?_);simp only[XS]at he hw ⊢
 simp only[pG,hm,cond_true,he,cF,hw]
theorem Fc:∀(ops:List eH) (tm:Tm) (hp:List Ob) (fs:List fP) (k:Tm->List Ob->List fP->R) (X:R),(∀tm' hp' fs',eD call base ops ⟨tm,hp⟩ (fs.map cF)=some (⟨tm',hp'⟩,fs'.map cF)->Le (k tm' hp' fs') X)->Le (ĉ dc cc base ops tm hp fs k) X
 |[],tm,hp,fs,k,X,h=>h _ _ _ (by simp only[eD,List.map_reverse])
 |x::r,tm,hp,fs,k,X,h=>by
  refine Ϭ (fun hg=>v_ hd hc fun v hp' fL he=>Fc r _ _ _ _ _ fun tm' hp'' fs' hr=>h _ _ _ ?_) (fun hg=>Fc r _ _ _ _ _ fun tm' hp'' fs' hr=>h _ _ _ ?_)
  ·simp only[eD,hg,he];exact hr
  ·simp only[eD,hg];exact hr
end
theorem yQ {call:aG}{base:Nat}:∀{ops:List eH} {st st':St} {fs fs':List ek},eD call base ops st fs=some (st',fs')->lb call base ops st=some st'
 |[],st,st',fs,fs',h=>by
  simp only[eD,lα,lζ]at h;simp only[lb,h.1]
 |x::r,st,st',fs,fs',h=>by
  simp only[eD]at h;simp only[lb];split at h
  ·cases h
  ·split at h
   ·cases h
   ·exact yQ h
  ·exact yQ h
abbrev JJ:=Ex->Tm->List Ob->R
def oB (o:Option (Ex×St))(J:JJ):R:=cL o fun p=>J p.1 p.2.tm p.2.hp
def JLe (J J':JJ):Prop:=∀ex tm hp,Le (J ex tm hp) (J' ex tm hp)
def YE (ex:Ex)(n:R)(e:Nat->R)(r:R):R:=Ex.rec (motive:=fun _=>R) n (fun i=>e i) r ex
def aa3 (dc:jh)(cc:ab)(nal:Nat)(ops:List eH)(prs:Option (List (Nat×Nat)))(out:LN)(tm:Tm)(hp:List Ob)(J:JJ):R:=
 ĉ dc cc hp.length ops tm (grow hp (List.replicate nal .unborn)) [] fun tm hp fs=>match prs with
  |none=>J .norm (fB out id tm) hp
  |some ps=>iL (lQ fs ps) (J .norm (fB out id tm) hp) none
variable {dc:jh} {cc:ab}
theorem Ď (hd:dc.Ok){call:aG}(hc:bF cc call)(nal:Nat)(ops:List eH)(prs:Option (List (Nat×Nat)))(out:LN)(tm:Tm)(hp:List Ob){J J':JJ}(hJ:JLe J J')(n m:Nat):Le (aa3 dc cc nal ops prs out tm hp J) (oB (cm call n m (.reg nal ops prs out) ⟨tm,hp⟩) J'):=by
 refine Fc hd hc _ _ _ _ _ _ fun tm' hp' fs' he=>?_
 split
 ·have h0:=yQ he;simp only[cm,rV,h0,cL];exact hJ _ _ _
 ·refine Le.grd fun ha=>?_
  rw[mX]at ha;simp at he;simp only[cm,rV,he,ha,cL];exact hJ _ _ _
def Ph (m:Nat)(live:LN)(tm:Tm)(hp:List Ob)(k:K):R:=
 k (fB live (gO (jd (fy hp br (eC (live.map (get tm)) (iF m hp)) (List.range m)))) tm) (ng (fy hp br (eC (live.map (get tm)) (iF m hp)) (List.range m)) hp)
theorem Ea (m:Nat)(live:LN)(tm:Tm)(hp:List Ob):∃st,fK m (.keep live) ⟨tm,hp⟩=some st/\∀k,Ph m live tm hp k=k st.tm st.hp:=by
 refine⟨_,rfl,fun k=>?_⟩
 unfold Ph;have e:gO (jd (fy hp br (eC (live.map (get tm)) (iF m hp)) (List.range m)))=mapD (idx (cz hp br (dids.didsL (live.map (get tm))++(hp.take m).flatMap iS) (List.range m))):=by
  funext d
  rw[fZ,jA,dX,eW,iu]
 rw[e,j9,dX,eW,iu]
def ghL (m:Nat)(g:Gh)(tm:Tm)(hp:List Ob)(k:K):R:=
 match g with
 | .keep live=>Ph m live tm hp k
 |g=>cL (fK m g ⟨tm,hp⟩) fun st=>k st.tm st.hp
def Yp (s off:Nat)(tm:Tm)(hp:List Ob)(k:K):R:=
 match ghP ⟨tm,hp⟩ s off with
 | .box id o=>match aS hp id with
  | .box cs=>match cs[o+Mc off]? with
   |some (.arr i _ _ _)=>match aS hp i with
    | .arr es=>k tm (j7 hp i (.may false es))
    | .fz es=>k tm (j7 hp i (.may true es))
    | .may b es=>iL b none (k tm (j7 hp i (.arr es)))
    |_=>none
   |_=>none
  |_=>none
 |_=>none
theorem PU (m s off:Nat)(tm:Tm)(hp:List Ob){k k':K}(hk:∀tm hp,Le (k tm hp) (k' tm hp)):Le (Yp s off tm hp k) (cL (fK m (.tog s off) ⟨tm,hp⟩) fun st=>k' st.tm st.hp):=by
 unfold Yp;split
 ·rename_i id o hs;split
  ·rename_i cs hcs;split
   ·rename_i i _ _ _ hd;split
    ·rename_i es ho;simp only[fK,hs,hcs,hd,ho];exact hk _ _
    ·rename_i es ho;simp only[fK,hs,hcs,hd,ho];exact hk _ _
    ·rename_i b es ho;simp only[fK,hs,hcs,hd,ho];cases b
     ·exact hk _ _
     ·exact Le.no _
    ·exact Le.no _
   ·exact Le.no _
  ·exact Le.no _
 ·exact Le.no _
def V5 (d:D)(t e:R):R:=match d with| .p (.bool b)=>iL b t e|_=>none
abbrev cQ:=Nat->Bool->Nat->LN->Co->Nat->Tm->List Ob->JJ->R
def ghD (lp:cQ)(n m:Nat)(g:Gh)(c:Co)(p:Nat)(tm:Tm)(hp:List Ob)(J:JJ)(k:JJ->K):R:=
 match g with
 | .keep live=>lp p false m live c n tm hp J
 | .own s z=>ghL m (.own s z) tm hp (k J)
 | .ownc s o z=>ghL m (.ownc s o z) tm hp (k J)
 | .frz s=>ghL m (.frz s) tm hp (k J)
 | .frzc s o=>ghL m (.frzc s o) tm hp (k J)
 | .tog s o=>Yp s o tm hp (k J)
 | .pst s o=>k (fun ex tm hp=>Yp s o tm hp fun tm hp=>J ex tm hp) tm hp
 | .pkp live=>k (fun ex tm hp=>Ph m live tm hp fun tm hp=>J ex tm hp) tm hp
def wy (lp:cQ)(dc:jh)(cc:ab)(n m:Nat)(c:Co):Nat->Tm->List Ob->JJ->R:=
 Co.rec (motive:=fun _=>Nat->Tm->List Ob->JJ->R)
  (fun _ tm hp J=>J .norm tm hp)
  (fun nal ops prs out _ tm hp J=>aa3 dc cc nal ops prs out tm hp J)
  (fun _ _ a b p tm hp J=>a (4*p+1) tm hp fun ex tm hp=>YE ex (b (4*p+2) tm hp J) (fun i=>J (.exit i) tm hp) (J .ret tm hp))
  (fun x _ _ t e p tm hp J=>V5 (ev tm x) (t (4*p+1) tm hp J) (e (4*p+2) tm hp J))
  (fun id _ b p tm hp J=>b (4*p+3) tm hp fun ex tm hp=>YE ex (J .norm tm hp) (fun i=>iL (Nat.beq i id) (J .norm tm hp) (J (.exit i) tm hp)) (J .ret tm hp))
  (fun live b _ p tm hp J=>lp p true m live b n tm hp J)
  (fun id _ tm hp J=>J (.exit id) tm hp)
  (fun _ tm hp J=>J .ret tm hp)
  (fun g c b p tm hp J=>ghD lp n m g c p tm hp J fun J tm hp=>b (4*p+3) tm hp J)
  c
def cD:Co->Nat->List (Nat×LN×Co×Bool)
 | .seq a b,p=>cD a (4*p+1)++cD b (4*p+2)
 | .cond _ a b,p=>cD a (4*p+1)++cD b (4*p+2)
 | .block _ b,p=>cD b (4*p+3)
 | .loop live b,p=>[(p,live,b,true)]
 | .gh (.keep live) b,p=>[(p,live,b,false)]
 | .gh _ b,p=>cD b (4*p+3)
 |_,_=>[]
def aaZ (live:LN)(b:Co)(k:Bool):Co:=match k with|true=> .loop live b|false=> .gh (.keep live) b
def bv (lp:cQ)(call:aG)(n m:Nat)(e:Nat×LN×Co×Bool):Prop:=
 ∀tm hp J J',JLe J J'->Le (lp e.1 e.2.2.2 m e.2.1 e.2.2.1 n tm hp J) (oB (cm call n m (aaZ e.2.1 e.2.2.1 e.2.2.2) ⟨tm,hp⟩) J')
section
variable {lp:cQ} {dc:jh} (hd:dc.Ok) {cc:ab} {call:aG} (hc:bF cc call) {n m:Nat}
include hd hc
theorem eB:∀(c:Co) (p:Nat) (tm:Tm) (hp:List Ob) (J J':JJ),(∀e∈cD c p,bv lp call n m e)->JLe J J'->Le (wy lp dc cc n m c p tm hp J) (oB (cm call n m c ⟨tm,hp⟩) J')
 | .skip,p,tm,hp,J,J',hl,hJ=>hJ _ _ _
 | .ret,p,tm,hp,J,J',hl,hJ=>hJ _ _ _
 | .exit i,p,tm,hp,J,J',hl,hJ=>hJ _ _ _
 | .reg nal ops prs out,p,tm,hp,J,J',hl,hJ=>Ď hd hc nal ops prs out tm hp hJ n m
 | .seq a b,p,tm,hp,J,J',hl,hJ=>by
  have hl1:∀e∈cD a (4*p+1),bv lp call n m e:=fun e he=>hl e (List.mem_append_left _ he)
  have hl2:∀e∈cD b (4*p+2),bv lp call n m e:=fun e he=>hl e (List.mem_append_right _ he)
  refine(eB a (4*p+1) tm hp _ (fun ex tm hp=>YE ex (oB (cm call n m b ⟨tm,hp⟩) J') (fun i=>J' (.exit i) tm hp) (J' .ret tm hp)) hl1 ?_).trans ?_
  ·intro ex tm hp;cases ex with
   |norm=>exact eB b (4*p+2) tm hp J J' hl2 hJ
   |exit i=>exact hJ _ _ _
   |ret=>exact hJ _ _ _
  ·simp only[cm,oB];cases cm call n m a ⟨tm,hp⟩with
   |none=>exact Le.no _
   |some q=>
    obtain⟨ex,st⟩:=q;cases ex<;>exact Le.refl _
 | .cond x t e,p,tm,hp,J,J',hl,hJ=>by
  have hl1:∀e∈cD t (4*p+1),bv lp call n m e:=fun e he=>hl e (List.mem_append_left _ he)
  have hl2:∀e'∈cD e (4*p+2),bv lp call n m e':=fun e' he=>hl e' (List.mem_append_right _ he)
  show Le (V5 (ev tm x) (wy lp dc cc n m t (4*p+1) tm hp J) (wy lp dc cc n m e (4*p+2) tm hp J)) _;unfold V5;simp only[cm];split
  ·rename_i b hb;refine Le.two (fun h=>?_) (fun h=>?_)
   ·subst h;simp only[hb];exact eB t _ tm hp J J' hl1 hJ
   ·subst h;simp only[hb];exact eB e _ tm hp J J' hl2 hJ
  ·exact Le.no _
 | .block id b,p,tm,hp,J,J',hl,hJ=>by
  refine(eB b (4*p+3) tm hp _ (fun ex tm hp=>YE ex (J' .norm tm hp) (fun i=>iL (Nat.beq i id) (J' .norm tm hp) (J' (.exit i) tm hp)) (J' .ret tm hp)) hl ?_).trans ?_
  ·intro ex tm hp;cases ex with
   |norm=>exact hJ _ _ _
   |exit i=>
    show Le (iL (Nat.beq i id) _ _) (iL (Nat.beq i id) _ _);cases Nat.beq i id<;>exact hJ _ _ _
   |ret=>exact hJ _ _ _
  ·simp only[cm,oB];cases cm call n m b ⟨tm,hp⟩with
   |none=>exact Le.no _
   |some q=>
    obtain⟨ex,st⟩:=q;cases ex with
    |norm=>exact Le.refl _
    |ret=>exact Le.refl _
    |exit i=>
     simp only[cL,YE];cases h:Nat.beq i id<;>simp<;>exact Le.refl _
 | .loop live b,p,tm,hp,J,J',hl,hJ=>hl (p,live,b,true) (lη ..) tm hp J J' hJ
 | .gh (.keep live) b,p,tm,hp,J,J',hl,hJ=>hl (p,live,b,false) (lη ..) tm hp J J' hJ
 | .gh (.own s z) b,p,tm,hp,J,J',hl,hJ=>by
  refine Le.opt fun st hs=>?_
  simp only[cm,hs];exact eB b (4*p+3) st.tm st.hp J J' hl hJ
 | .gh (.ownc s o z) b,p,tm,hp,J,J',hl,hJ=>by
  refine Le.opt fun st hs=>?_
  simp only[cm,hs];exact eB b (4*p+3) st.tm st.hp J J' hl hJ
 | .gh (.frz s) b,p,tm,hp,J,J',hl,hJ=>by
  refine Le.opt fun st hs=>?_
  simp only[cm,hs];exact eB b (4*p+3) st.tm st.hp J J' hl hJ
 | .gh (.frzc s o) b,p,tm,hp,J,J',hl,hJ=>by
  refine Le.opt fun st hs=>?_
  simp only[cm,hs];exact eB b (4*p+3) st.tm st.hp J J' hl hJ
 | .gh (.tog s o) b,p,tm,hp,J,J',hl,hJ=>by
  refine(PU m s o tm hp (k':=fun tm hp=>oB (cm call n m b ⟨tm,hp⟩) J') fun tm hp=>eB b (4*p+3) tm hp J J' hl hJ).trans ?_;refine Le.opt fun st hs=>?_
  simp only[cm,hs];exact Le.refl _
 | .gh (.pst s o) b,p,tm,hp,J,J',hl,hJ=>by
  show Le (wy lp dc cc n m b (4*p+3) tm hp fun ex tm hp=>Yp s o tm hp fun tm hp=>J ex tm hp) _;refine(eB b (4*p+3) tm hp _ (fun ex tm hp=>cL (fK m (.tog s o) ⟨tm,hp⟩) fun st=>J' ex st.tm st.hp) hl fun ex tm hp=>PU m s o tm hp fun tm hp=>hJ ex tm hp).trans ?_
  have e:cm call n m (.gh (.pst s o) b) ⟨tm,hp⟩=Fi m (.pst s o) (cm call n m b ⟨tm,hp⟩):=by simp only[cm,fK]
  rw[e];cases cm call n m b ⟨tm,hp⟩with
  |none=>exact Le.no _
  |some q=>
   obtain⟨ex,st⟩:=q;simp only[oB,Fi,SJ];show Le (cL (fK m (.tog s o) st) _) _;cases fK m (.tog s o) st<;>exact Le.refl _
 | .gh (.pkp live) b,p,tm,hp,J,J',hl,hJ=>by
  show Le (wy lp dc cc n m b (4*p+3) tm hp fun ex tm hp=>Ph m live tm hp fun tm hp=>J ex tm hp) _;refine(eB b (4*p+3) tm hp _ (fun ex tm hp=>cL (fK m (.keep live) ⟨tm,hp⟩) fun st=>J' ex st.tm st.hp) hl fun ex tm hp=>?_).trans ?_
  ·obtain⟨st,h1,h2⟩:=Ea m live tm hp;rw[h2];show Le (J ex st.tm st.hp) (cL (fK m (.keep live) ⟨tm,hp⟩) fun st=>J' ex st.tm st.hp);rw[h1];exact hJ _ _ _
  have e:cm call n m (.gh (.pkp live) b) ⟨tm,hp⟩=Fi m (.pkp live) (cm call n m b ⟨tm,hp⟩):=by simp only[cm,fK]
  rw[e];cases cm call n m b ⟨tm,hp⟩with
  |none=>exact Le.no _
  |some q=>
   obtain⟨ex,st⟩:=q;simp only[oB,Fi,SJ];exact Le.refl _
def itL {ST:Type}(S:(ST->R)->ST->R)(k:Nat)(st:ST):R:=Nat.rec (motive:=fun _=>ST->R) (fun _=>none) (fun _ ih st=>S ih st) k st
theorem Pp {ST:Type}{live:LN}{b:Co}{p:Nat}{dec:Tm->List Ob->(ST->R)->R}{tmO:ST->Tm}{hpO:ST->List Ob}{S:JJ->(ST->R)->ST->R}
  (hdec:∀tm hp (Y:ST->R) (X:K),(∀st,Le (Y st) (X (tmO st) (hpO st)))->Le (dec tm hp Y) (X tm hp))
  (hS:∀(J:JJ) (Y:ST->R) st,wy lp dc cc n m b p (tmO st) (hpO st) (fun ex tm hp=>YE ex (Ph m live tm hp fun tm hp=>dec tm hp Y) (fun i=>J (.exit i) tm hp) (J .ret tm hp))=S J Y st)
  (hin:∀e∈cD b p,bv lp call n m e) {J J':JJ} (hJ:JLe J J'):∀(k:Nat) (tm:Tm) (hp:List Ob),
  Le (Ph m live tm hp fun tm hp=>dec tm hp fun st=>itL (S J) k st) (oB (uI m (cm call n m b) live k ⟨tm,hp⟩) J')
 |0,tm,hp=>by
  obtain⟨st,_,h2⟩:=Ea m live tm hp;rw[h2];exact(hdec st.tm st.hp _ (fun _ _=>none) fun _=>Le.no _).trans (Le.no _)
 |k+1,tm,hp=>by
  obtain⟨st,h1,h2⟩:=Ea m live tm hp;rw[h2];have e:oB (uI m (cm call n m b) live (k+1) ⟨tm,hp⟩) J'=oB (cm call n m b st) (fun ex tm hp=>YE ex (oB (uI m (cm call n m b) live k ⟨tm,hp⟩) J') (fun i=>J' (.exit i) tm hp) (J' .ret tm hp)):=by
   simp only[uI,h1];cases cm call n m b st with
   |none=>rfl
   |some q=>
    obtain⟨ex,st'⟩:=q;cases ex<;>rfl
  rw[e];refine hdec st.tm st.hp _ (fun tm hp=>oB (cm call n m b ⟨tm,hp⟩) _) fun s=>?_
  have e2:itL (S J) (k+1) s=S J (itL (S J) k) s:=rfl;rw[e2,<-hS];refine eB hd hc b p _ _ _ _ hin ?_;intro ex tm hp;cases ex with
  |norm=>exact Pp hdec hS hin hJ k tm hp
  |exit i=>exact hJ _ _ _
  |ret=>exact hJ _ _ _
end
def XD {ST:Type}(q:Nat)(dec:Tm->List Ob->(ST->R)->R)(S:JJ->(ST->R)->ST->R)(lp:cQ):cQ:=fun p k m live b n tm hp J=>iL (Nat.beq p q) (Ph m live tm hp fun tm hp=>dec tm hp fun st=>itL (S J) n st) (lp p k m live b n tm hp J)
def Cu {ST:Type}(q:Nat)(dec:Tm->List Ob->(ST->R)->R)(S:JJ->ST->R)(lp:cQ):cQ:=fun p k m live b n tm hp J=>iL (Nat.beq p q) (Ph m live tm hp fun tm hp=>dec tm hp fun st=>S J st) (lp p k m live b n tm hp J)
def cK:cQ:=fun _ _ _ _ _ _ _ _ _=>none
variable {ST:Type} {q:Nat} {dec:Tm->List Ob->(ST->R)->R} {lp:cQ} {m:Nat} {live:LN}
theorem Ss {S:JJ->(ST->R)->ST->R}{call:aG}{n:Nat}{b:Co}(h:∀tm hp J J',JLe J J'->Le (Ph m live tm hp fun tm hp=>dec tm hp fun st=>itL (S J) n st) (oB (uI m (cm call n m b) live n ⟨tm,hp⟩) J')):bv (XD q dec S lp) call n m (q,live,b,true):=by
 intro tm hp J J' hJ;have:XD q dec S lp q true m live b n tm hp J=Ph m live tm hp fun tm hp=>dec tm hp fun st=>itL (S J) n st:=by
  show iL (Nat.beq q q) _ _=_;rw[Nat.beq_refl];rfl
 rw[this];exact h tm hp J J' hJ
theorem lpCut_here {tmO:ST->Tm}{hpO:ST->List Ob}{S:JJ->ST->R}(hd:dc.Ok){call:aG}(hc:bF cc call){n:Nat}{b:Co}(hdec:∀tm hp (Y:ST->R) (X:K),(∀st,Le (Y st) (X (tmO st) (hpO st)))->Le (dec tm hp Y) (X tm hp))(hS:∀(J:JJ) st,wy lp dc cc n m b (4*q+3) (tmO st) (hpO st) J=S J st)(hin:∀e∈cD b (4*q+3),bv lp call n m e):bv (Cu q dec S lp) call n m (q,live,b,false):=by
 intro tm hp J J' hJ;have:Cu q dec S lp q false m live b n tm hp J=Ph m live tm hp fun tm hp=>dec tm hp fun st=>S J st:=by
  show iL (Nat.beq q q) _ _=_;rw[Nat.beq_refl];rfl
 show Le (Cu q dec S lp q false m live b n tm hp J) (oB (cm call n m (.gh (.keep live) b) ⟨tm,hp⟩) J');rw[this];obtain⟨st,h1,h2⟩:=Ea m live tm hp;rw[h2];simp only[cm,h1];refine hdec st.tm st.hp _ (fun tm hp=>oB (cm call n m b ⟨tm,hp⟩) J') fun s=>?_
 rw[<-hS];exact eB hd hc b _ _ _ _ _ hin hJ
theorem My {S:JJ->(ST->R)->ST->R}{call:aG}{n:Nat}{e:Nat×LN×Co×Bool}(hq:Nat.beq e.1 q=false)(h:bv lp call n m e):bv (XD q dec S lp) call n m e:=by
 intro tm hp J J' hJ;have:XD q dec S lp e.1 e.2.2.2 m e.2.1 e.2.2.1 n tm hp J=lp e.1 e.2.2.2 m e.2.1 e.2.2.1 n tm hp J:=by
  show iL (Nat.beq e.1 q) _ _=_;rw[hq];rfl
 rw[this];exact h tm hp J J' hJ
theorem IZ {S:JJ->ST->R}{call:aG}{n:Nat}{e:Nat×LN×Co×Bool}(hq:Nat.beq e.1 q=false)(h:bv lp call n m e):bv (Cu q dec S lp) call n m e:=by
 intro tm hp J J' hJ;have:Cu q dec S lp e.1 e.2.2.2 m e.2.1 e.2.2.1 n tm hp J=lp e.1 e.2.2.2 m e.2.1 e.2.2.1 n tm hp J:=by
  show iL (Nat.beq e.1 q) _ _=_;rw[hq];rfl
 rw[this];exact h tm hp J J' hJ
def ß (m:Nat)(fz:Bool)(res:List Rv)(tm:Tm)(hp:List Ob):R:=cL (jW ⟨tm,hp⟩ res) fun ds=>Prod.rec (motive:=fun _=>R) (fun ds hp=>some (gO (jd (fy hp br (eC ds (iF m hp)) (List.range m))) (one ds),ng (fy hp br (eC ds (iF m hp)) (List.range m)) hp)) (bif fz then rZ hp ds else(ds,hp))
def SS (m:Nat)(lp:cQ)(dc:jh)(cc:ab)(n:Nat)(x:Fx)(args:List D)(hp:List Ob):R:=
 wy lp dc cc n m x.body 1 (eR args 0) hp fun ex tm hp'=>YE ex (ß m x.fz x.res tm hp') (fun _=>none) (ß m x.fz x.res tm hp')
theorem O0 (m:Nat)(fz:Bool)(res:List Rv)(tm:Tm)(hp:List Ob):ß m fz res tm hp=match jW ⟨tm,hp⟩ res with
  |some ds=>some (mw m fz ds hp)
  |none=>none:=by
 unfold ß;cases jW ⟨tm,hp⟩ res with
 |none=>rfl
 |some ds=>
  simp only[cL,mw,fZ,jA,dX,eW,iu,j9]
theorem Đ (hd:dc.Ok){call:aG}(hc:bF cc call){n:Nat}{x:Fx}{args:List D}{hp:List Ob}(hl:∀e∈cD x.body 1,bv lp call n m e):Le (SS m lp dc cc n x args hp) (oG m call n x args hp):=by
 unfold SS oG;refine(eB hd hc x.body 1 _ _ _ _ hl fun _ _ _=>Le.refl _).trans ?_;cases cm call n m x.body ⟨eR args 0,hp⟩with
 |none=>exact Le.no _
 |some q=>
  obtain⟨ex,st⟩:=q;cases ex with
  |norm=>exact Le.of_eq (O0 _ _ _ _ _)
  |ret=>exact Le.of_eq (O0 _ _ _ _ _)
  |exit i=>exact Le.no _
def ct (tab:Nat->Option Fn)(n:Nat):ab:=fun f vs hp k=>cL (evFn tab n f vs hp) fun p=>k p.1 p.2
theorem WQ (tab:Nat->Option Fn)(n:Nat):bF (ct tab n) (evFn tab n):=by
 intro f vs hp k k' hk;unfold ct;cases evFn tab n f vs hp with
 |none=>exact Le.no _
 |some p=>exact hk _ _
variable {tab:Nat->Option Fn}
theorem aa {n f:Nat}{vs:List D}{hp:List Ob}{v:D}{out:List Ob}(h:evFn tab n f vs hp=some (v,out))(k:KV):ct tab n f vs hp k=k v out:=by
 unfold ct;rw[h];rfl
theorem aaJ {f n:Nat}{x:Fx}(hd:dc.Ok){args:List D}{hp:List Ob}{F:R}(hx:tab f=some (.code x))(hm:eo f args hp.length=m)(hl:∀e∈cD x.body 1,bv lp (evFn tab n) n m e)(h:SS m lp dc (ct tab n) n x args hp=F):Le F (evFn tab (n+1) f args hp):=by
 subst h;have:evFn tab (n+1) f args hp=oG m (evFn tab n) n x args hp:=by simp only[evFn,hx,hm]
 rw[this];exact Đ hd (WQ tab n) hl
end
section
variable [Mv]
structure Rd (T α:Type) where
 e:α->T
 d:T->(α->R)->R
 le:∀(x:T) (k:α->R) (Z:R),(∀a,x=e a->Le (k a) Z)->Le (d x k) Z
namespace Rd
variable {T α β:Type}
theorem ok (r:Rd T α)(x:T)(k:α->R)(X:T->R)(H:∀a,Le (k a) (X (r.e a))):Le (r.d x k) (X x):=r.le x k _ fun a q=>by simp_all
def rm (r:Rd T α)(f:α->β)(g:β->α)(h:∀a,g (f a)=a:=by exact fun _=>rfl):Rd T β where
 e b:=r.e (g b)
 d x k:=r.d x fun a=>k (f a)
 le x _ _ H:=r.le x _ _ fun a q=>H (f a) (by rw[h a];exact q)
def I (i:IntKind):Rd Da Int:=⟨fun n=> .int i n,bg i,fun _ _ _=>c5⟩
def S:Rd Da (LN):=⟨fun s=> .str s,ja,fun _ _ _=>jw⟩
def B:Rd Da Bool:=⟨fun s=> .bool s,aB,fun _ _ _=>rG⟩
def L (z:Nat):Rd Da (LD):=⟨fun s=> .slice z s,DE z,fun _ _ _=>uv⟩
def M:Rd Da (LD×LD):=⟨fun s=> .map s.1 s.2,fun x k=>yG x fun a b=>k (a,b),fun _ _ _ H=>xa fun a b q=>H (a,b) q⟩
def X:Rd Da Da:=⟨fun x=>x,fun x k=>k x,fun x _ _ H=>H x rfl⟩
def K (i:IntKind)(c:Int):Rd Da Unit:=⟨fun _=> .int i c,fun x k=>HX i c x (k ()),fun _ _ _ H=>HY fun q=>H () q⟩
def C (c:Bool):Rd Da Unit:=⟨fun _=> .bool c,fun x k=>Wa c x (k ()),fun _ _ _ H=>RM fun q=>H () q⟩
def G (l:Rd (LD) α):Rd Da α:=⟨fun a=> .agg (l.e a),fun x k=>HV x fun cs=>l.d cs k,fun _ _ _ H=>DC fun cs q=>l.le cs _ _ fun a p=>H a (p▸q)⟩
def FP (f:Nat)(l:Rd (LD) α):Rd Da α:=⟨fun a=> .fn f (l.e a),fun x k=>Χ f x fun cs=>l.d cs k,fun _ _ _ H=>OL fun cs q=>l.le cs _ _ fun a p=>H a (p▸q)⟩
def Nm:Rd Da Unit:=⟨fun _=> .nilmap,fun x k=>We x (k ()),fun _ _ _ H=>DD fun q=>H () q⟩
def P (r:Rd Da α):Rd D α:=⟨fun a=> .p (r.e a),fun x k=>dP x fun y=>r.d y k,fun _ _ _ H=>jk fun y q=>r.le y _ _ fun a p=>H a (p▸q)⟩
def Bo (i o:Nat):Rd D Unit:=⟨fun _=> .box i o,fun x k=>wu i o x (k ()),fun _ _ _ H=>k7 fun q=>H () q⟩
def Ar (i z:Nat):Rd D Nat:=⟨fun n=> .arr i 0 n z,AN i z,fun _ _ _=>rE⟩
def Av (i z:Nat):Rd D (Nat×Nat):=⟨fun p=> .arr i p.1 p.2 z,fun x k=>gt i z x fun a b=>k (a,b),fun _ _ _ H=>yE fun a b q=>H (a,b) q⟩
def Mp (i:Nat):Rd D Unit:=⟨fun _=> .map i,fun x k=>dMp i x (k ()),fun _ _ _ H=>LS fun q=>H () q⟩
def Nl (z:Nat):Rd D Unit:=⟨fun _=> .sl .nil z [],fun x k=>dNl z x (k ()),fun _ _ _ H=>Wd fun q=>H () q⟩
def Ex (z:Nat):Rd D (LD):=⟨fun es=> .sl .exact z es,dEx z,fun _ _ _=>Φ⟩
def F (f:Nat)(l:Rd (List D) α):Rd D α:=⟨fun a=> .fn f (l.e a),fun x k=>dFn f x fun cs=>l.d cs k,fun _ _ _ H=>Wc fun cs q=>l.le cs _ _ fun a p=>H a (p▸q)⟩
def Tu (l:Rd (List D) α):Rd D α:=⟨fun a=> .tup (l.e a),fun x k=>ba x fun cs=>l.d cs k,fun _ _ _ H=>xb fun cs q=>l.le cs _ _ fun a p=>H a (p▸q)⟩
def Ob (l:Rd (List D) α):Rd Go.Ab.Ob α:=⟨fun a=> .box (l.e a),fun x k=>wK x fun cs=>l.d cs k,fun _ _ _ H=>gQ fun cs q=>l.le cs _ _ fun a p=>H a (p▸q)⟩
def Oa:Rd Go.Ab.Ob (LD):=⟨fun s=> .arr s,f6,fun _ _ _=>pq⟩
def Ow:Rd Go.Ab.Ob (Bool×LD):=⟨fun s=> .may s.1 s.2,fun x k=>s_ x fun a b=>k (a,b),fun _ _ _ H=>PD fun a b q=>H (a,b) q⟩
def Om:Rd Go.Ab.Ob (LD×LD):=⟨fun s=> .map s.1 s.2,fun x k=>r_ x fun a b=>k (a,b),fun _ _ _ H=>PC fun a b q=>H (a,b) q⟩
def c (a:Rd T α)(r:Rd (List T) β):Rd (List T) (α×β):=⟨fun x=>a.e x.1::r.e x.2,fun l k=>aJ l fun y t=>a.d y fun x=>r.d t fun z=>k (x,z),fun _ _ _ H=>aZ fun y t q=>a.le y _ _ fun x p=>r.le t _ _ fun z s=>H (x,z) (by rw[q,p,s])⟩
def u (a:Rd T Unit)(r:Rd (List T) β):Rd (List T) β:=⟨fun x=>a.e ()::r.e x,fun l k=>aJ l fun y t=>a.d y fun _=>r.d t k,fun _ _ _ H=>aZ fun y t q=>a.le y _ _ fun x p=>r.le t _ _ fun z s=>H z (by rw[q,p,s])⟩
def n:Rd (List T) Unit:=⟨fun _=>[],fun l k=>aj l (k ()),fun _ _ _ H=>bT fun q=>H () q⟩
def t (s:Nat)(a:Rd D α)(r:Rd (Tm×List Go.Ab.Ob) β):Rd (Tm×List Go.Ab.Ob) (α×β):=⟨fun x=>(.cons s (a.e x.1) (r.e x.2).1,(r.e x.2).2),fun st k=>Yi s st.1 fun y t=>a.d y fun x=>r.d (t,st.2) fun z=>k (x,z),fun _ _ _ H=>Ke fun y t q=>a.le y _ _ fun x p=>r.le (t,_) _ _ fun z s=>H (x,z) (Prod.ext (by rw[q,p,<-s]) (by rw[<-s]))⟩
def v (s:Nat)(a:Rd D Unit)(r:Rd (Tm×List Go.Ab.Ob) β):Rd (Tm×List Go.Ab.Ob) β:=⟨fun x=>(.cons s (a.e ()) (r.e x).1,(r.e x).2),fun st k=>Yi s st.1 fun y t=>a.d y fun _=>r.d (t,st.2) k,fun _ _ _ H=>Ke fun y t q=>a.le y _ _ fun x p=>r.le (t,_) _ _ fun z s=>H z (Prod.ext (by rw[q,p,<-s]) (by rw[<-s]))⟩
def h (l:Rd (List Go.Ab.Ob) α):Rd (Tm×List Go.Ab.Ob) α:=⟨fun x=>(.nil,l.e x),fun st k=>abc st.1 (l.d st.2 k),fun _ _ _ H=>Ė fun q=>l.le _ _ _ fun a p=>H a (Prod.ext q p)⟩
end Rd
abbrev dT:=Tm×List Ob
def bU (c:Co)(p j:Nat):Co:=(((cD c p)[j]?).getD (0,[],.skip,true)).2.2.1
def uZ (lp:cQ)(call:aG)(n m:Nat):List (Nat×LN×Co×Bool)->Prop
 |[]=>True
 |e::r=>bv lp call n m e/\uZ lp call n m r
theorem On {lp:cQ}{call:aG}{n m:Nat}:∀{l l':List (Nat×LN×Co×Bool)},l=l'->uZ lp call n m l'->∀e∈l,bv lp call n m e
 |_,[],rfl,_=>fun _ h=>by cases h
 |_,_::_,rfl,⟨g,r⟩=>fun e h=>by
  rcases mδ.1 h with rfl|h
  ·exact g
  ·exact On rfl r e h
theorem aH {lp:cQ}{call:aG}{n m:Nat}:uZ lp call n m []:=trivial
theorem bm {lp:cQ}{call:aG}{n m:Nat}{e:Nat×LN×Co×Bool}{r:List (Nat×LN×Co×Bool)}(h:bv lp call n m e)(g:uZ lp call n m r):uZ lp call n m (e::r):=⟨h,g⟩
def gm {ST:Type}(q:Nat)(r:Rd dT ST)(S:JJ->(ST->R)->ST->R)(lp:cQ):cQ:=XD q (fun tm hp Y=>r.d (tm,hp) Y) S lp
def pl (n:Nat)(k:Nat->R):R:=Nat.rec (motive:=fun _=>R) none (fun q _=>k q) n
def xn {ST:Type}(q:Nat)(r:Rd dT ST)(S:JJ->ST->R)(lp:cQ):cQ:=Cu q (fun tm hp Y=>r.d (tm,hp) Y) S lp
section
variable {ST:Type} {q:Nat} {r:Rd dT ST} {lp:cQ} {dc:jh} {cc:ab} {call:aG} {n m:Nat} {live:LN} {b:Co}
theorem i_ {S:JJ->(ST->R)->ST->R}(hd:dc.Ok)(hc:bF cc call)
  (hS:∀(J:JJ) (Y:ST->R) st,wy lp dc cc n m b q (r.e st).1 (r.e st).2 (fun ex tm hp=>YE ex (Ph m live tm hp fun tm hp=>r.d (tm,hp) Y) (fun i=>J (.exit i) tm hp) (J .ret tm hp))=S J Y st)
  (hin:∀e∈cD b q,bv lp call n m e):bv (gm q r S lp) call n m (q,live,b,true):=
 Ss fun tm hp _ _ hJ=>Pp (tmO:=fun st=>(r.e st).1) (hpO:=fun st=>(r.e st).2) hd hc (fun tm hp Y X h=>r.ok (tm,hp) Y (fun st=>X st.1 st.2) h) hS hin hJ n tm hp
theorem k_ {S:JJ->ST->R}(hd:dc.Ok)(hc:bF cc call)
  (hS:∀(J:JJ) st,wy lp dc cc n m b (4*q+3) (r.e st).1 (r.e st).2 J=S J st)
  (hin:∀e∈cD b (4*q+3),bv lp call n m e):bv (xn q r S lp) call n m (q,live,b,false):=
 lpCut_here (tmO:=fun st=>(r.e st).1) (hpO:=fun st=>(r.e st).2) hd hc (fun tm hp Y X h=>r.ok (tm,hp) Y (fun st=>X st.1 st.2) h) hS hin
theorem j_ {S:JJ->(ST->R)->ST->R}{e:Nat×LN×Co×Bool}(hq:Nat.beq e.1 q=false)(h:bv lp call n m e):bv (gm q r S lp) call n m e:=My hq h
theorem l_ {S:JJ->ST->R}{e:Nat×LN×Co×Bool}(hq:Nat.beq e.1 q=false)(h:bv lp call n m e):bv (xn q r S lp) call n m e:=IZ hq h
end
end
section
variable [Mv]
theorem aQ (t e:R):iL true t e=t:=rfl
theorem aR (t e:R):iL false t e=e:=rfl
theorem fY (b:Bool)(t e:R):iL b t e=if b=true then t else e:=by cases b<;>rfl
theorem fT (p:Prop)[Decidable p](t e:R):iL (decide p) t e=if p then t else e:=by rw[fY];simp only[lε]
theorem iD (p:Prop)[Decidable p](t e:R):iL (!decide p) t e=if p then e else t:=by
 rw[fY];by_cases h:p<;>simp[h]
variable {α:Type}
theorem bo (x:α)(k:α->R):cL (some x) k=k x:=rfl
theorem bi {β:Type}(f:α->β)(o:Option α)(k:β->R):cL (o.map f) k=cL o fun x=>k (f x):=by cases o<;>rfl
theorem Fd (i:Nat)(e:R)(k:Nat->R):fC (some i) e k=k i:=rfl
theorem XY (e:R)(k:Nat->R):fC none e k=e:=rfl
theorem la:∀a b:LN,be a b=decide (a=b)
 |[],[]=>by simp[be]
 |[],_::_=>by simp[be]
 |_::_,[]=>by simp[be]
 |x::a,y::b=>by
  simp only[be,la a b];rw[mι];cases h:Nat.beq x y
  ·have:x≠y:=fun e=>by rw[e,Nat.beq_refl]at h;cases h
   simp[this]
  ·have:=lκ h;simp[this]
theorem ŷ (a b:Nat):Nat.beq a b=decide (a=b):=by rw[mι,Nat.beq_eq,lε]
theorem gU {n:Int}(h1: -9223372036854775808<=n)(h2:n<9223372036854775808):aq .i64 n=n:=by
 cases n with
 |ofNat m=>
  have:Nat.blt m 9223372036854775808=true:=by rw[Nat.blt_eq];exact Int.ofNat_lt.mp h2
  simp only[aq,this,cond_true]
 |negSucc m=>
  have:Nat.blt m 9223372036854775808=true:=by rw[Nat.blt_eq];omega
  simp only[aq,this,cond_true]
def dL {α:Type}(l:List α)(i:Int):Option α:=if 0<=i then l[i.toNat]? else none
theorem aO (f:α->Da)(l:List α)(i:Int):bA (l.map f) i=(dL l i).map f:=by
 unfold bA dL;rw[bW];by_cases h:0<=i<;>simp[h]
theorem cd (l:List α)(j:Nat):dL l (j:Int)=l[j]?:=by simp[dL]
theorem aU {l:List α}{j:Nat}(h:j<l.length):dL l (j:Int)=some l[j]:=by rw[cd,lδ h]
theorem Vu (x:α)(l:List α):dL (x::l) 0=some x:=rfl
theorem cb (i:IntKind)(n:Int)(k:Int->R):bg i (.int i n) k=k n:=by cases i<;>rfl
theorem ό (s:LN)(k:LN->R):ja (.str s) k=k s:=rfl
theorem aF (b:Bool)(k:Bool->R):aB (.bool b) k=k b:=rfl
theorem vo (z:Nat)(es:LD)(k:LD->R):DE z (.slice z es) k=k es:=by
 show iL (Nat.beq z z) _ _=_;rw[Nat.beq_refl];rfl
theorem ur (cs:LD)(k:LD->R):HV (.agg cs) k=k cs:=rfl
theorem bk (x:Da)(k:Da->R):dP (.p x) k=k x:=rfl
theorem bt (ds:List D)(k:List D->R):ba (.tup ds) k=k ds:=rfl
theorem bJ (x:α)(l:List α)(k:α->List α->R):aJ (x::l) k=k x l:=rfl
theorem aC (k:R):aj ([]:List α) k=k:=rfl
theorem Ct {α:Type}(xs:List α)(L:Nat->Int->R)(p:α->Bool)(hit:Nat->R)(out:R)
  (hs:∀q i (h:i<xs.length),L (q+1) (i:Int)=if p xs[i]=true then hit i else L q ((i+1:Nat):Int)) (he:∀q,L (q+1) (xs.length:Int)=out):
  ∀(d q i:Nat),i+d=xs.length->d<q->L q (i:Int)=match (xs.drop i).findIdx? p with|some j=>hit (i+j)|none=>out
 |0,q+1,i,h,_=>by
  obtain rfl:i=xs.length:=by omega
  rw[List.drop_length];exact he q
 |d+1,q+1,i,h,hq=>by
  have hi:i<xs.length:=by omega
  rw[hs q i hi,lχ hi,mχ];cases hp:p xs[i]
  ·simp only[Bool.false_eq_true,if_false];rw[Ct xs L p hit out hs he d q (i+1) (by omega) (by omega)];cases(xs.drop (i+1)).findIdx? p with
   |none=>rfl
   |some j=>simp only[Option.map_some];rw[show i+1+j=i+(j+1) by omega]
  ·simp only[if_true,Nat.add_zero]
theorem bp (xs:List α)(L:Nat->Int->R)(p:α->Bool)(hit:Nat->R)(out:R)(hs:∀q i (h:i<xs.length),L (q+1) (i:Int)=if p xs[i]=true then hit i else L q ((i+1:Nat):Int))(he:∀q,L (q+1) (xs.length:Int)=out){q:Nat}(hq:xs.length<q):
  L q 0=match xs.findIdx? p with|some j=>hit j|none=>out:=by
 have:=Ct xs L p hit out hs he xs.length q 0 (by omega) hq;simpa using this
end
end
end Go.Ab
