import Derived.Test.YtbgddkffhndjcaaGreatDoorAm3
set_option linter.all false
namespace Go.Ab
open Go
noncomputable section
section
def Le (a b:R):Prop:=∀r,a=some r->b=some r
theorem Le.refl (a:R):Le a a:=fun _ h=>h
theorem Le.no (b:R):Le none b:=fun _ h=>by cases h
theorem Le.trans {a b c:R}(h:Le a b)(g:Le b c):Le a c:=fun r e=>g r (h r e)
theorem Le.of_eq {a b:R}(h:a=b):Le a b:=by rw[h];exact Le.refl b
def iL (b:Bool)(t e:R):R:=Bool.rec (motive:=fun _=>R) e t b
def cL {α:Type}(o:Option α)(k:α->R):R:=Option.rec (motive:=fun _=>R) none (fun x=>k x) o
theorem Le.grd {b:Bool}{t t':R}(h:b=true->Le t t'):Le (iL b t none) t':=by
 cases b
 ·exact Le.no _
 ·exact h rfl
theorem Le.two {b:Bool}{t e x:R}(h:b=true->Le t x)(g:b=false->Le e x):Le (iL b t e) x:=by
 cases b
 ·exact g rfl
 ·exact h rfl
variable {α:Type}
theorem Le.opt {o:Option α}{k:α->R}{x:R}(h:∀a,o=some a->Le (k a) x):Le (cL o k) x:=by
 cases o
 ·exact Le.no _
 ·exact h _ rfl
def aP (i:IntKind)(x:Da)(k:Int->R):R:=match x with| .int j n=>iL (Nat.beq (kc j) (kc i)) (k n) none|_=>none
def dm (x:Da)(k:LN->R):R:=match x with| .str s=>k s|_=>none
def af (x:Da)(k:Bool->R):R:=match x with| .bool b=>k b|_=>none
def WZ (z:Nat)(x:Da)(k:LD->R):R:=match x with| .slice y es=>iL (Nat.beq y z) (k es) none|_=>none
def ab4 (x:Da)(k:LD->R):R:=match x with| .agg cs=>k cs|_=>none
def ab8 (x:Da)(k:LD->LD->R):R:=match x with| .map ks vs=>k ks vs|_=>none
def bP {α:Type}(l:List α)(k:α->List α->R):R:=match l with|x::r=>k x r|[]=>none
def ag {α:Type}(l:List α)(k:R):R:=match l with|_::_=>none|[]=>k
def dP (d:D)(k:Da->R):R:=match d with| .p x=>k x|_=>none
def aI (d:D)(k:List D->R):R:=match d with| .tup ds=>k ds|_=>none
def ab6 (id off:Nat)(d:D)(k:R):R:=match d with| .box i o=>iL (Nat.beq i id) (iL (Nat.beq o off) k none) none|_=>none
def ab5 (id z:Nat)(d:D)(k:Nat->R):R:=match d with| .arr i lo len y=>iL (Nat.beq i id) (iL (Nat.beq lo 0) (iL (Nat.beq y z) (k len) none) none) none|_=>none
def aaE (id z:Nat)(d:D)(k:Nat->Nat->R):R:=match d with| .arr i lo len y=>iL (Nat.beq i id) (iL (Nat.beq y z) (k lo len) none) none|_=>none
def dMp (id:Nat)(d:D)(k:R):R:=match d with| .map i=>iL (Nat.beq i id) k none|_=>none
def dNl (z:Nat)(d:D)(k:R):R:=match d with| .sl .nil y []=>iL (Nat.beq y z) k none|_=>none
def dEx (z:Nat)(d:D)(k:LD->R):R:=match d with| .sl .exact y es=>iL (Nat.beq y z) (k es) none|_=>none
def dFn (f:Nat)(d:D)(k:List D->R):R:=match d with| .fn g cs=>iL (Nat.beq g f) (k cs) none|_=>none
def y_ (o:Ob)(k:List D->R):R:=match o with| .box cs=>k cs|_=>none
def V1 (o:Ob)(k:LD->R):R:=match o with| .arr es=>k es|_=>none
def oFz (o:Ob)(k:LD->R):R:=match o with| .fz es=>k es|_=>none
def aec (o:Ob)(k:LD->LD->R):R:=match o with| .map ks vs=>k ks vs|_=>none
def aeb (o:Ob)(k:LD->LD->R):R:=match o with| .fzm ks vs=>k ks vs|_=>none
def acX (o:Ob)(k:LD->R):R:=match o with| .byt es=>k es|_=>none
def Ć (o:Ob)(k:R):R:=match o with| .dead=>k|_=>none
def aaG (i:IntKind)(c:Int)(x:Da)(k:R):R:=match x with| .int j n=>iL (Nat.beq (kc j) (kc i)) (iL (eqI n c) k none) none|_=>none
def Zw (c:Bool)(x:Da)(k:R):R:=match x,c with| .bool true,true=>k| .bool false,false=>k|_,_=>none
def adK (d:D)(k:List D->R):R:=match d with| .agg cs=>k cs|_=>none
def dNp (x:Da)(k:R):R:=match x with| .nilptr=>k|_=>none
def dNm (x:Da)(k:R):R:=match x with| .nilmap=>k|_=>none
def adL (f:Nat)(x:Da)(k:LD->R):R:=match x with| .fn g cs=>iL (Nat.beq g f) (k cs) none|_=>none
def Ĩ (s:Nat)(tm:Tm)(k:D->Tm->R):R:=match tm with| .cons t d r=>iL (Nat.beq t s) (k d r) none| .nil=>none
def aeH (tm:Tm)(k:R):R:=match tm with| .cons _ _ _=>none| .nil=>k
section
variable {x:Da} {d:D} {o:Ob} {tm:Tm} {z:Nat} {Z:R}
theorem à {i j:IntKind}(h:Nat.beq (kc j) (kc i)=true):j=i:=by
 rw[ß,lδ]at h;exact h
theorem Á {a b:Int}(h:eqI a b=true):a=b:=by
 cases a<;>cases b<;>simp only[eqI,Bool.false_eq_true]at h;all_goals simp_all
theorem fA {i:IntKind}{k:Int->R}(h:∀n,x= .int i n->Le (k n) Z):Le (aP i x k) Z:=by
 cases x<;>first|exact Le.no _|skip
 exact Le.grd fun e0=>h _ (by rw[à e0])
theorem ld {k:LN->R}(h:∀s,x= .str s->Le (k s) Z):Le (dm x k) Z:=by
 cases x<;>first|exact Le.no _|exact h _ rfl
theorem A1 {k:Bool->R}(h:∀s,x= .bool s->Le (k s) Z):Le (af x k) Z:=by
 cases x<;>first|exact Le.no _|exact h _ rfl
theorem ZC {k:LD->R}(h:∀s,x= .slice z s->Le (k s) Z):Le (WZ z x k) Z:=by
 cases x<;>first|exact Le.no _|skip
 exact Le.grd fun e0=>h _ (by simp_all)
theorem RT {k:LD->R}(h:∀s,x= .agg s->Le (k s) Z):Le (ab4 x k) Z:=by
 cases x<;>first|exact Le.no _|exact h _ rfl
theorem RW {k:LD->LD->R}(h:∀s t,x= .map s t->Le (k s t) Z):Le (ab8 x k) Z:=by
 cases x<;>first|exact Le.no _|exact h _ _ rfl
theorem iS {l:List α}{k:α->List α->R}(h:∀a r,l=a::r->Le (k a r) Z):Le (bP l k) Z:=by
 cases l<;>first|exact Le.no _|exact h _ _ rfl
theorem lc {l:List α}{k:R}(h:l=[]->Le k Z):Le (ag l k) Z:=by
 cases l<;>first|exact Le.no _|exact h rfl
theorem RX {k:Da->R}(h:∀y,d= .p y->Le (k y) Z):Le (dP d k) Z:=by
 cases d<;>first|exact Le.no _|exact h _ rfl
theorem um {k:List D->R}(h:∀y,d= .tup y->Le (k y) Z):Le (aI d k) Z:=by
 cases d<;>first|exact Le.no _|exact h _ rfl
variable {id:Nat}
theorem RV {off:Nat}{k:R}(h:d= .box id off->Le k Z):Le (ab6 id off d k) Z:=by
 cases d<;>first|exact Le.no _|skip
 exact Le.grd fun e0=>Le.grd fun e1=>h (by simp_all)
theorem RU {k:Nat->R}(h:∀len,d= .arr id 0 len z->Le (k len) Z):Le (ab5 id z d k) Z:=by
 cases d<;>first|exact Le.no _|skip
 exact Le.grd fun e0=>Le.grd fun e1=>Le.grd fun e2=>h _ (by simp_all)
theorem Zv {k:Nat->Nat->R}(h:∀lo len,d= .arr id lo len z->Le (k lo len) Z):Le (aaE id z d k) Z:=by
 cases d<;>first|exact Le.no _|skip
 exact Le.grd fun e0=>Le.grd fun e1=>h _ _ (by simp_all)
theorem ab9 {k:R}(h:d= .map id->Le k Z):Le (dMp id d k) Z:=by
 cases d<;>first|exact Le.no _|skip
 exact Le.grd fun e0=>h (by simp_all)
theorem Zz {k:R}(h:d= .sl .nil z []->Le k Z):Le (dNl z d k) Z:=by
 unfold dNl;split
 ·exact Le.grd fun e=>h (by simp_all)
 ·exact Le.no _
theorem ab7 {k:LD->R}(h:∀es,d= .sl .exact z es->Le (k es) Z):Le (dEx z d k) Z:=by
 unfold dEx;split
 ·exact Le.grd fun e=>h _ (by simp_all)
 ·exact Le.no _
theorem Zx {f:Nat}{k:List D->R}(h:∀es,d= .fn f es->Le (k es) Z):Le (dFn f d k) Z:=by
 cases d<;>first|exact Le.no _|skip
 exact Le.grd fun e0=>h _ (by simp_all)
theorem SY {k:List D->R}(h:∀y,o= .box y->Le (k y) Z):Le (y_ o k) Z:=by
 cases o<;>first|exact Le.no _|exact h _ rfl
theorem SX {k:LD->R}(h:∀y,o= .arr y->Le (k y) Z):Le (V1 o k) Z:=by
 cases o<;>first|exact Le.no _|exact h _ rfl
theorem ć {k:LD->R}(h:∀y,o= .fz y->Le (k y) Z):Le (oFz o k) Z:=by
 cases o<;>first|exact Le.no _|exact h _ rfl
theorem A_ {k:LD->LD->R}(h:∀s t,o= .map s t->Le (k s t) Z):Le (aec o k) Z:=by
 cases o<;>first|exact Le.no _|exact h _ _ rfl
theorem z_ {k:LD->LD->R}(h:∀s t,o= .fzm s t->Le (k s t) Z):Le (aeb o k) Z:=by
 cases o<;>first|exact Le.no _|exact h _ _ rfl
theorem SZ {k:LD->R}(h:∀y,o= .byt y->Le (k y) Z):Le (acX o k) Z:=by
 cases o<;>first|exact Le.no _|exact h _ rfl
theorem Mj {k:R}(h:o= .dead->Le k Z):Le (Ć o k) Z:=by
 cases o<;>first|exact Le.no _|exact h rfl
theorem Zy {i:IntKind}{c:Int}{k:R}(h:x= .int i c->Le k Z):Le (aaG i c x k) Z:=by
 cases x<;>first|exact Le.no _|skip
 exact Le.grd fun e0=>Le.grd fun e1=>h (by rw[à e0,Á e1])
theorem U9 {c:Bool}{k:R}(h:x= .bool c->Le k Z):Le (Zw c x k) Z:=by
 cases x<;>first|exact Le.no _|skip
 rename_i b;cases b<;>cases c<;>first|exact Le.no _|exact h rfl
theorem ϕ {k:List D->R}(h:∀y,d= .agg y->Le (k y) Z):Le (adK d k) Z:=by
 cases d<;>first|exact Le.no _|exact h _ rfl
theorem ZA {k:R}(h:x= .nilptr->Le k Z):Le (dNp x k) Z:=by
 cases x<;>first|exact Le.no _|exact h rfl
theorem aca {k:R}(h:x= .nilmap->Le k Z):Le (dNm x k) Z:=by
 cases x<;>first|exact Le.no _|exact h rfl
theorem ϖ {f:Nat}{k:LD->R}(h:∀es,x= .fn f es->Le (k es) Z):Le (adL f x k) Z:=by
 cases x<;>first|exact Le.no _|skip
 exact Le.grd fun e0=>h _ (by simp_all)
theorem NA {s:Nat}{k:D->Tm->R}(h:∀d r,tm= .cons s d r->Le (k d r) Z):Le (Ĩ s tm k) Z:=by
 cases tm<;>first|exact Le.no _|skip
 exact Le.grd fun e=>h _ _ (by simp_all)
theorem X_ {k:R}(h:tm= .nil->Le k Z):Le (aeH tm k) Z:=by
 cases tm<;>first|exact Le.no _|exact h rfl
end
mutual
def fx:Da->Da->(Da->R)->R
 | .int i _,x,k=>aP i x fun n=>k (.int i n)
 | .str _,x,k=>dm x fun s=>k (.str s)
 | .bool _,x,k=>af x fun b=>k (.bool b)
 | .slice z _,x,k=>WZ z x fun l=>k (.slice z l)
 | .map _ _,x,k=>ab8 x fun a b=>k (.map a b)
 | .agg cs,x,k=>ab4 x fun ds=>uU cs ds fun es=>k (.agg es)
 | .nilptr,x,k=>dNp x (k .nilptr)
 | .nilmap,x,k=>dNm x (k .nilmap)
 |_,x,k=>k x
def uU:LD->LD->(LD->R)->R
 |[],l,k=>ag l (k [])
 |s::r,l,k=>bP l fun x t=>fx s x fun x=>uU r t fun t=>k (x::t)
end
mutual
def lZ:D->D->(D->R)->R
 | .p s,d,k=>dP d fun x=>fx s x fun x=>k (.p x)
 | .box i o,d,k=>ab6 i o d (k (.box i o))
 | .arr i 0 _ z,d,k=>ab5 i z d fun n=>k (.arr i 0 n z)
 | .map i,d,k=>dMp i d (k (.map i))
 | .sl .nil z [],d,k=>dNl z d (k (.sl .nil z []))
 | .fn f cs,d,k=>dFn f d fun ds=>sW cs ds fun es=>k (.fn f es)
 | .agg cs,d,k=>adK d fun ds=>sW cs ds fun es=>k (.agg es)
 |_,d,k=>k d
def sW:List D->List D->(List D->R)->R
 |[],l,k=>ag l (k [])
 |s::r,l,k=>bP l fun x t=>lZ s x fun x=>sW r t fun t=>k (x::t)
end
def è (s o:Ob)(k:Ob->R):R:=
 match s with
 | .box cs=>y_ o fun ds=>sW cs ds fun es=>k (.box es)
 | .arr _=>V1 o fun l=>k (.arr l)
 | .fz _=>oFz o fun l=>k (.fz l)
 | .byt _=>acX o fun l=>k (.byt l)
 | .map _ _=>aec o fun a b=>k (.map a b)
 | .fzm _ _=>aeb o fun a b=>k (.fzm a b)
 | .dead=>Ć o (k .dead)
 |_=>k o
def P1:List Ob->List Ob->(List Ob->R)->R
 |[],l,k=>ag l (k [])
 |s::r,l,k=>bP l fun x t=>è s x fun x=>P1 r t fun t=>k (x::t)
mutual
theorem EO:∀(s x:Da) {k:Da->R} {Z:R},Le (k x) Z->Le (fx s x k) Z
 | .int i _,x,k,Z,h=>by simp only[fx];exact fA fun n e=>by subst e;exact h
 | .str _,x,k,Z,h=>by simp only[fx];exact ld fun n e=>by subst e;exact h
 | .bool _,x,k,Z,h=>by simp only[fx];exact A1 fun n e=>by subst e;exact h
 | .slice z _,x,k,Z,h=>by simp only[fx];exact ZC fun n e=>by subst e;exact h
 | .map _ _,x,k,Z,h=>by simp only[fx];exact RW fun a b e=>by subst e;exact h
 | .agg cs,x,k,Z,h=>by simp only[fx];exact RT fun ds e=>by subst e;exact BC cs ds h
 | .nilptr,x,k,Z,h=>by simp only[fx];exact ZA fun e=>by subst e;exact h
 | .ptr _,x,k,Z,h=>by simp only[fx];exact h
 | .nilmap,x,k,Z,h=>by simp only[fx];exact aca fun e=>by subst e;exact h
 | .fn _ _,x,k,Z,h=>by simp only[fx];exact h
 | .nilfn,x,k,Z,h=>by simp only[fx];exact h
 | .iface _ _,x,k,Z,h=>by simp only[fx];exact h
 | .nilif,x,k,Z,h=>by simp only[fx];exact h
 | .sliceE _ _,x,k,Z,h=>by simp only[fx];exact h
 | .sym _ _,x,k,Z,h=>by simp only[fx];exact h
theorem BC:∀(s l:LD) {k:LD->R} {Z:R},Le (k l) Z->Le (uU s l k) Z
 |[],l,k,Z,h=>by simp only[uU];exact lc fun e=>by subst e;exact h
 |s::r,l,k,Z,h=>by simp only[uU];exact iS fun x t e=>by subst e;exact EO s x (BC r t h)
end
mutual
theorem ç:∀(s d:D) {k:D->R} {Z:R},Le (k d) Z->Le (lZ s d k) Z
 | .p s,d,k,Z,h=>by simp only[lZ];exact RX fun n e=>by subst e;exact EO s n h
 | .box i o,d,k,Z,h=>by simp only[lZ];exact RV fun e=>by subst e;exact h
 | .arr i 0 _ z,d,k,Z,h=>by simp only[lZ];exact RU fun n e=>by subst e;exact h
 | .arr i (_+1) _ z,d,k,Z,h=>by simp only[lZ];exact h
 | .map i,d,k,Z,h=>by simp only[lZ];exact ab9 fun e=>by subst e;exact h
 | .sl g z es,d,k,Z,h=>by
  unfold lZ;split<;>first
   |contradiction
   |exact h
   |(rename_i e;cases e;exact Zz fun e=>by subst e;exact h)
 | .fn f cs,d,k,Z,h=>by simp only[lZ];exact Zx fun ds e=>by subst e;exact rh cs ds h
 | .agg cs,d,k,Z,h=>by simp only[lZ];exact ϕ fun ds e=>by subst e;exact rh cs ds h
 | .tup _,d,k,Z,h=>by simp only[lZ];exact h
 | .el _ _ _,d,k,Z,h=>by simp only[lZ];exact h
 | .ip _ _,d,k,Z,h=>by simp only[lZ];exact h
 | .iface _ _,d,k,Z,h=>by simp only[lZ];exact h
 | .junk,d,k,Z,h=>by simp only[lZ];exact h
theorem rh:∀(s l:List D) {k:List D->R} {Z:R},Le (k l) Z->Le (sW s l k) Z
 |[],l,k,Z,h=>by simp only[sW];exact lc fun e=>by subst e;exact h
 |s::r,l,k,Z,h=>by simp only[sW];exact iS fun x t e=>by subst e;exact ç s x (rh r t h)
end
variable {Z:R}
theorem VT (s o:Ob){k:Ob->R}(h:Le (k o) Z):Le (è s o k) Z:=by
 cases s<;>first
  |exact h
  |exact SY fun ds e=>by subst e;exact rh _ ds h
  |exact SX fun n e=>by simp_all
  |exact ć fun n e=>by simp_all
  |exact SZ fun n e=>by simp_all
  |exact A_ fun a b e=>by simp_all
  |exact z_ fun a b e=>by simp_all
  |exact Mj fun e=>by simp_all
theorem EP:∀(s l:List Ob) {k:List Ob->R} {Z:R},Le (k l) Z->Le (P1 s l k) Z
 |[],l,k,Z,h=>by exact lc fun e=>by simp_all
 |s::r,l,k,Z,h=>by exact iS fun x t e=>by subst e;exact VT s x (EP r t h)
structure kF where
 el:Nat->Da->(Da->R)->R
 ca:Nat->List Ob->D->List Ob->KV->R
 mv:D->Da->(Da->R)->R
 (keys spl par:Bool)
structure kF.Ok (dc:kF):Prop where
 el:∀z x k,Le (dc.el z x k) (k x)
 ca:∀f hi v hp k,Le (dc.ca f hi v hp k) (k v hp)
 mv:∀z x k,Le (dc.mv z x k) (k x)
abbrev ab:=Nat->List D->List Ob->KV->R
def bA (cc:ab)(call:aw):Prop:=∀f vs hp (k k':KV),(∀v out,Le (k v out) (k' v out))->Le (cc f vs hp k) (cL (call f vs hp) fun p=>k' p.1 p.2)
abbrev KE:=D->List (Nat×Ob)->List Ob->R
def dY (o:Option gx)(k:KE):R:=cL o fun e=>k e.1 e.2.1 e.2.2
def Đ (vs:List D)(k:KE):R:=match vs with|[.p (.bool c),a,b]=>iL c (k a [] []) (k b [] [])|_=>none
def abQ (op:BinOp)(vs:List D)(k:KE):R:=
 match vs with
 |[.p (.int i a),.p (.int j b)]=>match op with
  | .quo=>iL (eqI b 0) none (if i=j then k (.p (.int i (ae i (a.tdiv b)))) [] []else none)
  | .rem=>iL (eqI b 0) none (if i=j then k (.p (.int i (a.tmod b))) [] []else none)
  | .shl=>iL (aO b 0) none (k (.p (.int i (ae i (a*2 ^ (min b.toNat i.bits))))) [] [])
  | .shr=>iL (aO b 0) none (k (.p (.int i (a.fdiv (2 ^ (min b.toNat i.bits))))) [] [])
  |op=>dY (mh (bin op (.p (.int i a)) (.p (.int j b)))) k
 |[.p (.str a),.p (.str b)]=>match op with
  | .add=>iL (Nat.ble (a.length+b.length) zJ) (k (.p (.str (a++b))) [] []) none
  |op=>dY (mh (bin op (.p (.str a)) (.p (.str b)))) k
 |[x,y]=>dY (mh (bin op x y)) k
 |_=>none
def ku:LN->LD->LD->(Bool->R)->R
 |[],_,_,k=>k true
 |c::ks,x::xs,y::ys,k=>cL (wE c x y) fun b=>iL b (ku ks xs ys k) (k false)
 |_,_,_,_=>none
def Y1 (ks:LN)(op:BinOp)(vs:List D)(k:KE):R:=
 match vs with
 |[.p (.agg xs),.p (.agg ys)]=>match op with
  | .eql=>ku ks xs ys fun b=>k (.p (.bool b)) [] []
  | .neq=>ku ks xs ys fun b=>k (.p (.bool (!b))) [] []
  |_=>none
 |_=>none
def iaL (dc:kF)(esz:Nat)(vs:List D)(k:KE):R:=
 match vs with
 |[.p (.slice z es),.p (.int _ i)]=>iL (Nat.beq z esz) (cL (cp es i) fun x=>dc.el esz x fun x=>k (.ip x 0) [] []) none
 |[.p (.sliceE z es),.p (.int _ i)]=>iL (Nat.beq z esz) (cL (cp es i) fun x=>dc.el esz x fun x=>k (.ip x 0) [] []) none
 |[.sl _ z es,.p (.int _ i)]=>iL (Nat.beq z esz) (cL (cp es i) fun x=>dc.el esz x fun x=>k (.ip x 0) [] []) none
 |[.arr id lo len z,.p (.int _ i)]=>iL (Nat.beq z esz) (iL (aS 0 i) (iL (aO i len) (k (.el id (lo+i.toNat) 0) [] []) none) none) none
 |_=>none
def ixL (vs:List D)(k:KE):R:=
 match vs with
 |[.p (.str s),.p (.int _ i)]=>cL (bif aS 0 i then s[i.toNat]? else none) fun b=>k (.p (.int .u8 (Int.ofNat b))) [] []
 |_=>none
def lL (x:D)(y:Nat)(k:Nat->R):R:=match x with| .p (.int _ i)=>iL (aS 0 i) (iL (aS i y) (k i.toNat) none) none|_=>none
def oJ (lo hi mx:Bool)(len:Nat)(xs:List D)(k:Nat->Nat->Nat->R):R:=
 match lo,hi,mx,xs with
 |false,false,false,[]=>k 0 len len
 |true,false,false,[a]=>lL a len fun l=>k l len len
 |false,true,false,[b]=>lL b len fun h=>k 0 h len
 |true,true,false,[a,b]=>lL b len fun h=>lL a h fun l=>k l h len
 |false,true,true,[b,c]=>lL c len fun m=>lL b m fun h=>k 0 h m
 |true,true,true,[a,b,c]=>lL c len fun m=>lL b m fun h=>lL a h fun l=>k l h m
 |_,_,_,_=>none
theorem gm {x:D}{y:Nat}{k:Nat->R}(h:∀n,nA x y=some n->Le (k n) Z):Le (lL x y k) Z:=by
 unfold lL;split
 ·refine Le.grd fun h1=>Le.grd fun h2=>h _ ?_
  simp only[nA,h1,h2,Bool.and_self,cond_true]
 ·exact Le.no _
theorem lM {lo hi mx:Bool}{len:Nat}{xs:List D}{k:Nat->Nat->Nat->R}(h:∀l a m,dj lo hi mx len xs=some (l,a,m)->Le (k l a m) Z):Le (oJ lo hi mx len xs k) Z:=by
 unfold oJ;split
 ·exact h _ _ _ rfl
 ·exact gm fun l h1=>h _ _ _ (by simp only[dj,h1])
 ·exact gm fun l h1=>h _ _ _ (by simp only[dj,h1])
 ·exact gm fun l h1=>gm fun l' h2=>h _ _ _ (by simp only[dj,h1,h2])
 ·exact gm fun l h1=>gm fun l' h2=>h _ _ _ (by simp only[dj,h1,h2])
 ·exact gm fun l h1=>gm fun l' h2=>gm fun l'' h3=>h _ _ _ (by simp only[dj,h1,h2,h3])
 ·exact Le.no _
def QH (lo hi:Bool)(vs:List D)(k:KE):R:=
 match vs with
 | .p (.str s)::xs=>oJ lo hi false s.length xs fun l h _=>k (.p (.str ((s.drop l).take (h - l)))) [] []
 |_=>none
def ī (lo hi:Bool)(l h lo0:Nat)(n:Option Nat)(e v:R):R:=
 match lo,hi,n with
 |true,false,some n=>iL (Nat.beq l h) (iL (Nat.blt lo0 n) e v) v
 |_,_,_=>v
theorem Ĭ (lo hi:Bool)(l h lo0:Nat)(os:List (Nat×Ob))(id:Nat)(e v:R):ī lo hi l h lo0 (Li os id) e v=bif lo&&!hi&&(Nat.beq l h&&qC os id lo0)then e else v:=by
 have hf:qC os id lo0=match Li os id with|some n=>Nat.blt lo0 n|none=>false:=by
  unfold qC Li;grind
 rw[hf];cases lo<;>cases hi<;>cases Li os id<;>simp only[ī,Bool.false_and,Bool.not_true,Bool.and_false,cond_false];cases Nat.beq l h<;>cases Nat.blt lo0 _<;>rfl
def Ğ (esz:Nat)(lo hi mx:Bool)(vs:List D)(ids:LN)(obs:List Ob)(k:KE):R:=
 match mx,vs with
 |false,.p (.slice z es)::xs=>iL (CU z esz es) (oJ lo hi false es.length xs fun l h _=>k (.p (.slice z ((es.drop l).take (h - l)))) [] []) none
 |false,.sl .nil z es::xs=>iL (CU z esz es) (oJ lo hi false es.length xs fun _ _ _=>k (.sl .nil z []) [] []) none
 |false,.arr id lo0 len0 z::xs=>iL (Nat.beq z esz) (oJ lo hi false len0 xs fun l h _=>ī lo hi l h lo0 (Li (ids.zip obs) id) (k (.sl .some z []) [] []) (k (.arr id (lo0+l) (h - l) z) [] [])) none
 |true,.p (.slice z es)::xs=>iL (CU z esz es) (oJ lo hi true es.length xs fun l h m=>iL (Nat.beq h m) (k (.sl .exact z ((es.drop l).take (h - l))) [] []) (k (.p (.slice z ((es.drop l).take (h - l)))) [] [])) none
 |mx,vs=>dY (nv esz lo hi mx vs ids obs) k
def acD (dc:kF)(n esz:Nat)(agg:Bool)(vs:List D)(k:KE):R:=
 match esz,agg,vs with
 |1,false,[.p (.agg cs),.p (.int _ i)]=>iL (aS 0 i) (iL (aO i n) (cL cs[i.toNat]? fun x=>dc.el 2001 x fun x=>k (.p x) [] []) none) none
 |esz,agg,vs=>dY (O5 n esz agg vs) k
def Sz (id o esz:Nat)(i:Int)(k:KE):Nat->Nat->R
 |0,_=>none
 |m+1,j=>iL (eqI i (j:Int)) (k (.box id (o+j*esz)) [] []) (Sz id o esz i k m (j+1))
def acy (n esz:Nat)(vs:List D)(k:KE):R:=
 match vs with
 |[.box id o,.p (.int _ i)]=>Sz id o esz i k n 0
 |vs=>dY (Ka n esz vs) k
def aex (esz:Nat)(lo hi:Bool)(vs:List D)(k:KE):R:=none
def aaC (n off:Nat)(agg:Bool)(e:Da)(k:KE):R:=cL (sub (cells e) off n) fun ds=>cL (eA agg (ds.map .p)) fun d=>k d [] []
def aaL (dc:kF)(off n:Nat):Nat:=match dc.par with|true=>1000*(off+1)+n|false=>0
def í (dc:kF)(n:Nat)(agg:Bool)(vs:List D)(obs:List Ob)(k:KE):R:=
 match vs with
 |[.el _ i off]=>match obs with
  |[.arr es]=>cL es[i]? fun e=>dc.el (aaL dc off n) e fun e=>aaC n off agg e k
  |[.fz es]=>cL es[i]? fun e=>dc.el (aaL dc off n) e fun e=>aaC n off agg e k
  |_=>none
 |vs=>dY (ik n agg vs obs) k
def QN (dc:kF)(n id i off:Nat)(d:D)(ids:LN)(obs:List Ob)(k:KE):R:=
 match ja (ids.zip obs) id with
 | .arr es=>cL es[i]? fun e=>dc.el (1000*(off+1)+n) e fun e=>cL (pur ((ids.zip obs).filter fun p=>!Nat.beq p.1 id) d) fun x=>iL (Nat.beq (cells x).length n) (iL (Nat.ble (off+n) (cells e).length) (cL (ej e (splice (cells e) off (cells x))) fun e'=>k .junk (ir ((ids.zip obs).filter fun p=>!Nat.beq p.1 id)++[(id,.arr (es.set i e'))]) []) none) none
 |_=>none
def QM (dc:kF)(n:Nat)(vs:List D)(ids:LN)(obs:List Ob)(k:KE):R:=
 match dc.par,vs with
 |true,[.el id i off,d]=>QN dc n id i off d ids obs k
 |false,[.el id i 0,d]=>match ja (ids.zip obs) id with
  | .arr es=>cL es[i]? fun e=>cL (pur ((ids.zip obs).filter fun p=>!Nat.beq p.1 id) d) fun x=>iL (Nat.beq (cells x).length n) (iL (Nat.beq (cells e).length n) (cL (ej e (cells x)) fun e'=>k .junk (ir ((ids.zip obs).filter fun p=>!Nat.beq p.1 id)++[(id,.arr (es.set i e'))]) []) none) none
  |_=>none
 |_,vs=>dY (oG n vs ids obs) k
def ad8 (dc:kF)(kt:TypeDesc)(z:D)(ok:Bool)(vs:List D)(ids:LN)(obs:List Ob)(k:KE):R:=none
def aaW (keys:Bool)(kt:TypeDesc)(vs:List D)(ids:LN)(obs:List Ob)(k:KE):R:=none
def ø (esz:Nat)(z:Da)(bytes base kk:Nat)(vs:List D)(k:KE):R:=
 match vs with
 |[.p (.int _ l),.p (.int _ c)]=>iL (aS 0 l&&aS l c&&Nat.ble (c.toNat*bytes) 281474976710656&&aS c 9223372036854775807) (k (.arr (base+kk) 0 l.toNat esz) [(base+kk,.arr (List.replicate l.toNat z))] []) none
 |_=>none
def cO (n bytes:Nat):Bool:=Nat.ble ((2*n+192)*bytes) 281474976710656&&Nat.ble (2*n+192) 9223372036854775807
def abK (tr:Bool)(esz bytes base kk:Nat)(vs:List D)(ids:LN)(obs:List Ob)(k:KE):R:=
 match vs with
 |[.arr id 0 len z,b]=>match ja (ids.zip obs) id with
  | .arr es=>match tr with
   |true=>iL (Nat.beq z esz) (cL (elems esz (ids.zip obs) b) fun ys=>iL (cO ((es.take len).length+ys.length) bytes) (k (.arr (base+kk) 0 (es.take len++ys).length esz) [(id,.dead),(base+kk,.arr (es.take len++ys))] []) none) none
   |false=>iL (Nat.beq z esz) (iL (Nat.beq len es.length) (cL (elems esz (ids.zip obs) b) fun ys=>iL (cO (es.length+ys.length) bytes) (k (.arr (base+kk) 0 (es++ys).length esz) [(id,.dead),(base+kk,.arr (es++ys))] []) none) none) none
  |_=>none
 |[.sl .nil z es,b]=>cL (elems esz (ids.zip obs) b) fun ys=>iL (cO (0+ys.length) bytes) (k (.arr (base+kk) 0 ys.length esz) [(base+kk,.arr ys)] []) none
 |[.sl .exact z [],b]=>cL (elems esz (ids.zip obs) b) fun ys=>iL (cO (0+ys.length) bytes) (k (.arr (base+kk) 0 ys.length esz) [(base+kk,.arr ys)] []) none
 |[.sl .exact z es,b]=>iL (CU z esz es) (cL (elems esz (ids.zip obs) b) fun ys=>iL (!es.isEmpty&&ys.isEmpty) (k (.sl .exact z es) [] []) (iL (cO (es.length+ys.length) bytes) (k (.arr (base+kk) 0 (es++ys).length esz) [(base+kk,.arr (es++ys))] []) none)) none
 |vs=>dY (sE esz bytes base kk vs ids obs) k
def abL (dc:kF)(esz bytes base kk:Nat)(vs:List D)(ids:LN)(obs:List Ob)(k:KE):R:=
 match dc.par,vs with
 |true,[.sl .exact z es,b]=>iL (CU z esz es) (cL (elems esz (ids.zip obs) b) fun ys=>iL (!es.isEmpty&&ys.isEmpty) (k (.sl .exact z es) [] []) (iL (cO (es.length+ys.length) bytes) (k (.arr (base+kk) 0 (es++ys).length esz) [(base+kk,.arr (es++ys))] []) none)) none
 |_,vs=>abK dc.keys esz bytes base kk vs ids obs k
def YO (bytes base kk:Nat)(vs:List D)(ids:LN)(obs:List Ob)(k:KE):R:=
 match vs with
 |[.arr id 0 len z,b]=>match ja (ids.zip obs) id with
  | .byt es=>iL (Nat.beq z 1) (iL (Nat.beq len es.length) (cL (elems 1 (ids.zip obs) b) fun ys=>iL (cO (es.length+ys.length) bytes) (k (.arr (base+kk) 0 (es++ys).length 1) [(id,.dead),(base+kk,.byt (es++ys))] []) none) none) none
  |_=>none
 |[.sl .nil z es,b]=>cL (elems 1 (ids.zip obs) b) fun ys=>iL (cO (0+ys.length) bytes) (k (.arr (base+kk) 0 ys.length 1) [(base+kk,.byt ys)] []) none
 |vs=>dY (AL bytes base kk vs ids obs) k
def QF (vs:List D)(k:KE):R:=
 match vs with
 |[.arr id lo len _]=>iL (Nat.beq len 0) none (k (.el id lo 0) [] [])
 |vs=>dY (sH vs) k
def Ľ (vs:List D)(ids:LN)(obs:List Ob)(k:KE):R:=
 match vs with
 |[.el id i off,.p (.int .i64 n)]=>match ja (ids.zip obs) id with
  | .byt es=>iL (Nat.beq off 0&&((aS 1 n&&aS n 9223372036854775807)&&Nat.ble (i+n.toNat) es.length)) (cL (cX ((es.drop i).take n.toNat)) fun s=>k (.p (.str s)) [(id,.dead)] []) none
  |_=>none
 |vs=>dY (Ef vs ids obs) k
def abN (vs:List D)(ids:LN)(obs:List Ob)(k:KE):R:=
 match vs with
 |[d]=>cL (elems 1 (ids.zip obs) d) fun es=>cL (cX es) fun s=>k (.p (.str s)) [] []
 |_=>none
def Zk (dc:kF)(cc:ab)(f:Nat)(args:List D)(ids:LN)(obs:List Ob)(len:Nat)(k:KE):R:=
 cc f (gC (kQ ids) args) (pC (kQ ids) obs) fun r out=>dc.ca f (pC (kQ ids) obs) r out fun r out=>iL (Nat.ble ids.length out.length) (k (jb (back ids.length len ids out.length) r) (ids.zip (pC (back ids.length len ids out.length) out)) ((pC (back ids.length len ids out.length) out).drop ids.length)) none
def Gp [Mv](dc:kF)(cc:ab)(f:Nat)(args:List D)(ids:LN)(obs:List Ob)(len:Nat)(k:KE):R:=
 match Mv.mv f with
 |true=>cc f (gC (kQ ids) args) (pC (kQ ids) obs) fun r out=>dc.ca f (pC (kQ ids) obs) r out fun r out=>iL (Nat.ble (eH f (gC (kQ ids) args) ids.length) out.length) (k (jb (back (eH f (gC (kQ ids) args) ids.length) len ids out.length) r) ((ids.take (eH f (gC (kQ ids) args) ids.length)).zip (pC (back (eH f (gC (kQ ids) args) ids.length) len ids out.length) out)++(ids.drop (eH f (gC (kQ ids) args) ids.length)).map fun i=>(i,.dead)) ((pC (back (eH f (gC (kQ ids) args) ids.length) len ids out.length) out).drop (eH f (gC (kQ ids) args) ids.length))) none
 |false=>Zk dc cc f args ids obs len k
def Ph [Mv](dc:kF)(cc:ab)(vs:List D)(ids:LN)(obs:List Ob)(len:Nat)(k:KE):R:=
 match vs with
 | .p (.fn f caps)::args=>match Mv.mv (IK f)with
  |true=>none
  |false=>Zk dc cc (IK f) (lU f (caps.map .p) (args.map norm)) ids obs len k
 | .fn f caps::args=>Gp dc cc (IK f) (lU f caps (args.map norm)) ids obs len k
 |_=>none
def abE [Mv](dc:kF)(cc:ab)(base:Nat)(o:O)(kk:Nat)(vs:List D)(ids:LN)(obs:List Ob)(len:Nat)(k:KE):R:=
 match o with
 | .pick=>Đ vs k
 | .bin op=>abQ op vs k
 | .binS ks op=>Y1 ks op vs k
 | .ia esz=>iaL dc esz vs k
 | .ix=>ixL vs k
 | .slStr lo hi=>QH lo hi vs k
 | .slSl esz lo hi mx=>Ğ esz lo hi mx vs ids obs k
 | .slW esz lo hi=>aex esz lo hi vs k
 | .ixa n esz agg=>acD dc n esz agg vs k
 | .iaa n esz=>acy n esz vs k
 | .load n agg=>í dc n agg vs obs k
 | .store n=>QM dc n vs ids obs k
 | .lkp kt z ok=>ad8 dc kt z ok vs ids obs k
 | .mupd kt=>aaW dc.keys kt vs ids obs k
 | .mksl esz z bytes=>ø esz z bytes base kk vs k
 | .app esz bytes=>abL dc esz bytes base kk vs ids obs k
 | .b2s=>abN vs ids obs k
 | .appB bytes=>YO bytes base kk vs ids obs k
 | .sdata=>QF vs k
 | .ustr=>Ľ vs ids obs k
 | .call f raw=>Gp dc cc f (bif raw then vs else vs.map norm) ids obs len k
 | .callv=>Ph dc cc vs ids obs len k
 |o=>dY (rD (fun _ _ _=>none) base o kk vs ids obs len) k
section laws
variable {k k':KE} (hk:∀v u n,Le (k v u n) (k' v u n))
include hk
theorem gt (o:Option gx):Le (dY o k) (dY o k'):=Le.opt fun e h=>by subst h;exact hk _ _ _
theorem đ (vs:List D):Le (Đ vs k) (dY (Ee vs) k'):=by
 unfold Đ;split
 ·exact Le.two (fun h=>by subst h;exact hk _ _ _) (fun h=>by subst h;exact hk _ _ _)
 ·exact Le.no _
theorem Κ (op:BinOp)(vs:List D):Le (abQ op vs k) (dY (F9 op vs) k'):=by
 unfold abQ;split
 ·split
  ·refine Le.two (fun _=>Le.no _) (fun h=>?_);split
   ·rename_i e;subst e;simp only[F9,bin,lJ,h,mh];exact hk _ _ _
   ·exact Le.no _
  ·refine Le.two (fun _=>Le.no _) (fun h=>?_);split
   ·rename_i e;subst e;simp only[F9,bin,lJ,h,mh];exact hk _ _ _
   ·exact Le.no _
  ·refine Le.two (fun _=>Le.no _) (fun h=>?_);simp only[F9,bin,nR,h,mh];exact hk _ _ _
  ·refine Le.two (fun _=>Le.no _) (fun h=>?_);simp only[F9,bin,nR,h,mh];exact hk _ _ _
  ·exact gt hk _
 ·split
  ·refine Le.grd fun h=>?_
   simp only[F9,bin,sK,h,mh];exact hk _ _ _
  ·exact gt hk _
 ·exact gt hk _
 ·exact Le.no _
omit hk in
theorem qz {q:Bool->R}{x:R}:∀(ks:LN) (xs ys:LD),(∀b,iV ks xs ys=some b->Le (q b) x)->Le (ku ks xs ys q) x
 |[],xs,ys,h=>by unfold ku;exact h true (by simp[iV])
 |c::ks,[],ys,h=>by unfold ku;exact Le.no _
 |c::ks,x::xs,[],h=>by unfold ku;exact Le.no _
 |c::ks,x::xs,y::ys,h=>by
  unfold ku;refine Le.opt fun b hb=>Le.two (fun e=>?_) (fun e=>?_)
  ·exact qz ks xs ys fun b' h'=>h b' (by simp only[iV,hb,e,cond_true,h'])
  ·exact h false (by simp only[iV,hb,e,cond_false])
theorem Y2 (ks:LN)(op:BinOp)(vs:List D):Le (Y1 ks op vs k) (dY (Ed ks op vs) k'):=by
 unfold Y1;split
 ·split
  ·refine qz _ _ _ fun b hb=>?_
   simp only[Ed,binS,hb,mh];exact hk _ _ _
  ·refine qz _ _ _ fun b hb=>?_
   simp only[Ed,binS,hb,mh];exact hk _ _ _
  ·exact Le.no _
 ·exact Le.no _
variable {dc:kF}
theorem acw (hd:dc.Ok)(esz:Nat)(vs:List D):Le (iaL dc esz vs k) (dY (RB esz vs) k'):=by
 unfold iaL;split
 ·refine Le.grd fun h=>Le.opt fun x hx=>(hd.el _ _ _).trans ?_
  simp only[RB,h,hx];exact hk _ _ _
 ·refine Le.grd fun h=>Le.opt fun x hx=>(hd.el _ _ _).trans ?_
  simp only[RB,h,hx];exact hk _ _ _
 ·refine Le.grd fun h=>Le.opt fun x hx=>(hd.el _ _ _).trans ?_
  simp only[RB,h,hx];exact hk _ _ _
 ·refine Le.grd fun h=>Le.grd fun h1=>Le.grd fun h2=>?_
  simp only[RB,h,h1,h2,cond_true];exact hk _ _ _
 ·exact Le.no _
theorem acB (vs:List D):Le (ixL vs k) (dY (ż vs) k'):=by
 unfold ixL;split
 ·refine Le.opt fun x hx=>?_
  simp only[ż,hx];exact hk _ _ _
 ·exact Le.no _
theorem WF (lo hi:Bool)(vs:List D):Le (QH lo hi vs k) (dY (oF lo hi vs) k'):=by
 unfold QH;split
 ·refine lM fun l h m hp=>?_
  simp only[oF,hp];exact hk _ _ _
 ·exact Le.no _
theorem ğ (esz:Nat)(lo hi mx:Bool)(vs:List D)(ids:LN)(obs:List Ob):Le (Ğ esz lo hi mx vs ids obs k) (dY (nv esz lo hi mx vs ids obs) k'):=by
 unfold Ğ;split
 ·refine Le.grd fun h=>lM fun l h' m hp=>?_
  simp only[nv,h,hp,cond_false];exact hk _ _ _
 ·refine Le.grd fun h=>lM fun l h' m hp=>?_
  simp only[nv,h,hp,cond_true];exact hk _ _ _
 ·refine Le.grd fun h=>lM fun l h' m hp=>?_
  rw[Ĭ];simp only[nv,h,hp,cond_false];cases lo&&!hi&&(Nat.beq l h'&&qC (ids.zip obs) _ _)<;>exact hk _ _ _
 ·refine Le.grd fun h=>lM fun l h' m hp=>Le.two (fun h1=>?_) (fun h1=>?_)
  ·simp only[nv,h,hp,h1];exact hk _ _ _
  ·simp only[nv,h,hp,h1];exact hk _ _ _
 ·exact gt hk _
theorem d_ (hd:dc.Ok)(n esz:Nat)(agg:Bool)(vs:List D):Le (acD dc n esz agg vs k) (dY (O5 n esz agg vs) k'):=by
 unfold acD;split
 ·rename_i cs kk i;refine Le.grd fun h1=>Le.grd fun h2=>Le.opt fun x hx=>(hd.el _ _ _).trans ?_
  have hs:sub (cs.map D.p) (i.toNat*1) 1=some [.p x]:=by
   have hl:i.toNat<cs.length:=by
    grind
   rw[lθ hl,lβ]at hx;unfold sub;rw[Nat.mul_one,lζ,show Nat.ble (i.toNat+1) cs.length=true by simp;omega,lι (by simp_all),List.getElem_map,hx];rfl
  simp only[O5,h1,h2,hs,eA];exact hk _ _ _
 ·exact gt hk _
omit hk in
theorem bO (a b:Int):eqI a b=decide (a=b):=by
 cases a<;>cases b<;>simp only[eqI]
 ·rw[mε];simp;omega
 ·simp
 ·simp
 ·rw[mε];simp
omit hk in
theorem cZ (a b:Int):aO a b=decide (a<b):=by
 cases a<;>cases b<;>simp only[aO]
 ·rw[mε];simp[Nat.blt_eq]
 ·rw[mε];simp;omega
 ·rw[mε];simp;omega
 ·rw[mε];simp[Nat.blt_eq];omega
omit hk in
theorem cn (a b:Int):aS a b=decide (a<=b):=by
 unfold aS;rw[cZ,mε];simp
omit hk in
theorem Lt (id o esz:Nat)(i:Int){X:R}:∀(m j n:Nat),j+m=n->(∀q:Nat,i=(q:Int)->q<n->Le (k (.box id (o+q*esz)) [] []) X)->Le (Sz id o esz i k m j) X
 |0,_,_,_,_=>Le.no _
 |m+1,j,n,h,hX=>by
  unfold Sz;refine Le.two (fun e=>?_) (fun _=>Lt id o esz i m (j+1) n (by omega) hX);rw[bO,lδ]at e;exact hX j e (by omega)
theorem Ϸ (n esz:Nat)(vs:List D):Le (acy n esz vs k) (dY (Ka n esz vs) k'):=by
 unfold acy;split
 ·rename_i id o kk i;refine Lt id o esz i n 0 n (by omega) fun q hq hn=>?_
  subst hq;have h1:aS 0 (q:Int)=true:=by rfl
  have h2:aO (q:Int) (n:Int)=true:=by rw[cZ,lδ];omega
  simp only[Ka,h2,Int.toNat_natCast];exact hk _ _ _
 ·exact gt hk _
theorem R_ (esz:Nat)(lo hi:Bool)(vs:List D):Le (aex esz lo hi vs k) (dY (abC esz lo hi vs) k'):=Le.no _
theorem î (hd:dc.Ok)(n:Nat)(agg:Bool)(vs:List D)(obs:List Ob):Le (í dc n agg vs obs k) (dY (ik n agg vs obs) k'):=by
 unfold í;split
 ·split
  ·refine Le.opt fun e he=>(hd.el _ _ _).trans (Le.opt fun ds hds=>Le.opt fun d hd=>?_)
   simp only[ik,he,hds,hd];exact hk _ _ _
  ·refine Le.opt fun e he=>(hd.el _ _ _).trans (Le.opt fun ds hds=>Le.opt fun d hd=>?_)
   simp only[ik,he,hds,hd];exact hk _ _ _
  ·exact Le.no _
 ·exact gt hk _
theorem WP (hd:dc.Ok)(n id i off:Nat)(d:D)(ids:LN)(obs:List Ob):Le (QN dc n id i off d ids obs k) (dY (oG n [.el id i off,d] ids obs) k'):=by
 unfold QN;split
 ·rename_i es hl;refine Le.opt fun e he=>(hd.el _ _ _).trans (Le.opt fun x hx=>Le.grd fun h1=>Le.grd fun h2=>Le.opt fun e' he'=>?_)
  simp only[oG,hl,he,hx,h1,h2,he'];exact hk _ _ _
 ·exact Le.no _
theorem WO (hd:dc.Ok)(n:Nat)(vs:List D)(ids:LN)(obs:List Ob):Le (QM dc n vs ids obs k) (dY (oG n vs ids obs) k'):=by
 unfold QM;split
 ·exact WP hk hd _ _ _ _ _ _ _
 ·split
  ·rename_i es hl;refine Le.opt fun e he=>Le.opt fun x hx=>Le.grd fun h1=>Le.grd fun h2=>Le.opt fun e' he'=>?_
   have hb:=lη h1;have hb2:=lη h2;have hs:splice (cells e) 0 (cells x)=cells x:=by simp[splice,hb,hb2.symm▸List.drop_length]
   have hle:Nat.ble (0+n) (cells e).length=true:=by simp_all
   simp only[oG,hl,he,hx,h1,hle,hs,he'];exact hk _ _ _
  ·exact Le.no _
 ·exact gt hk _
theorem o_ (hd:dc.Ok)(kt:TypeDesc)(z:D)(ok:Bool)(vs:List D)(ids:LN)(obs:List Ob):Le (ad8 dc kt z ok vs ids obs k) (dY (adD kt z ok vs ids obs) k'):=Le.no _
theorem ú (keys:Bool)(kt:TypeDesc)(vs:List D)(ids:LN)(obs:List Ob):Le (aaW keys kt vs ids obs k) (dY (aam kt vs ids obs) k'):=Le.no _
theorem ù (esz:Nat)(z:Da)(bytes base kk:Nat)(vs:List D):Le (ø esz z bytes base kk vs k) (dY (Ke esz z bytes base kk vs) k'):=by
 unfold ø;split
 ·refine Le.grd fun h=>?_
  simp only[Ke,h,cond_true];exact hk _ _ _
 ·exact Le.no _
theorem Γ (tr:Bool)(esz bytes base kk:Nat)(vs:List D)(ids:LN)(obs:List Ob):Le (abK tr esz bytes base kk vs ids obs k) (dY (sE esz bytes base kk vs ids obs) k'):=by
 unfold abK;split
 ·split
  ·rename_i es hl;split
   ·refine Le.grd fun h1=>Le.opt fun ys hy=>Le.grd fun h3=>?_
    unfold cO at h3;simp only[sE,pp,hl,h1,cond_true,hy,List.drop_zero,h3,lα,List.nil_append];exact hk _ _ _
   refine Le.grd fun h1=>Le.grd fun h2=>Le.opt fun ys hy=>Le.grd fun h3=>?_
   have h2':=lη h2;subst h2';unfold cO at h3;simp only[sE,pp,hl,h1,cond_true,hy,List.drop_zero,List.take_length,h3,lα,List.nil_append];exact hk _ _ _
  ·exact Le.no _
 ·refine Le.opt fun ys hy=>Le.grd fun h3=>?_
  unfold cO at h3;simp only[sE,pp,hy,List.isEmpty_nil,Bool.not_true,Bool.and_false,List.length_nil,h3,List.nil_append];rw[Nat.zero_add];exact hk _ _ _
 ·refine Le.opt fun ys hy=>Le.grd fun h3=>?_
  unfold cO at h3;simp only[sE,pp,CU,List.isEmpty_nil,Bool.or_true,cond_true,hy,Bool.not_true,Bool.and_false,List.length_nil,h3,List.nil_append];rw[Nat.zero_add];exact hk _ _ _
 ·refine Le.grd fun h1=>Le.opt fun ys hy=>Le.two (fun h2=>?_) (fun h2=>Le.grd fun h3=>?_)
  ·rw[lγ]at h2;simp only[sE,pp,h1,cond_true,hy,h2.1,h2.2,Bool.and_self];exact hk _ _ _
  ·unfold cO at h3;rw[Bool.and_comm]at h2;simp only[sE,pp,h1,cond_true,hy,List.isEmpty_nil,Bool.true_and,h2,h3,List.nil_append];rw[<-lα];exact hk _ _ _
 ·exact gt hk _
theorem Δ (dc:kF)(esz bytes base kk:Nat)(vs:List D)(ids:LN)(obs:List Ob):Le (abL dc esz bytes base kk vs ids obs k) (dY (sE esz bytes base kk vs ids obs) k'):=by
 unfold abL;split
 ·refine Le.grd fun h1=>Le.opt fun ys hy=>Le.two (fun h2=>?_) (fun h2=>Le.grd fun h3=>?_)
  ·rw[lγ]at h2;simp only[sE,pp,h1,cond_true,hy,h2.1,h2.2,Bool.and_self];exact hk _ _ _
  ·unfold cO at h3;rw[Bool.and_comm]at h2;simp only[sE,pp,h1,cond_true,hy,List.isEmpty_nil,Bool.true_and,h2,h3,List.nil_append];rw[<-lα];exact hk _ _ _
 ·exact Γ hk _ _ _ _ _ _ _ _
theorem YP (bytes base kk:Nat)(vs:List D)(ids:LN)(obs:List Ob):Le (YO bytes base kk vs ids obs k) (dY (AL bytes base kk vs ids obs) k'):=by
 unfold YO;split
 ·split
  ·rename_i es hl;refine Le.grd fun h1=>Le.grd fun h2=>Le.opt fun ys hy=>Le.grd fun h3=>?_
   have h2':=lη h2;subst h2';unfold cO at h3;simp only[AL,AQ,hl,h1,cond_true,hy,List.drop_zero,List.take_length,h3,lα,List.nil_append];exact hk _ _ _
  ·exact Le.no _
 ·refine Le.opt fun ys hy=>Le.grd fun h3=>?_
  unfold cO at h3;simp only[AL,AQ,hy,List.isEmpty_nil,Bool.not_true,Bool.and_false,List.length_nil,h3,List.nil_append];rw[Nat.zero_add];exact hk _ _ _
 ·exact gt hk _
theorem WC (vs:List D):Le (QF vs k) (dY (sH vs) k'):=by
 unfold QF;split
 ·refine Le.two (fun _=>Le.no _) (fun h=>?_);simp only[sH,h,val];exact hk _ _ _
 ·exact gt hk _
theorem ľ (vs:List D)(ids:LN)(obs:List Ob):Le (Ľ vs ids obs k) (dY (Ef vs ids obs) k'):=by
 unfold Ľ;split
 ·split
  ·rename_i es hl;refine Le.grd fun h1=>Le.opt fun s hs=>?_
   simp only[Ef,hl,h1,hs];exact hk _ _ _
  ·exact Le.no _
 ·exact gt hk _
theorem Ζ (vs:List D)(ids:LN)(obs:List Ob):Le (abN vs ids obs k) (dY (UQ vs ids obs) k'):=by
 unfold abN;split
 ·refine Le.opt fun es he=>Le.opt fun s hs=>?_
  simp only[UQ,he,hs];exact hk _ _ _
 ·exact Le.no _
variable {cc:ab}
theorem Kx (hd:dc.Ok){call:aw}(hc:bA cc call)(f:Nat)(args:List D)(ids:LN)(obs:List Ob)(len:Nat):Le (Zk dc cc f args ids obs len k) (dY (fq call f args ids obs len) k'):=by
 refine(hc f _ _ _ (fun r out=>iL (Nat.ble ids.length out.length) (k' (mapD (back ids.length len ids out.length) r) (ids.zip (out.map (ck (back ids.length len ids out.length)))) ((out.map (ck (back ids.length len ids out.length))).drop ids.length)) none) fun r out=>(hd.ca _ _ _ _ _).trans ?_).trans ?_
 ·rw[gK,nH];exact Le.grd fun h=>by simp only[h,iL];simp_all
 ·rw[jH,nH,lk];unfold fq dY;cases call f (mapD.mapDL (idx ids) args) (obs.map (ck (idx ids)))with
  |none=>exact Le.no _
  |some p=>
   refine Le.grd fun h=>?_
   simp only[h,cond_true];exact Le.refl _
theorem Et [Mv](hd:dc.Ok){call:aw}(hc:bA cc call)(f:Nat)(args:List D)(ids:LN)(obs:List Ob)(len:Nat):Le (Gp dc cc f args ids obs len k) (dY (qt call f args ids obs len) k'):=by
 unfold Gp qt;cases Mv.mv f
 ·exact Kx hk hd hc _ _ _ _ _
 generalize hm:eH f (gC (kQ ids) args) ids.length=m;refine(hc f _ _ _ (fun r out=>iL (Nat.ble m out.length) (k' (mapD (back m len ids out.length) r) ((ids.take m).zip (out.map (ck (back m len ids out.length)))++(ids.drop m).map fun i=>(i,.dead)) ((out.map (ck (back m len ids out.length))).drop m)) none) fun r out=>(hd.ca _ _ _ _ _).trans ?_).trans ?_
 ·rw[gK,nH];exact Le.grd fun h=>by simp only[h,iL];simp_all
 ·rw[jH,lk]at hm;rw[jH,nH,lk,hm];unfold lh dY;cases call f (mapD.mapDL (idx ids) args) (obs.map (ck (idx ids)))with
  |none=>exact Le.no _
  |some p=>
   refine Le.grd fun h=>?_
   simp only[h,cond_true];exact Le.refl _
theorem U7 [Mv](hd:dc.Ok){call:aw}(hc:bA cc call)(vs:List D)(ids:LN)(obs:List Ob)(len:Nat):Le (Ph dc cc vs ids obs len k) (dY (AY call vs ids obs len) k'):=by
 unfold Ph AY;split
 ·rename_i f caps args;simp;cases Mv.mv (IK f)
  ·exact Kx hk hd hc _ _ _ _ _
  ·exact Le.no _
 ·exact Et hk hd hc _ _ _ _ _
 ·exact Le.no _
theorem Ž [Mv](hd:dc.Ok){call:aw}(hc:bA cc call)(base:Nat)(o:O)(kk:Nat)(vs:List D)(ids:LN)(obs:List Ob)(len:Nat):Le (abE dc cc base o kk vs ids obs len k) (dY (wo call base o kk vs ids obs len) k'):=by
 unfold abE;split
 ·exact đ hk _
 ·exact Κ hk _ _
 ·exact Y2 hk _ _ _
 ·exact acw hk hd _ _
 ·exact acB hk _
 ·exact WF hk _ _ _
 ·exact ğ hk _ _ _ _ _ _ _
 ·exact R_ hk _ _ _ _
 ·exact d_ hk hd _ _ _ _
 ·exact Ϸ hk _ _ _
 ·exact î hk hd _ _ _ _
 ·exact WO hk hd _ _ _ _
 ·exact o_ hk hd _ _ _ _ _ _
 ·exact ú hk _ _ _ _ _
 ·exact ù hk _ _ _ _ _ _
 ·exact Δ hk _ _ _ _ _ _ _ _
 ·exact Ζ hk _ _ _
 ·exact YP hk _ _ _ _ _ _
 ·exact WC hk _
 ·exact ľ hk _ _ _
 ·exact Et hk hd hc _ _ _ _ _
 ·exact U7 hk hd hc _ _ _ _
 ·have e:rD (fun _ _ _=>none) base o kk vs ids obs len=wo call base o kk vs ids obs len:=by
   cases o<;>first|rfl|simp_all|rfl
  rw[e];exact gt hk _
end laws
end
section
def gdL (x:eP)(tm:Tm)(t e:R):R:=
 match x.gd with
 |none=>t
 |some (g,w)=>match get tm g with
  | .p (.bool b)=>match w with
   |true=>iL b t e
   |false=>iL b e t
  | .tup []=>e
  |_=>none
theorem acq {x:eP}{tm:Tm}{t e X:R}(ht:dE x tm=some true->Le t X)(he:dE x tm=some false->Le e X):Le (gdL x tm t e) X:=by
 unfold gdL;split
 ·rename_i h;exact ht (by simp[dE,h])
 ·rename_i g w h;split
  ·rename_i b hb;have hg:dE x tm=some (b==w):=by simp[dE,h,hb]
   cases w
   ·exact Le.two (fun e=>he (by simp_all)) (fun e=>ht (by simp_all))
   ·exact Le.two (fun e=>ht (by simp_all)) (fun e=>he (by simp_all))
  ·rename_i hb;exact he (by simp[dE,h,hb])
  ·exact Le.no _
variable [Mv]
def xT (o:O)(vs:List D)(hp:List Ob):LN:=
 match o with
 | .call f _=>match Mv.mv f with
  |true=>fW hp bi ((lP (eL vs []) []).flatMap fun i=>ky (aX hp i)) (lP (eL vs []) [])
  |false=>fW hp bi (eL vs []) []
 | .callv=>match vs with
  | .fn f caps::args=>match Mv.mv (IK f)with
   |true=>fW hp bi ((lP (eL (lU f caps (args.map norm)) []) []).flatMap fun i=>ky (aX hp i)) (lP (eL (lU f caps (args.map norm)) []) [])
   |false=>fW hp bi (eL vs []) []
  |vs=>fW hp bi (eL vs []) []
 |o=>bM o vs hp
theorem þ (o:O)(vs:List D)(hp:List Ob):xT o vs hp=dU o vs hp:=by
 cases o<;>first
  |rfl
  |rfl
  |(
    simp only[xT,eu,fj,lν,sT];rfl)
  |(
    simp only[xT,dU,rZ];split
    ·simp only[eu,fj,lν,sT];cases Mv.mv _<;>rfl
    ·simp only[eu,fj,lν];rfl)
def QJ (v:D)(k:D->R):R:=match v with
 | .p (.bool b)=>iL b (k (.p (.bool true))) (k (.p (.bool false)))
 |v=>k v
theorem WI {v:D}{k:D->R}{X:R}(h:Le (k v) X):Le (QJ v k) X:=by
 unfold QJ;split
 ·rename_i b;cases b<;>exact h
 ·exact h
def Ģ (s:Bool)(v:D)(k:D->R):R:=match s with
 |true=>QJ v k
 |false=>k v
theorem WJ {s:Bool}{v:D}{k:D->R}{X:R}(h:Le (k v) X):Le (Ģ s v k) X:=by
 cases s
 ·exact h
 ·exact WI h
def aax (d:Option Nat):List eP->Bool
 |[]=>false
 |x::r=>match d with
  |none=>false
  |some t=>(match x.gd with|some (g,_)=>Nat.beq g t|none=>false)||((match x.op,x.as with| .pick,.t g::_=>Nat.beq g t|_,_=>false)||aax d r)
def opL (dc:kF)(s:Bool)(cc:ab)(base:Nat)(x:eP)(tm:Tm)(hp:List Ob)(k:D->List Ob->gy->R):R:=
 iL (!(ed x.op)||dq (aX hp (base+x.k)))
  (abE dc cc base x.op x.k (x.as.map (ev tm)) (xT x.op (x.as.map (ev tm)) hp) ((xT x.op (x.as.map (ev tm)) hp).map (aX hp)) hp.length fun v ups new=>Ģ s v fun v=>
   k v (grow (ar hp ups) new) ⟨bif ed x.op then(base+x.k)::xT x.op (x.as.map (ev tm)) hp else xT x.op (x.as.map (ev tm)) hp,xn (xT x.op (x.as.map (ev tm)) hp) hp ups,!new.isEmpty,hp.length⟩) none
def afz (tm:Tm)(hp:List Ob)(k:K):R:=k tm hp
def D_ (dc:kF)(cc:ab)(base:Nat):List eP->Tm->List Ob->List gy->(Tm->List Ob->List gy->R)->R
 |[],tm,hp,fs,k=>k tm hp fs.reverse
 |x::r,tm,hp,fs,k=>afz tm hp fun tm hp=>gdL x tm (opL dc (dc.spl||aax x.dst r) cc base x tm hp fun v hp f=>D_ dc cc base r (put x.dst v tm) hp (f::fs) k) (D_ dc cc base r (put x.dst (.tup []) tm) hp (⟨[],[],false,0⟩::fs) k)
section
variable {dc:kF} (hd:dc.Ok) {cc:ab} {call:aw} (hc:bA cc call) {base:Nat}
include hd hc
theorem ac1 {s:Bool}{x:eP}{tm:Tm}{hp:List Ob}{k:D->List Ob->gy->R}{X:R}(h:∀v hp' fL,rG call base x ⟨tm,hp⟩=some (⟨put x.dst v tm,hp'⟩,cC fL)->Le (k v hp' fL) X):Le (opL dc s cc base x tm hp k) X:=by
 refine Le.grd fun hm=>(Ž (fun _ _ _=>Le.refl _) hd hc _ _ _ _ _ _ _).trans ?_
 refine Le.opt fun e he=>?_
 obtain⟨v,ups,new⟩:=e;refine WJ (h v _ _ ?_);simp only[þ]at he ⊢
 simp only[rG,hm,cond_true,he,cC,mV]
theorem HQ:∀(ops:List eP) (tm:Tm) (hp:List Ob) (fs:List gy) (k:Tm->List Ob->List gy->R) (X:R),(∀tm' hp' fs',eN call base ops ⟨tm,hp⟩ (fs.map cC)=some (⟨tm',hp'⟩,fs'.map cC)->Le (k tm' hp' fs') X)->Le (D_ dc cc base ops tm hp fs k) X
 |[],tm,hp,fs,k,X,h=>h _ _ _ (by simp only[eN,List.map_reverse])
 |x::r,tm,hp,fs,k,X,h=>by
  refine acq (fun hg=>ac1 hd hc fun v hp' fL he=>HQ r _ _ _ _ _ fun tm' hp'' fs' hr=>h _ _ _ ?_) (fun hg=>HQ r _ _ _ _ _ fun tm' hp'' fs' hr=>h _ _ _ ?_)
  ·simp only[eN,hg,he];exact hr
  ·simp only[eN,hg];exact hr
end
theorem Bd {call:aw}{base:Nat}:∀{ops:List eP} {st st':St} {fs fs':List eC},eN call base ops st fs=some (st',fs')->mK call base ops st=some st'
 |[],st,st',fs,fs',h=>by
  simp only[eN,lβ,lψ]at h;simp only[mK,h.1]
 |x::r,st,st',fs,fs',h=>by
  simp only[eN]at h;simp only[mK];split at h
  ·cases h
  ·split at h
   ·cases h
   ·exact Bd h
  ·exact Bd h
abbrev JJ:=Ex->Tm->List Ob->R
def oV (o:Option (Ex×St))(J:JJ):R:=cL o fun p=>J p.1 p.2.tm p.2.hp
def JLe (J J':JJ):Prop:=∀ex tm hp,Le (J ex tm hp) (J' ex tm hp)
def Lg (ex:Ex)(n:R)(e:Nat->R)(r:R):R:=Ex.rec (motive:=fun _=>R) n (fun i=>e i) r ex
def aeo (dc:kF)(cc:ab)(nal:Nat)(ops:List eP)(prs:Option (List (Nat×Nat)))(out:LN)(tm:Tm)(hp:List Ob)(J:JJ):R:=
 D_ dc cc hp.length ops tm (grow hp (List.replicate nal .unborn)) [] fun tm hp fs=>match prs with
  |none=>J .norm (fw out id tm) hp
  |some ps=>iL (ny fs ps) (J .norm (fw out id tm) hp) none
variable {dc:kF} {cc:ab}
theorem N_ (hd:dc.Ok){call:aw}(hc:bA cc call)(nal:Nat)(ops:List eP)(prs:Option (List (Nat×Nat)))(out:LN)(tm:Tm)(hp:List Ob){J J':JJ}(hJ:JLe J J')(n m:Nat):Le (aeo dc cc nal ops prs out tm hp J) (oV (cr call n m (.reg nal ops prs out) ⟨tm,hp⟩) J'):=by
 refine HQ hd hc _ _ _ _ _ _ fun tm' hp' fs' he=>?_
 split
 ·have h0:=Bd he;simp only[cr,uy,h0,cL];exact hJ _ _ _
 ·refine Le.grd fun ha=>?_
  rw[oH]at ha;simp at he;simp only[cr,uy,he,ha,cL];exact hJ _ _ _
def CZ (m:Nat)(live:LN)(tm:Tm)(hp:List Ob)(k:K):R:=
 k (fw live (jb (kQ (fW hp bi (eL (live.map (get tm)) (jR m hp)) (List.range m)))) tm) (pd (fW hp bi (eL (live.map (get tm)) (jR m hp)) (List.range m)) hp)
theorem G0 (m:Nat)(live:LN)(tm:Tm)(hp:List Ob):∃st,pO m (.keep live) ⟨tm,hp⟩=some st/\∀k,CZ m live tm hp k=k st.tm st.hp:=by
 refine⟨_,rfl,fun k=>?_⟩
 unfold CZ;have e:jb (kQ (fW hp bi (eL (live.map (get tm)) (jR m hp)) (List.range m)))=mapD (idx (close hp bi (dids.didsL (live.map (get tm))++(hp.take m).flatMap ky) (List.range m))):=by
  funext d
  rw[gK,lk,eu,fj,jK]
 rw[e,mf,eu,fj,jK]
def ghL (m:Nat)(g:Gh)(tm:Tm)(hp:List Ob)(k:K):R:=
 match g with
 | .keep live=>CZ m live tm hp k
 |g=>cL (pO m g ⟨tm,hp⟩) fun st=>k st.tm st.hp
def Zr (d:D)(t e:R):R:=match d with| .p (.bool b)=>iL b t e|_=>none
abbrev df:=Nat->Bool->Nat->LN->Co->Nat->Tm->List Ob->JJ->R
def ghD (lp:df)(n m:Nat)(g:Gh)(c:Co)(p:Nat)(tm:Tm)(hp:List Ob)(J:JJ)(k:K):R:=
 match g with
 | .keep live=>lp p false m live c n tm hp J
 | .own s z=>ghL m (.own s z) tm hp k
 | .ownc s o z=>ghL m (.ownc s o z) tm hp k
 | .frz s=>ghL m (.frz s) tm hp k
 | .frzc s o=>ghL m (.frzc s o) tm hp k
def rE (lp:df)(dc:kF)(cc:ab)(n m:Nat)(c:Co):Nat->Tm->List Ob->JJ->R:=
 Co.rec (motive:=fun _=>Nat->Tm->List Ob->JJ->R)
  (fun _ tm hp J=>J .norm tm hp)
  (fun nal ops prs out _ tm hp J=>aeo dc cc nal ops prs out tm hp J)
  (fun _ _ a b p tm hp J=>a (4*p+1) tm hp fun ex tm hp=>Lg ex (b (4*p+2) tm hp J) (fun i=>J (.exit i) tm hp) (J .ret tm hp))
  (fun x _ _ t e p tm hp J=>Zr (ev tm x) (t (4*p+1) tm hp J) (e (4*p+2) tm hp J))
  (fun id _ b p tm hp J=>b (4*p+3) tm hp fun ex tm hp=>Lg ex (J .norm tm hp) (fun i=>iL (Nat.beq i id) (J .norm tm hp) (J (.exit i) tm hp)) (J .ret tm hp))
  (fun live b _ p tm hp J=>lp p true m live b n tm hp J)
  (fun id _ tm hp J=>J (.exit id) tm hp)
  (fun _ tm hp J=>J .ret tm hp)
  (fun g c b p tm hp J=>ghD lp n m g c p tm hp J fun tm hp=>b (4*p+3) tm hp J)
  c
def cq:Co->Nat->List (Nat×LN×Co×Bool)
 | .seq a b,p=>cq a (4*p+1)++cq b (4*p+2)
 | .cond _ a b,p=>cq a (4*p+1)++cq b (4*p+2)
 | .block _ b,p=>cq b (4*p+3)
 | .loop live b,p=>[(p,live,b,true)]
 | .gh (.keep live) b,p=>[(p,live,b,false)]
 | .gh _ b,p=>cq b (4*p+3)
 |_,_=>[]
def aeg (live:LN)(b:Co)(k:Bool):Co:=match k with|true=> .loop live b|false=> .gh (.keep live) b
def bk (lp:df)(call:aw)(n m:Nat)(e:Nat×LN×Co×Bool):Prop:=
 ∀tm hp J J',JLe J J'->Le (lp e.1 e.2.2.2 m e.2.1 e.2.2.1 n tm hp J) (oV (cr call n m (aeg e.2.1 e.2.2.1 e.2.2.2) ⟨tm,hp⟩) J')
section
variable {lp:df} {dc:kF} (hd:dc.Ok) {cc:ab} {call:aw} (hc:bA cc call) {n m:Nat}
include hd hc
theorem gq:∀(c:Co) (p:Nat) (tm:Tm) (hp:List Ob) (J J':JJ),(∀e∈cq c p,bk lp call n m e)->JLe J J'->Le (rE lp dc cc n m c p tm hp J) (oV (cr call n m c ⟨tm,hp⟩) J')
 | .skip,p,tm,hp,J,J',hl,hJ=>hJ _ _ _
 | .ret,p,tm,hp,J,J',hl,hJ=>hJ _ _ _
 | .exit i,p,tm,hp,J,J',hl,hJ=>hJ _ _ _
 | .reg nal ops prs out,p,tm,hp,J,J',hl,hJ=>N_ hd hc nal ops prs out tm hp hJ n m
 | .seq a b,p,tm,hp,J,J',hl,hJ=>by
  have hl1:∀e∈cq a (4*p+1),bk lp call n m e:=fun e he=>hl e (List.mem_append_left _ he)
  have hl2:∀e∈cq b (4*p+2),bk lp call n m e:=fun e he=>hl e (List.mem_append_right _ he)
  refine(gq a (4*p+1) tm hp _ (fun ex tm hp=>Lg ex (oV (cr call n m b ⟨tm,hp⟩) J') (fun i=>J' (.exit i) tm hp) (J' .ret tm hp)) hl1 ?_).trans ?_
  ·intro ex tm hp;cases ex with
   |norm=>exact gq b (4*p+2) tm hp J J' hl2 hJ
   |exit i=>exact hJ _ _ _
   |ret=>exact hJ _ _ _
  ·simp only[cr,oV];cases cr call n m a ⟨tm,hp⟩with
   |none=>exact Le.no _
   |some q=>
    obtain⟨ex,st⟩:=q;cases ex<;>exact Le.refl _
 | .cond x t e,p,tm,hp,J,J',hl,hJ=>by
  have hl1:∀e∈cq t (4*p+1),bk lp call n m e:=fun e he=>hl e (List.mem_append_left _ he)
  have hl2:∀e'∈cq e (4*p+2),bk lp call n m e':=fun e' he=>hl e' (List.mem_append_right _ he)
  show Le (Zr (ev tm x) (rE lp dc cc n m t (4*p+1) tm hp J) (rE lp dc cc n m e (4*p+2) tm hp J)) _;unfold Zr;simp only[cr];split
  ·rename_i b hb;refine Le.two (fun h=>?_) (fun h=>?_)
   ·subst h;simp only[hb];exact gq t _ tm hp J J' hl1 hJ
   ·subst h;simp only[hb];exact gq e _ tm hp J J' hl2 hJ
  ·exact Le.no _
 | .block id b,p,tm,hp,J,J',hl,hJ=>by
  refine(gq b (4*p+3) tm hp _ (fun ex tm hp=>Lg ex (J' .norm tm hp) (fun i=>iL (Nat.beq i id) (J' .norm tm hp) (J' (.exit i) tm hp)) (J' .ret tm hp)) hl ?_).trans ?_
  ·intro ex tm hp;cases ex with
   |norm=>exact hJ _ _ _
   |exit i=>
    show Le (iL (Nat.beq i id) _ _) (iL (Nat.beq i id) _ _);cases Nat.beq i id<;>exact hJ _ _ _
   |ret=>exact hJ _ _ _
  ·simp only[cr,oV];cases cr call n m b ⟨tm,hp⟩with
   |none=>exact Le.no _
   |some q=>
    obtain⟨ex,st⟩:=q;cases ex with
    |norm=>exact Le.refl _
    |ret=>exact Le.refl _
    |exit i=>
     simp only[cL,Lg];cases h:Nat.beq i id<;>simp<;>exact Le.refl _
 | .loop live b,p,tm,hp,J,J',hl,hJ=>hl (p,live,b,true) (mπ ..) tm hp J J' hJ
 | .gh (.keep live) b,p,tm,hp,J,J',hl,hJ=>hl (p,live,b,false) (mπ ..) tm hp J J' hJ
 | .gh (.own s z) b,p,tm,hp,J,J',hl,hJ=>by
  refine Le.opt fun st hs=>?_
  simp only[cr,hs];exact gq b (4*p+3) st.tm st.hp J J' hl hJ
 | .gh (.ownc s o z) b,p,tm,hp,J,J',hl,hJ=>by
  refine Le.opt fun st hs=>?_
  simp only[cr,hs];exact gq b (4*p+3) st.tm st.hp J J' hl hJ
 | .gh (.frz s) b,p,tm,hp,J,J',hl,hJ=>by
  refine Le.opt fun st hs=>?_
  simp only[cr,hs];exact gq b (4*p+3) st.tm st.hp J J' hl hJ
 | .gh (.frzc s o) b,p,tm,hp,J,J',hl,hJ=>by
  refine Le.opt fun st hs=>?_
  simp only[cr,hs];exact gq b (4*p+3) st.tm st.hp J J' hl hJ
def itL {ST:Type}(S:(ST->R)->ST->R)(k:Nat)(st:ST):R:=Nat.rec (motive:=fun _=>ST->R) (fun _=>none) (fun _ ih st=>S ih st) k st
theorem Hm {ST:Type}{live:LN}{b:Co}{p:Nat}{dec:Tm->List Ob->(ST->R)->R}{tmO:ST->Tm}{hpO:ST->List Ob}{S:JJ->(ST->R)->ST->R}
  (hdec:∀tm hp (Y:ST->R) (X:K),(∀st,Le (Y st) (X (tmO st) (hpO st)))->Le (dec tm hp Y) (X tm hp))
  (hS:∀(J:JJ) (Y:ST->R) st,rE lp dc cc n m b p (tmO st) (hpO st) (fun ex tm hp=>Lg ex (CZ m live tm hp fun tm hp=>dec tm hp Y) (fun i=>J (.exit i) tm hp) (J .ret tm hp))=S J Y st)
  (hin:∀e∈cq b p,bk lp call n m e) {J J':JJ} (hJ:JLe J J'):∀(k:Nat) (tm:Tm) (hp:List Ob),
  Le (CZ m live tm hp fun tm hp=>dec tm hp fun st=>itL (S J) k st) (oV (pQ m (cr call n m b) live k ⟨tm,hp⟩) J')
 |0,tm,hp=>by
  obtain⟨st,_,h2⟩:=G0 m live tm hp;rw[h2];exact(hdec st.tm st.hp _ (fun _ _=>none) fun _=>Le.no _).trans (Le.no _)
 |k+1,tm,hp=>by
  obtain⟨st,h1,h2⟩:=G0 m live tm hp;rw[h2];have e:oV (pQ m (cr call n m b) live (k+1) ⟨tm,hp⟩) J'=oV (cr call n m b st) (fun ex tm hp=>Lg ex (oV (pQ m (cr call n m b) live k ⟨tm,hp⟩) J') (fun i=>J' (.exit i) tm hp) (J' .ret tm hp)):=by
   simp only[pQ,h1];cases cr call n m b st with
   |none=>rfl
   |some q=>
    obtain⟨ex,st'⟩:=q;cases ex<;>rfl
  rw[e];refine hdec st.tm st.hp _ (fun tm hp=>oV (cr call n m b ⟨tm,hp⟩) _) fun s=>?_
  have e2:itL (S J) (k+1) s=S J (itL (S J) k) s:=rfl;rw[e2,<-hS];refine gq hd hc b p _ _ _ _ hin ?_;intro ex tm hp;cases ex with
  |norm=>exact Hm hdec hS hin hJ k tm hp
  |exit i=>exact hJ _ _ _
  |ret=>exact hJ _ _ _
end
def ð {ST:Type}(q:Nat)(dec:Tm->List Ob->(ST->R)->R)(S:JJ->(ST->R)->ST->R)(lp:df):df:=fun p k m live b n tm hp J=>iL (Nat.beq p q) (CZ m live tm hp fun tm hp=>dec tm hp fun st=>itL (S J) n st) (lp p k m live b n tm hp J)
def ES {ST:Type}(q:Nat)(dec:Tm->List Ob->(ST->R)->R)(S:JJ->ST->R)(lp:df):df:=fun p k m live b n tm hp J=>iL (Nat.beq p q) (CZ m live tm hp fun tm hp=>dec tm hp fun st=>S J st) (lp p k m live b n tm hp J)
def cw:df:=fun _ _ _ _ _ _ _ _ _=>none
variable {q:Nat} {lp:df} {m:Nat} {live:LN}
theorem VV {ST:Type}{dec:Tm->List Ob->(ST->R)->R}{S:JJ->(ST->R)->ST->R}{call:aw}{n:Nat}{b:Co}(h:∀tm hp J J',JLe J J'->Le (CZ m live tm hp fun tm hp=>dec tm hp fun st=>itL (S J) n st) (oV (pQ m (cr call n m b) live n ⟨tm,hp⟩) J')):bk (ð q dec S lp) call n m (q,live,b,true):=by
 intro tm hp J J' hJ;have:ð q dec S lp q true m live b n tm hp J=CZ m live tm hp fun tm hp=>dec tm hp fun st=>itL (S J) n st:=by
  show iL (Nat.beq q q) _ _=_;rw[Nat.beq_refl];rfl
 rw[this];exact h tm hp J J' hJ
theorem lpCut_here {ST:Type}{dec:Tm->List Ob->(ST->R)->R}{tmO:ST->Tm}{hpO:ST->List Ob}{S:JJ->ST->R}(hd:dc.Ok){call:aw}(hc:bA cc call){n:Nat}{b:Co}(hdec:∀tm hp (Y:ST->R) (X:K),(∀st,Le (Y st) (X (tmO st) (hpO st)))->Le (dec tm hp Y) (X tm hp))(hS:∀(J:JJ) st,rE lp dc cc n m b (4*q+3) (tmO st) (hpO st) J=S J st)(hin:∀e∈cq b (4*q+3),bk lp call n m e):bk (ES q dec S lp) call n m (q,live,b,false):=by
 intro tm hp J J' hJ;have:ES q dec S lp q false m live b n tm hp J=CZ m live tm hp fun tm hp=>dec tm hp fun st=>S J st:=by
  show iL (Nat.beq q q) _ _=_;rw[Nat.beq_refl];rfl
 show Le (ES q dec S lp q false m live b n tm hp J) (oV (cr call n m (.gh (.keep live) b) ⟨tm,hp⟩) J');rw[this];obtain⟨st,h1,h2⟩:=G0 m live tm hp;rw[h2];simp only[cr,h1];refine hdec st.tm st.hp _ (fun tm hp=>oV (cr call n m b ⟨tm,hp⟩) J') fun s=>?_
 rw[<-hS];exact gq hd hc b _ _ _ _ _ hin hJ
theorem P2 {ST:Type}{dec:Tm->List Ob->(ST->R)->R}{S:JJ->(ST->R)->ST->R}{call:aw}{n:Nat}{e:Nat×LN×Co×Bool}(hq:Nat.beq e.1 q=false)(h:bk lp call n m e):bk (ð q dec S lp) call n m e:=by
 intro tm hp J J' hJ;have:ð q dec S lp e.1 e.2.2.2 m e.2.1 e.2.2.1 n tm hp J=lp e.1 e.2.2.2 m e.2.1 e.2.2.1 n tm hp J:=by
  show iL (Nat.beq e.1 q) _ _=_;rw[hq];rfl
 rw[this];exact h tm hp J J' hJ
theorem L6 {ST:Type}{dec:Tm->List Ob->(ST->R)->R}{S:JJ->ST->R}{call:aw}{n:Nat}{e:Nat×LN×Co×Bool}(hq:Nat.beq e.1 q=false)(h:bk lp call n m e):bk (ES q dec S lp) call n m e:=by
 intro tm hp J J' hJ;have:ES q dec S lp e.1 e.2.2.2 m e.2.1 e.2.2.1 n tm hp J=lp e.1 e.2.2.2 m e.2.1 e.2.2.1 n tm hp J:=by
  show iL (Nat.beq e.1 q) _ _=_;rw[hq];rfl
 rw[this];exact h tm hp J J' hJ
def ϯ (m:Nat)(fz:Bool)(res:List Rv)(tm:Tm)(hp:List Ob):R:=cL (lR ⟨tm,hp⟩ res) fun ds=>Prod.rec (motive:=fun _=>R) (fun ds hp=>some (jb (kQ (fW hp bi (eL ds (jR m hp)) (List.range m))) (one ds),pd (fW hp bi (eL ds (jR m hp)) (List.range m)) hp)) (bif fz then uC hp ds else(ds,hp))
def WA (m:Nat)(lp:df)(dc:kF)(cc:ab)(n:Nat)(x:Fx)(args:List D)(hp:List Ob):R:=
 rE lp dc cc n m x.body 1 (fe args 0) hp fun ex tm hp'=>Lg ex (ϯ m x.fz x.res tm hp') (fun _=>none) (ϯ m x.fz x.res tm hp')
theorem Si (m:Nat)(fz:Bool)(res:List Rv)(tm:Tm)(hp:List Ob):ϯ m fz res tm hp=match lR ⟨tm,hp⟩ res with
  |some ds=>some (kX m fz ds hp)
  |none=>none:=by
 unfold ϯ;cases lR ⟨tm,hp⟩ res with
 |none=>rfl
 |some ds=>
  simp only[cL,kX,gK,lk,eu,fj,jK,mf]
theorem P_ (hd:dc.Ok){call:aw}(hc:bA cc call){n:Nat}{x:Fx}{args:List D}{hp:List Ob}(hl:∀e∈cq x.body 1,bk lp call n m e):Le (WA m lp dc cc n x args hp) (qO m call n x args hp):=by
 unfold WA qO;refine(gq hd hc x.body 1 _ _ _ _ hl fun _ _ _=>Le.refl _).trans ?_;cases cr call n m x.body ⟨fe args 0,hp⟩with
 |none=>exact Le.no _
 |some q=>
  obtain⟨ex,st⟩:=q;cases ex with
  |norm=>exact Le.of_eq (Si _ _ _ _ _)
  |ret=>exact Le.of_eq (Si _ _ _ _ _)
  |exit i=>exact Le.no _
def cE (tab:Nat->Option Fn)(n:Nat):ab:=fun f vs hp k=>cL (evFn tab n f vs hp) fun p=>k p.1 p.2
theorem Ä (tab:Nat->Option Fn)(n:Nat):bA (cE tab n) (evFn tab n):=by
 intro f vs hp k k' hk;unfold cE;cases evFn tab n f vs hp with
 |none=>exact Le.no _
 |some p=>exact hk _ _
variable {tab:Nat->Option Fn}
theorem evC_known {n f:Nat}{vs:List D}{hp:List Ob}{v:D}{out:List Ob}(h:evFn tab n f vs hp=some (v,out))(k:KV):cE tab n f vs hp k=k v out:=by
 unfold cE;rw[h];rfl
theorem adV {f n:Nat}{x:Fx}(hd:dc.Ok){args:List D}{hp:List Ob}{F:R}(hx:tab f=some (.code x))(hm:eH f args hp.length=m)(hl:∀e∈cq x.body 1,bk lp (evFn tab n) n m e)(h:WA m lp dc (cE tab n) n x args hp=F):Le F (evFn tab (n+1) f args hp):=by
 subst h;have:evFn tab (n+1) f args hp=qO m (evFn tab n) n x args hp:=by simp only[evFn,hx,hm]
 rw[this];exact P_ hd (Ä tab n) hl
end
section
variable [Mv]
structure Rd (T α:Type) where
 e:α->T
 d:T->(α->R)->R
 le:∀(x:T) (k:α->R) (Z:R),(∀a,x=e a->Le (k a) Z)->Le (d x k) Z
namespace Rd
variable {T α β:Type}
theorem ok (r:Rd T α)(x:T)(k:α->R)(X:T->R)(H:∀a,Le (k a) (X (r.e a))):Le (r.d x k) (X x):=r.le x k _ fun a q=>by simp_all
def rm (r:Rd T α)(f:α->β)(g:β->α)(h:∀a,g (f a)=a:=by exact fun _=>rfl):Rd T β where
 e b:=r.e (g b)
 d x k:=r.d x fun a=>k (f a)
 le x _ _ H:=r.le x _ _ fun a q=>H (f a) (by rw[h a];exact q)
def I (i:IntKind):Rd Da Int:=⟨fun n=> .int i n,aP i,fun _ _ _=>fA⟩
def S:Rd Da (LN):=⟨fun s=> .str s,dm,fun _ _ _=>ld⟩
def B:Rd Da Bool:=⟨fun s=> .bool s,af,fun _ _ _=>A1⟩
def L (z:Nat):Rd Da (LD):=⟨fun s=> .slice z s,WZ z,fun _ _ _=>ZC⟩
def M:Rd Da (LD×LD):=⟨fun s=> .map s.1 s.2,fun x k=>ab8 x fun a b=>k (a,b),fun _ _ _ H=>RW fun a b q=>H (a,b) q⟩
def X:Rd Da Da:=⟨fun x=>x,fun x k=>k x,fun x _ _ H=>H x rfl⟩
def K (i:IntKind)(c:Int):Rd Da Unit:=⟨fun _=> .int i c,fun x k=>aaG i c x (k ()),fun _ _ _ H=>Zy fun q=>H () q⟩
def C (c:Bool):Rd Da Unit:=⟨fun _=> .bool c,fun x k=>Zw c x (k ()),fun _ _ _ H=>U9 fun q=>H () q⟩
def G (l:Rd (LD) α):Rd Da α:=⟨fun a=> .agg (l.e a),fun x k=>ab4 x fun cs=>l.d cs k,fun _ _ _ H=>RT fun cs q=>l.le cs _ _ fun a p=>H a (p▸q)⟩
def FP (f:Nat)(l:Rd (LD) α):Rd Da α:=⟨fun a=> .fn f (l.e a),fun x k=>adL f x fun cs=>l.d cs k,fun _ _ _ H=>ϖ fun cs q=>l.le cs _ _ fun a p=>H a (p▸q)⟩
def Np:Rd Da Unit:=⟨fun _=> .nilptr,fun x k=>dNp x (k ()),fun _ _ _ H=>ZA fun q=>H () q⟩
def P (r:Rd Da α):Rd D α:=⟨fun a=> .p (r.e a),fun x k=>dP x fun y=>r.d y k,fun _ _ _ H=>RX fun y q=>r.le y _ _ fun a p=>H a (p▸q)⟩
def Bo (i o:Nat):Rd D Unit:=⟨fun _=> .box i o,fun x k=>ab6 i o x (k ()),fun _ _ _ H=>RV fun q=>H () q⟩
def Ar (i z:Nat):Rd D Nat:=⟨fun n=> .arr i 0 n z,ab5 i z,fun _ _ _=>RU⟩
def Av (i z:Nat):Rd D (Nat×Nat):=⟨fun p=> .arr i p.1 p.2 z,fun x k=>aaE i z x fun a b=>k (a,b),fun _ _ _ H=>Zv fun a b q=>H (a,b) q⟩
def Nl (z:Nat):Rd D Unit:=⟨fun _=> .sl .nil z [],fun x k=>dNl z x (k ()),fun _ _ _ H=>Zz fun q=>H () q⟩
def Ex (z:Nat):Rd D (LD):=⟨fun es=> .sl .exact z es,dEx z,fun _ _ _=>ab7⟩
def F (f:Nat)(l:Rd (List D) α):Rd D α:=⟨fun a=> .fn f (l.e a),fun x k=>dFn f x fun cs=>l.d cs k,fun _ _ _ H=>Zx fun cs q=>l.le cs _ _ fun a p=>H a (p▸q)⟩
def Tu (l:Rd (List D) α):Rd D α:=⟨fun a=> .tup (l.e a),fun x k=>aI x fun cs=>l.d cs k,fun _ _ _ H=>um fun cs q=>l.le cs _ _ fun a p=>H a (p▸q)⟩
def Ob (l:Rd (List D) α):Rd Go.Ab.Ob α:=⟨fun a=> .box (l.e a),fun x k=>y_ x fun cs=>l.d cs k,fun _ _ _ H=>SY fun cs q=>l.le cs _ _ fun a p=>H a (p▸q)⟩
def Oa:Rd Go.Ab.Ob (LD):=⟨fun s=> .arr s,V1,fun _ _ _=>SX⟩
def Oy:Rd Go.Ab.Ob (LD):=⟨fun s=> .byt s,acX,fun _ _ _=>SZ⟩
def Of:Rd Go.Ab.Ob (LD):=⟨fun s=> .fz s,oFz,fun _ _ _=>ć⟩
def Od:Rd Go.Ab.Ob Unit:=⟨fun _=> .dead,fun x k=>Ć x (k ()),fun _ _ _ H=>Mj fun q=>H () q⟩
def c (a:Rd T α)(r:Rd (List T) β):Rd (List T) (α×β):=⟨fun x=>a.e x.1::r.e x.2,fun l k=>bP l fun y t=>a.d y fun x=>r.d t fun z=>k (x,z),fun _ _ _ H=>iS fun y t q=>a.le y _ _ fun x p=>r.le t _ _ fun z s=>H (x,z) (by rw[q,p,s])⟩
def u (a:Rd T Unit)(r:Rd (List T) β):Rd (List T) β:=⟨fun x=>a.e ()::r.e x,fun l k=>bP l fun y t=>a.d y fun _=>r.d t k,fun _ _ _ H=>iS fun y t q=>a.le y _ _ fun x p=>r.le t _ _ fun z s=>H z (by rw[q,p,s])⟩
def n:Rd (List T) Unit:=⟨fun _=>[],fun l k=>ag l (k ()),fun _ _ _ H=>lc fun q=>H () q⟩
def t (s:Nat)(a:Rd D α)(r:Rd (Tm×List Go.Ab.Ob) β):Rd (Tm×List Go.Ab.Ob) (α×β):=⟨fun x=>(.cons s (a.e x.1) (r.e x.2).1,(r.e x.2).2),fun st k=>Ĩ s st.1 fun y t=>a.d y fun x=>r.d (t,st.2) fun z=>k (x,z),fun _ _ _ H=>NA fun y t q=>a.le y _ _ fun x p=>r.le (t,_) _ _ fun z s=>H (x,z) (Prod.ext (by rw[q,p,<-s]) (by rw[<-s]))⟩
def v (s:Nat)(a:Rd D Unit)(r:Rd (Tm×List Go.Ab.Ob) β):Rd (Tm×List Go.Ab.Ob) β:=⟨fun x=>(.cons s (a.e ()) (r.e x).1,(r.e x).2),fun st k=>Ĩ s st.1 fun y t=>a.d y fun _=>r.d (t,st.2) k,fun _ _ _ H=>NA fun y t q=>a.le y _ _ fun x p=>r.le (t,_) _ _ fun z s=>H z (Prod.ext (by rw[q,p,<-s]) (by rw[<-s]))⟩
def h (l:Rd (List Go.Ab.Ob) α):Rd (Tm×List Go.Ab.Ob) α:=⟨fun x=>(.nil,l.e x),fun st k=>aeH st.1 (l.d st.2 k),fun _ _ _ H=>X_ fun q=>l.le _ _ _ fun a p=>H a (Prod.ext q p)⟩
end Rd
abbrev eQ:=Tm×List Ob
def b6 (c:Co)(p j:Nat):Co:=(((cq c p)[j]?).getD (0,[],.skip,true)).2.2.1
def tA (lp:df)(call:aw)(n m:Nat):List (Nat×LN×Co×Bool)->Prop
 |[]=>True
 |e::r=>bk lp call n m e/\tA lp call n m r
theorem Kh {lp:df}{call:aw}{n m:Nat}:∀{l l':List (Nat×LN×Co×Bool)},l=l'->tA lp call n m l'->∀e∈l,bk lp call n m e
 |_,[],rfl,_=>fun _ h=>by cases h
 |_,_::_,rfl,⟨g,r⟩=>fun e h=>by
  rcases mα.1 h with rfl|h
  ·exact g
  ·exact Kh rfl r e h
theorem aA {lp:df}{call:aw}{n m:Nat}:tA lp call n m []:=trivial
theorem bj {lp:df}{call:aw}{n m:Nat}{e:Nat×LN×Co×Bool}{r:List (Nat×LN×Co×Bool)}(h:bk lp call n m e)(g:tA lp call n m r):tA lp call n m (e::r):=⟨h,g⟩
def gH {ST:Type}(q:Nat)(r:Rd eQ ST)(S:JJ->(ST->R)->ST->R)(lp:df):df:=ð q (fun tm hp Y=>r.d (tm,hp) Y) S lp
def pl (n:Nat)(k:Nat->R):R:=Nat.rec (motive:=fun _=>R) none (fun q _=>k q) n
def lpP {ST:Type}(dc:kF)(cc:ab)(q:Nat)(r:Rd eQ ST)(S:JJ->(ST->R)->ST->R)(lp:df):df:=fun p b0 m live b n tm hp J=>iL (Nat.beq p q) (pl n fun k=>CZ m live tm hp fun tm hp=>rE lp dc cc n m b q tm hp fun ex tm hp=>Lg ex (CZ m live tm hp fun tm hp=>r.d (tm,hp) fun st=>itL (S J) k st) (fun i=>J (.exit i) tm hp) (J .ret tm hp)) (lp p b0 m live b n tm hp J)
def VW {ST:Type}(q:Nat)(r:Rd eQ ST)(S:JJ->ST->R)(lp:df):df:=ES q (fun tm hp Y=>r.d (tm,hp) Y) S lp
section
variable {ST:Type} {q:Nat} {r:Rd eQ ST} {lp:df} {dc:kF} {cc:ab} {call:aw} {n m:Nat} {live:LN} {b:Co}
theorem acI {S:JJ->(ST->R)->ST->R}(hd:dc.Ok)(hc:bA cc call)
  (hS:∀(J:JJ) (Y:ST->R) st,rE lp dc cc n m b q (r.e st).1 (r.e st).2 (fun ex tm hp=>Lg ex (CZ m live tm hp fun tm hp=>r.d (tm,hp) Y) (fun i=>J (.exit i) tm hp) (J .ret tm hp))=S J Y st)
  (hin:∀e∈cq b q,bk lp call n m e):bk (gH q r S lp) call n m (q,live,b,true):=
 VV fun tm hp _ _ hJ=>Hm (tmO:=fun st=>(r.e st).1) (hpO:=fun st=>(r.e st).2) hd hc (fun tm hp Y X h=>r.ok (tm,hp) Y (fun st=>X st.1 st.2) h) hS hin hJ n tm hp
theorem acK {S:JJ->ST->R}(hd:dc.Ok)(hc:bA cc call)
  (hS:∀(J:JJ) st,rE lp dc cc n m b (4*q+3) (r.e st).1 (r.e st).2 J=S J st)
  (hin:∀e∈cq b (4*q+3),bk lp call n m e):bk (VW q r S lp) call n m (q,live,b,false):=
 lpCut_here (tmO:=fun st=>(r.e st).1) (hpO:=fun st=>(r.e st).2) hd hc (fun tm hp Y X h=>r.ok (tm,hp) Y (fun st=>X st.1 st.2) h) hS hin
theorem acM {S:JJ->(ST->R)->ST->R}(hd:dc.Ok)(hc:bA cc call)
  (hS:∀(J:JJ) (Y:ST->R) st,rE lp dc cc n m b q (r.e st).1 (r.e st).2 (fun ex tm hp=>Lg ex (CZ m live tm hp fun tm hp=>r.d (tm,hp) Y) (fun i=>J (.exit i) tm hp) (J .ret tm hp))=S J Y st)
  (hin:∀e∈cq b q,bk lp call n m e):bk (lpP dc cc q r S lp) call n m (q,live,b,true):=by
 intro tm hp J J' hJ;have e0:lpP dc cc q r S lp q true m live b n tm hp J=pl n fun k=>CZ m live tm hp fun tm hp=>rE lp dc cc n m b q tm hp fun ex tm hp=>Lg ex (CZ m live tm hp fun tm hp=>r.d (tm,hp) fun st=>itL (S J) k st) (fun i=>J (.exit i) tm hp) (J .ret tm hp):=by
  show iL (Nat.beq q q) _ _=_;rw[Nat.beq_refl];rfl
 show Le (lpP dc cc q r S lp q true m live b n tm hp J) (oV (pQ m (cr call n m b) live n ⟨tm,hp⟩) J');have key:∀j,Le (pl j fun k=>CZ m live tm hp fun tm hp=>rE lp dc cc n m b q tm hp fun ex tm hp=>Lg ex (CZ m live tm hp fun tm hp=>r.d (tm,hp) fun st=>itL (S J) k st) (fun i=>J (.exit i) tm hp) (J .ret tm hp)) (oV (pQ m (cr call n m b) live j ⟨tm,hp⟩) J'):=fun j=>by
  cases j with
  |zero=>exact Le.no _
  |succ k=>
   obtain⟨st,h1,h2⟩:=G0 m live tm hp;show Le (CZ m live tm hp fun tm hp=>rE lp dc cc n m b q tm hp fun ex tm hp=>Lg ex (CZ m live tm hp fun tm hp=>r.d (tm,hp) fun st=>itL (S J) k st) (fun i=>J (.exit i) tm hp) (J .ret tm hp)) _;rw[h2];have e:oV (pQ m (cr call n m b) live (k+1) ⟨tm,hp⟩) J'=oV (cr call n m b st) (fun ex tm hp=>Lg ex (oV (pQ m (cr call n m b) live k ⟨tm,hp⟩) J') (fun i=>J' (.exit i) tm hp) (J' .ret tm hp)):=by
    simp only[pQ,h1];cases cr call n m b st with
    |none=>rfl
    |some q=>
     obtain⟨ex,st'⟩:=q;cases ex<;>rfl
   rw[e];refine gq hd hc b q _ _ _ _ hin ?_;intro ex tm hp;cases ex with
   |norm=>exact Hm (tmO:=fun st=>(r.e st).1) (hpO:=fun st=>(r.e st).2) hd hc (fun tm hp Y X h=>r.ok (tm,hp) Y (fun st=>X st.1 st.2) h) hS hin hJ k tm hp
   |exit i=>exact hJ _ _ _
   |ret=>exact hJ _ _ _
 grind
theorem acJ {S:JJ->(ST->R)->ST->R}{e:Nat×LN×Co×Bool}(hq:Nat.beq e.1 q=false)(h:bk lp call n m e):bk (gH q r S lp) call n m e:=P2 hq h
theorem acL {S:JJ->ST->R}{e:Nat×LN×Co×Bool}(hq:Nat.beq e.1 q=false)(h:bk lp call n m e):bk (VW q r S lp) call n m e:=L6 hq h
end
end
section
variable [Mv]
theorem az (t e:R):iL true t e=t:=rfl
theorem aG (t e:R):iL false t e=e:=rfl
theorem qF (b:Bool)(t e:R):iL b t e=if b=true then t else e:=by cases b<;>rfl
theorem acv (p:Prop)[Decidable p](t e:R):iL (decide p) t e=if p then t else e:=by rw[qF];simp only[lδ]
theorem zw (p:Prop)[Decidable p](t e:R):iL (!decide p) t e=if p then e else t:=by
 rw[qF];by_cases h:p<;>simp[h]
variable {α:Type}
theorem bH (x:α)(k:α->R):cL (some x) k=k x:=rfl
theorem cS {β:Type}(f:α->β)(o:Option α)(k:β->R):cL (o.map f) k=cL o fun x=>k (f x):=by cases o<;>rfl
theorem ec:∀a b:LN,bv a b=decide (a=b)
 |[],[]=>by simp[bv]
 |[],_::_=>by simp[bv]
 |_::_,[]=>by simp[bv]
 |x::a,y::b=>by
  simp only[bv,ec a b];rw[mε];cases h:Nat.beq x y
  ·have:x≠y:=fun e=>by rw[e,Nat.beq_refl]at h;cases h
   simp[this]
  ·have:=lη h;simp[this]
theorem Gg (a b:Nat):Nat.beq a b=decide (a=b):=by rw[mε,Nat.beq_eq,lδ]
theorem cz {n:Int}(h1: -9223372036854775808<=n)(h2:n<9223372036854775808):ae .i64 n=n:=by
 cases n with
 |ofNat m=>
  have:Nat.blt m 9223372036854775808=true:=by rw[Nat.blt_eq];exact Int.ofNat_lt.mp h2
  simp only[ae,this,cond_true]
 |negSucc m=>
  have:Nat.blt m 9223372036854775808=true:=by rw[Nat.blt_eq];omega
  simp only[ae,this,cond_true]
def Gd {α:Type}(l:List α)(i:Int):Option α:=if 0<=i then l[i.toNat]? else none
theorem bg (f:α->Da)(l:List α)(i:Int):cp (l.map f) i=(Gd l i).map f:=by
 unfold cp Gd;rw[cn];by_cases h:0<=i<;>simp[h]
theorem la (l:List α)(j:Nat):Gd l (j:Int)=l[j]?:=by simp[Gd]
theorem bI {l:List α}{j:Nat}(h:j<l.length):Gd l (j:Int)=some l[j]:=by rw[la,lθ h]
theorem YV (x:α)(l:List α):Gd (x::l) 0=some x:=rfl
theorem aW (i:IntKind)(n:Int)(k:Int->R):aP i (.int i n) k=k n:=by cases i<;>rfl
theorem fo (s:LN)(k:LN->R):dm (.str s) k=k s:=rfl
theorem aj (b:Bool)(k:Bool->R):af (.bool b) k=k b:=rfl
theorem A3 (z:Nat)(es:LD)(k:LD->R):WZ z (.slice z es) k=k es:=by
 show iL (Nat.beq z z) _ _=_;rw[Nat.beq_refl];rfl
theorem aE (x:Da)(k:Da->R):dP (.p x) k=k x:=rfl
theorem aL (ds:List D)(k:List D->R):aI (.tup ds) k=k ds:=rfl
theorem iR (x:α)(l:List α)(k:α->List α->R):bP (x::l) k=k x l:=rfl
theorem ah (k:R):ag ([]:List α) k=k:=rfl
theorem ER {α:Type}(xs:List α)(L:Nat->Int->R)(p:α->Bool)(hit:Nat->R)(out:R)
  (hs:∀q i (h:i<xs.length),L (q+1) (i:Int)=if p xs[i]=true then hit i else L q ((i+1:Nat):Int)) (he:∀q,L (q+1) (xs.length:Int)=out):
  ∀(d q i:Nat),i+d=xs.length->d<q->L q (i:Int)=match (xs.drop i).findIdx? p with|some j=>hit (i+j)|none=>out
 |0,q+1,i,h,_=>by
  obtain rfl:i=xs.length:=by omega
  rw[List.drop_length];exact he q
 |d+1,q+1,i,h,hq=>by
  have hi:i<xs.length:=by omega
  rw[hs q i hi,lι hi,qε];cases hp:p xs[i]
  ·simp only[Bool.false_eq_true,if_false];rw[ER xs L p hit out hs he d q (i+1) (by omega) (by omega)];cases(xs.drop (i+1)).findIdx? p with
   |none=>rfl
   |some j=>simp only[Option.map_some];rw[show i+1+j=i+(j+1) by omega]
  ·simp only[if_true,Nat.add_zero]
theorem cd (xs:List α)(L:Nat->Int->R)(p:α->Bool)(hit:Nat->R)(out:R)(hs:∀q i (h:i<xs.length),L (q+1) (i:Int)=if p xs[i]=true then hit i else L q ((i+1:Nat):Int))(he:∀q,L (q+1) (xs.length:Int)=out){q:Nat}(hq:xs.length<q):
  L q 0=match xs.findIdx? p with|some j=>hit j|none=>out:=by
 have:=ER xs L p hit out hs he xs.length q 0 (by omega) hq;simpa using this
end
end
end Go.Ab
