import Derived.Test.YtlfhmmbmjkadiaaGreatDoorAm3
set_option linter.all false
section
namespace Go.Ab
open Go
noncomputable section
abbrev LD:=List Da
abbrev LN:=List Nat
def Le (a b:R):Prop:=∀r,a=some r→b=some r
theorem Le.refl (a:R):Le a a:=fun _ h=>h
theorem Le.no (b:R):Le none b:=fun _ h=>by cases h
theorem Le.trans {a b c:R}(h:Le a b)(g:Le b c):Le a c:=fun r e=>g r (h r e)
theorem Le.of_eq {a b:R}(h:a=b):Le a b:=by rw[h];exact Le.refl b
def iL (b:Bool)(t e:R):R:=Bool.rec (motive:=fun _=>R) e t b
def cL {α:Type}(o:Option α)(k:α→R):R:=Option.rec (motive:=fun _=>R) none (fun x=>k x) o
theorem Le.grd {b:Bool}{t t':R}(h:b=true→Le t t'):Le (iL b t none) t':=by
 cases b
 ·exact Le.no _
 ·exact h rfl
theorem Le.two {b:Bool}{t e x:R}(h:b=true→Le t x)(g:b=false→Le e x):Le (iL b t e) x:=by
 cases b
 ·exact g rfl
 ·exact h rfl
theorem Le.opt {α:Type}{o:Option α}{k:α→R}{x:R}(h:∀a,o=some a→Le (k a) x):Le (cL o k) x:=by
 cases o
 ·exact Le.no _
 ·exact h _ rfl
def aU (i:IntKind)(x:Da)(k:Int→R):R:=match x with| .int j n=>iL (Nat.beq (kc j) (kc i)) (k n) none|_=>none
def iF (x:Da)(k:List Nat→R):R:=match x with| .str s=>k s|_=>none
def aA (x:Da)(k:Bool→R):R:=match x with| .bool b=>k b|_=>none
def pE (z:Nat)(x:Da)(k:List Da→R):R:=match x with| .slice y es=>iL (Nat.beq y z) (k es) none|_=>none
def rL (x:Da)(k:List Da→R):R:=match x with| .agg cs=>k cs|_=>none
def U7 (x:Da)(k:List Da→List Da→R):R:=match x with| .map ks vs=>k ks vs|_=>none
def aI {α:Type}(l:List α)(k:α→List α→R):R:=match l with|x::r=>k x r|[]=>none
def av {α:Type}(l:List α)(k:R):R:=match l with|_::_=>none|[]=>k
def dP (d:D)(k:Da→R):R:=match d with| .p x=>k x|_=>none
def bb (d:D)(k:List D→R):R:=match d with| .tup ds=>k ds|_=>none
def QF (id off:Nat)(d:D)(k:R):R:=match d with| .box i o=>iL (Nat.beq i id) (iL (Nat.beq o off) k none) none|_=>none
def U5 (id z:Nat)(d:D)(k:Nat→R):R:=match d with| .arr i lo len y=>iL (Nat.beq i id) (iL (Nat.beq lo 0) (iL (Nat.beq y z) (k len) none) none) none|_=>none
def MQ (id z:Nat)(d:D)(k:Nat→Nat→R):R:=match d with| .arr i lo len y=>iL (Nat.beq i id) (iL (Nat.beq y z) (k lo len) none) none|_=>none
def dMp (id:Nat)(d:D)(k:R):R:=match d with| .map i=>iL (Nat.beq i id) k none|_=>none
def dNl (z:Nat)(d:D)(k:R):R:=match d with| .sl .nil y []=>iL (Nat.beq y z) k none|_=>none
def dEx (z:Nat)(d:D)(k:List Da→R):R:=match d with| .sl .exact y es=>iL (Nat.beq y z) (k es) none|_=>none
def dFn (f:Nat)(d:D)(k:List D→R):R:=match d with| .fn g cs=>iL (Nat.beq g f) (k cs) none|_=>none
def VK (o:Ob)(k:List D→R):R:=match o with| .box cs=>k cs|_=>none
def EC (o:Ob)(k:List Da→R):R:=match o with| .arr es=>k es|_=>none
def oFz (o:Ob)(k:List Da→R):R:=match o with| .fz es=>k es|_=>none
def Rg (o:Ob)(k:List Da→List Da→R):R:=match o with| .map ks vs=>k ks vs|_=>none
def ahk (o:Ob)(k:List Da→List Da→R):R:=match o with| .fzm ks vs=>k ks vs|_=>none
def adT (o:Ob)(k:R):R:=match o with| .dead=>k|_=>none
def ady (i:IntKind)(c:Int)(x:Da)(k:R):R:=match x with| .int j n=>iL (Nat.beq (kc j) (kc i)) (iL (aw n c) k none) none|_=>none
def Yv (c:Bool)(x:Da)(k:R):R:=match x,c with| .bool true,true=>k| .bool false,false=>k|_,_=>none
def agO (d:D)(k:List D→R):R:=match d with| .agg cs=>k cs|_=>none
def dNp (x:Da)(k:R):R:=match x with| .nilptr=>k|_=>none
def dNm (x:Da)(k:R):R:=match x with| .nilmap=>k|_=>none
def agP (f:Nat)(x:Da)(k:List Da→R):R:=match x with| .fn g cs=>iL (Nat.beq g f) (k cs) none|_=>none
def aag (s:Nat)(tm:Tm)(k:D→Tm→R):R:=match tm with| .cons t d r=>iL (Nat.beq t s) (k d r) none| .nil=>none
def ahF (tm:Tm)(k:R):R:=match tm with| .cons _ _ _=>none| .nil=>k
section
variable {x:Da} {d:D} {o:Ob} {tm:Tm} {z:Nat} {Z:R}
theorem Zq {i j:IntKind}(h:Nat.beq (kc j) (kc i)=true):j=i:=by
 rw[Zp,lη]at h;exact h
theorem YX {a b:Int}(h:aw a b=true):a=b:=by
 cases a<;>cases b<;>simp only[aw,Bool.false_eq_true]at h
 ·rw[lζ h]
 ·rw[lζ h]
theorem bE {i:IntKind}{k:Int→R}(h:∀n,x= .int i n→Le (k n) Z):Le (aU i x k) Z:=by
 cases x<;>first|exact Le.no _|skip
 exact Le.grd fun e0=>h _ (by rw[Zq e0])
theorem dY {k:List Nat→R}(h:∀s,x= .str s→Le (k s) Z):Le (iF x k) Z:=by
 cases x<;>first|exact Le.no _|exact h _ rfl
theorem dO {k:Bool→R}(h:∀s,x= .bool s→Le (k s) Z):Le (aA x k) Z:=by
 cases x<;>first|exact Le.no _|exact h _ rfl
theorem cp {k:List Da→R}(h:∀s,x= .slice z s→Le (k s) Z):Le (pE z x k) Z:=by
 cases x<;>first|exact Le.no _|skip
 exact Le.grd fun e0=>h _ (by rw[lζ e0])
theorem dX {k:List Da→R}(h:∀s,x= .agg s→Le (k s) Z):Le (rL x k) Z:=by
 cases x<;>first|exact Le.no _|exact h _ rfl
theorem wD {k:List Da→List Da→R}(h:∀s t,x= .map s t→Le (k s t) Z):Le (U7 x k) Z:=by
 cases x<;>first|exact Le.no _|exact h _ _ rfl
theorem ao {α:Type}{l:List α}{k:α→List α→R}(h:∀a r,l=a::r→Le (k a r) Z):Le (aI l k) Z:=by
 cases l<;>first|exact Le.no _|exact h _ _ rfl
theorem bL {α:Type}{l:List α}{k:R}(h:l=[]→Le k Z):Le (av l k) Z:=by
 cases l<;>first|exact Le.no _|exact h rfl
theorem bU {k:Da→R}(h:∀y,d= .p y→Le (k y) Z):Le (dP d k) Z:=by
 cases d<;>first|exact Le.no _|exact h _ rfl
theorem kg {k:List D→R}(h:∀y,d= .tup y→Le (k y) Z):Le (bb d k) Z:=by
 cases d<;>first|exact Le.no _|exact h _ rfl
theorem I4 {id off:Nat}{k:R}(h:d= .box id off→Le k Z):Le (QF id off d k) Z:=by
 cases d<;>first|exact Le.no _|skip
 exact Le.grd fun e0=>Le.grd fun e1=>h (by rw[lζ e0,lζ e1])
theorem wC {id:Nat}{k:Nat→R}(h:∀len,d= .arr id 0 len z→Le (k len) Z):Le (U5 id z d k) Z:=by
 cases d<;>first|exact Le.no _|skip
 exact Le.grd fun e0=>Le.grd fun e1=>Le.grd fun e2=>h _ (by rw[lζ e0,lζ e1,lζ e2])
theorem MR {id:Nat}{k:Nat→Nat→R}(h:∀lo len,d= .arr id lo len z→Le (k lo len) Z):Le (MQ id z d k) Z:=by
 cases d<;>first|exact Le.no _|skip
 exact Le.grd fun e0=>Le.grd fun e1=>h _ _ (by rw[lζ e0,lζ e1])
theorem uZ {id:Nat}{k:R}(h:d= .map id→Le k Z):Le (dMp id d k) Z:=by
 cases d<;>first|exact Le.no _|skip
 exact Le.grd fun e0=>h (by rw[lζ e0])
theorem Yz {k:R}(h:d= .sl .nil z []→Le k Z):Le (dNl z d k) Z:=by
 unfold dNl;split
 ·exact Le.grd fun e=>h (by rw[lζ e])
 ·exact Le.no _
theorem aeW {k:List Da→R}(h:∀es,d= .sl .exact z es→Le (k es) Z):Le (dEx z d k) Z:=by
 unfold dEx;split
 ·exact Le.grd fun e=>h _ (by rw[lζ e])
 ·exact Le.no _
theorem Yw {f:Nat}{k:List D→R}(h:∀es,d= .fn f es→Le (k es) Z):Le (dFn f d k) Z:=by
 cases d<;>first|exact Le.no _|skip
 exact Le.grd fun e0=>h _ (by rw[lζ e0])
theorem xp {k:List D→R}(h:∀y,o= .box y→Le (k y) Z):Le (VK o k) Z:=by
 cases o<;>first|exact Le.no _|exact h _ rfl
theorem tq {k:List Da→R}(h:∀y,o= .arr y→Le (k y) Z):Le (EC o k) Z:=by
 cases o<;>first|exact Le.no _|exact h _ rfl
theorem afQ {k:List Da→R}(h:∀y,o= .fz y→Le (k y) Z):Le (oFz o k) Z:=by
 cases o<;>first|exact Le.no _|exact h _ rfl
theorem tt {k:List Da→List Da→R}(h:∀s t,o= .map s t→Le (k s t) Z):Le (Rg o k) Z:=by
 cases o<;>first|exact Le.no _|exact h _ _ rfl
theorem acI {k:List Da→List Da→R}(h:∀s t,o= .fzm s t→Le (k s t) Z):Le (ahk o k) Z:=by
 cases o<;>first|exact Le.no _|exact h _ _ rfl
theorem ZW {k:R}(h:o= .dead→Le k Z):Le (adT o k) Z:=by
 cases o<;>first|exact Le.no _|exact h rfl
theorem Yx {i:IntKind}{c:Int}{k:R}(h:x= .int i c→Le k Z):Le (ady i c x k) Z:=by
 cases x<;>first|exact Le.no _|skip
 exact Le.grd fun e0=>Le.grd fun e1=>h (by rw[Zq e0,YX e1])
theorem U6 {c:Bool}{k:R}(h:x= .bool c→Le k Z):Le (Yv c x k) Z:=by
 cases x<;>first|exact Le.no _|skip
 rename_i b;cases b<;>cases c<;>first|exact Le.no _|exact h rfl
theorem abA {k:List D→R}(h:∀y,d= .agg y→Le (k y) Z):Le (agO d k) Z:=by
 cases d<;>first|exact Le.no _|exact h _ rfl
theorem YA {k:R}(h:x= .nilptr→Le k Z):Le (dNp x k) Z:=by
 cases x<;>first|exact Le.no _|exact h rfl
theorem I5 {k:R}(h:x= .nilmap→Le k Z):Le (dNm x k) Z:=by
 cases x<;>first|exact Le.no _|exact h rfl
theorem abB {f:Nat}{k:List Da→R}(h:∀es,x= .fn f es→Le (k es) Z):Le (agP f x k) Z:=by
 cases x<;>first|exact Le.no _|skip
 exact Le.grd fun e0=>h _ (by rw[lζ e0])
theorem Pe {s:Nat}{k:D→Tm→R}(h:∀d r,tm= .cons s d r→Le (k d r) Z):Le (aag s tm k) Z:=by
 cases tm<;>first|exact Le.no _|skip
 exact Le.grd fun e=>h _ _ (by rw[lζ e])
theorem acX {k:R}(h:tm= .nil→Le k Z):Le (ahF tm k) Z:=by
 cases tm<;>first|exact Le.no _|exact h rfl
end
mutual
def fj:Da→Da→(Da→R)→R
 | .int i _,x,k=>aU i x fun n=>k (.int i n)
 | .str _,x,k=>iF x fun s=>k (.str s)
 | .bool _,x,k=>aA x fun b=>k (.bool b)
 | .slice z _,x,k=>pE z x fun l=>k (.slice z l)
 | .map _ _,x,k=>U7 x fun a b=>k (.map a b)
 | .agg cs,x,k=>rL x fun ds=>xj cs ds fun es=>k (.agg es)
 | .nilptr,x,k=>dNp x (k .nilptr)
 | .nilmap,x,k=>dNm x (k .nilmap)
 |_,x,k=>k x
def xj:List Da→List Da→(List Da→R)→R
 |[],l,k=>av l (k [])
 |s::r,l,k=>aI l fun x t=>fj s x fun x=>xj r t fun t=>k (x::t)
end
mutual
def mS:D→D→(D→R)→R
 | .p s,d,k=>dP d fun x=>fj s x fun x=>k (.p x)
 | .box i o,d,k=>QF i o d (k (.box i o))
 | .arr i 0 _ z,d,k=>U5 i z d fun n=>k (.arr i 0 n z)
 | .map i,d,k=>dMp i d (k (.map i))
 | .sl .nil z [],d,k=>dNl z d (k (.sl .nil z []))
 | .fn f cs,d,k=>dFn f d fun ds=>vn cs ds fun es=>k (.fn f es)
 | .agg cs,d,k=>agO d fun ds=>vn cs ds fun es=>k (.agg es)
 |_,d,k=>k d
def vn:List D→List D→(List D→R)→R
 |[],l,k=>av l (k [])
 |s::r,l,k=>aI l fun x t=>mS s x fun x=>vn r t fun t=>k (x::t)
end
def Zz (s o:Ob)(k:Ob→R):R:=
 match s with
 | .box cs=>VK o fun ds=>vn cs ds fun es=>k (.box es)
 | .arr _=>EC o fun l=>k (.arr l)
 | .fz _=>oFz o fun l=>k (.fz l)
 | .map _ _=>Rg o fun a b=>k (.map a b)
 | .fzm _ _=>ahk o fun a b=>k (.fzm a b)
 | .dead=>adT o (k .dead)
 |_=>k o
def fT:List Ob→List Ob→(List Ob→R)→R
 |[],l,k=>av l (k [])
 |s::r,l,k=>aI l fun x t=>Zz s x fun x=>fT r t fun t=>k (x::t)
mutual
theorem Hm:∀(s x:Da) {k:Da→R} {Z:R},Le (k x) Z→Le (fj s x k) Z
 | .int i _,x,k,Z,h=>by simp only[fj];exact bE fun n e=>by subst e;exact h
 | .str _,x,k,Z,h=>by simp only[fj];exact dY fun n e=>by subst e;exact h
 | .bool _,x,k,Z,h=>by simp only[fj];exact dO fun n e=>by subst e;exact h
 | .slice z _,x,k,Z,h=>by simp only[fj];exact cp fun n e=>by subst e;exact h
 | .map _ _,x,k,Z,h=>by simp only[fj];exact wD fun a b e=>by subst e;exact h
 | .agg cs,x,k,Z,h=>by simp only[fj];exact dX fun ds e=>by subst e;exact Er cs ds h
 | .nilptr,x,k,Z,h=>by simp only[fj];exact YA fun e=>by subst e;exact h
 | .ptr _,x,k,Z,h=>by simp only[fj];exact h
 | .nilmap,x,k,Z,h=>by simp only[fj];exact I5 fun e=>by subst e;exact h
 | .fn _ _,x,k,Z,h=>by simp only[fj];exact h
 | .nilfn,x,k,Z,h=>by simp only[fj];exact h
 | .iface _ _,x,k,Z,h=>by simp only[fj];exact h
 | .nilif,x,k,Z,h=>by simp only[fj];exact h
 | .sliceE _ _,x,k,Z,h=>by simp only[fj];exact h
 | .sym _ _,x,k,Z,h=>by simp only[fj];exact h
theorem Er:∀(s l:List Da) {k:List Da→R} {Z:R},Le (k l) Z→Le (xj s l k) Z
 |[],l,k,Z,h=>by simp only[xj];exact bL fun e=>by subst e;exact h
 |s::r,l,k,Z,h=>by simp only[xj];exact ao fun x t e=>by subst e;exact Hm s x (Er r t h)
end
mutual
theorem Zy:∀(s d:D) {k:D→R} {Z:R},Le (k d) Z→Le (mS s d k) Z
 | .p s,d,k,Z,h=>by simp only[mS];exact bU fun n e=>by subst e;exact Hm s n h
 | .box i o,d,k,Z,h=>by simp only[mS];exact I4 fun e=>by subst e;exact h
 | .arr i 0 _ z,d,k,Z,h=>by simp only[mS];exact wC fun n e=>by subst e;exact h
 | .arr i (_+1) _ z,d,k,Z,h=>by simp only[mS];exact h
 | .map i,d,k,Z,h=>by simp only[mS];exact uZ fun e=>by subst e;exact h
 | .sl g z es,d,k,Z,h=>by
  unfold mS;split<;>first
   |contradiction
   |exact h
   |(rename_i e;cases e;exact Yz fun e=>by subst e;exact h)
 | .fn f cs,d,k,Z,h=>by simp only[mS];exact Yw fun ds e=>by subst e;exact th cs ds h
 | .agg cs,d,k,Z,h=>by simp only[mS];exact abA fun ds e=>by subst e;exact th cs ds h
 | .tup _,d,k,Z,h=>by simp only[mS];exact h
 | .el _ _ _,d,k,Z,h=>by simp only[mS];exact h
 | .ip _ _,d,k,Z,h=>by simp only[mS];exact h
 | .iface _ _,d,k,Z,h=>by simp only[mS];exact h
 | .junk,d,k,Z,h=>by simp only[mS];exact h
theorem th:∀(s l:List D) {k:List D→R} {Z:R},Le (k l) Z→Le (vn s l k) Z
 |[],l,k,Z,h=>by simp only[vn];exact bL fun e=>by subst e;exact h
 |s::r,l,k,Z,h=>by simp only[vn];exact ao fun x t e=>by subst e;exact Zy s x (th r t h)
end
theorem Vz (s o:Ob){k:Ob→R}{Z:R}(h:Le (k o) Z):Le (Zz s o k) Z:=by
 cases s<;>first
  |exact h
  |exact xp fun ds e=>by subst e;exact th _ ds h
  |exact tq fun n e=>by subst e;exact h
  |exact afQ fun n e=>by subst e;exact h
  |exact tt fun a b e=>by subst e;exact h
  |exact acI fun a b e=>by subst e;exact h
  |exact ZW fun e=>by subst e;exact h
theorem cW:∀(s l:List Ob) {k:List Ob→R} {Z:R},Le (k l) Z→Le (fT s l k) Z
 |[],l,k,Z,h=>by simp only[fT];exact bL fun e=>by subst e;exact h
 |s::r,l,k,Z,h=>by simp only[fT];exact ao fun x t e=>by subst e;exact Vz s x (cW r t h)
structure oH where
 el:Nat→Da→(Da→R)→R
 ca:Nat→List Ob→D→List Ob→KV→R
 mv:D→Da→(Da→R)→R
 keys:Bool
 spl:Bool
 par:Bool
structure oH.Ok (dc:oH):Prop where
 el:∀z x k,Le (dc.el z x k) (k x)
 ca:∀f hi v hp k,Le (dc.ca f hi v hp k) (k v hp)
 mv:∀z x k,Le (dc.mv z x k) (k x)
abbrev ab:=Nat→List D→List Ob→KV→R
def bA (cc:ab)(call:aJ):Prop:=∀f vs hp (k k':KV),(∀v out,Le (k v out) (k' v out))→Le (cc f vs hp k) (cL (call f vs hp) fun p=>k' p.1 p.2)
abbrev KE:=D→List (Nat×Ob)→List Ob→R
def eZ (o:Option gy)(k:KE):R:=cL o fun e=>k e.1 e.2.1 e.2.2
def Z4 (vs:List D)(k:KE):R:=match vs with|[.p (.bool c),a,b]=>iL c (k a [] []) (k b [] [])|_=>none
def aer (op:BinOp)(vs:List D)(k:KE):R:=
 match vs with
 |[.p (.int i a),.p (.int j b)]=>match op with
  | .quo=>iL (aw b 0) none (if i=j then k (.p (.int i (ag i (a.tdiv b)))) [] []else none)
  | .rem=>iL (aw b 0) none (if i=j then k (.p (.int i (a.tmod b))) [] []else none)
  | .shl=>iL (aW b 0) none (k (.p (.int i (ag i (a*2 ^ (min b.toNat i.bits))))) [] [])
  | .shr=>iL (aW b 0) none (k (.p (.int i (a.fdiv (2 ^ (min b.toNat i.bits))))) [] [])
  |op=>eZ (nf (bin op (.p (.int i a)) (.p (.int j b)))) k
 |[.p (.str a),.p (.str b)]=>match op with
  | .add=>iL (Nat.ble (a.length+b.length) qy) (k (.p (.str (a++b))) [] []) none
  |op=>eZ (nf (bin op (.p (.str a)) (.p (.str b)))) k
 |[x,y]=>eZ (nf (bin op x y)) k
 |_=>none
def kZ:List Nat→List Da→List Da→(Bool→R)→R
 |[],_,_,k=>k true
 |c::ks,x::xs,y::ys,k=>cL (zt c x y) fun b=>iL b (kZ ks xs ys k) (k false)
 |_,_,_,_=>none
def XL (ks:List Nat)(op:BinOp)(vs:List D)(k:KE):R:=
 match vs with
 |[.p (.agg xs),.p (.agg ys)]=>match op with
  | .eql=>kZ ks xs ys fun b=>k (.p (.bool b)) [] []
  | .neq=>kZ ks xs ys fun b=>k (.p (.bool (!b))) [] []
  |_=>none
 |_=>none
def iaL (dc:oH)(esz:Nat)(vs:List D)(k:KE):R:=
 match vs with
 |[.p (.slice z es),.p (.int _ i)]=>iL (Nat.beq z esz) (cL (bw es i) fun x=>dc.el esz x fun x=>k (.ip x 0) [] []) none
 |[.p (.sliceE z es),.p (.int _ i)]=>iL (Nat.beq z esz) (cL (bw es i) fun x=>dc.el esz x fun x=>k (.ip x 0) [] []) none
 |[.sl _ z es,.p (.int _ i)]=>iL (Nat.beq z esz) (cL (bw es i) fun x=>dc.el esz x fun x=>k (.ip x 0) [] []) none
 |[.arr id lo len z,.p (.int _ i)]=>iL (Nat.beq z esz) (iL (bu 0 i) (iL (aW i len) (k (.el id (lo+i.toNat) 0) [] []) none) none) none
 |_=>none
def ixL (vs:List D)(k:KE):R:=
 match vs with
 |[.p (.str s),.p (.int _ i)]=>cL (bif bu 0 i then s[i.toNat]? else none) fun b=>k (.p (.int .u8 (Int.ofNat b))) [] []
 |_=>none
def mA (x:D)(y:Nat)(k:Nat→R):R:=match x with| .p (.int _ i)=>iL (bu 0 i) (iL (bu i y) (k i.toNat) none) none|_=>none
def qj (lo hi mx:Bool)(len:Nat)(xs:List D)(k:Nat→Nat→Nat→R):R:=
 match lo,hi,mx,xs with
 |false,false,false,[]=>k 0 len len
 |true,false,false,[a]=>mA a len fun l=>k l len len
 |false,true,false,[b]=>mA b len fun h=>k 0 h len
 |true,true,false,[a,b]=>mA b len fun h=>mA a h fun l=>k l h len
 |false,true,true,[b,c]=>mA c len fun m=>mA b m fun h=>k 0 h m
 |true,true,true,[a,b,c]=>mA c len fun m=>mA b m fun h=>mA a h fun l=>k l h m
 |_,_,_,_=>none
theorem f6 {x:D}{y:Nat}{k:Nat→R}{Z:R}(h:∀n,kY x y=some n→Le (k n) Z):Le (mA x y k) Z:=by
 unfold mA;split
 ·refine Le.grd fun h1=>Le.grd fun h2=>h _ ?_
  simp only[kY,h1,h2,Bool.and_self,cond_true]
 ·exact Le.no _
theorem mB {lo hi mx:Bool}{len:Nat}{xs:List D}{k:Nat→Nat→Nat→R}{Z:R}(h:∀l a m,cz lo hi mx len xs=some (l,a,m)→Le (k l a m) Z):Le (qj lo hi mx len xs k) Z:=by
 unfold qj;split
 ·exact h _ _ _ rfl
 ·exact f6 fun l h1=>h _ _ _ (by simp only[cz,h1])
 ·exact f6 fun l h1=>h _ _ _ (by simp only[cz,h1])
 ·exact f6 fun l h1=>f6 fun l' h2=>h _ _ _ (by simp only[cz,h1,h2])
 ·exact f6 fun l h1=>f6 fun l' h2=>h _ _ _ (by simp only[cz,h1,h2])
 ·exact f6 fun l h1=>f6 fun l' h2=>f6 fun l'' h3=>h _ _ _ (by simp only[cz,h1,h2,h3])
 ·exact Le.no _
def RE (lo hi:Bool)(vs:List D)(k:KE):R:=
 match vs with
 | .p (.str s)::xs=>qj lo hi false s.length xs fun l h _=>k (.p (.str ((s.drop l).take (h - l)))) [] []
 |_=>none
def aai (lo hi:Bool)(l h lo0:Nat)(n:Option Nat)(e v:R):R:=
 match lo,hi,n with
 |true,false,some n=>iL (Nat.beq l h) (iL (Nat.blt lo0 n) e v) v
 |_,_,_=>v
theorem aaj (lo hi:Bool)(l h lo0:Nat)(os:List (Nat×Ob))(id:Nat)(e v:R):aai lo hi l h lo0 (AJ os id) e v=bif lo&&!hi&&(Nat.beq l h&&rW os id lo0)then e else v:=by
 have hf:rW os id lo0=match AJ os id with|some n=>Nat.blt lo0 n|none=>false:=by
  unfold rW AJ;cases gu os id<;>rfl
 rw[hf];cases lo<;>cases hi<;>cases AJ os id<;>simp only[aai,Bool.false_and,Bool.true_and,Bool.not_false,Bool.not_true,Bool.and_false,cond_false];cases Nat.beq l h<;>cases Nat.blt lo0 _<;>rfl
def aaa (esz:Nat)(lo hi mx:Bool)(vs:List D)(ids:List Nat)(obs:List Ob)(k:KE):R:=
 match mx,vs with
 |false,.p (.slice z es)::xs=>iL (Fp z esz es) (qj lo hi false es.length xs fun l h _=>k (.p (.slice z ((es.drop l).take (h - l)))) [] []) none
 |false,.sl .nil z es::xs=>iL (Fp z esz es) (qj lo hi false es.length xs fun _ _ _=>k (.sl .nil z []) [] []) none
 |false,.arr id lo0 len0 z::xs=>iL (Nat.beq z esz) (qj lo hi false len0 xs fun l h _=>aai lo hi l h lo0 (AJ (ids.zip obs) id) (k (.sl .some z []) [] []) (k (.arr id (lo0+l) (h - l) z) [] [])) none
 |true,.p (.slice z es)::xs=>iL (Fp z esz es) (qj lo hi true es.length xs fun l h m=>iL (Nat.beq h m) (k (.sl .exact z ((es.drop l).take (h - l))) [] []) (k (.p (.slice z ((es.drop l).take (h - l)))) [] [])) none
 |mx,vs=>eZ (oW esz lo hi mx vs ids obs) k
def adv (n off:Nat)(agg:Bool)(e:Da)(k:KE):R:=cL (sub (cells e) off n) fun ds=>cL (eA agg (ds.map .p)) fun d=>k d [] []
def adA (dc:oH)(off n:Nat):Nat:=match dc.par with|true=>1000*(off+1)+n|false=>0
def ZC (dc:oH)(n:Nat)(agg:Bool)(vs:List D)(obs:List Ob)(k:KE):R:=
 match vs with
 |[.el _ i off]=>match obs with
  |[.arr es]=>cL es[i]? fun e=>dc.el (adA dc off n) e fun e=>adv n off agg e k
  |[.fz es]=>cL es[i]? fun e=>dc.el (adA dc off n) e fun e=>adv n off agg e k
  |_=>none
 |vs=>eZ (iu n agg vs obs) k
def RI (dc:oH)(n id i off:Nat)(d:D)(ids:List Nat)(obs:List Ob)(k:KE):R:=
 match gu (ids.zip obs) id with
 | .arr es=>cL es[i]? fun e=>dc.el (1000*(off+1)+n) e fun e=>cL (pur ((ids.zip obs).filter fun p=>!Nat.beq p.1 id) d) fun x=>iL (Nat.beq (cells x).length n) (iL (Nat.ble (off+n) (cells e).length) (cL (cT e (splice (cells e) off (cells x))) fun e'=>k .junk (dz ((ids.zip obs).filter fun p=>!Nat.beq p.1 id)++[(id,.arr (es.set i e'))]) []) none) none
 |_=>none
def RH (dc:oH)(n:Nat)(vs:List D)(ids:List Nat)(obs:List Ob)(k:KE):R:=
 match dc.par,vs with
 |true,[.el id i off,d]=>RI dc n id i off d ids obs k
 |false,[.el id i 0,d]=>match gu (ids.zip obs) id with
  | .arr es=>cL es[i]? fun e=>cL (pur ((ids.zip obs).filter fun p=>!Nat.beq p.1 id) d) fun x=>iL (Nat.beq (cells x).length n) (iL (Nat.beq (cells e).length n) (cL (cT e (cells x)) fun e'=>k .junk (dz ((ids.zip obs).filter fun p=>!Nat.beq p.1 id)++[(id,.arr (es.set i e'))]) []) none) none
  |_=>none
 |_,vs=>eZ (qe n vs ids obs) k
def Nb (kt:TypeDesc)(x:Da):List Da→Nat→(Option Nat→R)→R
 |[],_,k=>k none
 |y::r,i,k=>cL (mR kt x y) fun b=>iL b (k (some i)) (Nb kt x r (i+1) k)
def Y7 (keys:Bool)(kt:TypeDesc)(x:Da)(ks:List Da)(k:Option Nat→R):R:=
 match keys with
 |true=>Nb kt x ks 0 k
 |false=>cL (bV kt x ks 0) k
def iG (o:Option Nat)(e:R)(k:Nat→R):R:=match o with|none=>e|some i=>k i
def afF (dc:oH)(kt:TypeDesc)(z:D)(ok:Bool)(vs:List D)(ids:List Nat)(obs:List Ob)(k:KE):R:=
 match vs with
 |[d,.p x]=>
  match (match d with
   | .p .nilmap=>some ([],[])
   | .p (.map ks ws)=>some (ks,ws)
   | .map id=>match gu (ids.zip obs) id with
    | .map ks ws=>some (ks,ws)
    | .fzm ks ws=>some (ks,ws)
    |_=>none
   |_=>none:Option (List Da×List Da))with
  |some (ks,ws)=>Y7 dc.keys kt x ks fun o=>iG o (k (bif ok then .tup [z,.p (.bool false)]else z) [] []) fun i=>cL ws[i]? fun v=>dc.mv z v fun v=>k (bif ok then .tup [.p v,.p (.bool true)]else .p v) [] []
  |none=>eZ (IU kt z ok vs ids obs) k
 |vs=>eZ (IU kt z ok vs ids obs) k
def ZM (keys:Bool)(kt:TypeDesc)(vs:List D)(ids:List Nat)(obs:List Ob)(k:KE):R:=
 match vs with
 |[.map id,.p x,d]=>
  match gu (ids.zip obs) id with
  | .map ks ws=>match pur ((ids.zip obs).filter fun p=>!Nat.beq p.1 id) d with
   |some y=>Y7 keys kt x ks fun o=>iG o (k .junk (dz ((ids.zip obs).filter fun p=>!Nat.beq p.1 id)++[(id,.map (ks++[x]) (ws++[y]))]) []) fun i=>k .junk (dz ((ids.zip obs).filter fun p=>!Nat.beq p.1 id)++[(id,.map ks (ws.set i y))]) []
   |none=>eZ (AD kt vs ids obs) k
  |_=>eZ (AD kt vs ids obs) k
 |vs=>eZ (AD kt vs ids obs) k
def ZK (esz:Nat)(z:Da)(bytes base kk:Nat)(vs:List D)(k:KE):R:=
 match vs with
 |[.p (.int _ l),.p (.int _ c)]=>iL (bu 0 l&&bu l c&&Nat.ble (c.toNat*bytes) 281474976710656&&bu c 9223372036854775807) (k (.arr (base+kk) 0 l.toNat esz) [(base+kk,.arr (List.replicate l.toNat z))] []) none
 |_=>none
def dW (n bytes:Nat):Bool:=Nat.ble ((2*n+192)*bytes) 281474976710656&&Nat.ble (2*n+192) 9223372036854775807
def aen (tr:Bool)(esz bytes base kk:Nat)(vs:List D)(ids:List Nat)(obs:List Ob)(k:KE):R:=
 match vs with
 |[.arr id 0 len z,b]=>match gu (ids.zip obs) id with
  | .arr es=>match tr with
   |true=>iL (Nat.beq z esz) (cL (elems esz (ids.zip obs) b) fun ys=>iL (dW ((es.take len).length+ys.length) bytes) (k (.arr (base+kk) 0 (es.take len++ys).length esz) [(id,.dead),(base+kk,.arr (es.take len++ys))] []) none) none
   |false=>iL (Nat.beq z esz) (iL (Nat.beq len es.length) (cL (elems esz (ids.zip obs) b) fun ys=>iL (dW (es.length+ys.length) bytes) (k (.arr (base+kk) 0 (es++ys).length esz) [(id,.dead),(base+kk,.arr (es++ys))] []) none) none) none
  |_=>none
 |[.sl .nil z es,b]=>cL (elems esz (ids.zip obs) b) fun ys=>iL (dW (0+ys.length) bytes) (k (.arr (base+kk) 0 ys.length esz) [(base+kk,.arr ys)] []) none
 |[.sl .exact z [],b]=>cL (elems esz (ids.zip obs) b) fun ys=>iL (dW (0+ys.length) bytes) (k (.arr (base+kk) 0 ys.length esz) [(base+kk,.arr ys)] []) none
 |[.sl .exact z es,b]=>iL (Fp z esz es) (cL (elems esz (ids.zip obs) b) fun ys=>iL (!es.isEmpty&&ys.isEmpty) (k (.sl .exact z es) [] []) (iL (dW (es.length+ys.length) bytes) (k (.arr (base+kk) 0 (es++ys).length esz) [(base+kk,.arr (es++ys))] []) none)) none
 |vs=>eZ (uT esz bytes base kk vs ids obs) k
def aeq (vs:List D)(ids:List Nat)(obs:List Ob)(k:KE):R:=
 match vs with
 |[d]=>cL (elems 1 (ids.zip obs) d) fun es=>cL (lI es) fun s=>k (.p (.str s)) [] []
 |_=>none
def MJ (dc:oH)(cc:ab)(f:Nat)(args:List D)(ids:List Nat)(obs:List Ob)(len:Nat)(k:KE):R:=
 cc f (gw (li ids) args) (qO (li ids) obs) fun r out=>dc.ca f (qO (li ids) obs) r out fun r out=>iL (Nat.ble ids.length out.length) (k (jA (back ids.length len ids out.length) r) (ids.zip (qO (back ids.length len ids out.length) out)) ((qO (back ids.length len ids out.length) out).drop ids.length)) none
def Qz [Mv](dc:oH)(cc:ab)(f:Nat)(args:List D)(ids:List Nat)(obs:List Ob)(len:Nat)(k:KE):R:=
 match Mv.mv f with
 |true=>cc f (gw (li ids) args) (qO (li ids) obs) fun r out=>dc.ca f (qO (li ids) obs) r out fun r out=>iL (Nat.ble (fq f (gw (li ids) args) ids.length) out.length) (k (jA (back (fq f (gw (li ids) args) ids.length) len ids out.length) r) ((ids.take (fq f (gw (li ids) args) ids.length)).zip (qO (back (fq f (gw (li ids) args) ids.length) len ids out.length) out)++(ids.drop (fq f (gw (li ids) args) ids.length)).map fun i=>(i,.dead)) ((qO (back (fq f (gw (li ids) args) ids.length) len ids out.length) out).drop (fq f (gw (li ids) args) ids.length))) none
 |false=>MJ dc cc f args ids obs len k
def QB [Mv](dc:oH)(cc:ab)(vs:List D)(ids:List Nat)(obs:List Ob)(len:Nat)(k:KE):R:=
 match vs with
 | .p (.fn f caps)::args=>match Mv.mv (Pt f)with
  |true=>none
  |false=>MJ dc cc (Pt f) (rU f (caps.map .p) (args.map norm)) ids obs len k
 | .fn f caps::args=>match Mv.mv (Pt f)with
  |true=>none
  |false=>MJ dc cc (Pt f) (rU f caps (args.map norm)) ids obs len k
 |_=>none
def aei [Mv](dc:oH)(cc:ab)(base:Nat)(o:O)(kk:Nat)(vs:List D)(ids:List Nat)(obs:List Ob)(len:Nat)(k:KE):R:=
 match o with
 | .pick=>Z4 vs k
 | .bin op=>aer op vs k
 | .binS ks op=>XL ks op vs k
 | .ia esz=>iaL dc esz vs k
 | .ix=>ixL vs k
 | .slStr lo hi=>RE lo hi vs k
 | .slSl esz lo hi mx=>aaa esz lo hi mx vs ids obs k
 | .load n agg=>ZC dc n agg vs obs k
 | .store n=>RH dc n vs ids obs k
 | .lkp kt z ok=>afF dc kt z ok vs ids obs k
 | .mupd kt=>ZM dc.keys kt vs ids obs k
 | .mksl esz z bytes=>ZK esz z bytes base kk vs k
 | .app esz bytes=>aen dc.keys esz bytes base kk vs ids obs k
 | .b2s=>aeq vs ids obs k
 | .call f raw=>Qz dc cc f (bif raw then vs else vs.map norm) ids obs len k
 | .callv=>QB dc cc vs ids obs len k
 |o=>eZ (qf (fun _ _ _=>none) base o kk vs ids obs len) k
section laws
variable {k k':KE} (hk:∀v u n,Le (k v u n) (k' v u n))
include hk
theorem gb (o:Option gy):Le (eZ o k) (eZ o k'):=Le.opt fun e h=>by subst h;exact hk _ _ _
theorem Z5 (vs:List D):Le (Z4 vs k) (eZ (GS vs) k'):=by
 unfold Z4;split
 ·exact Le.two (fun h=>by subst h;exact hk _ _ _) (fun h=>by subst h;exact hk _ _ _)
 ·exact Le.no _
theorem aa5 (op:BinOp)(vs:List D):Le (aer op vs k) (eZ (FM op vs) k'):=by
 unfold aer;split
 ·rename_i i a j b;split
  ·refine Le.two (fun _=>Le.no _) (fun h=>?_);split
   ·rename_i e;subst e;simp only[FM,bin,eL,cond_false,if_true,mz,h,nf];exact hk _ _ _
   ·exact Le.no _
  ·refine Le.two (fun _=>Le.no _) (fun h=>?_);split
   ·rename_i e;subst e;simp only[FM,bin,eL,cond_false,if_true,mz,h,nf];exact hk _ _ _
   ·exact Le.no _
  ·refine Le.two (fun _=>Le.no _) (fun h=>?_);simp only[FM,bin,eL,cond_true,pm,h,cond_false,nf];exact hk _ _ _
  ·refine Le.two (fun _=>Le.no _) (fun h=>?_);simp only[FM,bin,eL,cond_true,pm,h,cond_false,nf];exact hk _ _ _
  ·exact gb hk _
 ·split
  ·refine Le.grd fun h=>?_
   simp only[FM,bin,uX,h,cond_true,nf];exact hk _ _ _
  ·exact gb hk _
 ·exact gb hk _
 ·exact Le.no _
omit hk in
theorem rQ {q:Bool→R}{x:R}:∀(ks:List Nat) (xs ys:List Da),(∀b,jw ks xs ys=some b→Le (q b) x)→Le (kZ ks xs ys q) x
 |[],xs,ys,h=>by unfold kZ;exact h true (by simp[jw])
 |c::ks,[],ys,h=>by unfold kZ;exact Le.no _
 |c::ks,x::xs,[],h=>by unfold kZ;exact Le.no _
 |c::ks,x::xs,y::ys,h=>by
  unfold kZ;refine Le.opt fun b hb=>Le.two (fun e=>?_) (fun e=>?_)
  ·exact rQ ks xs ys fun b' h'=>h b' (by simp only[jw,hb,e,cond_true,h'])
  ·exact h false (by simp only[jw,hb,e,cond_false])
theorem XM (ks:List Nat)(op:BinOp)(vs:List D):Le (XL ks op vs k) (eZ (DC ks op vs) k'):=by
 unfold XL;split
 ·split
  ·refine rQ _ _ _ fun b hb=>?_
   simp only[DC,binS,hb,nf];exact hk _ _ _
  ·refine rQ _ _ _ fun b hb=>?_
   simp only[DC,binS,hb,nf];exact hk _ _ _
  ·exact Le.no _
 ·exact Le.no _
theorem afo {dc:oH}(hd:dc.Ok)(esz:Nat)(vs:List D):Le (iaL dc esz vs k) (eZ (R0 esz vs) k'):=by
 unfold iaL;split
 ·refine Le.grd fun h=>Le.opt fun x hx=>(hd.el _ _ _).trans ?_
  simp only[R0,h,cond_true,hx];exact hk _ _ _
 ·refine Le.grd fun h=>Le.opt fun x hx=>(hd.el _ _ _).trans ?_
  simp only[R0,h,cond_true,hx];exact hk _ _ _
 ·refine Le.grd fun h=>Le.opt fun x hx=>(hd.el _ _ _).trans ?_
  simp only[R0,h,cond_true,hx];exact hk _ _ _
 ·refine Le.grd fun h=>Le.grd fun h1=>Le.grd fun h2=>?_
  simp only[R0,h,h1,h2,Bool.and_self,cond_true];exact hk _ _ _
 ·exact Le.no _
theorem afu (vs:List D):Le (ixL vs k) (eZ (aIx vs) k'):=by
 unfold ixL;split
 ·refine Le.opt fun x hx=>?_
  simp only[aIx,hx];exact hk _ _ _
 ·exact Le.no _
theorem VZ (lo hi:Bool)(vs:List D):Le (RE lo hi vs k) (eZ (qd lo hi vs) k'):=by
 unfold RE;split
 ·refine mB fun l h m hp=>?_
  simp only[qd,hp];exact hk _ _ _
 ·exact Le.no _
theorem aab (esz:Nat)(lo hi mx:Bool)(vs:List D)(ids:List Nat)(obs:List Ob):Le (aaa esz lo hi mx vs ids obs k) (eZ (oW esz lo hi mx vs ids obs) k'):=by
 unfold aaa;split
 ·refine Le.grd fun h=>mB fun l h' m hp=>?_
  simp only[oW,h,hp,cond_true,Bool.false_and,cond_false];exact hk _ _ _
 ·refine Le.grd fun h=>mB fun l h' m hp=>?_
  simp only[oW,h,hp,cond_true];exact hk _ _ _
 ·refine Le.grd fun h=>mB fun l h' m hp=>?_
  rw[aaj];simp only[oW,h,hp,cond_true,cond_false];cases lo&&!hi&&(Nat.beq l h'&&rW (ids.zip obs) _ _)<;>exact hk _ _ _
 ·refine Le.grd fun h=>mB fun l h' m hp=>Le.two (fun h1=>?_) (fun h1=>?_)
  ·simp only[oW,h,hp,cond_true,Bool.true_and,h1];exact hk _ _ _
  ·simp only[oW,h,hp,cond_true,cond_false,Bool.true_and,h1];exact hk _ _ _
 ·exact gb hk _
theorem ZD {dc:oH}(hd:dc.Ok)(n:Nat)(agg:Bool)(vs:List D)(obs:List Ob):Le (ZC dc n agg vs obs k) (eZ (iu n agg vs obs) k'):=by
 unfold ZC;split
 ·split
  ·refine Le.opt fun e he=>(hd.el _ _ _).trans (Le.opt fun ds hds=>Le.opt fun d hd=>?_)
   simp only[iu,he,hds,hd];exact hk _ _ _
  ·refine Le.opt fun e he=>(hd.el _ _ _).trans (Le.opt fun ds hds=>Le.opt fun d hd=>?_)
   simp only[iu,he,hds,hd];exact hk _ _ _
  ·exact Le.no _
 ·exact gb hk _
theorem V6 {dc:oH}(hd:dc.Ok)(n id i off:Nat)(d:D)(ids:List Nat)(obs:List Ob):Le (RI dc n id i off d ids obs k) (eZ (qe n [.el id i off,d] ids obs) k'):=by
 unfold RI;split
 ·rename_i es hl;refine Le.opt fun e he=>(hd.el _ _ _).trans (Le.opt fun x hx=>Le.grd fun h1=>Le.grd fun h2=>Le.opt fun e' he'=>?_)
  simp only[qe,hl,he,hx,h1,h2,Bool.and_self,cond_true,he'];exact hk _ _ _
 ·exact Le.no _
theorem V5 {dc:oH}(hd:dc.Ok)(n:Nat)(vs:List D)(ids:List Nat)(obs:List Ob):Le (RH dc n vs ids obs k) (eZ (qe n vs ids obs) k'):=by
 unfold RH;split
 ·exact V6 hk hd _ _ _ _ _ _ _
 ·rename_i id i d hp;split
  ·rename_i es hl;refine Le.opt fun e he=>Le.opt fun x hx=>Le.grd fun h1=>Le.grd fun h2=>Le.opt fun e' he'=>?_
   have hb:=lζ h1;have hb2:=lζ h2;have hs:splice (cells e) 0 (cells x)=cells x:=by simp[splice,hb,hb2.symm▸List.drop_length]
   have hle:Nat.ble (0+n) (cells e).length=true:=by rw[Nat.ble_eq];omega
   simp only[qe,hl,he,hx,h1,hle,Bool.and_self,cond_true,hs,he'];exact hk _ _ _
  ·exact Le.no _
 ·exact gb hk _
omit hk in
theorem Nc {kt:TypeDesc}{x:Da}{q:Option Nat→R}{y:R}:∀(ks:List Da) (i:Nat),(∀o,bV kt x ks i=some o→Le (q o) y)→Le (Nb kt x ks i q) y
 |[],i,h=>by unfold Nb;exact h none rfl
 |c::r,i,h=>by
  unfold Nb;refine Le.opt fun b hb=>Le.two (fun e=>?_) (fun e=>?_)
  ·subst e;exact h _ (by simp only[bV,hb])
  ·subst e;exact Nc r (i+1) fun o ho=>h o (by simp only[bV,hb,ho])
omit hk in
theorem Nd {keys:Bool}{kt:TypeDesc}{x:Da}{q:Option Nat→R}{y:R}(ks:List Da)(h:∀o,bV kt x ks 0=some o→Le (q o) y):Le (Y7 keys kt x ks q) y:=by
 cases keys
 ·exact Le.opt h
 ·exact Nc ks 0 h
theorem acw {dc:oH}(hd:dc.Ok)(kt:TypeDesc)(z:D)(ok:Bool)(vs:List D)(ids:List Nat)(obs:List Ob):Le (afF dc kt z ok vs ids obs k) (eZ (IU kt z ok vs ids obs) k'):=by
 unfold afF;split
 ·rename_i d x;split
  ·rename_i ks ws he;refine Nd ks fun o ho=>?_
   have key:Le (iG o (k (bif ok then .tup [z,.p (.bool false)]else z) [] []) fun i=>cL ws[i]? fun v=>dc.mv z v fun v=>k (bif ok then .tup [.p v,.p (.bool true)]else .p v) [] []) (eZ (match bV kt x ks 0 with
    |some (some i)=>match ws[i]? with
     |some v=>val (bif ok then .tup [.p v,.p (.bool true)]else .p v)
     |none=>none
    |some none=>val (bif ok then .tup [z,.p (.bool false)]else z)
    |none=>none) k'):=by
    rw[ho];cases o with
    |none=>exact hk _ _ _
    |some i=>
     refine Le.opt fun v hv=>(hd.mv _ _ _).trans ?_
     simp only[hv];exact hk _ _ _
   split at he
   ·simp only[lα,lε]at he;obtain⟨rfl,rfl⟩:=he;exact key
   ·simp only[lα,lε]at he;obtain⟨rfl,rfl⟩:=he;exact key
   ·split at he
    ·rename_i hl;simp only[lα,lε]at he;obtain⟨rfl,rfl⟩:=he;simp only[IU,hl];exact key
    ·rename_i hl;simp only[lα,lε]at he;obtain⟨rfl,rfl⟩:=he;simp only[IU,hl];exact key
    ·cases he
   ·cases he
  ·exact gb hk _
 ·exact gb hk _
theorem ZN (keys:Bool)(kt:TypeDesc)(vs:List D)(ids:List Nat)(obs:List Ob):Le (ZM keys kt vs ids obs k) (eZ (AD kt vs ids obs) k'):=by
 unfold ZM;split
 ·split
  ·rename_i hl;split
   ·rename_i y hp;refine Nd _ fun o ho=>?_
    simp only[AD,hl,hp,ho];cases o<;>exact hk _ _ _
   ·exact gb hk _
  ·exact gb hk _
 ·exact gb hk _
theorem ZL (esz:Nat)(z:Da)(bytes base kk:Nat)(vs:List D):Le (ZK esz z bytes base kk vs k) (eZ (Mx esz z bytes base kk vs) k'):=by
 unfold ZK;split
 ·refine Le.grd fun h=>?_
  simp only[Mx,h,cond_true];exact hk _ _ _
 ·exact Le.no _
theorem aa0 (tr:Bool)(esz bytes base kk:Nat)(vs:List D)(ids:List Nat)(obs:List Ob):Le (aen tr esz bytes base kk vs ids obs k) (eZ (uT esz bytes base kk vs ids obs) k'):=by
 unfold aen;split
 ·rename_i id len z b;split
  ·rename_i es hl;split
   ·refine Le.grd fun h1=>Le.opt fun ys hy=>Le.grd fun h3=>?_
    unfold dW at h3;simp only[uT,qK,hl,h1,cond_true,hy,List.isEmpty_cons,Bool.false_and,cond_false,List.drop_zero,h3,mξ,List.cons_append,List.nil_append];rw[←mξ];exact hk _ _ _
   refine Le.grd fun h1=>Le.grd fun h2=>Le.opt fun ys hy=>Le.grd fun h3=>?_
   have h2':=lζ h2;subst h2';unfold dW at h3;simp only[uT,qK,hl,h1,cond_true,hy,List.isEmpty_cons,Bool.false_and,cond_false,List.drop_zero,List.take_length,h3,mξ,List.cons_append,List.nil_append];rw[←mξ];exact hk _ _ _
  ·exact Le.no _
 ·refine Le.opt fun ys hy=>Le.grd fun h3=>?_
  unfold dW at h3;simp only[uT,qK,hy,List.isEmpty_nil,Bool.not_true,Bool.and_false,cond_false,List.length_nil,h3,cond_true,List.nil_append];rw[Nat.zero_add];exact hk _ _ _
 ·refine Le.opt fun ys hy=>Le.grd fun h3=>?_
  unfold dW at h3;simp only[uT,qK,Fp,List.isEmpty_nil,Bool.or_true,cond_true,hy,Bool.not_true,Bool.and_false,cond_false,List.length_nil,h3,List.nil_append];rw[Nat.zero_add];exact hk _ _ _
 ·refine Le.grd fun h1=>Le.opt fun ys hy=>Le.two (fun h2=>?_) (fun h2=>Le.grd fun h3=>?_)
  ·rw[lδ]at h2;simp only[uT,qK,h1,cond_true,hy,List.isEmpty_nil,h2.1,h2.2,Bool.and_self];exact hk _ _ _
  ·unfold dW at h3;rw[Bool.and_comm]at h2;simp only[uT,qK,h1,cond_true,hy,List.isEmpty_nil,Bool.true_and,h2,cond_false,h3,List.nil_append];rw[←mξ];exact hk _ _ _
 ·exact gb hk _
theorem aa2 (vs:List D)(ids:List Nat)(obs:List Ob):Le (aeq vs ids obs k) (eZ (UE vs ids obs) k'):=by
 unfold aeq;split
 ·refine Le.opt fun es he=>Le.opt fun s hs=>?_
  simp only[UE,he,hs];exact hk _ _ _
 ·exact Le.no _
theorem DM {dc:oH}(hd:dc.Ok){cc:ab}{call:aJ}(hc:bA cc call)(f:Nat)(args:List D)(ids:List Nat)(obs:List Ob)(len:Nat):Le (MJ dc cc f args ids obs len k) (eZ (eI call f args ids obs len) k'):=by
 unfold MJ;refine(hc f _ _ _ (fun r out=>iL (Nat.ble ids.length out.length) (k' (mapD (back ids.length len ids out.length) r) (ids.zip (out.map (cq (back ids.length len ids out.length)))) ((out.map (cq (back ids.length len ids out.length))).drop ids.length)) none) fun r out=>(hd.ca _ _ _ _ _).trans ?_).trans ?_
 ·rw[gS,pb];exact Le.grd fun h=>by simp only[h,iL];exact hk _ _ _
 ·rw[j1,pb,lN];unfold eI eZ;cases call f (mapD.mapDL (idx ids) args) (obs.map (cq (idx ids)))with
  |none=>exact Le.no _
  |some p=>
   obtain⟨r,out⟩:=p;refine Le.grd fun h=>?_
   simp only[h,cond_true];exact Le.refl _
theorem UV [Mv]{dc:oH}(hd:dc.Ok){cc:ab}{call:aJ}(hc:bA cc call)(f:Nat)(args:List D)(ids:List Nat)(obs:List Ob)(len:Nat):Le (Qz dc cc f args ids obs len k) (eZ (wz call f args ids obs len) k'):=by
 unfold Qz wz;cases Mv.mv f
 ·exact DM hk hd hc _ _ _ _ _
 simp only[cond_true];generalize hm:fq f (gw (li ids) args) ids.length=m;refine(hc f _ _ _ (fun r out=>iL (Nat.ble m out.length) (k' (mapD (back m len ids out.length) r) ((ids.take m).zip (out.map (cq (back m len ids out.length)))++(ids.drop m).map fun i=>(i,.dead)) ((out.map (cq (back m len ids out.length))).drop m)) none) fun r out=>(hd.ca _ _ _ _ _).trans ?_).trans ?_
 ·rw[gS,pb];exact Le.grd fun h=>by simp only[h,iL];exact hk _ _ _
 ·rw[j1,lN]at hm;rw[j1,pb,lN,hm];unfold lM eZ;cases call f (mapD.mapDL (idx ids) args) (obs.map (cq (idx ids)))with
  |none=>exact Le.no _
  |some p=>
   obtain⟨r,out⟩:=p;refine Le.grd fun h=>?_
   simp only[h,cond_true];exact Le.refl _
theorem UY [Mv]{dc:oH}(hd:dc.Ok){cc:ab}{call:aJ}(hc:bA cc call)(vs:List D)(ids:List Nat)(obs:List Ob)(len:Nat):Le (QB dc cc vs ids obs len k) (eZ (DN call vs ids obs len) k'):=by
 unfold QB DN;split
 ·rename_i f caps args;simp only;cases Mv.mv (Pt f)
  ·exact DM hk hd hc _ _ _ _ _
  ·exact Le.no _
 ·rename_i f caps args;simp only;cases Mv.mv (Pt f)
  ·exact DM hk hd hc _ _ _ _ _
  ·exact Le.no _
 ·exact Le.no _
theorem aaT [Mv]{dc:oH}(hd:dc.Ok){cc:ab}{call:aJ}(hc:bA cc call)(base:Nat)(o:O)(kk:Nat)(vs:List D)(ids:List Nat)(obs:List Ob)(len:Nat):Le (aei dc cc base o kk vs ids obs len k) (eZ (zc call base o kk vs ids obs len) k'):=by
 unfold aei;split
 ·exact Z5 hk _
 ·exact aa5 hk _ _
 ·exact XM hk _ _ _
 ·exact afo hk hd _ _
 ·exact afu hk _
 ·exact VZ hk _ _ _
 ·exact aab hk _ _ _ _ _ _ _
 ·exact ZD hk hd _ _ _ _
 ·exact V5 hk hd _ _ _ _
 ·exact acw hk hd _ _ _ _ _ _
 ·exact ZN hk _ _ _ _ _
 ·exact ZL hk _ _ _ _ _ _
 ·exact aa0 hk _ _ _ _ _ _ _ _
 ·exact aa2 hk _ _ _
 ·exact UV hk hd hc _ _ _ _ _
 ·exact UY hk hd hc _ _ _ _
 ·rename_i o' h1 h2 h3 h4 h5 h6 h7 h8 h9 h10 h11 h12 h13 h14 h15 h16;have e:qf (fun _ _ _=>none) base o kk vs ids obs len=zc call base o kk vs ids obs len:=by
   cases o<;>first|rfl|exact absurd rfl (h15 _ _)|exact absurd rfl h16
  rw[e];exact gb hk _
end laws
end
end Go.Ab
end
section
namespace Go.Ab
open Go
noncomputable section
def gdL (x:eQ)(tm:Tm)(t e:R):R:=
 match x.gd with
 |none=>t
 |some (g,w)=>match get tm g with
  | .p (.bool b)=>match w with
   |true=>iL b t e
   |false=>iL b e t
  | .tup []=>e
  |_=>none
theorem afk {x:eQ}{tm:Tm}{t e X:R}(ht:dD x tm=some true→Le t X)(he:dD x tm=some false→Le e X):Le (gdL x tm t e) X:=by
 unfold gdL;split
 ·rename_i h;exact ht (by simp[dD,h])
 ·rename_i g w h;split
  ·rename_i b hb;have hg:dD x tm=some (b==w):=by simp[dD,h,hb]
   cases w
   ·exact Le.two (fun e=>he (by rw[hg,e];rfl)) (fun e=>ht (by rw[hg,e];rfl))
   ·exact Le.two (fun e=>ht (by rw[hg,e];rfl)) (fun e=>he (by rw[hg,e];rfl))
  ·rename_i hb;exact he (by simp[dD,h,hb])
  ·exact Le.no _
variable [Mv]
def AP (o:O)(vs:List D)(hp:List Ob):List Nat:=
 match o with
 | .call f _=>match Mv.mv f with
  |true=>hZ hp bp ((oY (gt vs []) []).flatMap fun i=>ls (aZ hp i)) (oY (gt vs []) [])
  |false=>hZ hp bp (gt vs []) []
 | .callv=>hZ hp bp (gt vs []) []
 |o=>bM o vs hp
theorem ZR (o:O)(vs:List D)(hp:List Ob):AP o vs hp=dG o vs hp:=by
 cases o<;>first
  |rfl
  |(simp only[AP,fg,ga,mθ,dG,bM];done)
  |(
    rename_i f raw;simp only[AP,fg,ga,mθ,dG,D9];cases Mv.mv f<;>rfl)
def RF (v:D)(k:D→R):R:=match v with
 | .p (.bool b)=>iL b (k (.p (.bool true))) (k (.p (.bool false)))
 |v=>k v
theorem V2 {v:D}{k:D→R}{X:R}(h:Le (k v) X):Le (RF v k) X:=by
 unfold RF;split
 ·rename_i b;cases b<;>exact h
 ·exact h
def aae (s:Bool)(v:D)(k:D→R):R:=match s with
 |true=>RF v k
 |false=>k v
theorem V3 {s:Bool}{v:D}{k:D→R}{X:R}(h:Le (k v) X):Le (aae s v k) X:=by
 cases s
 ·exact h
 ·exact V2 h
def ads (d:Option Nat):List eQ→Bool
 |[]=>false
 |x::r=>match d with
  |none=>false
  |some t=>(match x.gd with|some (g,_)=>Nat.beq g t|none=>false)||((match x.op,x.as with| .pick,.t g::_=>Nat.beq g t|_,_=>false)||ads d r)
def opL (dc:oH)(s:Bool)(cc:ab)(base:Nat)(x:eQ)(tm:Tm)(hp:List Ob)(k:D→List Ob→gf→R):R:=
 iL (!(cX x.op)||cO (aZ hp (base+x.k)))
  (aei dc cc base x.op x.k (x.as.map (ev tm)) (AP x.op (x.as.map (ev tm)) hp) ((AP x.op (x.as.map (ev tm)) hp).map (aZ hp)) hp.length fun v ups new=>aae s v fun v=>
   k v (grow (az hp ups) new) ⟨bif cX x.op then(base+x.k)::AP x.op (x.as.map (ev tm)) hp else AP x.op (x.as.map (ev tm)) hp,Ai (AP x.op (x.as.map (ev tm)) hp) hp ups,!new.isEmpty,hp.length⟩) none
def ahj (tm:Tm)(hp:List Ob)(k:K):R:=k tm hp
def Z0 (dc:oH)(cc:ab)(base:Nat):List eQ→Tm→List Ob→List gf→(Tm→List Ob→List gf→R)→R
 |[],tm,hp,fs,k=>k tm hp fs.reverse
 |x::r,tm,hp,fs,k=>ahj tm hp fun tm hp=>gdL x tm (opL dc (dc.spl||ads x.dst r) cc base x tm hp fun v hp f=>Z0 dc cc base r (put x.dst v tm) hp (f::fs) k) (Z0 dc cc base r (put x.dst (.tup []) tm) hp (⟨[],[],false,0⟩::fs) k)
section
variable {dc:oH} (hd:dc.Ok) {cc:ab} {call:aJ} (hc:bA cc call) {base:Nat}
include hd hc
theorem afU {s:Bool}{x:eQ}{tm:Tm}{hp:List Ob}{k:D→List Ob→gf→R}{X:R}(h:∀v hp' fL,tD call base x ⟨tm,hp⟩=some (⟨put x.dst v tm,hp'⟩,cu fL)→Le (k v hp' fL) X):Le (opL dc s cc base x tm hp k) X:=by
 unfold opL;refine Le.grd fun hm=>(aaT (fun _ _ _=>Le.refl _) hd hc _ _ _ _ _ _ _).trans ?_
 unfold eZ;refine Le.opt fun e he=>?_
 obtain⟨v,ups,new⟩:=e;refine V3 (h v _ _ ?_);simp only[ZR]at he ⊢
 simp only[tD,hm,cond_true,he,cu,oh]
theorem Kx:∀(ops:List eQ) (tm:Tm) (hp:List Ob) (fs:List gf) (k:Tm→List Ob→List gf→R) (X:R),(∀tm' hp' fs',ei call base ops ⟨tm,hp⟩ (fs.map cu)=some (⟨tm',hp'⟩,fs'.map cu)→Le (k tm' hp' fs') X)→Le (Z0 dc cc base ops tm hp fs k) X
 |[],tm,hp,fs,k,X,h=>h _ _ _ (by simp only[ei,List.map_reverse])
 |x::r,tm,hp,fs,k,X,h=>by
  unfold Z0 ahj;refine afk (fun hg=>afU hd hc fun v hp' fL he=>Kx r _ _ _ _ _ fun tm' hp'' fs' hr=>h _ _ _ ?_) (fun hg=>Kx r _ _ _ _ _ fun tm' hp'' fs' hr=>h _ _ _ ?_)
  ·simp only[ei,hg,he];exact hr
  ·simp only[ei,hg];exact hr
end
theorem DY {call:aJ}{base:Nat}:∀{ops:List eQ} {st st':St} {fs fs':List eq},ei call base ops st fs=some (st',fs')→nW call base ops st=some st'
 |[],st,st',fs,fs',h=>by
  simp only[ei,lα,lε]at h;simp only[nW,h.1]
 |x::r,st,st',fs,fs',h=>by
  simp only[ei]at h;simp only[nW];split at h
  ·cases h
  ·rename_i hg;split at h
   ·cases h
   ·rename_i he;exact DY h
  ·rename_i hg;exact DY h
abbrev JJ:=Ex→Tm→List Ob→R
def si (o:Option (Ex×St))(J:JJ):R:=cL o fun p=>J p.1 p.2.tm p.2.hp
def JLe (J J':JJ):Prop:=∀ex tm hp,Le (J ex tm hp) (J' ex tm hp)
def exK (ex:Ex)(n:R)(e:Nat→R)(r:R):R:=Ex.rec (motive:=fun _=>R) n (fun i=>e i) r ex
def af5 (dc:oH)(cc:ab)(nal:Nat)(ops:List eQ)(prs:Option (List (Nat×Nat)))(out:List Nat)(tm:Tm)(hp:List Ob)(J:JJ):R:=
 Z0 dc cc hp.length ops tm (grow hp (List.replicate nal .unborn)) [] fun tm hp fs=>match prs with
  |none=>J .norm (fi out id tm) hp
  |some ps=>iL (oX fs ps) (J .norm (fi out id tm) hp) none
theorem acP {dc:oH}(hd:dc.Ok){cc:ab}{call:aJ}(hc:bA cc call)(nal:Nat)(ops:List eQ)(prs:Option (List (Nat×Nat)))(out:List Nat)(tm:Tm)(hp:List Ob){J J':JJ}(hJ:JLe J J')(n m:Nat):Le (af5 dc cc nal ops prs out tm hp J) (si (cN call n m (.reg nal ops prs out) ⟨tm,hp⟩) J'):=by
 unfold af5;refine Kx hd hc _ _ _ _ _ _ fun tm' hp' fs' he=>?_
 split
 ·have h0:=DY he;simp only[cN,AI,h0,si,cL];exact hJ _ _ _
 ·refine Le.grd fun ha=>?_
  rw[qg]at ha;simp only[List.map_nil]at he;simp only[cN,AI,he,ha,cond_true,si,cL];exact hJ _ _ _
def Zt (m:Nat)(live:List Nat)(tm:Tm)(hp:List Ob)(k:K):R:=
 k (fi live (jA (li (hZ hp bp (gt (live.map (get tm)) (km m hp)) (List.range m)))) tm) (qv (hZ hp bp (gt (live.map (get tm)) (km m hp)) (List.range m)) hp)
theorem QZ (m:Nat)(live:List Nat)(tm:Tm)(hp:List Ob):∃st,m7 m (.keep live) ⟨tm,hp⟩=some st∧∀k,Zt m live tm hp k=k st.tm st.hp:=by
 refine⟨_,rfl,fun k=>?_⟩
 unfold Zt;have e:jA (li (hZ hp bp (gt (live.map (get tm)) (km m hp)) (List.range m)))=mapD (idx (co hp bp (dids.didsL (live.map (get tm))++(hp.take m).flatMap ls) (List.range m))):=by
  funext d
  rw[gS,lN,fg,ga,j3]
 rw[e,mW,fg,ga,j3]
def ghL (m:Nat)(g:Gh)(tm:Tm)(hp:List Ob)(k:K):R:=
 match g with
 | .keep live=>Zt m live tm hp k
 |g=>cL (m7 m g ⟨tm,hp⟩) fun st=>k st.tm st.hp
def Yt (d:D)(t e:R):R:=match d with| .p (.bool b)=>iL b t e|_=>none
abbrev cJ:=Nat→Bool→Nat→List Nat→Co→Nat→Tm→List Ob→JJ→R
def ghD (lp:cJ)(n m:Nat)(g:Gh)(c:Co)(p:Nat)(tm:Tm)(hp:List Ob)(J:JJ)(k:K):R:=
 match g with
 | .keep live=>lp p false m live c n tm hp J
 | .own s z=>ghL m (.own s z) tm hp k
 | .ownc s o z=>ghL m (.ownc s o z) tm hp k
 | .frz s=>ghL m (.frz s) tm hp k
 | .frzc s o=>ghL m (.frzc s o) tm hp k
def Bs (lp:cJ)(dc:oH)(cc:ab)(n m:Nat)(c:Co):Nat→Tm→List Ob→JJ→R:=
 Co.rec (motive:=fun _=>Nat→Tm→List Ob→JJ→R)
  (fun _ tm hp J=>J .norm tm hp)
  (fun nal ops prs out _ tm hp J=>af5 dc cc nal ops prs out tm hp J)
  (fun _ _ a b p tm hp J=>a (4*p+1) tm hp fun ex tm hp=>exK ex (b (4*p+2) tm hp J) (fun i=>J (.exit i) tm hp) (J .ret tm hp))
  (fun x _ _ t e p tm hp J=>Yt (ev tm x) (t (4*p+1) tm hp J) (e (4*p+2) tm hp J))
  (fun id _ b p tm hp J=>b (4*p+3) tm hp fun ex tm hp=>exK ex (J .norm tm hp) (fun i=>iL (Nat.beq i id) (J .norm tm hp) (J (.exit i) tm hp)) (J .ret tm hp))
  (fun live b _ p tm hp J=>lp p true m live b n tm hp J)
  (fun id _ tm hp J=>J (.exit id) tm hp)
  (fun _ tm hp J=>J .ret tm hp)
  (fun g c b p tm hp J=>ghD lp n m g c p tm hp J fun tm hp=>b (4*p+3) tm hp J)
  c
def de:Co→Nat→List (Nat×List Nat×Co×Bool)
 | .seq a b,p=>de a (4*p+1)++de b (4*p+2)
 | .cond _ a b,p=>de a (4*p+1)++de b (4*p+2)
 | .block _ b,p=>de b (4*p+3)
 | .loop live b,p=>[(p,live,b,true)]
 | .gh (.keep live) b,p=>[(p,live,b,false)]
 | .gh _ b,p=>de b (4*p+3)
 |_,_=>[]
def ahl (live:List Nat)(b:Co)(k:Bool):Co:=match k with|true=> .loop live b|false=> .gh (.keep live) b
def bm (lp:cJ)(call:aJ)(n m:Nat)(e:Nat×List Nat×Co×Bool):Prop:=
 ∀tm hp J J',JLe J J'→Le (lp e.1 e.2.2.2 m e.2.1 e.2.2.1 n tm hp J) (si (cN call n m (ahl e.2.1 e.2.2.1 e.2.2.2) ⟨tm,hp⟩) J')
section
variable {lp:cJ} {dc:oH} (hd:dc.Ok) {cc:ab} {call:aJ} (hc:bA cc call) {n m:Nat}
include hd hc
theorem hO:∀(c:Co) (p:Nat) (tm:Tm) (hp:List Ob) (J J':JJ),(∀e∈de c p,bm lp call n m e)→JLe J J'→Le (Bs lp dc cc n m c p tm hp J) (si (cN call n m c ⟨tm,hp⟩) J')
 | .skip,p,tm,hp,J,J',hl,hJ=>hJ _ _ _
 | .ret,p,tm,hp,J,J',hl,hJ=>hJ _ _ _
 | .exit i,p,tm,hp,J,J',hl,hJ=>hJ _ _ _
 | .reg nal ops prs out,p,tm,hp,J,J',hl,hJ=>acP hd hc nal ops prs out tm hp hJ n m
 | .seq a b,p,tm,hp,J,J',hl,hJ=>by
  have hl1:∀e∈de a (4*p+1),bm lp call n m e:=fun e he=>hl e (List.mem_append_left _ he)
  have hl2:∀e∈de b (4*p+2),bm lp call n m e:=fun e he=>hl e (List.mem_append_right _ he)
  refine(hO a (4*p+1) tm hp _ (fun ex tm hp=>exK ex (si (cN call n m b ⟨tm,hp⟩) J') (fun i=>J' (.exit i) tm hp) (J' .ret tm hp)) hl1 ?_).trans ?_
  ·intro ex tm hp;cases ex with
   |norm=>exact hO b (4*p+2) tm hp J J' hl2 hJ
   |exit i=>exact hJ _ _ _
   |ret=>exact hJ _ _ _
  ·simp only[cN,si];cases cN call n m a ⟨tm,hp⟩with
   |none=>exact Le.no _
   |some q=>
    obtain⟨ex,st⟩:=q;cases ex<;>exact Le.refl _
 | .cond x t e,p,tm,hp,J,J',hl,hJ=>by
  have hl1:∀e∈de t (4*p+1),bm lp call n m e:=fun e he=>hl e (List.mem_append_left _ he)
  have hl2:∀e'∈de e (4*p+2),bm lp call n m e':=fun e' he=>hl e' (List.mem_append_right _ he)
  show Le (Yt (ev tm x) (Bs lp dc cc n m t (4*p+1) tm hp J) (Bs lp dc cc n m e (4*p+2) tm hp J)) _;unfold Yt;simp only[cN];split
  ·rename_i b hb;refine Le.two (fun h=>?_) (fun h=>?_)
   ·subst h;simp only[hb];exact hO t _ tm hp J J' hl1 hJ
   ·subst h;simp only[hb];exact hO e _ tm hp J J' hl2 hJ
  ·exact Le.no _
 | .block id b,p,tm,hp,J,J',hl,hJ=>by
  refine(hO b (4*p+3) tm hp _ (fun ex tm hp=>exK ex (J' .norm tm hp) (fun i=>iL (Nat.beq i id) (J' .norm tm hp) (J' (.exit i) tm hp)) (J' .ret tm hp)) hl ?_).trans ?_
  ·intro ex tm hp;cases ex with
   |norm=>exact hJ _ _ _
   |exit i=>
    show Le (iL (Nat.beq i id) _ _) (iL (Nat.beq i id) _ _);cases Nat.beq i id<;>exact hJ _ _ _
   |ret=>exact hJ _ _ _
  ·simp only[cN,si];cases cN call n m b ⟨tm,hp⟩with
   |none=>exact Le.no _
   |some q=>
    obtain⟨ex,st⟩:=q;cases ex with
    |norm=>exact Le.refl _
    |ret=>exact Le.refl _
    |exit i=>
     simp only[cL,exK];cases h:Nat.beq i id<;>simp only[iL,cond_true,cond_false]<;>exact Le.refl _
 | .loop live b,p,tm,hp,J,J',hl,hJ=>hl (p,live,b,true) (lτ ..) tm hp J J' hJ
 | .gh (.keep live) b,p,tm,hp,J,J',hl,hJ=>hl (p,live,b,false) (lτ ..) tm hp J J' hJ
 | .gh (.own s z) b,p,tm,hp,J,J',hl,hJ=>by
  show Le (cL (m7 m (.own s z) ⟨tm,hp⟩) fun st=>Bs lp dc cc n m b (4*p+3) st.tm st.hp J) _;refine Le.opt fun st hs=>?_
  simp only[cN,hs];exact hO b (4*p+3) st.tm st.hp J J' hl hJ
 | .gh (.ownc s o z) b,p,tm,hp,J,J',hl,hJ=>by
  show Le (cL (m7 m (.ownc s o z) ⟨tm,hp⟩) fun st=>Bs lp dc cc n m b (4*p+3) st.tm st.hp J) _;refine Le.opt fun st hs=>?_
  simp only[cN,hs];exact hO b (4*p+3) st.tm st.hp J J' hl hJ
 | .gh (.frz s) b,p,tm,hp,J,J',hl,hJ=>by
  show Le (cL (m7 m (.frz s) ⟨tm,hp⟩) fun st=>Bs lp dc cc n m b (4*p+3) st.tm st.hp J) _;refine Le.opt fun st hs=>?_
  simp only[cN,hs];exact hO b (4*p+3) st.tm st.hp J J' hl hJ
 | .gh (.frzc s o) b,p,tm,hp,J,J',hl,hJ=>by
  show Le (cL (m7 m (.frzc s o) ⟨tm,hp⟩) fun st=>Bs lp dc cc n m b (4*p+3) st.tm st.hp J) _;refine Le.opt fun st hs=>?_
  simp only[cN,hs];exact hO b (4*p+3) st.tm st.hp J J' hl hJ
def em {ST:Type}(S:(ST→R)→ST→R)(k:Nat)(st:ST):R:=Nat.rec (motive:=fun _=>ST→R) (fun _=>none) (fun _ ih st=>S ih st) k st
theorem SQ {ST:Type}{live:List Nat}{b:Co}{p:Nat}{dec:Tm→List Ob→(ST→R)→R}{tmO:ST→Tm}{hpO:ST→List Ob}{S:JJ→(ST→R)→ST→R}
  (hdec:∀tm hp (Y:ST→R) (X:K),(∀st,Le (Y st) (X (tmO st) (hpO st)))→Le (dec tm hp Y) (X tm hp))
  (hS:∀(J:JJ) (Y:ST→R) st,Bs lp dc cc n m b p (tmO st) (hpO st) (fun ex tm hp=>exK ex (Zt m live tm hp fun tm hp=>dec tm hp Y) (fun i=>J (.exit i) tm hp) (J .ret tm hp))=S J Y st)
  (hin:∀e∈de b p,bm lp call n m e) {J J':JJ} (hJ:JLe J J'):∀(k:Nat) (tm:Tm) (hp:List Ob),
  Le (Zt m live tm hp fun tm hp=>dec tm hp fun st=>em (S J) k st) (si (zH m (cN call n m b) live k ⟨tm,hp⟩) J')
 |0,tm,hp=>by
  obtain⟨st,_,h2⟩:=QZ m live tm hp;rw[h2];exact(hdec st.tm st.hp _ (fun _ _=>none) fun _=>Le.no _).trans (Le.no _)
 |k+1,tm,hp=>by
  obtain⟨st,h1,h2⟩:=QZ m live tm hp;rw[h2];have e:si (zH m (cN call n m b) live (k+1) ⟨tm,hp⟩) J'=si (cN call n m b st) (fun ex tm hp=>exK ex (si (zH m (cN call n m b) live k ⟨tm,hp⟩) J') (fun i=>J' (.exit i) tm hp) (J' .ret tm hp)):=by
   simp only[zH,h1];cases cN call n m b st with
   |none=>rfl
   |some q=>
    obtain⟨ex,st'⟩:=q;cases ex<;>rfl
  rw[e];refine hdec st.tm st.hp _ (fun tm hp=>si (cN call n m b ⟨tm,hp⟩) _) fun s=>?_
  have e2:em (S J) (k+1) s=S J (em (S J) k) s:=rfl;rw[e2,←hS];refine hO hd hc b p _ _ _ _ hin ?_;intro ex tm hp;cases ex with
  |norm=>exact SQ hdec hS hin hJ k tm hp
  |exit i=>exact hJ _ _ _
  |ret=>exact hJ _ _ _
end
def Q7 {ST:Type}(q:Nat)(dec:Tm→List Ob→(ST→R)→R)(S:JJ→(ST→R)→ST→R)(lp:cJ):cJ:=fun p k m live b n tm hp J=>iL (Nat.beq p q) (Zt m live tm hp fun tm hp=>dec tm hp fun st=>em (S J) n st) (lp p k m live b n tm hp J)
def Eu {ST:Type}(q:Nat)(dec:Tm→List Ob→(ST→R)→R)(S:JJ→ST→R)(lp:cJ):cJ:=fun p k m live b n tm hp J=>iL (Nat.beq p q) (Zt m live tm hp fun tm hp=>dec tm hp fun st=>S J st) (lp p k m live b n tm hp J)
def bh:cJ:=fun _ _ _ _ _ _ _ _ _=>none
theorem VB {ST:Type}{q:Nat}{dec:Tm→List Ob→(ST→R)→R}{S:JJ→(ST→R)→ST→R}{lp:cJ}{call:aJ}{n m:Nat}{live:List Nat}{b:Co}
  (h:∀tm hp J J',JLe J J'→Le (Zt m live tm hp fun tm hp=>dec tm hp fun st=>em (S J) n st) (si (zH m (cN call n m b) live n ⟨tm,hp⟩) J')):bm (Q7 q dec S lp) call n m (q,live,b,true):=by
 intro tm hp J J' hJ;have:Q7 q dec S lp q true m live b n tm hp J=Zt m live tm hp fun tm hp=>dec tm hp fun st=>em (S J) n st:=by
  show iL (Nat.beq q q) _ _=_;rw[Nat.beq_refl];rfl
 show Le (Q7 q dec S lp q true m live b n tm hp J) _;rw[this];exact h tm hp J J' hJ
theorem lpCut_here {ST:Type}{q:Nat}{dec:Tm→List Ob→(ST→R)→R}{tmO:ST→Tm}{hpO:ST→List Ob}{S:JJ→ST→R}{lp:cJ}{dc:oH}(hd:dc.Ok){cc:ab}{call:aJ}(hc:bA cc call){n m:Nat}{live:List Nat}{b:Co}
  (hdec:∀tm hp (Y:ST→R) (X:K),(∀st,Le (Y st) (X (tmO st) (hpO st)))→Le (dec tm hp Y) (X tm hp))
  (hS:∀(J:JJ) st,Bs lp dc cc n m b (4*q+3) (tmO st) (hpO st) J=S J st)
  (hin:∀e∈de b (4*q+3),bm lp call n m e):bm (Eu q dec S lp) call n m (q,live,b,false):=by
 intro tm hp J J' hJ;have:Eu q dec S lp q false m live b n tm hp J=Zt m live tm hp fun tm hp=>dec tm hp fun st=>S J st:=by
  show iL (Nat.beq q q) _ _=_;rw[Nat.beq_refl];rfl
 show Le (Eu q dec S lp q false m live b n tm hp J) (si (cN call n m (.gh (.keep live) b) ⟨tm,hp⟩) J');rw[this];obtain⟨st,h1,h2⟩:=QZ m live tm hp;rw[h2];simp only[cN,h1];refine hdec st.tm st.hp _ (fun tm hp=>si (cN call n m b ⟨tm,hp⟩) J') fun s=>?_
 rw[←hS];exact hO hd hc b _ _ _ _ _ hin hJ
theorem Q8 {ST:Type}{q:Nat}{dec:Tm→List Ob→(ST→R)→R}{S:JJ→(ST→R)→ST→R}{lp:cJ}{call:aJ}{n m:Nat}{e:Nat×List Nat×Co×Bool}(hq:Nat.beq e.1 q=false)(h:bm lp call n m e):bm (Q7 q dec S lp) call n m e:=by
 intro tm hp J J' hJ;have:Q7 q dec S lp e.1 e.2.2.2 m e.2.1 e.2.2.1 n tm hp J=lp e.1 e.2.2.2 m e.2.1 e.2.2.1 n tm hp J:=by
  show iL (Nat.beq e.1 q) _ _=_;rw[hq];rfl
 show Le (Q7 q dec S lp e.1 e.2.2.2 m e.2.1 e.2.2.1 n tm hp J) _;rw[this];exact h tm hp J J' hJ
theorem NN {ST:Type}{q:Nat}{dec:Tm→List Ob→(ST→R)→R}{S:JJ→ST→R}{lp:cJ}{call:aJ}{n m:Nat}{e:Nat×List Nat×Co×Bool}(hq:Nat.beq e.1 q=false)(h:bm lp call n m e):bm (Eu q dec S lp) call n m e:=by
 intro tm hp J J' hJ;have:Eu q dec S lp e.1 e.2.2.2 m e.2.1 e.2.2.1 n tm hp J=lp e.1 e.2.2.2 m e.2.1 e.2.2.1 n tm hp J:=by
  show iL (Nat.beq e.1 q) _ _=_;rw[hq];rfl
 show Le (Eu q dec S lp e.1 e.2.2.2 m e.2.1 e.2.2.1 n tm hp J) _;rw[this];exact h tm hp J J' hJ
def ab3 (m:Nat)(fz:Bool)(res:List Rv)(tm:Tm)(hp:List Ob):R:=cL (mH ⟨tm,hp⟩ res) fun ds=>Prod.rec (motive:=fun _=>R) (fun ds hp=>some (jA (li (hZ hp bp (gt ds (km m hp)) (List.range m))) (one ds),qv (hZ hp bp (gt ds (km m hp)) (List.range m)) hp)) (bif fz then tE hp ds else(ds,hp))
def acR (m:Nat)(lp:cJ)(dc:oH)(cc:ab)(n:Nat)(x:Fx)(args:List D)(hp:List Ob):R:=
 Bs lp dc cc n m x.body 1 (fb args 0) hp fun ex tm hp'=>exK ex (ab3 m x.fz x.res tm hp') (fun _=>none) (ab3 m x.fz x.res tm hp')
theorem Sw (m:Nat)(fz:Bool)(res:List Rv)(tm:Tm)(hp:List Ob):ab3 m fz res tm hp=match mH ⟨tm,hp⟩ res with
  |some ds=>some (fin m fz ds hp)
  |none=>none:=by
 unfold ab3;cases mH ⟨tm,hp⟩ res with
 |none=>rfl
 |some ds=>
  simp only[cL,fin,gS,lN,fg,ga,j3,mW]
theorem acS {lp:cJ}{dc:oH}(hd:dc.Ok){cc:ab}{call:aJ}(hc:bA cc call){n:Nat}{x:Fx}{args:List D}{hp:List Ob}{m:Nat}(hl:∀e∈de x.body 1,bm lp call n m e):Le (acR m lp dc cc n x args hp) (sw m call n x args hp):=by
 unfold acR sw;refine(hO hd hc x.body 1 _ _ _ _ hl fun _ _ _=>Le.refl _).trans ?_;unfold si;cases cN call n m x.body ⟨fb args 0,hp⟩with
 |none=>exact Le.no _
 |some q=>
  obtain⟨ex,st⟩:=q;cases ex with
  |norm=>exact Le.of_eq (Sw _ _ _ _ _)
  |ret=>exact Le.of_eq (Sw _ _ _ _ _)
  |exit i=>exact Le.no _
def bq (tab:Nat→Option Fn)(n:Nat):ab:=fun f vs hp k=>cL (evFn tab n f vs hp) fun p=>k p.1 p.2
theorem Y3 (tab:Nat→Option Fn)(n:Nat):bA (bq tab n) (evFn tab n):=by
 intro f vs hp k k' hk;unfold bq;cases evFn tab n f vs hp with
 |none=>exact Le.no _
 |some p=>exact hk _ _
theorem aa {tab:Nat→Option Fn}{n f:Nat}{vs:List D}{hp:List Ob}{v:D}{out:List Ob}(h:evFn tab n f vs hp=some (v,out))(k:KV):bq tab n f vs hp k=k v out:=by
 unfold bq;rw[h];rfl
theorem agW {tab:Nat→Option Fn}{f n:Nat}{x:Fx}{lp:cJ}{dc:oH}(hd:dc.Ok){args:List D}{hp:List Ob}{F:R}(hx:tab f=some (.code x)){m:Nat}(hm:fq f args hp.length=m)(hl:∀e∈de x.body 1,bm lp (evFn tab n) n m e)(h:acR m lp dc (bq tab n) n x args hp=F):Le F (evFn tab (n+1) f args hp):=by
 subst h;have:evFn tab (n+1) f args hp=sw m (evFn tab n) n x args hp:=by simp only[evFn,hx,hm]
 rw[this];exact acS hd (Y3 tab n) hl
end
end Go.Ab
end
section
namespace Go.Ab
open Go
noncomputable section
variable [Mv]
structure Rd (T α:Type) where
 e:α→T
 d:T→(α→R)→R
 ok:∀(x:T) (k:α→R) (X:T→R),(∀a,Le (k a) (X (e a)))→Le (d x k) (X x)
namespace Rd
variable {T α β:Type}
def rm (r:Rd T α)(f:α→β)(g:β→α)(h:∀a,g (f a)=a:=by exact fun _=>rfl):Rd T β where
 e b:=r.e (g b)
 d x k:=r.d x fun a=>k (f a)
 ok x k X H:=r.ok x _ X fun a=>by
  have:=H (f a);rw[h a]at this;exact this
def I (i:IntKind):Rd Da Int:=⟨fun n=> .int i n,fun x k=>aU i x k,fun _ _ _ H=>bE fun n q=>by subst q;exact H n⟩
def S:Rd Da (List Nat):=⟨fun s=> .str s,fun x k=>iF x k,fun _ _ _ H=>dY fun n q=>by subst q;exact H n⟩
def B:Rd Da Bool:=⟨fun s=> .bool s,fun x k=>aA x k,fun _ _ _ H=>dO fun n q=>by subst q;exact H n⟩
def L (z:Nat):Rd Da (List Da):=⟨fun s=> .slice z s,fun x k=>pE z x k,fun _ _ _ H=>cp fun n q=>by subst q;exact H n⟩
def M:Rd Da (List Da×List Da):=⟨fun s=> .map s.1 s.2,fun x k=>U7 x fun a b=>k (a,b),fun _ _ _ H=>wD fun a b q=>by subst q;exact H (a,b)⟩
def X:Rd Da Da:=⟨fun x=>x,fun x k=>k x,fun x _ _ H=>H x⟩
def K (i:IntKind)(c:Int):Rd Da Unit:=⟨fun _=> .int i c,fun x k=>ady i c x (k ()),fun _ _ _ H=>Yx fun q=>by subst q;exact H ()⟩
def C (c:Bool):Rd Da Unit:=⟨fun _=> .bool c,fun x k=>Yv c x (k ()),fun _ _ _ H=>U6 fun q=>by subst q;exact H ()⟩
def G (l:Rd (List Da) α):Rd Da α:=⟨fun a=> .agg (l.e a),fun x k=>rL x fun cs=>l.d cs k,fun _ _ X H=>dX fun cs q=>by subst q;exact l.ok cs _ (fun cs=>X (.agg cs)) H⟩
def FP (f:Nat)(l:Rd (List Da) α):Rd Da α:=⟨fun a=> .fn f (l.e a),fun x k=>agP f x fun cs=>l.d cs k,fun _ _ X H=>abB fun cs q=>by subst q;exact l.ok cs _ (fun cs=>X (.fn f cs)) H⟩
def Nm:Rd Da Unit:=⟨fun _=> .nilmap,fun x k=>dNm x (k ()),fun _ _ _ H=>I5 fun q=>by subst q;exact H ()⟩
def P (r:Rd Da α):Rd D α:=⟨fun a=> .p (r.e a),fun x k=>dP x fun y=>r.d y k,fun _ _ X H=>bU fun y q=>by subst q;exact r.ok y _ (fun y=>X (.p y)) H⟩
def Bo (i o:Nat):Rd D Unit:=⟨fun _=> .box i o,fun x k=>QF i o x (k ()),fun _ _ _ H=>I4 fun q=>by subst q;exact H ()⟩
def Ar (i z:Nat):Rd D Nat:=⟨fun n=> .arr i 0 n z,fun x k=>U5 i z x k,fun _ _ _ H=>wC fun n q=>by subst q;exact H n⟩
def Av (i z:Nat):Rd D (Nat×Nat):=⟨fun p=> .arr i p.1 p.2 z,fun x k=>MQ i z x fun a b=>k (a,b),fun _ _ _ H=>MR fun a b q=>by subst q;exact H (a,b)⟩
def Mp (i:Nat):Rd D Unit:=⟨fun _=> .map i,fun x k=>dMp i x (k ()),fun _ _ _ H=>uZ fun q=>by subst q;exact H ()⟩
def Nl (z:Nat):Rd D Unit:=⟨fun _=> .sl .nil z [],fun x k=>dNl z x (k ()),fun _ _ _ H=>Yz fun q=>by subst q;exact H ()⟩
def Ex (z:Nat):Rd D (List Da):=⟨fun es=> .sl .exact z es,fun x k=>dEx z x k,fun _ _ _ H=>aeW fun n q=>by subst q;exact H n⟩
def F (f:Nat)(l:Rd (List D) α):Rd D α:=⟨fun a=> .fn f (l.e a),fun x k=>dFn f x fun cs=>l.d cs k,fun _ _ X H=>Yw fun cs q=>by subst q;exact l.ok cs _ (fun cs=>X (.fn f cs)) H⟩
def Ob (l:Rd (List D) α):Rd Go.Ab.Ob α:=⟨fun a=> .box (l.e a),fun x k=>VK x fun cs=>l.d cs k,fun _ _ X H=>xp fun cs q=>by subst q;exact l.ok cs _ (fun cs=>X (.box cs)) H⟩
def Oa:Rd Go.Ab.Ob (List Da):=⟨fun s=> .arr s,fun x k=>EC x k,fun _ _ _ H=>tq fun n q=>by subst q;exact H n⟩
def Om:Rd Go.Ab.Ob (List Da×List Da):=⟨fun s=> .map s.1 s.2,fun x k=>Rg x fun a b=>k (a,b),fun _ _ _ H=>tt fun a b q=>by subst q;exact H (a,b)⟩
def c (a:Rd T α)(r:Rd (List T) β):Rd (List T) (α×β):=⟨fun x=>a.e x.1::r.e x.2,fun l k=>aI l fun y t=>a.d y fun x=>r.d t fun z=>k (x,z),fun _ _ X H=>ao fun y t q=>by
 subst q;exact a.ok y _ (fun y=>X (y::t)) fun x=>r.ok t _ (fun t=>X (a.e x::t)) fun z=>H (x,z)⟩
def u (a:Rd T Unit)(r:Rd (List T) β):Rd (List T) β:=⟨fun x=>a.e ()::r.e x,fun l k=>aI l fun y t=>a.d y fun _=>r.d t k,fun _ _ X H=>ao fun y t q=>by
 subst q;exact a.ok y _ (fun y=>X (y::t)) fun x=>r.ok t _ (fun t=>X (a.e x::t)) fun z=>H z⟩
def n:Rd (List T) Unit:=⟨fun _=>[],fun l k=>av l (k ()),fun _ _ _ H=>bL fun q=>by subst q;exact H ()⟩
def t (s:Nat)(a:Rd D α)(r:Rd (Tm×List Go.Ab.Ob) β):Rd (Tm×List Go.Ab.Ob) (α×β):=⟨fun x=>(.cons s (a.e x.1) (r.e x.2).1,(r.e x.2).2),fun st k=>aag s st.1 fun y t=>a.d y fun x=>r.d (t,st.2) fun z=>k (x,z),fun st _ X H=>by
 obtain⟨tm,hp⟩:=st;exact Pe fun y t q=>by
  dsimp only at q;subst q;exact a.ok y _ (fun y=>X (.cons s y t,hp)) fun x=>r.ok (t,hp) _ (fun st=>X (.cons s (a.e x) st.1,st.2)) fun z=>H (x,z)⟩
def v (s:Nat)(a:Rd D Unit)(r:Rd (Tm×List Go.Ab.Ob) β):Rd (Tm×List Go.Ab.Ob) β:=⟨fun x=>(.cons s (a.e ()) (r.e x).1,(r.e x).2),fun st k=>aag s st.1 fun y t=>a.d y fun _=>r.d (t,st.2) k,fun st _ X H=>by
 obtain⟨tm,hp⟩:=st;exact Pe fun y t q=>by
  dsimp only at q;subst q;exact a.ok y _ (fun y=>X (.cons s y t,hp)) fun x=>r.ok (t,hp) _ (fun st=>X (.cons s (a.e x) st.1,st.2)) fun z=>H z⟩
def h (l:Rd (List Go.Ab.Ob) α):Rd (Tm×List Go.Ab.Ob) α:=⟨fun x=>(.nil,l.e x),fun st k=>ahF st.1 (l.d st.2 k),fun st _ X H=>by
 obtain⟨tm,hp⟩:=st;exact acX fun q=>by
  dsimp only at q;subst q;exact l.ok hp _ (fun hp=>X (.nil,hp)) H⟩
end Rd
abbrev dF:=Tm×List Ob
def bN (c:Co)(p j:Nat):Co:=(((de c p)[j]?).getD (0,[],.skip,true)).2.2.1
def Ly (lp:cJ)(call:aJ)(n m:Nat):List (Nat×List Nat×Co×Bool)→Prop
 |[]=>True
 |e::r=>bm lp call n m e∧Ly lp call n m r
theorem aq {lp:cJ}{call:aJ}{n m:Nat}:∀{l l':List (Nat×List Nat×Co×Bool)},l=l'→Ly lp call n m l'→∀e∈l,bm lp call n m e
 |_,[],rfl,_=>fun _ h=>by cases h
 |_,_::_,rfl,⟨g,r⟩=>fun e h=>by
  rcases mγ.1 h with rfl|h
  ·exact g
  ·exact aq rfl r e h
theorem au {lp:cJ}{call:aJ}{n m:Nat}:Ly lp call n m []:=trivial
theorem bc {lp:cJ}{call:aJ}{n m:Nat}{e:Nat×List Nat×Co×Bool}{r:List (Nat×List Nat×Co×Bool)}(h:bm lp call n m e)(g:Ly lp call n m r):Ly lp call n m (e::r):=⟨h,g⟩
def eN {ST:Type}(q:Nat)(r:Rd dF ST)(S:JJ→(ST→R)→ST→R)(lp:cJ):cJ:=Q7 q (fun tm hp Y=>r.d (tm,hp) Y) S lp
def SR {ST:Type}(q:Nat)(r:Rd dF ST)(S:JJ→ST→R)(lp:cJ):cJ:=Eu q (fun tm hp Y=>r.d (tm,hp) Y) S lp
section
variable {ST:Type} {q:Nat} {r:Rd dF ST} {lp:cJ} {dc:oH} {cc:ab} {call:aJ} {n m:Nat} {live:List Nat} {b:Co}
theorem aX {S:JJ→(ST→R)→ST→R}(hd:dc.Ok)(hc:bA cc call)
  (hS:∀(J:JJ) (Y:ST→R) st,Bs lp dc cc n m b q (r.e st).1 (r.e st).2 (fun ex tm hp=>exK ex (Zt m live tm hp fun tm hp=>r.d (tm,hp) Y) (fun i=>J (.exit i) tm hp) (J .ret tm hp))=S J Y st)
  (hin:∀e∈de b q,bm lp call n m e):bm (eN q r S lp) call n m (q,live,b,true):=
 VB fun tm hp _ _ hJ=>SQ (tmO:=fun st=>(r.e st).1) (hpO:=fun st=>(r.e st).2) hd hc (fun tm hp Y X h=>r.ok (tm,hp) Y (fun st=>X st.1 st.2) h) hS hin hJ n tm hp
theorem lj {S:JJ→ST→R}(hd:dc.Ok)(hc:bA cc call)
  (hS:∀(J:JJ) st,Bs lp dc cc n m b (4*q+3) (r.e st).1 (r.e st).2 J=S J st)
  (hin:∀e∈de b (4*q+3),bm lp call n m e):bm (SR q r S lp) call n m (q,live,b,false):=
 lpCut_here (tmO:=fun st=>(r.e st).1) (hpO:=fun st=>(r.e st).2) hd hc (fun tm hp Y X h=>r.ok (tm,hp) Y (fun st=>X st.1 st.2) h) hS hin
theorem eO {S:JJ→(ST→R)→ST→R}{e:Nat×List Nat×Co×Bool}(hq:Nat.beq e.1 q=false)(h:bm lp call n m e):bm (eN q r S lp) call n m e:=Q8 hq h
theorem df {S:JJ→ST→R}{e:Nat×List Nat×Co×Bool}(hq:Nat.beq e.1 q=false)(h:bm lp call n m e):bm (SR q r S lp) call n m e:=NN hq h
end
end
end Go.Ab
end
section
namespace Go.Ab
open Go
noncomputable section
variable [Mv]
theorem aO (t e:R):iL true t e=t:=rfl
theorem aQ (t e:R):iL false t e=e:=rfl
theorem dq (b:Bool)(t e:R):iL b t e=if b=true then t else e:=by cases b<;>rfl
theorem eK (p:Prop)[Decidable p](t e:R):iL (decide p) t e=if p then t else e:=by rw[dq];simp only[lη]
theorem cr (p:Prop)[Decidable p](t e:R):iL (!decide p) t e=if p then e else t:=by
 rw[dq];by_cases h:p<;>simp[h]
theorem bf {α:Type}(x:α)(k:α→R):cL (some x) k=k x:=rfl
theorem aP {α β:Type}(f:α→β)(o:Option α)(k:β→R):cL (o.map f) k=cL o fun x=>k (f x):=by cases o<;>rfl
theorem Rq (i:Nat)(e:R)(k:Nat→R):iG (some i) e k=k i:=rfl
theorem Z1 (e:R)(k:Nat→R):iG none e k=e:=rfl
theorem aT (a b:Int):aw a b=decide (a=b):=by
 cases a<;>cases b<;>simp only[aw]
 ·rw[mδ];simp;omega
 ·simp
 ·simp
 ·rw[mδ];simp
theorem mT (a b:Int):aW a b=decide (a<b):=by
 cases a<;>cases b<;>simp only[aW]
 ·rw[mδ];simp[Nat.blt_eq]
 ·rw[mδ];simp;omega
 ·rw[mδ];simp;omega
 ·rw[mδ];simp[Nat.blt_eq];omega
theorem bJ (a b:Int):bu a b=decide (a≤b):=by
 unfold bu;rw[mT,mδ];simp
theorem dn:∀a b:List Nat,aK a b=decide (a=b)
 |[],[]=>by simp[aK]
 |[],_::_=>by simp[aK]
 |_::_,[]=>by simp[aK]
 |x::a,y::b=>by
  simp only[aK,dn a b];rw[mδ];cases h:Nat.beq x y
  ·have:x≠y:=fun e=>by rw[e,Nat.beq_refl]at h;cases h
   simp[this]
  ·have:=lζ h;simp[this]
theorem XH (a b:Nat):Nat.beq a b=decide (a=b):=by rw[mδ,Nat.beq_eq,lη]
theorem iD {n:Int}(h1: -9223372036854775808≤n)(h2:n<9223372036854775808):ag .i64 n=n:=by
 cases n with
 |ofNat m=>
  have:Nat.blt m 9223372036854775808=true:=by rw[Nat.blt_eq];exact Int.ofNat_lt.mp h2
  simp only[ag,this,cond_true]
 |negSucc m=>
  have:Nat.blt m 9223372036854775808=true:=by rw[Nat.blt_eq];omega
  simp only[ag,this,cond_true]
def jI {α:Type}(l:List α)(i:Int):Option α:=if 0≤i then l[i.toNat]? else none
theorem aE {α:Type}(f:α→Da)(l:List α)(i:Int):bw (l.map f) i=(jI l i).map f:=by
 unfold bw jI;rw[bJ];by_cases h:0≤i<;>simp[h]
theorem nU {α:Type}(l:List α)(j:Nat):jI l (j:Int)=l[j]?:=by simp[jI]
theorem aM {α:Type}{l:List α}{j:Nat}(h:j<l.length):jI l (j:Int)=some l[j]:=by rw[nU,lγ h]
theorem cM {α:Type}(x:α)(l:List α):jI (x::l) 0=some x:=rfl
theorem bF (i:IntKind)(n:Int)(k:Int→R):aU i (.int i n) k=k n:=by cases i<;>rfl
theorem aeZ (s:List Nat)(k:List Nat→R):iF (.str s) k=k s:=rfl
theorem aD (b:Bool)(k:Bool→R):aA (.bool b) k=k b:=rfl
theorem MS (z:Nat)(es:List Da)(k:List Da→R):pE z (.slice z es) k=k es:=by
 show iL (Nat.beq z z) _ _=_;rw[Nat.beq_refl];rfl
theorem ba (x:Da)(k:Da→R):dP (.p x) k=k x:=rfl
theorem bQ (ds:List D)(k:List D→R):bb (.tup ds) k=k ds:=rfl
theorem hH {α:Type}(x:α)(l:List α)(k:α→List α→R):aI (x::l) k=k x l:=rfl
theorem aC {α:Type}(k:R):av ([]:List α) k=k:=rfl
theorem Hp {α:Type}(xs:List α)(L:Nat→Int→R)(p:α→Bool)(hit:Nat→R)(out:R)
  (hs:∀q i (h:i<xs.length),L (q+1) (i:Int)=if p xs[i]=true then hit i else L q ((i+1:Nat):Int)) (he:∀q,L (q+1) (xs.length:Int)=out):
  ∀(d q i:Nat),i+d=xs.length→d<q→L q (i:Int)=match (xs.drop i).findIdx? p with|some j=>hit (i+j)|none=>out
 |0,q+1,i,h,_=>by
  obtain rfl:i=xs.length:=by omega
  rw[List.drop_length];exact he q
 |d+1,q+1,i,h,hq=>by
  have hi:i<xs.length:=by omega
  rw[hs q i hi,lξ hi,mσ];cases hp:p xs[i]
  ·simp only[Bool.false_eq_true,if_false];rw[Hp xs L p hit out hs he d q (i+1) (by omega) (by omega)];cases(xs.drop (i+1)).findIdx? p with
   |none=>rfl
   |some j=>simp only[Option.map_some];rw[show i+1+j=i+(j+1) by omega]
  ·simp only[if_true,Nat.add_zero]
theorem aV {α:Type}(xs:List α)(L:Nat→Int→R)(p:α→Bool)(hit:Nat→R)(out:R)
  (hs:∀q i (h:i<xs.length),L (q+1) (i:Int)=if p xs[i]=true then hit i else L q ((i+1:Nat):Int)) (he:∀q,L (q+1) (xs.length:Int)=out) {q:Nat} (hq:xs.length<q):
  L q 0=match xs.findIdx? p with|some j=>hit j|none=>out:=by
 have:=Hp xs L p hit out hs he xs.length q 0 (by omega) hq;simpa using this
end
end Go.Ab
end
