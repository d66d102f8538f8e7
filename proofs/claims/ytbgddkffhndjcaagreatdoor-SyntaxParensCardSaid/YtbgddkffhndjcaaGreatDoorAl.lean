import Derived.Test.YtbgddkffhndjcaaGreatDoorAm3
set_option linter.all false
section
namespace Go.Ab
open Go
noncomputable section
abbrev LD:=List Da
abbrev LN:=List Nat
def Le (a b:R):Prop:=∀r,a=some r→b=some r
theorem Le.refl (a:R):Le a a:=fun _ h=>h
theorem Le.no (b:R):Le none b:=fun _ h=>by cases h
theorem Le.trans {a b c:R}(h:Le a b)(g:Le b c):Le a c:=fun r e=>g r (h r e)
theorem Le.of_eq {a b:R}(h:a=b):Le a b:=by rw[h];exact Le.refl b
def iL (b:Bool)(t e:R):R:=Bool.rec (motive:=fun _=>R) e t b
def cL {α:Type}(o:Option α)(k:α→R):R:=Option.rec (motive:=fun _=>R) none (fun x=>k x) o
theorem Le.grd {b:Bool}{t t':R}(h:b=true→Le t t'):Le (iL b t none) t':=by
 cases b
 ·exact Le.no _
 ·exact h rfl
theorem Le.two {b:Bool}{t e x:R}(h:b=true→Le t x)(g:b=false→Le e x):Le (iL b t e) x:=by
 cases b
 ·exact g rfl
 ·exact h rfl
theorem Le.opt {α:Type}{o:Option α}{k:α→R}{x:R}(h:∀a,o=some a→Le (k a) x):Le (cL o k) x:=by
 cases o
 ·exact Le.no _
 ·exact h _ rfl
def au (i:IntKind)(x:Da)(k:Int→R):R:=match x with| .int j n=>iL (Nat.beq (kc j) (kc i)) (k n) none|_=>none
def cC (x:Da)(k:List Nat→R):R:=match x with| .str s=>k s|_=>none
def aI (x:Da)(k:Bool→R):R:=match x with| .bool b=>k b|_=>none
def hY (z:Nat)(x:Da)(k:List Da→R):R:=match x with| .slice y es=>iL (Nat.beq y z) (k es) none|_=>none
def w8 (x:Da)(k:List Da→R):R:=match x with| .agg cs=>k cs|_=>none
def VQ (x:Da)(k:List Da→List Da→R):R:=match x with| .map ks vs=>k ks vs|_=>none
def af {α:Type}(l:List α)(k:α→List α→R):R:=match l with|x::r=>k x r|[]=>none
def aB {α:Type}(l:List α)(k:R):R:=match l with|_::_=>none|[]=>k
def dP (d:D)(k:Da→R):R:=match d with| .p x=>k x|_=>none
def aZ (d:D)(k:List D→R):R:=match d with| .tup ds=>k ds|_=>none
def np (id off:Nat)(d:D)(k:R):R:=match d with| .box i o=>iL (Nat.beq i id) (iL (Nat.beq o off) k none) none|_=>none
def iB (id z:Nat)(d:D)(k:Nat→R):R:=match d with| .arr i lo len y=>iL (Nat.beq i id) (iL (Nat.beq lo 0) (iL (Nat.beq y z) (k len) none) none) none|_=>none
def Zk (id:Nat)(d:D)(k:R):R:=match d with| .map i=>iL (Nat.beq i id) k none|_=>none
def IN (z:Nat)(d:D)(k:R):R:=match d with| .sl .nil y []=>iL (Nat.beq y z) k none|_=>none
def YH (z:Nat)(d:D)(k:List Da→R):R:=match d with| .sl .exact y es=>iL (Nat.beq y z) (k es) none|_=>none
def YI (f:Nat)(d:D)(k:List D→R):R:=match d with| .fn g cs=>iL (Nat.beq g f) (k cs) none|_=>none
def cI (o:Ob)(k:List D→R):R:=match o with| .box cs=>k cs|_=>none
def gL (o:Ob)(k:List Da→R):R:=match o with| .arr es=>k es|_=>none
def Y4 (o:Ob)(k:List Da→R):R:=match o with| .fz es=>k es|_=>none
def XN (o:Ob)(k:List Da→List Da→R):R:=match o with| .map ks vs=>k ks vs|_=>none
def XM (o:Ob)(k:List Da→List Da→R):R:=match o with| .fzm ks vs=>k ks vs|_=>none
def rr (o:Ob)(k:R):R:=match o with| .dead=>k|_=>none
def Us (i:IntKind)(c:Int)(x:Da)(k:R):R:=match x with| .int j n=>iL (Nat.beq (kc j) (kc i)) (iL (eqI n c) k none) none|_=>none
def OF (c:Bool)(x:Da)(k:R):R:=match x,c with| .bool true,true=>k| .bool false,false=>k|_,_=>none
def Xl (d:D)(k:List D→R):R:=match d with| .agg cs=>k cs|_=>none
def Zn (x:Da)(k:R):R:=match x with| .nilptr=>k|_=>none
def Zl (x:Da)(k:R):R:=match x with| .nilmap=>k|_=>none
def Xm (f:Nat)(x:Da)(k:List Da→R):R:=match x with| .fn g cs=>iL (Nat.beq g f) (k cs) none|_=>none
def QW (s:Nat)(tm:Tm)(k:D→Tm→R):R:=match tm with| .cons t d r=>iL (Nat.beq t s) (k d r) none| .nil=>none
def X5 (tm:Tm)(k:R):R:=match tm with| .cons _ _ _=>none| .nil=>k
section
variable {x:Da} {d:D} {o:Ob} {tm:Tm} {z:Nat} {Z:R}
theorem PX {i j:IntKind}(h:Nat.beq (kc j) (kc i)=true):j=i:=by
 rw[PW,lβ]at h;exact h
theorem Pq {a b:Int}(h:eqI a b=true):a=b:=by
 cases a<;>cases b<;>simp only[eqI,Bool.false_eq_true]at h
 ·rw[lζ h]
 ·rw[lζ h]
theorem ah {i:IntKind}{k:Int→R}(h:∀n,x= .int i n→Le (k n) Z):Le (au i x k) Z:=by
 cases x<;>first|exact Le.no _|skip
 exact Le.grd fun e0=>h _ (by rw[PX e0])
theorem bR {k:List Nat→R}(h:∀s,x= .str s→Le (k s) Z):Le (cC x k) Z:=by
 cases x<;>first|exact Le.no _|exact h _ rfl
theorem f6 {k:Bool→R}(h:∀s,x= .bool s→Le (k s) Z):Le (aI x k) Z:=by
 cases x<;>first|exact Le.no _|exact h _ rfl
theorem bw {k:List Da→R}(h:∀s,x= .slice z s→Le (k s) Z):Le (hY z x k) Z:=by
 cases x<;>first|exact Le.no _|skip
 exact Le.grd fun e0=>h _ (by rw[lζ e0])
theorem gT {k:List Da→R}(h:∀s,x= .agg s→Le (k s) Z):Le (w8 x k) Z:=by
 cases x<;>first|exact Le.no _|exact h _ rfl
theorem IM {k:List Da→List Da→R}(h:∀s t,x= .map s t→Le (k s t) Z):Le (VQ x k) Z:=by
 cases x<;>first|exact Le.no _|exact h _ _ rfl
theorem ab {α:Type}{l:List α}{k:α→List α→R}(h:∀a r,l=a::r→Le (k a r) Z):Le (af l k) Z:=by
 cases l<;>first|exact Le.no _|exact h _ _ rfl
theorem aE {α:Type}{l:List α}{k:R}(h:l=[]→Le k Z):Le (aB l k) Z:=by
 cases l<;>first|exact Le.no _|exact h rfl
theorem ar {k:Da→R}(h:∀y,d= .p y→Le (k y) Z):Le (dP d k) Z:=by
 cases d<;>first|exact Le.no _|exact h _ rfl
theorem fu {k:List D→R}(h:∀y,d= .tup y→Le (k y) Z):Le (aZ d k) Z:=by
 cases d<;>first|exact Le.no _|exact h _ rfl
theorem dj {id off:Nat}{k:R}(h:d= .box id off→Le k Z):Le (np id off d k) Z:=by
 cases d<;>first|exact Le.no _|skip
 exact Le.grd fun e0=>Le.grd fun e1=>h (by rw[lζ e0,lζ e1])
theorem bV {id:Nat}{k:Nat→R}(h:∀len,d= .arr id 0 len z→Le (k len) Z):Le (iB id z d k) Z:=by
 cases d<;>first|exact Le.no _|skip
 exact Le.grd fun e0=>Le.grd fun e1=>Le.grd fun e2=>h _ (by rw[lζ e0,lζ e1,lζ e2])
theorem VS {id:Nat}{k:R}(h:d= .map id→Le k Z):Le (Zk id d k) Z:=by
 cases d<;>first|exact Le.no _|skip
 exact Le.grd fun e0=>h (by rw[lζ e0])
theorem ic {k:R}(h:d= .sl .nil z []→Le k Z):Le (IN z d k) Z:=by
 unfold IN;split
 ·exact Le.grd fun e=>h (by rw[lζ e])
 ·exact Le.no _
theorem VP {k:List Da→R}(h:∀es,d= .sl .exact z es→Le (k es) Z):Le (YH z d k) Z:=by
 unfold YH;split
 ·exact Le.grd fun e=>h _ (by rw[lζ e])
 ·exact Le.no _
theorem OG {f:Nat}{k:List D→R}(h:∀es,d= .fn f es→Le (k es) Z):Le (YI f d k) Z:=by
 cases d<;>first|exact Le.no _|skip
 exact Le.grd fun e0=>h _ (by rw[lζ e0])
theorem ba {k:List D→R}(h:∀y,o= .box y→Le (k y) Z):Le (cI o k) Z:=by
 cases o<;>first|exact Le.no _|exact h _ rfl
theorem bY {k:List Da→R}(h:∀y,o= .arr y→Le (k y) Z):Le (gL o k) Z:=by
 cases o<;>first|exact Le.no _|exact h _ rfl
theorem Qv {k:List Da→R}(h:∀y,o= .fz y→Le (k y) Z):Le (Y4 o k) Z:=by
 cases o<;>first|exact Le.no _|exact h _ rfl
theorem TH {k:List Da→List Da→R}(h:∀s t,o= .map s t→Le (k s t) Z):Le (XN o k) Z:=by
 cases o<;>first|exact Le.no _|exact h _ _ rfl
theorem TG {k:List Da→List Da→R}(h:∀s t,o= .fzm s t→Le (k s t) Z):Le (XM o k) Z:=by
 cases o<;>first|exact Le.no _|exact h _ _ rfl
theorem hM {k:R}(h:o= .dead→Le k Z):Le (rr o k) Z:=by
 cases o<;>first|exact Le.no _|exact h rfl
theorem OH {i:IntKind}{c:Int}{k:R}(h:x= .int i c→Le k Z):Le (Us i c x k) Z:=by
 cases x<;>first|exact Le.no _|skip
 exact Le.grd fun e0=>Le.grd fun e1=>h (by rw[PX e0,Pq e1])
theorem KH {c:Bool}{k:R}(h:x= .bool c→Le k Z):Le (OF c x k) Z:=by
 cases x<;>first|exact Le.no _|skip
 rename_i b;cases b<;>cases c<;>first|exact Le.no _|exact h rfl
theorem Su {k:List D→R}(h:∀y,d= .agg y→Le (k y) Z):Le (Xl d k) Z:=by
 cases d<;>first|exact Le.no _|exact h _ rfl
theorem VU {k:R}(h:x= .nilptr→Le k Z):Le (Zn x k) Z:=by
 cases x<;>first|exact Le.no _|exact h rfl
theorem VT {k:R}(h:x= .nilmap→Le k Z):Le (Zl x k) Z:=by
 cases x<;>first|exact Le.no _|exact h rfl
theorem Sv {f:Nat}{k:List Da→R}(h:∀es,x= .fn f es→Le (k es) Z):Le (Xm f x k) Z:=by
 cases x<;>first|exact Le.no _|skip
 exact Le.grd fun e0=>h _ (by rw[lζ e0])
theorem FK {s:Nat}{k:D→Tm→R}(h:∀d r,tm= .cons s d r→Le (k d r) Z):Le (QW s tm k) Z:=by
 cases tm<;>first|exact Le.no _|skip
 exact Le.grd fun e=>h _ _ (by rw[lζ e])
theorem T0 {k:R}(h:tm= .nil→Le k Z):Le (X5 tm k) Z:=by
 cases tm<;>first|exact Le.no _|exact h rfl
end
mutual
def ei:Da→Da→(Da→R)→R
 | .int i _,x,k=>au i x fun n=>k (.int i n)
 | .str _,x,k=>cC x fun s=>k (.str s)
 | .bool _,x,k=>aI x fun b=>k (.bool b)
 | .slice z _,x,k=>hY z x fun l=>k (.slice z l)
 | .map _ _,x,k=>VQ x fun a b=>k (.map a b)
 | .agg cs,x,k=>w8 x fun ds=>ri cs ds fun es=>k (.agg es)
 | .nilptr,x,k=>Zn x (k .nilptr)
 | .nilmap,x,k=>Zl x (k .nilmap)
 |_,x,k=>k x
def ri:List Da→List Da→(List Da→R)→R
 |[],l,k=>aB l (k [])
 |s::r,l,k=>af l fun x t=>ei s x fun x=>ri r t fun t=>k (x::t)
end
mutual
def jr:D→D→(D→R)→R
 | .p s,d,k=>dP d fun x=>ei s x fun x=>k (.p x)
 | .box i o,d,k=>np i o d (k (.box i o))
 | .arr i 0 _ z,d,k=>iB i z d fun n=>k (.arr i 0 n z)
 | .map i,d,k=>Zk i d (k (.map i))
 | .sl .nil z [],d,k=>IN z d (k (.sl .nil z []))
 | .fn f cs,d,k=>YI f d fun ds=>pV cs ds fun es=>k (.fn f es)
 | .agg cs,d,k=>Xl d fun ds=>pV cs ds fun es=>k (.agg es)
 |_,d,k=>k d
def pV:List D→List D→(List D→R)→R
 |[],l,k=>aB l (k [])
 |s::r,l,k=>af l fun x t=>jr s x fun x=>pV r t fun t=>k (x::t)
end
def P3 (s o:Ob)(k:Ob→R):R:=
 match s with
 | .box cs=>cI o fun ds=>pV cs ds fun es=>k (.box es)
 | .arr _=>gL o fun l=>k (.arr l)
 | .fz _=>Y4 o fun l=>k (.fz l)
 | .map _ _=>XN o fun a b=>k (.map a b)
 | .fzm _ _=>XM o fun a b=>k (.fzm a b)
 | .dead=>rr o (k .dead)
 |_=>k o
def jt:List Ob→List Ob→(List Ob→R)→R
 |[],l,k=>aB l (k [])
 |s::r,l,k=>af l fun x t=>P3 s x fun x=>jt r t fun t=>k (x::t)
mutual
theorem Au:∀(s x:Da) {k:Da→R} {Z:R},Le (k x) Z→Le (ei s x k) Z
 | .int i _,x,k,Z,h=>by simp only[ei];exact ah fun n e=>by subst e;exact h
 | .str _,x,k,Z,h=>by simp only[ei];exact bR fun n e=>by subst e;exact h
 | .bool _,x,k,Z,h=>by simp only[ei];exact f6 fun n e=>by subst e;exact h
 | .slice z _,x,k,Z,h=>by simp only[ei];exact bw fun n e=>by subst e;exact h
 | .map _ _,x,k,Z,h=>by simp only[ei];exact IM fun a b e=>by subst e;exact h
 | .agg cs,x,k,Z,h=>by simp only[ei];exact gT fun ds e=>by subst e;exact xJ cs ds h
 | .nilptr,x,k,Z,h=>by simp only[ei];exact VU fun e=>by subst e;exact h
 | .ptr _,x,k,Z,h=>by simp only[ei];exact h
 | .nilmap,x,k,Z,h=>by simp only[ei];exact VT fun e=>by subst e;exact h
 | .fn _ _,x,k,Z,h=>by simp only[ei];exact h
 | .nilfn,x,k,Z,h=>by simp only[ei];exact h
 | .iface _ _,x,k,Z,h=>by simp only[ei];exact h
 | .nilif,x,k,Z,h=>by simp only[ei];exact h
 | .sliceE _ _,x,k,Z,h=>by simp only[ei];exact h
 | .sym _ _,x,k,Z,h=>by simp only[ei];exact h
theorem xJ:∀(s l:List Da) {k:List Da→R} {Z:R},Le (k l) Z→Le (ri s l k) Z
 |[],l,k,Z,h=>by simp only[ri];exact aE fun e=>by subst e;exact h
 |s::r,l,k,Z,h=>by simp only[ri];exact ab fun x t e=>by subst e;exact Au s x (xJ r t h)
end
mutual
theorem P2:∀(s d:D) {k:D→R} {Z:R},Le (k d) Z→Le (jr s d k) Z
 | .p s,d,k,Z,h=>by simp only[jr];exact ar fun n e=>by subst e;exact Au s n h
 | .box i o,d,k,Z,h=>by simp only[jr];exact dj fun e=>by subst e;exact h
 | .arr i 0 _ z,d,k,Z,h=>by simp only[jr];exact bV fun n e=>by subst e;exact h
 | .arr i (_+1) _ z,d,k,Z,h=>by simp only[jr];exact h
 | .map i,d,k,Z,h=>by simp only[jr];exact VS fun e=>by subst e;exact h
 | .sl g z es,d,k,Z,h=>by
  unfold jr;split<;>first
   |contradiction
   |exact h
   |(rename_i e;cases e;exact ic fun e=>by subst e;exact h)
 | .fn f cs,d,k,Z,h=>by simp only[jr];exact OG fun ds e=>by subst e;exact oi cs ds h
 | .agg cs,d,k,Z,h=>by simp only[jr];exact Su fun ds e=>by subst e;exact oi cs ds h
 | .tup _,d,k,Z,h=>by simp only[jr];exact h
 | .el _ _ _,d,k,Z,h=>by simp only[jr];exact h
 | .ip _ _,d,k,Z,h=>by simp only[jr];exact h
 | .iface _ _,d,k,Z,h=>by simp only[jr];exact h
 | .junk,d,k,Z,h=>by simp only[jr];exact h
theorem oi:∀(s l:List D) {k:List D→R} {Z:R},Le (k l) Z→Le (pV s l k) Z
 |[],l,k,Z,h=>by simp only[pV];exact aE fun e=>by subst e;exact h
 |s::r,l,k,Z,h=>by simp only[pV];exact ab fun x t e=>by subst e;exact P2 s x (oi r t h)
end
theorem Lo (s o:Ob){k:Ob→R}{Z:R}(h:Le (k o) Z):Le (P3 s o k) Z:=by
 cases s<;>first
  |exact h
  |exact ba fun ds e=>by subst e;exact oi _ ds h
  |exact bY fun n e=>by subst e;exact h
  |exact Qv fun n e=>by subst e;exact h
  |exact TH fun a b e=>by subst e;exact h
  |exact TG fun a b e=>by subst e;exact h
  |exact hM fun e=>by subst e;exact h
theorem fO:∀(s l:List Ob) {k:List Ob→R} {Z:R},Le (k l) Z→Le (jt s l k) Z
 |[],l,k,Z,h=>by simp only[jt];exact aE fun e=>by subst e;exact h
 |s::r,l,k,Z,h=>by simp only[jt];exact ab fun x t e=>by subst e;exact Lo s x (fO r t h)
structure jE where
 el:Nat→Da→(Da→R)→R
 ca:Nat→List Ob→D→List Ob→KV→R
 mv:D→Da→(Da→R)→R
 keys:Bool
 spl:Bool
 par:Bool
structure jE.Ok (dc:jE):Prop where
 el:∀z x k,Le (dc.el z x k) (k x)
 ca:∀f hi v hp k,Le (dc.ca f hi v hp k) (k v hp)
 mv:∀z x k,Le (dc.mv z x k) (k x)
abbrev ag:=Nat→List D→List Ob→KV→R
def co (cc:ag)(call:aG):Prop:=∀f vs hp (k k':KV),(∀v out,Le (k v out) (k' v out))→Le (cc f vs hp k) (cL (call f vs hp) fun p=>k' p.1 p.2)
abbrev KE:=D→List (Nat×Ob)→List Ob→R
def cT (o:Option et)(k:KE):R:=cL o fun e=>k e.1 e.2.1 e.2.2
def QE (vs:List D)(k:KE):R:=match vs with|[.p (.bool c),a,b]=>iL c (k a [] []) (k b [] [])|_=>none
def Vt (op:BinOp)(vs:List D)(k:KE):R:=
 match vs with
 |[.p (.int i a),.p (.int j b)]=>match op with
  | .quo=>iL (eqI b 0) none (if i=j then k (.p (.int i (aj i (a.tdiv b)))) [] []else none)
  | .rem=>iL (eqI b 0) none (if i=j then k (.p (.int i (a.tmod b))) [] []else none)
  | .shl=>iL (bo b 0) none (k (.p (.int i (aj i (a*2 ^ (min b.toNat i.bits))))) [] [])
  | .shr=>iL (bo b 0) none (k (.p (.int i (a.fdiv (2 ^ (min b.toNat i.bits))))) [] [])
  |op=>cT (jB (bin op (.p (.int i a)) (.p (.int j b)))) k
 |[.p (.str a),.p (.str b)]=>match op with
  | .add=>iL (Nat.ble (a.length+b.length) fx) (k (.p (.str (a++b))) [] []) none
  |op=>cT (jB (bin op (.p (.str a)) (.p (.str b)))) k
 |[x,y]=>cT (jB (bin op x y)) k
 |_=>none
def hL:List Nat→List Da→List Da→(Bool→R)→R
 |[],_,_,k=>k true
 |c::ks,x::xs,y::ys,k=>cL (sP c x y) fun b=>iL b (hL ks xs ys k) (k false)
 |_,_,_,_=>none
def NN (ks:List Nat)(op:BinOp)(vs:List D)(k:KE):R:=
 match vs with
 |[.p (.agg xs),.p (.agg ys)]=>match op with
  | .eql=>hL ks xs ys fun b=>k (.p (.bool b)) [] []
  | .neq=>hL ks xs ys fun b=>k (.p (.bool (!b))) [] []
  |_=>none
 |_=>none
def Y2 (dc:jE)(esz:Nat)(vs:List D)(k:KE):R:=
 match vs with
 |[.p (.slice z es),.p (.int _ i)]=>iL (Nat.beq z esz) (cL (fq es i) fun x=>dc.el esz x fun x=>k (.ip x 0) [] []) none
 |[.p (.sliceE z es),.p (.int _ i)]=>iL (Nat.beq z esz) (cL (fq es i) fun x=>dc.el esz x fun x=>k (.ip x 0) [] []) none
 |[.sl _ z es,.p (.int _ i)]=>iL (Nat.beq z esz) (cL (fq es i) fun x=>dc.el esz x fun x=>k (.ip x 0) [] []) none
 |[.arr id lo len z,.p (.int _ i)]=>iL (Nat.beq z esz) (iL (bh 0 i) (iL (bo i len) (k (.el id (lo+i.toNat) 0) [] []) none) none) none
 |_=>none
def Y3 (vs:List D)(k:KE):R:=
 match vs with
 |[.p (.str s),.p (.int _ i)]=>cL (bif bh 0 i then s[i.toNat]? else none) fun b=>k (.p (.int .u8 (Int.ofNat b))) [] []
 |_=>none
def jh (x:D)(y:Nat)(k:Nat→R):R:=match x with| .p (.int _ i)=>iL (bh 0 i) (iL (bh i y) (k i.toNat) none) none|_=>none
def iA (lo hi mx:Bool)(len:Nat)(xs:List D)(k:Nat→Nat→Nat→R):R:=
 match lo,hi,mx,xs with
 |false,false,false,[]=>k 0 len len
 |true,false,false,[a]=>jh a len fun l=>k l len len
 |false,true,false,[b]=>jh b len fun h=>k 0 h len
 |true,true,false,[a,b]=>jh b len fun h=>jh a h fun l=>k l h len
 |false,true,true,[b,c]=>jh c len fun m=>jh b m fun h=>k 0 h m
 |true,true,true,[a,b,c]=>jh c len fun m=>jh b m fun h=>jh a h fun l=>k l h m
 |_,_,_,_=>none
theorem eQ {x:D}{y:Nat}{k:Nat→R}{Z:R}(h:∀n,hH x y=some n→Le (k n) Z):Le (jh x y k) Z:=by
 unfold jh;split
 ·refine Le.grd fun h1=>Le.grd fun h2=>h _ ?_
  simp only[hH,h1,h2,Bool.and_self,cond_true]
 ·exact Le.no _
theorem fB {lo hi mx:Bool}{len:Nat}{xs:List D}{k:Nat→Nat→Nat→R}{Z:R}(h:∀l a m,bN lo hi mx len xs=some (l,a,m)→Le (k l a m) Z):Le (iA lo hi mx len xs k) Z:=by
 unfold iA;split
 ·exact h _ _ _ rfl
 ·exact eQ fun l h1=>h _ _ _ (by simp only[bN,h1])
 ·exact eQ fun l h1=>h _ _ _ (by simp only[bN,h1])
 ·exact eQ fun l h1=>eQ fun l' h2=>h _ _ _ (by simp only[bN,h1,h2])
 ·exact eQ fun l h1=>eQ fun l' h2=>h _ _ _ (by simp only[bN,h1,h2])
 ·exact eQ fun l h1=>eQ fun l' h2=>eQ fun l'' h3=>h _ _ _ (by simp only[bN,h1,h2,h3])
 ·exact Le.no _
def H5 (lo hi:Bool)(vs:List D)(k:KE):R:=
 match vs with
 | .p (.str s)::xs=>iA lo hi false s.length xs fun l h _=>k (.p (.str ((s.drop l).take (h - l)))) [] []
 |_=>none
def QY (lo hi:Bool)(l h lo0:Nat)(n:Option Nat)(e v:R):R:=
 match lo,hi,n with
 |true,false,some n=>iL (Nat.beq l h) (iL (Nat.blt lo0 n) e v) v
 |_,_,_=>v
theorem QZ (lo hi:Bool)(l h lo0:Nat)(os:List (Nat×Ob))(id:Nat)(e v:R):QY lo hi l h lo0 (tX os id) e v=bif lo&&!hi&&(Nat.beq l h&&nB os id lo0)then e else v:=by
 have hf:nB os id lo0=match tX os id with|some n=>Nat.blt lo0 n|none=>false:=by
  unfold nB tX;cases ep os id<;>rfl
 rw[hf];cases lo<;>cases hi<;>cases tX os id<;>simp only[QY,Bool.false_and,Bool.true_and,Bool.not_false,Bool.not_true,Bool.and_false,cond_false];cases Nat.beq l h<;>cases Nat.blt lo0 _<;>rfl
def QO (esz:Nat)(lo hi mx:Bool)(vs:List D)(ids:List Nat)(obs:List Ob)(k:KE):R:=
 match mx,vs with
 |false,.p (.slice z es)::xs=>iL (yU z esz es) (iA lo hi false es.length xs fun l h _=>k (.p (.slice z ((es.drop l).take (h - l)))) [] []) none
 |false,.sl .nil z es::xs=>iL (yU z esz es) (iA lo hi false es.length xs fun _ _ _=>k (.sl .nil z []) [] []) none
 |false,.arr id lo0 len0 z::xs=>iL (Nat.beq z esz) (iA lo hi false len0 xs fun l h _=>QY lo hi l h lo0 (tX (ids.zip obs) id) (k (.sl .some z []) [] []) (k (.arr id (lo0+l) (h - l) z) [] [])) none
 |true,.p (.slice z es)::xs=>iL (yU z esz es) (iA lo hi true es.length xs fun l h m=>iL (Nat.beq h m) (k (.sl .exact z ((es.drop l).take (h - l))) [] []) (k (.p (.slice z ((es.drop l).take (h - l)))) [] [])) none
 |true,.arr id lo0 len0 z::xs=>iL (Nat.beq z esz) (iA lo hi true len0 xs fun l h m=>match ep (ids.zip obs) id with
  | .arr es=>iL (Nat.beq h m) (k (.sl .exact z ((es.drop (lo0+l)).take (h - l))) [(id,.fz es)] []) (k (.p (.slice z ((es.drop (lo0+l)).take (h - l)))) [(id,.fz es)] [])
  | .fz es=>iL (Nat.beq h m) (k (.sl .exact z ((es.drop (lo0+l)).take (h - l))) [] []) (k (.p (.slice z ((es.drop (lo0+l)).take (h - l)))) [] [])
  |_=>none) none
 |mx,vs=>cT (hE esz lo hi mx vs ids obs) k
def Wl (dc:jE)(n esz:Nat)(agg:Bool)(vs:List D)(k:KE):R:=
 match esz,agg,vs with
 |1,false,[.p (.agg cs),.p (.int _ i)]=>iL (bh 0 i) (iL (bo i n) (cL cs[i.toNat]? fun x=>dc.el 1 x fun x=>k (.p x) [] []) none) none
 |esz,agg,vs=>cT (GL n esz agg vs) k
def I5 (id o esz:Nat)(i:Int)(k:KE):Nat→Nat→R
 |0,_=>none
 |m+1,j=>iL (eqI i (j:Int)) (k (.box id (o+j*esz)) [] []) (I5 id o esz i k m (j+1))
def Wg (n esz:Nat)(vs:List D)(k:KE):R:=
 match vs with
 |[.box id o,.p (.int _ i)]=>I5 id o esz i k n 0
 |vs=>cT (DL n esz vs) k
def WN (esz:Nat)(lo hi:Bool)(vs:List D)(k:KE):R:=
 match vs with
 | .arr id lo0 len0 z::xs=>iL (Nat.beq z esz) (iA lo hi false len0 xs fun l h _=>k (.arr id (lo0+l) (h - l) z) [] []) none
 |_=>none
def Uq (n off:Nat)(agg:Bool)(e:Da)(k:KE):R:=cL (sub (cells e) off n) fun ds=>cL (dz agg (ds.map .p)) fun d=>k d [] []
def Ut (dc:jE)(off n:Nat):Nat:=match dc.par with|true=>1000*(off+1)+n|false=>0
def P8 (dc:jE)(n:Nat)(agg:Bool)(vs:List D)(obs:List Ob)(k:KE):R:=
 match vs with
 |[.el _ i off]=>match obs with
  |[.arr es]=>cL es[i]? fun e=>dc.el (Ut dc off n) e fun e=>Uq n off agg e k
  |[.fz es]=>cL es[i]? fun e=>dc.el (Ut dc off n) e fun e=>Uq n off agg e k
  |_=>none
 |vs=>cT (fK n agg vs obs) k
def H9 (dc:jE)(n id i off:Nat)(d:D)(ids:List Nat)(obs:List Ob)(k:KE):R:=
 match ep (ids.zip obs) id with
 | .arr es=>cL es[i]? fun e=>dc.el (1000*(off+1)+n) e fun e=>cL (pur ((ids.zip obs).filter fun p=>!Nat.beq p.1 id) d) fun x=>iL (Nat.beq (cells x).length n) (iL (Nat.ble (off+n) (cells e).length) (cL (lX e (splice (cells e) off (cells x))) fun e'=>k .junk (cG ((ids.zip obs).filter fun p=>!Nat.beq p.1 id)++[(id,.arr (es.set i e'))]) []) none) none
 |_=>none
def H8 (dc:jE)(n:Nat)(vs:List D)(ids:List Nat)(obs:List Ob)(k:KE):R:=
 match dc.par,vs with
 |true,[.el id i off,d]=>H9 dc n id i off d ids obs k
 |false,[.el id i 0,d]=>match ep (ids.zip obs) id with
  | .arr es=>cL es[i]? fun e=>cL (pur ((ids.zip obs).filter fun p=>!Nat.beq p.1 id) d) fun x=>iL (Nat.beq (cells x).length n) (iL (Nat.beq (cells e).length n) (cL (lX e (cells x)) fun e'=>k .junk (cG ((ids.zip obs).filter fun p=>!Nat.beq p.1 id)++[(id,.arr (es.set i e'))]) []) none) none
  |_=>none
 |_,vs=>cT (lM n vs ids obs) k
def Eu (kt:TypeDesc)(x:Da):List Da→Nat→(Option Nat→R)→R
 |[],_,k=>k none
 |y::r,i,k=>cL (mg kt x y) fun b=>iL b (k (some i)) (Eu kt x r (i+1) k)
def PC (keys:Bool)(kt:TypeDesc)(x:Da)(ks:List Da)(k:Option Nat→R):R:=
 match keys with
 |true=>Eu kt x ks 0 k
 |false=>cL (dY kt x ks 0) k
def WC (o:Option Nat)(e:R)(k:Nat→R):R:=match o with|none=>e|some i=>k i
def Wo (dc:jE)(kt:TypeDesc)(z:D)(ok:Bool)(vs:List D)(ids:List Nat)(obs:List Ob)(k:KE):R:=
 match vs with
 |[d,.p x]=>
  match (match d with
   | .p .nilmap=>some ([],[])
   | .p (.map ks ws)=>some (ks,ws)
   | .map id=>match ep (ids.zip obs) id with
    | .map ks ws=>some (ks,ws)
    | .fzm ks ws=>some (ks,ws)
    |_=>none
   |_=>none:Option (List Da×List Da))with
  |some (ks,ws)=>PC dc.keys kt x ks fun o=>WC o (k (bif ok then .tup [z,.p (.bool false)]else z) [] []) fun i=>cL ws[i]? fun v=>dc.mv z v fun v=>k (bif ok then .tup [.p v,.p (.bool true)]else .p v) [] []
  |none=>cT (BM kt z ok vs ids obs) k
 |vs=>cT (BM kt z ok vs ids obs) k
def Qg (keys:Bool)(kt:TypeDesc)(vs:List D)(ids:List Nat)(obs:List Ob)(k:KE):R:=
 match vs with
 |[.map id,.p x,d]=>
  match ep (ids.zip obs) id with
  | .map ks ws=>match pur ((ids.zip obs).filter fun p=>!Nat.beq p.1 id) d with
   |some y=>PC keys kt x ks fun o=>WC o (k .junk (cG ((ids.zip obs).filter fun p=>!Nat.beq p.1 id)++[(id,.map (ks++[x]) (ws++[y]))]) []) fun i=>k .junk (cG ((ids.zip obs).filter fun p=>!Nat.beq p.1 id)++[(id,.map ks (ws.set i y))]) []
   |none=>cT (tO kt vs ids obs) k
  |_=>cT (tO kt vs ids obs) k
 |vs=>cT (tO kt vs ids obs) k
def Qe (esz:Nat)(z:Da)(bytes base kk:Nat)(vs:List D)(k:KE):R:=
 match vs with
 |[.p (.int _ l),.p (.int _ c)]=>iL (bh 0 l&&bh l c&&Nat.ble (c.toNat*bytes) 281474976710656&&bh c 9223372036854775807) (k (.arr (base+kk) 0 l.toNat esz) [(base+kk,.arr (List.replicate l.toNat z))] []) none
 |_=>none
def eW (n bytes:Nat):Bool:=Nat.ble ((2*n+192)*bytes) 281474976710656&&Nat.ble (2*n+192) 9223372036854775807
def Vo (tr:Bool)(esz bytes base kk:Nat)(vs:List D)(ids:List Nat)(obs:List Ob)(k:KE):R:=
 match vs with
 |[.arr id 0 len z,b]=>match ep (ids.zip obs) id with
  | .arr es=>match tr with
   |true=>iL (Nat.beq z esz) (cL (elems esz (ids.zip obs) b) fun ys=>iL (eW ((es.take len).length+ys.length) bytes) (k (.arr (base+kk) 0 (es.take len++ys).length esz) [(id,.dead),(base+kk,.arr (es.take len++ys))] []) none) none
   |false=>iL (Nat.beq z esz) (iL (Nat.beq len es.length) (cL (elems esz (ids.zip obs) b) fun ys=>iL (eW (es.length+ys.length) bytes) (k (.arr (base+kk) 0 (es++ys).length esz) [(id,.dead),(base+kk,.arr (es++ys))] []) none) none) none
  |_=>none
 |[.sl .nil z es,b]=>cL (elems esz (ids.zip obs) b) fun ys=>iL (eW (0+ys.length) bytes) (k (.arr (base+kk) 0 ys.length esz) [(base+kk,.arr ys)] []) none
 |[.sl .exact z [],b]=>cL (elems esz (ids.zip obs) b) fun ys=>iL (eW (0+ys.length) bytes) (k (.arr (base+kk) 0 ys.length esz) [(base+kk,.arr ys)] []) none
 |[.sl .exact z es,b]=>iL (yU z esz es) (cL (elems esz (ids.zip obs) b) fun ys=>iL (!es.isEmpty&&ys.isEmpty) (k (.sl .exact z es) [] []) (iL (eW (es.length+ys.length) bytes) (k (.arr (base+kk) 0 (es++ys).length esz) [(base+kk,.arr (es++ys))] []) none)) none
 |vs=>cT (pC esz bytes base kk vs ids obs) k
def Vp (dc:jE)(esz bytes base kk:Nat)(vs:List D)(ids:List Nat)(obs:List Ob)(k:KE):R:=
 match dc.par,vs with
 |true,[.sl .exact z es,b]=>iL (yU z esz es) (cL (elems esz (ids.zip obs) b) fun ys=>iL (!es.isEmpty&&ys.isEmpty) (k (.sl .exact z es) [] []) (iL (eW (es.length+ys.length) bytes) (k (.arr (base+kk) 0 (es++ys).length esz) [(base+kk,.arr (es++ys))] []) none)) none
 |_,vs=>Vo dc.keys esz bytes base kk vs ids obs k
def Vr (vs:List D)(ids:List Nat)(obs:List Ob)(k:KE):R:=
 match vs with
 |[d]=>cL (elems 1 (ids.zip obs) d) fun es=>cL (eS es) fun s=>k (.p (.str s)) [] []
 |_=>none
def IJ (dc:jE)(cc:ag)(f:Nat)(args:List D)(ids:List Nat)(obs:List Ob)(len:Nat)(k:KE):R:=
 cc f (eZ (ik ids) args) (ml (ik ids) obs) fun r out=>dc.ca f (ml (ik ids) obs) r out fun r out=>iL (Nat.ble ids.length out.length) (k (gc (back ids.length len ids out.length) r) (ids.zip (ml (back ids.length len ids out.length) out)) ((ml (back ids.length len ids out.length) out).drop ids.length)) none
def BW [Mv](dc:jE)(cc:ag)(f:Nat)(args:List D)(ids:List Nat)(obs:List Ob)(len:Nat)(k:KE):R:=
 match Mv.mv f with
 |true=>cc f (eZ (ik ids) args) (ml (ik ids) obs) fun r out=>dc.ca f (ml (ik ids) obs) r out fun r out=>iL (Nat.ble (em f (eZ (ik ids) args) ids.length) out.length) (k (gc (back (em f (eZ (ik ids) args) ids.length) len ids out.length) r) ((ids.take (em f (eZ (ik ids) args) ids.length)).zip (ml (back (em f (eZ (ik ids) args) ids.length) len ids out.length) out)++(ids.drop (em f (eZ (ik ids) args) ids.length)).map fun i=>(i,.dead)) ((ml (back (em f (eZ (ik ids) args) ids.length) len ids out.length) out).drop (em f (eZ (ik ids) args) ids.length))) none
 |false=>IJ dc cc f args ids obs len k
def G2 [Mv](dc:jE)(cc:ag)(vs:List D)(ids:List Nat)(obs:List Ob)(len:Nat)(k:KE):R:=
 match vs with
 | .p (.fn f caps)::args=>match Mv.mv (Dd f)with
  |true=>none
  |false=>IJ dc cc (Dd f) (jm f (caps.map .p) (args.map norm)) ids obs len k
 | .fn f caps::args=>BW dc cc (Dd f) (jm f caps (args.map norm)) ids obs len k
 |_=>none
def Vk [Mv](dc:jE)(cc:ag)(base:Nat)(o:O)(kk:Nat)(vs:List D)(ids:List Nat)(obs:List Ob)(len:Nat)(k:KE):R:=
 match o with
 | .pick=>QE vs k
 | .bin op=>Vt op vs k
 | .binS ks op=>NN ks op vs k
 | .ia esz=>Y2 dc esz vs k
 | .ix=>Y3 vs k
 | .slStr lo hi=>H5 lo hi vs k
 | .slSl esz lo hi mx=>QO esz lo hi mx vs ids obs k
 | .slW esz lo hi=>WN esz lo hi vs k
 | .ixa n esz agg=>Wl dc n esz agg vs k
 | .iaa n esz=>Wg n esz vs k
 | .load n agg=>P8 dc n agg vs obs k
 | .store n=>H8 dc n vs ids obs k
 | .lkp kt z ok=>Wo dc kt z ok vs ids obs k
 | .mupd kt=>Qg dc.keys kt vs ids obs k
 | .mksl esz z bytes=>Qe esz z bytes base kk vs k
 | .app esz bytes=>Vp dc esz bytes base kk vs ids obs k
 | .b2s=>Vr vs ids obs k
 | .call f raw=>BW dc cc f (bif raw then vs else vs.map norm) ids obs len k
 | .callv=>G2 dc cc vs ids obs len k
 |o=>cT (k8 (fun _ _ _=>none) base o kk vs ids obs len) k
section laws
variable {k k':KE} (hk:∀v u n,Le (k v u n) (k' v u n))
include hk
theorem dO (o:Option et):Le (cT o k) (cT o k'):=Le.opt fun e h=>by subst h;exact hk _ _ _
theorem QF (vs:List D):Le (QE vs k) (cT (zR vs) k'):=by
 unfold QE;split
 ·exact Le.two (fun h=>by subst h;exact hk _ _ _) (fun h=>by subst h;exact hk _ _ _)
 ·exact Le.no _
theorem R1 (op:BinOp)(vs:List D):Le (Vt op vs k) (cT (zh op vs) k'):=by
 unfold Vt;split
 ·rename_i i a j b;split
  ·refine Le.two (fun _=>Le.no _) (fun h=>?_);split
   ·rename_i e;subst e;simp only[zh,bin,dS,cond_false,if_true,jg,h,jB];exact hk _ _ _
   ·exact Le.no _
  ·refine Le.two (fun _=>Le.no _) (fun h=>?_);split
   ·rename_i e;subst e;simp only[zh,bin,dS,cond_false,if_true,jg,h,jB];exact hk _ _ _
   ·exact Le.no _
  ·refine Le.two (fun _=>Le.no _) (fun h=>?_);simp only[zh,bin,dS,cond_true,kR,h,cond_false,jB];exact hk _ _ _
  ·refine Le.two (fun _=>Le.no _) (fun h=>?_);simp only[zh,bin,dS,cond_true,kR,h,cond_false,jB];exact hk _ _ _
  ·exact dO hk _
 ·split
  ·refine Le.grd fun h=>?_
   simp only[zh,bin,pI,h,cond_true,jB];exact hk _ _ _
  ·exact dO hk _
 ·exact dO hk _
 ·exact Le.no _
omit hk in
theorem nw {q:Bool→R}{x:R}:∀(ks:List Nat) (xs ys:List Da),(∀b,f8 ks xs ys=some b→Le (q b) x)→Le (hL ks xs ys q) x
 |[],xs,ys,h=>by unfold hL;exact h true (by simp[f8])
 |c::ks,[],ys,h=>by unfold hL;exact Le.no _
 |c::ks,x::xs,[],h=>by unfold hL;exact Le.no _
 |c::ks,x::xs,y::ys,h=>by
  unfold hL;refine Le.opt fun b hb=>Le.two (fun e=>?_) (fun e=>?_)
  ·exact nw ks xs ys fun b' h'=>h b' (by simp only[f8,hb,e,cond_true,h'])
  ·exact h false (by simp only[f8,hb,e,cond_false])
theorem NO (ks:List Nat)(op:BinOp)(vs:List D):Le (NN ks op vs k) (cT (wP ks op vs) k'):=by
 unfold NN;split
 ·split
  ·refine nw _ _ _ fun b hb=>?_
   simp only[wP,binS,hb,jB];exact hk _ _ _
  ·refine nw _ _ _ fun b hb=>?_
   simp only[wP,binS,hb,jB];exact hk _ _ _
  ·exact Le.no _
 ·exact Le.no _
theorem We {dc:jE}(hd:dc.Ok)(esz:Nat)(vs:List D):Le (Y2 dc esz vs k) (cT (IA esz vs) k'):=by
 unfold Y2;split
 ·refine Le.grd fun h=>Le.opt fun x hx=>(hd.el _ _ _).trans ?_
  simp only[IA,h,cond_true,hx];exact hk _ _ _
 ·refine Le.grd fun h=>Le.opt fun x hx=>(hd.el _ _ _).trans ?_
  simp only[IA,h,cond_true,hx];exact hk _ _ _
 ·refine Le.grd fun h=>Le.opt fun x hx=>(hd.el _ _ _).trans ?_
  simp only[IA,h,cond_true,hx];exact hk _ _ _
 ·refine Le.grd fun h=>Le.grd fun h1=>Le.grd fun h2=>?_
  simp only[IA,h,h1,h2,Bool.and_self,cond_true];exact hk _ _ _
 ·exact Le.no _
theorem Wj (vs:List D):Le (Y3 vs k) (cT (RQ vs) k'):=by
 unfold Y3;split
 ·refine Le.opt fun x hx=>?_
  simp only[RQ,hx];exact hk _ _ _
 ·exact Le.no _
theorem L3 (lo hi:Bool)(vs:List D):Le (H5 lo hi vs k) (cT (lL lo hi vs) k'):=by
 unfold H5;split
 ·refine fB fun l h m hp=>?_
  simp only[lL,hp];exact hk _ _ _
 ·exact Le.no _
theorem QP (esz:Nat)(lo hi mx:Bool)(vs:List D)(ids:List Nat)(obs:List Ob):Le (QO esz lo hi mx vs ids obs k) (cT (hE esz lo hi mx vs ids obs) k'):=by
 unfold QO;split
 ·refine Le.grd fun h=>fB fun l h' m hp=>?_
  simp only[hE,h,hp,cond_true,Bool.false_and,cond_false];exact hk _ _ _
 ·refine Le.grd fun h=>fB fun l h' m hp=>?_
  simp only[hE,h,hp,cond_true];exact hk _ _ _
 ·refine Le.grd fun h=>fB fun l h' m hp=>?_
  rw[QZ];simp only[hE,h,hp,cond_true,cond_false];cases lo&&!hi&&(Nat.beq l h'&&nB (ids.zip obs) _ _)<;>exact hk _ _ _
 ·refine Le.grd fun h=>fB fun l h' m hp=>Le.two (fun h1=>?_) (fun h1=>?_)
  ·simp only[hE,h,hp,cond_true,Bool.true_and,h1];exact hk _ _ _
  ·simp only[hE,h,hp,cond_true,cond_false,Bool.true_and,h1];exact hk _ _ _
 ·refine Le.grd fun h=>fB fun l h' m hp=>?_
  split
  ·rename_i es hl;refine Le.two (fun h1=>?_) (fun h1=>?_)
   ·simp only[hE,h,hp,hl,cond_true,h1];exact hk _ _ _
   ·simp only[hE,h,hp,hl,cond_true,cond_false,h1];exact hk _ _ _
  ·rename_i es hl;refine Le.two (fun h1=>?_) (fun h1=>?_)
   ·simp only[hE,h,hp,hl,cond_true,h1];exact hk _ _ _
   ·simp only[hE,h,hp,hl,cond_true,cond_false,h1];exact hk _ _ _
  ·exact Le.no _
 ·exact dO hk _
theorem Tl {dc:jE}(hd:dc.Ok)(n esz:Nat)(agg:Bool)(vs:List D):Le (Wl dc n esz agg vs k) (cT (GL n esz agg vs) k'):=by
 unfold Wl;split
 ·rename_i cs kk i;refine Le.grd fun h1=>Le.grd fun h2=>Le.opt fun x hx=>(hd.el _ _ _).trans ?_
  have hs:sub (cs.map D.p) (i.toNat*1) 1=some [.p x]:=by
   have hl:i.toNat<cs.length:=by
    rcases lν i.toNat cs.length with h|h
    ·exact h
    ·rw[lε h]at hx;cases hx
   rw[lδ hl,lα]at hx;unfold sub;rw[Nat.mul_one,lθ,show Nat.ble (i.toNat+1) cs.length=true by rw[Nat.ble_eq];omega,mε (by simpa using hl),List.getElem_map,hx];rfl
  simp only[GL,h1,h2,Bool.and_self,cond_true,hs,dz];exact hk _ _ _
 ·exact dO hk _
omit hk in
theorem cF (a b:Int):eqI a b=decide (a=b):=by
 cases a<;>cases b<;>simp only[eqI]
 ·rw[mη];simp;omega
 ·simp
 ·simp
 ·rw[mη];simp
omit hk in
theorem oJ (a b:Int):bo a b=decide (a<b):=by
 cases a<;>cases b<;>simp only[bo]
 ·rw[mη];simp[Nat.blt_eq]
 ·rw[mη];simp;omega
 ·rw[mη];simp;omega
 ·rw[mη];simp[Nat.blt_eq];omega
omit hk in
theorem mh (a b:Int):bh a b=decide (a≤b):=by
 unfold bh;rw[oJ,mη];simp
omit hk in
theorem EB (id o esz:Nat)(i:Int){X:R}:∀(m j n:Nat),j+m=n→(∀q:Nat,i=(q:Int)→q<n→Le (k (.box id (o+q*esz)) [] []) X)→Le (I5 id o esz i k m j) X
 |0,_,_,_,_=>Le.no _
 |m+1,j,n,h,hX=>by
  unfold I5;refine Le.two (fun e=>?_) (fun _=>EB id o esz i m (j+1) n (by omega) hX);rw[cF,lβ]at e;exact hX j e (by omega)
theorem Te (n esz:Nat)(vs:List D):Le (Wg n esz vs k) (cT (DL n esz vs) k'):=by
 unfold Wg;split
 ·rename_i id o kk i;refine EB id o esz i n 0 n (by omega) fun q hq hn=>?_
  subst hq;have h1:bh 0 (q:Int)=true:=by rw[mh,lβ];omega
  have h2:bo (q:Int) (n:Int)=true:=by rw[oJ,lβ];omega
  simp only[DL,h1,h2,Bool.and_self,cond_true,Int.toNat_natCast];exact hk _ _ _
 ·exact dO hk _
theorem TU (esz:Nat)(lo hi:Bool)(vs:List D):Le (WN esz lo hi vs k) (cT (Ko esz lo hi vs) k'):=by
 unfold WN;split
 ·refine Le.grd fun h=>fB fun l h' m hp=>?_
  simp only[Ko,h,hp,cond_true];exact hk _ _ _
 ·exact Le.no _
theorem P9 {dc:jE}(hd:dc.Ok)(n:Nat)(agg:Bool)(vs:List D)(obs:List Ob):Le (P8 dc n agg vs obs k) (cT (fK n agg vs obs) k'):=by
 unfold P8;split
 ·split
  ·refine Le.opt fun e he=>(hd.el _ _ _).trans (Le.opt fun ds hds=>Le.opt fun d hd=>?_)
   simp only[fK,he,hds,hd];exact hk _ _ _
  ·refine Le.opt fun e he=>(hd.el _ _ _).trans (Le.opt fun ds hds=>Le.opt fun d hd=>?_)
   simp only[fK,he,hds,hd];exact hk _ _ _
  ·exact Le.no _
 ·exact dO hk _
theorem Ma {dc:jE}(hd:dc.Ok)(n id i off:Nat)(d:D)(ids:List Nat)(obs:List Ob):Le (H9 dc n id i off d ids obs k) (cT (lM n [.el id i off,d] ids obs) k'):=by
 unfold H9;split
 ·rename_i es hl;refine Le.opt fun e he=>(hd.el _ _ _).trans (Le.opt fun x hx=>Le.grd fun h1=>Le.grd fun h2=>Le.opt fun e' he'=>?_)
  simp only[lM,hl,he,hx,h1,h2,Bool.and_self,cond_true,he'];exact hk _ _ _
 ·exact Le.no _
theorem L9 {dc:jE}(hd:dc.Ok)(n:Nat)(vs:List D)(ids:List Nat)(obs:List Ob):Le (H8 dc n vs ids obs k) (cT (lM n vs ids obs) k'):=by
 unfold H8;split
 ·exact Ma hk hd _ _ _ _ _ _ _
 ·rename_i id i d hp;split
  ·rename_i es hl;refine Le.opt fun e he=>Le.opt fun x hx=>Le.grd fun h1=>Le.grd fun h2=>Le.opt fun e' he'=>?_
   have hb:=lζ h1;have hb2:=lζ h2;have hs:splice (cells e) 0 (cells x)=cells x:=by simp[splice,hb,hb2.symm▸List.drop_length]
   have hle:Nat.ble (0+n) (cells e).length=true:=by rw[Nat.ble_eq];omega
   simp only[lM,hl,he,hx,h1,hle,Bool.and_self,cond_true,hs,he'];exact hk _ _ _
  ·exact Le.no _
 ·exact dO hk _
omit hk in
theorem Ev {kt:TypeDesc}{x:Da}{q:Option Nat→R}{y:R}:∀(ks:List Da) (i:Nat),(∀o,dY kt x ks i=some o→Le (q o) y)→Le (Eu kt x ks i q) y
 |[],i,h=>by unfold Eu;exact h none rfl
 |c::r,i,h=>by
  unfold Eu;refine Le.opt fun b hb=>Le.two (fun e=>?_) (fun e=>?_)
  ·subst e;exact h _ (by simp only[dY,hb])
  ·subst e;exact Ev r (i+1) fun o ho=>h o (by simp only[dY,hb,ho])
omit hk in
theorem Ew {keys:Bool}{kt:TypeDesc}{x:Da}{q:Option Nat→R}{y:R}(ks:List Da)(h:∀o,dY kt x ks 0=some o→Le (q o) y):Le (PC keys kt x ks q) y:=by
 cases keys
 ·exact Le.opt h
 ·exact Ev ks 0 h
theorem Tx {dc:jE}(hd:dc.Ok)(kt:TypeDesc)(z:D)(ok:Bool)(vs:List D)(ids:List Nat)(obs:List Ob):Le (Wo dc kt z ok vs ids obs k) (cT (BM kt z ok vs ids obs) k'):=by
 unfold Wo;split
 ·rename_i d x;split
  ·rename_i ks ws he;refine Ew ks fun o ho=>?_
   have key:Le (WC o (k (bif ok then .tup [z,.p (.bool false)]else z) [] []) fun i=>cL ws[i]? fun v=>dc.mv z v fun v=>k (bif ok then .tup [.p v,.p (.bool true)]else .p v) [] []) (cT (match dY kt x ks 0 with
    |some (some i)=>match ws[i]? with
     |some v=>val (bif ok then .tup [.p v,.p (.bool true)]else .p v)
     |none=>none
    |some none=>val (bif ok then .tup [z,.p (.bool false)]else z)
    |none=>none) k'):=by
    rw[ho];cases o with
    |none=>exact hk _ _ _
    |some i=>
     refine Le.opt fun v hv=>(hd.mv _ _ _).trans ?_
     simp only[hv];exact hk _ _ _
   split at he
   ·simp only[lα,lκ]at he;obtain⟨rfl,rfl⟩:=he;exact key
   ·simp only[lα,lκ]at he;obtain⟨rfl,rfl⟩:=he;exact key
   ·split at he
    ·rename_i hl;simp only[lα,lκ]at he;obtain⟨rfl,rfl⟩:=he;simp only[BM,hl];exact key
    ·rename_i hl;simp only[lα,lκ]at he;obtain⟨rfl,rfl⟩:=he;simp only[BM,hl];exact key
    ·cases he
   ·cases he
  ·exact dO hk _
 ·exact dO hk _
theorem Qh (keys:Bool)(kt:TypeDesc)(vs:List D)(ids:List Nat)(obs:List Ob):Le (Qg keys kt vs ids obs k) (cT (tO kt vs ids obs) k'):=by
 unfold Qg;split
 ·split
  ·rename_i hl;split
   ·rename_i y hp;refine Ew _ fun o ho=>?_
    simp only[tO,hl,hp,ho];cases o<;>exact hk _ _ _
   ·exact dO hk _
  ·exact dO hk _
 ·exact dO hk _
theorem Qf (esz:Nat)(z:Da)(bytes base kk:Nat)(vs:List D):Le (Qe esz z bytes base kk vs k) (cT (DQ esz z bytes base kk vs) k'):=by
 unfold Qe;split
 ·refine Le.grd fun h=>?_
  simp only[DQ,h,cond_true];exact hk _ _ _
 ·exact Le.no _
theorem RV (tr:Bool)(esz bytes base kk:Nat)(vs:List D)(ids:List Nat)(obs:List Ob):Le (Vo tr esz bytes base kk vs ids obs k) (cT (pC esz bytes base kk vs ids obs) k'):=by
 unfold Vo;split
 ·rename_i id len z b;split
  ·rename_i es hl;split
   ·refine Le.grd fun h1=>Le.opt fun ys hy=>Le.grd fun h3=>?_
    unfold eW at h3;simp only[pC,kD,hl,h1,cond_true,hy,List.isEmpty_cons,Bool.false_and,cond_false,List.drop_zero,h3,lπ,List.cons_append,List.nil_append];rw[←lπ];exact hk _ _ _
   refine Le.grd fun h1=>Le.grd fun h2=>Le.opt fun ys hy=>Le.grd fun h3=>?_
   have h2':=lζ h2;subst h2';unfold eW at h3;simp only[pC,kD,hl,h1,cond_true,hy,List.isEmpty_cons,Bool.false_and,cond_false,List.drop_zero,List.take_length,h3,lπ,List.cons_append,List.nil_append];rw[←lπ];exact hk _ _ _
  ·exact Le.no _
 ·refine Le.opt fun ys hy=>Le.grd fun h3=>?_
  unfold eW at h3;simp only[pC,kD,hy,List.isEmpty_nil,Bool.not_true,Bool.and_false,cond_false,List.length_nil,h3,cond_true,List.nil_append];rw[Nat.zero_add];exact hk _ _ _
 ·refine Le.opt fun ys hy=>Le.grd fun h3=>?_
  unfold eW at h3;simp only[pC,kD,yU,List.isEmpty_nil,Bool.or_true,cond_true,hy,Bool.not_true,Bool.and_false,cond_false,List.length_nil,h3,List.nil_append];rw[Nat.zero_add];exact hk _ _ _
 ·refine Le.grd fun h1=>Le.opt fun ys hy=>Le.two (fun h2=>?_) (fun h2=>Le.grd fun h3=>?_)
  ·rw[lγ]at h2;simp only[pC,kD,h1,cond_true,hy,List.isEmpty_nil,h2.1,h2.2,Bool.and_self];exact hk _ _ _
  ·unfold eW at h3;rw[Bool.and_comm]at h2;simp only[pC,kD,h1,cond_true,hy,List.isEmpty_nil,Bool.true_and,h2,cond_false,h3,List.nil_append];rw[←lπ];exact hk _ _ _
 ·exact dO hk _
theorem RW (dc:jE)(esz bytes base kk:Nat)(vs:List D)(ids:List Nat)(obs:List Ob):Le (Vp dc esz bytes base kk vs ids obs k) (cT (pC esz bytes base kk vs ids obs) k'):=by
 unfold Vp;split
 ·refine Le.grd fun h1=>Le.opt fun ys hy=>Le.two (fun h2=>?_) (fun h2=>Le.grd fun h3=>?_)
  ·rw[lγ]at h2;simp only[pC,kD,h1,cond_true,hy,List.isEmpty_nil,h2.1,h2.2,Bool.and_self];exact hk _ _ _
  ·unfold eW at h3;rw[Bool.and_comm]at h2;simp only[pC,kD,h1,cond_true,hy,List.isEmpty_nil,Bool.true_and,h2,cond_false,h3,List.nil_append];rw[←lπ];exact hk _ _ _
 ·exact RV hk _ _ _ _ _ _ _ _
theorem RY (vs:List D)(ids:List Nat)(obs:List Ob):Le (Vr vs ids obs k) (cT (Kl vs ids obs) k'):=by
 unfold Vr;split
 ·refine Le.opt fun es he=>Le.opt fun s hs=>?_
  simp only[Kl,he,hs];exact hk _ _ _
 ·exact Le.no _
theorem D0 {dc:jE}(hd:dc.Ok){cc:ag}{call:aG}(hc:co cc call)(f:Nat)(args:List D)(ids:List Nat)(obs:List Ob)(len:Nat):Le (IJ dc cc f args ids obs len k) (cT (eg call f args ids obs len) k'):=by
 unfold IJ;refine(hc f _ _ _ (fun r out=>iL (Nat.ble ids.length out.length) (k' (mapD (back ids.length len ids out.length) r) (ids.zip (out.map (bL (back ids.length len ids out.length)))) ((out.map (bL (back ids.length len ids out.length))).drop ids.length)) none) fun r out=>(hd.ca _ _ _ _ _).trans ?_).trans ?_
 ·rw[fk,kI];exact Le.grd fun h=>by simp only[h,iL];exact hk _ _ _
 ·rw[gJ,kI,iI];unfold eg cT;cases call f (mapD.mapDL (idx ids) args) (obs.map (bL (idx ids)))with
  |none=>exact Le.no _
  |some p=>
   obtain⟨r,out⟩:=p;refine Le.grd fun h=>?_
   simp only[h,cond_true];exact Le.refl _
theorem zZ [Mv]{dc:jE}(hd:dc.Ok){cc:ag}{call:aG}(hc:co cc call)(f:Nat)(args:List D)(ids:List Nat)(obs:List Ob)(len:Nat):Le (BW dc cc f args ids obs len k) (cT (nk call f args ids obs len) k'):=by
 unfold BW nk;cases Mv.mv f
 ·exact D0 hk hd hc _ _ _ _ _
 simp only[cond_true];generalize hm:em f (eZ (ik ids) args) ids.length=m;refine(hc f _ _ _ (fun r out=>iL (Nat.ble m out.length) (k' (mapD (back m len ids out.length) r) ((ids.take m).zip (out.map (bL (back m len ids out.length)))++(ids.drop m).map fun i=>(i,.dead)) ((out.map (bL (back m len ids out.length))).drop m)) none) fun r out=>(hd.ca _ _ _ _ _).trans ?_).trans ?_
 ·rw[fk,kI];exact Le.grd fun h=>by simp only[h,iL];exact hk _ _ _
 ·rw[gJ,iI]at hm;rw[gJ,kI,iI,hm];unfold iF cT;cases call f (mapD.mapDL (idx ids) args) (obs.map (bL (idx ids)))with
  |none=>exact Le.no _
  |some p=>
   obtain⟨r,out⟩:=p;refine Le.grd fun h=>?_
   simp only[h,cond_true];exact Le.refl _
theorem KD [Mv]{dc:jE}(hd:dc.Ok){cc:ag}{call:aG}(hc:co cc call)(vs:List D)(ids:List Nat)(obs:List Ob)(len:Nat):Le (G2 dc cc vs ids obs len k) (cT (wY call vs ids obs len) k'):=by
 unfold G2 wY;split
 ·rename_i f caps args;simp only;cases Mv.mv (Dd f)
  ·exact D0 hk hd hc _ _ _ _ _
  ·exact Le.no _
 ·exact zZ hk hd hc _ _ _ _ _
 ·exact Le.no _
theorem RR [Mv]{dc:jE}(hd:dc.Ok){cc:ag}{call:aG}(hc:co cc call)(base:Nat)(o:O)(kk:Nat)(vs:List D)(ids:List Nat)(obs:List Ob)(len:Nat):Le (Vk dc cc base o kk vs ids obs len k) (cT (sD call base o kk vs ids obs len) k'):=by
 unfold Vk;split
 ·exact QF hk _
 ·exact R1 hk _ _
 ·exact NO hk _ _ _
 ·exact We hk hd _ _
 ·exact Wj hk _
 ·exact L3 hk _ _ _
 ·exact QP hk _ _ _ _ _ _ _
 ·exact TU hk _ _ _ _
 ·exact Tl hk hd _ _ _ _
 ·exact Te hk _ _ _
 ·exact P9 hk hd _ _ _ _
 ·exact L9 hk hd _ _ _ _
 ·exact Tx hk hd _ _ _ _ _ _
 ·exact Qh hk _ _ _ _ _
 ·exact Qf hk _ _ _ _ _ _
 ·exact RW hk _ _ _ _ _ _ _ _
 ·exact RY hk _ _ _
 ·exact zZ hk hd hc _ _ _ _ _
 ·exact KD hk hd hc _ _ _ _
 ·rename_i o' h1 h2 h3 h4 h5 h6 h7 h8 h9 h10 h11 h12 h13 h14 h15 h16;have e:k8 (fun _ _ _=>none) base o kk vs ids obs len=sD call base o kk vs ids obs len:=by
   cases o<;>first|rfl|exact absurd rfl (h15 _ _)|exact absurd rfl h16
  rw[e];exact dO hk _
end laws
end
end Go.Ab
end
section
namespace Go.Ab
open Go
noncomputable section
def YY (x:dU)(tm:Tm)(t e:R):R:=
 match x.gd with
 |none=>t
 |some (g,w)=>match get tm g with
  | .p (.bool b)=>match w with
   |true=>iL b t e
   |false=>iL b e t
  | .tup []=>e
  |_=>none
theorem Wb {x:dU}{tm:Tm}{t e X:R}(ht:cK x tm=some true→Le t X)(he:cK x tm=some false→Le e X):Le (YY x tm t e) X:=by
 unfold YY;split
 ·rename_i h;exact ht (by simp[cK,h])
 ·rename_i g w h;split
  ·rename_i b hb;have hg:cK x tm=some (b==w):=by simp[cK,h,hb]
   cases w
   ·exact Le.two (fun e=>he (by rw[hg,e];rfl)) (fun e=>ht (by rw[hg,e];rfl))
   ·exact Le.two (fun e=>ht (by rw[hg,e];rfl)) (fun e=>he (by rw[hg,e];rfl))
  ·rename_i hb;exact he (by simp[cK,h,hb])
  ·exact Le.no _
variable [Mv]
def rn (o:O)(vs:List D)(hp:List Ob):List Nat:=
 match o with
 | .call f _=>match Mv.mv f with
  |true=>eC hp aX ((jk (dN vs []) []).flatMap fun i=>hO (aP hp i)) (jk (dN vs []) [])
  |false=>eC hp aX (dN vs []) []
 | .callv=>match vs with
  | .fn f caps::args=>match Mv.mv (Dd f)with
   |true=>eC hp aX ((jk (dN (jm f caps (args.map norm)) []) []).flatMap fun i=>hO (aP hp i)) (jk (dN (jm f caps (args.map norm)) []) [])
   |false=>eC hp aX (dN vs []) []
  |vs=>eC hp aX (dN vs []) []
 |o=>bj o vs hp
theorem Qk (o:O)(vs:List D)(hp:List Ob):rn o vs hp=cH o vs hp:=by
 cases o<;>first
  |rfl
  |(simp only[rn,cP,du,mα,cH,bj];done)
  |(
    rename_i f raw;simp only[rn,cP,du,mα,cH,pR];cases Mv.mv f<;>rfl)
  |(
    simp only[rn,cH,oK];split
    ·simp only[cP,du,mα,pR];cases Mv.mv _<;>rfl
    ·simp only[cP,du,mα];rfl)
def H6 (v:D)(k:D→R):R:=match v with
 | .p (.bool b)=>iL b (k (.p (.bool true))) (k (.p (.bool false)))
 |v=>k v
theorem L6 {v:D}{k:D→R}{X:R}(h:Le (k v) X):Le (H6 v k) X:=by
 unfold H6;split
 ·rename_i b;cases b<;>exact h
 ·exact h
def QS (s:Bool)(v:D)(k:D→R):R:=match s with
 |true=>H6 v k
 |false=>k v
theorem L7 {s:Bool}{v:D}{k:D→R}{X:R}(h:Le (k v) X):Le (QS s v k) X:=by
 cases s
 ·exact h
 ·exact L6 h
def Ul (d:Option Nat):List dU→Bool
 |[]=>false
 |x::r=>match d with
  |none=>false
  |some t=>(match x.gd with|some (g,_)=>Nat.beq g t|none=>false)||((match x.op,x.as with| .pick,.t g::_=>Nat.beq g t|_,_=>false)||Ul d r)
def Y7 (dc:jE)(s:Bool)(cc:ag)(base:Nat)(x:dU)(tm:Tm)(hp:List Ob)(k:D→List Ob→eU→R):R:=
 iL (!(cr x.op)||cf (aP hp (base+x.k)))
  (Vk dc cc base x.op x.k (x.as.map (ev tm)) (rn x.op (x.as.map (ev tm)) hp) ((rn x.op (x.as.map (ev tm)) hp).map (aP hp)) hp.length fun v ups new=>QS s v fun v=>
   k v (grow (ao hp ups) new) ⟨bif cr x.op then(base+x.k)::rn x.op (x.as.map (ev tm)) hp else rn x.op (x.as.map (ev tm)) hp,tI (rn x.op (x.as.map (ev tm)) hp) hp ups,!new.isEmpty,hp.length⟩) none
def XL (tm:Tm)(hp:List Ob)(k:K):R:=k tm hp
def Qy (dc:jE)(cc:ag)(base:Nat):List dU→Tm→List Ob→List eU→(Tm→List Ob→List eU→R)→R
 |[],tm,hp,fs,k=>k tm hp fs.reverse
 |x::r,tm,hp,fs,k=>XL tm hp fun tm hp=>YY x tm (Y7 dc (dc.spl||Ul x.dst r) cc base x tm hp fun v hp f=>Qy dc cc base r (put x.dst v tm) hp (f::fs) k) (Qy dc cc base r (put x.dst (.tup []) tm) hp (⟨[],[],false,0⟩::fs) k)
section
variable {dc:jE} (hd:dc.Ok) {cc:ag} {call:aG} (hc:co cc call) {base:Nat}
include hd hc
theorem WB {s:Bool}{x:dU}{tm:Tm}{hp:List Ob}{k:D→List Ob→eU→R}{X:R}(h:∀v hp' fL,ox call base x ⟨tm,hp⟩=some (⟨put x.dst v tm,hp'⟩,bQ fL)→Le (k v hp' fL) X):Le (Y7 dc s cc base x tm hp k) X:=by
 unfold Y7;refine Le.grd fun hm=>(RR (fun _ _ _=>Le.refl _) hd hc _ _ _ _ _ _ _).trans ?_
 unfold cT;refine Le.opt fun e he=>?_
 obtain⟨v,ups,new⟩:=e;refine L7 (h v _ _ ?_);simp only[Qk]at he ⊢
 simp only[ox,hm,cond_true,he,bQ,jX]
theorem CJ:∀(ops:List dU) (tm:Tm) (hp:List Ob) (fs:List eU) (k:Tm→List Ob→List eU→R) (X:R),(∀tm' hp' fs',dw call base ops ⟨tm,hp⟩ (fs.map bQ)=some (⟨tm',hp'⟩,fs'.map bQ)→Le (k tm' hp' fs') X)→Le (Qy dc cc base ops tm hp fs k) X
 |[],tm,hp,fs,k,X,h=>h _ _ _ (by simp only[dw,List.map_reverse])
 |x::r,tm,hp,fs,k,X,h=>by
  unfold Qy XL;refine Wb (fun hg=>WB hd hc fun v hp' fL he=>CJ r _ _ _ _ _ fun tm' hp'' fs' hr=>h _ _ _ ?_) (fun hg=>CJ r _ _ _ _ _ fun tm' hp'' fs' hr=>h _ _ _ ?_)
  ·simp only[dw,hg,he];exact hr
  ·simp only[dw,hg];exact hr
end
theorem xj {call:aG}{base:Nat}:∀{ops:List dU} {st st':St} {fs fs':List dC},dw call base ops st fs=some (st',fs')→jN call base ops st=some st'
 |[],st,st',fs,fs',h=>by
  simp only[dw,lα,lκ]at h;simp only[jN,h.1]
 |x::r,st,st',fs,fs',h=>by
  simp only[dw]at h;simp only[jN];split at h
  ·cases h
  ·rename_i hg;split at h
   ·cases h
   ·rename_i he;exact xj h
  ·rename_i hg;exact xj h
abbrev JJ:=Ex→Tm→List Ob→R
def nI (o:Option (Ex×St))(J:JJ):R:=cL o fun p=>J p.1 p.2.tm p.2.hp
def W7 (J J':JJ):Prop:=∀ex tm hp,Le (J ex tm hp) (J' ex tm hp)
def SZ (ex:Ex)(n:R)(e:Nat→R)(r:R):R:=Ex.rec (motive:=fun _=>R) n (fun i=>e i) r ex
def WI (dc:jE)(cc:ag)(nal:Nat)(ops:List dU)(prs:Option (List (Nat×Nat)))(out:List Nat)(tm:Tm)(hp:List Ob)(J:JJ):R:=
 Qy dc cc hp.length ops tm (grow hp (List.replicate nal .unborn)) [] fun tm hp fs=>match prs with
  |none=>J .norm (eh out id tm) hp
  |some ps=>iL (kC fs ps) (J .norm (eh out id tm) hp) none
theorem TP {dc:jE}(hd:dc.Ok){cc:ag}{call:aG}(hc:co cc call)(nal:Nat)(ops:List dU)(prs:Option (List (Nat×Nat)))(out:List Nat)(tm:Tm)(hp:List Ob){J J':JJ}(hJ:W7 J J')(n m:Nat):Le (WI dc cc nal ops prs out tm hp J) (nI (ce call n m (.reg nal ops prs out) ⟨tm,hp⟩) J'):=by
 unfold WI;refine CJ hd hc _ _ _ _ _ _ fun tm' hp' fs' he=>?_
 split
 ·have h0:=xj he;simp only[ce,qW,h0,nI,cL];exact hJ _ _ _
 ·refine Le.grd fun ha=>?_
  rw[lN]at ha;simp only[List.map_nil]at he;simp only[ce,qW,he,ha,cond_true,nI,cL];exact hJ _ _ _
def P0 (m:Nat)(live:List Nat)(tm:Tm)(hp:List Ob)(k:K):R:=
 k (eh live (gc (ik (eC hp aX (dN (live.map (get tm)) (gV m hp)) (List.range m)))) tm) (lZ (eC hp aX (dN (live.map (get tm)) (gV m hp)) (List.range m)) hp)
theorem Hp (m:Nat)(live:List Nat)(tm:Tm)(hp:List Ob):∃st,jD m (.keep live) ⟨tm,hp⟩=some st∧∀k,P0 m live tm hp k=k st.tm st.hp:=by
 refine⟨_,rfl,fun k=>?_⟩
 unfold P0;have e:gc (ik (eC hp aX (dN (live.map (get tm)) (gV m hp)) (List.range m)))=mapD (idx (close hp aX (dids.didsL (live.map (get tm))++(hp.take m).flatMap hO) (List.range m))):=by
  funext d
  rw[fk,iI,cP,du,gN]
 rw[e,jz,cP,du,gN]
def Yk (m:Nat)(g:Gh)(tm:Tm)(hp:List Ob)(k:K):R:=
 match g with
 | .keep live=>P0 m live tm hp k
 |g=>cL (jD m g ⟨tm,hp⟩) fun st=>k st.tm st.hp
def OE (d:D)(t e:R):R:=match d with| .p (.bool b)=>iL b t e|_=>none
abbrev fd:=Nat→Bool→Nat→List Nat→Co→Nat→Tm→List Ob→JJ→R
def ZI (lp:fd)(n m:Nat)(g:Gh)(c:Co)(p:Nat)(tm:Tm)(hp:List Ob)(J:JJ)(k:K):R:=
 match g with
 | .keep live=>lp p false m live c n tm hp J
 | .own s z=>Yk m (.own s z) tm hp k
 | .ownc s o z=>Yk m (.ownc s o z) tm hp k
 | .frz s=>Yk m (.frz s) tm hp k
 | .frzc s o=>Yk m (.frzc s o) tm hp k
def uK (lp:fd)(dc:jE)(cc:ag)(n m:Nat)(c:Co):Nat→Tm→List Ob→JJ→R:=
 Co.rec (motive:=fun _=>Nat→Tm→List Ob→JJ→R)
  (fun _ tm hp J=>J .norm tm hp)
  (fun nal ops prs out _ tm hp J=>WI dc cc nal ops prs out tm hp J)
  (fun _ _ a b p tm hp J=>a (4*p+1) tm hp fun ex tm hp=>SZ ex (b (4*p+2) tm hp J) (fun i=>J (.exit i) tm hp) (J .ret tm hp))
  (fun x _ _ t e p tm hp J=>OE (ev tm x) (t (4*p+1) tm hp J) (e (4*p+2) tm hp J))
  (fun id _ b p tm hp J=>b (4*p+3) tm hp fun ex tm hp=>SZ ex (J .norm tm hp) (fun i=>iL (Nat.beq i id) (J .norm tm hp) (J (.exit i) tm hp)) (J .ret tm hp))
  (fun live b _ p tm hp J=>lp p true m live b n tm hp J)
  (fun id _ tm hp J=>J (.exit id) tm hp)
  (fun _ tm hp J=>J .ret tm hp)
  (fun g c b p tm hp J=>ZI lp n m g c p tm hp J fun tm hp=>b (4*p+3) tm hp J)
  c
def cD:Co→Nat→List (Nat×List Nat×Co×Bool)
 | .seq a b,p=>cD a (4*p+1)++cD b (4*p+2)
 | .cond _ a b,p=>cD a (4*p+1)++cD b (4*p+2)
 | .block _ b,p=>cD b (4*p+3)
 | .loop live b,p=>[(p,live,b,true)]
 | .gh (.keep live) b,p=>[(p,live,b,false)]
 | .gh _ b,p=>cD b (4*p+3)
 |_,_=>[]
def XP (live:List Nat)(b:Co)(k:Bool):Co:=match k with|true=> .loop live b|false=> .gh (.keep live) b
def bM (lp:fd)(call:aG)(n m:Nat)(e:Nat×List Nat×Co×Bool):Prop:=
 ∀tm hp J J',W7 J J'→Le (lp e.1 e.2.2.2 m e.2.1 e.2.2.1 n tm hp J) (nI (ce call n m (XP e.2.1 e.2.2.1 e.2.2.2) ⟨tm,hp⟩) J')
section
variable {lp:fd} {dc:jE} (hd:dc.Ok) {cc:ag} {call:aG} (hc:co cc call) {n m:Nat}
include hd hc
theorem fv:∀(c:Co) (p:Nat) (tm:Tm) (hp:List Ob) (J J':JJ),(∀e∈cD c p,bM lp call n m e)→W7 J J'→Le (uK lp dc cc n m c p tm hp J) (nI (ce call n m c ⟨tm,hp⟩) J')
 | .skip,p,tm,hp,J,J',hl,hJ=>hJ _ _ _
 | .ret,p,tm,hp,J,J',hl,hJ=>hJ _ _ _
 | .exit i,p,tm,hp,J,J',hl,hJ=>hJ _ _ _
 | .reg nal ops prs out,p,tm,hp,J,J',hl,hJ=>TP hd hc nal ops prs out tm hp hJ n m
 | .seq a b,p,tm,hp,J,J',hl,hJ=>by
  have hl1:∀e∈cD a (4*p+1),bM lp call n m e:=fun e he=>hl e (List.mem_append_left _ he)
  have hl2:∀e∈cD b (4*p+2),bM lp call n m e:=fun e he=>hl e (List.mem_append_right _ he)
  refine(fv a (4*p+1) tm hp _ (fun ex tm hp=>SZ ex (nI (ce call n m b ⟨tm,hp⟩) J') (fun i=>J' (.exit i) tm hp) (J' .ret tm hp)) hl1 ?_).trans ?_
  ·intro ex tm hp;cases ex with
   |norm=>exact fv b (4*p+2) tm hp J J' hl2 hJ
   |exit i=>exact hJ _ _ _
   |ret=>exact hJ _ _ _
  ·simp only[ce,nI];cases ce call n m a ⟨tm,hp⟩with
   |none=>exact Le.no _
   |some q=>
    obtain⟨ex,st⟩:=q;cases ex<;>exact Le.refl _
 | .cond x t e,p,tm,hp,J,J',hl,hJ=>by
  have hl1:∀e∈cD t (4*p+1),bM lp call n m e:=fun e he=>hl e (List.mem_append_left _ he)
  have hl2:∀e'∈cD e (4*p+2),bM lp call n m e':=fun e' he=>hl e' (List.mem_append_right _ he)
  show Le (OE (ev tm x) (uK lp dc cc n m t (4*p+1) tm hp J) (uK lp dc cc n m e (4*p+2) tm hp J)) _;unfold OE;simp only[ce];split
  ·rename_i b hb;refine Le.two (fun h=>?_) (fun h=>?_)
   ·subst h;simp only[hb];exact fv t _ tm hp J J' hl1 hJ
   ·subst h;simp only[hb];exact fv e _ tm hp J J' hl2 hJ
  ·exact Le.no _
 | .block id b,p,tm,hp,J,J',hl,hJ=>by
  refine(fv b (4*p+3) tm hp _ (fun ex tm hp=>SZ ex (J' .norm tm hp) (fun i=>iL (Nat.beq i id) (J' .norm tm hp) (J' (.exit i) tm hp)) (J' .ret tm hp)) hl ?_).trans ?_
  ·intro ex tm hp;cases ex with
   |norm=>exact hJ _ _ _
   |exit i=>
    show Le (iL (Nat.beq i id) _ _) (iL (Nat.beq i id) _ _);cases Nat.beq i id<;>exact hJ _ _ _
   |ret=>exact hJ _ _ _
  ·simp only[ce,nI];cases ce call n m b ⟨tm,hp⟩with
   |none=>exact Le.no _
   |some q=>
    obtain⟨ex,st⟩:=q;cases ex with
    |norm=>exact Le.refl _
    |ret=>exact Le.refl _
    |exit i=>
     simp only[cL,SZ];cases h:Nat.beq i id<;>simp only[iL,cond_true,cond_false]<;>exact Le.refl _
 | .loop live b,p,tm,hp,J,J',hl,hJ=>hl (p,live,b,true) (mν ..) tm hp J J' hJ
 | .gh (.keep live) b,p,tm,hp,J,J',hl,hJ=>hl (p,live,b,false) (mν ..) tm hp J J' hJ
 | .gh (.own s z) b,p,tm,hp,J,J',hl,hJ=>by
  show Le (cL (jD m (.own s z) ⟨tm,hp⟩) fun st=>uK lp dc cc n m b (4*p+3) st.tm st.hp J) _;refine Le.opt fun st hs=>?_
  simp only[ce,hs];exact fv b (4*p+3) st.tm st.hp J J' hl hJ
 | .gh (.ownc s o z) b,p,tm,hp,J,J',hl,hJ=>by
  show Le (cL (jD m (.ownc s o z) ⟨tm,hp⟩) fun st=>uK lp dc cc n m b (4*p+3) st.tm st.hp J) _;refine Le.opt fun st hs=>?_
  simp only[ce,hs];exact fv b (4*p+3) st.tm st.hp J J' hl hJ
 | .gh (.frz s) b,p,tm,hp,J,J',hl,hJ=>by
  show Le (cL (jD m (.frz s) ⟨tm,hp⟩) fun st=>uK lp dc cc n m b (4*p+3) st.tm st.hp J) _;refine Le.opt fun st hs=>?_
  simp only[ce,hs];exact fv b (4*p+3) st.tm st.hp J J' hl hJ
 | .gh (.frzc s o) b,p,tm,hp,J,J',hl,hJ=>by
  show Le (cL (jD m (.frzc s o) ⟨tm,hp⟩) fun st=>uK lp dc cc n m b (4*p+3) st.tm st.hp J) _;refine Le.opt fun st hs=>?_
  simp only[ce,hs];exact fv b (4*p+3) st.tm st.hp J J' hl hJ
def kw {ST:Type}(S:(ST→R)→ST→R)(k:Nat)(st:ST):R:=Nat.rec (motive:=fun _=>ST→R) (fun _=>none) (fun _ ih st=>S ih st) k st
theorem Jf {ST:Type}{live:List Nat}{b:Co}{p:Nat}{dec:Tm→List Ob→(ST→R)→R}{tmO:ST→Tm}{hpO:ST→List Ob}{S:JJ→(ST→R)→ST→R}
  (hdec:∀tm hp (Y:ST→R) (X:K),(∀st,Le (Y st) (X (tmO st) (hpO st)))→Le (dec tm hp Y) (X tm hp))
  (hS:∀(J:JJ) (Y:ST→R) st,uK lp dc cc n m b p (tmO st) (hpO st) (fun ex tm hp=>SZ ex (P0 m live tm hp fun tm hp=>dec tm hp Y) (fun i=>J (.exit i) tm hp) (J .ret tm hp))=S J Y st)
  (hin:∀e∈cD b p,bM lp call n m e) {J J':JJ} (hJ:W7 J J'):∀(k:Nat) (tm:Tm) (hp:List Ob),
  Le (P0 m live tm hp fun tm hp=>dec tm hp fun st=>kw (S J) k st) (nI (sX m (ce call n m b) live k ⟨tm,hp⟩) J')
 |0,tm,hp=>by
  obtain⟨st,_,h2⟩:=Hp m live tm hp;rw[h2];exact(hdec st.tm st.hp _ (fun _ _=>none) fun _=>Le.no _).trans (Le.no _)
 |k+1,tm,hp=>by
  obtain⟨st,h1,h2⟩:=Hp m live tm hp;rw[h2];have e:nI (sX m (ce call n m b) live (k+1) ⟨tm,hp⟩) J'=nI (ce call n m b st) (fun ex tm hp=>SZ ex (nI (sX m (ce call n m b) live k ⟨tm,hp⟩) J') (fun i=>J' (.exit i) tm hp) (J' .ret tm hp)):=by
   simp only[sX,h1];cases ce call n m b st with
   |none=>rfl
   |some q=>
    obtain⟨ex,st'⟩:=q;cases ex<;>rfl
  rw[e];refine hdec st.tm st.hp _ (fun tm hp=>nI (ce call n m b ⟨tm,hp⟩) _) fun s=>?_
  have e2:kw (S J) (k+1) s=S J (kw (S J) k) s:=rfl;rw[e2,←hS];refine fv hd hc b p _ _ _ _ hin ?_;intro ex tm hp;cases ex with
  |norm=>exact Jf hdec hS hin hJ k tm hp
  |exit i=>exact hJ _ _ _
  |ret=>exact hJ _ _ _
end
def Hv {ST:Type}(q:Nat)(dec:Tm→List Ob→(ST→R)→R)(S:JJ→(ST→R)→ST→R)(lp:fd):fd:=fun p k m live b n tm hp J=>iL (Nat.beq p q) (P0 m live tm hp fun tm hp=>dec tm hp fun st=>kw (S J) n st) (lp p k m live b n tm hp J)
def xM {ST:Type}(q:Nat)(dec:Tm→List Ob→(ST→R)→R)(S:JJ→ST→R)(lp:fd):fd:=fun p k m live b n tm hp J=>iL (Nat.beq p q) (P0 m live tm hp fun tm hp=>dec tm hp fun st=>S J st) (lp p k m live b n tm hp J)
def be:fd:=fun _ _ _ _ _ _ _ _ _=>none
theorem Lr {ST:Type}{q:Nat}{dec:Tm→List Ob→(ST→R)→R}{S:JJ→(ST→R)→ST→R}{lp:fd}{call:aG}{n m:Nat}{live:List Nat}{b:Co}
  (h:∀tm hp J J',W7 J J'→Le (P0 m live tm hp fun tm hp=>dec tm hp fun st=>kw (S J) n st) (nI (sX m (ce call n m b) live n ⟨tm,hp⟩) J')):bM (Hv q dec S lp) call n m (q,live,b,true):=by
 intro tm hp J J' hJ;have:Hv q dec S lp q true m live b n tm hp J=P0 m live tm hp fun tm hp=>dec tm hp fun st=>kw (S J) n st:=by
  show iL (Nat.beq q q) _ _=_;rw[Nat.beq_refl];rfl
 show Le (Hv q dec S lp q true m live b n tm hp J) _;rw[this];exact h tm hp J J' hJ
theorem lpCut_here {ST:Type}{q:Nat}{dec:Tm→List Ob→(ST→R)→R}{tmO:ST→Tm}{hpO:ST→List Ob}{S:JJ→ST→R}{lp:fd}{dc:jE}(hd:dc.Ok){cc:ag}{call:aG}(hc:co cc call){n m:Nat}{live:List Nat}{b:Co}
  (hdec:∀tm hp (Y:ST→R) (X:K),(∀st,Le (Y st) (X (tmO st) (hpO st)))→Le (dec tm hp Y) (X tm hp))
  (hS:∀(J:JJ) st,uK lp dc cc n m b (4*q+3) (tmO st) (hpO st) J=S J st)
  (hin:∀e∈cD b (4*q+3),bM lp call n m e):bM (xM q dec S lp) call n m (q,live,b,false):=by
 intro tm hp J J' hJ;have:xM q dec S lp q false m live b n tm hp J=P0 m live tm hp fun tm hp=>dec tm hp fun st=>S J st:=by
  show iL (Nat.beq q q) _ _=_;rw[Nat.beq_refl];rfl
 show Le (xM q dec S lp q false m live b n tm hp J) (nI (ce call n m (.gh (.keep live) b) ⟨tm,hp⟩) J');rw[this];obtain⟨st,h1,h2⟩:=Hp m live tm hp;rw[h2];simp only[ce,h1];refine hdec st.tm st.hp _ (fun tm hp=>nI (ce call n m b ⟨tm,hp⟩) J') fun s=>?_
 rw[←hS];exact fv hd hc b _ _ _ _ _ hin hJ
theorem Hw {ST:Type}{q:Nat}{dec:Tm→List Ob→(ST→R)→R}{S:JJ→(ST→R)→ST→R}{lp:fd}{call:aG}{n m:Nat}{e:Nat×List Nat×Co×Bool}(hq:Nat.beq e.1 q=false)(h:bM lp call n m e):bM (Hv q dec S lp) call n m e:=by
 intro tm hp J J' hJ;have:Hv q dec S lp e.1 e.2.2.2 m e.2.1 e.2.2.1 n tm hp J=lp e.1 e.2.2.2 m e.2.1 e.2.2.1 n tm hp J:=by
  show iL (Nat.beq e.1 q) _ _=_;rw[hq];rfl
 show Le (Hv q dec S lp e.1 e.2.2.2 m e.2.1 e.2.2.1 n tm hp J) _;rw[this];exact h tm hp J J' hJ
theorem ES {ST:Type}{q:Nat}{dec:Tm→List Ob→(ST→R)→R}{S:JJ→ST→R}{lp:fd}{call:aG}{n m:Nat}{e:Nat×List Nat×Co×Bool}(hq:Nat.beq e.1 q=false)(h:bM lp call n m e):bM (xM q dec S lp) call n m e:=by
 intro tm hp J J' hJ;have:xM q dec S lp e.1 e.2.2.2 m e.2.1 e.2.2.1 n tm hp J=lp e.1 e.2.2.2 m e.2.1 e.2.2.1 n tm hp J:=by
  show iL (Nat.beq e.1 q) _ _=_;rw[hq];rfl
 show Le (xM q dec S lp e.1 e.2.2.2 m e.2.1 e.2.2.1 n tm hp J) _;rw[this];exact h tm hp J J' hJ
def S7 (m:Nat)(fz:Bool)(res:List Rv)(tm:Tm)(hp:List Ob):R:=cL (jl ⟨tm,hp⟩ res) fun ds=>Prod.rec (motive:=fun _=>R) (fun ds hp=>some (gc (ik (eC hp aX (dN ds (gV m hp)) (List.range m))) (one ds),lZ (eC hp aX (dN ds (gV m hp)) (List.range m)) hp)) (bif fz then oy hp ds else(ds,hp))
def TR (m:Nat)(lp:fd)(dc:jE)(cc:ag)(n:Nat)(x:Fx)(args:List D)(hp:List Ob):R:=
 uK lp dc cc n m x.body 1 (dZ args 0) hp fun ex tm hp'=>SZ ex (S7 m x.fz x.res tm hp') (fun _=>none) (S7 m x.fz x.res tm hp')
theorem IY (m:Nat)(fz:Bool)(res:List Rv)(tm:Tm)(hp:List Ob):S7 m fz res tm hp=match jl ⟨tm,hp⟩ res with
  |some ds=>some (ij m fz ds hp)
  |none=>none:=by
 unfold S7;cases jl ⟨tm,hp⟩ res with
 |none=>rfl
 |some ds=>
  simp only[cL,ij,fk,iI,cP,du,gN,jz]
theorem TS {lp:fd}{dc:jE}(hd:dc.Ok){cc:ag}{call:aG}(hc:co cc call){n:Nat}{x:Fx}{args:List D}{hp:List Ob}{m:Nat}(hl:∀e∈cD x.body 1,bM lp call n m e):Le (TR m lp dc cc n x args hp) (nN m call n x args hp):=by
 unfold TR nN;refine(fv hd hc x.body 1 _ _ _ _ hl fun _ _ _=>Le.refl _).trans ?_;unfold nI;cases ce call n m x.body ⟨dZ args 0,hp⟩with
 |none=>exact Le.no _
 |some q=>
  obtain⟨ex,st⟩:=q;cases ex with
  |norm=>exact Le.of_eq (IY _ _ _ _ _)
  |ret=>exact Le.of_eq (IY _ _ _ _ _)
  |exit i=>exact Le.no _
def bv (tab:Nat→Option Fn)(n:Nat):ag:=fun f vs hp k=>cL (evFn tab n f vs hp) fun p=>k p.1 p.2
theorem Pu (tab:Nat→Option Fn)(n:Nat):co (bv tab n) (evFn tab n):=by
 intro f vs hp k k' hk;unfold bv;cases evFn tab n f vs hp with
 |none=>exact Le.no _
 |some p=>exact hk _ _
theorem aa {tab:Nat→Option Fn}{n f:Nat}{vs:List D}{hp:List Ob}{v:D}{out:List Ob}(h:evFn tab n f vs hp=some (v,out))(k:KV):bv tab n f vs hp k=k v out:=by
 unfold bv;rw[h];rfl
theorem Xt {tab:Nat→Option Fn}{f n:Nat}{x:Fx}{lp:fd}{dc:jE}(hd:dc.Ok){args:List D}{hp:List Ob}{F:R}(hx:tab f=some (.code x)){m:Nat}(hm:em f args hp.length=m)(hl:∀e∈cD x.body 1,bM lp (evFn tab n) n m e)(h:TR m lp dc (bv tab n) n x args hp=F):Le F (evFn tab (n+1) f args hp):=by
 subst h;have:evFn tab (n+1) f args hp=nN m (evFn tab n) n x args hp:=by simp only[evFn,hx,hm]
 rw[this];exact TS hd (Pu tab n) hl
end
end Go.Ab
end
section
namespace Go.Ab
open Go
noncomputable section
variable [Mv]
structure Rd (T α:Type) where
 e:α→T
 d:T→(α→R)→R
 ok:∀(x:T) (k:α→R) (X:T→R),(∀a,Le (k a) (X (e a)))→Le (d x k) (X x)
namespace Rd
variable {T α β:Type}
def rm (r:Rd T α)(f:α→β)(g:β→α)(h:∀a,g (f a)=a:=by exact fun _=>rfl):Rd T β where
 e b:=r.e (g b)
 d x k:=r.d x fun a=>k (f a)
 ok x k X H:=r.ok x _ X fun a=>by
  have:=H (f a);rw[h a]at this;exact this
def I (i:IntKind):Rd Da Int:=⟨fun n=> .int i n,fun x k=>au i x k,fun _ _ _ H=>ah fun n q=>by subst q;exact H n⟩
def S:Rd Da (List Nat):=⟨fun s=> .str s,fun x k=>cC x k,fun _ _ _ H=>bR fun n q=>by subst q;exact H n⟩
def B:Rd Da Bool:=⟨fun s=> .bool s,fun x k=>aI x k,fun _ _ _ H=>f6 fun n q=>by subst q;exact H n⟩
def L (z:Nat):Rd Da (List Da):=⟨fun s=> .slice z s,fun x k=>hY z x k,fun _ _ _ H=>bw fun n q=>by subst q;exact H n⟩
def M:Rd Da (List Da×List Da):=⟨fun s=> .map s.1 s.2,fun x k=>VQ x fun a b=>k (a,b),fun _ _ _ H=>IM fun a b q=>by subst q;exact H (a,b)⟩
def X:Rd Da Da:=⟨fun x=>x,fun x k=>k x,fun x _ _ H=>H x⟩
def K (i:IntKind)(c:Int):Rd Da Unit:=⟨fun _=> .int i c,fun x k=>Us i c x (k ()),fun _ _ _ H=>OH fun q=>by subst q;exact H ()⟩
def C (c:Bool):Rd Da Unit:=⟨fun _=> .bool c,fun x k=>OF c x (k ()),fun _ _ _ H=>KH fun q=>by subst q;exact H ()⟩
def G (l:Rd (List Da) α):Rd Da α:=⟨fun a=> .agg (l.e a),fun x k=>w8 x fun cs=>l.d cs k,fun _ _ X H=>gT fun cs q=>by subst q;exact l.ok cs _ (fun cs=>X (.agg cs)) H⟩
def FP (f:Nat)(l:Rd (List Da) α):Rd Da α:=⟨fun a=> .fn f (l.e a),fun x k=>Xm f x fun cs=>l.d cs k,fun _ _ X H=>Sv fun cs q=>by subst q;exact l.ok cs _ (fun cs=>X (.fn f cs)) H⟩
def P (r:Rd Da α):Rd D α:=⟨fun a=> .p (r.e a),fun x k=>dP x fun y=>r.d y k,fun _ _ X H=>ar fun y q=>by subst q;exact r.ok y _ (fun y=>X (.p y)) H⟩
def Bo (i o:Nat):Rd D Unit:=⟨fun _=> .box i o,fun x k=>np i o x (k ()),fun _ _ _ H=>dj fun q=>by subst q;exact H ()⟩
def Ar (i z:Nat):Rd D Nat:=⟨fun n=> .arr i 0 n z,fun x k=>iB i z x k,fun _ _ _ H=>bV fun n q=>by subst q;exact H n⟩
def Nl (z:Nat):Rd D Unit:=⟨fun _=> .sl .nil z [],fun x k=>IN z x (k ()),fun _ _ _ H=>ic fun q=>by subst q;exact H ()⟩
def Ex (z:Nat):Rd D (List Da):=⟨fun es=> .sl .exact z es,fun x k=>YH z x k,fun _ _ _ H=>VP fun n q=>by subst q;exact H n⟩
def F (f:Nat)(l:Rd (List D) α):Rd D α:=⟨fun a=> .fn f (l.e a),fun x k=>YI f x fun cs=>l.d cs k,fun _ _ X H=>OG fun cs q=>by subst q;exact l.ok cs _ (fun cs=>X (.fn f cs)) H⟩
def Ob (l:Rd (List D) α):Rd Go.Ab.Ob α:=⟨fun a=> .box (l.e a),fun x k=>cI x fun cs=>l.d cs k,fun _ _ X H=>ba fun cs q=>by subst q;exact l.ok cs _ (fun cs=>X (.box cs)) H⟩
def Oa:Rd Go.Ab.Ob (List Da):=⟨fun s=> .arr s,fun x k=>gL x k,fun _ _ _ H=>bY fun n q=>by subst q;exact H n⟩
def c (a:Rd T α)(r:Rd (List T) β):Rd (List T) (α×β):=⟨fun x=>a.e x.1::r.e x.2,fun l k=>af l fun y t=>a.d y fun x=>r.d t fun z=>k (x,z),fun _ _ X H=>ab fun y t q=>by
 subst q;exact a.ok y _ (fun y=>X (y::t)) fun x=>r.ok t _ (fun t=>X (a.e x::t)) fun z=>H (x,z)⟩
def u (a:Rd T Unit)(r:Rd (List T) β):Rd (List T) β:=⟨fun x=>a.e ()::r.e x,fun l k=>af l fun y t=>a.d y fun _=>r.d t k,fun _ _ X H=>ab fun y t q=>by
 subst q;exact a.ok y _ (fun y=>X (y::t)) fun x=>r.ok t _ (fun t=>X (a.e x::t)) fun z=>H z⟩
def n:Rd (List T) Unit:=⟨fun _=>[],fun l k=>aB l (k ()),fun _ _ _ H=>aE fun q=>by subst q;exact H ()⟩
def t (s:Nat)(a:Rd D α)(r:Rd (Tm×List Go.Ab.Ob) β):Rd (Tm×List Go.Ab.Ob) (α×β):=⟨fun x=>(.cons s (a.e x.1) (r.e x.2).1,(r.e x.2).2),fun st k=>QW s st.1 fun y t=>a.d y fun x=>r.d (t,st.2) fun z=>k (x,z),fun st _ X H=>by
 obtain⟨tm,hp⟩:=st;exact FK fun y t q=>by
  dsimp only at q;subst q;exact a.ok y _ (fun y=>X (.cons s y t,hp)) fun x=>r.ok (t,hp) _ (fun st=>X (.cons s (a.e x) st.1,st.2)) fun z=>H (x,z)⟩
def v (s:Nat)(a:Rd D Unit)(r:Rd (Tm×List Go.Ab.Ob) β):Rd (Tm×List Go.Ab.Ob) β:=⟨fun x=>(.cons s (a.e ()) (r.e x).1,(r.e x).2),fun st k=>QW s st.1 fun y t=>a.d y fun _=>r.d (t,st.2) k,fun st _ X H=>by
 obtain⟨tm,hp⟩:=st;exact FK fun y t q=>by
  dsimp only at q;subst q;exact a.ok y _ (fun y=>X (.cons s y t,hp)) fun x=>r.ok (t,hp) _ (fun st=>X (.cons s (a.e x) st.1,st.2)) fun z=>H z⟩
def h (l:Rd (List Go.Ab.Ob) α):Rd (Tm×List Go.Ab.Ob) α:=⟨fun x=>(.nil,l.e x),fun st k=>X5 st.1 (l.d st.2 k),fun st _ X H=>by
 obtain⟨tm,hp⟩:=st;exact T0 fun q=>by
  dsimp only at q;subst q;exact l.ok hp _ (fun hp=>X (.nil,hp)) H⟩
end Rd
abbrev kq:=Tm×List Ob
def dT (c:Co)(p j:Nat):Co:=(((cD c p)[j]?).getD (0,[],.skip,true)).2.2.1
def Dh (lp:fd)(call:aG)(n m:Nat):List (Nat×List Nat×Co×Bool)→Prop
 |[]=>True
 |e::r=>bM lp call n m e∧Dh lp call n m r
theorem aC {lp:fd}{call:aG}{n m:Nat}:∀{l l':List (Nat×List Nat×Co×Bool)},l=l'→Dh lp call n m l'→∀e∈l,bM lp call n m e
 |_,[],rfl,_=>fun _ h=>by cases h
 |_,_::_,rfl,⟨g,r⟩=>fun e h=>by
  rcases lψ.1 h with rfl|h
  ·exact g
  ·exact aC rfl r e h
theorem aD {lp:fd}{call:aG}{n m:Nat}:Dh lp call n m []:=trivial
theorem bU {lp:fd}{call:aG}{n m:Nat}{e:Nat×List Nat×Co×Bool}{r:List (Nat×List Nat×Co×Bool)}(h:bM lp call n m e)(g:Dh lp call n m r):Dh lp call n m (e::r):=⟨h,g⟩
def mj {ST:Type}(q:Nat)(r:Rd kq ST)(S:JJ→(ST→R)→ST→R)(lp:fd):fd:=Hv q (fun tm hp Y=>r.d (tm,hp) Y) S lp
def XH {ST:Type}(q:Nat)(r:Rd kq ST)(S:JJ→ST→R)(lp:fd):fd:=xM q (fun tm hp Y=>r.d (tm,hp) Y) S lp
section
variable {ST:Type} {q:Nat} {r:Rd kq ST} {lp:fd} {dc:jE} {cc:ag} {call:aG} {n m:Nat} {live:List Nat} {b:Co}
theorem bE {S:JJ→(ST→R)→ST→R}(hd:dc.Ok)(hc:co cc call)
  (hS:∀(J:JJ) (Y:ST→R) st,uK lp dc cc n m b q (r.e st).1 (r.e st).2 (fun ex tm hp=>SZ ex (P0 m live tm hp fun tm hp=>r.d (tm,hp) Y) (fun i=>J (.exit i) tm hp) (J .ret tm hp))=S J Y st)
  (hin:∀e∈cD b q,bM lp call n m e):bM (mj q r S lp) call n m (q,live,b,true):=
 Lr fun tm hp _ _ hJ=>Jf (tmO:=fun st=>(r.e st).1) (hpO:=fun st=>(r.e st).2) hd hc (fun tm hp Y X h=>r.ok (tm,hp) Y (fun st=>X st.1 st.2) h) hS hin hJ n tm hp
theorem Hx {S:JJ→ST→R}(hd:dc.Ok)(hc:co cc call)
  (hS:∀(J:JJ) st,uK lp dc cc n m b (4*q+3) (r.e st).1 (r.e st).2 J=S J st)
  (hin:∀e∈cD b (4*q+3),bM lp call n m e):bM (XH q r S lp) call n m (q,live,b,false):=
 lpCut_here (tmO:=fun st=>(r.e st).1) (hpO:=fun st=>(r.e st).2) hd hc (fun tm hp Y X h=>r.ok (tm,hp) Y (fun st=>X st.1 st.2) h) hS hin
theorem Wp {S:JJ→(ST→R)→ST→R}{e:Nat×List Nat×Co×Bool}(hq:Nat.beq e.1 q=false)(h:bM lp call n m e):bM (mj q r S lp) call n m e:=Hw hq h
theorem Wq {S:JJ→ST→R}{e:Nat×List Nat×Co×Bool}(hq:Nat.beq e.1 q=false)(h:bM lp call n m e):bM (XH q r S lp) call n m e:=ES hq h
end
end
end Go.Ab
end
section
namespace Go.Ab
open Go
noncomputable section
variable [Mv]
theorem aR (t e:R):iL true t e=t:=rfl
theorem aQ (t e:R):iL false t e=e:=rfl
theorem Xz (b:Bool)(t e:R):iL b t e=if b=true then t else e:=by cases b<;>rfl
theorem dL {α:Type}(x:α)(k:α→R):cL (some x) k=k x:=rfl
theorem ji {α β:Type}(f:α→β)(o:Option α)(k:β→R):cL (o.map f) k=cL o fun x=>k (f x):=by cases o<;>rfl
theorem iq:∀a b:List Nat,cp a b=decide (a=b)
 |[],[]=>by simp[cp]
 |[],_::_=>by simp[cp]
 |_::_,[]=>by simp[cp]
 |x::a,y::b=>by
  simp only[cp,iq a b];rw[mη];cases h:Nat.beq x y
  ·have:x≠y:=fun e=>by rw[e,Nat.beq_refl]at h;cases h
   simp[this]
  ·have:=lζ h;simp[this]
theorem GU (a b:Nat):Nat.beq a b=decide (a=b):=by rw[mη,Nat.beq_eq,lβ]
theorem gm {n:Int}(h1: -9223372036854775808≤n)(h2:n<9223372036854775808):aj .i64 n=n:=by
 cases n with
 |ofNat m=>
  have:Nat.blt m 9223372036854775808=true:=by rw[Nat.blt_eq];exact Int.ofNat_lt.mp h2
  simp only[aj,this,cond_true]
 |negSucc m=>
  have:Nat.blt m 9223372036854775808=true:=by rw[Nat.blt_eq];omega
  simp only[aj,this,cond_true]
def Xg {α:Type}(l:List α)(i:Int):Option α:=if 0≤i then l[i.toNat]? else none
theorem cR {α:Type}(f:α→Da)(l:List α)(i:Int):fq (l.map f) i=(Xg l i).map f:=by
 unfold fq Xg;rw[mh];by_cases h:0≤i<;>simp[h]
theorem lO {α:Type}(l:List α)(j:Nat):Xg l (j:Int)=l[j]?:=by simp[Xg]
theorem jf {α:Type}{l:List α}{j:Nat}(h:j<l.length):Xg l (j:Int)=some l[j]:=by rw[lO,lδ h]
theorem aS (i:IntKind)(n:Int)(k:Int→R):au i (.int i n) k=k n:=by cases i<;>rfl
theorem pJ (s:List Nat)(k:List Nat→R):cC (.str s) k=k s:=rfl
theorem aq (b:Bool)(k:Bool→R):aI (.bool b) k=k b:=rfl
theorem qM (z:Nat)(es:List Da)(k:List Da→R):hY z (.slice z es) k=k es:=by
 show iL (Nat.beq z z) _ _=_;rw[Nat.beq_refl];rfl
theorem aJ (x:Da)(k:Da→R):dP (.p x) k=k x:=rfl
theorem bc (ds:List D)(k:List D→R):aZ (.tup ds) k=k ds:=rfl
theorem jM {α:Type}(x:α)(l:List α)(k:α→List α→R):af (x::l) k=k x l:=rfl
theorem aM {α:Type}(k:R):aB ([]:List α) k=k:=rfl
theorem Aw {α:Type}(xs:List α)(L:Nat→Int→R)(p:α→Bool)(hit:Nat→R)(out:R)
  (hs:∀q i (h:i<xs.length),L (q+1) (i:Int)=if p xs[i]=true then hit i else L q ((i+1:Nat):Int)) (he:∀q,L (q+1) (xs.length:Int)=out):
  ∀(d q i:Nat),i+d=xs.length→d<q→L q (i:Int)=match (xs.drop i).findIdx? p with|some j=>hit (i+j)|none=>out
 |0,q+1,i,h,_=>by
  obtain rfl:i=xs.length:=by omega
  rw[List.drop_length];exact he q
 |d+1,q+1,i,h,hq=>by
  have hi:i<xs.length:=by omega
  rw[hs q i hi,mε hi,qγ];cases hp:p xs[i]
  ·simp only[Bool.false_eq_true,if_false];rw[Aw xs L p hit out hs he d q (i+1) (by omega) (by omega)];cases(xs.drop (i+1)).findIdx? p with
   |none=>rfl
   |some j=>simp only[Option.map_some];rw[show i+1+j=i+(j+1) by omega]
  ·simp only[if_true,Nat.add_zero]
theorem iS {α:Type}(xs:List α)(L:Nat→Int→R)(p:α→Bool)(hit:Nat→R)(out:R)
  (hs:∀q i (h:i<xs.length),L (q+1) (i:Int)=if p xs[i]=true then hit i else L q ((i+1:Nat):Int)) (he:∀q,L (q+1) (xs.length:Int)=out) {q:Nat} (hq:xs.length<q):
  L q 0=match xs.findIdx? p with|some j=>hit j|none=>out:=by
 have:=Aw xs L p hit out hs he xs.length q 0 (by omega) hq;simpa using this
end
end Go.Ab
end
