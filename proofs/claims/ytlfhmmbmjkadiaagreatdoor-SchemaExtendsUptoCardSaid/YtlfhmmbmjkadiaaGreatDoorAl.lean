import Derived.Test.YtlfhmmbmjkadiaaGreatDoorAm3
set_option linter.all false
section
namespace Go.Ab
open Go
noncomputable section
abbrev LD:=List Da
abbrev LN:=List Nat
def Le (a b:R):Prop:=∀r,a=some r→b=some r
theorem Le.refl (a:R):Le a a:=fun _ h=>h
theorem Le.no (b:R):Le none b:=fun _ h=>by cases h
theorem Le.trans {a b c:R}(h:Le a b)(g:Le b c):Le a c:=fun r e=>g r (h r e)
theorem Le.of_eq {a b:R}(h:a=b):Le a b:=by rw[h];exact Le.refl b
def iL (b:Bool)(t e:R):R:=Bool.rec (motive:=fun _=>R) e t b
def cL {α:Type}(o:Option α)(k:α→R):R:=Option.rec (motive:=fun _=>R) none (fun x=>k x) o
theorem Le.grd {b:Bool}{t t':R}(h:b=true→Le t t'):Le (iL b t none) t':=by
 cases b
 ·exact Le.no _
 ·exact h rfl
theorem Le.two {b:Bool}{t e x:R}(h:b=true→Le t x)(g:b=false→Le e x):Le (iL b t e) x:=by
 cases b
 ·exact g rfl
 ·exact h rfl
theorem Le.opt {α:Type}{o:Option α}{k:α→R}{x:R}(h:∀a,o=some a→Le (k a) x):Le (cL o k) x:=by
 cases o
 ·exact Le.no _
 ·exact h _ rfl
def aU (i:IntKind)(x:Da)(k:Int→R):R:=match x with| .int j n=>iL (Nat.beq (kc j) (kc i)) (k n) none|_=>none
def j1 (x:Da)(k:List Nat→R):R:=match x with| .str s=>k s|_=>none
def az (x:Da)(k:Bool→R):R:=match x with| .bool b=>k b|_=>none
def qO (z:Nat)(x:Da)(k:List Da→R):R:=match x with| .slice y es=>iL (Nat.beq y z) (k es) none|_=>none
def rI (x:Da)(k:List Da→R):R:=match x with| .agg cs=>k cs|_=>none
def We (x:Da)(k:List Da→List Da→R):R:=match x with| .map ks vs=>k ks vs|_=>none
def aK {α:Type}(l:List α)(k:α→List α→R):R:=match l with|x::r=>k x r|[]=>none
def aw {α:Type}(l:List α)(k:R):R:=match l with|_::_=>none|[]=>k
def dP (d:D)(k:Da→R):R:=match d with| .p x=>k x|_=>none
def bd (d:D)(k:List D→R):R:=match d with| .tup ds=>k ds|_=>none
def RP (id off:Nat)(d:D)(k:R):R:=match d with| .box i o=>iL (Nat.beq i id) (iL (Nat.beq o off) k none) none|_=>none
def Wc (id z:Nat)(d:D)(k:Nat→R):R:=match d with| .arr i lo len y=>iL (Nat.beq i id) (iL (Nat.beq lo 0) (iL (Nat.beq y z) (k len) none) none) none|_=>none
def ZF (id z:Nat)(d:D)(k:Nat→Nat→R):R:=match d with| .arr i lo len y=>iL (Nat.beq i id) (iL (Nat.beq y z) (k lo len) none) none|_=>none
def dMp (id:Nat)(d:D)(k:R):R:=match d with| .map i=>iL (Nat.beq i id) k none|_=>none
def dNl (z:Nat)(d:D)(k:R):R:=match d with| .sl .nil y []=>iL (Nat.beq y z) k none|_=>none
def dEx (z:Nat)(d:D)(k:List Da→R):R:=match d with| .sl .exact y es=>iL (Nat.beq y z) (k es) none|_=>none
def dFn (f:Nat)(d:D)(k:List D→R):R:=match d with| .fn g cs=>iL (Nat.beq g f) (k cs) none|_=>none
def WP (o:Ob)(k:List D→R):R:=match o with| .box cs=>k cs|_=>none
def Ln (o:Ob)(k:List Da→R):R:=match o with| .arr es=>k es|_=>none
def oFz (o:Ob)(k:List Da→R):R:=match o with| .fz es=>k es|_=>none
def Ss (o:Ob)(k:List Da→List Da→R):R:=match o with| .map ks vs=>k ks vs|_=>none
def aiu (o:Ob)(k:List Da→List Da→R):R:=match o with| .fzm ks vs=>k ks vs|_=>none
def ae1 (o:Ob)(k:R):R:=match o with| .dead=>k|_=>none
def aeH (i:IntKind)(c:Int)(x:Da)(k:R):R:=match x with| .int j n=>iL (Nat.beq (kc j) (kc i)) (iL (av n c) k none) none|_=>none
def ZG (c:Bool)(x:Da)(k:R):R:=match x,c with| .bool true,true=>k| .bool false,false=>k|_,_=>none
def ahX (d:D)(k:List D→R):R:=match d with| .agg cs=>k cs|_=>none
def dNp (x:Da)(k:R):R:=match x with| .nilptr=>k|_=>none
def dNm (x:Da)(k:R):R:=match x with| .nilmap=>k|_=>none
def ahY (f:Nat)(x:Da)(k:List Da→R):R:=match x with| .fn g cs=>iL (Nat.beq g f) (k cs) none|_=>none
def abo (s:Nat)(tm:Tm)(k:D→Tm→R):R:=match tm with| .cons t d r=>iL (Nat.beq t s) (k d r) none| .nil=>none
def aiP (tm:Tm)(k:R):R:=match tm with| .cons _ _ _=>none| .nil=>k
section
variable {x:Da} {d:D} {o:Ob} {tm:Tm} {z:Nat} {Z:R}
theorem aaB {i j:IntKind}(h:Nat.beq (kc j) (kc i)=true):j=i:=by
 rw[aaA,lη]at h;exact h
theorem Z7 {a b:Int}(h:av a b=true):a=b:=by
 cases a<;>cases b<;>simp only[av,Bool.false_eq_true]at h
 ·rw[lζ h]
 ·rw[lζ h]
theorem bF {i:IntKind}{k:Int→R}(h:∀n,x= .int i n→Le (k n) Z):Le (aU i x k) Z:=by
 cases x<;>first|exact Le.no _|skip
 exact Le.grd fun e0=>h _ (by rw[aaB e0])
theorem eM {k:List Nat→R}(h:∀s,x= .str s→Le (k s) Z):Le (j1 x k) Z:=by
 cases x<;>first|exact Le.no _|exact h _ rfl
theorem dS {k:Bool→R}(h:∀s,x= .bool s→Le (k s) Z):Le (az x k) Z:=by
 cases x<;>first|exact Le.no _|exact h _ rfl
theorem cn {k:List Da→R}(h:∀s,x= .slice z s→Le (k s) Z):Le (qO z x k) Z:=by
 cases x<;>first|exact Le.no _|skip
 exact Le.grd fun e0=>h _ (by rw[lζ e0])
theorem dR {k:List Da→R}(h:∀s,x= .agg s→Le (k s) Z):Le (rI x k) Z:=by
 cases x<;>first|exact Le.no _|exact h _ rfl
theorem xz {k:List Da→List Da→R}(h:∀s t,x= .map s t→Le (k s t) Z):Le (We x k) Z:=by
 cases x<;>first|exact Le.no _|exact h _ _ rfl
theorem ao {α:Type}{l:List α}{k:α→List α→R}(h:∀a r,l=a::r→Le (k a r) Z):Le (aK l k) Z:=by
 cases l<;>first|exact Le.no _|exact h _ _ rfl
theorem bI {α:Type}{l:List α}{k:R}(h:l=[]→Le k Z):Le (aw l k) Z:=by
 cases l<;>first|exact Le.no _|exact h rfl
theorem bW {k:Da→R}(h:∀y,d= .p y→Le (k y) Z):Le (dP d k) Z:=by
 cases d<;>first|exact Le.no _|exact h _ rfl
theorem kJ {k:List D→R}(h:∀y,d= .tup y→Le (k y) Z):Le (bd d k) Z:=by
 cases d<;>first|exact Le.no _|exact h _ rfl
theorem Kf {id off:Nat}{k:R}(h:d= .box id off→Le k Z):Le (RP id off d k) Z:=by
 cases d<;>first|exact Le.no _|skip
 exact Le.grd fun e0=>Le.grd fun e1=>h (by rw[lζ e0,lζ e1])
theorem xy {id:Nat}{k:Nat→R}(h:∀len,d= .arr id 0 len z→Le (k len) Z):Le (Wc id z d k) Z:=by
 cases d<;>first|exact Le.no _|skip
 exact Le.grd fun e0=>Le.grd fun e1=>Le.grd fun e2=>h _ (by rw[lζ e0,lζ e1,lζ e2])
theorem N8 {id:Nat}{k:Nat→Nat→R}(h:∀lo len,d= .arr id lo len z→Le (k lo len) Z):Le (ZF id z d k) Z:=by
 cases d<;>first|exact Le.no _|skip
 exact Le.grd fun e0=>Le.grd fun e1=>h _ _ (by rw[lζ e0,lζ e1])
theorem vY {id:Nat}{k:R}(h:d= .map id→Le k Z):Le (dMp id d k) Z:=by
 cases d<;>first|exact Le.no _|skip
 exact Le.grd fun e0=>h (by rw[lζ e0])
theorem ZJ {k:R}(h:d= .sl .nil z []→Le k Z):Le (dNl z d k) Z:=by
 unfold dNl;split
 ·exact Le.grd fun e=>h (by rw[lζ e])
 ·exact Le.no _
theorem af3 {k:List Da→R}(h:∀es,d= .sl .exact z es→Le (k es) Z):Le (dEx z d k) Z:=by
 unfold dEx;split
 ·exact Le.grd fun e=>h _ (by rw[lζ e])
 ·exact Le.no _
theorem ZH {f:Nat}{k:List D→R}(h:∀es,d= .fn f es→Le (k es) Z):Le (dFn f d k) Z:=by
 cases d<;>first|exact Le.no _|skip
 exact Le.grd fun e0=>h _ (by rw[lζ e0])
theorem yn {k:List D→R}(h:∀y,o= .box y→Le (k y) Z):Le (WP o k) Z:=by
 cases o<;>first|exact Le.no _|exact h _ rfl
theorem ue {k:List Da→R}(h:∀y,o= .arr y→Le (k y) Z):Le (Ln o k) Z:=by
 cases o<;>first|exact Le.no _|exact h _ rfl
theorem agY {k:List Da→R}(h:∀y,o= .fz y→Le (k y) Z):Le (oFz o k) Z:=by
 cases o<;>first|exact Le.no _|exact h _ rfl
theorem uf {k:List Da→List Da→R}(h:∀s t,o= .map s t→Le (k s t) Z):Le (Ss o k) Z:=by
 cases o<;>first|exact Le.no _|exact h _ _ rfl
theorem adT {k:List Da→List Da→R}(h:∀s t,o= .fzm s t→Le (k s t) Z):Le (aiu o k) Z:=by
 cases o<;>first|exact Le.no _|exact h _ _ rfl
theorem aa6 {k:R}(h:o= .dead→Le k Z):Le (ae1 o k) Z:=by
 cases o<;>first|exact Le.no _|exact h rfl
theorem ZI {i:IntKind}{c:Int}{k:R}(h:x= .int i c→Le k Z):Le (aeH i c x k) Z:=by
 cases x<;>first|exact Le.no _|skip
 exact Le.grd fun e0=>Le.grd fun e1=>h (by rw[aaB e0,Z7 e1])
theorem Wd {c:Bool}{k:R}(h:x= .bool c→Le k Z):Le (ZG c x k) Z:=by
 cases x<;>first|exact Le.no _|skip
 rename_i b;cases b<;>cases c<;>first|exact Le.no _|exact h rfl
theorem acH {k:List D→R}(h:∀y,d= .agg y→Le (k y) Z):Le (ahX d k) Z:=by
 cases d<;>first|exact Le.no _|exact h _ rfl
theorem ZK {k:R}(h:x= .nilptr→Le k Z):Le (dNp x k) Z:=by
 cases x<;>first|exact Le.no _|exact h rfl
theorem Kg {k:R}(h:x= .nilmap→Le k Z):Le (dNm x k) Z:=by
 cases x<;>first|exact Le.no _|exact h rfl
theorem acI {f:Nat}{k:List Da→R}(h:∀es,x= .fn f es→Le (k es) Z):Le (ahY f x k) Z:=by
 cases x<;>first|exact Le.no _|skip
 exact Le.grd fun e0=>h _ (by rw[lζ e0])
theorem Qm {s:Nat}{k:D→Tm→R}(h:∀d r,tm= .cons s d r→Le (k d r) Z):Le (abo s tm k) Z:=by
 cases tm<;>first|exact Le.no _|skip
 exact Le.grd fun e=>h _ _ (by rw[lζ e])
theorem ad8 {k:R}(h:tm= .nil→Le k Z):Le (aiP tm k) Z:=by
 cases tm<;>first|exact Le.no _|exact h rfl
end
mutual
def fu:Da→Da→(Da→R)→R
 | .int i _,x,k=>aU i x fun n=>k (.int i n)
 | .str _,x,k=>j1 x fun s=>k (.str s)
 | .bool _,x,k=>az x fun b=>k (.bool b)
 | .slice z _,x,k=>qO z x fun l=>k (.slice z l)
 | .map _ _,x,k=>We x fun a b=>k (.map a b)
 | .agg cs,x,k=>rI x fun ds=>yi cs ds fun es=>k (.agg es)
 | .nilptr,x,k=>dNp x (k .nilptr)
 | .nilmap,x,k=>dNm x (k .nilmap)
 |_,x,k=>k x
def yi:List Da→List Da→(List Da→R)→R
 |[],l,k=>aw l (k [])
 |s::r,l,k=>aK l fun x t=>fu s x fun x=>yi r t fun t=>k (x::t)
end
mutual
def nw:D→D→(D→R)→R
 | .p s,d,k=>dP d fun x=>fu s x fun x=>k (.p x)
 | .box i o,d,k=>RP i o d (k (.box i o))
 | .arr i 0 _ z,d,k=>Wc i z d fun n=>k (.arr i 0 n z)
 | .map i,d,k=>dMp i d (k (.map i))
 | .sl .nil z [],d,k=>dNl z d (k (.sl .nil z []))
 | .fn f cs,d,k=>dFn f d fun ds=>wo cs ds fun es=>k (.fn f es)
 | .agg cs,d,k=>ahX d fun ds=>wo cs ds fun es=>k (.agg es)
 |_,d,k=>k d
def wo:List D→List D→(List D→R)→R
 |[],l,k=>aw l (k [])
 |s::r,l,k=>aK l fun x t=>nw s x fun x=>wo r t fun t=>k (x::t)
end
def aaJ (s o:Ob)(k:Ob→R):R:=
 match s with
 | .box cs=>WP o fun ds=>wo cs ds fun es=>k (.box es)
 | .arr _=>Ln o fun l=>k (.arr l)
 | .fz _=>oFz o fun l=>k (.fz l)
 | .map _ _=>Ss o fun a b=>k (.map a b)
 | .fzm _ _=>aiu o fun a b=>k (.fzm a b)
 | .dead=>ae1 o (k .dead)
 |_=>k o
def gK:List Ob→List Ob→(List Ob→R)→R
 |[],l,k=>aw l (k [])
 |s::r,l,k=>aK l fun x t=>aaJ s x fun x=>gK r t fun t=>k (x::t)
mutual
theorem Ix:∀(s x:Da) {k:Da→R} {Z:R},Le (k x) Z→Le (fu s x k) Z
 | .int i _,x,k,Z,h=>by simp only[fu];exact bF fun n e=>by subst e;exact h
 | .str _,x,k,Z,h=>by simp only[fu];exact eM fun n e=>by subst e;exact h
 | .bool _,x,k,Z,h=>by simp only[fu];exact dS fun n e=>by subst e;exact h
 | .slice z _,x,k,Z,h=>by simp only[fu];exact cn fun n e=>by subst e;exact h
 | .map _ _,x,k,Z,h=>by simp only[fu];exact xz fun a b e=>by subst e;exact h
 | .agg cs,x,k,Z,h=>by simp only[fu];exact dR fun ds e=>by subst e;exact Fw cs ds h
 | .nilptr,x,k,Z,h=>by simp only[fu];exact ZK fun e=>by subst e;exact h
 | .ptr _,x,k,Z,h=>by simp only[fu];exact h
 | .nilmap,x,k,Z,h=>by simp only[fu];exact Kg fun e=>by subst e;exact h
 | .fn _ _,x,k,Z,h=>by simp only[fu];exact h
 | .nilfn,x,k,Z,h=>by simp only[fu];exact h
 | .iface _ _,x,k,Z,h=>by simp only[fu];exact h
 | .nilif,x,k,Z,h=>by simp only[fu];exact h
 | .sliceE _ _,x,k,Z,h=>by simp only[fu];exact h
 | .sym _ _,x,k,Z,h=>by simp only[fu];exact h
theorem Fw:∀(s l:List Da) {k:List Da→R} {Z:R},Le (k l) Z→Le (yi s l k) Z
 |[],l,k,Z,h=>by simp only[yi];exact bI fun e=>by subst e;exact h
 |s::r,l,k,Z,h=>by simp only[yi];exact ao fun x t e=>by subst e;exact Ix s x (Fw r t h)
end
mutual
theorem aaI:∀(s d:D) {k:D→R} {Z:R},Le (k d) Z→Le (nw s d k) Z
 | .p s,d,k,Z,h=>by simp only[nw];exact bW fun n e=>by subst e;exact Ix s n h
 | .box i o,d,k,Z,h=>by simp only[nw];exact Kf fun e=>by subst e;exact h
 | .arr i 0 _ z,d,k,Z,h=>by simp only[nw];exact xy fun n e=>by subst e;exact h
 | .arr i (_+1) _ z,d,k,Z,h=>by simp only[nw];exact h
 | .map i,d,k,Z,h=>by simp only[nw];exact vY fun e=>by subst e;exact h
 | .sl g z es,d,k,Z,h=>by
  unfold nw;split<;>first
   |contradiction
   |exact h
   |(rename_i e;cases e;exact ZJ fun e=>by subst e;exact h)
 | .fn f cs,d,k,Z,h=>by simp only[nw];exact ZH fun ds e=>by subst e;exact ub cs ds h
 | .agg cs,d,k,Z,h=>by simp only[nw];exact acH fun ds e=>by subst e;exact ub cs ds h
 | .tup _,d,k,Z,h=>by simp only[nw];exact h
 | .el _ _ _,d,k,Z,h=>by simp only[nw];exact h
 | .ip _ _,d,k,Z,h=>by simp only[nw];exact h
 | .iface _ _,d,k,Z,h=>by simp only[nw];exact h
 | .junk,d,k,Z,h=>by simp only[nw];exact h
theorem ub:∀(s l:List D) {k:List D→R} {Z:R},Le (k l) Z→Le (wo s l k) Z
 |[],l,k,Z,h=>by simp only[wo];exact bI fun e=>by subst e;exact h
 |s::r,l,k,Z,h=>by simp only[wo];exact ao fun x t e=>by subst e;exact aaI s x (ub r t h)
end
theorem WE (s o:Ob){k:Ob→R}{Z:R}(h:Le (k o) Z):Le (aaJ s o k) Z:=by
 cases s<;>first
  |exact h
  |exact yn fun ds e=>by subst e;exact ub _ ds h
  |exact ue fun n e=>by subst e;exact h
  |exact agY fun n e=>by subst e;exact h
  |exact uf fun a b e=>by subst e;exact h
  |exact adT fun a b e=>by subst e;exact h
  |exact aa6 fun e=>by subst e;exact h
theorem dy:∀(s l:List Ob) {k:List Ob→R} {Z:R},Le (k l) Z→Le (gK s l k) Z
 |[],l,k,Z,h=>by simp only[gK];exact bI fun e=>by subst e;exact h
 |s::r,l,k,Z,h=>by simp only[gK];exact ao fun x t e=>by subst e;exact WE s x (dy r t h)
structure oQ where
 el:Nat→Da→(Da→R)→R
 ca:Nat→List Ob→D→List Ob→KV→R
 mv:D→Da→(Da→R)→R
 keys:Bool
 spl:Bool
 par:Bool
structure oQ.Ok (dc:oQ):Prop where
 el:∀z x k,Le (dc.el z x k) (k x)
 ca:∀f hi v hp k,Le (dc.ca f hi v hp k) (k v hp)
 mv:∀z x k,Le (dc.mv z x k) (k x)
abbrev af:=Nat→List D→List Ob→KV→R
def bB (cc:af)(call:aL):Prop:=∀f vs hp (k k':KV),(∀v out,Le (k v out) (k' v out))→Le (cc f vs hp k) (cL (call f vs hp) fun p=>k' p.1 p.2)
abbrev KE:=D→List (Nat×Ob)→List Ob→R
def ez (o:Option gN)(k:KE):R:=cL o fun e=>k e.1 e.2.1 e.2.2
def abc (vs:List D)(k:KE):R:=match vs with|[.p (.bool c),a,b]=>iL c (k a [] []) (k b [] [])|_=>none
def afz (op:BinOp)(vs:List D)(k:KE):R:=
 match vs with
 |[.p (.int i a),.p (.int j b)]=>match op with
  | .quo=>iL (av b 0) none (if i=j then k (.p (.int i (ag i (a.tdiv b)))) [] []else none)
  | .rem=>iL (av b 0) none (if i=j then k (.p (.int i (a.tmod b))) [] []else none)
  | .shl=>iL (aX b 0) none (k (.p (.int i (ag i (a*2 ^ (min b.toNat i.bits))))) [] [])
  | .shr=>iL (aX b 0) none (k (.p (.int i (a.fdiv (2 ^ (min b.toNat i.bits))))) [] [])
  |op=>ez (nL (bin op (.p (.int i a)) (.p (.int j b)))) k
 |[.p (.str a),.p (.str b)]=>match op with
  | .add=>iL (Nat.ble (a.length+b.length) kR) (k (.p (.str (a++b))) [] []) none
  |op=>ez (nL (bin op (.p (.str a)) (.p (.str b)))) k
 |[x,y]=>ez (nL (bin op x y)) k
 |_=>none
def lz:List Nat→List Da→List Da→(Bool→R)→R
 |[],_,_,k=>k true
 |c::ks,x::xs,y::ys,k=>cL (At c x y) fun b=>iL b (lz ks xs ys k) (k false)
 |_,_,_,_=>none
def YV (ks:List Nat)(op:BinOp)(vs:List D)(k:KE):R:=
 match vs with
 |[.p (.agg xs),.p (.agg ys)]=>match op with
  | .eql=>lz ks xs ys fun b=>k (.p (.bool b)) [] []
  | .neq=>lz ks xs ys fun b=>k (.p (.bool (!b))) [] []
  |_=>none
 |_=>none
def iaL (dc:oQ)(esz:Nat)(vs:List D)(k:KE):R:=
 match vs with
 |[.p (.slice z es),.p (.int _ i)]=>iL (Nat.beq z esz) (cL (bx es i) fun x=>dc.el esz x fun x=>k (.ip x 0) [] []) none
 |[.p (.sliceE z es),.p (.int _ i)]=>iL (Nat.beq z esz) (cL (bx es i) fun x=>dc.el esz x fun x=>k (.ip x 0) [] []) none
 |[.sl _ z es,.p (.int _ i)]=>iL (Nat.beq z esz) (cL (bx es i) fun x=>dc.el esz x fun x=>k (.ip x 0) [] []) none
 |[.arr id lo len z,.p (.int _ i)]=>iL (Nat.beq z esz) (iL (bm 0 i) (iL (aX i len) (k (.el id (lo+i.toNat) 0) [] []) none) none) none
 |_=>none
def ixL (vs:List D)(k:KE):R:=
 match vs with
 |[.p (.str s),.p (.int _ i)]=>cL (bif bm 0 i then s[i.toNat]? else none) fun b=>k (.p (.int .u8 (Int.ofNat b))) [] []
 |_=>none
def m8 (x:D)(y:Nat)(k:Nat→R):R:=match x with| .p (.int _ i)=>iL (bm 0 i) (iL (bm i y) (k i.toNat) none) none|_=>none
def mg (lo hi mx:Bool)(len:Nat)(xs:List D)(k:Nat→Nat→Nat→R):R:=
 match lo,hi,mx,xs with
 |false,false,false,[]=>k 0 len len
 |true,false,false,[a]=>m8 a len fun l=>k l len len
 |false,true,false,[b]=>m8 b len fun h=>k 0 h len
 |true,true,false,[a,b]=>m8 b len fun h=>m8 a h fun l=>k l h len
 |false,true,true,[b,c]=>m8 c len fun m=>m8 b m fun h=>k 0 h m
 |true,true,true,[a,b,c]=>m8 c len fun m=>m8 b m fun h=>m8 a h fun l=>k l h m
 |_,_,_,_=>none
theorem gp {x:D}{y:Nat}{k:Nat→R}{Z:R}(h:∀n,ly x y=some n→Le (k n) Z):Le (m8 x y k) Z:=by
 unfold m8;split
 ·refine Le.grd fun h1=>Le.grd fun h2=>h _ ?_
  simp only[ly,h1,h2,Bool.and_self,cond_true]
 ·exact Le.no _
theorem iz {lo hi mx:Bool}{len:Nat}{xs:List D}{k:Nat→Nat→Nat→R}{Z:R}(h:∀l a m,cq lo hi mx len xs=some (l,a,m)→Le (k l a m) Z):Le (mg lo hi mx len xs k) Z:=by
 unfold mg;split
 ·exact h _ _ _ rfl
 ·exact gp fun l h1=>h _ _ _ (by simp only[cq,h1])
 ·exact gp fun l h1=>h _ _ _ (by simp only[cq,h1])
 ·exact gp fun l h1=>gp fun l' h2=>h _ _ _ (by simp only[cq,h1,h2])
 ·exact gp fun l h1=>gp fun l' h2=>h _ _ _ (by simp only[cq,h1,h2])
 ·exact gp fun l h1=>gp fun l' h2=>gp fun l'' h3=>h _ _ _ (by simp only[cq,h1,h2,h3])
 ·exact Le.no _
def SQ (lo hi:Bool)(vs:List D)(k:KE):R:=
 match vs with
 | .p (.str s)::xs=>mg lo hi false s.length xs fun l h _=>k (.p (.str ((s.drop l).take (h - l)))) [] []
 |_=>none
def abq (lo hi:Bool)(l h lo0:Nat)(n:Option Nat)(e v:R):R:=
 match lo,hi,n with
 |true,false,some n=>iL (Nat.beq l h) (iL (Nat.blt lo0 n) e v) v
 |_,_,_=>v
theorem abr (lo hi:Bool)(l h lo0:Nat)(os:List (Nat×Ob))(id:Nat)(e v:R):abq lo hi l h lo0 (BB os id) e v=bif lo&&!hi&&(Nat.beq l h&&sU os id lo0)then e else v:=by
 have hf:sU os id lo0=match BB os id with|some n=>Nat.blt lo0 n|none=>false:=by
  unfold sU BB;cases gx os id<;>rfl
 rw[hf];cases lo<;>cases hi<;>cases BB os id<;>simp only[abq,Bool.false_and,Bool.true_and,Bool.not_false,Bool.not_true,Bool.and_false,cond_false];cases Nat.beq l h<;>cases Nat.blt lo0 _<;>rfl
def abi (esz:Nat)(lo hi mx:Bool)(vs:List D)(ids:List Nat)(obs:List Ob)(k:KE):R:=
 match mx,vs with
 |false,.p (.slice z es)::xs=>iL (Du z esz es) (mg lo hi false es.length xs fun l h _=>k (.p (.slice z ((es.drop l).take (h - l)))) [] []) none
 |false,.sl .nil z es::xs=>iL (Du z esz es) (mg lo hi false es.length xs fun _ _ _=>k (.sl .nil z []) [] []) none
 |false,.arr id lo0 len0 z::xs=>iL (Nat.beq z esz) (mg lo hi false len0 xs fun l h _=>abq lo hi l h lo0 (BB (ids.zip obs) id) (k (.sl .some z []) [] []) (k (.arr id (lo0+l) (h - l) z) [] [])) none
 |true,.p (.slice z es)::xs=>iL (Du z esz es) (mg lo hi true es.length xs fun l h m=>iL (Nat.beq h m) (k (.sl .exact z ((es.drop l).take (h - l))) [] []) (k (.p (.slice z ((es.drop l).take (h - l)))) [] [])) none
 |true,.arr id lo0 len0 z::xs=>iL (Nat.beq z esz) (mg lo hi true len0 xs fun l h m=>match gx (ids.zip obs) id with
  | .arr es=>iL (Nat.beq h m) (k (.sl .exact z ((es.drop (lo0+l)).take (h - l))) [(id,.fz es)] []) (k (.p (.slice z ((es.drop (lo0+l)).take (h - l)))) [(id,.fz es)] [])
  | .fz es=>iL (Nat.beq h m) (k (.sl .exact z ((es.drop (lo0+l)).take (h - l))) [] []) (k (.p (.slice z ((es.drop (lo0+l)).take (h - l)))) [] [])
  |_=>none) none
 |mx,vs=>ez (lx esz lo hi mx vs ids obs) k
def ahz (esz:Nat)(lo hi:Bool)(vs:List D)(k:KE):R:=
 match vs with
 | .arr id lo0 len0 z::xs=>iL (Nat.beq z esz) (mg lo hi false len0 xs fun l h _=>k (.arr id (lo0+l) (h - l) z) [] []) none
 |_=>none
def aeE (n off:Nat)(agg:Bool)(e:Da)(k:KE):R:=cL (sub (cells e) off n) fun ds=>cL (eD agg (ds.map .p)) fun d=>k d [] []
def aeK (dc:oQ)(off n:Nat):Nat:=match dc.par with|true=>1000*(off+1)+n|false=>0
def aaM (dc:oQ)(n:Nat)(agg:Bool)(vs:List D)(obs:List Ob)(k:KE):R:=
 match vs with
 |[.el _ i off]=>match obs with
  |[.arr es]=>cL es[i]? fun e=>dc.el (aeK dc off n) e fun e=>aeE n off agg e k
  |[.fz es]=>cL es[i]? fun e=>dc.el (aeK dc off n) e fun e=>aeE n off agg e k
  |_=>none
 |vs=>ez (iP n agg vs obs) k
def SV (dc:oQ)(n id i off:Nat)(d:D)(ids:List Nat)(obs:List Ob)(k:KE):R:=
 match gx (ids.zip obs) id with
 | .arr es=>cL es[i]? fun e=>dc.el (1000*(off+1)+n) e fun e=>cL (pur ((ids.zip obs).filter fun p=>!Nat.beq p.1 id) d) fun x=>iL (Nat.beq (cells x).length n) (iL (Nat.ble (off+n) (cells e).length) (cL (cX e (splice (cells e) off (cells x))) fun e'=>k .junk (dD ((ids.zip obs).filter fun p=>!Nat.beq p.1 id)++[(id,.arr (es.set i e'))]) []) none) none
 |_=>none
def SU (dc:oQ)(n:Nat)(vs:List D)(ids:List Nat)(obs:List Ob)(k:KE):R:=
 match dc.par,vs with
 |true,[.el id i off,d]=>SV dc n id i off d ids obs k
 |false,[.el id i 0,d]=>match gx (ids.zip obs) id with
  | .arr es=>cL es[i]? fun e=>cL (pur ((ids.zip obs).filter fun p=>!Nat.beq p.1 id) d) fun x=>iL (Nat.beq (cells x).length n) (iL (Nat.beq (cells e).length n) (cL (cX e (cells x)) fun e'=>k .junk (dD ((ids.zip obs).filter fun p=>!Nat.beq p.1 id)++[(id,.arr (es.set i e'))]) []) none) none
  |_=>none
 |_,vs=>ez (qJ n vs ids obs) k
def Ox (kt:TypeDesc)(x:Da):List Da→Nat→(Option Nat→R)→R
 |[],_,k=>k none
 |y::r,i,k=>cL (nv kt x y) fun b=>iL b (k (some i)) (Ox kt x r (i+1) k)
def aah (keys:Bool)(kt:TypeDesc)(x:Da)(ks:List Da)(k:Option Nat→R):R:=
 match keys with
 |true=>Ox kt x ks 0 k
 |false=>cL (bU kt x ks 0) k
def iV (o:Option Nat)(e:R)(k:Nat→R):R:=match o with|none=>e|some i=>k i
def agN (dc:oQ)(kt:TypeDesc)(z:D)(ok:Bool)(vs:List D)(ids:List Nat)(obs:List Ob)(k:KE):R:=
 match vs with
 |[d,.p x]=>
  match (match d with
   | .p .nilmap=>some ([],[])
   | .p (.map ks ws)=>some (ks,ws)
   | .map id=>match gx (ids.zip obs) id with
    | .map ks ws=>some (ks,ws)
    | .fzm ks ws=>some (ks,ws)
    |_=>none
   |_=>none:Option (List Da×List Da))with
  |some (ks,ws)=>aah dc.keys kt x ks fun o=>iV o (k (bif ok then .tup [z,.p (.bool false)]else z) [] []) fun i=>cL ws[i]? fun v=>dc.mv z v fun v=>k (bif ok then .tup [.p v,.p (.bool true)]else .p v) [] []
  |none=>ez (J6 kt z ok vs ids obs) k
 |vs=>ez (J6 kt z ok vs ids obs) k
def aaW (keys:Bool)(kt:TypeDesc)(vs:List D)(ids:List Nat)(obs:List Ob)(k:KE):R:=
 match vs with
 |[.map id,.p x,d]=>
  match gx (ids.zip obs) id with
  | .map ks ws=>match pur ((ids.zip obs).filter fun p=>!Nat.beq p.1 id) d with
   |some y=>aah keys kt x ks fun o=>iV o (k .junk (dD ((ids.zip obs).filter fun p=>!Nat.beq p.1 id)++[(id,.map (ks++[x]) (ws++[y]))]) []) fun i=>k .junk (dD ((ids.zip obs).filter fun p=>!Nat.beq p.1 id)++[(id,.map ks (ws.set i y))]) []
   |none=>ez (Bu kt vs ids obs) k
  |_=>ez (Bu kt vs ids obs) k
 |vs=>ez (Bu kt vs ids obs) k
def aaU (esz:Nat)(z:Da)(bytes base kk:Nat)(vs:List D)(k:KE):R:=
 match vs with
 |[.p (.int _ l),.p (.int _ c)]=>iL (bm 0 l&&bm l c&&Nat.ble (c.toNat*bytes) 281474976710656&&bm c 9223372036854775807) (k (.arr (base+kk) 0 l.toNat esz) [(base+kk,.arr (List.replicate l.toNat z))] []) none
 |_=>none
def cR (n bytes:Nat):Bool:=Nat.ble ((2*n+192)*bytes) 281474976710656&&Nat.ble (2*n+192) 9223372036854775807
def afu (tr:Bool)(esz bytes base kk:Nat)(vs:List D)(ids:List Nat)(obs:List Ob)(k:KE):R:=
 match vs with
 |[.arr id 0 len z,b]=>match gx (ids.zip obs) id with
  | .arr es=>match tr with
   |true=>iL (Nat.beq z esz) (cL (elems esz (ids.zip obs) b) fun ys=>iL (cR ((es.take len).length+ys.length) bytes) (k (.arr (base+kk) 0 (es.take len++ys).length esz) [(id,.dead),(base+kk,.arr (es.take len++ys))] []) none) none
   |false=>iL (Nat.beq z esz) (iL (Nat.beq len es.length) (cL (elems esz (ids.zip obs) b) fun ys=>iL (cR (es.length+ys.length) bytes) (k (.arr (base+kk) 0 (es++ys).length esz) [(id,.dead),(base+kk,.arr (es++ys))] []) none) none) none
  |_=>none
 |[.sl .nil z es,b]=>cL (elems esz (ids.zip obs) b) fun ys=>iL (cR (0+ys.length) bytes) (k (.arr (base+kk) 0 ys.length esz) [(base+kk,.arr ys)] []) none
 |[.sl .exact z [],b]=>cL (elems esz (ids.zip obs) b) fun ys=>iL (cR (0+ys.length) bytes) (k (.arr (base+kk) 0 ys.length esz) [(base+kk,.arr ys)] []) none
 |[.sl .exact z es,b]=>iL (Du z esz es) (cL (elems esz (ids.zip obs) b) fun ys=>iL (!es.isEmpty&&ys.isEmpty) (k (.sl .exact z es) [] []) (iL (cR (es.length+ys.length) bytes) (k (.arr (base+kk) 0 (es++ys).length esz) [(base+kk,.arr (es++ys))] []) none)) none
 |vs=>ez (rH esz bytes base kk vs ids obs) k
def afv (dc:oQ)(esz bytes base kk:Nat)(vs:List D)(ids:List Nat)(obs:List Ob)(k:KE):R:=
 match dc.par,vs with
 |true,[.sl .exact z es,b]=>iL (Du z esz es) (cL (elems esz (ids.zip obs) b) fun ys=>iL (!es.isEmpty&&ys.isEmpty) (k (.sl .exact z es) [] []) (iL (cR (es.length+ys.length) bytes) (k (.arr (base+kk) 0 (es++ys).length esz) [(base+kk,.arr (es++ys))] []) none)) none
 |_,vs=>afu dc.keys esz bytes base kk vs ids obs k
def afy (vs:List D)(ids:List Nat)(obs:List Ob)(k:KE):R:=
 match vs with
 |[d]=>cL (elems 1 (ids.zip obs) d) fun es=>cL (mh es) fun s=>k (.p (.str s)) [] []
 |_=>none
def N1 (dc:oQ)(cc:af)(f:Nat)(args:List D)(ids:List Nat)(obs:List Ob)(len:Nat)(k:KE):R:=
 cc f (gM (lK ids) args) (rt (lK ids) obs) fun r out=>dc.ca f (rt (lK ids) obs) r out fun r out=>iL (Nat.ble ids.length out.length) (k (jT (back ids.length len ids out.length) r) (ids.zip (rt (back ids.length len ids out.length) out)) ((rt (back ids.length len ids out.length) out).drop ids.length)) none
def RK [Mv](dc:oQ)(cc:af)(f:Nat)(args:List D)(ids:List Nat)(obs:List Ob)(len:Nat)(k:KE):R:=
 match Mv.mv f with
 |true=>cc f (gM (lK ids) args) (rt (lK ids) obs) fun r out=>dc.ca f (rt (lK ids) obs) r out fun r out=>iL (Nat.ble (fA f (gM (lK ids) args) ids.length) out.length) (k (jT (back (fA f (gM (lK ids) args) ids.length) len ids out.length) r) ((ids.take (fA f (gM (lK ids) args) ids.length)).zip (rt (back (fA f (gM (lK ids) args) ids.length) len ids out.length) out)++(ids.drop (fA f (gM (lK ids) args) ids.length)).map fun i=>(i,.dead)) ((rt (back (fA f (gM (lK ids) args) ids.length) len ids out.length) out).drop (fA f (gM (lK ids) args) ids.length))) none
 |false=>N1 dc cc f args ids obs len k
def RM [Mv](dc:oQ)(cc:af)(vs:List D)(ids:List Nat)(obs:List Ob)(len:Nat)(k:KE):R:=
 match vs with
 | .p (.fn f caps)::args=>match Mv.mv (QD f)with
  |true=>none
  |false=>N1 dc cc (QD f) (sS f (caps.map .p) (args.map norm)) ids obs len k
 | .fn f caps::args=>match Mv.mv (QD f)with
  |true=>none
  |false=>N1 dc cc (QD f) (sS f caps (args.map norm)) ids obs len k
 |_=>none
def afq [Mv](dc:oQ)(cc:af)(base:Nat)(o:O)(kk:Nat)(vs:List D)(ids:List Nat)(obs:List Ob)(len:Nat)(k:KE):R:=
 match o with
 | .pick=>abc vs k
 | .bin op=>afz op vs k
 | .binS ks op=>YV ks op vs k
 | .ia esz=>iaL dc esz vs k
 | .ix=>ixL vs k
 | .slStr lo hi=>SQ lo hi vs k
 | .slSl esz lo hi mx=>abi esz lo hi mx vs ids obs k
 | .slW esz lo hi=>ahz esz lo hi vs k
 | .load n agg=>aaM dc n agg vs obs k
 | .store n=>SU dc n vs ids obs k
 | .lkp kt z ok=>agN dc kt z ok vs ids obs k
 | .mupd kt=>aaW dc.keys kt vs ids obs k
 | .mksl esz z bytes=>aaU esz z bytes base kk vs k
 | .app esz bytes=>afv dc esz bytes base kk vs ids obs k
 | .b2s=>afy vs ids obs k
 | .call f raw=>RK dc cc f (bif raw then vs else vs.map norm) ids obs len k
 | .callv=>RM dc cc vs ids obs len k
 |o=>ez (qK (fun _ _ _=>none) base o kk vs ids obs len) k
section laws
variable {k k':KE} (hk:∀v u n,Le (k v u n) (k' v u n))
include hk
theorem gv (o:Option gN):Le (ez o k) (ez o k'):=Le.opt fun e h=>by subst h;exact hk _ _ _
theorem abd (vs:List D):Le (abc vs k) (ez (H1 vs) k'):=by
 unfold abc;split
 ·exact Le.two (fun h=>by subst h;exact hk _ _ _) (fun h=>by subst h;exact hk _ _ _)
 ·exact Le.no _
theorem acb (op:BinOp)(vs:List D):Le (afz op vs k) (ez (GV op vs) k'):=by
 unfold afz;split
 ·rename_i i a j b;split
  ·refine Le.two (fun _=>Le.no _) (fun h=>?_);split
   ·rename_i e;subst e;simp only[GV,bin,eR,cond_false,if_true,m7,h,nL];exact hk _ _ _
   ·exact Le.no _
  ·refine Le.two (fun _=>Le.no _) (fun h=>?_);split
   ·rename_i e;subst e;simp only[GV,bin,eR,cond_false,if_true,m7,h,nL];exact hk _ _ _
   ·exact Le.no _
  ·refine Le.two (fun _=>Le.no _) (fun h=>?_);simp only[GV,bin,eR,cond_true,pU,h,cond_false,nL];exact hk _ _ _
  ·refine Le.two (fun _=>Le.no _) (fun h=>?_);simp only[GV,bin,eR,cond_true,pU,h,cond_false,nL];exact hk _ _ _
  ·exact gv hk _
 ·split
  ·refine Le.grd fun h=>?_
   simp only[GV,bin,vV,h,cond_true,nL];exact hk _ _ _
  ·exact gv hk _
 ·exact gv hk _
 ·exact Le.no _
omit hk in
theorem sO {q:Bool→R}{x:R}:∀(ks:List Nat) (xs ys:List Da),(∀b,jN ks xs ys=some b→Le (q b) x)→Le (lz ks xs ys q) x
 |[],xs,ys,h=>by unfold lz;exact h true (by simp[jN])
 |c::ks,[],ys,h=>by unfold lz;exact Le.no _
 |c::ks,x::xs,[],h=>by unfold lz;exact Le.no _
 |c::ks,x::xs,y::ys,h=>by
  unfold lz;refine Le.opt fun b hb=>Le.two (fun e=>?_) (fun e=>?_)
  ·exact sO ks xs ys fun b' h'=>h b' (by simp only[jN,hb,e,cond_true,h'])
  ·exact h false (by simp only[jN,hb,e,cond_false])
theorem YW (ks:List Nat)(op:BinOp)(vs:List D):Le (YV ks op vs k) (ez (EB ks op vs) k'):=by
 unfold YV;split
 ·split
  ·refine sO _ _ _ fun b hb=>?_
   simp only[EB,binS,hb,nL];exact hk _ _ _
  ·refine sO _ _ _ fun b hb=>?_
   simp only[EB,binS,hb,nL];exact hk _ _ _
  ·exact Le.no _
 ·exact Le.no _
theorem agw {dc:oQ}(hd:dc.Ok)(esz:Nat)(vs:List D):Le (iaL dc esz vs k) (ez (Th esz vs) k'):=by
 unfold iaL;split
 ·refine Le.grd fun h=>Le.opt fun x hx=>(hd.el _ _ _).trans ?_
  simp only[Th,h,cond_true,hx];exact hk _ _ _
 ·refine Le.grd fun h=>Le.opt fun x hx=>(hd.el _ _ _).trans ?_
  simp only[Th,h,cond_true,hx];exact hk _ _ _
 ·refine Le.grd fun h=>Le.opt fun x hx=>(hd.el _ _ _).trans ?_
  simp only[Th,h,cond_true,hx];exact hk _ _ _
 ·refine Le.grd fun h=>Le.grd fun h1=>Le.grd fun h2=>?_
  simp only[Th,h,h1,h2,Bool.and_self,cond_true];exact hk _ _ _
 ·exact Le.no _
theorem agC (vs:List D):Le (ixL vs k) (ez (aIx vs) k'):=by
 unfold ixL;split
 ·refine Le.opt fun x hx=>?_
  simp only[aIx,hx];exact hk _ _ _
 ·exact Le.no _
theorem W6 (lo hi:Bool)(vs:List D):Le (SQ lo hi vs k) (ez (qI lo hi vs) k'):=by
 unfold SQ;split
 ·refine iz fun l h m hp=>?_
  simp only[qI,hp];exact hk _ _ _
 ·exact Le.no _
theorem abj (esz:Nat)(lo hi mx:Bool)(vs:List D)(ids:List Nat)(obs:List Ob):Le (abi esz lo hi mx vs ids obs k) (ez (lx esz lo hi mx vs ids obs) k'):=by
 unfold abi;split
 ·refine Le.grd fun h=>iz fun l h' m hp=>?_
  simp only[lx,h,hp,cond_true,Bool.false_and,cond_false];exact hk _ _ _
 ·refine Le.grd fun h=>iz fun l h' m hp=>?_
  simp only[lx,h,hp,cond_true];exact hk _ _ _
 ·refine Le.grd fun h=>iz fun l h' m hp=>?_
  rw[abr];simp only[lx,h,hp,cond_true,cond_false];cases lo&&!hi&&(Nat.beq l h'&&sU (ids.zip obs) _ _)<;>exact hk _ _ _
 ·refine Le.grd fun h=>iz fun l h' m hp=>Le.two (fun h1=>?_) (fun h1=>?_)
  ·simp only[lx,h,hp,cond_true,Bool.true_and,h1];exact hk _ _ _
  ·simp only[lx,h,hp,cond_true,cond_false,Bool.true_and,h1];exact hk _ _ _
 ·refine Le.grd fun h=>iz fun l h' m hp=>?_
  split
  ·rename_i es hl;refine Le.two (fun h1=>?_) (fun h1=>?_)
   ·simp only[lx,h,hp,hl,cond_true,h1];exact hk _ _ _
   ·simp only[lx,h,hp,hl,cond_true,cond_false,h1];exact hk _ _ _
  ·rename_i es hl;refine Le.two (fun h1=>?_) (fun h1=>?_)
   ·simp only[lx,h,hp,hl,cond_true,h1];exact hk _ _ _
   ·simp only[lx,h,hp,hl,cond_true,cond_false,h1];exact hk _ _ _
  ·exact Le.no _
 ·exact gv hk _
theorem ad5 (esz:Nat)(lo hi:Bool)(vs:List D):Le (ahz esz lo hi vs k) (ez (VM esz lo hi vs) k'):=by
 unfold ahz;split
 ·refine Le.grd fun h=>iz fun l h' m hp=>?_
  simp only[VM,h,hp,cond_true];exact hk _ _ _
 ·exact Le.no _
theorem aaN {dc:oQ}(hd:dc.Ok)(n:Nat)(agg:Bool)(vs:List D)(obs:List Ob):Le (aaM dc n agg vs obs k) (ez (iP n agg vs obs) k'):=by
 unfold aaM;split
 ·split
  ·refine Le.opt fun e he=>(hd.el _ _ _).trans (Le.opt fun ds hds=>Le.opt fun d hd=>?_)
   simp only[iP,he,hds,hd];exact hk _ _ _
  ·refine Le.opt fun e he=>(hd.el _ _ _).trans (Le.opt fun ds hds=>Le.opt fun d hd=>?_)
   simp only[iP,he,hds,hd];exact hk _ _ _
  ·exact Le.no _
 ·exact gv hk _
theorem Xd {dc:oQ}(hd:dc.Ok)(n id i off:Nat)(d:D)(ids:List Nat)(obs:List Ob):Le (SV dc n id i off d ids obs k) (ez (qJ n [.el id i off,d] ids obs) k'):=by
 unfold SV;split
 ·rename_i es hl;refine Le.opt fun e he=>(hd.el _ _ _).trans (Le.opt fun x hx=>Le.grd fun h1=>Le.grd fun h2=>Le.opt fun e' he'=>?_)
  simp only[qJ,hl,he,hx,h1,h2,Bool.and_self,cond_true,he'];exact hk _ _ _
 ·exact Le.no _
theorem Xc {dc:oQ}(hd:dc.Ok)(n:Nat)(vs:List D)(ids:List Nat)(obs:List Ob):Le (SU dc n vs ids obs k) (ez (qJ n vs ids obs) k'):=by
 unfold SU;split
 ·exact Xd hk hd _ _ _ _ _ _ _
 ·rename_i id i d hp;split
  ·rename_i es hl;refine Le.opt fun e he=>Le.opt fun x hx=>Le.grd fun h1=>Le.grd fun h2=>Le.opt fun e' he'=>?_
   have hb:=lζ h1;have hb2:=lζ h2;have hs:splice (cells e) 0 (cells x)=cells x:=by simp[splice,hb,hb2.symm▸List.drop_length]
   have hle:Nat.ble (0+n) (cells e).length=true:=by rw[Nat.ble_eq];omega
   simp only[qJ,hl,he,hx,h1,hle,Bool.and_self,cond_true,hs,he'];exact hk _ _ _
  ·exact Le.no _
 ·exact gv hk _
omit hk in
theorem Oy {kt:TypeDesc}{x:Da}{q:Option Nat→R}{y:R}:∀(ks:List Da) (i:Nat),(∀o,bU kt x ks i=some o→Le (q o) y)→Le (Ox kt x ks i q) y
 |[],i,h=>by unfold Ox;exact h none rfl
 |c::r,i,h=>by
  unfold Ox;refine Le.opt fun b hb=>Le.two (fun e=>?_) (fun e=>?_)
  ·subst e;exact h _ (by simp only[bU,hb])
  ·subst e;exact Oy r (i+1) fun o ho=>h o (by simp only[bU,hb,ho])
omit hk in
theorem Oz {keys:Bool}{kt:TypeDesc}{x:Da}{q:Option Nat→R}{y:R}(ks:List Da)(h:∀o,bU kt x ks 0=some o→Le (q o) y):Le (aah keys kt x ks q) y:=by
 cases keys
 ·exact Le.opt h
 ·exact Oy ks 0 h
theorem adF {dc:oQ}(hd:dc.Ok)(kt:TypeDesc)(z:D)(ok:Bool)(vs:List D)(ids:List Nat)(obs:List Ob):Le (agN dc kt z ok vs ids obs k) (ez (J6 kt z ok vs ids obs) k'):=by
 unfold agN;split
 ·rename_i d x;split
  ·rename_i ks ws he;refine Oz ks fun o ho=>?_
   have key:Le (iV o (k (bif ok then .tup [z,.p (.bool false)]else z) [] []) fun i=>cL ws[i]? fun v=>dc.mv z v fun v=>k (bif ok then .tup [.p v,.p (.bool true)]else .p v) [] []) (ez (match bU kt x ks 0 with
    |some (some i)=>match ws[i]? with
     |some v=>val (bif ok then .tup [.p v,.p (.bool true)]else .p v)
     |none=>none
    |some none=>val (bif ok then .tup [z,.p (.bool false)]else z)
    |none=>none) k'):=by
    rw[ho];cases o with
    |none=>exact hk _ _ _
    |some i=>
     refine Le.opt fun v hv=>(hd.mv _ _ _).trans ?_
     simp only[hv];exact hk _ _ _
   split at he
   ·simp only[lα,lε]at he;obtain⟨rfl,rfl⟩:=he;exact key
   ·simp only[lα,lε]at he;obtain⟨rfl,rfl⟩:=he;exact key
   ·split at he
    ·rename_i hl;simp only[lα,lε]at he;obtain⟨rfl,rfl⟩:=he;simp only[J6,hl];exact key
    ·rename_i hl;simp only[lα,lε]at he;obtain⟨rfl,rfl⟩:=he;simp only[J6,hl];exact key
    ·cases he
   ·cases he
  ·exact gv hk _
 ·exact gv hk _
theorem aaX (keys:Bool)(kt:TypeDesc)(vs:List D)(ids:List Nat)(obs:List Ob):Le (aaW keys kt vs ids obs k) (ez (Bu kt vs ids obs) k'):=by
 unfold aaW;split
 ·split
  ·rename_i hl;split
   ·rename_i y hp;refine Oz _ fun o ho=>?_
    simp only[Bu,hl,hp,ho];cases o<;>exact hk _ _ _
   ·exact gv hk _
  ·exact gv hk _
 ·exact gv hk _
theorem aaV (esz:Nat)(z:Da)(bytes base kk:Nat)(vs:List D):Le (aaU esz z bytes base kk vs k) (ez (NN esz z bytes base kk vs) k'):=by
 unfold aaU;split
 ·refine Le.grd fun h=>?_
  simp only[NN,h,cond_true];exact hk _ _ _
 ·exact Le.no _
theorem ab5 (tr:Bool)(esz bytes base kk:Nat)(vs:List D)(ids:List Nat)(obs:List Ob):Le (afu tr esz bytes base kk vs ids obs k) (ez (rH esz bytes base kk vs ids obs) k'):=by
 unfold afu;split
 ·rename_i id len z b;split
  ·rename_i es hl;split
   ·refine Le.grd fun h1=>Le.opt fun ys hy=>Le.grd fun h3=>?_
    unfold cR at h3;simp only[rH,oB,hl,h1,cond_true,hy,List.isEmpty_cons,Bool.false_and,cond_false,List.drop_zero,h3,mπ,List.cons_append,List.nil_append];rw[←mπ];exact hk _ _ _
   refine Le.grd fun h1=>Le.grd fun h2=>Le.opt fun ys hy=>Le.grd fun h3=>?_
   have h2':=lζ h2;subst h2';unfold cR at h3;simp only[rH,oB,hl,h1,cond_true,hy,List.isEmpty_cons,Bool.false_and,cond_false,List.drop_zero,List.take_length,h3,mπ,List.cons_append,List.nil_append];rw[←mπ];exact hk _ _ _
  ·exact Le.no _
 ·refine Le.opt fun ys hy=>Le.grd fun h3=>?_
  unfold cR at h3;simp only[rH,oB,hy,List.isEmpty_nil,Bool.not_true,Bool.and_false,cond_false,List.length_nil,h3,cond_true,List.nil_append];rw[Nat.zero_add];exact hk _ _ _
 ·refine Le.opt fun ys hy=>Le.grd fun h3=>?_
  unfold cR at h3;simp only[rH,oB,Du,List.isEmpty_nil,Bool.or_true,cond_true,hy,Bool.not_true,Bool.and_false,cond_false,List.length_nil,h3,List.nil_append];rw[Nat.zero_add];exact hk _ _ _
 ·refine Le.grd fun h1=>Le.opt fun ys hy=>Le.two (fun h2=>?_) (fun h2=>Le.grd fun h3=>?_)
  ·rw[lδ]at h2;simp only[rH,oB,h1,cond_true,hy,List.isEmpty_nil,h2.1,h2.2,Bool.and_self];exact hk _ _ _
  ·unfold cR at h3;rw[Bool.and_comm]at h2;simp only[rH,oB,h1,cond_true,hy,List.isEmpty_nil,Bool.true_and,h2,cond_false,h3,List.nil_append];rw[←mπ];exact hk _ _ _
 ·exact gv hk _
theorem ab6 (dc:oQ)(esz bytes base kk:Nat)(vs:List D)(ids:List Nat)(obs:List Ob):Le (afv dc esz bytes base kk vs ids obs k) (ez (rH esz bytes base kk vs ids obs) k'):=by
 unfold afv;split
 ·refine Le.grd fun h1=>Le.opt fun ys hy=>Le.two (fun h2=>?_) (fun h2=>Le.grd fun h3=>?_)
  ·rw[lδ]at h2;simp only[rH,oB,h1,cond_true,hy,List.isEmpty_nil,h2.1,h2.2,Bool.and_self];exact hk _ _ _
  ·unfold cR at h3;rw[Bool.and_comm]at h2;simp only[rH,oB,h1,cond_true,hy,List.isEmpty_nil,Bool.true_and,h2,cond_false,h3,List.nil_append];rw[←mπ];exact hk _ _ _
 ·exact ab5 hk _ _ _ _ _ _ _ _
theorem ab8 (vs:List D)(ids:List Nat)(obs:List Ob):Le (afy vs ids obs k) (ez (VJ vs ids obs) k'):=by
 unfold afy;split
 ·refine Le.opt fun es he=>Le.opt fun s hs=>?_
  simp only[VJ,he,hs];exact hk _ _ _
 ·exact Le.no _
theorem EM {dc:oQ}(hd:dc.Ok){cc:af}{call:aL}(hc:bB cc call)(f:Nat)(args:List D)(ids:List Nat)(obs:List Ob)(len:Nat):Le (N1 dc cc f args ids obs len k) (ez (eP call f args ids obs len) k'):=by
 unfold N1;refine(hc f _ _ _ (fun r out=>iL (Nat.ble ids.length out.length) (k' (mapD (back ids.length len ids out.length) r) (ids.zip (out.map (ct (back ids.length len ids out.length)))) ((out.map (ct (back ids.length len ids out.length))).drop ids.length)) none) fun r out=>(hd.ca _ _ _ _ _).trans ?_).trans ?_
 ·rw[ic,pL];exact Le.grd fun h=>by simp only[h,iL];exact hk _ _ _
 ·rw[ku,pL,mt];unfold eP ez;cases call f (mapD.mapDL (idx ids) args) (obs.map (ct (idx ids)))with
  |none=>exact Le.no _
  |some p=>
   obtain⟨r,out⟩:=p;refine Le.grd fun h=>?_
   simp only[h,cond_true];exact Le.refl _
theorem V2 [Mv]{dc:oQ}(hd:dc.Ok){cc:af}{call:aL}(hc:bB cc call)(f:Nat)(args:List D)(ids:List Nat)(obs:List Ob)(len:Nat):Le (RK dc cc f args ids obs len k) (ez (xu call f args ids obs len) k'):=by
 unfold RK xu;cases Mv.mv f
 ·exact EM hk hd hc _ _ _ _ _
 simp only[cond_true];generalize hm:fA f (gM (lK ids) args) ids.length=m;refine(hc f _ _ _ (fun r out=>iL (Nat.ble m out.length) (k' (mapD (back m len ids out.length) r) ((ids.take m).zip (out.map (ct (back m len ids out.length)))++(ids.drop m).map fun i=>(i,.dead)) ((out.map (ct (back m len ids out.length))).drop m)) none) fun r out=>(hd.ca _ _ _ _ _).trans ?_).trans ?_
 ·rw[ic,pL];exact Le.grd fun h=>by simp only[h,iL];exact hk _ _ _
 ·rw[ku,mt]at hm;rw[ku,pL,mt,hm];unfold mo ez;cases call f (mapD.mapDL (idx ids) args) (obs.map (ct (idx ids)))with
  |none=>exact Le.no _
  |some p=>
   obtain⟨r,out⟩:=p;refine Le.grd fun h=>?_
   simp only[h,cond_true];exact Le.refl _
theorem V5 [Mv]{dc:oQ}(hd:dc.Ok){cc:af}{call:aL}(hc:bB cc call)(vs:List D)(ids:List Nat)(obs:List Ob)(len:Nat):Le (RM dc cc vs ids obs len k) (ez (EN call vs ids obs len) k'):=by
 unfold RM EN;split
 ·rename_i f caps args;simp only;cases Mv.mv (QD f)
  ·exact EM hk hd hc _ _ _ _ _
  ·exact Le.no _
 ·rename_i f caps args;simp only;cases Mv.mv (QD f)
  ·exact EM hk hd hc _ _ _ _ _
  ·exact Le.no _
 ·exact Le.no _
theorem abY [Mv]{dc:oQ}(hd:dc.Ok){cc:af}{call:aL}(hc:bB cc call)(base:Nat)(o:O)(kk:Nat)(vs:List D)(ids:List Nat)(obs:List Ob)(len:Nat):Le (afq dc cc base o kk vs ids obs len k) (ez (z8 call base o kk vs ids obs len) k'):=by
 unfold afq;split
 ·exact abd hk _
 ·exact acb hk _ _
 ·exact YW hk _ _ _
 ·exact agw hk hd _ _
 ·exact agC hk _
 ·exact W6 hk _ _ _
 ·exact abj hk _ _ _ _ _ _ _
 ·exact ad5 hk _ _ _ _
 ·exact aaN hk hd _ _ _ _
 ·exact Xc hk hd _ _ _ _
 ·exact adF hk hd _ _ _ _ _ _
 ·exact aaX hk _ _ _ _ _
 ·exact aaV hk _ _ _ _ _ _
 ·exact ab6 hk _ _ _ _ _ _ _ _
 ·exact ab8 hk _ _ _
 ·exact V2 hk hd hc _ _ _ _ _
 ·exact V5 hk hd hc _ _ _ _
 ·rename_i o' h1 h2 h3 h4 h5 h6 h7 h8 h9 h10 h11 h12 h13 h14 h15 h16;have e:qK (fun _ _ _=>none) base o kk vs ids obs len=z8 call base o kk vs ids obs len:=by
   cases o<;>first|rfl|exact absurd rfl (h15 _ _)|exact absurd rfl h16
  rw[e];exact gv hk _
end laws
end
end Go.Ab
end
section
namespace Go.Ab
open Go
noncomputable section
def gdL (x:eW)(tm:Tm)(t e:R):R:=
 match x.gd with
 |none=>t
 |some (g,w)=>match get tm g with
  | .p (.bool b)=>match w with
   |true=>iL b t e
   |false=>iL b e t
  | .tup []=>e
  |_=>none
theorem ags {x:eW}{tm:Tm}{t e X:R}(ht:dH x tm=some true→Le t X)(he:dH x tm=some false→Le e X):Le (gdL x tm t e) X:=by
 unfold gdL;split
 ·rename_i h;exact ht (by simp[dH,h])
 ·rename_i g w h;split
  ·rename_i b hb;have hg:dH x tm=some (b==w):=by simp[dH,h,hb]
   cases w
   ·exact Le.two (fun e=>he (by rw[hg,e];rfl)) (fun e=>ht (by rw[hg,e];rfl))
   ·exact Le.two (fun e=>ht (by rw[hg,e];rfl)) (fun e=>he (by rw[hg,e];rfl))
  ·rename_i hb;exact he (by simp[dH,h,hb])
  ·exact Le.no _
variable [Mv]
def BH (o:O)(vs:List D)(hp:List Ob):List Nat:=
 match o with
 | .call f _=>match Mv.mv f with
  |true=>iB hp bu ((pI (gJ vs []) []).flatMap fun i=>lR (bc hp i)) (pI (gJ vs []) [])
  |false=>iB hp bu (gJ vs []) []
 | .callv=>iB hp bu (gJ vs []) []
 |o=>bN o vs hp
theorem aa1 (o:O)(vs:List D)(hp:List Ob):BH o vs hp=dK o vs hp:=by
 cases o<;>first
  |rfl
  |(simp only[BH,fm,gu,mε,dK,bN];done)
  |(
    rename_i f raw;simp only[BH,fm,gu,mε,dK,Fa];cases Mv.mv f<;>rfl)
def SR (v:D)(k:D→R):R:=match v with
 | .p (.bool b)=>iL b (k (.p (.bool true))) (k (.p (.bool false)))
 |v=>k v
theorem W9 {v:D}{k:D→R}{X:R}(h:Le (k v) X):Le (SR v k) X:=by
 unfold SR;split
 ·rename_i b;cases b<;>exact h
 ·exact h
def abm (s:Bool)(v:D)(k:D→R):R:=match s with
 |true=>SR v k
 |false=>k v
theorem Xa {s:Bool}{v:D}{k:D→R}{X:R}(h:Le (k v) X):Le (abm s v k) X:=by
 cases s
 ·exact h
 ·exact W9 h
def aeB (d:Option Nat):List eW→Bool
 |[]=>false
 |x::r=>match d with
  |none=>false
  |some t=>(match x.gd with|some (g,_)=>Nat.beq g t|none=>false)||((match x.op,x.as with| .pick,.t g::_=>Nat.beq g t|_,_=>false)||aeB d r)
def opL (dc:oQ)(s:Bool)(cc:af)(base:Nat)(x:eW)(tm:Tm)(hp:List Ob)(k:D→List Ob→gz→R):R:=
 iL (!(cZ x.op)||cO (bc hp (base+x.k)))
  (afq dc cc base x.op x.k (x.as.map (ev tm)) (BH x.op (x.as.map (ev tm)) hp) ((BH x.op (x.as.map (ev tm)) hp).map (bc hp)) hp.length fun v ups new=>abm s v fun v=>
   k v (grow (aA hp ups) new) ⟨bif cZ x.op then(base+x.k)::BH x.op (x.as.map (ev tm)) hp else BH x.op (x.as.map (ev tm)) hp,A7 (BH x.op (x.as.map (ev tm)) hp) hp ups,!new.isEmpty,hp.length⟩) none
def ait (tm:Tm)(hp:List Ob)(k:K):R:=k tm hp
def aa8 (dc:oQ)(cc:af)(base:Nat):List eW→Tm→List Ob→List gz→(Tm→List Ob→List gz→R)→R
 |[],tm,hp,fs,k=>k tm hp fs.reverse
 |x::r,tm,hp,fs,k=>ait tm hp fun tm hp=>gdL x tm (opL dc (dc.spl||aeB x.dst r) cc base x tm hp fun v hp f=>aa8 dc cc base r (put x.dst v tm) hp (f::fs) k) (aa8 dc cc base r (put x.dst (.tup []) tm) hp (⟨[],[],false,0⟩::fs) k)
section
variable {dc:oQ} (hd:dc.Ok) {cc:af} {call:aL} (hc:bB cc call) {base:Nat}
include hd hc
theorem ag1 {s:Bool}{x:eW}{tm:Tm}{hp:List Ob}{k:D→List Ob→gz→R}{X:R}(h:∀v hp' fL,uq call base x ⟨tm,hp⟩=some (⟨put x.dst v tm,hp'⟩,cz fL)→Le (k v hp' fL) X):Le (opL dc s cc base x tm hp k) X:=by
 unfold opL;refine Le.grd fun hm=>(abY (fun _ _ _=>Le.refl _) hd hc _ _ _ _ _ _ _).trans ?_
 unfold ez;refine Le.opt fun e he=>?_
 obtain⟨v,ups,new⟩:=e;refine Xa (h v _ _ ?_);simp only[aa1]at he ⊢
 simp only[uq,hm,cond_true,he,cz,oP]
theorem LP:∀(ops:List eW) (tm:Tm) (hp:List Ob) (fs:List gz) (k:Tm→List Ob→List gz→R) (X:R),(∀tm' hp' fs',ek call base ops ⟨tm,hp⟩ (fs.map cz)=some (⟨tm',hp'⟩,fs'.map cz)→Le (k tm' hp' fs') X)→Le (aa8 dc cc base ops tm hp fs k) X
 |[],tm,hp,fs,k,X,h=>h _ _ _ (by simp only[ek,List.map_reverse])
 |x::r,tm,hp,fs,k,X,h=>by
  unfold aa8 ait;refine ags (fun hg=>ag1 hd hc fun v hp' fL he=>LP r _ _ _ _ _ fun tm' hp'' fs' hr=>h _ _ _ ?_) (fun hg=>LP r _ _ _ _ _ fun tm' hp'' fs' hr=>h _ _ _ ?_)
  ·simp only[ek,hg,he];exact hr
  ·simp only[ek,hg];exact hr
end
theorem EY {call:aL}{base:Nat}:∀{ops:List eW} {st st':St} {fs fs':List ew},ek call base ops st fs=some (st',fs')→oD call base ops st=some st'
 |[],st,st',fs,fs',h=>by
  simp only[ek,lα,lε]at h;simp only[oD,h.1]
 |x::r,st,st',fs,fs',h=>by
  simp only[ek]at h;simp only[oD];split at h
  ·cases h
  ·rename_i hg;split at h
   ·cases h
   ·rename_i he;exact EY h
  ·rename_i hg;exact EY h
abbrev JJ:=Ex→Tm→List Ob→R
def tt (o:Option (Ex×St))(J:JJ):R:=cL o fun p=>J p.1 p.2.tm p.2.hp
def JLe (J J':JJ):Prop:=∀ex tm hp,Le (J ex tm hp) (J' ex tm hp)
def exK (ex:Ex)(n:R)(e:Nat→R)(r:R):R:=Ex.rec (motive:=fun _=>R) n (fun i=>e i) r ex
def ahc (dc:oQ)(cc:af)(nal:Nat)(ops:List eW)(prs:Option (List (Nat×Nat)))(out:List Nat)(tm:Tm)(hp:List Ob)(J:JJ):R:=
 aa8 dc cc hp.length ops tm (grow hp (List.replicate nal .unborn)) [] fun tm hp fs=>match prs with
  |none=>J .norm (fq out id tm) hp
  |some ps=>iL (pG fs ps) (J .norm (fq out id tm) hp) none
theorem adZ {dc:oQ}(hd:dc.Ok){cc:af}{call:aL}(hc:bB cc call)(nal:Nat)(ops:List eW)(prs:Option (List (Nat×Nat)))(out:List Nat)(tm:Tm)(hp:List Ob){J J':JJ}(hJ:JLe J J')(n m:Nat):Le (ahc dc cc nal ops prs out tm hp J) (tt (cN call n m (.reg nal ops prs out) ⟨tm,hp⟩) J'):=by
 unfold ahc;refine LP hd hc _ _ _ _ _ _ fun tm' hp' fs' he=>?_
 split
 ·have h0:=EY he;simp only[cN,BA,h0,tt,cL];exact hJ _ _ _
 ·refine Le.grd fun ha=>?_
  rw[qL]at ha;simp only[List.map_nil]at he;simp only[cN,BA,he,ha,cond_true,tt,cL];exact hJ _ _ _
def kpL (m:Nat)(live:List Nat)(tm:Tm)(hp:List Ob)(k:K):R:=
 k (fq live (jT (lK (iB hp bu (gJ (live.map (get tm)) (kO m hp)) (List.range m)))) tm) (qY (iB hp bu (gJ (live.map (get tm)) (kO m hp)) (List.range m)) hp)
theorem Sc (m:Nat)(live:List Nat)(tm:Tm)(hp:List Ob):∃st,nH m (.keep live) ⟨tm,hp⟩=some st∧∀k,kpL m live tm hp k=k st.tm st.hp:=by
 refine⟨_,rfl,fun k=>?_⟩
 unfold kpL;have e:jT (lK (iB hp bu (gJ (live.map (get tm)) (kO m hp)) (List.range m)))=mapD (idx (cr hp bu (dids.didsL (live.map (get tm))++(hp.take m).flatMap lR) (List.range m))):=by
  funext d
  rw[ic,mt,fm,gu,kw]
 rw[e,nA,fm,gu,kw]
def ghL (m:Nat)(g:Gh)(tm:Tm)(hp:List Ob)(k:K):R:=
 match g with
 | .keep live=>kpL m live tm hp k
 |g=>cL (nH m g ⟨tm,hp⟩) fun st=>k st.tm st.hp
def ZD (d:D)(t e:R):R:=match d with| .p (.bool b)=>iL b t e|_=>none
abbrev cF:=Nat→Bool→Nat→List Nat→Co→Nat→Tm→List Ob→JJ→R
def ghD (lp:cF)(n m:Nat)(g:Gh)(c:Co)(p:Nat)(tm:Tm)(hp:List Ob)(J:JJ)(k:K):R:=
 match g with
 | .keep live=>lp p false m live c n tm hp J
 | .own s z=>ghL m (.own s z) tm hp k
 | .ownc s o z=>ghL m (.ownc s o z) tm hp k
 | .frz s=>ghL m (.frz s) tm hp k
 | .frzc s o=>ghL m (.frzc s o) tm hp k
def Cj (lp:cF)(dc:oQ)(cc:af)(n m:Nat)(c:Co):Nat→Tm→List Ob→JJ→R:=
 Co.rec (motive:=fun _=>Nat→Tm→List Ob→JJ→R)
  (fun _ tm hp J=>J .norm tm hp)
  (fun nal ops prs out _ tm hp J=>ahc dc cc nal ops prs out tm hp J)
  (fun _ _ a b p tm hp J=>a (4*p+1) tm hp fun ex tm hp=>exK ex (b (4*p+2) tm hp J) (fun i=>J (.exit i) tm hp) (J .ret tm hp))
  (fun x _ _ t e p tm hp J=>ZD (ev tm x) (t (4*p+1) tm hp J) (e (4*p+2) tm hp J))
  (fun id _ b p tm hp J=>b (4*p+3) tm hp fun ex tm hp=>exK ex (J .norm tm hp) (fun i=>iL (Nat.beq i id) (J .norm tm hp) (J (.exit i) tm hp)) (J .ret tm hp))
  (fun live b _ p tm hp J=>lp p true m live b n tm hp J)
  (fun id _ tm hp J=>J (.exit id) tm hp)
  (fun _ tm hp J=>J .ret tm hp)
  (fun g c b p tm hp J=>ghD lp n m g c p tm hp J fun tm hp=>b (4*p+3) tm hp J)
  c
def dj:Co→Nat→List (Nat×List Nat×Co×Bool)
 | .seq a b,p=>dj a (4*p+1)++dj b (4*p+2)
 | .cond _ a b,p=>dj a (4*p+1)++dj b (4*p+2)
 | .block _ b,p=>dj b (4*p+3)
 | .loop live b,p=>[(p,live,b,true)]
 | .gh (.keep live) b,p=>[(p,live,b,false)]
 | .gh _ b,p=>dj b (4*p+3)
 |_,_=>[]
def aiv (live:List Nat)(b:Co)(k:Bool):Co:=match k with|true=> .loop live b|false=> .gh (.keep live) b
def bp (lp:cF)(call:aL)(n m:Nat)(e:Nat×List Nat×Co×Bool):Prop:=
 ∀tm hp J J',JLe J J'→Le (lp e.1 e.2.2.2 m e.2.1 e.2.2.1 n tm hp J) (tt (cN call n m (aiv e.2.1 e.2.2.1 e.2.2.2) ⟨tm,hp⟩) J')
section
variable {lp:cF} {dc:oQ} (hd:dc.Ok) {cc:af} {call:aL} (hc:bB cc call) {n m:Nat}
include hd hc
theorem ir:∀(c:Co) (p:Nat) (tm:Tm) (hp:List Ob) (J J':JJ),(∀e∈dj c p,bp lp call n m e)→JLe J J'→Le (Cj lp dc cc n m c p tm hp J) (tt (cN call n m c ⟨tm,hp⟩) J')
 | .skip,p,tm,hp,J,J',hl,hJ=>hJ _ _ _
 | .ret,p,tm,hp,J,J',hl,hJ=>hJ _ _ _
 | .exit i,p,tm,hp,J,J',hl,hJ=>hJ _ _ _
 | .reg nal ops prs out,p,tm,hp,J,J',hl,hJ=>adZ hd hc nal ops prs out tm hp hJ n m
 | .seq a b,p,tm,hp,J,J',hl,hJ=>by
  have hl1:∀e∈dj a (4*p+1),bp lp call n m e:=fun e he=>hl e (List.mem_append_left _ he)
  have hl2:∀e∈dj b (4*p+2),bp lp call n m e:=fun e he=>hl e (List.mem_append_right _ he)
  refine(ir a (4*p+1) tm hp _ (fun ex tm hp=>exK ex (tt (cN call n m b ⟨tm,hp⟩) J') (fun i=>J' (.exit i) tm hp) (J' .ret tm hp)) hl1 ?_).trans ?_
  ·intro ex tm hp;cases ex with
   |norm=>exact ir b (4*p+2) tm hp J J' hl2 hJ
   |exit i=>exact hJ _ _ _
   |ret=>exact hJ _ _ _
  ·simp only[cN,tt];cases cN call n m a ⟨tm,hp⟩with
   |none=>exact Le.no _
   |some q=>
    obtain⟨ex,st⟩:=q;cases ex<;>exact Le.refl _
 | .cond x t e,p,tm,hp,J,J',hl,hJ=>by
  have hl1:∀e∈dj t (4*p+1),bp lp call n m e:=fun e he=>hl e (List.mem_append_left _ he)
  have hl2:∀e'∈dj e (4*p+2),bp lp call n m e':=fun e' he=>hl e' (List.mem_append_right _ he)
  show Le (ZD (ev tm x) (Cj lp dc cc n m t (4*p+1) tm hp J) (Cj lp dc cc n m e (4*p+2) tm hp J)) _;unfold ZD;simp only[cN];split
  ·rename_i b hb;refine Le.two (fun h=>?_) (fun h=>?_)
   ·subst h;simp only[hb];exact ir t _ tm hp J J' hl1 hJ
   ·subst h;simp only[hb];exact ir e _ tm hp J J' hl2 hJ
  ·exact Le.no _
 | .block id b,p,tm,hp,J,J',hl,hJ=>by
  refine(ir b (4*p+3) tm hp _ (fun ex tm hp=>exK ex (J' .norm tm hp) (fun i=>iL (Nat.beq i id) (J' .norm tm hp) (J' (.exit i) tm hp)) (J' .ret tm hp)) hl ?_).trans ?_
  ·intro ex tm hp;cases ex with
   |norm=>exact hJ _ _ _
   |exit i=>
    show Le (iL (Nat.beq i id) _ _) (iL (Nat.beq i id) _ _);cases Nat.beq i id<;>exact hJ _ _ _
   |ret=>exact hJ _ _ _
  ·simp only[cN,tt];cases cN call n m b ⟨tm,hp⟩with
   |none=>exact Le.no _
   |some q=>
    obtain⟨ex,st⟩:=q;cases ex with
    |norm=>exact Le.refl _
    |ret=>exact Le.refl _
    |exit i=>
     simp only[cL,exK];cases h:Nat.beq i id<;>simp only[iL,cond_true,cond_false]<;>exact Le.refl _
 | .loop live b,p,tm,hp,J,J',hl,hJ=>hl (p,live,b,true) (lυ ..) tm hp J J' hJ
 | .gh (.keep live) b,p,tm,hp,J,J',hl,hJ=>hl (p,live,b,false) (lυ ..) tm hp J J' hJ
 | .gh (.own s z) b,p,tm,hp,J,J',hl,hJ=>by
  show Le (cL (nH m (.own s z) ⟨tm,hp⟩) fun st=>Cj lp dc cc n m b (4*p+3) st.tm st.hp J) _;refine Le.opt fun st hs=>?_
  simp only[cN,hs];exact ir b (4*p+3) st.tm st.hp J J' hl hJ
 | .gh (.ownc s o z) b,p,tm,hp,J,J',hl,hJ=>by
  show Le (cL (nH m (.ownc s o z) ⟨tm,hp⟩) fun st=>Cj lp dc cc n m b (4*p+3) st.tm st.hp J) _;refine Le.opt fun st hs=>?_
  simp only[cN,hs];exact ir b (4*p+3) st.tm st.hp J J' hl hJ
 | .gh (.frz s) b,p,tm,hp,J,J',hl,hJ=>by
  show Le (cL (nH m (.frz s) ⟨tm,hp⟩) fun st=>Cj lp dc cc n m b (4*p+3) st.tm st.hp J) _;refine Le.opt fun st hs=>?_
  simp only[cN,hs];exact ir b (4*p+3) st.tm st.hp J J' hl hJ
 | .gh (.frzc s o) b,p,tm,hp,J,J',hl,hJ=>by
  show Le (cL (nH m (.frzc s o) ⟨tm,hp⟩) fun st=>Cj lp dc cc n m b (4*p+3) st.tm st.hp J) _;refine Le.opt fun st hs=>?_
  simp only[cN,hs];exact ir b (4*p+3) st.tm st.hp J J' hl hJ
def dZ {ST:Type}(S:(ST→R)→ST→R)(k:Nat)(st:ST):R:=Nat.rec (motive:=fun _=>ST→R) (fun _=>none) (fun _ ih st=>S ih st) k st
theorem T6 {ST:Type}{live:List Nat}{b:Co}{p:Nat}{dec:Tm→List Ob→(ST→R)→R}{tmO:ST→Tm}{hpO:ST→List Ob}{S:JJ→(ST→R)→ST→R}
  (hdec:∀tm hp (Y:ST→R) (X:K),(∀st,Le (Y st) (X (tmO st) (hpO st)))→Le (dec tm hp Y) (X tm hp))
  (hS:∀(J:JJ) (Y:ST→R) st,Cj lp dc cc n m b p (tmO st) (hpO st) (fun ex tm hp=>exK ex (kpL m live tm hp fun tm hp=>dec tm hp Y) (fun i=>J (.exit i) tm hp) (J .ret tm hp))=S J Y st)
  (hin:∀e∈dj b p,bp lp call n m e) {J J':JJ} (hJ:JLe J J'):∀(k:Nat) (tm:Tm) (hp:List Ob),
  Le (kpL m live tm hp fun tm hp=>dec tm hp fun st=>dZ (S J) k st) (tt (AE m (cN call n m b) live k ⟨tm,hp⟩) J')
 |0,tm,hp=>by
  obtain⟨st,_,h2⟩:=Sc m live tm hp;rw[h2];exact(hdec st.tm st.hp _ (fun _ _=>none) fun _=>Le.no _).trans (Le.no _)
 |k+1,tm,hp=>by
  obtain⟨st,h1,h2⟩:=Sc m live tm hp;rw[h2];have e:tt (AE m (cN call n m b) live (k+1) ⟨tm,hp⟩) J'=tt (cN call n m b st) (fun ex tm hp=>exK ex (tt (AE m (cN call n m b) live k ⟨tm,hp⟩) J') (fun i=>J' (.exit i) tm hp) (J' .ret tm hp)):=by
   simp only[AE,h1];cases cN call n m b st with
   |none=>rfl
   |some q=>
    obtain⟨ex,st'⟩:=q;cases ex<;>rfl
  rw[e];refine hdec st.tm st.hp _ (fun tm hp=>tt (cN call n m b ⟨tm,hp⟩) _) fun s=>?_
  have e2:dZ (S J) (k+1) s=S J (dZ (S J) k) s:=rfl;rw[e2,←hS];refine ir hd hc b p _ _ _ _ hin ?_;intro ex tm hp;cases ex with
  |norm=>exact T6 hdec hS hin hJ k tm hp
  |exit i=>exact hJ _ _ _
  |ret=>exact hJ _ _ _
end
def Sk {ST:Type}(q:Nat)(dec:Tm→List Ob→(ST→R)→R)(S:JJ→(ST→R)→ST→R)(lp:cF):cF:=fun p k m live b n tm hp J=>iL (Nat.beq p q) (kpL m live tm hp fun tm hp=>dec tm hp fun st=>dZ (S J) n st) (lp p k m live b n tm hp J)
def FA {ST:Type}(q:Nat)(dec:Tm→List Ob→(ST→R)→R)(S:JJ→ST→R)(lp:cF):cF:=fun p k m live b n tm hp J=>iL (Nat.beq p q) (kpL m live tm hp fun tm hp=>dec tm hp fun st=>S J st) (lp p k m live b n tm hp J)
def bk:cF:=fun _ _ _ _ _ _ _ _ _=>none
theorem WG {ST:Type}{q:Nat}{dec:Tm→List Ob→(ST→R)→R}{S:JJ→(ST→R)→ST→R}{lp:cF}{call:aL}{n m:Nat}{live:List Nat}{b:Co}
  (h:∀tm hp J J',JLe J J'→Le (kpL m live tm hp fun tm hp=>dec tm hp fun st=>dZ (S J) n st) (tt (AE m (cN call n m b) live n ⟨tm,hp⟩) J')):bp (Sk q dec S lp) call n m (q,live,b,true):=by
 intro tm hp J J' hJ;have:Sk q dec S lp q true m live b n tm hp J=kpL m live tm hp fun tm hp=>dec tm hp fun st=>dZ (S J) n st:=by
  show iL (Nat.beq q q) _ _=_;rw[Nat.beq_refl];rfl
 show Le (Sk q dec S lp q true m live b n tm hp J) _;rw[this];exact h tm hp J J' hJ
theorem lpCut_here {ST:Type}{q:Nat}{dec:Tm→List Ob→(ST→R)→R}{tmO:ST→Tm}{hpO:ST→List Ob}{S:JJ→ST→R}{lp:cF}{dc:oQ}(hd:dc.Ok){cc:af}{call:aL}(hc:bB cc call){n m:Nat}{live:List Nat}{b:Co}
  (hdec:∀tm hp (Y:ST→R) (X:K),(∀st,Le (Y st) (X (tmO st) (hpO st)))→Le (dec tm hp Y) (X tm hp))
  (hS:∀(J:JJ) st,Cj lp dc cc n m b (4*q+3) (tmO st) (hpO st) J=S J st)
  (hin:∀e∈dj b (4*q+3),bp lp call n m e):bp (FA q dec S lp) call n m (q,live,b,false):=by
 intro tm hp J J' hJ;have:FA q dec S lp q false m live b n tm hp J=kpL m live tm hp fun tm hp=>dec tm hp fun st=>S J st:=by
  show iL (Nat.beq q q) _ _=_;rw[Nat.beq_refl];rfl
 show Le (FA q dec S lp q false m live b n tm hp J) (tt (cN call n m (.gh (.keep live) b) ⟨tm,hp⟩) J');rw[this];obtain⟨st,h1,h2⟩:=Sc m live tm hp;rw[h2];simp only[cN,h1];refine hdec st.tm st.hp _ (fun tm hp=>tt (cN call n m b ⟨tm,hp⟩) J') fun s=>?_
 rw[←hS];exact ir hd hc b _ _ _ _ _ hin hJ
theorem Sl {ST:Type}{q:Nat}{dec:Tm→List Ob→(ST→R)→R}{S:JJ→(ST→R)→ST→R}{lp:cF}{call:aL}{n m:Nat}{e:Nat×List Nat×Co×Bool}(hq:Nat.beq e.1 q=false)(h:bp lp call n m e):bp (Sk q dec S lp) call n m e:=by
 intro tm hp J J' hJ;have:Sk q dec S lp e.1 e.2.2.2 m e.2.1 e.2.2.1 n tm hp J=lp e.1 e.2.2.2 m e.2.1 e.2.2.1 n tm hp J:=by
  show iL (Nat.beq e.1 q) _ _=_;rw[hq];rfl
 show Le (Sk q dec S lp e.1 e.2.2.2 m e.2.1 e.2.2.1 n tm hp J) _;rw[this];exact h tm hp J J' hJ
theorem O8 {ST:Type}{q:Nat}{dec:Tm→List Ob→(ST→R)→R}{S:JJ→ST→R}{lp:cF}{call:aL}{n m:Nat}{e:Nat×List Nat×Co×Bool}(hq:Nat.beq e.1 q=false)(h:bp lp call n m e):bp (FA q dec S lp) call n m e:=by
 intro tm hp J J' hJ;have:FA q dec S lp e.1 e.2.2.2 m e.2.1 e.2.2.1 n tm hp J=lp e.1 e.2.2.2 m e.2.1 e.2.2.1 n tm hp J:=by
  show iL (Nat.beq e.1 q) _ _=_;rw[hq];rfl
 show Le (FA q dec S lp e.1 e.2.2.2 m e.2.1 e.2.2.1 n tm hp J) _;rw[this];exact h tm hp J J' hJ
def ade (m:Nat)(fz:Bool)(res:List Rv)(tm:Tm)(hp:List Ob):R:=cL (nh ⟨tm,hp⟩ res) fun ds=>Prod.rec (motive:=fun _=>R) (fun ds hp=>some (jT (lK (iB hp bu (gJ ds (kO m hp)) (List.range m))) (one ds),qY (iB hp bu (gJ ds (kO m hp)) (List.range m)) hp)) (bif fz then ur hp ds else(ds,hp))
def ad2 (m:Nat)(lp:cF)(dc:oQ)(cc:af)(n:Nat)(x:Fx)(args:List D)(hp:List Ob):R:=
 Cj lp dc cc n m x.body 1 (fg args 0) hp fun ex tm hp'=>exK ex (ade m x.fz x.res tm hp') (fun _=>none) (ade m x.fz x.res tm hp')
theorem TO (m:Nat)(fz:Bool)(res:List Rv)(tm:Tm)(hp:List Ob):ade m fz res tm hp=match nh ⟨tm,hp⟩ res with
  |some ds=>some (fin m fz ds hp)
  |none=>none:=by
 unfold ade;cases nh ⟨tm,hp⟩ res with
 |none=>rfl
 |some ds=>
  simp only[cL,fin,ic,mt,fm,gu,kw,nA]
theorem ad3 {lp:cF}{dc:oQ}(hd:dc.Ok){cc:af}{call:aL}(hc:bB cc call){n:Nat}{x:Fx}{args:List D}{hp:List Ob}{m:Nat}(hl:∀e∈dj x.body 1,bp lp call n m e):Le (ad2 m lp dc cc n x args hp) (tB m call n x args hp):=by
 unfold ad2 tB;refine(ir hd hc x.body 1 _ _ _ _ hl fun _ _ _=>Le.refl _).trans ?_;unfold tt;cases cN call n m x.body ⟨fg args 0,hp⟩with
 |none=>exact Le.no _
 |some q=>
  obtain⟨ex,st⟩:=q;cases ex with
  |norm=>exact Le.of_eq (TO _ _ _ _ _)
  |ret=>exact Le.of_eq (TO _ _ _ _ _)
  |exit i=>exact Le.no _
def br (tab:Nat→Option Fn)(n:Nat):af:=fun f vs hp k=>cL (evFn tab n f vs hp) fun p=>k p.1 p.2
theorem aad (tab:Nat→Option Fn)(n:Nat):bB (br tab n) (evFn tab n):=by
 intro f vs hp k k' hk;unfold br;cases evFn tab n f vs hp with
 |none=>exact Le.no _
 |some p=>exact hk _ _
theorem ab {tab:Nat→Option Fn}{n f:Nat}{vs:List D}{hp:List Ob}{v:D}{out:List Ob}(h:evFn tab n f vs hp=some (v,out))(k:KV):br tab n f vs hp k=k v out:=by
 unfold br;rw[h];rfl
theorem ah7 {tab:Nat→Option Fn}{f n:Nat}{x:Fx}{lp:cF}{dc:oQ}(hd:dc.Ok){args:List D}{hp:List Ob}{F:R}(hx:tab f=some (.code x)){m:Nat}(hm:fA f args hp.length=m)(hl:∀e∈dj x.body 1,bp lp (evFn tab n) n m e)(h:ad2 m lp dc (br tab n) n x args hp=F):Le F (evFn tab (n+1) f args hp):=by
 subst h;have:evFn tab (n+1) f args hp=tB m (evFn tab n) n x args hp:=by simp only[evFn,hx,hm]
 rw[this];exact ad3 hd (aad tab n) hl
end
end Go.Ab
end
section
namespace Go.Ab
open Go
noncomputable section
variable [Mv]
structure Rd (T α:Type) where
 e:α→T
 d:T→(α→R)→R
 ok:∀(x:T) (k:α→R) (X:T→R),(∀a,Le (k a) (X (e a)))→Le (d x k) (X x)
namespace Rd
variable {T α β:Type}
def rm (r:Rd T α)(f:α→β)(g:β→α)(h:∀a,g (f a)=a:=by exact fun _=>rfl):Rd T β where
 e b:=r.e (g b)
 d x k:=r.d x fun a=>k (f a)
 ok x k X H:=r.ok x _ X fun a=>by
  have:=H (f a);rw[h a]at this;exact this
def I (i:IntKind):Rd Da Int:=⟨fun n=> .int i n,fun x k=>aU i x k,fun _ _ _ H=>bF fun n q=>by subst q;exact H n⟩
def S:Rd Da (List Nat):=⟨fun s=> .str s,fun x k=>j1 x k,fun _ _ _ H=>eM fun n q=>by subst q;exact H n⟩
def B:Rd Da Bool:=⟨fun s=> .bool s,fun x k=>az x k,fun _ _ _ H=>dS fun n q=>by subst q;exact H n⟩
def L (z:Nat):Rd Da (List Da):=⟨fun s=> .slice z s,fun x k=>qO z x k,fun _ _ _ H=>cn fun n q=>by subst q;exact H n⟩
def M:Rd Da (List Da×List Da):=⟨fun s=> .map s.1 s.2,fun x k=>We x fun a b=>k (a,b),fun _ _ _ H=>xz fun a b q=>by subst q;exact H (a,b)⟩
def X:Rd Da Da:=⟨fun x=>x,fun x k=>k x,fun x _ _ H=>H x⟩
def K (i:IntKind)(c:Int):Rd Da Unit:=⟨fun _=> .int i c,fun x k=>aeH i c x (k ()),fun _ _ _ H=>ZI fun q=>by subst q;exact H ()⟩
def C (c:Bool):Rd Da Unit:=⟨fun _=> .bool c,fun x k=>ZG c x (k ()),fun _ _ _ H=>Wd fun q=>by subst q;exact H ()⟩
def G (l:Rd (List Da) α):Rd Da α:=⟨fun a=> .agg (l.e a),fun x k=>rI x fun cs=>l.d cs k,fun _ _ X H=>dR fun cs q=>by subst q;exact l.ok cs _ (fun cs=>X (.agg cs)) H⟩
def FP (f:Nat)(l:Rd (List Da) α):Rd Da α:=⟨fun a=> .fn f (l.e a),fun x k=>ahY f x fun cs=>l.d cs k,fun _ _ X H=>acI fun cs q=>by subst q;exact l.ok cs _ (fun cs=>X (.fn f cs)) H⟩
def Nm:Rd Da Unit:=⟨fun _=> .nilmap,fun x k=>dNm x (k ()),fun _ _ _ H=>Kg fun q=>by subst q;exact H ()⟩
def P (r:Rd Da α):Rd D α:=⟨fun a=> .p (r.e a),fun x k=>dP x fun y=>r.d y k,fun _ _ X H=>bW fun y q=>by subst q;exact r.ok y _ (fun y=>X (.p y)) H⟩
def Bo (i o:Nat):Rd D Unit:=⟨fun _=> .box i o,fun x k=>RP i o x (k ()),fun _ _ _ H=>Kf fun q=>by subst q;exact H ()⟩
def Ar (i z:Nat):Rd D Nat:=⟨fun n=> .arr i 0 n z,fun x k=>Wc i z x k,fun _ _ _ H=>xy fun n q=>by subst q;exact H n⟩
def Av (i z:Nat):Rd D (Nat×Nat):=⟨fun p=> .arr i p.1 p.2 z,fun x k=>ZF i z x fun a b=>k (a,b),fun _ _ _ H=>N8 fun a b q=>by subst q;exact H (a,b)⟩
def Mp (i:Nat):Rd D Unit:=⟨fun _=> .map i,fun x k=>dMp i x (k ()),fun _ _ _ H=>vY fun q=>by subst q;exact H ()⟩
def Nl (z:Nat):Rd D Unit:=⟨fun _=> .sl .nil z [],fun x k=>dNl z x (k ()),fun _ _ _ H=>ZJ fun q=>by subst q;exact H ()⟩
def Ex (z:Nat):Rd D (List Da):=⟨fun es=> .sl .exact z es,fun x k=>dEx z x k,fun _ _ _ H=>af3 fun n q=>by subst q;exact H n⟩
def F (f:Nat)(l:Rd (List D) α):Rd D α:=⟨fun a=> .fn f (l.e a),fun x k=>dFn f x fun cs=>l.d cs k,fun _ _ X H=>ZH fun cs q=>by subst q;exact l.ok cs _ (fun cs=>X (.fn f cs)) H⟩
def Ob (l:Rd (List D) α):Rd Go.Ab.Ob α:=⟨fun a=> .box (l.e a),fun x k=>WP x fun cs=>l.d cs k,fun _ _ X H=>yn fun cs q=>by subst q;exact l.ok cs _ (fun cs=>X (.box cs)) H⟩
def Oa:Rd Go.Ab.Ob (List Da):=⟨fun s=> .arr s,fun x k=>Ln x k,fun _ _ _ H=>ue fun n q=>by subst q;exact H n⟩
def Om:Rd Go.Ab.Ob (List Da×List Da):=⟨fun s=> .map s.1 s.2,fun x k=>Ss x fun a b=>k (a,b),fun _ _ _ H=>uf fun a b q=>by subst q;exact H (a,b)⟩
def c (a:Rd T α)(r:Rd (List T) β):Rd (List T) (α×β):=⟨fun x=>a.e x.1::r.e x.2,fun l k=>aK l fun y t=>a.d y fun x=>r.d t fun z=>k (x,z),fun _ _ X H=>ao fun y t q=>by
 subst q;exact a.ok y _ (fun y=>X (y::t)) fun x=>r.ok t _ (fun t=>X (a.e x::t)) fun z=>H (x,z)⟩
def u (a:Rd T Unit)(r:Rd (List T) β):Rd (List T) β:=⟨fun x=>a.e ()::r.e x,fun l k=>aK l fun y t=>a.d y fun _=>r.d t k,fun _ _ X H=>ao fun y t q=>by
 subst q;exact a.ok y _ (fun y=>X (y::t)) fun x=>r.ok t _ (fun t=>X (a.e x::t)) fun z=>H z⟩
def n:Rd (List T) Unit:=⟨fun _=>[],fun l k=>aw l (k ()),fun _ _ _ H=>bI fun q=>by subst q;exact H ()⟩
def t (s:Nat)(a:Rd D α)(r:Rd (Tm×List Go.Ab.Ob) β):Rd (Tm×List Go.Ab.Ob) (α×β):=⟨fun x=>(.cons s (a.e x.1) (r.e x.2).1,(r.e x.2).2),fun st k=>abo s st.1 fun y t=>a.d y fun x=>r.d (t,st.2) fun z=>k (x,z),fun st _ X H=>by
 obtain⟨tm,hp⟩:=st;exact Qm fun y t q=>by
  dsimp only at q;subst q;exact a.ok y _ (fun y=>X (.cons s y t,hp)) fun x=>r.ok (t,hp) _ (fun st=>X (.cons s (a.e x) st.1,st.2)) fun z=>H (x,z)⟩
def v (s:Nat)(a:Rd D Unit)(r:Rd (Tm×List Go.Ab.Ob) β):Rd (Tm×List Go.Ab.Ob) β:=⟨fun x=>(.cons s (a.e ()) (r.e x).1,(r.e x).2),fun st k=>abo s st.1 fun y t=>a.d y fun _=>r.d (t,st.2) k,fun st _ X H=>by
 obtain⟨tm,hp⟩:=st;exact Qm fun y t q=>by
  dsimp only at q;subst q;exact a.ok y _ (fun y=>X (.cons s y t,hp)) fun x=>r.ok (t,hp) _ (fun st=>X (.cons s (a.e x) st.1,st.2)) fun z=>H z⟩
def h (l:Rd (List Go.Ab.Ob) α):Rd (Tm×List Go.Ab.Ob) α:=⟨fun x=>(.nil,l.e x),fun st k=>aiP st.1 (l.d st.2 k),fun st _ X H=>by
 obtain⟨tm,hp⟩:=st;exact ad8 fun q=>by
  dsimp only at q;subst q;exact l.ok hp _ (fun hp=>X (.nil,hp)) H⟩
end Rd
abbrev dA:=Tm×List Ob
def bM (c:Co)(p j:Nat):Co:=(((dj c p)[j]?).getD (0,[],.skip,true)).2.2.1
def MM (lp:cF)(call:aL)(n m:Nat):List (Nat×List Nat×Co×Bool)→Prop
 |[]=>True
 |e::r=>bp lp call n m e∧MM lp call n m r
theorem aq {lp:cF}{call:aL}{n m:Nat}:∀{l l':List (Nat×List Nat×Co×Bool)},l=l'→MM lp call n m l'→∀e∈l,bp lp call n m e
 |_,[],rfl,_=>fun _ h=>by cases h
 |_,_::_,rfl,⟨g,r⟩=>fun e h=>by
  rcases mγ.1 h with rfl|h
  ·exact g
  ·exact aq rfl r e h
theorem au {lp:cF}{call:aL}{n m:Nat}:MM lp call n m []:=trivial
theorem be {lp:cF}{call:aL}{n m:Nat}{e:Nat×List Nat×Co×Bool}{r:List (Nat×List Nat×Co×Bool)}(h:bp lp call n m e)(g:MM lp call n m r):MM lp call n m (e::r):=⟨h,g⟩
def eu {ST:Type}(q:Nat)(r:Rd dA ST)(S:JJ→(ST→R)→ST→R)(lp:cF):cF:=Sk q (fun tm hp Y=>r.d (tm,hp) Y) S lp
def T7 {ST:Type}(q:Nat)(r:Rd dA ST)(S:JJ→ST→R)(lp:cF):cF:=FA q (fun tm hp Y=>r.d (tm,hp) Y) S lp
section
variable {ST:Type} {q:Nat} {r:Rd dA ST} {lp:cF} {dc:oQ} {cc:af} {call:aL} {n m:Nat} {live:List Nat} {b:Co}
theorem aY {S:JJ→(ST→R)→ST→R}(hd:dc.Ok)(hc:bB cc call)
  (hS:∀(J:JJ) (Y:ST→R) st,Cj lp dc cc n m b q (r.e st).1 (r.e st).2 (fun ex tm hp=>exK ex (kpL m live tm hp fun tm hp=>r.d (tm,hp) Y) (fun i=>J (.exit i) tm hp) (J .ret tm hp))=S J Y st)
  (hin:∀e∈dj b q,bp lp call n m e):bp (eu q r S lp) call n m (q,live,b,true):=
 WG fun tm hp _ _ hJ=>T6 (tmO:=fun st=>(r.e st).1) (hpO:=fun st=>(r.e st).2) hd hc (fun tm hp Y X h=>r.ok (tm,hp) Y (fun st=>X st.1 st.2) h) hS hin hJ n tm hp
theorem lL {S:JJ→ST→R}(hd:dc.Ok)(hc:bB cc call)
  (hS:∀(J:JJ) st,Cj lp dc cc n m b (4*q+3) (r.e st).1 (r.e st).2 J=S J st)
  (hin:∀e∈dj b (4*q+3),bp lp call n m e):bp (T7 q r S lp) call n m (q,live,b,false):=
 lpCut_here (tmO:=fun st=>(r.e st).1) (hpO:=fun st=>(r.e st).2) hd hc (fun tm hp Y X h=>r.ok (tm,hp) Y (fun st=>X st.1 st.2) h) hS hin
theorem eU {S:JJ→(ST→R)→ST→R}{e:Nat×List Nat×Co×Bool}(hq:Nat.beq e.1 q=false)(h:bp lp call n m e):bp (eu q r S lp) call n m e:=Sl hq h
theorem dn {S:JJ→ST→R}{e:Nat×List Nat×Co×Bool}(hq:Nat.beq e.1 q=false)(h:bp lp call n m e):bp (T7 q r S lp) call n m e:=O8 hq h
end
end
end Go.Ab
end
section
namespace Go.Ab
open Go
noncomputable section
variable [Mv]
theorem aO (t e:R):iL true t e=t:=rfl
theorem aR (t e:R):iL false t e=e:=rfl
theorem cU (b:Bool)(t e:R):iL b t e=if b=true then t else e:=by cases b<;>rfl
theorem ep (p:Prop)[Decidable p](t e:R):iL (decide p) t e=if p then t else e:=by rw[cU];simp only[lη]
theorem co (p:Prop)[Decidable p](t e:R):iL (!decide p) t e=if p then e else t:=by
 rw[cU];by_cases h:p<;>simp[h]
theorem bf {α:Type}(x:α)(k:α→R):cL (some x) k=k x:=rfl
theorem aM {α β:Type}(f:α→β)(o:Option α)(k:β→R):cL (o.map f) k=cL o fun x=>k (f x):=by cases o<;>rfl
theorem SE (i:Nat)(e:R)(k:Nat→R):iV (some i) e k=k i:=rfl
theorem aa9 (e:R)(k:Nat→R):iV none e k=e:=rfl
theorem aW (a b:Int):av a b=decide (a=b):=by
 cases a<;>cases b<;>simp only[av]
 ·rw[mδ];simp;omega
 ·simp
 ·simp
 ·rw[mδ];simp
theorem lQ (a b:Int):aX a b=decide (a<b):=by
 cases a<;>cases b<;>simp only[aX]
 ·rw[mδ];simp[Nat.blt_eq]
 ·rw[mδ];simp;omega
 ·rw[mδ];simp;omega
 ·rw[mδ];simp[Nat.blt_eq];omega
theorem bE (a b:Int):bm a b=decide (a≤b):=by
 unfold bm;rw[lQ,mδ];simp
theorem de:∀a b:List Nat,aN a b=decide (a=b)
 |[],[]=>by simp[aN]
 |[],_::_=>by simp[aN]
 |_::_,[]=>by simp[aN]
 |x::a,y::b=>by
  simp only[aN,de a b];rw[mδ];cases h:Nat.beq x y
  ·have:x≠y:=fun e=>by rw[e,Nat.beq_refl]at h;cases h
   simp[this]
  ·have:=lζ h;simp[this]
theorem YR (a b:Nat):Nat.beq a b=decide (a=b):=by rw[mδ,Nat.beq_eq,lη]
theorem ig {n:Int}(h1: -9223372036854775808≤n)(h2:n<9223372036854775808):ag .i64 n=n:=by
 cases n with
 |ofNat m=>
  have:Nat.blt m 9223372036854775808=true:=by rw[Nat.blt_eq];exact Int.ofNat_lt.mp h2
  simp only[ag,this,cond_true]
 |negSucc m=>
  have:Nat.blt m 9223372036854775808=true:=by rw[Nat.blt_eq];omega
  simp only[ag,this,cond_true]
def jY {α:Type}(l:List α)(i:Int):Option α:=if 0≤i then l[i.toNat]? else none
theorem aE {α:Type}(f:α→Da)(l:List α)(i:Int):bx (l.map f) i=(jY l i).map f:=by
 unfold bx jY;rw[bE];by_cases h:0≤i<;>simp[h]
theorem oA {α:Type}(l:List α)(j:Nat):jY l (j:Int)=l[j]?:=by simp[jY]
theorem aI {α:Type}{l:List α}{j:Nat}(h:j<l.length):jY l (j:Int)=some l[j]:=by rw[oA,lγ h]
theorem cM {α:Type}(x:α)(l:List α):jY (x::l) 0=some x:=rfl
theorem bz (i:IntKind)(n:Int)(k:Int→R):aU i (.int i n) k=k n:=by cases i<;>rfl
theorem af6 (s:List Nat)(k:List Nat→R):j1 (.str s) k=k s:=rfl
theorem aD (b:Bool)(k:Bool→R):az (.bool b) k=k b:=rfl
theorem TC (z:Nat)(es:List Da)(k:List Da→R):qO z (.slice z es) k=k es:=by
 show iL (Nat.beq z z) _ _=_;rw[Nat.beq_refl];rfl
theorem ba (x:Da)(k:Da→R):dP (.p x) k=k x:=rfl
theorem bH (ds:List D)(k:List D→R):bd (.tup ds) k=k ds:=rfl
theorem ec {α:Type}(x:α)(l:List α)(k:α→List α→R):aK (x::l) k=k x l:=rfl
theorem aC {α:Type}(k:R):aw ([]:List α) k=k:=rfl
theorem IA {α:Type}(xs:List α)(L:Nat→Int→R)(p:α→Bool)(hit:Nat→R)(out:R)
  (hs:∀q i (h:i<xs.length),L (q+1) (i:Int)=if p xs[i]=true then hit i else L q ((i+1:Nat):Int)) (he:∀q,L (q+1) (xs.length:Int)=out):
  ∀(d q i:Nat),i+d=xs.length→d<q→L q (i:Int)=match (xs.drop i).findIdx? p with|some j=>hit (i+j)|none=>out
 |0,q+1,i,h,_=>by
  obtain rfl:i=xs.length:=by omega
  rw[List.drop_length];exact he q
 |d+1,q+1,i,h,hq=>by
  have hi:i<xs.length:=by omega
  rw[hs q i hi,lξ hi,mτ];cases hp:p xs[i]
  ·simp only[Bool.false_eq_true,if_false];rw[IA xs L p hit out hs he d q (i+1) (by omega) (by omega)];cases(xs.drop (i+1)).findIdx? p with
   |none=>rfl
   |some j=>simp only[Option.map_some];rw[show i+1+j=i+(j+1) by omega]
  ·simp only[if_true,Nat.add_zero]
theorem aT {α:Type}(xs:List α)(L:Nat→Int→R)(p:α→Bool)(hit:Nat→R)(out:R)
  (hs:∀q i (h:i<xs.length),L (q+1) (i:Int)=if p xs[i]=true then hit i else L q ((i+1:Nat):Int)) (he:∀q,L (q+1) (xs.length:Int)=out) {q:Nat} (hq:xs.length<q):
  L q 0=match xs.findIdx? p with|some j=>hit j|none=>out:=by
 have:=IA xs L p hit out hs he xs.length q 0 (by omega) hq;simpa using this
end
end Go.Ab
end
