import Derived.Test.YtlfhmmbmjkadiaaGreatDoorAm3
set_option linter.all false
section
namespace Go.Ab
open Go
noncomputable section
abbrev LD:=List Da
abbrev LN:=List Nat
def Le (a b:R):Prop:=∀r,a=some r→b=some r
theorem Le.refl (a:R):Le a a:=fun _ h=>h
theorem Le.no (b:R):Le none b:=fun _ h=>by cases h
theorem Le.trans {a b c:R}(h:Le a b)(g:Le b c):Le a c:=fun r e=>g r (h r e)
theorem Le.of_eq {a b:R}(h:a=b):Le a b:=by rw[h];exact Le.refl b
def iL (b:Bool)(t e:R):R:=Bool.rec (motive:=fun _=>R) e t b
def cL {α:Type}(o:Option α)(k:α→R):R:=Option.rec (motive:=fun _=>R) none (fun x=>k x) o
theorem Le.grd {b:Bool}{t t':R}(h:b=true→Le t t'):Le (iL b t none) t':=by
 cases b
 ·exact Le.no _
 ·exact h rfl
theorem Le.two {b:Bool}{t e x:R}(h:b=true→Le t x)(g:b=false→Le e x):Le (iL b t e) x:=by
 cases b
 ·exact g rfl
 ·exact h rfl
theorem Le.opt {α:Type}{o:Option α}{k:α→R}{x:R}(h:∀a,o=some a→Le (k a) x):Le (cL o k) x:=by
 cases o
 ·exact Le.no _
 ·exact h _ rfl
def aQ (i:IntKind)(x:Da)(k:Int→R):R:=match x with| .int j n=>iL (Nat.beq (kc j) (kc i)) (k n) none|_=>none
def gZ (x:Da)(k:List Nat→R):R:=match x with| .str s=>k s|_=>none
def az (x:Da)(k:Bool→R):R:=match x with| .bool b=>k b|_=>none
def gj (z:Nat)(x:Da)(k:List Da→R):R:=match x with| .slice y es=>iL (Nat.beq y z) (k es) none|_=>none
def j5 (x:Da)(k:List Da→R):R:=match x with| .agg cs=>k cs|_=>none
def rK (x:Da)(k:List Da→List Da→R):R:=match x with| .map ks vs=>k ks vs|_=>none
def au {α:Type}(l:List α)(k:α→List α→R):R:=match l with|x::r=>k x r|[]=>none
def aq {α:Type}(l:List α)(k:R):R:=match l with|_::_=>none|[]=>k
def dP (d:D)(k:Da→R):R:=match d with| .p x=>k x|_=>none
def aY (d:D)(k:List D→R):R:=match d with| .tup ds=>k ds|_=>none
def GJ (id off:Nat)(d:D)(k:R):R:=match d with| .box i o=>iL (Nat.beq i id) (iL (Nat.beq o off) k none) none|_=>none
def Wh (id z:Nat)(d:D)(k:Nat→R):R:=match d with| .arr i lo len y=>iL (Nat.beq i id) (iL (Nat.beq lo 0) (iL (Nat.beq y z) (k len) none) none) none|_=>none
def aeR (id z:Nat)(d:D)(k:Nat→Nat→R):R:=match d with| .arr i lo len y=>iL (Nat.beq i id) (iL (Nat.beq y z) (k lo len) none) none|_=>none
def dMp (id:Nat)(d:D)(k:R):R:=match d with| .map i=>iL (Nat.beq i id) k none|_=>none
def dNl (z:Nat)(d:D)(k:R):R:=match d with| .sl .nil y []=>iL (Nat.beq y z) k none|_=>none
def dEx (z:Nat)(d:D)(k:List Da→R):R:=match d with| .sl .exact y es=>iL (Nat.beq y z) (k es) none|_=>none
def dFn (f:Nat)(d:D)(k:List D→R):R:=match d with| .fn g cs=>iL (Nat.beq g f) (k cs) none|_=>none
def WN (o:Ob)(k:List D→R):R:=match o with| .box cs=>k cs|_=>none
def O4 (o:Ob)(k:List Da→R):R:=match o with| .arr es=>k es|_=>none
def oFz (o:Ob)(k:List Da→R):R:=match o with| .fz es=>k es|_=>none
def Sa (o:Ob)(k:List Da→List Da→R):R:=match o with| .map ks vs=>k ks vs|_=>none
def ah8 (o:Ob)(k:List Da→List Da→R):R:=match o with| .fzm ks vs=>k ks vs|_=>none
def afb (o:Ob)(k:R):R:=match o with| .dead=>k|_=>none
def aeT (i:IntKind)(c:Int)(x:Da)(k:R):R:=match x with| .int j n=>iL (Nat.beq (kc j) (kc i)) (iL (aB n c) k none) none|_=>none
def ZC (c:Bool)(x:Da)(k:R):R:=match x,c with| .bool true,true=>k| .bool false,false=>k|_,_=>none
def ahG (d:D)(k:List D→R):R:=match d with| .agg cs=>k cs|_=>none
def dNp (x:Da)(k:R):R:=match x with| .nilptr=>k|_=>none
def NL (x:Da)(k:R):R:=match x with| .nilmap=>k|_=>none
def ahH (f:Nat)(x:Da)(k:List Da→R):R:=match x with| .fn g cs=>iL (Nat.beq g f) (k cs) none|_=>none
def abn (s:Nat)(tm:Tm)(k:D→Tm→R):R:=match tm with| .cons t d r=>iL (Nat.beq t s) (k d r) none| .nil=>none
def ain (tm:Tm)(k:R):R:=match tm with| .cons _ _ _=>none| .nil=>k
section
variable {x:Da} {d:D} {o:Ob} {tm:Tm} {z:Nat} {Z:R}
theorem aat {i j:IntKind}(h:Nat.beq (kc j) (kc i)=true):j=i:=by
 rw[aas,lη]at h;exact h
theorem Z3 {a b:Int}(h:aB a b=true):a=b:=by
 cases a<;>cases b<;>simp only[aB,Bool.false_eq_true]at h
 ·rw[lθ h]
 ·rw[lθ h]
theorem bg {i:IntKind}{k:Int→R}(h:∀n,x= .int i n→Le (k n) Z):Le (aQ i x k) Z:=by
 cases x<;>first|exact Le.no _|skip
 exact Le.grd fun e0=>h _ (by rw[aat e0])
theorem dr {k:List Nat→R}(h:∀s,x= .str s→Le (k s) Z):Le (gZ x k) Z:=by
 cases x<;>first|exact Le.no _|exact h _ rfl
theorem cj {k:Bool→R}(h:∀s,x= .bool s→Le (k s) Z):Le (az x k) Z:=by
 cases x<;>first|exact Le.no _|exact h _ rfl
theorem bX {k:List Da→R}(h:∀s,x= .slice z s→Le (k s) Z):Le (gj z x k) Z:=by
 cases x<;>first|exact Le.no _|skip
 exact Le.grd fun e0=>h _ (by rw[lθ e0])
theorem dq {k:List Da→R}(h:∀s,x= .agg s→Le (k s) Z):Le (j5 x k) Z:=by
 cases x<;>first|exact Le.no _|exact h _ rfl
theorem xg {k:List Da→List Da→R}(h:∀s t,x= .map s t→Le (k s t) Z):Le (rK x k) Z:=by
 cases x<;>first|exact Le.no _|exact h _ _ rfl
theorem ag {α:Type}{l:List α}{k:α→List α→R}(h:∀a r,l=a::r→Le (k a r) Z):Le (au l k) Z:=by
 cases l<;>first|exact Le.no _|exact h _ _ rfl
theorem bj {α:Type}{l:List α}{k:R}(h:l=[]→Le k Z):Le (aq l k) Z:=by
 cases l<;>first|exact Le.no _|exact h rfl
theorem bc {k:Da→R}(h:∀y,d= .p y→Le (k y) Z):Le (dP d k) Z:=by
 cases d<;>first|exact Le.no _|exact h _ rfl
theorem cC {k:List D→R}(h:∀y,d= .tup y→Le (k y) Z):Le (aY d k) Z:=by
 cases d<;>first|exact Le.no _|exact h _ rfl
theorem JV {id off:Nat}{k:R}(h:d= .box id off→Le k Z):Le (GJ id off d k) Z:=by
 cases d<;>first|exact Le.no _|skip
 exact Le.grd fun e0=>Le.grd fun e1=>h (by rw[lθ e0,lθ e1])
theorem xf {id:Nat}{k:Nat→R}(h:∀len,d= .arr id 0 len z→Le (k len) Z):Le (Wh id z d k) Z:=by
 cases d<;>first|exact Le.no _|skip
 exact Le.grd fun e0=>Le.grd fun e1=>Le.grd fun e2=>h _ (by rw[lθ e0,lθ e1,lθ e2])
theorem ZB {id:Nat}{k:Nat→Nat→R}(h:∀lo len,d= .arr id lo len z→Le (k lo len) Z):Le (aeR id z d k) Z:=by
 cases d<;>first|exact Le.no _|skip
 exact Le.grd fun e0=>Le.grd fun e1=>h _ _ (by rw[lθ e0,lθ e1])
theorem vI {id:Nat}{k:R}(h:d= .map id→Le k Z):Le (dMp id d k) Z:=by
 cases d<;>first|exact Le.no _|skip
 exact Le.grd fun e0=>h (by rw[lθ e0])
theorem ZF {k:R}(h:d= .sl .nil z []→Le k Z):Le (dNl z d k) Z:=by
 unfold dNl;split
 ·exact Le.grd fun e=>h (by rw[lθ e])
 ·exact Le.no _
theorem agm {k:List Da→R}(h:∀es,d= .sl .exact z es→Le (k es) Z):Le (dEx z d k) Z:=by
 unfold dEx;split
 ·exact Le.grd fun e=>h _ (by rw[lθ e])
 ·exact Le.no _
theorem ZD {f:Nat}{k:List D→R}(h:∀es,d= .fn f es→Le (k es) Z):Le (dFn f d k) Z:=by
 cases d<;>first|exact Le.no _|skip
 exact Le.grd fun e0=>h _ (by rw[lθ e0])
theorem yc {k:List D→R}(h:∀y,o= .box y→Le (k y) Z):Le (WN o k) Z:=by
 cases o<;>first|exact Le.no _|exact h _ rfl
theorem yb {k:List Da→R}(h:∀y,o= .arr y→Le (k y) Z):Le (O4 o k) Z:=by
 cases o<;>first|exact Le.no _|exact h _ rfl
theorem ag9 {k:List Da→R}(h:∀y,o= .fz y→Le (k y) Z):Le (oFz o k) Z:=by
 cases o<;>first|exact Le.no _|exact h _ rfl
theorem ua {k:List Da→List Da→R}(h:∀s t,o= .map s t→Le (k s t) Z):Le (Sa o k) Z:=by
 cases o<;>first|exact Le.no _|exact h _ _ rfl
theorem aee {k:List Da→List Da→R}(h:∀s t,o= .fzm s t→Le (k s t) Z):Le (ah8 o k) Z:=by
 cases o<;>first|exact Le.no _|exact h _ _ rfl
theorem aa0 {k:R}(h:o= .dead→Le k Z):Le (afb o k) Z:=by
 cases o<;>first|exact Le.no _|exact h rfl
theorem ZE {i:IntKind}{c:Int}{k:R}(h:x= .int i c→Le k Z):Le (aeT i c x k) Z:=by
 cases x<;>first|exact Le.no _|skip
 exact Le.grd fun e0=>Le.grd fun e1=>h (by rw[aat e0,Z3 e1])
theorem Wi {c:Bool}{k:R}(h:x= .bool c→Le k Z):Le (ZC c x k) Z:=by
 cases x<;>first|exact Le.no _|skip
 rename_i b;cases b<;>cases c<;>first|exact Le.no _|exact h rfl
theorem ac9 {k:List D→R}(h:∀y,d= .agg y→Le (k y) Z):Le (ahG d k) Z:=by
 cases d<;>first|exact Le.no _|exact h _ rfl
theorem ZG {k:R}(h:x= .nilptr→Le k Z):Le (dNp x k) Z:=by
 cases x<;>first|exact Le.no _|exact h rfl
theorem JW {k:R}(h:x= .nilmap→Le k Z):Le (NL x k) Z:=by
 cases x<;>first|exact Le.no _|exact h rfl
theorem ada {f:Nat}{k:List Da→R}(h:∀es,x= .fn f es→Le (k es) Z):Le (ahH f x k) Z:=by
 cases x<;>first|exact Le.no _|skip
 exact Le.grd fun e0=>h _ (by rw[lθ e0])
theorem P5 {s:Nat}{k:D→Tm→R}(h:∀d r,tm= .cons s d r→Le (k d r) Z):Le (abn s tm k) Z:=by
 cases tm<;>first|exact Le.no _|skip
 exact Le.grd fun e=>h _ _ (by rw[lθ e])
theorem aes {k:R}(h:tm= .nil→Le k Z):Le (ain tm k) Z:=by
 cases tm<;>first|exact Le.no _|exact h rfl
end
mutual
def fy:Da→Da→(Da→R)→R
 | .int i _,x,k=>aQ i x fun n=>k (.int i n)
 | .str _,x,k=>gZ x fun s=>k (.str s)
 | .bool _,x,k=>az x fun b=>k (.bool b)
 | .slice z _,x,k=>gj z x fun l=>k (.slice z l)
 | .map _ _,x,k=>rK x fun a b=>k (.map a b)
 | .agg cs,x,k=>j5 x fun ds=>xW cs ds fun es=>k (.agg es)
 | .nilptr,x,k=>dNp x (k .nilptr)
 | .nilmap,x,k=>NL x (k .nilmap)
 |_,x,k=>k x
def xW:List Da→List Da→(List Da→R)→R
 |[],l,k=>aq l (k [])
 |s::r,l,k=>au l fun x t=>fy s x fun x=>xW r t fun t=>k (x::t)
end
mutual
def nk:D→D→(D→R)→R
 | .p s,d,k=>dP d fun x=>fy s x fun x=>k (.p x)
 | .box i o,d,k=>GJ i o d (k (.box i o))
 | .arr i 0 _ z,d,k=>Wh i z d fun n=>k (.arr i 0 n z)
 | .map i,d,k=>dMp i d (k (.map i))
 | .sl .nil z [],d,k=>dNl z d (k (.sl .nil z []))
 | .fn f cs,d,k=>dFn f d fun ds=>vX cs ds fun es=>k (.fn f es)
 | .agg cs,d,k=>ahG d fun ds=>vX cs ds fun es=>k (.agg es)
 |_,d,k=>k d
def vX:List D→List D→(List D→R)→R
 |[],l,k=>aq l (k [])
 |s::r,l,k=>au l fun x t=>nk s x fun x=>vX r t fun t=>k (x::t)
end
def aaC (s o:Ob)(k:Ob→R):R:=
 match s with
 | .box cs=>WN o fun ds=>vX cs ds fun es=>k (.box es)
 | .arr _=>O4 o fun l=>k (.arr l)
 | .fz _=>oFz o fun l=>k (.fz l)
 | .map _ _=>Sa o fun a b=>k (.map a b)
 | .fzm _ _=>ah8 o fun a b=>k (.fzm a b)
 | .dead=>afb o (k .dead)
 |_=>k o
def bZ:List Ob→List Ob→(List Ob→R)→R
 |[],l,k=>aq l (k [])
 |s::r,l,k=>au l fun x t=>aaC s x fun x=>bZ r t fun t=>k (x::t)
mutual
theorem Ia:∀(s x:Da) {k:Da→R} {Z:R},Le (k x) Z→Le (fy s x k) Z
 | .int i _,x,k,Z,h=>by simp only[fy];exact bg fun n e=>by subst e;exact h
 | .str _,x,k,Z,h=>by simp only[fy];exact dr fun n e=>by subst e;exact h
 | .bool _,x,k,Z,h=>by simp only[fy];exact cj fun n e=>by subst e;exact h
 | .slice z _,x,k,Z,h=>by simp only[fy];exact bX fun n e=>by subst e;exact h
 | .map _ _,x,k,Z,h=>by simp only[fy];exact xg fun a b e=>by subst e;exact h
 | .agg cs,x,k,Z,h=>by simp only[fy];exact dq fun ds e=>by subst e;exact E8 cs ds h
 | .nilptr,x,k,Z,h=>by simp only[fy];exact ZG fun e=>by subst e;exact h
 | .ptr _,x,k,Z,h=>by simp only[fy];exact h
 | .nilmap,x,k,Z,h=>by simp only[fy];exact JW fun e=>by subst e;exact h
 | .fn _ _,x,k,Z,h=>by simp only[fy];exact h
 | .nilfn,x,k,Z,h=>by simp only[fy];exact h
 | .iface _ _,x,k,Z,h=>by simp only[fy];exact h
 | .nilif,x,k,Z,h=>by simp only[fy];exact h
 | .sliceE _ _,x,k,Z,h=>by simp only[fy];exact h
 | .sym _ _,x,k,Z,h=>by simp only[fy];exact h
theorem E8:∀(s l:List Da) {k:List Da→R} {Z:R},Le (k l) Z→Le (xW s l k) Z
 |[],l,k,Z,h=>by simp only[xW];exact bj fun e=>by subst e;exact h
 |s::r,l,k,Z,h=>by simp only[xW];exact ag fun x t e=>by subst e;exact Ia s x (E8 r t h)
end
mutual
theorem aaB:∀(s d:D) {k:D→R} {Z:R},Le (k d) Z→Le (nk s d k) Z
 | .p s,d,k,Z,h=>by simp only[nk];exact bc fun n e=>by subst e;exact Ia s n h
 | .box i o,d,k,Z,h=>by simp only[nk];exact JV fun e=>by subst e;exact h
 | .arr i 0 _ z,d,k,Z,h=>by simp only[nk];exact xf fun n e=>by subst e;exact h
 | .arr i (_+1) _ z,d,k,Z,h=>by simp only[nk];exact h
 | .map i,d,k,Z,h=>by simp only[nk];exact vI fun e=>by subst e;exact h
 | .sl g z es,d,k,Z,h=>by
  unfold nk;split<;>first
   |contradiction
   |exact h
   |(rename_i e;cases e;exact ZF fun e=>by subst e;exact h)
 | .fn f cs,d,k,Z,h=>by simp only[nk];exact ZD fun ds e=>by subst e;exact t9 cs ds h
 | .agg cs,d,k,Z,h=>by simp only[nk];exact ac9 fun ds e=>by subst e;exact t9 cs ds h
 | .tup _,d,k,Z,h=>by simp only[nk];exact h
 | .el _ _ _,d,k,Z,h=>by simp only[nk];exact h
 | .ip _ _,d,k,Z,h=>by simp only[nk];exact h
 | .iface _ _,d,k,Z,h=>by simp only[nk];exact h
 | .junk,d,k,Z,h=>by simp only[nk];exact h
theorem t9:∀(s l:List D) {k:List D→R} {Z:R},Le (k l) Z→Le (vX s l k) Z
 |[],l,k,Z,h=>by simp only[vX];exact bj fun e=>by subst e;exact h
 |s::r,l,k,Z,h=>by simp only[vX];exact ag fun x t e=>by subst e;exact aaB s x (t9 r t h)
end
theorem WI (s o:Ob){k:Ob→R}{Z:R}(h:Le (k o) Z):Le (aaC s o k) Z:=by
 cases s<;>first
  |exact h
  |exact yc fun ds e=>by subst e;exact t9 _ ds h
  |exact yb fun n e=>by subst e;exact h
  |exact ag9 fun n e=>by subst e;exact h
  |exact ua fun a b e=>by subst e;exact h
  |exact aee fun a b e=>by subst e;exact h
  |exact aa0 fun e=>by subst e;exact h
theorem bo:∀(s l:List Ob) {k:List Ob→R} {Z:R},Le (k l) Z→Le (bZ s l k) Z
 |[],l,k,Z,h=>by simp only[bZ];exact bj fun e=>by subst e;exact h
 |s::r,l,k,Z,h=>by simp only[bZ];exact ag fun x t e=>by subst e;exact WI s x (bo r t h)
structure rM where
 el:Nat→Da→(Da→R)→R
 ca:Nat→List Ob→D→List Ob→KV→R
 mv:D→Da→(Da→R)→R
 keys:Bool
 spl:Bool
structure rM.Ok (dc:rM):Prop where
 el:∀z x k,Le (dc.el z x k) (k x)
 ca:∀f hi v hp k,Le (dc.ca f hi v hp k) (k v hp)
 mv:∀z x k,Le (dc.mv z x k) (k x)
abbrev ae:=Nat→List D→List Ob→KV→R
def bC (cc:ae)(call:aN):Prop:=∀f vs hp (k k':KV),(∀v out,Le (k v out) (k' v out))→Le (cc f vs hp k) (cL (call f vs hp) fun p=>k' p.1 p.2)
abbrev KE:=D→List (Nat×Ob)→List Ob→R
def eV (o:Option gC)(k:KE):R:=cL o fun e=>k e.1 e.2.1 e.2.2
def aa7 (vs:List D)(k:KE):R:=match vs with|[.p (.bool c),a,b]=>iL c (k a [] []) (k b [] [])|_=>none
def afC (op:BinOp)(vs:List D)(k:KE):R:=
 match vs with
 |[.p (.int i a),.p (.int j b)]=>match op with
  | .quo=>iL (aB b 0) none (eV (nD (bin .quo (.p (.int i a)) (.p (.int j b)))) k)
  | .rem=>iL (aB b 0) none (eV (nD (bin .rem (.p (.int i a)) (.p (.int j b)))) k)
  | .shl=>iL (aU b 0) none (k (.p (.int i (aj i (a*2 ^ (min b.toNat i.bits))))) [] [])
  | .shr=>iL (aU b 0) none (k (.p (.int i (a.fdiv (2 ^ (min b.toNat i.bits))))) [] [])
  |op=>eV (nD (bin op (.p (.int i a)) (.p (.int j b)))) k
 |[.p (.str a),.p (.str b)]=>match op with
  | .add=>iL (Nat.ble (a.length+b.length) ra) (k (.p (.str (a++b))) [] []) none
  |op=>eV (nD (bin op (.p (.str a)) (.p (.str b)))) k
 |[x,y]=>eV (nD (bin op x y)) k
 |_=>none
def ls:List Nat→List Da→List Da→(Bool→R)→R
 |[],_,_,k=>k true
 |c::ks,x::xs,y::ys,k=>cL (Ad c x y) fun b=>iL b (ls ks xs ys k) (k false)
 |_,_,_,_=>none
def YB (ks:List Nat)(op:BinOp)(vs:List D)(k:KE):R:=
 match vs with
 |[.p (.agg xs),.p (.agg ys)]=>match op with
  | .eql=>ls ks xs ys fun b=>k (.p (.bool b)) [] []
  | .neq=>ls ks xs ys fun b=>k (.p (.bool (!b))) [] []
  |_=>none
 |_=>none
def iaL (dc:rM)(esz:Nat)(vs:List D)(k:KE):R:=
 match vs with
 |[.p (.slice z es),.p (.int _ i)]=>iL (Nat.beq z esz) (cL (bw es i) fun x=>dc.el esz x fun x=>k (.ip x 0) [] []) none
 |[.p (.sliceE z es),.p (.int _ i)]=>iL (Nat.beq z esz) (cL (bw es i) fun x=>dc.el esz x fun x=>k (.ip x 0) [] []) none
 |[.sl _ z es,.p (.int _ i)]=>iL (Nat.beq z esz) (cL (bw es i) fun x=>dc.el esz x fun x=>k (.ip x 0) [] []) none
 |[.arr id lo len z,.p (.int _ i)]=>iL (Nat.beq z esz) (iL (bx 0 i) (iL (aU i len) (k (.el id (lo+i.toNat) 0) [] []) none) none) none
 |_=>none
def ixL (vs:List D)(k:KE):R:=
 match vs with
 |[.p (.str s),.p (.int _ i)]=>cL (bif bx 0 i then s[i.toNat]? else none) fun b=>k (.p (.int .u8 (Int.ofNat b))) [] []
 |_=>none
def mU (x:D)(y:Nat)(k:Nat→R):R:=match x with| .p (.int _ i)=>iL (bx 0 i) (iL (bx i y) (k i.toNat) none) none|_=>none
def qL (lo hi mx:Bool)(len:Nat)(xs:List D)(k:Nat→Nat→Nat→R):R:=
 match lo,hi,mx,xs with
 |false,false,false,[]=>k 0 len len
 |true,false,false,[a]=>mU a len fun l=>k l len len
 |false,true,false,[b]=>mU b len fun h=>k 0 h len
 |true,true,false,[a,b]=>mU b len fun h=>mU a h fun l=>k l h len
 |false,true,true,[b,c]=>mU c len fun m=>mU b m fun h=>k 0 h m
 |true,true,true,[a,b,c]=>mU c len fun m=>mU b m fun h=>mU a h fun l=>k l h m
 |_,_,_,_=>none
theorem ge {x:D}{y:Nat}{k:Nat→R}{Z:R}(h:∀n,lq x y=some n→Le (k n) Z):Le (mU x y k) Z:=by
 unfold mU;split
 ·refine Le.grd fun h1=>Le.grd fun h2=>h _ ?_
  simp only[lq,h1,h2,Bool.and_self,cond_true]
 ·exact Le.no _
theorem mV {lo hi mx:Bool}{len:Nat}{xs:List D}{k:Nat→Nat→Nat→R}{Z:R}(h:∀l a m,cF lo hi mx len xs=some (l,a,m)→Le (k l a m) Z):Le (qL lo hi mx len xs k) Z:=by
 unfold qL;split
 ·exact h _ _ _ rfl
 ·exact ge fun l h1=>h _ _ _ (by simp only[cF,h1])
 ·exact ge fun l h1=>h _ _ _ (by simp only[cF,h1])
 ·exact ge fun l h1=>ge fun l' h2=>h _ _ _ (by simp only[cF,h1,h2])
 ·exact ge fun l h1=>ge fun l' h2=>h _ _ _ (by simp only[cF,h1,h2])
 ·exact ge fun l h1=>ge fun l' h2=>ge fun l'' h3=>h _ _ _ (by simp only[cF,h1,h2,h3])
 ·exact Le.no _
def SK (lo hi:Bool)(vs:List D)(k:KE):R:=
 match vs with
 | .p (.str s)::xs=>qL lo hi false s.length xs fun l h _=>k (.p (.str ((s.drop l).take (h - l)))) [] []
 |_=>none
def abp (lo hi:Bool)(l h lo0:Nat)(n:Option Nat)(e v:R):R:=
 match lo,hi,n with
 |true,false,some n=>iL (Nat.beq l h) (iL (Nat.blt lo0 n) e v) v
 |_,_,_=>v
theorem abq (lo hi:Bool)(l h lo0:Nat)(os:List (Nat×Ob))(id:Nat)(e v:R):abp lo hi l h lo0 (Bi os id) e v=bif lo&&!hi&&(Nat.beq l h&&sS os id lo0)then e else v:=by
 have hf:sS os id lo0=match Bi os id with|some n=>Nat.blt lo0 n|none=>false:=by
  unfold sS Bi;cases hT os id<;>rfl
 rw[hf];cases lo<;>cases hi<;>cases Bi os id<;>simp only[abp,Bool.false_and,Bool.true_and,Bool.not_false,Bool.not_true,Bool.and_false,cond_false];cases Nat.beq l h<;>cases Nat.blt lo0 _<;>rfl
def abd (esz:Nat)(lo hi mx:Bool)(vs:List D)(ids:List Nat)(obs:List Ob)(k:KE):R:=
 match mx,vs with
 |false,.p (.slice z es)::xs=>iL (Gi z esz es) (qL lo hi false es.length xs fun l h _=>k (.p (.slice z ((es.drop l).take (h - l)))) [] []) none
 |false,.sl .nil z es::xs=>iL (Gi z esz es) (qL lo hi false es.length xs fun _ _ _=>k (.sl .nil z []) [] []) none
 |false,.arr id lo0 len0 z::xs=>iL (Nat.beq z esz) (qL lo hi false len0 xs fun l h _=>abp lo hi l h lo0 (Bi (ids.zip obs) id) (k (.sl .some z []) [] []) (k (.arr id (lo0+l) (h - l) z) [] [])) none
 |true,.p (.slice z es)::xs=>iL (Gi z esz es) (qL lo hi true es.length xs fun l h m=>iL (Nat.beq h m) (k (.sl .exact z ((es.drop l).take (h - l))) [] []) (k (.p (.slice z ((es.drop l).take (h - l)))) [] [])) none
 |mx,vs=>eV (pH esz lo hi mx vs ids obs) k
def aeP (n off:Nat)(agg:Bool)(e:Da)(k:KE):R:=cL (sub (cells e) off n) fun ds=>cL (eI agg (ds.map .p)) fun d=>k d [] []
def aaF (dc:rM)(n:Nat)(agg:Bool)(vs:List D)(obs:List Ob)(k:KE):R:=
 match vs with
 |[.el _ i off]=>match obs with
  |[.arr es]=>cL es[i]? fun e=>dc.el 0 e fun e=>aeP n off agg e k
  |[.fz es]=>cL es[i]? fun e=>dc.el 0 e fun e=>aeP n off agg e k
  |_=>none
 |vs=>eV (iK n agg vs obs) k
def SN (n:Nat)(vs:List D)(ids:List Nat)(obs:List Ob)(k:KE):R:=
 match vs with
 |[.el id i 0,d]=>match hT (ids.zip obs) id with
  | .arr es=>cL es[i]? fun e=>cL (pur ((ids.zip obs).filter fun p=>!Nat.beq p.1 id) d) fun x=>iL (Nat.beq (cells x).length n) (iL (Nat.beq (cells e).length n) (cL (dh e (cells x)) fun e'=>k .junk (dN ((ids.zip obs).filter fun p=>!Nat.beq p.1 id)++[(id,.arr (es.set i e'))]) []) none) none
  |_=>none
 |vs=>eV (vF n vs ids obs) k
def N5 (kt:TypeDesc)(x:Da):List Da→Nat→(Option Nat→R)→R
 |[],_,k=>k none
 |y::r,i,k=>cL (nj kt x y) fun b=>iL b (k (some i)) (N5 kt x r (i+1) k)
def aab (keys:Bool)(kt:TypeDesc)(x:Da)(ks:List Da)(k:Option Nat→R):R:=
 match keys with
 |true=>N5 kt x ks 0 k
 |false=>cL (bM kt x ks 0) k
def eZ (o:Option Nat)(e:R)(k:Nat→R):R:=match o with|none=>e|some i=>k i
def ag2 (dc:rM)(kt:TypeDesc)(z:D)(ok:Bool)(vs:List D)(ids:List Nat)(obs:List Ob)(k:KE):R:=
 match vs with
 |[d,.p x]=>
  match (match d with
   | .p .nilmap=>some ([],[])
   | .p (.map ks ws)=>some (ks,ws)
   | .map id=>match hT (ids.zip obs) id with
    | .map ks ws=>some (ks,ws)
    | .fzm ks ws=>some (ks,ws)
    |_=>none
   |_=>none:Option (List Da×List Da))with
  |some (ks,ws)=>aab dc.keys kt x ks fun o=>eZ o (k (bif ok then .tup [z,.p (.bool false)]else z) [] []) fun i=>cL ws[i]? fun v=>dc.mv z v fun v=>k (bif ok then .tup [.p v,.p (.bool true)]else .p v) [] []
  |none=>eV (JN kt z ok vs ids obs) k
 |vs=>eV (JN kt z ok vs ids obs) k
def aaR (keys:Bool)(kt:TypeDesc)(vs:List D)(ids:List Nat)(obs:List Ob)(k:KE):R:=
 match vs with
 |[.map id,.p x,d]=>
  match hT (ids.zip obs) id with
  | .map ks ws=>match pur ((ids.zip obs).filter fun p=>!Nat.beq p.1 id) d with
   |some y=>aab keys kt x ks fun o=>eZ o (k .junk (dN ((ids.zip obs).filter fun p=>!Nat.beq p.1 id)++[(id,.map (ks++[x]) (ws++[y]))]) []) fun i=>k .junk (dN ((ids.zip obs).filter fun p=>!Nat.beq p.1 id)++[(id,.map ks (ws.set i y))]) []
   |none=>eV (Bb kt vs ids obs) k
  |_=>eV (Bb kt vs ids obs) k
 |vs=>eV (Bb kt vs ids obs) k
def aaP (esz:Nat)(z:Da)(bytes base kk:Nat)(vs:List D)(k:KE):R:=
 match vs with
 |[.p (.int _ l),.p (.int _ c)]=>iL (bx 0 l&&bx l c&&Nat.ble (c.toNat*bytes) 281474976710656&&bx c 9223372036854775807) (k (.arr (base+kk) 0 l.toNat esz) [(base+kk,.arr (List.replicate l.toNat z))] []) none
 |_=>none
def dM (n bytes:Nat):Bool:=Nat.ble ((2*n+192)*bytes) 281474976710656&&Nat.ble (2*n+192) 9223372036854775807
def afy (tr:Bool)(esz bytes base kk:Nat)(vs:List D)(ids:List Nat)(obs:List Ob)(k:KE):R:=
 match vs with
 |[.arr id 0 len z,b]=>match hT (ids.zip obs) id with
  | .arr es=>match tr with
   |true=>iL (Nat.beq z esz) (cL (elems esz (ids.zip obs) b) fun ys=>iL (dM ((es.take len).length+ys.length) bytes) (k (.arr (base+kk) 0 (es.take len++ys).length esz) [(id,.dead),(base+kk,.arr (es.take len++ys))] []) none) none
   |false=>iL (Nat.beq z esz) (iL (Nat.beq len es.length) (cL (elems esz (ids.zip obs) b) fun ys=>iL (dM (es.length+ys.length) bytes) (k (.arr (base+kk) 0 (es++ys).length esz) [(id,.dead),(base+kk,.arr (es++ys))] []) none) none) none
  |_=>none
 |[.sl .nil z es,b]=>cL (elems esz (ids.zip obs) b) fun ys=>iL (dM (0+ys.length) bytes) (k (.arr (base+kk) 0 ys.length esz) [(base+kk,.arr ys)] []) none
 |[.sl .exact z [],b]=>cL (elems esz (ids.zip obs) b) fun ys=>iL (dM (0+ys.length) bytes) (k (.arr (base+kk) 0 ys.length esz) [(base+kk,.arr ys)] []) none
 |[.sl .exact z es,b]=>iL (Gi z esz es) (cL (elems esz (ids.zip obs) b) fun ys=>iL (!es.isEmpty&&ys.isEmpty) (k (.sl .exact z es) [] []) (iL (dM (es.length+ys.length) bytes) (k (.arr (base+kk) 0 (es++ys).length esz) [(base+kk,.arr (es++ys))] []) none)) none
 |vs=>eV (vC esz bytes base kk vs ids obs) k
def afB (vs:List D)(ids:List Nat)(obs:List Ob)(k:KE):R:=
 match vs with
 |[d]=>cL (elems 1 (ids.zip obs) d) fun es=>cL (mb es) fun s=>k (.p (.str s)) [] []
 |_=>none
def NC (dc:rM)(cc:ae)(f:Nat)(args:List D)(ids:List Nat)(obs:List Ob)(len:Nat)(k:KE):R:=
 cc f (gA (lH ids) args) (rA (lH ids) obs) fun r out=>dc.ca f (rA (lH ids) obs) r out fun r out=>iL (Nat.ble ids.length out.length) (k (jJ (back ids.length len ids out.length) r) (ids.zip (rA (back ids.length len ids out.length) out)) ((rA (back ids.length len ids out.length) out).drop ids.length)) none
def Rs [Mv](dc:rM)(cc:ae)(f:Nat)(args:List D)(ids:List Nat)(obs:List Ob)(len:Nat)(k:KE):R:=
 match Mv.mv f with
 |true=>cc f (gA (lH ids) args) (rA (lH ids) obs) fun r out=>dc.ca f (rA (lH ids) obs) r out fun r out=>iL (Nat.ble (fD f (gA (lH ids) args) ids.length) out.length) (k (jJ (back (fD f (gA (lH ids) args) ids.length) len ids out.length) r) ((ids.take (fD f (gA (lH ids) args) ids.length)).zip (rA (back (fD f (gA (lH ids) args) ids.length) len ids out.length) out)++(ids.drop (fD f (gA (lH ids) args) ids.length)).map fun i=>(i,.dead)) ((rA (back (fD f (gA (lH ids) args) ids.length) len ids out.length) out).drop (fD f (gA (lH ids) args) ids.length))) none
 |false=>NC dc cc f args ids obs len k
def Ru [Mv](dc:rM)(cc:ae)(vs:List D)(ids:List Nat)(obs:List Ob)(len:Nat)(k:KE):R:=
 match vs with
 | .p (.fn f caps)::args=>match Mv.mv (Qi f)with
  |true=>none
  |false=>NC dc cc (Qi f) (sQ f (caps.map .p) (args.map norm)) ids obs len k
 | .fn f caps::args=>match Mv.mv (Qi f)with
  |true=>none
  |false=>NC dc cc (Qi f) (sQ f caps (args.map norm)) ids obs len k
 |_=>none
def afu [Mv](dc:rM)(cc:ae)(base:Nat)(o:O)(kk:Nat)(vs:List D)(ids:List Nat)(obs:List Ob)(len:Nat)(k:KE):R:=
 match o with
 | .pick=>aa7 vs k
 | .bin op=>afC op vs k
 | .binS ks op=>YB ks op vs k
 | .ia esz=>iaL dc esz vs k
 | .ix=>ixL vs k
 | .slStr lo hi=>SK lo hi vs k
 | .slSl esz lo hi mx=>abd esz lo hi mx vs ids obs k
 | .load n agg=>aaF dc n agg vs obs k
 | .store n=>SN n vs ids obs k
 | .lkp kt z ok=>ag2 dc kt z ok vs ids obs k
 | .mupd kt=>aaR dc.keys kt vs ids obs k
 | .mksl esz z bytes=>aaP esz z bytes base kk vs k
 | .app esz bytes=>afy dc.keys esz bytes base kk vs ids obs k
 | .b2s=>afB vs ids obs k
 | .call f raw=>Rs dc cc f (bif raw then vs else vs.map norm) ids obs len k
 | .callv=>Ru dc cc vs ids obs len k
 |o=>eV (qH (fun _ _ _=>none) base o kk vs ids obs len) k
section laws
variable {k k':KE} (hk:∀v u n,Le (k v u n) (k' v u n))
include hk
theorem eW (o:Option gC):Le (eV o k) (eV o k'):=Le.opt fun e h=>by subst h;exact hk _ _ _
theorem aa8 (vs:List D):Le (aa7 vs k) (eV (HG vs) k'):=by
 unfold aa7;split
 ·exact Le.two (fun h=>by subst h;exact hk _ _ _) (fun h=>by subst h;exact hk _ _ _)
 ·exact Le.no _
theorem acn (op:BinOp)(vs:List D):Le (afC op vs k) (eV (Nb op vs) k'):=by
 unfold afC;split
 ·rename_i i a j b;split
  ·exact Le.two (fun _=>Le.no _) (fun _=>eW hk _)
  ·exact Le.two (fun _=>Le.no _) (fun _=>eW hk _)
  ·refine Le.two (fun _=>Le.no _) (fun h=>?_);simp only[Nb,bin,gp,cond_true,pZ,h,cond_false,nD];exact hk _ _ _
  ·refine Le.two (fun _=>Le.no _) (fun h=>?_);simp only[Nb,bin,gp,cond_true,pZ,h,cond_false,nD];exact hk _ _ _
  ·exact eW hk _
 ·split
  ·refine Le.grd fun h=>?_
   simp only[Nb,bin,vH,h,cond_true,nD];exact hk _ _ _
  ·exact eW hk _
 ·exact eW hk _
 ·exact Le.no _
omit hk in
theorem sN {q:Bool→R}{x:R}:∀(ks:List Nat) (xs ys:List Da),(∀b,jF ks xs ys=some b→Le (q b) x)→Le (ls ks xs ys q) x
 |[],xs,ys,h=>by unfold ls;exact h true (by simp[jF])
 |c::ks,[],ys,h=>by unfold ls;exact Le.no _
 |c::ks,x::xs,[],h=>by unfold ls;exact Le.no _
 |c::ks,x::xs,y::ys,h=>by
  unfold ls;refine Le.opt fun b hb=>Le.two (fun e=>?_) (fun e=>?_)
  ·exact sN ks xs ys fun b' h'=>h b' (by simp only[jF,hb,e,cond_true,h'])
  ·exact h false (by simp only[jF,hb,e,cond_false])
theorem YC (ks:List Nat)(op:BinOp)(vs:List D):Le (YB ks op vs k) (eV (Ei ks op vs) k'):=by
 unfold YB;split
 ·split
  ·refine sN _ _ _ fun b hb=>?_
   simp only[Ei,binS,hb,nD];exact hk _ _ _
  ·refine sN _ _ _ fun b hb=>?_
   simp only[Ei,binS,hb,nD];exact hk _ _ _
  ·exact Le.no _
 ·exact Le.no _
theorem agN {dc:rM}(hd:dc.Ok)(esz:Nat)(vs:List D):Le (iaL dc esz vs k) (eV (Tb esz vs) k'):=by
 unfold iaL;split
 ·refine Le.grd fun h=>Le.opt fun x hx=>(hd.el _ _ _).trans ?_
  simp only[Tb,h,cond_true,hx];exact hk _ _ _
 ·refine Le.grd fun h=>Le.opt fun x hx=>(hd.el _ _ _).trans ?_
  simp only[Tb,h,cond_true,hx];exact hk _ _ _
 ·refine Le.grd fun h=>Le.opt fun x hx=>(hd.el _ _ _).trans ?_
  simp only[Tb,h,cond_true,hx];exact hk _ _ _
 ·refine Le.grd fun h=>Le.grd fun h1=>Le.grd fun h2=>?_
  simp only[Tb,h,h1,h2,Bool.and_self,cond_true];exact hk _ _ _
 ·exact Le.no _
theorem agT (vs:List D):Le (ixL vs k) (eV (aIx vs) k'):=by
 unfold ixL;split
 ·refine Le.opt fun x hx=>?_
  simp only[aIx,hx];exact hk _ _ _
 ·exact Le.no _
theorem W3 (lo hi:Bool)(vs:List D):Le (SK lo hi vs k) (eV (qG lo hi vs) k'):=by
 unfold SK;split
 ·refine mV fun l h m hp=>?_
  simp only[qG,hp];exact hk _ _ _
 ·exact Le.no _
theorem abe (esz:Nat)(lo hi mx:Bool)(vs:List D)(ids:List Nat)(obs:List Ob):Le (abd esz lo hi mx vs ids obs k) (eV (pH esz lo hi mx vs ids obs) k'):=by
 unfold abd;split
 ·refine Le.grd fun h=>mV fun l h' m hp=>?_
  simp only[pH,h,hp,cond_true,Bool.false_and,cond_false];exact hk _ _ _
 ·refine Le.grd fun h=>mV fun l h' m hp=>?_
  simp only[pH,h,hp,cond_true];exact hk _ _ _
 ·refine Le.grd fun h=>mV fun l h' m hp=>?_
  rw[abq];simp only[pH,h,hp,cond_true,cond_false];cases lo&&!hi&&(Nat.beq l h'&&sS (ids.zip obs) _ _)<;>exact hk _ _ _
 ·refine Le.grd fun h=>mV fun l h' m hp=>Le.two (fun h1=>?_) (fun h1=>?_)
  ·simp only[pH,h,hp,cond_true,Bool.true_and,h1];exact hk _ _ _
  ·simp only[pH,h,hp,cond_true,cond_false,Bool.true_and,h1];exact hk _ _ _
 ·exact eW hk _
theorem aaG {dc:rM}(hd:dc.Ok)(n:Nat)(agg:Bool)(vs:List D)(obs:List Ob):Le (aaF dc n agg vs obs k) (eV (iK n agg vs obs) k'):=by
 unfold aaF;split
 ·split
  ·refine Le.opt fun e he=>(hd.el _ _ _).trans (Le.opt fun ds hds=>Le.opt fun d hd=>?_)
   simp only[iK,he,hds,hd];exact hk _ _ _
  ·refine Le.opt fun e he=>(hd.el _ _ _).trans (Le.opt fun ds hds=>Le.opt fun d hd=>?_)
   simp only[iK,he,hds,hd];exact hk _ _ _
  ·exact Le.no _
 ·exact eW hk _
theorem W9 (n:Nat)(vs:List D)(ids:List Nat)(obs:List Ob):Le (SN n vs ids obs k) (eV (vF n vs ids obs) k'):=by
 unfold SN;split
 ·rename_i id i d;split
  ·rename_i es hl;refine Le.opt fun e he=>Le.opt fun x hx=>Le.grd fun h1=>Le.grd fun h2=>Le.opt fun e' he'=>?_
   have hb:=lθ h1;have hb2:=lθ h2;have hs:splice (cells e) 0 (cells x)=cells x:=by simp[splice,hb,hb2.symm▸List.drop_length]
   have hle:Nat.ble (0+n) (cells e).length=true:=by rw[Nat.ble_eq];omega
   simp only[vF,hl,he,hx,h1,hle,Bool.and_self,cond_true,hs,he'];exact hk _ _ _
  ·exact Le.no _
 ·exact eW hk _
omit hk in
theorem N6 {kt:TypeDesc}{x:Da}{q:Option Nat→R}{y:R}:∀(ks:List Da) (i:Nat),(∀o,bM kt x ks i=some o→Le (q o) y)→Le (N5 kt x ks i q) y
 |[],i,h=>by unfold N5;exact h none rfl
 |c::r,i,h=>by
  unfold N5;refine Le.opt fun b hb=>Le.two (fun e=>?_) (fun e=>?_)
  ·subst e;exact h _ (by simp only[bM,hb])
  ·subst e;exact N6 r (i+1) fun o ho=>h o (by simp only[bM,hb,ho])
omit hk in
theorem N7 {keys:Bool}{kt:TypeDesc}{x:Da}{q:Option Nat→R}{y:R}(ks:List Da)(h:∀o,bM kt x ks 0=some o→Le (q o) y):Le (aab keys kt x ks q) y:=by
 cases keys
 ·exact Le.opt h
 ·exact N6 ks 0 h
theorem ad3 {dc:rM}(hd:dc.Ok)(kt:TypeDesc)(z:D)(ok:Bool)(vs:List D)(ids:List Nat)(obs:List Ob):Le (ag2 dc kt z ok vs ids obs k) (eV (JN kt z ok vs ids obs) k'):=by
 unfold ag2;split
 ·rename_i d x;split
  ·rename_i ks ws he;refine N7 ks fun o ho=>?_
   have key:Le (eZ o (k (bif ok then .tup [z,.p (.bool false)]else z) [] []) fun i=>cL ws[i]? fun v=>dc.mv z v fun v=>k (bif ok then .tup [.p v,.p (.bool true)]else .p v) [] []) (eV (match bM kt x ks 0 with
    |some (some i)=>match ws[i]? with
     |some v=>val (bif ok then .tup [.p v,.p (.bool true)]else .p v)
     |none=>none
    |some none=>val (bif ok then .tup [z,.p (.bool false)]else z)
    |none=>none) k'):=by
    rw[ho];cases o with
    |none=>exact hk _ _ _
    |some i=>
     refine Le.opt fun v hv=>(hd.mv _ _ _).trans ?_
     simp only[hv];exact hk _ _ _
   split at he
   ·simp only[lα,lε]at he;obtain⟨rfl,rfl⟩:=he;exact key
   ·simp only[lα,lε]at he;obtain⟨rfl,rfl⟩:=he;exact key
   ·split at he
    ·rename_i hl;simp only[lα,lε]at he;obtain⟨rfl,rfl⟩:=he;simp only[JN,hl];exact key
    ·rename_i hl;simp only[lα,lε]at he;obtain⟨rfl,rfl⟩:=he;simp only[JN,hl];exact key
    ·cases he
   ·cases he
  ·exact eW hk _
 ·exact eW hk _
theorem aaS (keys:Bool)(kt:TypeDesc)(vs:List D)(ids:List Nat)(obs:List Ob):Le (aaR keys kt vs ids obs k) (eV (Bb kt vs ids obs) k'):=by
 unfold aaR;split
 ·split
  ·rename_i hl;split
   ·rename_i y hp;refine N7 _ fun o ho=>?_
    simp only[Bb,hl,hp,ho];cases o<;>exact hk _ _ _
   ·exact eW hk _
  ·exact eW hk _
 ·exact eW hk _
theorem aaQ (esz:Nat)(z:Da)(bytes base kk:Nat)(vs:List D):Le (aaP esz z bytes base kk vs k) (eV (Ni esz z bytes base kk vs) k'):=by
 unfold aaP;split
 ·refine Le.grd fun h=>?_
  simp only[Ni,h,cond_true];exact hk _ _ _
 ·exact Le.no _
theorem aci (tr:Bool)(esz bytes base kk:Nat)(vs:List D)(ids:List Nat)(obs:List Ob):Le (afy tr esz bytes base kk vs ids obs k) (eV (vC esz bytes base kk vs ids obs) k'):=by
 unfold afy;split
 ·rename_i id len z b;split
  ·rename_i es hl;split
   ·refine Le.grd fun h1=>Le.opt fun ys hy=>Le.grd fun h3=>?_
    unfold dM at h3;simp only[vC,rt,hl,h1,cond_true,hy,List.isEmpty_cons,Bool.false_and,cond_false,List.drop_zero,h3,mξ,List.cons_append,List.nil_append];rw[←mξ];exact hk _ _ _
   refine Le.grd fun h1=>Le.grd fun h2=>Le.opt fun ys hy=>Le.grd fun h3=>?_
   have h2':=lθ h2;subst h2';unfold dM at h3;simp only[vC,rt,hl,h1,cond_true,hy,List.isEmpty_cons,Bool.false_and,cond_false,List.drop_zero,List.take_length,h3,mξ,List.cons_append,List.nil_append];rw[←mξ];exact hk _ _ _
  ·exact Le.no _
 ·refine Le.opt fun ys hy=>Le.grd fun h3=>?_
  unfold dM at h3;simp only[vC,rt,hy,List.isEmpty_nil,Bool.not_true,Bool.and_false,cond_false,List.length_nil,h3,cond_true,List.nil_append];rw[Nat.zero_add];exact hk _ _ _
 ·refine Le.opt fun ys hy=>Le.grd fun h3=>?_
  unfold dM at h3;simp only[vC,rt,Gi,List.isEmpty_nil,Bool.or_true,cond_true,hy,Bool.not_true,Bool.and_false,cond_false,List.length_nil,h3,List.nil_append];rw[Nat.zero_add];exact hk _ _ _
 ·refine Le.grd fun h1=>Le.opt fun ys hy=>Le.two (fun h2=>?_) (fun h2=>Le.grd fun h3=>?_)
  ·rw[lδ]at h2;simp only[vC,rt,h1,cond_true,hy,List.isEmpty_nil,h2.1,h2.2,Bool.and_self];exact hk _ _ _
  ·unfold dM at h3;rw[Bool.and_comm]at h2;simp only[vC,rt,h1,cond_true,hy,List.isEmpty_nil,Bool.true_and,h2,cond_false,h3,List.nil_append];rw[←mξ];exact hk _ _ _
 ·exact eW hk _
theorem ack (vs:List D)(ids:List Nat)(obs:List Ob):Le (afB vs ids obs k) (eV (VQ vs ids obs) k'):=by
 unfold afB;split
 ·refine Le.opt fun es he=>Le.opt fun s hs=>?_
  simp only[VQ,he,hs];exact hk _ _ _
 ·exact Le.no _
theorem Et {dc:rM}(hd:dc.Ok){cc:ae}{call:aN}(hc:bC cc call)(f:Nat)(args:List D)(ids:List Nat)(obs:List Ob)(len:Nat):Le (NC dc cc f args ids obs len k) (eV (eU call f args ids obs len) k'):=by
 unfold NC;refine(hc f _ _ _ (fun r out=>iL (Nat.ble ids.length out.length) (k' (mapD (back ids.length len ids out.length) r) (ids.zip (out.map (cB (back ids.length len ids out.length)))) ((out.map (cB (back ids.length len ids out.length))).drop ids.length)) none) fun r out=>(hd.ca _ _ _ _ _).trans ?_).trans ?_
 ·rw[hU,pO];exact Le.grd fun h=>by simp only[h,iL];exact hk _ _ _
 ·rw[j9,pO,mg];unfold eU eV;cases call f (mapD.mapDL (idx ids) args) (obs.map (cB (idx ids)))with
  |none=>exact Le.no _
  |some p=>
   obtain⟨r,out⟩:=p;refine Le.grd fun h=>?_
   simp only[h,cond_true];exact Le.refl _
theorem V8 [Mv]{dc:rM}(hd:dc.Ok){cc:ae}{call:aN}(hc:bC cc call)(f:Nat)(args:List D)(ids:List Nat)(obs:List Ob)(len:Nat):Le (Rs dc cc f args ids obs len k) (eV (xb call f args ids obs len) k'):=by
 unfold Rs xb;cases Mv.mv f
 ·exact Et hk hd hc _ _ _ _ _
 simp only[cond_true];generalize hm:fD f (gA (lH ids) args) ids.length=m;refine(hc f _ _ _ (fun r out=>iL (Nat.ble m out.length) (k' (mapD (back m len ids out.length) r) ((ids.take m).zip (out.map (cB (back m len ids out.length)))++(ids.drop m).map fun i=>(i,.dead)) ((out.map (cB (back m len ids out.length))).drop m)) none) fun r out=>(hd.ca _ _ _ _ _).trans ?_).trans ?_
 ·rw[hU,pO];exact Le.grd fun h=>by simp only[h,iL];exact hk _ _ _
 ·rw[j9,mg]at hm;rw[j9,pO,mg,hm];unfold mf eV;cases call f (mapD.mapDL (idx ids) args) (obs.map (cB (idx ids)))with
  |none=>exact Le.no _
  |some p=>
   obtain⟨r,out⟩:=p;refine Le.grd fun h=>?_
   simp only[h,cond_true];exact Le.refl _
theorem Wb [Mv]{dc:rM}(hd:dc.Ok){cc:ae}{call:aN}(hc:bC cc call)(vs:List D)(ids:List Nat)(obs:List Ob)(len:Nat):Le (Ru dc cc vs ids obs len k) (eV (Eu call vs ids obs len) k'):=by
 unfold Ru Eu;split
 ·rename_i f caps args;simp only;cases Mv.mv (Qi f)
  ·exact Et hk hd hc _ _ _ _ _
  ·exact Le.no _
 ·rename_i f caps args;simp only;cases Mv.mv (Qi f)
  ·exact Et hk hd hc _ _ _ _ _
  ·exact Le.no _
 ·exact Le.no _
theorem acb [Mv]{dc:rM}(hd:dc.Ok){cc:ae}{call:aN}(hc:bC cc call)(base:Nat)(o:O)(kk:Nat)(vs:List D)(ids:List Nat)(obs:List Ob)(len:Nat):Le (afu dc cc base o kk vs ids obs len k) (eV (zQ call base o kk vs ids obs len) k'):=by
 unfold afu;split
 ·exact aa8 hk _
 ·exact acn hk _ _
 ·exact YC hk _ _ _
 ·exact agN hk hd _ _
 ·exact agT hk _
 ·exact W3 hk _ _ _
 ·exact abe hk _ _ _ _ _ _ _
 ·exact aaG hk hd _ _ _ _
 ·exact W9 hk _ _ _ _
 ·exact ad3 hk hd _ _ _ _ _ _
 ·exact aaS hk _ _ _ _ _
 ·exact aaQ hk _ _ _ _ _ _
 ·exact aci hk _ _ _ _ _ _ _ _
 ·exact ack hk _ _ _
 ·exact V8 hk hd hc _ _ _ _ _
 ·exact Wb hk hd hc _ _ _ _
 ·rename_i o' h1 h2 h3 h4 h5 h6 h7 h8 h9 h10 h11 h12 h13 h14 h15 h16;have e:qH (fun _ _ _=>none) base o kk vs ids obs len=zQ call base o kk vs ids obs len:=by
   cases o<;>first|rfl|exact absurd rfl (h15 _ _)|exact absurd rfl h16
  rw[e];exact eW hk _
end laws
end
end Go.Ab
end
section
namespace Go.Ab
open Go
noncomputable section
def gdL (x:fc)(tm:Tm)(t e:R):R:=
 match x.gd with
 |none=>t
 |some (g,w)=>match get tm g with
  | .p (.bool b)=>match w with
   |true=>iL b t e
   |false=>iL b e t
  | .tup []=>e
  |_=>none
theorem agJ {x:fc}{tm:Tm}{t e X:R}(ht:dK x tm=some true→Le t X)(he:dK x tm=some false→Le e X):Le (gdL x tm t e) X:=by
 unfold gdL;split
 ·rename_i h;exact ht (by simp[dK,h])
 ·rename_i g w h;split
  ·rename_i b hb;have hg:dK x tm=some (b==w):=by simp[dK,h,hb]
   cases w
   ·exact Le.two (fun e=>he (by rw[hg,e];rfl)) (fun e=>ht (by rw[hg,e];rfl))
   ·exact Le.two (fun e=>ht (by rw[hg,e];rfl)) (fun e=>he (by rw[hg,e];rfl))
  ·rename_i hb;exact he (by simp[dK,h,hb])
  ·exact Le.no _
variable [Mv]
def Br (o:O)(vs:List D)(hp:List Ob):List Nat:=
 match o with
 | .call f _=>match Mv.mv f with
  |true=>iy hp bA ((pL (gy vs []) []).flatMap fun i=>lN (bb hp i)) (pL (gy vs []) [])
  |false=>iy hp bA (gy vs []) []
 | .callv=>iy hp bA (gy vs []) []
 |o=>bQ o vs hp
theorem aaW (o:O)(vs:List D)(hp:List Ob):Br o vs hp=dO o vs hp:=by
 cases o<;>first
  |rfl
  |(simp only[Br,fu,gm,mε,dO,bQ];done)
  |(
    rename_i f raw;simp only[Br,fu,gm,mε,dO,EO];cases Mv.mv f<;>rfl)
def SL (v:D)(k:D→R):R:=match v with
 | .p (.bool b)=>iL b (k (.p (.bool true))) (k (.p (.bool false)))
 |v=>k v
theorem W6 {v:D}{k:D→R}{X:R}(h:Le (k v) X):Le (SL v k) X:=by
 unfold SL;split
 ·rename_i b;cases b<;>exact h
 ·exact h
def abl (s:Bool)(v:D)(k:D→R):R:=match s with
 |true=>SL v k
 |false=>k v
theorem W7 {s:Bool}{v:D}{k:D→R}{X:R}(h:Le (k v) X):Le (abl s v k) X:=by
 cases s
 ·exact h
 ·exact W6 h
def aeL (d:Option Nat):List fc→Bool
 |[]=>false
 |x::r=>match d with
  |none=>false
  |some t=>(match x.gd with|some (g,_)=>Nat.beq g t|none=>false)||((match x.op,x.as with| .pick,.t g::_=>Nat.beq g t|_,_=>false)||aeL d r)
def opL (dc:rM)(s:Bool)(cc:ae)(base:Nat)(x:fc)(tm:Tm)(hp:List Ob)(k:D→List Ob→gt→R):R:=
 iL (!(df x.op)||cQ (bb hp (base+x.k)))
  (afu dc cc base x.op x.k (x.as.map (ev tm)) (Br x.op (x.as.map (ev tm)) hp) ((Br x.op (x.as.map (ev tm)) hp).map (bb hp)) hp.length fun v ups new=>abl s v fun v=>
   k v (grow (aD hp ups) new) ⟨bif df x.op then(base+x.k)::Br x.op (x.as.map (ev tm)) hp else Br x.op (x.as.map (ev tm)) hp,AS (Br x.op (x.as.map (ev tm)) hp) hp ups,!new.isEmpty,hp.length⟩) none
def ah7 (tm:Tm)(hp:List Ob)(k:K):R:=k tm hp
def aa3 (dc:rM)(cc:ae)(base:Nat):List fc→Tm→List Ob→List gt→(Tm→List Ob→List gt→R)→R
 |[],tm,hp,fs,k=>k tm hp fs.reverse
 |x::r,tm,hp,fs,k=>ah7 tm hp fun tm hp=>gdL x tm (opL dc (dc.spl||aeL x.dst r) cc base x tm hp fun v hp f=>aa3 dc cc base r (put x.dst v tm) hp (f::fs) k) (aa3 dc cc base r (put x.dst (.tup []) tm) hp (⟨[],[],false,0⟩::fs) k)
section
variable {dc:rM} (hd:dc.Ok) {cc:ae} {call:aN} (hc:bC cc call) {base:Nat}
include hd hc
theorem ahc {s:Bool}{x:fc}{tm:Tm}{hp:List Ob}{k:D→List Ob→gt→R}{X:R}(h:∀v hp' fL,ui call base x ⟨tm,hp⟩=some (⟨put x.dst v tm,hp'⟩,cE fL)→Le (k v hp' fL) X):Le (opL dc s cc base x tm hp k) X:=by
 unfold opL;refine Le.grd fun hm=>(acb (fun _ _ _=>Le.refl _) hd hc _ _ _ _ _ _ _).trans ?_
 unfold eV;refine Le.opt fun e he=>?_
 obtain⟨v,ups,new⟩:=e;refine W7 (h v _ _ ?_);simp only[aaW]at he ⊢
 simp only[ui,hm,cond_true,he,cE,oG]
theorem Lt:∀(ops:List fc) (tm:Tm) (hp:List Ob) (fs:List gt) (k:Tm→List Ob→List gt→R) (X:R),(∀tm' hp' fs',et call base ops ⟨tm,hp⟩ (fs.map cE)=some (⟨tm',hp'⟩,fs'.map cE)→Le (k tm' hp' fs') X)→Le (aa3 dc cc base ops tm hp fs k) X
 |[],tm,hp,fs,k,X,h=>h _ _ _ (by simp only[et,List.map_reverse])
 |x::r,tm,hp,fs,k,X,h=>by
  unfold aa3 ah7;refine agJ (fun hg=>ahc hd hc fun v hp' fL he=>Lt r _ _ _ _ _ fun tm' hp'' fs' hr=>h _ _ _ ?_) (fun hg=>Lt r _ _ _ _ _ fun tm' hp'' fs' hr=>h _ _ _ ?_)
  ·simp only[et,hg,he];exact hr
  ·simp only[et,hg];exact hr
end
theorem ED {call:aN}{base:Nat}:∀{ops:List fc} {st st':St} {fs fs':List eB},et call base ops st fs=some (st',fs')→ot call base ops st=some st'
 |[],st,st',fs,fs',h=>by
  simp only[et,lα,lε]at h;simp only[ot,h.1]
 |x::r,st,st',fs,fs',h=>by
  simp only[et]at h;simp only[ot];split at h
  ·cases h
  ·rename_i hg;split at h
   ·cases h
   ·rename_i he;exact ED h
  ·rename_i hg;exact ED h
abbrev JJ:=Ex→Tm→List Ob→R
def sZ (o:Option (Ex×St))(J:JJ):R:=cL o fun p=>J p.1 p.2.tm p.2.hp
def JLe (J J':JJ):Prop:=∀ex tm hp,Le (J ex tm hp) (J' ex tm hp)
def exK (ex:Ex)(n:R)(e:Nat→R)(r:R):R:=Ex.rec (motive:=fun _=>R) n (fun i=>e i) r ex
def ahl (dc:rM)(cc:ae)(nal:Nat)(ops:List fc)(prs:Option (List (Nat×Nat)))(out:List Nat)(tm:Tm)(hp:List Ob)(J:JJ):R:=
 aa3 dc cc hp.length ops tm (grow hp (List.replicate nal .unborn)) [] fun tm hp fs=>match prs with
  |none=>J .norm (fx out id tm) hp
  |some ps=>iL (pJ fs ps) (J .norm (fx out id tm) hp) none
theorem aek {dc:rM}(hd:dc.Ok){cc:ae}{call:aN}(hc:bC cc call)(nal:Nat)(ops:List fc)(prs:Option (List (Nat×Nat)))(out:List Nat)(tm:Tm)(hp:List Ob){J J':JJ}(hJ:JLe J J')(n m:Nat):Le (ahl dc cc nal ops prs out tm hp J) (sZ (cP call n m (.reg nal ops prs out) ⟨tm,hp⟩) J'):=by
 unfold ahl;refine Lt hd hc _ _ _ _ _ _ fun tm' hp' fs' he=>?_
 split
 ·have h0:=ED he;simp only[cP,Bh,h0,sZ,cL];exact hJ _ _ _
 ·refine Le.grd fun ha=>?_
  rw[qI]at ha;simp only[List.map_nil]at he;simp only[cP,Bh,he,ha,cond_true,sZ,cL];exact hJ _ _ _
def kpL (m:Nat)(live:List Nat)(tm:Tm)(hp:List Ob)(k:K):R:=
 k (fx live (jJ (lH (iy hp bA (gy (live.map (get tm)) (kA m hp)) (List.range m)))) tm) (qZ (iy hp bA (gy (live.map (get tm)) (kA m hp)) (List.range m)) hp)
theorem RT (m:Nat)(live:List Nat)(tm:Tm)(hp:List Ob):∃st,nz m (.keep live) ⟨tm,hp⟩=some st∧∀k,kpL m live tm hp k=k st.tm st.hp:=by
 refine⟨_,rfl,fun k=>?_⟩
 unfold kpL;have e:jJ (lH (iy hp bA (gy (live.map (get tm)) (kA m hp)) (List.range m)))=mapD (idx (cz hp bA (dids.didsL (live.map (get tm))++(hp.take m).flatMap lN) (List.range m))):=by
  funext d
  rw[hU,mg,fu,gm,ka]
 rw[e,nr,fu,gm,ka]
def ghL (m:Nat)(g:Gh)(tm:Tm)(hp:List Ob)(k:K):R:=
 match g with
 | .keep live=>kpL m live tm hp k
 |g=>cL (nz m g ⟨tm,hp⟩) fun st=>k st.tm st.hp
def Zz (d:D)(t e:R):R:=match d with| .p (.bool b)=>iL b t e|_=>none
abbrev cG:=Nat→Bool→Nat→List Nat→Co→Nat→Tm→List Ob→JJ→R
def ghD (lp:cG)(n m:Nat)(g:Gh)(c:Co)(p:Nat)(tm:Tm)(hp:List Ob)(J:JJ)(k:K):R:=
 match g with
 | .keep live=>lp p false m live c n tm hp J
 | .own s z=>ghL m (.own s z) tm hp k
 | .ownc s o z=>ghL m (.ownc s o z) tm hp k
 | .frz s=>ghL m (.frz s) tm hp k
 | .frzc s o=>ghL m (.frzc s o) tm hp k
def B1 (lp:cG)(dc:rM)(cc:ae)(n m:Nat)(c:Co):Nat→Tm→List Ob→JJ→R:=
 Co.rec (motive:=fun _=>Nat→Tm→List Ob→JJ→R)
  (fun _ tm hp J=>J .norm tm hp)
  (fun nal ops prs out _ tm hp J=>ahl dc cc nal ops prs out tm hp J)
  (fun _ _ a b p tm hp J=>a (4*p+1) tm hp fun ex tm hp=>exK ex (b (4*p+2) tm hp J) (fun i=>J (.exit i) tm hp) (J .ret tm hp))
  (fun x _ _ t e p tm hp J=>Zz (ev tm x) (t (4*p+1) tm hp J) (e (4*p+2) tm hp J))
  (fun id _ b p tm hp J=>b (4*p+3) tm hp fun ex tm hp=>exK ex (J .norm tm hp) (fun i=>iL (Nat.beq i id) (J .norm tm hp) (J (.exit i) tm hp)) (J .ret tm hp))
  (fun live b _ p tm hp J=>lp p true m live b n tm hp J)
  (fun id _ tm hp J=>J (.exit id) tm hp)
  (fun _ tm hp J=>J .ret tm hp)
  (fun g c b p tm hp J=>ghD lp n m g c p tm hp J fun tm hp=>b (4*p+3) tm hp J)
  c
def du:Co→Nat→List (Nat×List Nat×Co×Bool)
 | .seq a b,p=>du a (4*p+1)++du b (4*p+2)
 | .cond _ a b,p=>du a (4*p+1)++du b (4*p+2)
 | .block _ b,p=>du b (4*p+3)
 | .loop live b,p=>[(p,live,b,true)]
 | .gh (.keep live) b,p=>[(p,live,b,false)]
 | .gh _ b,p=>du b (4*p+3)
 |_,_=>[]
def ah9 (live:List Nat)(b:Co)(k:Bool):Co:=match k with|true=> .loop live b|false=> .gh (.keep live) b
def br (lp:cG)(call:aN)(n m:Nat)(e:Nat×List Nat×Co×Bool):Prop:=
 ∀tm hp J J',JLe J J'→Le (lp e.1 e.2.2.2 m e.2.1 e.2.2.1 n tm hp J) (sZ (cP call n m (ah9 e.2.1 e.2.2.1 e.2.2.2) ⟨tm,hp⟩) J')
section
variable {lp:cG} {dc:rM} (hd:dc.Ok) {cc:ae} {call:aN} (hc:bC cc call) {n m:Nat}
include hd hc
theorem ik:∀(c:Co) (p:Nat) (tm:Tm) (hp:List Ob) (J J':JJ),(∀e∈du c p,br lp call n m e)→JLe J J'→Le (B1 lp dc cc n m c p tm hp J) (sZ (cP call n m c ⟨tm,hp⟩) J')
 | .skip,p,tm,hp,J,J',hl,hJ=>hJ _ _ _
 | .ret,p,tm,hp,J,J',hl,hJ=>hJ _ _ _
 | .exit i,p,tm,hp,J,J',hl,hJ=>hJ _ _ _
 | .reg nal ops prs out,p,tm,hp,J,J',hl,hJ=>aek hd hc nal ops prs out tm hp hJ n m
 | .seq a b,p,tm,hp,J,J',hl,hJ=>by
  have hl1:∀e∈du a (4*p+1),br lp call n m e:=fun e he=>hl e (List.mem_append_left _ he)
  have hl2:∀e∈du b (4*p+2),br lp call n m e:=fun e he=>hl e (List.mem_append_right _ he)
  refine(ik a (4*p+1) tm hp _ (fun ex tm hp=>exK ex (sZ (cP call n m b ⟨tm,hp⟩) J') (fun i=>J' (.exit i) tm hp) (J' .ret tm hp)) hl1 ?_).trans ?_
  ·intro ex tm hp;cases ex with
   |norm=>exact ik b (4*p+2) tm hp J J' hl2 hJ
   |exit i=>exact hJ _ _ _
   |ret=>exact hJ _ _ _
  ·simp only[cP,sZ];cases cP call n m a ⟨tm,hp⟩with
   |none=>exact Le.no _
   |some q=>
    obtain⟨ex,st⟩:=q;cases ex<;>exact Le.refl _
 | .cond x t e,p,tm,hp,J,J',hl,hJ=>by
  have hl1:∀e∈du t (4*p+1),br lp call n m e:=fun e he=>hl e (List.mem_append_left _ he)
  have hl2:∀e'∈du e (4*p+2),br lp call n m e':=fun e' he=>hl e' (List.mem_append_right _ he)
  show Le (Zz (ev tm x) (B1 lp dc cc n m t (4*p+1) tm hp J) (B1 lp dc cc n m e (4*p+2) tm hp J)) _;unfold Zz;simp only[cP];split
  ·rename_i b hb;refine Le.two (fun h=>?_) (fun h=>?_)
   ·subst h;simp only[hb];exact ik t _ tm hp J J' hl1 hJ
   ·subst h;simp only[hb];exact ik e _ tm hp J J' hl2 hJ
  ·exact Le.no _
 | .block id b,p,tm,hp,J,J',hl,hJ=>by
  refine(ik b (4*p+3) tm hp _ (fun ex tm hp=>exK ex (J' .norm tm hp) (fun i=>iL (Nat.beq i id) (J' .norm tm hp) (J' (.exit i) tm hp)) (J' .ret tm hp)) hl ?_).trans ?_
  ·intro ex tm hp;cases ex with
   |norm=>exact hJ _ _ _
   |exit i=>
    show Le (iL (Nat.beq i id) _ _) (iL (Nat.beq i id) _ _);cases Nat.beq i id<;>exact hJ _ _ _
   |ret=>exact hJ _ _ _
  ·simp only[cP,sZ];cases cP call n m b ⟨tm,hp⟩with
   |none=>exact Le.no _
   |some q=>
    obtain⟨ex,st⟩:=q;cases ex with
    |norm=>exact Le.refl _
    |ret=>exact Le.refl _
    |exit i=>
     simp only[cL,exK];cases h:Nat.beq i id<;>simp only[iL,cond_true,cond_false]<;>exact Le.refl _
 | .loop live b,p,tm,hp,J,J',hl,hJ=>hl (p,live,b,true) (lυ ..) tm hp J J' hJ
 | .gh (.keep live) b,p,tm,hp,J,J',hl,hJ=>hl (p,live,b,false) (lυ ..) tm hp J J' hJ
 | .gh (.own s z) b,p,tm,hp,J,J',hl,hJ=>by
  show Le (cL (nz m (.own s z) ⟨tm,hp⟩) fun st=>B1 lp dc cc n m b (4*p+3) st.tm st.hp J) _;refine Le.opt fun st hs=>?_
  simp only[cP,hs];exact ik b (4*p+3) st.tm st.hp J J' hl hJ
 | .gh (.ownc s o z) b,p,tm,hp,J,J',hl,hJ=>by
  show Le (cL (nz m (.ownc s o z) ⟨tm,hp⟩) fun st=>B1 lp dc cc n m b (4*p+3) st.tm st.hp J) _;refine Le.opt fun st hs=>?_
  simp only[cP,hs];exact ik b (4*p+3) st.tm st.hp J J' hl hJ
 | .gh (.frz s) b,p,tm,hp,J,J',hl,hJ=>by
  show Le (cL (nz m (.frz s) ⟨tm,hp⟩) fun st=>B1 lp dc cc n m b (4*p+3) st.tm st.hp J) _;refine Le.opt fun st hs=>?_
  simp only[cP,hs];exact ik b (4*p+3) st.tm st.hp J J' hl hJ
 | .gh (.frzc s o) b,p,tm,hp,J,J',hl,hJ=>by
  show Le (cL (nz m (.frzc s o) ⟨tm,hp⟩) fun st=>B1 lp dc cc n m b (4*p+3) st.tm st.hp J) _;refine Le.opt fun st hs=>?_
  simp only[cP,hs];exact ik b (4*p+3) st.tm st.hp J J' hl hJ
def dZ {ST:Type}(S:(ST→R)→ST→R)(k:Nat)(st:ST):R:=Nat.rec (motive:=fun _=>ST→R) (fun _=>none) (fun _ ih st=>S ih st) k st
theorem T0 {ST:Type}{live:List Nat}{b:Co}{p:Nat}{dec:Tm→List Ob→(ST→R)→R}{tmO:ST→Tm}{hpO:ST→List Ob}{S:JJ→(ST→R)→ST→R}
  (hdec:∀tm hp (Y:ST→R) (X:K),(∀st,Le (Y st) (X (tmO st) (hpO st)))→Le (dec tm hp Y) (X tm hp))
  (hS:∀(J:JJ) (Y:ST→R) st,B1 lp dc cc n m b p (tmO st) (hpO st) (fun ex tm hp=>exK ex (kpL m live tm hp fun tm hp=>dec tm hp Y) (fun i=>J (.exit i) tm hp) (J .ret tm hp))=S J Y st)
  (hin:∀e∈du b p,br lp call n m e) {J J':JJ} (hJ:JLe J J'):∀(k:Nat) (tm:Tm) (hp:List Ob),
  Le (kpL m live tm hp fun tm hp=>dec tm hp fun st=>dZ (S J) k st) (sZ (Am m (cP call n m b) live k ⟨tm,hp⟩) J')
 |0,tm,hp=>by
  obtain⟨st,_,h2⟩:=RT m live tm hp;rw[h2];exact(hdec st.tm st.hp _ (fun _ _=>none) fun _=>Le.no _).trans (Le.no _)
 |k+1,tm,hp=>by
  obtain⟨st,h1,h2⟩:=RT m live tm hp;rw[h2];have e:sZ (Am m (cP call n m b) live (k+1) ⟨tm,hp⟩) J'=sZ (cP call n m b st) (fun ex tm hp=>exK ex (sZ (Am m (cP call n m b) live k ⟨tm,hp⟩) J') (fun i=>J' (.exit i) tm hp) (J' .ret tm hp)):=by
   simp only[Am,h1];cases cP call n m b st with
   |none=>rfl
   |some q=>
    obtain⟨ex,st'⟩:=q;cases ex<;>rfl
  rw[e];refine hdec st.tm st.hp _ (fun tm hp=>sZ (cP call n m b ⟨tm,hp⟩) _) fun s=>?_
  have e2:dZ (S J) (k+1) s=S J (dZ (S J) k) s:=rfl;rw[e2,←hS];refine ik hd hc b p _ _ _ _ hin ?_;intro ex tm hp;cases ex with
  |norm=>exact T0 hdec hS hin hJ k tm hp
  |exit i=>exact hJ _ _ _
  |ret=>exact hJ _ _ _
end
def R4 {ST:Type}(q:Nat)(dec:Tm→List Ob→(ST→R)→R)(S:JJ→(ST→R)→ST→R)(lp:cG):cG:=fun p k m live b n tm hp J=>iL (Nat.beq p q) (kpL m live tm hp fun tm hp=>dec tm hp fun st=>dZ (S J) n st) (lp p k m live b n tm hp J)
def Fc {ST:Type}(q:Nat)(dec:Tm→List Ob→(ST→R)→R)(S:JJ→ST→R)(lp:cG):cG:=fun p k m live b n tm hp J=>iL (Nat.beq p q) (kpL m live tm hp fun tm hp=>dec tm hp fun st=>S J st) (lp p k m live b n tm hp J)
def bh:cG:=fun _ _ _ _ _ _ _ _ _=>none
theorem WK {ST:Type}{q:Nat}{dec:Tm→List Ob→(ST→R)→R}{S:JJ→(ST→R)→ST→R}{lp:cG}{call:aN}{n m:Nat}{live:List Nat}{b:Co}
  (h:∀tm hp J J',JLe J J'→Le (kpL m live tm hp fun tm hp=>dec tm hp fun st=>dZ (S J) n st) (sZ (Am m (cP call n m b) live n ⟨tm,hp⟩) J')):br (R4 q dec S lp) call n m (q,live,b,true):=by
 intro tm hp J J' hJ;have:R4 q dec S lp q true m live b n tm hp J=kpL m live tm hp fun tm hp=>dec tm hp fun st=>dZ (S J) n st:=by
  show iL (Nat.beq q q) _ _=_;rw[Nat.beq_refl];rfl
 show Le (R4 q dec S lp q true m live b n tm hp J) _;rw[this];exact h tm hp J J' hJ
theorem lpCut_here {ST:Type}{q:Nat}{dec:Tm→List Ob→(ST→R)→R}{tmO:ST→Tm}{hpO:ST→List Ob}{S:JJ→ST→R}{lp:cG}{dc:rM}(hd:dc.Ok){cc:ae}{call:aN}(hc:bC cc call){n m:Nat}{live:List Nat}{b:Co}
  (hdec:∀tm hp (Y:ST→R) (X:K),(∀st,Le (Y st) (X (tmO st) (hpO st)))→Le (dec tm hp Y) (X tm hp))
  (hS:∀(J:JJ) st,B1 lp dc cc n m b (4*q+3) (tmO st) (hpO st) J=S J st)
  (hin:∀e∈du b (4*q+3),br lp call n m e):br (Fc q dec S lp) call n m (q,live,b,false):=by
 intro tm hp J J' hJ;have:Fc q dec S lp q false m live b n tm hp J=kpL m live tm hp fun tm hp=>dec tm hp fun st=>S J st:=by
  show iL (Nat.beq q q) _ _=_;rw[Nat.beq_refl];rfl
 show Le (Fc q dec S lp q false m live b n tm hp J) (sZ (cP call n m (.gh (.keep live) b) ⟨tm,hp⟩) J');rw[this];obtain⟨st,h1,h2⟩:=RT m live tm hp;rw[h2];simp only[cP,h1];refine hdec st.tm st.hp _ (fun tm hp=>sZ (cP call n m b ⟨tm,hp⟩) J') fun s=>?_
 rw[←hS];exact ik hd hc b _ _ _ _ _ hin hJ
theorem R5 {ST:Type}{q:Nat}{dec:Tm→List Ob→(ST→R)→R}{S:JJ→(ST→R)→ST→R}{lp:cG}{call:aN}{n m:Nat}{e:Nat×List Nat×Co×Bool}(hq:Nat.beq e.1 q=false)(h:br lp call n m e):br (R4 q dec S lp) call n m e:=by
 intro tm hp J J' hJ;have:R4 q dec S lp e.1 e.2.2.2 m e.2.1 e.2.2.1 n tm hp J=lp e.1 e.2.2.2 m e.2.1 e.2.2.1 n tm hp J:=by
  show iL (Nat.beq e.1 q) _ _=_;rw[hq];rfl
 show Le (R4 q dec S lp e.1 e.2.2.2 m e.2.1 e.2.2.1 n tm hp J) _;rw[this];exact h tm hp J J' hJ
theorem OM {ST:Type}{q:Nat}{dec:Tm→List Ob→(ST→R)→R}{S:JJ→ST→R}{lp:cG}{call:aN}{n m:Nat}{e:Nat×List Nat×Co×Bool}(hq:Nat.beq e.1 q=false)(h:br lp call n m e):br (Fc q dec S lp) call n m e:=by
 intro tm hp J J' hJ;have:Fc q dec S lp e.1 e.2.2.2 m e.2.1 e.2.2.1 n tm hp J=lp e.1 e.2.2.2 m e.2.1 e.2.2.1 n tm hp J:=by
  show iL (Nat.beq e.1 q) _ _=_;rw[hq];rfl
 show Le (Fc q dec S lp e.1 e.2.2.2 m e.2.1 e.2.2.1 n tm hp J) _;rw[this];exact h tm hp J J' hJ
def adE (m:Nat)(fz:Bool)(res:List Rv)(tm:Tm)(hp:List Ob):R:=cL (m7 ⟨tm,hp⟩ res) fun ds=>Prod.rec (motive:=fun _=>R) (fun ds hp=>some (jJ (lH (iy hp bA (gy ds (kA m hp)) (List.range m))) (one ds),qZ (iy hp bA (gy ds (kA m hp)) (List.range m)) hp)) (bif fz then uj hp ds else(ds,hp))
def aem (m:Nat)(lp:cG)(dc:rM)(cc:ae)(n:Nat)(x:Fx)(args:List D)(hp:List Ob):R:=
 B1 lp dc cc n m x.body 1 (fm args 0) hp fun ex tm hp'=>exK ex (adE m x.fz x.res tm hp') (fun _=>none) (adE m x.fz x.res tm hp')
theorem TG (m:Nat)(fz:Bool)(res:List Rv)(tm:Tm)(hp:List Ob):adE m fz res tm hp=match m7 ⟨tm,hp⟩ res with
  |some ds=>some (fin m fz ds hp)
  |none=>none:=by
 unfold adE;cases m7 ⟨tm,hp⟩ res with
 |none=>rfl
 |some ds=>
  simp only[cL,fin,hU,mg,fu,gm,ka,nr]
theorem aen {lp:cG}{dc:rM}(hd:dc.Ok){cc:ae}{call:aN}(hc:bC cc call){n:Nat}{x:Fx}{args:List D}{hp:List Ob}{m:Nat}(hl:∀e∈du x.body 1,br lp call n m e):Le (aem m lp dc cc n x args hp) (tj m call n x args hp):=by
 unfold aem tj;refine(ik hd hc x.body 1 _ _ _ _ hl fun _ _ _=>Le.refl _).trans ?_;unfold sZ;cases cP call n m x.body ⟨fm args 0,hp⟩with
 |none=>exact Le.no _
 |some q=>
  obtain⟨ex,st⟩:=q;cases ex with
  |norm=>exact Le.of_eq (TG _ _ _ _ _)
  |ret=>exact Le.of_eq (TG _ _ _ _ _)
  |exit i=>exact Le.no _
def bv (tab:Nat→Option Fn)(n:Nat):ae:=fun f vs hp k=>cL (evFn tab n f vs hp) fun p=>k p.1 p.2
theorem Z7 (tab:Nat→Option Fn)(n:Nat):bC (bv tab n) (evFn tab n):=by
 intro f vs hp k k' hk;unfold bv;cases evFn tab n f vs hp with
 |none=>exact Le.no _
 |some p=>exact hk _ _
theorem aa {tab:Nat→Option Fn}{n f:Nat}{vs:List D}{hp:List Ob}{v:D}{out:List Ob}(h:evFn tab n f vs hp=some (v,out))(k:KV):bv tab n f vs hp k=k v out:=by
 unfold bv;rw[h];rfl
theorem ahP {tab:Nat→Option Fn}{f n:Nat}{x:Fx}{lp:cG}{dc:rM}(hd:dc.Ok){args:List D}{hp:List Ob}{F:R}(hx:tab f=some (.code x)){m:Nat}(hm:fD f args hp.length=m)(hl:∀e∈du x.body 1,br lp (evFn tab n) n m e)(h:aem m lp dc (bv tab n) n x args hp=F):Le F (evFn tab (n+1) f args hp):=by
 subst h;have:evFn tab (n+1) f args hp=tj m (evFn tab n) n x args hp:=by simp only[evFn,hx,hm]
 rw[this];exact aen hd (Z7 tab n) hl
end
end Go.Ab
end
section
namespace Go.Ab
open Go
noncomputable section
variable [Mv]
structure Rd (T α:Type) where
 e:α→T
 d:T→(α→R)→R
 ok:∀(x:T) (k:α→R) (X:T→R),(∀a,Le (k a) (X (e a)))→Le (d x k) (X x)
namespace Rd
variable {T α β:Type}
def rm (r:Rd T α)(f:α→β)(g:β→α)(h:∀a,g (f a)=a:=by exact fun _=>rfl):Rd T β where
 e b:=r.e (g b)
 d x k:=r.d x fun a=>k (f a)
 ok x k X H:=r.ok x _ X fun a=>by
  have:=H (f a);rw[h a]at this;exact this
def I (i:IntKind):Rd Da Int:=⟨fun n=> .int i n,fun x k=>aQ i x k,fun _ _ _ H=>bg fun n q=>by subst q;exact H n⟩
def S:Rd Da (List Nat):=⟨fun s=> .str s,fun x k=>gZ x k,fun _ _ _ H=>dr fun n q=>by subst q;exact H n⟩
def B:Rd Da Bool:=⟨fun s=> .bool s,fun x k=>az x k,fun _ _ _ H=>cj fun n q=>by subst q;exact H n⟩
def L (z:Nat):Rd Da (List Da):=⟨fun s=> .slice z s,fun x k=>gj z x k,fun _ _ _ H=>bX fun n q=>by subst q;exact H n⟩
def M:Rd Da (List Da×List Da):=⟨fun s=> .map s.1 s.2,fun x k=>rK x fun a b=>k (a,b),fun _ _ _ H=>xg fun a b q=>by subst q;exact H (a,b)⟩
def X:Rd Da Da:=⟨fun x=>x,fun x k=>k x,fun x _ _ H=>H x⟩
def K (i:IntKind)(c:Int):Rd Da Unit:=⟨fun _=> .int i c,fun x k=>aeT i c x (k ()),fun _ _ _ H=>ZE fun q=>by subst q;exact H ()⟩
def C (c:Bool):Rd Da Unit:=⟨fun _=> .bool c,fun x k=>ZC c x (k ()),fun _ _ _ H=>Wi fun q=>by subst q;exact H ()⟩
def G (l:Rd (List Da) α):Rd Da α:=⟨fun a=> .agg (l.e a),fun x k=>j5 x fun cs=>l.d cs k,fun _ _ X H=>dq fun cs q=>by subst q;exact l.ok cs _ (fun cs=>X (.agg cs)) H⟩
def FP (f:Nat)(l:Rd (List Da) α):Rd Da α:=⟨fun a=> .fn f (l.e a),fun x k=>ahH f x fun cs=>l.d cs k,fun _ _ X H=>ada fun cs q=>by subst q;exact l.ok cs _ (fun cs=>X (.fn f cs)) H⟩
def Nm:Rd Da Unit:=⟨fun _=> .nilmap,fun x k=>NL x (k ()),fun _ _ _ H=>JW fun q=>by subst q;exact H ()⟩
def P (r:Rd Da α):Rd D α:=⟨fun a=> .p (r.e a),fun x k=>dP x fun y=>r.d y k,fun _ _ X H=>bc fun y q=>by subst q;exact r.ok y _ (fun y=>X (.p y)) H⟩
def Bo (i o:Nat):Rd D Unit:=⟨fun _=> .box i o,fun x k=>GJ i o x (k ()),fun _ _ _ H=>JV fun q=>by subst q;exact H ()⟩
def Ar (i z:Nat):Rd D Nat:=⟨fun n=> .arr i 0 n z,fun x k=>Wh i z x k,fun _ _ _ H=>xf fun n q=>by subst q;exact H n⟩
def Av (i z:Nat):Rd D (Nat×Nat):=⟨fun p=> .arr i p.1 p.2 z,fun x k=>aeR i z x fun a b=>k (a,b),fun _ _ _ H=>ZB fun a b q=>by subst q;exact H (a,b)⟩
def Mp (i:Nat):Rd D Unit:=⟨fun _=> .map i,fun x k=>dMp i x (k ()),fun _ _ _ H=>vI fun q=>by subst q;exact H ()⟩
def Nl (z:Nat):Rd D Unit:=⟨fun _=> .sl .nil z [],fun x k=>dNl z x (k ()),fun _ _ _ H=>ZF fun q=>by subst q;exact H ()⟩
def Ex (z:Nat):Rd D (List Da):=⟨fun es=> .sl .exact z es,fun x k=>dEx z x k,fun _ _ _ H=>agm fun n q=>by subst q;exact H n⟩
def F (f:Nat)(l:Rd (List D) α):Rd D α:=⟨fun a=> .fn f (l.e a),fun x k=>dFn f x fun cs=>l.d cs k,fun _ _ X H=>ZD fun cs q=>by subst q;exact l.ok cs _ (fun cs=>X (.fn f cs)) H⟩
def Ob (l:Rd (List D) α):Rd Go.Ab.Ob α:=⟨fun a=> .box (l.e a),fun x k=>WN x fun cs=>l.d cs k,fun _ _ X H=>yc fun cs q=>by subst q;exact l.ok cs _ (fun cs=>X (.box cs)) H⟩
def Oa:Rd Go.Ab.Ob (List Da):=⟨fun s=> .arr s,fun x k=>O4 x k,fun _ _ _ H=>yb fun n q=>by subst q;exact H n⟩
def Om:Rd Go.Ab.Ob (List Da×List Da):=⟨fun s=> .map s.1 s.2,fun x k=>Sa x fun a b=>k (a,b),fun _ _ _ H=>ua fun a b q=>by subst q;exact H (a,b)⟩
def c (a:Rd T α)(r:Rd (List T) β):Rd (List T) (α×β):=⟨fun x=>a.e x.1::r.e x.2,fun l k=>au l fun y t=>a.d y fun x=>r.d t fun z=>k (x,z),fun _ _ X H=>ag fun y t q=>by
 subst q;exact a.ok y _ (fun y=>X (y::t)) fun x=>r.ok t _ (fun t=>X (a.e x::t)) fun z=>H (x,z)⟩
def u (a:Rd T Unit)(r:Rd (List T) β):Rd (List T) β:=⟨fun x=>a.e ()::r.e x,fun l k=>au l fun y t=>a.d y fun _=>r.d t k,fun _ _ X H=>ag fun y t q=>by
 subst q;exact a.ok y _ (fun y=>X (y::t)) fun x=>r.ok t _ (fun t=>X (a.e x::t)) fun z=>H z⟩
def n:Rd (List T) Unit:=⟨fun _=>[],fun l k=>aq l (k ()),fun _ _ _ H=>bj fun q=>by subst q;exact H ()⟩
def t (s:Nat)(a:Rd D α)(r:Rd (Tm×List Go.Ab.Ob) β):Rd (Tm×List Go.Ab.Ob) (α×β):=⟨fun x=>(.cons s (a.e x.1) (r.e x.2).1,(r.e x.2).2),fun st k=>abn s st.1 fun y t=>a.d y fun x=>r.d (t,st.2) fun z=>k (x,z),fun st _ X H=>by
 obtain⟨tm,hp⟩:=st;exact P5 fun y t q=>by
  dsimp only at q;subst q;exact a.ok y _ (fun y=>X (.cons s y t,hp)) fun x=>r.ok (t,hp) _ (fun st=>X (.cons s (a.e x) st.1,st.2)) fun z=>H (x,z)⟩
def v (s:Nat)(a:Rd D Unit)(r:Rd (Tm×List Go.Ab.Ob) β):Rd (Tm×List Go.Ab.Ob) β:=⟨fun x=>(.cons s (a.e ()) (r.e x).1,(r.e x).2),fun st k=>abn s st.1 fun y t=>a.d y fun _=>r.d (t,st.2) k,fun st _ X H=>by
 obtain⟨tm,hp⟩:=st;exact P5 fun y t q=>by
  dsimp only at q;subst q;exact a.ok y _ (fun y=>X (.cons s y t,hp)) fun x=>r.ok (t,hp) _ (fun st=>X (.cons s (a.e x) st.1,st.2)) fun z=>H z⟩
def h (l:Rd (List Go.Ab.Ob) α):Rd (Tm×List Go.Ab.Ob) α:=⟨fun x=>(.nil,l.e x),fun st k=>ain st.1 (l.d st.2 k),fun st _ X H=>by
 obtain⟨tm,hp⟩:=st;exact aes fun q=>by
  dsimp only at q;subst q;exact l.ok hp _ (fun hp=>X (.nil,hp)) H⟩
end Rd
abbrev dE:=Tm×List Ob
def bN (c:Co)(p j:Nat):Co:=(((du c p)[j]?).getD (0,[],.skip,true)).2.2.1
def Mn (lp:cG)(call:aN)(n m:Nat):List (Nat×List Nat×Co×Bool)→Prop
 |[]=>True
 |e::r=>br lp call n m e∧Mn lp call n m r
theorem av {lp:cG}{call:aN}{n m:Nat}:∀{l l':List (Nat×List Nat×Co×Bool)},l=l'→Mn lp call n m l'→∀e∈l,br lp call n m e
 |_,[],rfl,_=>fun _ h=>by cases h
 |_,_::_,rfl,⟨g,r⟩=>fun e h=>by
  rcases mζ.1 h with rfl|h
  ·exact g
  ·exact av rfl r e h
theorem aw {lp:cG}{call:aN}{n m:Nat}:Mn lp call n m []:=trivial
theorem bf {lp:cG}{call:aN}{n m:Nat}{e:Nat×List Nat×Co×Bool}{r:List (Nat×List Nat×Co×Bool)}(h:br lp call n m e)(g:Mn lp call n m r):Mn lp call n m (e::r):=⟨h,g⟩
def ei {ST:Type}(q:Nat)(r:Rd dE ST)(S:JJ→(ST→R)→ST→R)(lp:cG):cG:=R4 q (fun tm hp Y=>r.d (tm,hp) Y) S lp
def T1 {ST:Type}(q:Nat)(r:Rd dE ST)(S:JJ→ST→R)(lp:cG):cG:=Fc q (fun tm hp Y=>r.d (tm,hp) Y) S lp
section
variable {ST:Type} {q:Nat} {r:Rd dE ST} {lp:cG} {dc:rM} {cc:ae} {call:aN} {n m:Nat} {live:List Nat} {b:Co}
theorem aZ {S:JJ→(ST→R)→ST→R}(hd:dc.Ok)(hc:bC cc call)
  (hS:∀(J:JJ) (Y:ST→R) st,B1 lp dc cc n m b q (r.e st).1 (r.e st).2 (fun ex tm hp=>exK ex (kpL m live tm hp fun tm hp=>r.d (tm,hp) Y) (fun i=>J (.exit i) tm hp) (J .ret tm hp))=S J Y st)
  (hin:∀e∈du b q,br lp call n m e):br (ei q r S lp) call n m (q,live,b,true):=
 WK fun tm hp _ _ hJ=>T0 (tmO:=fun st=>(r.e st).1) (hpO:=fun st=>(r.e st).2) hd hc (fun tm hp Y X h=>r.ok (tm,hp) Y (fun st=>X st.1 st.2) h) hS hin hJ n tm hp
theorem lJ {S:JJ→ST→R}(hd:dc.Ok)(hc:bC cc call)
  (hS:∀(J:JJ) st,B1 lp dc cc n m b (4*q+3) (r.e st).1 (r.e st).2 J=S J st)
  (hin:∀e∈du b (4*q+3),br lp call n m e):br (T1 q r S lp) call n m (q,live,b,false):=
 lpCut_here (tmO:=fun st=>(r.e st).1) (hpO:=fun st=>(r.e st).2) hd hc (fun tm hp Y X h=>r.ok (tm,hp) Y (fun st=>X st.1 st.2) h) hS hin
theorem ef {S:JJ→(ST→R)→ST→R}{e:Nat×List Nat×Co×Bool}(hq:Nat.beq e.1 q=false)(h:br lp call n m e):br (ei q r S lp) call n m e:=R5 hq h
theorem dw {S:JJ→ST→R}{e:Nat×List Nat×Co×Bool}(hq:Nat.beq e.1 q=false)(h:br lp call n m e):br (T1 q r S lp) call n m e:=OM hq h
end
end
end Go.Ab
end
section
namespace Go.Ab
open Go
noncomputable section
variable [Mv]
theorem aP (t e:R):iL true t e=t:=rfl
theorem aS (t e:R):iL false t e=e:=rfl
theorem de (b:Bool)(t e:R):iL b t e=if b=true then t else e:=by cases b<;>rfl
theorem dt (p:Prop)[Decidable p](t e:R):iL (decide p) t e=if p then t else e:=by rw[de];simp only[lη]
theorem cq (p:Prop)[Decidable p](t e:R):iL (!decide p) t e=if p then e else t:=by
 rw[de];by_cases h:p<;>simp[h]
theorem be {α:Type}(x:α)(k:α→R):cL (some x) k=k x:=rfl
theorem aH {α β:Type}(f:α→β)(o:Option α)(k:β→R):cL (o.map f) k=cL o fun x=>k (f x):=by cases o<;>rfl
theorem Lu (i:Nat)(e:R)(k:Nat→R):eZ (some i) e k=k i:=rfl
theorem aa4 (e:R)(k:Nat→R):eZ none e k=e:=rfl
theorem aV (a b:Int):aB a b=decide (a=b):=by
 cases a<;>cases b<;>simp only[aB]
 ·rw[mθ];simp;omega
 ·simp
 ·simp
 ·rw[mθ];simp
theorem iR (a b:Int):aU a b=decide (a<b):=by
 cases a<;>cases b<;>simp only[aU]
 ·rw[mθ];simp[Nat.blt_eq]
 ·rw[mθ];simp;omega
 ·rw[mθ];simp;omega
 ·rw[mθ];simp[Nat.blt_eq];omega
theorem bJ (a b:Int):bx a b=decide (a≤b):=by
 unfold bx;rw[iR,mθ];simp
theorem dB:∀a b:List Nat,aO a b=decide (a=b)
 |[],[]=>by simp[aO]
 |[],_::_=>by simp[aO]
 |_::_,[]=>by simp[aO]
 |x::a,y::b=>by
  simp only[aO,dB a b];rw[mθ];cases h:Nat.beq x y
  ·have:x≠y:=fun e=>by rw[e,Nat.beq_refl]at h;cases h
   simp[this]
  ·have:=lθ h;simp[this]
theorem Yx (a b:Nat):Nat.beq a b=decide (a=b):=by rw[mθ,Nat.beq_eq,lη]
theorem jT {n:Int}(h1: -9223372036854775808≤n)(h2:n<9223372036854775808):aj .i64 n=n:=by
 cases n with
 |ofNat m=>
  have:Nat.blt m 9223372036854775808=true:=by rw[Nat.blt_eq];exact Int.ofNat_lt.mp h2
  simp only[aj,this,cond_true]
 |negSucc m=>
  have:Nat.blt m 9223372036854775808=true:=by rw[Nat.blt_eq];omega
  simp only[aj,this,cond_true]
def eG {α:Type}(l:List α)(i:Int):Option α:=if 0≤i then l[i.toNat]? else none
theorem aE {α:Type}(f:α→Da)(l:List α)(i:Int):bw (l.map f) i=(eG l i).map f:=by
 unfold bw eG;rw[bJ];by_cases h:0≤i<;>simp[h]
theorem eg {α:Type}(l:List α)(j:Nat):eG l (j:Int)=l[j]?:=by simp[eG]
theorem aG {α:Type}{l:List α}{j:Nat}(h:j<l.length):eG l (j:Int)=some l[j]:=by rw[eg,lγ h]
theorem cO {α:Type}(x:α)(l:List α):eG (x::l) 0=some x:=rfl
theorem bz (i:IntKind)(n:Int)(k:Int→R):aQ i (.int i n) k=k n:=by cases i<;>rfl
theorem ago (s:List Nat)(k:List Nat→R):gZ (.str s) k=k s:=rfl
theorem aC (b:Bool)(k:Bool→R):az (.bool b) k=k b:=rfl
theorem mW (z:Nat)(es:List Da)(k:List Da→R):gj z (.slice z es) k=k es:=by
 show iL (Nat.beq z z) _ _=_;rw[Nat.beq_refl];rfl
theorem qN (cs:List Da)(k:List Da→R):j5 (.agg cs) k=k cs:=rfl
theorem ba (x:Da)(k:Da→R):dP (.p x) k=k x:=rfl
theorem bt (ds:List D)(k:List D→R):aY (.tup ds) k=k ds:=rfl
theorem cg {α:Type}(x:α)(l:List α)(k:α→List α→R):au (x::l) k=k x l:=rfl
theorem aA {α:Type}(k:R):aq ([]:List α) k=k:=rfl
theorem Ie {α:Type}(xs:List α)(L:Nat→Int→R)(p:α→Bool)(hit:Nat→R)(out:R)
  (hs:∀q i (h:i<xs.length),L (q+1) (i:Int)=if p xs[i]=true then hit i else L q ((i+1:Nat):Int)) (he:∀q,L (q+1) (xs.length:Int)=out):
  ∀(d q i:Nat),i+d=xs.length→d<q→L q (i:Int)=match (xs.drop i).findIdx? p with|some j=>hit (i+j)|none=>out
 |0,q+1,i,h,_=>by
  obtain rfl:i=xs.length:=by omega
  rw[List.drop_length];exact he q
 |d+1,q+1,i,h,hq=>by
  have hi:i<xs.length:=by omega
  rw[hs q i hi,lμ hi,mτ];cases hp:p xs[i]
  ·simp only[Bool.false_eq_true,if_false];rw[Ie xs L p hit out hs he d q (i+1) (by omega) (by omega)];cases(xs.drop (i+1)).findIdx? p with
   |none=>rfl
   |some j=>simp only[Option.map_some];rw[show i+1+j=i+(j+1) by omega]
  ·simp only[if_true,Nat.add_zero]
theorem aX {α:Type}(xs:List α)(L:Nat→Int→R)(p:α→Bool)(hit:Nat→R)(out:R)
  (hs:∀q i (h:i<xs.length),L (q+1) (i:Int)=if p xs[i]=true then hit i else L q ((i+1:Nat):Int)) (he:∀q,L (q+1) (xs.length:Int)=out) {q:Nat} (hq:xs.length<q):
  L q 0=match xs.findIdx? p with|some j=>hit j|none=>out:=by
 have:=Ie xs L p hit out hs he xs.length q 0 (by omega) hq;simpa using this
end
end Go.Ab
end
