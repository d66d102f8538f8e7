import Derived.Test.YtbgddkffhndjcaaGreatDoorAm3
set_option linter.all false
section
namespace Go.Ab
open Go
noncomputable section
abbrev LD:=List Da
abbrev LN:=List Nat
def Le (a b:R):Prop:=∀r,a=some r→b=some r
theorem Le.refl (a:R):Le a a:=fun _ h=>h
theorem Le.no (b:R):Le none b:=fun _ h=>by cases h
theorem Le.trans {a b c:R}(h:Le a b)(g:Le b c):Le a c:=fun r e=>g r (h r e)
theorem Le.of_eq {a b:R}(h:a=b):Le a b:=by rw[h];exact Le.refl b
def iL (b:Bool)(t e:R):R:=Bool.rec (motive:=fun _=>R) e t b
def cL {α:Type}(o:Option α)(k:α→R):R:=Option.rec (motive:=fun _=>R) none (fun x=>k x) o
theorem Le.grd {b:Bool}{t t':R}(h:b=true→Le t t'):Le (iL b t none) t':=by
 cases b
 ·exact Le.no _
 ·exact h rfl
theorem Le.two {b:Bool}{t e x:R}(h:b=true→Le t x)(g:b=false→Le e x):Le (iL b t e) x:=by
 cases b
 ·exact g rfl
 ·exact h rfl
theorem Le.opt {α:Type}{o:Option α}{k:α→R}{x:R}(h:∀a,o=some a→Le (k a) x):Le (cL o k) x:=by
 cases o
 ·exact Le.no _
 ·exact h _ rfl
def ar (i:IntKind)(x:Da)(k:Int→R):R:=match x with| .int j n=>iL (Nat.beq (kc j) (kc i)) (k n) none|_=>none
def cr (x:Da)(k:List Nat→R):R:=match x with| .str s=>k s|_=>none
def aF (x:Da)(k:Bool→R):R:=match x with| .bool b=>k b|_=>none
def gU (z:Nat)(x:Da)(k:List Da→R):R:=match x with| .slice y es=>iL (Nat.beq y z) (k es) none|_=>none
def vg (x:Da)(k:List Da→R):R:=match x with| .agg cs=>k cs|_=>none
def Sb (x:Da)(k:List Da→List Da→R):R:=match x with| .map ks vs=>k ks vs|_=>none
def ae {α:Type}(l:List α)(k:α→List α→R):R:=match l with|x::r=>k x r|[]=>none
def aA {α:Type}(l:List α)(k:R):R:=match l with|_::_=>none|[]=>k
def dP (d:D)(k:Da→R):R:=match d with| .p x=>k x|_=>none
def aY (d:D)(k:List D→R):R:=match d with| .tup ds=>k ds|_=>none
def mm (id off:Nat)(d:D)(k:R):R:=match d with| .box i o=>iL (Nat.beq i id) (iL (Nat.beq o off) k none) none|_=>none
def hU (id z:Nat)(d:D)(k:Nat→R):R:=match d with| .arr i lo len y=>iL (Nat.beq i id) (iL (Nat.beq lo 0) (iL (Nat.beq y z) (k len) none) none) none|_=>none
def Vn (id:Nat)(d:D)(k:R):R:=match d with| .map i=>iL (Nat.beq i id) k none|_=>none
def Gs (z:Nat)(d:D)(k:R):R:=match d with| .sl .nil y []=>iL (Nat.beq y z) k none|_=>none
def UN (z:Nat)(d:D)(k:List Da→R):R:=match d with| .sl .exact y es=>iL (Nat.beq y z) (k es) none|_=>none
def UO (f:Nat)(d:D)(k:List D→R):R:=match d with| .fn g cs=>iL (Nat.beq g f) (k cs) none|_=>none
def cn (o:Ob)(k:List D→R):R:=match o with| .box cs=>k cs|_=>none
def gp (o:Ob)(k:List Da→R):R:=match o with| .arr es=>k es|_=>none
def U9 (o:Ob)(k:List Da→R):R:=match o with| .fz es=>k es|_=>none
def T9 (o:Ob)(k:List Da→List Da→R):R:=match o with| .map ks vs=>k ks vs|_=>none
def T8 (o:Ob)(k:List Da→List Da→R):R:=match o with| .fzm ks vs=>k ks vs|_=>none
def qf (o:Ob)(k:R):R:=match o with| .dead=>k|_=>none
def Q1 (i:IntKind)(c:Int)(x:Da)(k:R):R:=match x with| .int j n=>iL (Nat.beq (kc j) (kc i)) (iL (eqI n c) k none) none|_=>none
def LB (c:Bool)(x:Da)(k:R):R:=match x,c with| .bool true,true=>k| .bool false,false=>k|_,_=>none
def TJ (d:D)(k:List D→R):R:=match d with| .agg cs=>k cs|_=>none
def Vp (x:Da)(k:R):R:=match x with| .nilptr=>k|_=>none
def Vo (x:Da)(k:R):R:=match x with| .nilmap=>k|_=>none
def TK (f:Nat)(x:Da)(k:List Da→R):R:=match x with| .fn g cs=>iL (Nat.beq g f) (k cs) none|_=>none
def NE (s:Nat)(tm:Tm)(k:D→Tm→R):R:=match tm with| .cons t d r=>iL (Nat.beq t s) (k d r) none| .nil=>none
def Uo (tm:Tm)(k:R):R:=match tm with| .cons _ _ _=>none| .nil=>k
section
variable {x:Da} {d:D} {o:Ob} {tm:Tm} {z:Nat} {Z:R}
theorem ML {i j:IntKind}(h:Nat.beq (kc j) (kc i)=true):j=i:=by
 rw[MK,lγ]at h;exact h
theorem Mk {a b:Int}(h:eqI a b=true):a=b:=by
 cases a<;>cases b<;>simp only[eqI,Bool.false_eq_true]at h
 ·rw[lζ h]
 ·rw[lζ h]
theorem ag {i:IntKind}{k:Int→R}(h:∀n,x= .int i n→Le (k n) Z):Le (ar i x k) Z:=by
 cases x<;>first|exact Le.no _|skip
 exact Le.grd fun e0=>h _ (by rw[ML e0])
theorem bM {k:List Nat→R}(h:∀s,x= .str s→Le (k s) Z):Le (cr x k) Z:=by
 cases x<;>first|exact Le.no _|exact h _ rfl
theorem gN {k:Bool→R}(h:∀s,x= .bool s→Le (k s) Z):Le (aF x k) Z:=by
 cases x<;>first|exact Le.no _|exact h _ rfl
theorem bp {k:List Da→R}(h:∀s,x= .slice z s→Le (k s) Z):Le (gU z x k) Z:=by
 cases x<;>first|exact Le.no _|skip
 exact Le.grd fun e0=>h _ (by rw[lζ e0])
theorem gy {k:List Da→R}(h:∀s,x= .agg s→Le (k s) Z):Le (vg x k) Z:=by
 cases x<;>first|exact Le.no _|exact h _ rfl
theorem Gr {k:List Da→List Da→R}(h:∀s t,x= .map s t→Le (k s t) Z):Le (Sb x k) Z:=by
 cases x<;>first|exact Le.no _|exact h _ _ rfl
theorem ab {α:Type}{l:List α}{k:α→List α→R}(h:∀a r,l=a::r→Le (k a r) Z):Le (ae l k) Z:=by
 cases l<;>first|exact Le.no _|exact h _ _ rfl
theorem aB {α:Type}{l:List α}{k:R}(h:l=[]→Le k Z):Le (aA l k) Z:=by
 cases l<;>first|exact Le.no _|exact h rfl
theorem aq {k:Da→R}(h:∀y,d= .p y→Le (k y) Z):Le (dP d k) Z:=by
 cases d<;>first|exact Le.no _|exact h _ rfl
theorem eR {k:List D→R}(h:∀y,d= .tup y→Le (k y) Z):Le (aY d k) Z:=by
 cases d<;>first|exact Le.no _|exact h _ rfl
theorem cP {id off:Nat}{k:R}(h:d= .box id off→Le k Z):Le (mm id off d k) Z:=by
 cases d<;>first|exact Le.no _|skip
 exact Le.grd fun e0=>Le.grd fun e1=>h (by rw[lζ e0,lζ e1])
theorem bL {id:Nat}{k:Nat→R}(h:∀len,d= .arr id 0 len z→Le (k len) Z):Le (hU id z d k) Z:=by
 cases d<;>first|exact Le.no _|skip
 exact Le.grd fun e0=>Le.grd fun e1=>Le.grd fun e2=>h _ (by rw[lζ e0,lζ e1,lζ e2])
theorem Sc {id:Nat}{k:R}(h:d= .map id→Le k Z):Le (Vn id d k) Z:=by
 cases d<;>first|exact Le.no _|skip
 exact Le.grd fun e0=>h (by rw[lζ e0])
theorem gX {k:R}(h:d= .sl .nil z []→Le k Z):Le (Gs z d k) Z:=by
 unfold Gs;split
 ·exact Le.grd fun e=>h (by rw[lζ e])
 ·exact Le.no _
theorem Sa {k:List Da→R}(h:∀es,d= .sl .exact z es→Le (k es) Z):Le (UN z d k) Z:=by
 unfold UN;split
 ·exact Le.grd fun e=>h _ (by rw[lζ e])
 ·exact Le.no _
theorem LC {f:Nat}{k:List D→R}(h:∀es,d= .fn f es→Le (k es) Z):Le (UO f d k) Z:=by
 cases d<;>first|exact Le.no _|skip
 exact Le.grd fun e0=>h _ (by rw[lζ e0])
theorem aZ {k:List D→R}(h:∀y,o= .box y→Le (k y) Z):Le (cn o k) Z:=by
 cases o<;>first|exact Le.no _|exact h _ rfl
theorem bO {k:List Da→R}(h:∀y,o= .arr y→Le (k y) Z):Le (gp o k) Z:=by
 cases o<;>first|exact Le.no _|exact h _ rfl
theorem Nd {k:List Da→R}(h:∀y,o= .fz y→Le (k y) Z):Le (U9 o k) Z:=by
 cases o<;>first|exact Le.no _|exact h _ rfl
theorem Ql {k:List Da→List Da→R}(h:∀s t,o= .map s t→Le (k s t) Z):Le (T9 o k) Z:=by
 cases o<;>first|exact Le.no _|exact h _ _ rfl
theorem Qk {k:List Da→List Da→R}(h:∀s t,o= .fzm s t→Le (k s t) Z):Le (T8 o k) Z:=by
 cases o<;>first|exact Le.no _|exact h _ _ rfl
theorem gQ {k:R}(h:o= .dead→Le k Z):Le (qf o k) Z:=by
 cases o<;>first|exact Le.no _|exact h rfl
theorem LE {i:IntKind}{c:Int}{k:R}(h:x= .int i c→Le k Z):Le (Q1 i c x k) Z:=by
 cases x<;>first|exact Le.no _|skip
 exact Le.grd fun e0=>Le.grd fun e1=>h (by rw[ML e0,Mk e1])
theorem Iu {c:Bool}{k:R}(h:x= .bool c→Le k Z):Le (LB c x k) Z:=by
 cases x<;>first|exact Le.no _|skip
 rename_i b;cases b<;>cases c<;>first|exact Le.no _|exact h rfl
theorem Pb {k:List D→R}(h:∀y,d= .agg y→Le (k y) Z):Le (TJ d k) Z:=by
 cases d<;>first|exact Le.no _|exact h _ rfl
theorem Se {k:R}(h:x= .nilptr→Le k Z):Le (Vp x k) Z:=by
 cases x<;>first|exact Le.no _|exact h rfl
theorem Sd {k:R}(h:x= .nilmap→Le k Z):Le (Vo x k) Z:=by
 cases x<;>first|exact Le.no _|exact h rfl
theorem Pc {f:Nat}{k:List Da→R}(h:∀es,x= .fn f es→Le (k es) Z):Le (TK f x k) Z:=by
 cases x<;>first|exact Le.no _|skip
 exact Le.grd fun e0=>h _ (by rw[lζ e0])
theorem DD {s:Nat}{k:D→Tm→R}(h:∀d r,tm= .cons s d r→Le (k d r) Z):Le (NE s tm k) Z:=by
 cases tm<;>first|exact Le.no _|skip
 exact Le.grd fun e=>h _ _ (by rw[lζ e])
theorem QC {k:R}(h:tm= .nil→Le k Z):Le (Uo tm k) Z:=by
 cases tm<;>first|exact Le.no _|exact h rfl
end
mutual
def dS:Da→Da→(Da→R)→R
 | .int i _,x,k=>ar i x fun n=>k (.int i n)
 | .str _,x,k=>cr x fun s=>k (.str s)
 | .bool _,x,k=>aF x fun b=>k (.bool b)
 | .slice z _,x,k=>gU z x fun l=>k (.slice z l)
 | .map _ _,x,k=>Sb x fun a b=>k (.map a b)
 | .agg cs,x,k=>vg x fun ds=>pZ cs ds fun es=>k (.agg es)
 | .nilptr,x,k=>Vp x (k .nilptr)
 | .nilmap,x,k=>Vo x (k .nilmap)
 |_,x,k=>k x
def pZ:List Da→List Da→(List Da→R)→R
 |[],l,k=>aA l (k [])
 |s::r,l,k=>ae l fun x t=>dS s x fun x=>pZ r t fun t=>k (x::t)
end
mutual
def iT:D→D→(D→R)→R
 | .p s,d,k=>dP d fun x=>dS s x fun x=>k (.p x)
 | .box i o,d,k=>mm i o d (k (.box i o))
 | .arr i 0 _ z,d,k=>hU i z d fun n=>k (.arr i 0 n z)
 | .map i,d,k=>Vn i d (k (.map i))
 | .sl .nil z [],d,k=>Gs z d (k (.sl .nil z []))
 | .fn f cs,d,k=>UO f d fun ds=>oL cs ds fun es=>k (.fn f es)
 | .agg cs,d,k=>TJ d fun ds=>oL cs ds fun es=>k (.agg es)
 |_,d,k=>k d
def oL:List D→List D→(List D→R)→R
 |[],l,k=>aA l (k [])
 |s::r,l,k=>ae l fun x t=>iT s x fun x=>oL r t fun t=>k (x::t)
end
def MR (s o:Ob)(k:Ob→R):R:=
 match s with
 | .box cs=>cn o fun ds=>oL cs ds fun es=>k (.box es)
 | .arr _=>gp o fun l=>k (.arr l)
 | .fz _=>U9 o fun l=>k (.fz l)
 | .map _ _=>T9 o fun a b=>k (.map a b)
 | .fzm _ _=>T8 o fun a b=>k (.fzm a b)
 | .dead=>qf o (k .dead)
 |_=>k o
def iU:List Ob→List Ob→(List Ob→R)→R
 |[],l,k=>aA l (k [])
 |s::r,l,k=>ae l fun x t=>MR s x fun x=>iU r t fun t=>k (x::t)
mutual
theorem yB:∀(s x:Da) {k:Da→R} {Z:R},Le (k x) Z→Le (dS s x k) Z
 | .int i _,x,k,Z,h=>by simp only[dS];exact ag fun n e=>by subst e;exact h
 | .str _,x,k,Z,h=>by simp only[dS];exact bM fun n e=>by subst e;exact h
 | .bool _,x,k,Z,h=>by simp only[dS];exact gN fun n e=>by subst e;exact h
 | .slice z _,x,k,Z,h=>by simp only[dS];exact bp fun n e=>by subst e;exact h
 | .map _ _,x,k,Z,h=>by simp only[dS];exact Gr fun a b e=>by subst e;exact h
 | .agg cs,x,k,Z,h=>by simp only[dS];exact gy fun ds e=>by subst e;exact vU cs ds h
 | .nilptr,x,k,Z,h=>by simp only[dS];exact Se fun e=>by subst e;exact h
 | .ptr _,x,k,Z,h=>by simp only[dS];exact h
 | .nilmap,x,k,Z,h=>by simp only[dS];exact Sd fun e=>by subst e;exact h
 | .fn _ _,x,k,Z,h=>by simp only[dS];exact h
 | .nilfn,x,k,Z,h=>by simp only[dS];exact h
 | .iface _ _,x,k,Z,h=>by simp only[dS];exact h
 | .nilif,x,k,Z,h=>by simp only[dS];exact h
 | .sliceE _ _,x,k,Z,h=>by simp only[dS];exact h
 | .sym _ _,x,k,Z,h=>by simp only[dS];exact h
theorem vU:∀(s l:List Da) {k:List Da→R} {Z:R},Le (k l) Z→Le (pZ s l k) Z
 |[],l,k,Z,h=>by simp only[pZ];exact aB fun e=>by subst e;exact h
 |s::r,l,k,Z,h=>by simp only[pZ];exact ab fun x t e=>by subst e;exact yB s x (vU r t h)
end
mutual
theorem MQ:∀(s d:D) {k:D→R} {Z:R},Le (k d) Z→Le (iT s d k) Z
 | .p s,d,k,Z,h=>by simp only[iT];exact aq fun n e=>by subst e;exact yB s n h
 | .box i o,d,k,Z,h=>by simp only[iT];exact cP fun e=>by subst e;exact h
 | .arr i 0 _ z,d,k,Z,h=>by simp only[iT];exact bL fun n e=>by subst e;exact h
 | .arr i (_+1) _ z,d,k,Z,h=>by simp only[iT];exact h
 | .map i,d,k,Z,h=>by simp only[iT];exact Sc fun e=>by subst e;exact h
 | .sl g z es,d,k,Z,h=>by
  unfold iT;split<;>first
   |contradiction
   |exact h
   |(rename_i e;cases e;exact gX fun e=>by subst e;exact h)
 | .fn f cs,d,k,Z,h=>by simp only[iT];exact LC fun ds e=>by subst e;exact ng cs ds h
 | .agg cs,d,k,Z,h=>by simp only[iT];exact Pb fun ds e=>by subst e;exact ng cs ds h
 | .tup _,d,k,Z,h=>by simp only[iT];exact h
 | .el _ _ _,d,k,Z,h=>by simp only[iT];exact h
 | .ip _ _,d,k,Z,h=>by simp only[iT];exact h
 | .iface _ _,d,k,Z,h=>by simp only[iT];exact h
 | .junk,d,k,Z,h=>by simp only[iT];exact h
theorem ng:∀(s l:List D) {k:List D→R} {Z:R},Le (k l) Z→Le (oL s l k) Z
 |[],l,k,Z,h=>by simp only[oL];exact aB fun e=>by subst e;exact h
 |s::r,l,k,Z,h=>by simp only[oL];exact ab fun x t e=>by subst e;exact MQ s x (ng r t h)
end
theorem I5 (s o:Ob){k:Ob→R}{Z:R}(h:Le (k o) Z):Le (MR s o k) Z:=by
 cases s<;>first
  |exact h
  |exact aZ fun ds e=>by subst e;exact ng _ ds h
  |exact bO fun n e=>by subst e;exact h
  |exact Nd fun n e=>by subst e;exact h
  |exact Ql fun a b e=>by subst e;exact h
  |exact Qk fun a b e=>by subst e;exact h
  |exact gQ fun e=>by subst e;exact h
theorem fm:∀(s l:List Ob) {k:List Ob→R} {Z:R},Le (k l) Z→Le (iU s l k) Z
 |[],l,k,Z,h=>by simp only[iU];exact aB fun e=>by subst e;exact h
 |s::r,l,k,Z,h=>by simp only[iU];exact ab fun x t e=>by subst e;exact I5 s x (fm r t h)
structure jR where
 el:Nat→Da→(Da→R)→R
 ca:Nat→List Ob→D→List Ob→KV→R
 mv:D→Da→(Da→R)→R
 keys:Bool
 spl:Bool
 par:Bool
structure jR.Ok (dc:jR):Prop where
 el:∀z x k,Le (dc.el z x k) (k x)
 ca:∀f hi v hp k,Le (dc.ca f hi v hp k) (k v hp)
 mv:∀z x k,Le (dc.mv z x k) (k x)
abbrev ah:=Nat→List D→List Ob→KV→R
def cI (cc:ah)(call:aC):Prop:=∀f vs hp (k k':KV),(∀v out,Le (k v out) (k' v out))→Le (cc f vs hp k) (cL (call f vs hp) fun p=>k' p.1 p.2)
abbrev KE:=D→List (Nat×Ob)→List Ob→R
def cD (o:Option ea)(k:KE):R:=cL o fun e=>k e.1 e.2.1 e.2.2
def Nr (vs:List D)(k:KE):R:=match vs with|[.p (.bool c),a,b]=>iL c (k a [] []) (k b [] [])|_=>none
def RP (op:BinOp)(vs:List D)(k:KE):R:=
 match vs with
 |[.p (.int i a),.p (.int j b)]=>match op with
  | .quo=>iL (eqI b 0) none (if i=j then k (.p (.int i (ao i (a.tdiv b)))) [] []else none)
  | .rem=>iL (eqI b 0) none (if i=j then k (.p (.int i (a.tmod b))) [] []else none)
  | .shl=>iL (br b 0) none (k (.p (.int i (ao i (a*2 ^ (min b.toNat i.bits))))) [] [])
  | .shr=>iL (br b 0) none (k (.p (.int i (a.fdiv (2 ^ (min b.toNat i.bits))))) [] [])
  |op=>cD (jb (bin op (.p (.int i a)) (.p (.int j b)))) k
 |[.p (.str a),.p (.str b)]=>match op with
  | .add=>iL (Nat.ble (a.length+b.length) uf) (k (.p (.str (a++b))) [] []) none
  |op=>cD (jb (bin op (.p (.str a)) (.p (.str b)))) k
 |[x,y]=>cD (jb (bin op x y)) k
 |_=>none
def gP:List Nat→List Da→List Da→(Bool→R)→R
 |[],_,_,k=>k true
 |c::ks,x::xs,y::ys,k=>cL (rp c x y) fun b=>iL b (gP ks xs ys k) (k false)
 |_,_,_,_=>none
def KH (ks:List Nat)(op:BinOp)(vs:List D)(k:KE):R:=
 match vs with
 |[.p (.agg xs),.p (.agg ys)]=>match op with
  | .eql=>gP ks xs ys fun b=>k (.p (.bool b)) [] []
  | .neq=>gP ks xs ys fun b=>k (.p (.bool (!b))) [] []
  |_=>none
 |_=>none
def U6 (dc:jR)(esz:Nat)(vs:List D)(k:KE):R:=
 match vs with
 |[.p (.slice z es),.p (.int _ i)]=>iL (Nat.beq z esz) (cL (jW es i) fun x=>dc.el esz x fun x=>k (.ip x 0) [] []) none
 |[.p (.sliceE z es),.p (.int _ i)]=>iL (Nat.beq z esz) (cL (jW es i) fun x=>dc.el esz x fun x=>k (.ip x 0) [] []) none
 |[.sl _ z es,.p (.int _ i)]=>iL (Nat.beq z esz) (cL (jW es i) fun x=>dc.el esz x fun x=>k (.ip x 0) [] []) none
 |[.arr id lo len z,.p (.int _ i)]=>iL (Nat.beq z esz) (iL (be 0 i) (iL (br i len) (k (.el id (lo+i.toNat) 0) [] []) none) none) none
 |_=>none
def U8 (vs:List D)(k:KE):R:=
 match vs with
 |[.p (.str s),.p (.int _ i)]=>cL (bif be 0 i then s[i.toNat]? else none) fun b=>k (.p (.int .u8 (Int.ofNat b))) [] []
 |_=>none
def iH (x:D)(y:Nat)(k:Nat→R):R:=match x with| .p (.int _ i)=>iL (be 0 i) (iL (be i y) (k i.toNat) none) none|_=>none
def hP (lo hi mx:Bool)(len:Nat)(xs:List D)(k:Nat→Nat→Nat→R):R:=
 match lo,hi,mx,xs with
 |false,false,false,[]=>k 0 len len
 |true,false,false,[a]=>iH a len fun l=>k l len len
 |false,true,false,[b]=>iH b len fun h=>k 0 h len
 |true,true,false,[a,b]=>iH b len fun h=>iH a h fun l=>k l h len
 |false,true,true,[b,c]=>iH c len fun m=>iH b m fun h=>k 0 h m
 |true,true,true,[a,b,c]=>iH c len fun m=>iH b m fun h=>iH a h fun l=>k l h m
 |_,_,_,_=>none
theorem ez {x:D}{y:Nat}{k:Nat→R}{Z:R}(h:∀n,gM x y=some n→Le (k n) Z):Le (iH x y k) Z:=by
 unfold iH;split
 ·refine Le.grd fun h1=>Le.grd fun h2=>h _ ?_
  simp only[gM,h1,h2,Bool.and_self,cond_true]
 ·exact Le.no _
theorem eV {lo hi mx:Bool}{len:Nat}{xs:List D}{k:Nat→Nat→Nat→R}{Z:R}(h:∀l a m,bC lo hi mx len xs=some (l,a,m)→Le (k l a m) Z):Le (hP lo hi mx len xs k) Z:=by
 unfold hP;split
 ·exact h _ _ _ rfl
 ·exact ez fun l h1=>h _ _ _ (by simp only[bC,h1])
 ·exact ez fun l h1=>h _ _ _ (by simp only[bC,h1])
 ·exact ez fun l h1=>ez fun l' h2=>h _ _ _ (by simp only[bC,h1,h2])
 ·exact ez fun l h1=>ez fun l' h2=>h _ _ _ (by simp only[bC,h1,h2])
 ·exact ez fun l h1=>ez fun l' h2=>ez fun l'' h3=>h _ _ _ (by simp only[bC,h1,h2,h3])
 ·exact Le.no _
def FR (lo hi:Bool)(vs:List D)(k:KE):R:=
 match vs with
 | .p (.str s)::xs=>hP lo hi false s.length xs fun l h _=>k (.p (.str ((s.drop l).take (h - l)))) [] []
 |_=>none
def NG (lo hi:Bool)(l h lo0:Nat)(n:Option Nat)(e v:R):R:=
 match lo,hi,n with
 |true,false,some n=>iL (Nat.beq l h) (iL (Nat.blt lo0 n) e v) v
 |_,_,_=>v
theorem NH (lo hi:Bool)(l h lo0:Nat)(os:List (Nat×Ob))(id:Nat)(e v:R):NG lo hi l h lo0 (sm os id) e v=bif lo&&!hi&&(Nat.beq l h&&mC os id lo0)then e else v:=by
 have hf:mC os id lo0=match sm os id with|some n=>Nat.blt lo0 n|none=>false:=by
  unfold mC sm;cases dW os id<;>rfl
 rw[hf];cases lo<;>cases hi<;>cases sm os id<;>simp only[NG,Bool.false_and,Bool.true_and,Bool.not_false,Bool.not_true,Bool.and_false,cond_false];cases Nat.beq l h<;>cases Nat.blt lo0 _<;>rfl
def Ny (esz:Nat)(lo hi mx:Bool)(vs:List D)(ids:List Nat)(obs:List Ob)(k:KE):R:=
 match mx,vs with
 |false,.p (.slice z es)::xs=>iL (w8 z esz es) (hP lo hi false es.length xs fun l h _=>k (.p (.slice z ((es.drop l).take (h - l)))) [] []) none
 |false,.sl .nil z es::xs=>iL (w8 z esz es) (hP lo hi false es.length xs fun _ _ _=>k (.sl .nil z []) [] []) none
 |false,.arr id lo0 len0 z::xs=>iL (Nat.beq z esz) (hP lo hi false len0 xs fun l h _=>NG lo hi l h lo0 (sm (ids.zip obs) id) (k (.sl .some z []) [] []) (k (.arr id (lo0+l) (h - l) z) [] [])) none
 |true,.p (.slice z es)::xs=>iL (w8 z esz es) (hP lo hi true es.length xs fun l h m=>iL (Nat.beq h m) (k (.sl .exact z ((es.drop l).take (h - l))) [] []) (k (.p (.slice z ((es.drop l).take (h - l)))) [] [])) none
 |true,.arr id lo0 len0 z::xs=>iL (Nat.beq z esz) (hP lo hi true len0 xs fun l h m=>match dW (ids.zip obs) id with
  | .arr es=>iL (Nat.beq h m) (k (.sl .exact z ((es.drop (lo0+l)).take (h - l))) [(id,.fz es)] []) (k (.p (.slice z ((es.drop (lo0+l)).take (h - l)))) [(id,.fz es)] [])
  | .fz es=>iL (Nat.beq h m) (k (.sl .exact z ((es.drop (lo0+l)).take (h - l))) [] []) (k (.p (.slice z ((es.drop (lo0+l)).take (h - l)))) [] [])
  |_=>none) none
 |mx,vs=>cD (gL esz lo hi mx vs ids obs) k
def SF (dc:jR)(n esz:Nat)(agg:Bool)(vs:List D)(k:KE):R:=
 match esz,agg,vs with
 |1,false,[.p (.agg cs),.p (.int _ i)]=>iL (be 0 i) (iL (br i n) (cL cs[i.toNat]? fun x=>dc.el 1 x fun x=>k (.p x) [] []) none) none
 |esz,agg,vs=>cD (Es n esz agg vs) k
def GN (id o esz:Nat)(i:Int)(k:KE):Nat→Nat→R
 |0,_=>none
 |m+1,j=>iL (eqI i (j:Int)) (k (.box id (o+j*esz)) [] []) (GN id o esz i k m (j+1))
def SA (n esz:Nat)(vs:List D)(k:KE):R:=
 match vs with
 |[.box id o,.p (.int _ i)]=>GN id o esz i k n 0
 |vs=>cD (BS n esz vs) k
def Ta (esz:Nat)(lo hi:Bool)(vs:List D)(k:KE):R:=
 match vs with
 | .arr id lo0 len0 z::xs=>iL (Nat.beq z esz) (hP lo hi false len0 xs fun l h _=>k (.arr id (lo0+l) (h - l) z) [] []) none
 |_=>none
def QZ (n off:Nat)(agg:Bool)(e:Da)(k:KE):R:=cL (sub (cells e) off n) fun ds=>cL (cX agg (ds.map .p)) fun d=>k d [] []
def Q2 (dc:jR)(off n:Nat):Nat:=match dc.par with|true=>1000*(off+1)+n|false=>0
def MX (dc:jR)(n:Nat)(agg:Bool)(vs:List D)(obs:List Ob)(k:KE):R:=
 match vs with
 |[.el _ i off]=>match obs with
  |[.arr es]=>cL es[i]? fun e=>dc.el (Q2 dc off n) e fun e=>QZ n off agg e k
  |[.fz es]=>cL es[i]? fun e=>dc.el (Q2 dc off n) e fun e=>QZ n off agg e k
  |_=>none
 |vs=>cD (fh n agg vs obs) k
def FW (dc:jR)(n id i off:Nat)(d:D)(ids:List Nat)(obs:List Ob)(k:KE):R:=
 match dW (ids.zip obs) id with
 | .arr es=>cL es[i]? fun e=>dc.el (1000*(off+1)+n) e fun e=>cL (pur ((ids.zip obs).filter fun p=>!Nat.beq p.1 id) d) fun x=>iL (Nat.beq (cells x).length n) (iL (Nat.ble (off+n) (cells e).length) (cL (lv e (splice (cells e) off (cells x))) fun e'=>k .junk (cj ((ids.zip obs).filter fun p=>!Nat.beq p.1 id)++[(id,.arr (es.set i e'))]) []) none) none
 |_=>none
def FV (dc:jR)(n:Nat)(vs:List D)(ids:List Nat)(obs:List Ob)(k:KE):R:=
 match dc.par,vs with
 |true,[.el id i off,d]=>FW dc n id i off d ids obs k
 |false,[.el id i 0,d]=>match dW (ids.zip obs) id with
  | .arr es=>cL es[i]? fun e=>cL (pur ((ids.zip obs).filter fun p=>!Nat.beq p.1 id) d) fun x=>iL (Nat.beq (cells x).length n) (iL (Nat.beq (cells e).length n) (cL (lv e (cells x)) fun e'=>k .junk (cj ((ids.zip obs).filter fun p=>!Nat.beq p.1 id)++[(id,.arr (es.set i e'))]) []) none) none
  |_=>none
 |_,vs=>cD (lb n vs ids obs) k
def CB (kt:TypeDesc)(x:Da):List Da→Nat→(Option Nat→R)→R
 |[],_,k=>k none
 |y::r,i,k=>cL (lA kt x y) fun b=>iL b (k (some i)) (CB kt x r (i+1) k)
def Ms (keys:Bool)(kt:TypeDesc)(x:Da)(ks:List Da)(k:Option Nat→R):R:=
 match keys with
 |true=>CB kt x ks 0 k
 |false=>cL (dK kt x ks 0) k
def SY (o:Option Nat)(e:R)(k:Nat→R):R:=match o with|none=>e|some i=>k i
def SI (dc:jR)(kt:TypeDesc)(z:D)(ok:Bool)(vs:List D)(ids:List Nat)(obs:List Ob)(k:KE):R:=
 match vs with
 |[d,.p x]=>
  match (match d with
   | .p .nilmap=>some ([],[])
   | .p (.map ks ws)=>some (ks,ws)
   | .map id=>match dW (ids.zip obs) id with
    | .map ks ws=>some (ks,ws)
    | .fzm ks ws=>some (ks,ws)
    |_=>none
   |_=>none:Option (List Da×List Da))with
  |some (ks,ws)=>Ms dc.keys kt x ks fun o=>SY o (k (bif ok then .tup [z,.p (.bool false)]else z) [] []) fun i=>cL ws[i]? fun v=>dc.mv z v fun v=>k (bif ok then .tup [.p v,.p (.bool true)]else .p v) [] []
  |none=>cD (zG kt z ok vs ids obs) k
 |vs=>cD (zG kt z ok vs ids obs) k
def M5 (keys:Bool)(kt:TypeDesc)(vs:List D)(ids:List Nat)(obs:List Ob)(k:KE):R:=
 match vs with
 |[.map id,.p x,d]=>
  match dW (ids.zip obs) id with
  | .map ks ws=>match pur ((ids.zip obs).filter fun p=>!Nat.beq p.1 id) d with
   |some y=>Ms keys kt x ks fun o=>SY o (k .junk (cj ((ids.zip obs).filter fun p=>!Nat.beq p.1 id)++[(id,.map (ks++[x]) (ws++[y]))]) []) fun i=>k .junk (cj ((ids.zip obs).filter fun p=>!Nat.beq p.1 id)++[(id,.map ks (ws.set i y))]) []
   |none=>cD (sb kt vs ids obs) k
  |_=>cD (sb kt vs ids obs) k
 |vs=>cD (sb kt vs ids obs) k
def M3 (esz:Nat)(z:Da)(bytes base kk:Nat)(vs:List D)(k:KE):R:=
 match vs with
 |[.p (.int _ l),.p (.int _ c)]=>iL (be 0 l&&be l c&&Nat.ble (c.toNat*bytes) 281474976710656&&be c 9223372036854775807) (k (.arr (base+kk) 0 l.toNat esz) [(base+kk,.arr (List.replicate l.toNat z))] []) none
 |_=>none
def eG (n bytes:Nat):Bool:=Nat.ble ((2*n+192)*bytes) 281474976710656&&Nat.ble (2*n+192) 9223372036854775807
def RK (tr:Bool)(esz bytes base kk:Nat)(vs:List D)(ids:List Nat)(obs:List Ob)(k:KE):R:=
 match vs with
 |[.arr id 0 len z,b]=>match dW (ids.zip obs) id with
  | .arr es=>match tr with
   |true=>iL (Nat.beq z esz) (cL (elems esz (ids.zip obs) b) fun ys=>iL (eG ((es.take len).length+ys.length) bytes) (k (.arr (base+kk) 0 (es.take len++ys).length esz) [(id,.dead),(base+kk,.arr (es.take len++ys))] []) none) none
   |false=>iL (Nat.beq z esz) (iL (Nat.beq len es.length) (cL (elems esz (ids.zip obs) b) fun ys=>iL (eG (es.length+ys.length) bytes) (k (.arr (base+kk) 0 (es++ys).length esz) [(id,.dead),(base+kk,.arr (es++ys))] []) none) none) none
  |_=>none
 |[.sl .nil z es,b]=>cL (elems esz (ids.zip obs) b) fun ys=>iL (eG (0+ys.length) bytes) (k (.arr (base+kk) 0 ys.length esz) [(base+kk,.arr ys)] []) none
 |[.sl .exact z [],b]=>cL (elems esz (ids.zip obs) b) fun ys=>iL (eG (0+ys.length) bytes) (k (.arr (base+kk) 0 ys.length esz) [(base+kk,.arr ys)] []) none
 |[.sl .exact z es,b]=>iL (w8 z esz es) (cL (elems esz (ids.zip obs) b) fun ys=>iL (!es.isEmpty&&ys.isEmpty) (k (.sl .exact z es) [] []) (iL (eG (es.length+ys.length) bytes) (k (.arr (base+kk) 0 (es++ys).length esz) [(base+kk,.arr (es++ys))] []) none)) none
 |vs=>cD (om esz bytes base kk vs ids obs) k
def RL (dc:jR)(esz bytes base kk:Nat)(vs:List D)(ids:List Nat)(obs:List Ob)(k:KE):R:=
 match dc.par,vs with
 |true,[.sl .exact z es,b]=>iL (w8 z esz es) (cL (elems esz (ids.zip obs) b) fun ys=>iL (!es.isEmpty&&ys.isEmpty) (k (.sl .exact z es) [] []) (iL (eG (es.length+ys.length) bytes) (k (.arr (base+kk) 0 (es++ys).length esz) [(base+kk,.arr (es++ys))] []) none)) none
 |_,vs=>RK dc.keys esz bytes base kk vs ids obs k
def RN (vs:List D)(ids:List Nat)(obs:List Ob)(k:KE):R:=
 match vs with
 |[d]=>cL (elems 1 (ids.zip obs) d) fun es=>cL (eB es) fun s=>k (.p (.str s)) [] []
 |_=>none
def Gn (dc:jR)(cc:ah)(f:Nat)(args:List D)(ids:List Nat)(obs:List Ob)(len:Nat)(k:KE):R:=
 cc f (eI (hC ids) args) (lC (hC ids) obs) fun r out=>dc.ca f (lC (hC ids) obs) r out fun r out=>iL (Nat.ble ids.length out.length) (k (fS (back ids.length len ids out.length) r) (ids.zip (lC (back ids.length len ids out.length) out)) ((lC (back ids.length len ids out.length) out).drop ids.length)) none
def zT [Mv](dc:jR)(cc:ah)(f:Nat)(args:List D)(ids:List Nat)(obs:List Ob)(len:Nat)(k:KE):R:=
 match Mv.mv f with
 |true=>cc f (eI (hC ids) args) (lC (hC ids) obs) fun r out=>dc.ca f (lC (hC ids) obs) r out fun r out=>iL (Nat.ble (dU f (eI (hC ids) args) ids.length) out.length) (k (fS (back (dU f (eI (hC ids) args) ids.length) len ids out.length) r) ((ids.take (dU f (eI (hC ids) args) ids.length)).zip (lC (back (dU f (eI (hC ids) args) ids.length) len ids out.length) out)++(ids.drop (dU f (eI (hC ids) args) ids.length)).map fun i=>(i,.dead)) ((lC (back (dU f (eI (hC ids) args) ids.length) len ids out.length) out).drop (dU f (eI (hC ids) args) ids.length))) none
 |false=>Gn dc cc f args ids obs len k
def EJ [Mv](dc:jR)(cc:ah)(vs:List D)(ids:List Nat)(obs:List Ob)(len:Nat)(k:KE):R:=
 match vs with
 | .p (.fn f caps)::args=>match Mv.mv (Bf f)with
  |true=>none
  |false=>Gn dc cc (Bf f) (iO f (caps.map .p) (args.map norm)) ids obs len k
 | .fn f caps::args=>zT dc cc (Bf f) (iO f caps (args.map norm)) ids obs len k
 |_=>none
def RG [Mv](dc:jR)(cc:ah)(base:Nat)(o:O)(kk:Nat)(vs:List D)(ids:List Nat)(obs:List Ob)(len:Nat)(k:KE):R:=
 match o with
 | .pick=>Nr vs k
 | .bin op=>RP op vs k
 | .binS ks op=>KH ks op vs k
 | .ia esz=>U6 dc esz vs k
 | .ix=>U8 vs k
 | .slStr lo hi=>FR lo hi vs k
 | .slSl esz lo hi mx=>Ny esz lo hi mx vs ids obs k
 | .slW esz lo hi=>Ta esz lo hi vs k
 | .ixa n esz agg=>SF dc n esz agg vs k
 | .iaa n esz=>SA n esz vs k
 | .load n agg=>MX dc n agg vs obs k
 | .store n=>FV dc n vs ids obs k
 | .lkp kt z ok=>SI dc kt z ok vs ids obs k
 | .mupd kt=>M5 dc.keys kt vs ids obs k
 | .mksl esz z bytes=>M3 esz z bytes base kk vs k
 | .app esz bytes=>RL dc esz bytes base kk vs ids obs k
 | .b2s=>RN vs ids obs k
 | .call f raw=>zT dc cc f (bif raw then vs else vs.map norm) ids obs len k
 | .callv=>EJ dc cc vs ids obs len k
 |o=>cD (kq (fun _ _ _=>none) base o kk vs ids obs len) k
section laws
variable {k k':KE} (hk:∀v u n,Le (k v u n) (k' v u n))
include hk
theorem dB (o:Option ea):Le (cD o k) (cD o k'):=Le.opt fun e h=>by subst h;exact hk _ _ _
theorem Ns (vs:List D):Le (Nr vs k) (cD (xV vs) k'):=by
 unfold Nr;split
 ·exact Le.two (fun h=>by subst h;exact hk _ _ _) (fun h=>by subst h;exact hk _ _ _)
 ·exact Le.no _
theorem OH (op:BinOp)(vs:List D):Le (RP op vs k) (cD (xw op vs) k'):=by
 unfold RP;split
 ·rename_i i a j b;split
  ·refine Le.two (fun _=>Le.no _) (fun h=>?_);split
   ·rename_i e;subst e;simp only[xw,bin,dD,cond_false,if_true,iG,h,jb];exact hk _ _ _
   ·exact Le.no _
  ·refine Le.two (fun _=>Le.no _) (fun h=>?_);split
   ·rename_i e;subst e;simp only[xw,bin,dD,cond_false,if_true,iG,h,jb];exact hk _ _ _
   ·exact Le.no _
  ·refine Le.two (fun _=>Le.no _) (fun h=>?_);simp only[xw,bin,dD,cond_true,ka,h,cond_false,jb];exact hk _ _ _
  ·refine Le.two (fun _=>Le.no _) (fun h=>?_);simp only[xw,bin,dD,cond_true,ka,h,cond_false,jb];exact hk _ _ _
  ·exact dB hk _
 ·split
  ·refine Le.grd fun h=>?_
   simp only[xw,bin,ow,h,cond_true,jb];exact hk _ _ _
  ·exact dB hk _
 ·exact dB hk _
 ·exact Le.no _
omit hk in
theorem my {q:Bool→R}{x:R}:∀(ks:List Nat) (xs ys:List Da),(∀b,fK ks xs ys=some b→Le (q b) x)→Le (gP ks xs ys q) x
 |[],xs,ys,h=>by unfold gP;exact h true (by simp[fK])
 |c::ks,[],ys,h=>by unfold gP;exact Le.no _
 |c::ks,x::xs,[],h=>by unfold gP;exact Le.no _
 |c::ks,x::xs,y::ys,h=>by
  unfold gP;refine Le.opt fun b hb=>Le.two (fun e=>?_) (fun e=>?_)
  ·exact my ks xs ys fun b' h'=>h b' (by simp only[fK,hb,e,cond_true,h'])
  ·exact h false (by simp only[fK,hb,e,cond_false])
theorem KK (ks:List Nat)(op:BinOp)(vs:List D):Le (KH ks op vs k) (cD (uU ks op vs) k'):=by
 unfold KH;split
 ·split
  ·refine my _ _ _ fun b hb=>?_
   simp only[uU,binS,hb,jb];exact hk _ _ _
  ·refine my _ _ _ fun b hb=>?_
   simp only[uU,binS,hb,jb];exact hk _ _ _
  ·exact Le.no _
 ·exact Le.no _
theorem Sx {dc:jR}(hd:dc.Ok)(esz:Nat)(vs:List D):Le (U6 dc esz vs k) (cD (Ge esz vs) k'):=by
 unfold U6;split
 ·refine Le.grd fun h=>Le.opt fun x hx=>(hd.el _ _ _).trans ?_
  simp only[Ge,h,cond_true,hx];exact hk _ _ _
 ·refine Le.grd fun h=>Le.opt fun x hx=>(hd.el _ _ _).trans ?_
  simp only[Ge,h,cond_true,hx];exact hk _ _ _
 ·refine Le.grd fun h=>Le.opt fun x hx=>(hd.el _ _ _).trans ?_
  simp only[Ge,h,cond_true,hx];exact hk _ _ _
 ·refine Le.grd fun h=>Le.grd fun h1=>Le.grd fun h2=>?_
  simp only[Ge,h,h1,h2,Bool.and_self,cond_true];exact hk _ _ _
 ·exact Le.no _
theorem SD (vs:List D):Le (U8 vs k) (cD (Ov vs) k'):=by
 unfold U8;split
 ·refine Le.opt fun x hx=>?_
  simp only[Ov,hx];exact hk _ _ _
 ·exact Le.no _
theorem Jo (lo hi:Bool)(vs:List D):Le (FR lo hi vs k) (cD (la lo hi vs) k'):=by
 unfold FR;split
 ·refine eV fun l h m hp=>?_
  simp only[la,hp];exact hk _ _ _
 ·exact Le.no _
theorem Nz (esz:Nat)(lo hi mx:Bool)(vs:List D)(ids:List Nat)(obs:List Ob):Le (Ny esz lo hi mx vs ids obs k) (cD (gL esz lo hi mx vs ids obs) k'):=by
 unfold Ny;split
 ·refine Le.grd fun h=>eV fun l h' m hp=>?_
  simp only[gL,h,hp,cond_true,Bool.false_and,cond_false];exact hk _ _ _
 ·refine Le.grd fun h=>eV fun l h' m hp=>?_
  simp only[gL,h,hp,cond_true];exact hk _ _ _
 ·refine Le.grd fun h=>eV fun l h' m hp=>?_
  rw[NH];simp only[gL,h,hp,cond_true,cond_false];cases lo&&!hi&&(Nat.beq l h'&&mC (ids.zip obs) _ _)<;>exact hk _ _ _
 ·refine Le.grd fun h=>eV fun l h' m hp=>Le.two (fun h1=>?_) (fun h1=>?_)
  ·simp only[gL,h,hp,cond_true,Bool.true_and,h1];exact hk _ _ _
  ·simp only[gL,h,hp,cond_true,cond_false,Bool.true_and,h1];exact hk _ _ _
 ·refine Le.grd fun h=>eV fun l h' m hp=>?_
  split
  ·rename_i es hl;refine Le.two (fun h1=>?_) (fun h1=>?_)
   ·simp only[gL,h,hp,hl,cond_true,h1];exact hk _ _ _
   ·simp only[gL,h,hp,hl,cond_true,cond_false,h1];exact hk _ _ _
  ·rename_i es hl;refine Le.two (fun h1=>?_) (fun h1=>?_)
   ·simp only[gL,h,hp,hl,cond_true,h1];exact hk _ _ _
   ·simp only[gL,h,hp,hl,cond_true,cond_false,h1];exact hk _ _ _
  ·exact Le.no _
 ·exact dB hk _
theorem P0 {dc:jR}(hd:dc.Ok)(n esz:Nat)(agg:Bool)(vs:List D):Le (SF dc n esz agg vs k) (cD (Es n esz agg vs) k'):=by
 unfold SF;split
 ·rename_i cs kk i;refine Le.grd fun h1=>Le.grd fun h2=>Le.opt fun x hx=>(hd.el _ _ _).trans ?_
  have hs:sub (cs.map D.p) (i.toNat*1) 1=some [.p x]:=by
   have hl:i.toNat<cs.length:=by
    rcases lν i.toNat cs.length with h|h
    ·exact h
    ·rw[lδ h]at hx;cases hx
   rw[lε hl,lα]at hx;unfold sub;rw[Nat.mul_one,lμ,show Nat.ble (i.toNat+1) cs.length=true by rw[Nat.ble_eq];omega,mα (by simpa using hl),List.getElem_map,hx];rfl
  simp only[Es,h1,h2,Bool.and_self,cond_true,hs,cX];exact hk _ _ _
 ·exact dB hk _
omit hk in
theorem dJ (a b:Int):eqI a b=decide (a=b):=by
 cases a<;>cases b<;>simp only[eqI]
 ·rw[mβ];simp;omega
 ·simp
 ·simp
 ·rw[mβ];simp
omit hk in
theorem p9 (a b:Int):br a b=decide (a<b):=by
 cases a<;>cases b<;>simp only[br]
 ·rw[mβ];simp[Nat.blt_eq]
 ·rw[mβ];simp;omega
 ·rw[mβ];simp;omega
 ·rw[mβ];simp[Nat.blt_eq];omega
omit hk in
theorem j1 (a b:Int):be a b=decide (a≤b):=by
 unfold be;rw[p9,mβ];simp
omit hk in
theorem CH (id o esz:Nat)(i:Int){X:R}:∀(m j n:Nat),j+m=n→(∀q:Nat,i=(q:Int)→q<n→Le (k (.box id (o+q*esz)) [] []) X)→Le (GN id o esz i k m j) X
 |0,_,_,_,_=>Le.no _
 |m+1,j,n,h,hX=>by
  unfold GN;refine Le.two (fun e=>?_) (fun _=>CH id o esz i m (j+1) n (by omega) hX);rw[dJ,lγ]at e;exact hX j e (by omega)
theorem PU (n esz:Nat)(vs:List D):Le (SA n esz vs k) (cD (BS n esz vs) k'):=by
 unfold SA;split
 ·rename_i id o kk i;refine CH id o esz i n 0 n (by omega) fun q hq hn=>?_
  subst hq;have h1:be 0 (q:Int)=true:=by rw[j1,lγ];omega
  have h2:br (q:Int) (n:Int)=true:=by rw[p9,lγ];omega
  simp only[BS,h1,h2,Bool.and_self,cond_true,Int.toNat_natCast];exact hk _ _ _
 ·exact dB hk _
theorem Qy (esz:Nat)(lo hi:Bool)(vs:List D):Le (Ta esz lo hi vs k) (cD (Ia esz lo hi vs) k'):=by
 unfold Ta;split
 ·refine Le.grd fun h=>eV fun l h' m hp=>?_
  simp only[Ia,h,hp,cond_true];exact hk _ _ _
 ·exact Le.no _
theorem MY {dc:jR}(hd:dc.Ok)(n:Nat)(agg:Bool)(vs:List D)(obs:List Ob):Le (MX dc n agg vs obs k) (cD (fh n agg vs obs) k'):=by
 unfold MX;split
 ·split
  ·refine Le.opt fun e he=>(hd.el _ _ _).trans (Le.opt fun ds hds=>Le.opt fun d hd=>?_)
   simp only[fh,he,hds,hd];exact hk _ _ _
  ·refine Le.opt fun e he=>(hd.el _ _ _).trans (Le.opt fun ds hds=>Le.opt fun d hd=>?_)
   simp only[fh,he,hds,hd];exact hk _ _ _
  ·exact Le.no _
 ·exact dB hk _
theorem Jv {dc:jR}(hd:dc.Ok)(n id i off:Nat)(d:D)(ids:List Nat)(obs:List Ob):Le (FW dc n id i off d ids obs k) (cD (lb n [.el id i off,d] ids obs) k'):=by
 unfold FW;split
 ·rename_i es hl;refine Le.opt fun e he=>(hd.el _ _ _).trans (Le.opt fun x hx=>Le.grd fun h1=>Le.grd fun h2=>Le.opt fun e' he'=>?_)
  simp only[lb,hl,he,hx,h1,h2,Bool.and_self,cond_true,he'];exact hk _ _ _
 ·exact Le.no _
theorem Ju {dc:jR}(hd:dc.Ok)(n:Nat)(vs:List D)(ids:List Nat)(obs:List Ob):Le (FV dc n vs ids obs k) (cD (lb n vs ids obs) k'):=by
 unfold FV;split
 ·exact Jv hk hd _ _ _ _ _ _ _
 ·rename_i id i d hp;split
  ·rename_i es hl;refine Le.opt fun e he=>Le.opt fun x hx=>Le.grd fun h1=>Le.grd fun h2=>Le.opt fun e' he'=>?_
   have hb:=lζ h1;have hb2:=lζ h2;have hs:splice (cells e) 0 (cells x)=cells x:=by simp[splice,hb,hb2.symm▸List.drop_length]
   have hle:Nat.ble (0+n) (cells e).length=true:=by rw[Nat.ble_eq];omega
   simp only[lb,hl,he,hx,h1,hle,Bool.and_self,cond_true,hs,he'];exact hk _ _ _
  ·exact Le.no _
 ·exact dB hk _
omit hk in
theorem CC {kt:TypeDesc}{x:Da}{q:Option Nat→R}{y:R}:∀(ks:List Da) (i:Nat),(∀o,dK kt x ks i=some o→Le (q o) y)→Le (CB kt x ks i q) y
 |[],i,h=>by unfold CB;exact h none rfl
 |c::r,i,h=>by
  unfold CB;refine Le.opt fun b hb=>Le.two (fun e=>?_) (fun e=>?_)
  ·subst e;exact h _ (by simp only[dK,hb])
  ·subst e;exact CC r (i+1) fun o ho=>h o (by simp only[dK,hb,ho])
omit hk in
theorem CD {keys:Bool}{kt:TypeDesc}{x:Da}{q:Option Nat→R}{y:R}(ks:List Da)(h:∀o,dK kt x ks 0=some o→Le (q o) y):Le (Ms keys kt x ks q) y:=by
 cases keys
 ·exact Le.opt h
 ·exact CC ks 0 h
theorem Qb {dc:jR}(hd:dc.Ok)(kt:TypeDesc)(z:D)(ok:Bool)(vs:List D)(ids:List Nat)(obs:List Ob):Le (SI dc kt z ok vs ids obs k) (cD (zG kt z ok vs ids obs) k'):=by
 unfold SI;split
 ·rename_i d x;split
  ·rename_i ks ws he;refine CD ks fun o ho=>?_
   have key:Le (SY o (k (bif ok then .tup [z,.p (.bool false)]else z) [] []) fun i=>cL ws[i]? fun v=>dc.mv z v fun v=>k (bif ok then .tup [.p v,.p (.bool true)]else .p v) [] []) (cD (match dK kt x ks 0 with
    |some (some i)=>match ws[i]? with
     |some v=>val (bif ok then .tup [.p v,.p (.bool true)]else .p v)
     |none=>none
    |some none=>val (bif ok then .tup [z,.p (.bool false)]else z)
    |none=>none) k'):=by
    rw[ho];cases o with
    |none=>exact hk _ _ _
    |some i=>
     refine Le.opt fun v hv=>(hd.mv _ _ _).trans ?_
     simp only[hv];exact hk _ _ _
   split at he
   ·simp only[lα,lι]at he;obtain⟨rfl,rfl⟩:=he;exact key
   ·simp only[lα,lι]at he;obtain⟨rfl,rfl⟩:=he;exact key
   ·split at he
    ·rename_i hl;simp only[lα,lι]at he;obtain⟨rfl,rfl⟩:=he;simp only[zG,hl];exact key
    ·rename_i hl;simp only[lα,lι]at he;obtain⟨rfl,rfl⟩:=he;simp only[zG,hl];exact key
    ·cases he
   ·cases he
  ·exact dB hk _
 ·exact dB hk _
theorem M6 (keys:Bool)(kt:TypeDesc)(vs:List D)(ids:List Nat)(obs:List Ob):Le (M5 keys kt vs ids obs k) (cD (sb kt vs ids obs) k'):=by
 unfold M5;split
 ·split
  ·rename_i hl;split
   ·rename_i y hp;refine CD _ fun o ho=>?_
    simp only[sb,hl,hp,ho];cases o<;>exact hk _ _ _
   ·exact dB hk _
  ·exact dB hk _
 ·exact dB hk _
theorem M4 (esz:Nat)(z:Da)(bytes base kk:Nat)(vs:List D):Le (M3 esz z bytes base kk vs k) (cD (BX esz z bytes base kk vs) k'):=by
 unfold M3;split
 ·refine Le.grd fun h=>?_
  simp only[BX,h,cond_true];exact hk _ _ _
 ·exact Le.no _
theorem OB (tr:Bool)(esz bytes base kk:Nat)(vs:List D)(ids:List Nat)(obs:List Ob):Le (RK tr esz bytes base kk vs ids obs k) (cD (om esz bytes base kk vs ids obs) k'):=by
 unfold RK;split
 ·rename_i id len z b;split
  ·rename_i es hl;split
   ·refine Le.grd fun h1=>Le.opt fun ys hy=>Le.grd fun h3=>?_
    unfold eG at h3;simp only[om,jX,hl,h1,cond_true,hy,List.isEmpty_cons,Bool.false_and,cond_false,List.drop_zero,h3,lπ,List.cons_append,List.nil_append];rw[←lπ];exact hk _ _ _
   refine Le.grd fun h1=>Le.grd fun h2=>Le.opt fun ys hy=>Le.grd fun h3=>?_
   have h2':=lζ h2;subst h2';unfold eG at h3;simp only[om,jX,hl,h1,cond_true,hy,List.isEmpty_cons,Bool.false_and,cond_false,List.drop_zero,List.take_length,h3,lπ,List.cons_append,List.nil_append];rw[←lπ];exact hk _ _ _
  ·exact Le.no _
 ·refine Le.opt fun ys hy=>Le.grd fun h3=>?_
  unfold eG at h3;simp only[om,jX,hy,List.isEmpty_nil,Bool.not_true,Bool.and_false,cond_false,List.length_nil,h3,cond_true,List.nil_append];rw[Nat.zero_add];exact hk _ _ _
 ·refine Le.opt fun ys hy=>Le.grd fun h3=>?_
  unfold eG at h3;simp only[om,jX,w8,List.isEmpty_nil,Bool.or_true,cond_true,hy,Bool.not_true,Bool.and_false,cond_false,List.length_nil,h3,List.nil_append];rw[Nat.zero_add];exact hk _ _ _
 ·refine Le.grd fun h1=>Le.opt fun ys hy=>Le.two (fun h2=>?_) (fun h2=>Le.grd fun h3=>?_)
  ·rw[lβ]at h2;simp only[om,jX,h1,cond_true,hy,List.isEmpty_nil,h2.1,h2.2,Bool.and_self];exact hk _ _ _
  ·unfold eG at h3;rw[Bool.and_comm]at h2;simp only[om,jX,h1,cond_true,hy,List.isEmpty_nil,Bool.true_and,h2,cond_false,h3,List.nil_append];rw[←lπ];exact hk _ _ _
 ·exact dB hk _
theorem OC (dc:jR)(esz bytes base kk:Nat)(vs:List D)(ids:List Nat)(obs:List Ob):Le (RL dc esz bytes base kk vs ids obs k) (cD (om esz bytes base kk vs ids obs) k'):=by
 unfold RL;split
 ·refine Le.grd fun h1=>Le.opt fun ys hy=>Le.two (fun h2=>?_) (fun h2=>Le.grd fun h3=>?_)
  ·rw[lβ]at h2;simp only[om,jX,h1,cond_true,hy,List.isEmpty_nil,h2.1,h2.2,Bool.and_self];exact hk _ _ _
  ·unfold eG at h3;rw[Bool.and_comm]at h2;simp only[om,jX,h1,cond_true,hy,List.isEmpty_nil,Bool.true_and,h2,cond_false,h3,List.nil_append];rw[←lπ];exact hk _ _ _
 ·exact OB hk _ _ _ _ _ _ _ _
theorem OE (vs:List D)(ids:List Nat)(obs:List Ob):Le (RN vs ids obs k) (cD (H7 vs ids obs) k'):=by
 unfold RN;split
 ·refine Le.opt fun es he=>Le.opt fun s hs=>?_
  simp only[H7,he,hs];exact hk _ _ _
 ·exact Le.no _
theorem B6 {dc:jR}(hd:dc.Ok){cc:ah}{call:aC}(hc:cI cc call)(f:Nat)(args:List D)(ids:List Nat)(obs:List Ob)(len:Nat):Le (Gn dc cc f args ids obs len k) (cD (dQ call f args ids obs len) k'):=by
 unfold Gn;refine(hc f _ _ _ (fun r out=>iL (Nat.ble ids.length out.length) (k' (mapD (back ids.length len ids out.length) r) (ids.zip (out.map (bB (back ids.length len ids out.length)))) ((out.map (bB (back ids.length len ids out.length))).drop ids.length)) none) fun r out=>(hd.ca _ _ _ _ _).trans ?_).trans ?_
 ·rw[eN,j3];exact Le.grd fun h=>by simp only[h,iL];exact hk _ _ _
 ·rw[gm,j3,ib];unfold dQ cD;cases call f (mapD.mapDL (idx ids) args) (obs.map (bB (idx ids)))with
  |none=>exact Le.no _
  |some p=>
   obtain⟨r,out⟩:=p;refine Le.grd fun h=>?_
   simp only[h,cond_true];exact Le.refl _
theorem yd [Mv]{dc:jR}(hd:dc.Ok){cc:ah}{call:aC}(hc:cI cc call)(f:Nat)(args:List D)(ids:List Nat)(obs:List Ob)(len:Nat):Le (zT dc cc f args ids obs len k) (cD (mj call f args ids obs len) k'):=by
 unfold zT mj;cases Mv.mv f
 ·exact B6 hk hd hc _ _ _ _ _
 simp only[cond_true];generalize hm:dU f (eI (hC ids) args) ids.length=m;refine(hc f _ _ _ (fun r out=>iL (Nat.ble m out.length) (k' (mapD (back m len ids out.length) r) ((ids.take m).zip (out.map (bB (back m len ids out.length)))++(ids.drop m).map fun i=>(i,.dead)) ((out.map (bB (back m len ids out.length))).drop m)) none) fun r out=>(hd.ca _ _ _ _ _).trans ?_).trans ?_
 ·rw[eN,j3];exact Le.grd fun h=>by simp only[h,iL];exact hk _ _ _
 ·rw[gm,ib]at hm;rw[gm,j3,ib,hm];unfold hZ cD;cases call f (mapD.mapDL (idx ids) args) (obs.map (bB (idx ids)))with
  |none=>exact Le.no _
  |some p=>
   obtain⟨r,out⟩:=p;refine Le.grd fun h=>?_
   simp only[h,cond_true];exact Le.refl _
theorem Is [Mv]{dc:jR}(hd:dc.Ok){cc:ah}{call:aC}(hc:cI cc call)(vs:List D)(ids:List Nat)(obs:List Ob)(len:Nat):Le (EJ dc cc vs ids obs len k) (cD (ve call vs ids obs len) k'):=by
 unfold EJ ve;split
 ·rename_i f caps args;simp only;cases Mv.mv (Bf f)
  ·exact B6 hk hd hc _ _ _ _ _
  ·exact Le.no _
 ·exact yd hk hd hc _ _ _ _ _
 ·exact Le.no _
theorem Ow [Mv]{dc:jR}(hd:dc.Ok){cc:ah}{call:aC}(hc:cI cc call)(base:Nat)(o:O)(kk:Nat)(vs:List D)(ids:List Nat)(obs:List Ob)(len:Nat):Le (RG dc cc base o kk vs ids obs len k) (cD (ra call base o kk vs ids obs len) k'):=by
 unfold RG;split
 ·exact Ns hk _
 ·exact OH hk _ _
 ·exact KK hk _ _ _
 ·exact Sx hk hd _ _
 ·exact SD hk _
 ·exact Jo hk _ _ _
 ·exact Nz hk _ _ _ _ _ _ _
 ·exact Qy hk _ _ _ _
 ·exact P0 hk hd _ _ _ _
 ·exact PU hk _ _ _
 ·exact MY hk hd _ _ _ _
 ·exact Ju hk hd _ _ _ _
 ·exact Qb hk hd _ _ _ _ _ _
 ·exact M6 hk _ _ _ _ _
 ·exact M4 hk _ _ _ _ _ _
 ·exact OC hk _ _ _ _ _ _ _ _
 ·exact OE hk _ _ _
 ·exact yd hk hd hc _ _ _ _ _
 ·exact Is hk hd hc _ _ _ _
 ·rename_i o' h1 h2 h3 h4 h5 h6 h7 h8 h9 h10 h11 h12 h13 h14 h15 h16;have e:kq (fun _ _ _=>none) base o kk vs ids obs len=ra call base o kk vs ids obs len:=by
   cases o<;>first|rfl|exact absurd rfl (h15 _ _)|exact absurd rfl h16
  rw[e];exact dB hk _
end laws
end
end Go.Ab
end
section
namespace Go.Ab
open Go
noncomputable section
def U2 (x:dE)(tm:Tm)(t e:R):R:=
 match x.gd with
 |none=>t
 |some (g,w)=>match get tm g with
  | .p (.bool b)=>match w with
   |true=>iL b t e
   |false=>iL b e t
  | .tup []=>e
  |_=>none
theorem Sv {x:dE}{tm:Tm}{t e X:R}(ht:cp x tm=some true→Le t X)(he:cp x tm=some false→Le e X):Le (U2 x tm t e) X:=by
 unfold U2;split
 ·rename_i h;exact ht (by simp[cp,h])
 ·rename_i g w h;split
  ·rename_i b hb;have hg:cp x tm=some (b==w):=by simp[cp,h,hb]
   cases w
   ·exact Le.two (fun e=>he (by rw[hg,e];rfl)) (fun e=>ht (by rw[hg,e];rfl))
   ·exact Le.two (fun e=>ht (by rw[hg,e];rfl)) (fun e=>he (by rw[hg,e];rfl))
  ·rename_i hb;exact he (by simp[cp,h,hb])
  ·exact Le.no _
variable [Mv]
def qc (o:O)(vs:List D)(hp:List Ob):List Nat:=
 match o with
 | .call f _=>match Mv.mv f with
  |true=>eh hp aW ((iM (dA vs []) []).flatMap fun i=>gR (aN hp i)) (iM (dA vs []) [])
  |false=>eh hp aW (dA vs []) []
 | .callv=>match vs with
  | .fn f caps::args=>match Mv.mv (Bf f)with
   |true=>eh hp aW ((iM (dA (iO f caps (args.map norm)) []) []).flatMap fun i=>gR (aN hp i)) (iM (dA (iO f caps (args.map norm)) []) [])
   |false=>eh hp aW (dA vs []) []
  |vs=>eh hp aW (dA vs []) []
 |o=>bg o vs hp
theorem M9 (o:O)(vs:List D)(hp:List Ob):qc o vs hp=cm o vs hp:=by
 cases o<;>first
  |rfl
  |(simp only[qc,cz,cT,lχ,cm,bg];done)
  |(
    rename_i f raw;simp only[qc,cz,cT,lχ,cm,oH];cases Mv.mv f<;>rfl)
  |(
    simp only[qc,cm,nG];split
    ·simp only[cz,cT,lχ,oH];cases Mv.mv _<;>rfl
    ·simp only[cz,cT,lχ];rfl)
def FT (v:D)(k:D→R):R:=match v with
 | .p (.bool b)=>iL b (k (.p (.bool true))) (k (.p (.bool false)))
 |v=>k v
theorem Jr {v:D}{k:D→R}{X:R}(h:Le (k v) X):Le (FT v k) X:=by
 unfold FT;split
 ·rename_i b;cases b<;>exact h
 ·exact h
def NC (s:Bool)(v:D)(k:D→R):R:=match s with
 |true=>FT v k
 |false=>k v
theorem Js {s:Bool}{v:D}{k:D→R}{X:R}(h:Le (k v) X):Le (NC s v k) X:=by
 cases s
 ·exact h
 ·exact Jr h
def QV (d:Option Nat):List dE→Bool
 |[]=>false
 |x::r=>match d with
  |none=>false
  |some t=>(match x.gd with|some (g,_)=>Nat.beq g t|none=>false)||((match x.op,x.as with| .pick,.t g::_=>Nat.beq g t|_,_=>false)||QV d r)
def Vd (dc:jR)(s:Bool)(cc:ah)(base:Nat)(x:dE)(tm:Tm)(hp:List Ob)(k:D→List Ob→eE→R):R:=
 iL (!(cb x.op)||bV (aN hp (base+x.k)))
  (RG dc cc base x.op x.k (x.as.map (ev tm)) (qc x.op (x.as.map (ev tm)) hp) ((qc x.op (x.as.map (ev tm)) hp).map (aN hp)) hp.length fun v ups new=>NC s v fun v=>
   k v (grow (aj hp ups) new) ⟨bif cb x.op then(base+x.k)::qc x.op (x.as.map (ev tm)) hp else qc x.op (x.as.map (ev tm)) hp,rX (qc x.op (x.as.map (ev tm)) hp) hp ups,!new.isEmpty,hp.length⟩) none
def T7 (tm:Tm)(hp:List Ob)(k:K):R:=k tm hp
def Nh (dc:jR)(cc:ah)(base:Nat):List dE→Tm→List Ob→List eE→(Tm→List Ob→List eE→R)→R
 |[],tm,hp,fs,k=>k tm hp fs.reverse
 |x::r,tm,hp,fs,k=>T7 tm hp fun tm hp=>U2 x tm (Vd dc (dc.spl||QV x.dst r) cc base x tm hp fun v hp f=>Nh dc cc base r (put x.dst v tm) hp (f::fs) k) (Nh dc cc base r (put x.dst (.tup []) tm) hp (⟨[],[],false,0⟩::fs) k)
section
variable {dc:jR} (hd:dc.Ok) {cc:ah} {call:aC} (hc:cI cc call) {base:Nat}
include hd hc
theorem SX {s:Bool}{x:dE}{tm:Tm}{hp:List Ob}{k:D→List Ob→eE→R}{X:R}(h:∀v hp' fL,nr call base x ⟨tm,hp⟩=some (⟨put x.dst v tm,hp'⟩,bE fL)→Le (k v hp' fL) X):Le (Vd dc s cc base x tm hp k) X:=by
 unfold Vd;refine Le.grd fun hm=>(Ow (fun _ _ _=>Le.refl _) hd hc _ _ _ _ _ _ _).trans ?_
 unfold cD;refine Le.opt fun e he=>?_
 obtain⟨v,ups,new⟩:=e;refine Js (h v _ _ ?_);simp only[M9]at he ⊢
 simp only[nr,hm,cond_true,he,bE,jz]
theorem AQ:∀(ops:List dE) (tm:Tm) (hp:List Ob) (fs:List eE) (k:Tm→List Ob→List eE→R) (X:R),(∀tm' hp' fs',cU call base ops ⟨tm,hp⟩ (fs.map bE)=some (⟨tm',hp'⟩,fs'.map bE)→Le (k tm' hp' fs') X)→Le (Nh dc cc base ops tm hp fs k) X
 |[],tm,hp,fs,k,X,h=>h _ _ _ (by simp only[cU,List.map_reverse])
 |x::r,tm,hp,fs,k,X,h=>by
  unfold Nh T7;refine Sv (fun hg=>SX hd hc fun v hp' fL he=>AQ r _ _ _ _ _ fun tm' hp'' fs' hr=>h _ _ _ ?_) (fun hg=>AQ r _ _ _ _ _ fun tm' hp'' fs' hr=>h _ _ _ ?_)
  ·simp only[cU,hg,he];exact hr
  ·simp only[cU,hg];exact hr
end
theorem vu {call:aC}{base:Nat}:∀{ops:List dE} {st st':St} {fs fs':List df},cU call base ops st fs=some (st',fs')→jo call base ops st=some st'
 |[],st,st',fs,fs',h=>by
  simp only[cU,lα,lι]at h;simp only[jo,h.1]
 |x::r,st,st',fs,fs',h=>by
  simp only[cU]at h;simp only[jo];split at h
  ·cases h
  ·rename_i hg;split at h
   ·cases h
   ·rename_i he;exact vu h
  ·rename_i hg;exact vu h
abbrev JJ:=Ex→Tm→List Ob→R
def mJ (o:Option (Ex×St))(J:JJ):R:=cL o fun p=>J p.1 p.2.tm p.2.hp
def Tv (J J':JJ):Prop:=∀ex tm hp,Le (J ex tm hp) (J' ex tm hp)
def PG (ex:Ex)(n:R)(e:Nat→R)(r:R):R:=Ex.rec (motive:=fun _=>R) n (fun i=>e i) r ex
def S5 (dc:jR)(cc:ah)(nal:Nat)(ops:List dE)(prs:Option (List (Nat×Nat)))(out:List Nat)(tm:Tm)(hp:List Ob)(J:JJ):R:=
 Nh dc cc hp.length ops tm (grow hp (List.replicate nal .unborn)) [] fun tm hp fs=>match prs with
  |none=>J .norm (dR out id tm) hp
  |some ps=>iL (jV fs ps) (J .norm (dR out id tm) hp) none
theorem Qt {dc:jR}(hd:dc.Ok){cc:ah}{call:aC}(hc:cI cc call)(nal:Nat)(ops:List dE)(prs:Option (List (Nat×Nat)))(out:List Nat)(tm:Tm)(hp:List Ob){J J':JJ}(hJ:Tv J J')(n m:Nat):Le (S5 dc cc nal ops prs out tm hp J) (mJ (bT call n m (.reg nal ops prs out) ⟨tm,hp⟩) J'):=by
 unfold S5;refine AQ hd hc _ _ _ _ _ _ fun tm' hp' fs' he=>?_
 split
 ·have h0:=vu he;simp only[bT,pJ,h0,mJ,cL];exact hJ _ _ _
 ·refine Le.grd fun ha=>?_
  rw[lc]at ha;simp only[List.map_nil]at he;simp only[bT,pJ,he,ha,cond_true,mJ,cL];exact hJ _ _ _
def MO (m:Nat)(live:List Nat)(tm:Tm)(hp:List Ob)(k:K):R:=
 k (dR live (fS (hC (eh hp aW (dA (live.map (get tm)) (gC m hp)) (List.range m)))) tm) (lx (eh hp aW (dA (live.map (get tm)) (gC m hp)) (List.range m)) hp)
theorem E8 (m:Nat)(live:List Nat)(tm:Tm)(hp:List Ob):∃st,jd m (.keep live) ⟨tm,hp⟩=some st∧∀k,MO m live tm hp k=k st.tm st.hp:=by
 refine⟨_,rfl,fun k=>?_⟩
 unfold MO;have e:fS (hC (eh hp aW (dA (live.map (get tm)) (gC m hp)) (List.range m)))=mapD (idx (close hp aW (dids.didsL (live.map (get tm))++(hp.take m).flatMap gR) (List.range m))):=by
  funext d
  rw[eN,ib,cz,cT,gq]
 rw[e,iZ,cz,cT,gq]
def Ux (m:Nat)(g:Gh)(tm:Tm)(hp:List Ob)(k:K):R:=
 match g with
 | .keep live=>MO m live tm hp k
 |g=>cL (jd m g ⟨tm,hp⟩) fun st=>k st.tm st.hp
def LA (d:D)(t e:R):R:=match d with| .p (.bool b)=>iL b t e|_=>none
abbrev fY:=Nat→Bool→Nat→List Nat→Co→Nat→Tm→List Ob→JJ→R
def VL (lp:fY)(n m:Nat)(g:Gh)(c:Co)(p:Nat)(tm:Tm)(hp:List Ob)(J:JJ)(k:K):R:=
 match g with
 | .keep live=>lp p false m live c n tm hp J
 | .own s z=>Ux m (.own s z) tm hp k
 | .ownc s o z=>Ux m (.ownc s o z) tm hp k
 | .frz s=>Ux m (.frz s) tm hp k
 | .frzc s o=>Ux m (.frzc s o) tm hp k
def tg (lp:fY)(dc:jR)(cc:ah)(n m:Nat)(c:Co):Nat→Tm→List Ob→JJ→R:=
 Co.rec (motive:=fun _=>Nat→Tm→List Ob→JJ→R)
  (fun _ tm hp J=>J .norm tm hp)
  (fun nal ops prs out _ tm hp J=>S5 dc cc nal ops prs out tm hp J)
  (fun _ _ a b p tm hp J=>a (4*p+1) tm hp fun ex tm hp=>PG ex (b (4*p+2) tm hp J) (fun i=>J (.exit i) tm hp) (J .ret tm hp))
  (fun x _ _ t e p tm hp J=>LA (ev tm x) (t (4*p+1) tm hp J) (e (4*p+2) tm hp J))
  (fun id _ b p tm hp J=>b (4*p+3) tm hp fun ex tm hp=>PG ex (J .norm tm hp) (fun i=>iL (Nat.beq i id) (J .norm tm hp) (J (.exit i) tm hp)) (J .ret tm hp))
  (fun live b _ p tm hp J=>lp p true m live b n tm hp J)
  (fun id _ tm hp J=>J (.exit id) tm hp)
  (fun _ tm hp J=>J .ret tm hp)
  (fun g c b p tm hp J=>VL lp n m g c p tm hp J fun tm hp=>b (4*p+3) tm hp J)
  c
def ci:Co→Nat→List (Nat×List Nat×Co×Bool)
 | .seq a b,p=>ci a (4*p+1)++ci b (4*p+2)
 | .cond _ a b,p=>ci a (4*p+1)++ci b (4*p+2)
 | .block _ b,p=>ci b (4*p+3)
 | .loop live b,p=>[(p,live,b,true)]
 | .gh (.keep live) b,p=>[(p,live,b,false)]
 | .gh _ b,p=>ci b (4*p+3)
 |_,_=>[]
def Ub (live:List Nat)(b:Co)(k:Bool):Co:=match k with|true=> .loop live b|false=> .gh (.keep live) b
def bS (lp:fY)(call:aC)(n m:Nat)(e:Nat×List Nat×Co×Bool):Prop:=
 ∀tm hp J J',Tv J J'→Le (lp e.1 e.2.2.2 m e.2.1 e.2.2.1 n tm hp J) (mJ (bT call n m (Ub e.2.1 e.2.2.1 e.2.2.2) ⟨tm,hp⟩) J')
section
variable {lp:fY} {dc:jR} (hd:dc.Ok) {cc:ah} {call:aC} (hc:cI cc call) {n m:Nat}
include hd hc
theorem eS:∀(c:Co) (p:Nat) (tm:Tm) (hp:List Ob) (J J':JJ),(∀e∈ci c p,bS lp call n m e)→Tv J J'→Le (tg lp dc cc n m c p tm hp J) (mJ (bT call n m c ⟨tm,hp⟩) J')
 | .skip,p,tm,hp,J,J',hl,hJ=>hJ _ _ _
 | .ret,p,tm,hp,J,J',hl,hJ=>hJ _ _ _
 | .exit i,p,tm,hp,J,J',hl,hJ=>hJ _ _ _
 | .reg nal ops prs out,p,tm,hp,J,J',hl,hJ=>Qt hd hc nal ops prs out tm hp hJ n m
 | .seq a b,p,tm,hp,J,J',hl,hJ=>by
  have hl1:∀e∈ci a (4*p+1),bS lp call n m e:=fun e he=>hl e (List.mem_append_left _ he)
  have hl2:∀e∈ci b (4*p+2),bS lp call n m e:=fun e he=>hl e (List.mem_append_right _ he)
  refine(eS a (4*p+1) tm hp _ (fun ex tm hp=>PG ex (mJ (bT call n m b ⟨tm,hp⟩) J') (fun i=>J' (.exit i) tm hp) (J' .ret tm hp)) hl1 ?_).trans ?_
  ·intro ex tm hp;cases ex with
   |norm=>exact eS b (4*p+2) tm hp J J' hl2 hJ
   |exit i=>exact hJ _ _ _
   |ret=>exact hJ _ _ _
  ·simp only[bT,mJ];cases bT call n m a ⟨tm,hp⟩with
   |none=>exact Le.no _
   |some q=>
    obtain⟨ex,st⟩:=q;cases ex<;>exact Le.refl _
 | .cond x t e,p,tm,hp,J,J',hl,hJ=>by
  have hl1:∀e∈ci t (4*p+1),bS lp call n m e:=fun e he=>hl e (List.mem_append_left _ he)
  have hl2:∀e'∈ci e (4*p+2),bS lp call n m e':=fun e' he=>hl e' (List.mem_append_right _ he)
  show Le (LA (ev tm x) (tg lp dc cc n m t (4*p+1) tm hp J) (tg lp dc cc n m e (4*p+2) tm hp J)) _;unfold LA;simp only[bT];split
  ·rename_i b hb;refine Le.two (fun h=>?_) (fun h=>?_)
   ·subst h;simp only[hb];exact eS t _ tm hp J J' hl1 hJ
   ·subst h;simp only[hb];exact eS e _ tm hp J J' hl2 hJ
  ·exact Le.no _
 | .block id b,p,tm,hp,J,J',hl,hJ=>by
  refine(eS b (4*p+3) tm hp _ (fun ex tm hp=>PG ex (J' .norm tm hp) (fun i=>iL (Nat.beq i id) (J' .norm tm hp) (J' (.exit i) tm hp)) (J' .ret tm hp)) hl ?_).trans ?_
  ·intro ex tm hp;cases ex with
   |norm=>exact hJ _ _ _
   |exit i=>
    show Le (iL (Nat.beq i id) _ _) (iL (Nat.beq i id) _ _);cases Nat.beq i id<;>exact hJ _ _ _
   |ret=>exact hJ _ _ _
  ·simp only[bT,mJ];cases bT call n m b ⟨tm,hp⟩with
   |none=>exact Le.no _
   |some q=>
    obtain⟨ex,st⟩:=q;cases ex with
    |norm=>exact Le.refl _
    |ret=>exact Le.refl _
    |exit i=>
     simp only[cL,PG];cases h:Nat.beq i id<;>simp only[iL,cond_true,cond_false]<;>exact Le.refl _
 | .loop live b,p,tm,hp,J,J',hl,hJ=>hl (p,live,b,true) (mι ..) tm hp J J' hJ
 | .gh (.keep live) b,p,tm,hp,J,J',hl,hJ=>hl (p,live,b,false) (mι ..) tm hp J J' hJ
 | .gh (.own s z) b,p,tm,hp,J,J',hl,hJ=>by
  show Le (cL (jd m (.own s z) ⟨tm,hp⟩) fun st=>tg lp dc cc n m b (4*p+3) st.tm st.hp J) _;refine Le.opt fun st hs=>?_
  simp only[bT,hs];exact eS b (4*p+3) st.tm st.hp J J' hl hJ
 | .gh (.ownc s o z) b,p,tm,hp,J,J',hl,hJ=>by
  show Le (cL (jd m (.ownc s o z) ⟨tm,hp⟩) fun st=>tg lp dc cc n m b (4*p+3) st.tm st.hp J) _;refine Le.opt fun st hs=>?_
  simp only[bT,hs];exact eS b (4*p+3) st.tm st.hp J J' hl hJ
 | .gh (.frz s) b,p,tm,hp,J,J',hl,hJ=>by
  show Le (cL (jd m (.frz s) ⟨tm,hp⟩) fun st=>tg lp dc cc n m b (4*p+3) st.tm st.hp J) _;refine Le.opt fun st hs=>?_
  simp only[bT,hs];exact eS b (4*p+3) st.tm st.hp J J' hl hJ
 | .gh (.frzc s o) b,p,tm,hp,J,J',hl,hJ=>by
  show Le (cL (jd m (.frzc s o) ⟨tm,hp⟩) fun st=>tg lp dc cc n m b (4*p+3) st.tm st.hp J) _;refine Le.opt fun st hs=>?_
  simp only[bT,hs];exact eS b (4*p+3) st.tm st.hp J J' hl hJ
def nu {ST:Type}(S:(ST→R)→ST→R)(k:Nat)(st:ST):R:=Nat.rec (motive:=fun _=>ST→R) (fun _=>none) (fun _ ih st=>S ih st) k st
theorem GY {ST:Type}{live:List Nat}{b:Co}{p:Nat}{dec:Tm→List Ob→(ST→R)→R}{tmO:ST→Tm}{hpO:ST→List Ob}{S:JJ→(ST→R)→ST→R}
  (hdec:∀tm hp (Y:ST→R) (X:K),(∀st,Le (Y st) (X (tmO st) (hpO st)))→Le (dec tm hp Y) (X tm hp))
  (hS:∀(J:JJ) (Y:ST→R) st,tg lp dc cc n m b p (tmO st) (hpO st) (fun ex tm hp=>PG ex (MO m live tm hp fun tm hp=>dec tm hp Y) (fun i=>J (.exit i) tm hp) (J .ret tm hp))=S J Y st)
  (hin:∀e∈ci b p,bS lp call n m e) {J J':JJ} (hJ:Tv J J'):∀(k:Nat) (tm:Tm) (hp:List Ob),
  Le (MO m live tm hp fun tm hp=>dec tm hp fun st=>nu (S J) k st) (mJ (rz m (bT call n m b) live k ⟨tm,hp⟩) J')
 |0,tm,hp=>by
  obtain⟨st,_,h2⟩:=E8 m live tm hp;rw[h2];exact(hdec st.tm st.hp _ (fun _ _=>none) fun _=>Le.no _).trans (Le.no _)
 |k+1,tm,hp=>by
  obtain⟨st,h1,h2⟩:=E8 m live tm hp;rw[h2];have e:mJ (rz m (bT call n m b) live (k+1) ⟨tm,hp⟩) J'=mJ (bT call n m b st) (fun ex tm hp=>PG ex (mJ (rz m (bT call n m b) live k ⟨tm,hp⟩) J') (fun i=>J' (.exit i) tm hp) (J' .ret tm hp)):=by
   simp only[rz,h1];cases bT call n m b st with
   |none=>rfl
   |some q=>
    obtain⟨ex,st'⟩:=q;cases ex<;>rfl
  rw[e];refine hdec st.tm st.hp _ (fun tm hp=>mJ (bT call n m b ⟨tm,hp⟩) _) fun s=>?_
  have e2:nu (S J) (k+1) s=S J (nu (S J) k) s:=rfl;rw[e2,←hS];refine eS hd hc b p _ _ _ _ hin ?_;intro ex tm hp;cases ex with
  |norm=>exact GY hdec hS hin hJ k tm hp
  |exit i=>exact hJ _ _ _
  |ret=>exact hJ _ _ _
end
def Ff {ST:Type}(q:Nat)(dec:Tm→List Ob→(ST→R)→R)(S:JJ→(ST→R)→ST→R)(lp:fY):fY:=fun p k m live b n tm hp J=>iL (Nat.beq p q) (MO m live tm hp fun tm hp=>dec tm hp fun st=>nu (S J) n st) (lp p k m live b n tm hp J)
def vX {ST:Type}(q:Nat)(dec:Tm→List Ob→(ST→R)→R)(S:JJ→ST→R)(lp:fY):fY:=fun p k m live b n tm hp J=>iL (Nat.beq p q) (MO m live tm hp fun tm hp=>dec tm hp fun st=>S J st) (lp p k m live b n tm hp J)
def bk:fY:=fun _ _ _ _ _ _ _ _ _=>none
theorem I7 {ST:Type}{q:Nat}{dec:Tm→List Ob→(ST→R)→R}{S:JJ→(ST→R)→ST→R}{lp:fY}{call:aC}{n m:Nat}{live:List Nat}{b:Co}
  (h:∀tm hp J J',Tv J J'→Le (MO m live tm hp fun tm hp=>dec tm hp fun st=>nu (S J) n st) (mJ (rz m (bT call n m b) live n ⟨tm,hp⟩) J')):bS (Ff q dec S lp) call n m (q,live,b,true):=by
 intro tm hp J J' hJ;have:Ff q dec S lp q true m live b n tm hp J=MO m live tm hp fun tm hp=>dec tm hp fun st=>nu (S J) n st:=by
  show iL (Nat.beq q q) _ _=_;rw[Nat.beq_refl];rfl
 show Le (Ff q dec S lp q true m live b n tm hp J) _;rw[this];exact h tm hp J J' hJ
theorem lpCut_here {ST:Type}{q:Nat}{dec:Tm→List Ob→(ST→R)→R}{tmO:ST→Tm}{hpO:ST→List Ob}{S:JJ→ST→R}{lp:fY}{dc:jR}(hd:dc.Ok){cc:ah}{call:aC}(hc:cI cc call){n m:Nat}{live:List Nat}{b:Co}
  (hdec:∀tm hp (Y:ST→R) (X:K),(∀st,Le (Y st) (X (tmO st) (hpO st)))→Le (dec tm hp Y) (X tm hp))
  (hS:∀(J:JJ) st,tg lp dc cc n m b (4*q+3) (tmO st) (hpO st) J=S J st)
  (hin:∀e∈ci b (4*q+3),bS lp call n m e):bS (vX q dec S lp) call n m (q,live,b,false):=by
 intro tm hp J J' hJ;have:vX q dec S lp q false m live b n tm hp J=MO m live tm hp fun tm hp=>dec tm hp fun st=>S J st:=by
  show iL (Nat.beq q q) _ _=_;rw[Nat.beq_refl];rfl
 show Le (vX q dec S lp q false m live b n tm hp J) (mJ (bT call n m (.gh (.keep live) b) ⟨tm,hp⟩) J');rw[this];obtain⟨st,h1,h2⟩:=E8 m live tm hp;rw[h2];simp only[bT,h1];refine hdec st.tm st.hp _ (fun tm hp=>mJ (bT call n m b ⟨tm,hp⟩) J') fun s=>?_
 rw[←hS];exact eS hd hc b _ _ _ _ _ hin hJ
theorem Fg {ST:Type}{q:Nat}{dec:Tm→List Ob→(ST→R)→R}{S:JJ→(ST→R)→ST→R}{lp:fY}{call:aC}{n m:Nat}{e:Nat×List Nat×Co×Bool}(hq:Nat.beq e.1 q=false)(h:bS lp call n m e):bS (Ff q dec S lp) call n m e:=by
 intro tm hp J J' hJ;have:Ff q dec S lp e.1 e.2.2.2 m e.2.1 e.2.2.1 n tm hp J=lp e.1 e.2.2.2 m e.2.1 e.2.2.1 n tm hp J:=by
  show iL (Nat.beq e.1 q) _ _=_;rw[hq];rfl
 show Le (Ff q dec S lp e.1 e.2.2.2 m e.2.1 e.2.2.1 n tm hp J) _;rw[this];exact h tm hp J J' hJ
theorem CW {ST:Type}{q:Nat}{dec:Tm→List Ob→(ST→R)→R}{S:JJ→ST→R}{lp:fY}{call:aC}{n m:Nat}{e:Nat×List Nat×Co×Bool}(hq:Nat.beq e.1 q=false)(h:bS lp call n m e):bS (vX q dec S lp) call n m e:=by
 intro tm hp J J' hJ;have:vX q dec S lp e.1 e.2.2.2 m e.2.1 e.2.2.1 n tm hp J=lp e.1 e.2.2.2 m e.2.1 e.2.2.1 n tm hp J:=by
  show iL (Nat.beq e.1 q) _ _=_;rw[hq];rfl
 show Le (vX q dec S lp e.1 e.2.2.2 m e.2.1 e.2.2.1 n tm hp J) _;rw[this];exact h tm hp J J' hJ
def PK (m:Nat)(fz:Bool)(res:List Rv)(tm:Tm)(hp:List Ob):R:=cL (iN ⟨tm,hp⟩ res) fun ds=>Prod.rec (motive:=fun _=>R) (fun ds hp=>some (fS (hC (eh hp aW (dA ds (gC m hp)) (List.range m))) (one ds),lx (eh hp aW (dA ds (gC m hp)) (List.range m)) hp)) (bif fz then nt hp ds else(ds,hp))
def Qv (m:Nat)(lp:fY)(dc:jR)(cc:ah)(n:Nat)(x:Fx)(args:List D)(hp:List Ob):R:=
 tg lp dc cc n m x.body 1 (dL args 0) hp fun ex tm hp'=>PG ex (PK m x.fz x.res tm hp') (fun _=>none) (PK m x.fz x.res tm hp')
theorem GD (m:Nat)(fz:Bool)(res:List Rv)(tm:Tm)(hp:List Ob):PK m fz res tm hp=match iN ⟨tm,hp⟩ res with
  |some ds=>some (gZ m fz ds hp)
  |none=>none:=by
 unfold PK;cases iN ⟨tm,hp⟩ res with
 |none=>rfl
 |some ds=>
  simp only[cL,gZ,eN,ib,cz,cT,gq,iZ]
theorem Qw {lp:fY}{dc:jR}(hd:dc.Ok){cc:ah}{call:aC}(hc:cI cc call){n:Nat}{x:Fx}{args:List D}{hp:List Ob}{m:Nat}(hl:∀e∈ci x.body 1,bS lp call n m e):Le (Qv m lp dc cc n x args hp) (mR m call n x args hp):=by
 unfold Qv mR;refine(eS hd hc x.body 1 _ _ _ _ hl fun _ _ _=>Le.refl _).trans ?_;unfold mJ;cases bT call n m x.body ⟨dL args 0,hp⟩with
 |none=>exact Le.no _
 |some q=>
  obtain⟨ex,st⟩:=q;cases ex with
  |norm=>exact Le.of_eq (GD _ _ _ _ _)
  |ret=>exact Le.of_eq (GD _ _ _ _ _)
  |exit i=>exact Le.no _
def bu (tab:Nat→Option Fn)(n:Nat):ah:=fun f vs hp k=>cL (evFn tab n f vs hp) fun p=>k p.1 p.2
theorem Mn (tab:Nat→Option Fn)(n:Nat):cI (bu tab n) (evFn tab n):=by
 intro f vs hp k k' hk;unfold bu;cases evFn tab n f vs hp with
 |none=>exact Le.no _
 |some p=>exact hk _ _
theorem aa {tab:Nat→Option Fn}{n f:Nat}{vs:List D}{hp:List Ob}{v:D}{out:List Ob}(h:evFn tab n f vs hp=some (v,out))(k:KV):bu tab n f vs hp k=k v out:=by
 unfold bu;rw[h];rfl
theorem TQ {tab:Nat→Option Fn}{f n:Nat}{x:Fx}{lp:fY}{dc:jR}(hd:dc.Ok){args:List D}{hp:List Ob}{F:R}(hx:tab f=some (.code x)){m:Nat}(hm:dU f args hp.length=m)(hl:∀e∈ci x.body 1,bS lp (evFn tab n) n m e)(h:Qv m lp dc (bu tab n) n x args hp=F):Le F (evFn tab (n+1) f args hp):=by
 subst h;have:evFn tab (n+1) f args hp=mR m (evFn tab n) n x args hp:=by simp only[evFn,hx,hm]
 rw[this];exact Qw hd (Mn tab n) hl
end
end Go.Ab
end
section
namespace Go.Ab
open Go
noncomputable section
variable [Mv]
structure Rd (T α:Type) where
 e:α→T
 d:T→(α→R)→R
 ok:∀(x:T) (k:α→R) (X:T→R),(∀a,Le (k a) (X (e a)))→Le (d x k) (X x)
namespace Rd
variable {T α β:Type}
def rm (r:Rd T α)(f:α→β)(g:β→α)(h:∀a,g (f a)=a:=by exact fun _=>rfl):Rd T β where
 e b:=r.e (g b)
 d x k:=r.d x fun a=>k (f a)
 ok x k X H:=r.ok x _ X fun a=>by
  have:=H (f a);rw[h a]at this;exact this
def I (i:IntKind):Rd Da Int:=⟨fun n=> .int i n,fun x k=>ar i x k,fun _ _ _ H=>ag fun n q=>by subst q;exact H n⟩
def S:Rd Da (List Nat):=⟨fun s=> .str s,fun x k=>cr x k,fun _ _ _ H=>bM fun n q=>by subst q;exact H n⟩
def B:Rd Da Bool:=⟨fun s=> .bool s,fun x k=>aF x k,fun _ _ _ H=>gN fun n q=>by subst q;exact H n⟩
def L (z:Nat):Rd Da (List Da):=⟨fun s=> .slice z s,fun x k=>gU z x k,fun _ _ _ H=>bp fun n q=>by subst q;exact H n⟩
def M:Rd Da (List Da×List Da):=⟨fun s=> .map s.1 s.2,fun x k=>Sb x fun a b=>k (a,b),fun _ _ _ H=>Gr fun a b q=>by subst q;exact H (a,b)⟩
def X:Rd Da Da:=⟨fun x=>x,fun x k=>k x,fun x _ _ H=>H x⟩
def K (i:IntKind)(c:Int):Rd Da Unit:=⟨fun _=> .int i c,fun x k=>Q1 i c x (k ()),fun _ _ _ H=>LE fun q=>by subst q;exact H ()⟩
def C (c:Bool):Rd Da Unit:=⟨fun _=> .bool c,fun x k=>LB c x (k ()),fun _ _ _ H=>Iu fun q=>by subst q;exact H ()⟩
def G (l:Rd (List Da) α):Rd Da α:=⟨fun a=> .agg (l.e a),fun x k=>vg x fun cs=>l.d cs k,fun _ _ X H=>gy fun cs q=>by subst q;exact l.ok cs _ (fun cs=>X (.agg cs)) H⟩
def FP (f:Nat)(l:Rd (List Da) α):Rd Da α:=⟨fun a=> .fn f (l.e a),fun x k=>TK f x fun cs=>l.d cs k,fun _ _ X H=>Pc fun cs q=>by subst q;exact l.ok cs _ (fun cs=>X (.fn f cs)) H⟩
def P (r:Rd Da α):Rd D α:=⟨fun a=> .p (r.e a),fun x k=>dP x fun y=>r.d y k,fun _ _ X H=>aq fun y q=>by subst q;exact r.ok y _ (fun y=>X (.p y)) H⟩
def Bo (i o:Nat):Rd D Unit:=⟨fun _=> .box i o,fun x k=>mm i o x (k ()),fun _ _ _ H=>cP fun q=>by subst q;exact H ()⟩
def Ar (i z:Nat):Rd D Nat:=⟨fun n=> .arr i 0 n z,fun x k=>hU i z x k,fun _ _ _ H=>bL fun n q=>by subst q;exact H n⟩
def Nl (z:Nat):Rd D Unit:=⟨fun _=> .sl .nil z [],fun x k=>Gs z x (k ()),fun _ _ _ H=>gX fun q=>by subst q;exact H ()⟩
def Ex (z:Nat):Rd D (List Da):=⟨fun es=> .sl .exact z es,fun x k=>UN z x k,fun _ _ _ H=>Sa fun n q=>by subst q;exact H n⟩
def F (f:Nat)(l:Rd (List D) α):Rd D α:=⟨fun a=> .fn f (l.e a),fun x k=>UO f x fun cs=>l.d cs k,fun _ _ X H=>LC fun cs q=>by subst q;exact l.ok cs _ (fun cs=>X (.fn f cs)) H⟩
def Ob (l:Rd (List D) α):Rd Go.Ab.Ob α:=⟨fun a=> .box (l.e a),fun x k=>cn x fun cs=>l.d cs k,fun _ _ X H=>aZ fun cs q=>by subst q;exact l.ok cs _ (fun cs=>X (.box cs)) H⟩
def Oa:Rd Go.Ab.Ob (List Da):=⟨fun s=> .arr s,fun x k=>gp x k,fun _ _ _ H=>bO fun n q=>by subst q;exact H n⟩
def c (a:Rd T α)(r:Rd (List T) β):Rd (List T) (α×β):=⟨fun x=>a.e x.1::r.e x.2,fun l k=>ae l fun y t=>a.d y fun x=>r.d t fun z=>k (x,z),fun _ _ X H=>ab fun y t q=>by
 subst q;exact a.ok y _ (fun y=>X (y::t)) fun x=>r.ok t _ (fun t=>X (a.e x::t)) fun z=>H (x,z)⟩
def u (a:Rd T Unit)(r:Rd (List T) β):Rd (List T) β:=⟨fun x=>a.e ()::r.e x,fun l k=>ae l fun y t=>a.d y fun _=>r.d t k,fun _ _ X H=>ab fun y t q=>by
 subst q;exact a.ok y _ (fun y=>X (y::t)) fun x=>r.ok t _ (fun t=>X (a.e x::t)) fun z=>H z⟩
def n:Rd (List T) Unit:=⟨fun _=>[],fun l k=>aA l (k ()),fun _ _ _ H=>aB fun q=>by subst q;exact H ()⟩
def t (s:Nat)(a:Rd D α)(r:Rd (Tm×List Go.Ab.Ob) β):Rd (Tm×List Go.Ab.Ob) (α×β):=⟨fun x=>(.cons s (a.e x.1) (r.e x.2).1,(r.e x.2).2),fun st k=>NE s st.1 fun y t=>a.d y fun x=>r.d (t,st.2) fun z=>k (x,z),fun st _ X H=>by
 obtain⟨tm,hp⟩:=st;exact DD fun y t q=>by
  dsimp only at q;subst q;exact a.ok y _ (fun y=>X (.cons s y t,hp)) fun x=>r.ok (t,hp) _ (fun st=>X (.cons s (a.e x) st.1,st.2)) fun z=>H (x,z)⟩
def v (s:Nat)(a:Rd D Unit)(r:Rd (Tm×List Go.Ab.Ob) β):Rd (Tm×List Go.Ab.Ob) β:=⟨fun x=>(.cons s (a.e ()) (r.e x).1,(r.e x).2),fun st k=>NE s st.1 fun y t=>a.d y fun _=>r.d (t,st.2) k,fun st _ X H=>by
 obtain⟨tm,hp⟩:=st;exact DD fun y t q=>by
  dsimp only at q;subst q;exact a.ok y _ (fun y=>X (.cons s y t,hp)) fun x=>r.ok (t,hp) _ (fun st=>X (.cons s (a.e x) st.1,st.2)) fun z=>H z⟩
def h (l:Rd (List Go.Ab.Ob) α):Rd (Tm×List Go.Ab.Ob) α:=⟨fun x=>(.nil,l.e x),fun st k=>Uo st.1 (l.d st.2 k),fun st _ X H=>by
 obtain⟨tm,hp⟩:=st;exact QC fun q=>by
  dsimp only at q;subst q;exact l.ok hp _ (fun hp=>X (.nil,hp)) H⟩
end Rd
abbrev nq:=Tm×List Ob
def fp (c:Co)(p j:Nat):Co:=(((ci c p)[j]?).getD (0,[],.skip,true)).2.2.1
def Bj (lp:fY)(call:aC)(n m:Nat):List (Nat×List Nat×Co×Bool)→Prop
 |[]=>True
 |e::r=>bS lp call n m e∧Bj lp call n m r
theorem aI {lp:fY}{call:aC}{n m:Nat}:∀{l l':List (Nat×List Nat×Co×Bool)},l=l'→Bj lp call n m l'→∀e∈l,bS lp call n m e
 |_,[],rfl,_=>fun _ h=>by cases h
 |_,_::_,rfl,⟨g,r⟩=>fun e h=>by
  rcases lω.1 h with rfl|h
  ·exact g
  ·exact aI rfl r e h
theorem aJ {lp:fY}{call:aC}{n m:Nat}:Bj lp call n m []:=trivial
theorem cq {lp:fY}{call:aC}{n m:Nat}{e:Nat×List Nat×Co×Bool}{r:List (Nat×List Nat×Co×Bool)}(h:bS lp call n m e)(g:Bj lp call n m r):Bj lp call n m (e::r):=⟨h,g⟩
def p8 {ST:Type}(q:Nat)(r:Rd nq ST)(S:JJ→(ST→R)→ST→R)(lp:fY):fY:=Ff q (fun tm hp Y=>r.d (tm,hp) Y) S lp
def T3 {ST:Type}(q:Nat)(r:Rd nq ST)(S:JJ→ST→R)(lp:fY):fY:=vX q (fun tm hp Y=>r.d (tm,hp) Y) S lp
section
variable {ST:Type} {q:Nat} {r:Rd nq ST} {lp:fY} {dc:jR} {cc:ah} {call:aC} {n m:Nat} {live:List Nat} {b:Co}
theorem bX {S:JJ→(ST→R)→ST→R}(hd:dc.Ok)(hc:cI cc call)
  (hS:∀(J:JJ) (Y:ST→R) st,tg lp dc cc n m b q (r.e st).1 (r.e st).2 (fun ex tm hp=>PG ex (MO m live tm hp fun tm hp=>r.d (tm,hp) Y) (fun i=>J (.exit i) tm hp) (J .ret tm hp))=S J Y st)
  (hin:∀e∈ci b q,bS lp call n m e):bS (p8 q r S lp) call n m (q,live,b,true):=
 I7 fun tm hp _ _ hJ=>GY (tmO:=fun st=>(r.e st).1) (hpO:=fun st=>(r.e st).2) hd hc (fun tm hp Y X h=>r.ok (tm,hp) Y (fun st=>X st.1 st.2) h) hS hin hJ n tm hp
theorem Fh {S:JJ→ST→R}(hd:dc.Ok)(hc:cI cc call)
  (hS:∀(J:JJ) st,tg lp dc cc n m b (4*q+3) (r.e st).1 (r.e st).2 J=S J st)
  (hin:∀e∈ci b (4*q+3),bS lp call n m e):bS (T3 q r S lp) call n m (q,live,b,false):=
 lpCut_here (tmO:=fun st=>(r.e st).1) (hpO:=fun st=>(r.e st).2) hd hc (fun tm hp Y X h=>r.ok (tm,hp) Y (fun st=>X st.1 st.2) h) hS hin
theorem SJ {S:JJ→(ST→R)→ST→R}{e:Nat×List Nat×Co×Bool}(hq:Nat.beq e.1 q=false)(h:bS lp call n m e):bS (p8 q r S lp) call n m e:=Fg hq h
theorem SK {S:JJ→ST→R}{e:Nat×List Nat×Co×Bool}(hq:Nat.beq e.1 q=false)(h:bS lp call n m e):bS (T3 q r S lp) call n m e:=CW hq h
end
end
end Go.Ab
end
section
namespace Go.Ab
open Go
noncomputable section
variable [Mv]
theorem aV (t e:R):iL true t e=t:=rfl
theorem aU (t e:R):iL false t e=e:=rfl
theorem TV (b:Bool)(t e:R):iL b t e=if b=true then t else e:=by cases b<;>rfl
theorem fX {α:Type}(x:α)(k:α→R):cL (some x) k=k x:=rfl
theorem KY {α β:Type}(f:α→β)(o:Option α)(k:β→R):cL (o.map f) k=cL o fun x=>k (f x):=by cases o<;>rfl
theorem GA:∀a b:List Nat,cM a b=decide (a=b)
 |[],[]=>by simp[cM]
 |[],_::_=>by simp[cM]
 |_::_,[]=>by simp[cM]
 |x::a,y::b=>by
  simp only[cM,GA a b];rw[mβ];cases h:Nat.beq x y
  ·have:x≠y:=fun e=>by rw[e,Nat.beq_refl]at h;cases h
   simp[this]
  ·have:=lζ h;simp[this]
theorem EB (a b:Nat):Nat.beq a b=decide (a=b):=by rw[mβ,Nat.beq_eq,lγ]
theorem gT {n:Int}(h1: -9223372036854775808≤n)(h2:n<9223372036854775808):ao .i64 n=n:=by
 cases n with
 |ofNat m=>
  have:Nat.blt m 9223372036854775808=true:=by rw[Nat.blt_eq];exact Int.ofNat_lt.mp h2
  simp only[ao,this,cond_true]
 |negSucc m=>
  have:Nat.blt m 9223372036854775808=true:=by rw[Nat.blt_eq];omega
  simp only[ao,this,cond_true]
def TD {α:Type}(l:List α)(i:Int):Option α:=if 0≤i then l[i.toNat]? else none
theorem jl {α:Type}(f:α→Da)(l:List α)(i:Int):jW (l.map f) i=(TD l i).map f:=by
 unfold jW TD;rw[j1];by_cases h:0≤i<;>simp[h]
theorem ld {α:Type}(l:List α)(j:Nat):TD l (j:Int)=l[j]?:=by simp[TD]
theorem KC {α:Type}{l:List α}{j:Nat}(h:j<l.length):TD l (j:Int)=some l[j]:=by rw[ld,lε h]
theorem aP (i:IntKind)(n:Int)(k:Int→R):ar i (.int i n) k=k n:=by cases i<;>rfl
theorem ox (s:List Nat)(k:List Nat→R):cr (.str s) k=k s:=rfl
theorem aw (b:Bool)(k:Bool→R):aF (.bool b) k=k b:=rfl
theorem se (z:Nat)(es:List Da)(k:List Da→R):gU z (.slice z es) k=k es:=by
 show iL (Nat.beq z z) _ _=_;rw[Nat.beq_refl];rfl
theorem aE (x:Da)(k:Da→R):dP (.p x) k=k x:=rfl
theorem ba (ds:List D)(k:List D→R):aY (.tup ds) k=k ds:=rfl
theorem jn {α:Type}(x:α)(l:List α)(k:α→List α→R):ae (x::l) k=k x l:=rfl
theorem aM {α:Type}(k:R):aA ([]:List α) k=k:=rfl
theorem yD {α:Type}(xs:List α)(L:Nat→Int→R)(p:α→Bool)(hit:Nat→R)(out:R)
  (hs:∀q i (h:i<xs.length),L (q+1) (i:Int)=if p xs[i]=true then hit i else L q ((i+1:Nat):Int)) (he:∀q,L (q+1) (xs.length:Int)=out):
  ∀(d q i:Nat),i+d=xs.length→d<q→L q (i:Int)=match (xs.drop i).findIdx? p with|some j=>hit (i+j)|none=>out
 |0,q+1,i,h,_=>by
  obtain rfl:i=xs.length:=by omega
  rw[List.drop_length];exact he q
 |d+1,q+1,i,h,hq=>by
  have hi:i<xs.length:=by omega
  rw[hs q i hi,mα hi,qγ];cases hp:p xs[i]
  ·simp only[Bool.false_eq_true,if_false];rw[yD xs L p hit out hs he d q (i+1) (by omega) (by omega)];cases(xs.drop (i+1)).findIdx? p with
   |none=>rfl
   |some j=>simp only[Option.map_some];rw[show i+1+j=i+(j+1) by omega]
  ·simp only[if_true,Nat.add_zero]
theorem nh {α:Type}(xs:List α)(L:Nat→Int→R)(p:α→Bool)(hit:Nat→R)(out:R)
  (hs:∀q i (h:i<xs.length),L (q+1) (i:Int)=if p xs[i]=true then hit i else L q ((i+1:Nat):Int)) (he:∀q,L (q+1) (xs.length:Int)=out) {q:Nat} (hq:xs.length<q):
  L q 0=match xs.findIdx? p with|some j=>hit j|none=>out:=by
 have:=yD xs L p hit out hs he xs.length q 0 (by omega) hq;simpa using this
end
end Go.Ab
end
