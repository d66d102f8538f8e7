import Derived.Test.YtmnmeiibmgcddaaGreatDoorAm5
import Derived.Shelf.Strings.Search1
set_option linter.all false
namespace Go.Ab
open Go Go.RowKit
set_option maxRecDepth 10000
def ZZ (s:LN)(c:Int):Int:=match s.findIdx? fun b=>az (Int.ofNat b) c with|some i=>i|none=> -1
def wy:LD->Option (D×List Ob)
 |[.str s,.int .u8 c]=>bif aV 0 c&&aV c 255 then some (.p (.int .i64 (ZZ s c)),[])else none
 |_=>none
def ſ (a b:Int):az a b=decide (a=b):=by
 cases a<;>cases b<;>simp only[az]
 ·rw[mι];simp;omega
 ·simp
 ·simp
 ·rw[mι];simp
def WR (n:Nat):n.toUInt8.toNat=n % 256:=rfl
def VA (c:Int)(h0:0<=c)(h1:c<=255):∀l:List UInt8,Lib.indexByte l c.toNat.toUInt8=ZZ (l.map UInt8.toNat) c
 |[]=>rfl
 |b::l=>by
  have ih:=VA c h0 h1 l;have hb:(b==c.toNat.toUInt8)=az (Int.ofNat b.toNat) c:=by
   rw[ſ,mι,beq_iff_eq,lδ];constructor
   ·intro e;rw[e,WR,Nat.mod_eq_of_lt (by omega)];exact mυ h0
   ·intro e;apply UInt8.toNat_inj.1;rw[WR,Nat.mod_eq_of_lt (by omega)];have:(b.toNat:Int)=c:=e;omega
  unfold Lib.indexByte ZZ;rw[List.map_cons,qη,hb];cases hc:az (Int.ofNat b.toNat) c
  ·simp only[Bool.false_eq_true,if_false];rw[ih];unfold ZZ;cases(l.map UInt8.toNat).findIdx? fun b=>az (Int.ofNat b) c with
   |none=>rfl
   |some i=>
    have:((i:Int)== -1)=false:=by simp
    simp only[this,Bool.false_eq_true,if_false,Option.map_some];omega
  ·simp
def idx_prim {P:Program}{G:bP}{f:Nat}(hc:eV P f)(law:∀(s:ByteArray) (c:Int) (w:World),Calls P f #[.string s,.int .u8 c] w fun e w'=>e= .returned (.int .i64 (Lib.indexByte s.data.toList c.toNat.toUInt8))/\w'=w)(L:Letters): @fe L P G f wy:=by
 intro xs r out hx;refine⟨hc,fun w S vs hS hg hv=>?_⟩
 match xs,hx with
 |[.str s,.int .u8 c],hx=>
  simp only[wy]at hx;cases hb:(aV 0 c&&aV c 255)
  ·rw[hb]at hx;cases hx
  ·rw[hb]at hx;simp only[cond_true,lβ,lτ]at hx;obtain⟨rfl,rfl⟩:=hx;rw[lγ,dY,dY,lδ,lδ]at hb;obtain⟨v,vs',rfl,h1,h2⟩:=hv.cons_inv;obtain⟨u,us',rfl,h3,h4⟩:=h2.cons_inv;obtain rfl:=h4.nil_inv;simp only[PR]at h1 h3;obtain⟨b,rfl,hb2⟩:=h1;subst h3;refine(law b c w).mono fun e w' ⟨he,hw⟩=>?_
   subst he hw;refine⟨[],S,?_,?_,Fr.refl _ _ _,fun id hid=>absurd hid (Nat.not_lt_zero _)⟩
   ·simp only[VR,PR];rw[VA c hb.1 hb.2,<-hb2]
   ·exact⟨rfl,by intro id l o h;simp at h,by rintro b ⟨id,l,o,h,_⟩;simp at h,by intro id id' l l' o o' b h;simp at h,hS⟩
section
variable {P:Program} {t:TypeId}
def Z2 {v:Value}(h:((P.info? t).bind fun i=>i.zero)=some v):∃i,P.info? t=some i/\i.zero=some v:=by
 cases hi:P.info? t with
 |none=>rw[hi]at h;cases h
 |some i=>rw[hi]at h;exact⟨i,rfl,h⟩
def EK {v:Value}(h:((P.info? t).bind fun i=>i.zero)=some v)(w:World):(zeroValue t).run P w= .ok v w:=by
 obtain⟨i,h1,h2⟩:=Z2 h;simp[zeroValue,typeInfo,h1,h2]
def EB {n:Nat}(h:((P.info? t).map fun i=>i.size)=some n)(w:World):(sizeOf t).run P w= .ok n w:=by
 cases hi:P.info? t with
 |none=>rw[hi]at h;cases h
 |some i=>
  rw[hi]at h;simp only[Option.map_some,lβ]at h;simp[sizeOf,typeInfo,hi,h]
end
def Z0 {P:Program}{a b:Nat}(mixed:P.follows .mixedOrders=true)(hf:P.funcs[a]?=some (Go.Proofs.Body.n217 ⟨fun n=>bif Nat.beq n 217 then a else b,fun t=>t,fun g=>g⟩))(hg:P.funcs[b]?=some (Go.Proofs.Body.n266 ⟨fun n=>bif Nat.beq n 217 then a else b,fun t=>t,fun g=>g⟩))
  (u3:P.underlying 3=some (.int .i64)) (u5:P.underlying 5=some (.int .u8)) (u9:P.underlying 9=some .string)
  (s3:((P.info? 3).map fun i=>i.size)=some 1) (s5:((P.info? 5).map fun i=>i.size)=some 1) (s9:((P.info? 9).map fun i=>i.size)=some 1)
  (z3:((P.info? 3).bind fun i=>i.zero)=some (.int .i64 0)) (z5:((P.info? 5).bind fun i=>i.zero)=some (.int .u8 0)) (z9:((P.info? 9).bind fun i=>i.zero)=some (.string ⟨#[]⟩)) (L:Letters) {G:bP}: @fe L P G a wy:=
 idx_prim (f:=a) ⟨_,hf,rfl,rfl⟩ (fun s c w=>Go.Proofs.Any.stringslite_IndexByte (ρ:=⟨fun n=>bif Nat.beq n 217 then a else b,fun t=>t,fun g=>g⟩)
  ⟨mixed,hf,hg,u3,Go.Proofs.run_isAgg_plain u3 rfl,EB s3,EK z3,u5,Go.Proofs.run_isAgg_plain u5 rfl,EB s5,EK z5,u9,Go.Proofs.run_isAgg_plain u9 rfl,EB s9,EK z9⟩ s c w) L
end Go.Ab
