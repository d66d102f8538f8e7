import Derived.Test.YtbgddkffhndjcaaGreatDoorAbIx
import Derived.Shelf.Strconv.ParseIntPublic10
set_option linter.all false
namespace Go.Ab
open Go Go.RowKit
set_option maxRecDepth 10000
def DT (s:LN):List UInt8:=s.map Nat.toUInt8
def xW (T:Nat):Lib.NumEnd Int->D
 | .ok v=> .tup [.p (.int .i64 v),.p .nilif]
 |_=> .tup [.junk,.iface T .junk]
def xc (T:Nat):LD->Option (D×List Ob)
 |[.str s,.int .i64 b,.int .i64 z]=>bif eqI b 10&&eqI z 64&&aS (Int.ofNat s.length) 281474976710656 then some (xW T (Lib.parseIntB 64 (DT s)),[])else none
 |_=>none
def ļ (l:List UInt8):DT (l.map UInt8.toNat)=l:=by
 unfold DT;rw[List.map_map];conv=>rhs;rw[<-List.map_id l]
 apply List.map_congr_left;intro b _;apply UInt8.toNat_inj.1;simp
def aai (T:Nat)(a:Lib.NumEnd Int)(w:World)(e:Ending)(w':World):Prop:=
 Below w.heap.size w w'/\match a with
  | .ok v=>e= .returned (.tuple #[.int .i64 v,.nilIface])
  |_=>∃x y,e= .returned (.tuple #[x,.iface T y])
def H_ {P:Program}{G:bV}{f T:Nat}(L:Letters)(hc:dO P f)
  (law:∀(s:ByteArray) (w:World) (S:Nat->Prop),GR G w S->s.size<=281474976710656->Calls P f #[.string s,.int .i64 10,.int .i64 64] w (aai T (Lib.parseIntB 64 s.data.toList) w)): @iK L P G f (xc T):=by
 intro xs r out hx;refine⟨hc,fun w S vs hS hg hv=>?_⟩
 match xs,hx with
 |[.str s,.int .i64 b,.int .i64 z],hx=>
  simp only[xc]at hx;cases hb:(eqI b 10&&eqI z 64&&aS (Int.ofNat s.length) 281474976710656)
  ·rw[hb]at hx;cases hx
  ·rw[hb]at hx;simp only[cond_true,lβ,lψ]at hx;obtain⟨rfl,rfl⟩:=hx;rw[lγ,lγ,Pt,Pt,dH,lδ,lδ,lδ]at hb;obtain⟨⟨rfl,rfl⟩,hl⟩:=hb;obtain⟨v1,vs1,rfl,h1,hv⟩:=hv.cons_inv;obtain⟨v2,vs2,rfl,h2,hv⟩:=hv.cons_inv;obtain⟨v3,vs3,rfl,h3,hv⟩:=hv.cons_inv;obtain rfl:=hv.nil_inv;simp only[PR]at h1 h2 h3;obtain⟨b,rfl,rfl⟩:=h1;subst h2 h3;rw[ļ];have hsz:b.size<=281474976710656:=by
    have:(b.data.toList.map UInt8.toNat).length=b.size:=by rw[lζ,Array.length_toList];rfl
    rw[this]at hl;exact Int.ofNat_le.1 hl
   refine(law b w S hg hsz).mono fun e w' ⟨hB,he⟩=>?_
   have kX:∀v,e= .returned v->VR [] w' S (xW T (Lib.parseIntB 64 b.data.toList)) v->RetOk [] [] w S (xW T (Lib.parseIntB 64 b.data.toList)) [] 0 e w':=by
    intro v hv hr;subst hv;refine⟨[],S,hr,?_,?_,fun id hid=>absurd hid (Nat.not_lt_zero _)⟩
    ·exact⟨rfl,by intro id l o h;simp at h,by rintro b ⟨id,l,o,h,_⟩;simp at h,by intro id id' l l' o o' b h;simp at h,fun b hb'=>mχ (hS b hb') hB.size⟩
    ·exact⟨fun b hb' _=>hB.block b hb',hB.size,hB.os,hB.tape,hB.output,fun b h=>h,fun b h=> .inl h,fun b h=> .inl h⟩
   cases ha:Lib.parseIntB 64 b.data.toList with
   |ok v=>
    rw[ha]at he kX;refine kX _ he ?_;simp only[xW,VR];exact⟨_,rfl,_,_,rfl,rfl,_,_,rfl,rfl,rfl⟩
   |_=>
    rw[ha]at he kX;obtain⟨x,y,he⟩:=he;refine kX _ he ?_;simp only[xW,VR];exact⟨_,rfl,_,_,rfl,trivial,_,_,rfl,⟨_,rfl,trivial⟩,rfl⟩
def ac4 {P:Program}{ρ:Go.Shelf.Ren}(L:Go.Proofs.LaysC.n174 P ρ)(s:ByteArray)(hs:s.size<=281474976710656)(w:World)
  (h15:∃ev,w.cell? ⟨(ρ.g 15),0,none⟩=some ev/\(ev= .nilIface\/∃te pe,ev= .iface te pe)) (h16:∃ev,w.cell? ⟨(ρ.g 16),0,none⟩=some ev/\(ev= .nilIface\/∃te pe,ev= .iface te pe)):
  Calls P (ρ.f 174) #[.string s,.int .i64 10,.int .i64 64] w (aai (ρ.t 168) (Lib.parseIntB 64 s.data.toList) w):=by
 obtain⟨e1,hv1,he1⟩:=h15;obtain⟨e2,hv2,he2⟩:=h16;cases ha:Lib.parseIntB 64 s.data.toList with
 |ok v=>
  refine(Go.Proofs.Any.strconv_ParseInt_10_at64_ok L s (by omega) v ha w).mono fun e w' ⟨he,hw⟩=>⟨?_,he⟩
  rcases hw with rfl|⟨t,rfl⟩
  ·exact Below.refl _ _
  ·exact Lib.bytesWorld_below _ _ _
 |range=>
  exact(Go.Proofs.Any.strconv_ParseInt_10_at64_range L s hs ha e2 w hv2 he2).mono fun e w' ⟨N,he,_,_,hB⟩=>⟨hB,_,_,he⟩
 |_=>
  exact(Go.Proofs.Any.strconv_ParseInt_10_at64_syntax L s hs ha e1 w hv1 he1).mono fun e w' ⟨N,he,_,_,hB⟩=>⟨hB,_,_,he⟩
def err_gr [Letters]{P:Program}{W:World}{n:String}{g tp:Nat}{a:Addr}{s:ByteArray}(hg:P.globalNamed n=some g)(hv:W.var? P n=some #[.iface tp (.pointer (some a))])(hc:W.cell? a=some (.string s)):
  g<W.heap.size/\∃u,PR W (fun b=>b<W.heap.size) (.iface tp (.ptr (.str (s.data.toList.map UInt8.toNat)))) u/\uL W g 0 u.cells/\∃t fr,W.heap[g]?=some (.cells u.cells t fr):=by
 unfold World.var? at hv;rw[hg]at hv;simp only[Option.bind_some]at hv;split at hv
 ·rename_i cs t fr hh;injection hv with hv;subst hv;obtain⟨b,o,sp⟩:=a;have hb:sp=none/\b<W.heap.size:=by
   unfold World.cell? at hc;split at hc
   ·rename_i c x y hh';cases sp with
    |none=>exact⟨rfl,(Array.getElem?_eq_some_iff.1 hh').1⟩
    |some k=>simp at hc
   ·cases hc
  obtain⟨rfl,hb⟩:=hb;refine⟨(Array.getElem?_eq_some_iff.1 hh).1,.iface tp (.pointer (some ⟨b,o,none⟩)),?_,?_,t,fr,?_⟩
  ·simp only[PR];refine⟨_,rfl,b,o,.string s,rfl,hb,⟨s,rfl,rfl⟩,?_⟩;intro j c hj;simp only[Value.cells]at hj;match j,hj with
   |0,hj=>simp at hj;subst hj;exact hc
   |j+1,hj=>simp at hj
  ·intro j c hj;simp only[Value.cells]at hj;simp[World.cell?,hh,hj]
  ·simpa[Value.cells]using hh
 ·cases hv
def EE [Letters]{G:bV}{w:World}{S:Nat->Prop}{g tp:Nat}{x:Da}(hG:G g=some (.iface tp x))(h:GR G w S):∃ev,w.cell? ⟨g,0,none⟩=some ev/\(ev= .nilIface\/∃te pe,ev= .iface te pe):=by
 obtain⟨_,u,hu,_,t,fr,hh⟩:=h g _ hG;simp only[PR]at hu;obtain⟨v,rfl,_⟩:=hu;exact⟨.iface tp v,by simp[World.cell?,hh,Value.cells],.inr ⟨_,_,rfl⟩⟩
end Go.Ab
