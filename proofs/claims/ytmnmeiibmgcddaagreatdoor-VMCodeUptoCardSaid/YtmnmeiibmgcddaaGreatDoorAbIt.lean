import Derived.Test.YtmnmeiibmgcddaaGreatDoorAm2
import Derived.Test.YtmnmeiibmgcddaaGreatDoorAm3
import Derived.Shelf.Strconv.Itoa3
import Derived.Lib.LaidTab
import Derived.LaidLaws
set_option linter.all false
namespace Go.Ab
open Go Go.RowKit
variable [Letters]
def Gi {w:World}{S:Nat->Prop}{k:IntKind}:∀{zs:LI} {us:List Value},qH w S (zs.map (.int k)) us->us=zs.map (.int k)
 |[],us,h=>by
  have:=PRs_iff.1 h;exact this.nil_inv
 |z::r,us,h=>by
  obtain⟨u,us',rfl,hu,hr⟩:=(PRs_iff.1 h).cons_inv;simp only[PR]at hu;rw[Gi (PRs_iff.2 hr)];simp[hu]
def uI:Da:= .agg (Lib.pow10Tab.map (.int .u64))
def Ja {k:IntKind}(zs:LI):∀c∈zs.map (Value.int k),bb c:=by
 intro c hc;obtain⟨z,_,rfl⟩:=List.mem_map.1 hc;simp[bb]
def Hg {w:World}{S:Nat->Prop}{k:IntKind}:∀zs:LI,qH w S (zs.map (.int k)) (zs.map (Value.int k))
 |[]=>PRs_iff.2 Pw.nil
 |z::r=>PRs_iff.2 (Pw.cons (by simp only[PR]) (PRs_iff.1 (Hg r)))
def gr_tab {P : Program} {W : World} {g : Nat} (hn : P.globalNamed "internal/strconv.uint64pow10" = some g) (h : Lib.TabIs P W "internal/strconv.uint64pow10" .u64 Lib.pow10Tab) :
  g<W.heap.size/\∃u,PR W (fun b=>b<W.heap.size) uI u/\uE W g 0 u.cells/\∃t fr,W.heap[g]?=some (.cells u.cells t fr):=by
 unfold Lib.TabIs World.var? at h;rw[hn]at h;simp only[Option.bind_some]at h;split at h
 ·rename_i cs t fr hh;injection h with h;have hlt:g<W.heap.size:=(Array.getElem?_eq_some_iff.1 hh).1;refine⟨hlt,.agg cs,?_,?_,t,fr,?_⟩
  ·simp only[uI,PR];refine⟨cs,rfl,?_,?_⟩
   ·rw[h];simpa using Hg (k:= .u64) Lib.pow10Tab
   ·rw[h];simpa using Ja (k:= .u64) Lib.pow10Tab
  ·intro j c hc;simp only[Value.cells]at hc;simp[World.cell?,hh,hc]
  ·simpa[Value.cells]using hh
 ·cases h
def Rj {P : Program} {w : World} {S : Nat → Prop} {G : bP} {g0 : Nat} (hG : G g0 = some uI) (hn : P.globalNamed "internal/strconv.uint64pow10" = some g0) (h : GR G w S) : Lib.TabIs P w "internal/strconv.uint64pow10" .u64 Lib.pow10Tab := by
 obtain⟨_,u,hu,_,t,fr,hh⟩:=h g0 uI hG;simp only[uI,PR]at hu;obtain⟨vs,rfl,hv,_⟩:=hu;have:=Gi hv;unfold Lib.TabIs World.var?;rw[hn];simp only[Option.bind_some,hh,Value.cells];congr 1;rw[<-this]
def Qr {P : Program} {G : bP} {f g0 : Nat} (hG : G g0 = some uI) (hn : P.globalNamed "internal/strconv.uint64pow10" = some g0) (hc : eV P f)
  (law : ∀ (n : Int) (_ : -9223372036854775808 ≤ n) (_ : n ≤ 9223372036854775807) (w : World) (_ : Lib.TabIs P w "internal/strconv.uint64pow10" .u64 Lib.pow10Tab), Calls P f #[.int .i64 n] w fun e w' => e = .returned (.string ⟨(Lib.itoa n).toArray⟩) ∧ ∃ k os, w' = Go.Sort.grow (w.drewN k) os) : fe P G f lJ := by
 intro xs r out hx;refine⟨hc,fun w S vs hS hg hv=>?_⟩
 match xs,hx with
 |[.int .i64 n],hx=>
  simp only[lJ]at hx;cases hb:(aV (-9223372036854775808) n&&aV n 9223372036854775807)
  ·rw[hb]at hx;cases hx
  ·rw[hb]at hx;simp only[cond_true,lβ,lτ]at hx;obtain⟨rfl,rfl⟩:=hx;rw[lγ,dY,dY,lδ,lδ]at hb;obtain⟨v,vs',rfl,h1,h2⟩:=hv.cons_inv;obtain rfl:=h2.nil_inv;simp only[PR]at h1;subst h1;refine(law n hb.1 hb.2 w (Rj hG hn hg)).mono fun e w' ⟨he,k,os,hw⟩=>?_
   subst he hw;refine⟨[],S,?_,?_,?_,fun id hid=>absurd hid (Nat.not_lt_zero _)⟩
   ·simp only[VR,PR];exact⟨_,rfl,by simp[BE]⟩
   ·exact⟨rfl,by intro id l o h;simp at h,by rintro b ⟨id,l,o,h,_⟩;simp at h,by intro id id' l l' o o' b h;simp at h,fun b hb'=>by have:=hS b hb';simp[Go.Sort.grow];omega⟩
   ·exact⟨fun b hb' _=>by simp[Go.Sort.grow,Array.getElem?_append_left hb'],by simp[Go.Sort.grow],rfl,rfl,rfl,fun b h=>h,fun b h=> .inl h,fun b h=> .inl h⟩
end Go.Ab
