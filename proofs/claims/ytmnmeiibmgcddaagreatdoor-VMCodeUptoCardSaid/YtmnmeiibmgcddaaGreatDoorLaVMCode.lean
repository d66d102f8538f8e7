/- The law VMCode, for every input that its row speaks of, out of the evaluator's run (run_VMCode): its row, its card. Conditions: none beyond the row's own. -/
import Derived.Test.YtmnmeiibmgcddaaGreatDoorCards
import Derived.Test.YtmnmeiibmgcddaaGreatDoorTie
import Derived.Test.YtmnmeiibmgcddaaGreatDoorKg3
import Derived.LaidSub
import Derived.WalkKit
import Derived.ProofKit
import Derived.OpenShut
import Derived.Deep.DeepHandedRow
import Derived.Deep.DeepWitnessRowRef
import Derived.Lib.LaidIn
import Derived.Stop.LaidErr
set_option linter.all false
namespace Go.Proofs.YtmnmeiibmgcddaaGreatDoor.vMCode
open Go.ChangeShapes Go.WideShapes Go.ChangeAt Go.RowKit
theorem own:ownKnob Tryz.prog.godebug=none:=by kernel_rfl
theorem outB:laidOutB Tryz.prog=true:=by kernel_rfl
theorem three {H:Type}(ds:List (DataW H))(hd:ds.length=6):(Rows.vMCodeSpec.fn H (ds++[])).results=[.lit (.bool true)]∧(Rows.vMCodeSpec.fn H (ds++[])).args=ds∧(Rows.vMCodeSpec.fn H (ds++[])).vars=[]:=by
  match ds,hd with
  |[_,_,_,_,_,_],_=>exact⟨rfl,rfl,rfl⟩
theorem one_le {H:Type}(d:DataW H):1≤Rows.uptoBulk d:=by
  cases d with
  |lit l=>cases l<;>simp[Rows.uptoBulk]
  |nil=>simp[Rows.uptoBulk]
  |ptr d=>simp[Rows.uptoBulk]
  |slice elems spare=>simp[Rows.uptoBulk]
  |agg parts=>simp[Rows.uptoBulk]
  |iface t d=>simp[Rows.uptoBulk]
  |map entries=>simp[Rows.uptoBulk]
  |held h=>simp[Rows.uptoBulk]
theorem part_le {H:Type}{d:DataW H}{l:List (DataW H)}(h:d∈l):Rows.uptoBulk d≤Rows.uptoBulkAll l:=by
  induction l with
  |nil=>cases h
  |cons x r ih=>
    simp only[Rows.uptoBulkAll]
    cases List.mem_cons.1 h with
    |inl e=>subst e;omega
    |inr e=>have:=ih e;omega
theorem length_le {H:Type}(l:List (DataW H)):l.length≤Rows.uptoBulkAll l:=by
  induction l with
  |nil=>simp[Rows.uptoBulkAll]
  |cons x r ih=>have:=one_le x;simp only[Rows.uptoBulkAll,List.length_cons];omega
theorem hered {H:Type}(P:Program):Go.Ab.Hered P Go.Ab.Bn (fun(_:TypeId) (d:DataW H)=>Rows.uptoBulk d≤1048576) where
  sl t e elems spare _ h:=by
    have h1:=length_le elems
    simp only[Rows.uptoBulk]at h
    exact⟨show elems.length≤1048576 by omega,fun d hd=>by have:=part_le hd;omega⟩
  st t fs parts _ h i f d _ hd:=by
    have h1:=part_le (List.mem_of_getElem? hd)
    simp only[Rows.uptoBulk]at h
    omega
theorem append_le {H:Type}(l r:List (DataW H)):Rows.uptoBulkAll l≤Rows.uptoBulkAll (l++r):=by
  induction l with
  |nil=>simp[Rows.uptoBulkAll]
  |cons x l ih=>simp only[List.cons_append,Rows.uptoBulkAll];omega
theorem table {W : World} (h : laidMetH Tryz.prog Rows.vMCodeUptoRow.laid W) : Go.Lib.TabIs Tryz.prog W "internal/strconv.uint64pow10" .u64 Go.Lib.pow10Tab := by
  have h2 := (laidMetH_iff.1 h).1.filter (fun x => x.1 == "internal/strconv.uint64pow10")
  have e : ((Rows.vMCodeUptoRow.laid.filter fun x => x.2.handleName?.isNone).filter fun x => x.1 == "internal/strconv.uint64pow10") = [("internal/strconv.uint64pow10", Go.Lib.tabData .u64 Go.Lib.pow10Tab)] := by kernel_rfl
  rw[e]at h2
  exact Go.Lib.tabIs_of_head (g:=3) (t:=416) (e:=186) (n:=20) (by kernel_rfl) (by kernel_rfl) (by kernel_rfl) (by kernel_rfl) (by kernel_rfl) (by kernel_rfl) h2
theorem globs {W:World}(h:laidMetH Tryz.prog Rows.vMCodeUptoRow.laid W): @Go.Ab.GR ⟨fun _=>0⟩ Go.Ab.globs0 W (fun b=>b<W.heap.size):=by
  letI:Go.Ab.Letters:=⟨fun _=>0⟩
  intro g x hg
  unfold Go.Ab.globs0 at hg
  cases hd:Nat.beq g 3 with
  |true=>
    rw[hd]at hg
    simp only[cond_true,Option.some.injEq]at hg
    obtain rfl:=Nat.eq_of_beq_eq_true hd
    subst hg
    exact Go.Ab.gr_tab (by kernel_rfl) (table h)
  |false=>
    rw[hd]at hg
    cases hg
set_option maxRecDepth 100000 in
theorem contract (H:Type)(enc:TypeId×Value→H)(W:World)(base:Nat)(args:Array Value)(ds gs:List (DataW H))(before:List MemPlace)
    (hval:∀(j:Nat) t v,Tryz.f8.params[j]?=some t→args[j]?=some v→Value.okWide Tryz.prog W .any base t v)
    (hG: @Go.Ab.GR ⟨fun _=>0⟩ Go.Ab.globs0 W (fun b=>b<W.heap.size))
    (hk:Rows.uptoSmall H (ds++gs)=true)
    (hW:DataW.Whole enc Tryz.prog Tryz.f8.params.toList Rows.vMCodeSpec.vars false W args.toList ds gs before):
    Calls Tryz.prog 8 args W fun e W'=>∃v,e= .returned v∧Rows.vMCodeSpec.post enc Tryz.prog Tryz.f8 false true false false W args v W':=by
  letI:Go.Ab.Letters:=⟨fun _=>0⟩
  have hb:Rows.uptoBulkAll (ds++gs)≤1048576:=of_decide_eq_true hk
  exact Go.Ab.law_contractN (P:=Tryz.prog) (B:=Go.Ab.Bn) (K:=fun(_:TypeId) (d:DataW H)=>Rows.uptoBulk d≤1048576) (hered _) (f:=Tryz.f8) (k:=8) (G:=Go.Ab.globs0) (ev:=Go.Ab.evFn Go.Ab.lay0.tab) (fun N=>Go.Ab.call0_ok _ N) outB (n:=12) (tb:=4) (by kernel_rfl) (by kernel_rfl) Tryz.underlying4 rfl
    (fun ds hd=>three ds (hd.trans (by kernel_rfl)))
    Go.Ab.run_VMCode hG hval (fun i t d _ hd=>by have h1:=part_le (List.mem_of_getElem? hd);have h2:=append_le ds gs;omega) hW
def lay (cs:Array Value):Obj→Obj
  | .cells _ t frozen=> .cells cs t frozen
  |o=>o
noncomputable abbrev N0:Nat:=(World.settled Tryz.prog default).heap.size
noncomputable def laidWorld (os:Os):World:=
  let w0:=World.holding Tryz.prog os ⟨#[.cells #[.string ⟨#[118,97,108,117,101,32,111,117,116,32,111,102,32,114,97,110,103,101]⟩] 414,.cells #[.string ⟨#[105,110,118,97,108,105,100,32,115,121,110,116,97,120]⟩] 414],#[],[]⟩
  {w0 with heap:=((((w0.heap.modify 3 (lay #[.int .u64 1,.int .u64 10,.int .u64 100,.int .u64 1000,.int .u64 10000,.int .u64 100000,.int .u64 1000000,.int .u64 10000000,.int .u64 100000000,.int .u64 1000000000,.int .u64 10000000000,.int .u64 100000000000,.int .u64 1000000000000,.int .u64 10000000000000,.int .u64 100000000000000,.int .u64 1000000000000000,.int .u64 10000000000000000,.int .u64 100000000000000000,.int .u64 1000000000000000000,.int .u64 10000000000000000000])).modify 4 (lay #[.int .u8 0,.int .u8 1,.int .u8 28,.int .u8 2,.int .u8 29,.int .u8 14,.int .u8 24,.int .u8 3,.int .u8 30,.int .u8 22,.int .u8 20,.int .u8 15,.int .u8 25,.int .u8 17,.int .u8 4,.int .u8 8,.int .u8 31,.int .u8 27,.int .u8 13,.int .u8 23,.int .u8 21,.int .u8 19,.int .u8 16,.int .u8 7,.int .u8 26,.int .u8 12,.int .u8 18,.int .u8 6,.int .u8 11,.int .u8 5,.int .u8 10,.int .u8 9])).modify 5 (lay #[.int .u8 0,.int .u8 1,.int .u8 56,.int .u8 2,.int .u8 57,.int .u8 49,.int .u8 28,.int .u8 3,.int .u8 61,.int .u8 58,.int .u8 42,.int .u8 50,.int .u8 38,.int .u8 29,.int .u8 17,.int .u8 4,.int .u8 62,.int .u8 47,.int .u8 59,.int .u8 36,.int .u8 45,.int .u8 43,.int .u8 51,.int .u8 22,.int .u8 53,.int .u8 39,.int .u8 33,.int .u8 30,.int .u8 24,.int .u8 18,.int .u8 12,.int .u8 5,.int .u8 63,.int .u8 55,.int .u8 48,.int .u8 27,.int .u8 60,.int .u8 41,.int .u8 37,.int .u8 16,.int .u8 46,.int .u8 35,.int .u8 44,.int .u8 21,.int .u8 52,.int .u8 32,.int .u8 23,.int .u8 11,.int .u8 54,.int .u8 26,.int .u8 40,.int .u8 15,.int .u8 34,.int .u8 20,.int .u8 31,.int .u8 10,.int .u8 25,.int .u8 14,.int .u8 19,.int .u8 9,.int .u8 13,.int .u8 8,.int .u8 7,.int .u8 6])).modify 2 (lay #[.iface 412 (.pointer (some ⟨N0,0,none⟩))])).modify 1 (lay #[.iface 412 (.pointer (some ⟨N0+1,0,none⟩))])}
theorem laid_met (os:Os):laidMet Tryz.prog Rows.vMCodeUptoRow.laid ((laidWorld os).forCall (fun _ _=>0) ⟨#[],#[.agg #[.slice none 0 0],.agg #[.int .i64 0,.int .i64 0,.int .i64 0,.slice none 0 0],.string ⟨#[]⟩,.slice none 0 0,.agg #[.int .i64 0,.int .i64 0,.string ⟨#[]⟩,.slice none 0 0,.slice none 0 0],.int .u16 0],[]⟩).memory:=
  (LaidIn.of_run (l:=Rows.vMCodeUptoRow.laid) [4,5,3,2,N0,1,N0+1] 8 (by kernel_rfl) (by kernel_rfl) (by kernel_rfl) (by kernel_rfl)).met
theorem reads (os:Os){H:Type}(enc:TypeId×Value→H):∃places,DataW.whole enc Tryz.prog ((laidWorld os).forCall (fun _ _=>0) ⟨#[],#[.agg #[.slice none 0 0],.agg #[.int .i64 0,.int .i64 0,.int .i64 0,.slice none 0 0],.string ⟨#[]⟩,.slice none 0 0,.agg #[.int .i64 0,.int .i64 0,.string ⟨#[]⟩,.slice none 0 0,.slice none 0 0],.int .u16 0],[]⟩).memory Tryz.f8.params.toList Rows.vMCodeSpec.vars false (#[.agg #[.slice none 0 0],.agg #[.int .i64 0,.int .i64 0,.int .i64 0,.slice none 0 0],.string ⟨#[]⟩,.slice none 0 0,.agg #[.int .i64 0,.int .i64 0,.string ⟨#[]⟩,.slice none 0 0,.slice none 0 0],.int .u16 0]:Array Value).toList 8=some ([.agg [.nil],.agg [.lit (.int .i64 0),.lit (.int .i64 0),.lit (.int .i64 0),.nil],.lit (.string []),.nil,.agg [.lit (.int .i64 0),.lit (.int .i64 0),.lit (.string []),.nil,.nil],.lit (.int .u16 0)],[],places):=
  ⟨[],by kernel_rfl⟩
set_option maxRecDepth 100000 in
theorem lifted (os:Os)(started:os.Started)(H:Type)(enc:TypeId×Value→H)(F:Stop.Interp):
    ReturnsInHanded {} Tryz.checked os 8 .any ((Rows.OpenSpec.upto Rows.vMCodeSpec).preRow enc Tryz.prog Tryz.f8 Rows.vMCodeUptoRow.domain false Rows.vMCodeUptoRow.laid) (((Rows.OpenSpec.upto Rows.vMCodeSpec).at F).post enc Tryz.prog Tryz.f8 false true false false):=by
  obtain⟨places,hx⟩:=reads os enc
  refine returnsInHanded_of_row (C:=Tryz.checked) (s:=Rows.OpenSpec.upto Rows.vMCodeSpec) own started (by kernel_rfl) Tryz.func8
    (witness_row_atRef (enc:=enc) (C:=Tryz.checked) false (laidWorld os) #[.agg #[.slice none 0 0],.agg #[.int .i64 0,.int .i64 0,.int .i64 0,.slice none 0 0],.string ⟨#[]⟩,.slice none 0 0,.agg #[.int .i64 0,.int .i64 0,.string ⟨#[]⟩,.slice none 0 0,.slice none 0 0],.int .u16 0] rfl (by kernel_rfl) (by kernel_rfl) (by kernel_rfl)
      (OpenSpec.preRow_of_cond 8 hx (by kernel_rfl) (fun k hk=>by cases hk;kernel_rfl) (by kernel_rfl) (laid_met os))) ?_
  intro W base args ds gs before hval hW _ hcond _ hl _ _
  exact contract H enc W base args ds gs before hval (globs hl) (hcond _ rfl) hW
end Go.Proofs.YtmnmeiibmgcddaaGreatDoor.vMCode
