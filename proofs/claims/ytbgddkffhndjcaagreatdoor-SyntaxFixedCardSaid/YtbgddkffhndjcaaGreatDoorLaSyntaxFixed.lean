/- The law SyntaxFixed, for every input that its row speaks of, out of the evaluator's run (run_SyntaxFixed): its row, its card. Conditions: none beyond the row's own. -/
import Derived.Test.YtbgddkffhndjcaaGreatDoorCards
import Derived.Test.YtbgddkffhndjcaaGreatDoorTie
import Derived.Test.YtbgddkffhndjcaaGreatDoorKg3
import Derived.LaidSub
import Derived.WalkKit
import Derived.ProofKit
import Derived.OpenShut
import Derived.Deep.DeepHandedRow
import Derived.Deep.DeepWitnessRowRef
import Derived.Lib.LaidIn
import Derived.Stop.LaidErr
set_option linter.all false
namespace Go.Proofs.YtbgddkffhndjcaaGreatDoor.syntaxFixed
open Go.ChangeShapes Go.WideShapes Go.ChangeAt Go.RowKit
theorem own:ownKnob Tryz.prog.godebug=none:=by kernel_rfl
theorem outB:laidOutB Tryz.prog=true:=by kernel_rfl
theorem three {H:Type}(ds:List (DataW H))(hd:ds.length=1):(Rows.syntaxFixedSpec.fn H (ds++[])).results=[.lit (.bool true)]∧(Rows.syntaxFixedSpec.fn H (ds++[])).args=ds∧(Rows.syntaxFixedSpec.fn H (ds++[])).vars=[]:=by
  match ds,hd with
  |[_],_=>exact⟨rfl,rfl,rfl⟩
theorem hered {H:Type}(P:Program):Go.Ab.Hered P Go.Ab.Bn (fun(t:TypeId) (_:DataW H)=>Go.Ab.flatT P t=true) where
  sl t e elems spare h k:=by
    unfold Go.Ab.flatT at k
    rw[h]at k
    cases k
  st t fs parts h k i f d _ _:=by
    unfold Go.Ab.flatT at k
    rw[h]at k
    cases k
theorem errRow (u : TypeId) (h : Tryz.prog.typeName? 3 u = some "*errors.errorString") : u = 169 :=
  typeName_ptr_named (nm := "errors.errorString") (by rw [show "*" ++ "errors.errorString" = "*errors.errorString" by decide]; kernel_rfl) (by kernel_rfl) (by decide) u (by rw [show "*" ++ "errors.errorString" = "*errors.errorString" by decide]; exact h)
theorem errVar {W : World} {n : String} {text : List UInt8} (g : Nat) (h : laidMetH Tryz.prog Rows.syntaxFixedRow.laid W) (e : ((Rows.syntaxFixedRow.laid.filter fun x => x.2.handleName?.isNone).filter fun x => x.1 == n) = [(n, .iface "*errors.errorString" (.ptr (.agg [.lit (.string text)])))])
    (hg:Tryz.prog.globalNamed n=some g) (ht:(Tryz.prog.globals[g]?).map (·.type)=some 102):∃(a:Addr) (s:ByteArray),W.var? Tryz.prog n=some #[.iface 169 (.pointer (some a))]∧W.cell? a=some (.string s)∧s.data.toList=text∧s.size≤maxLen:=by
  have h2:=(laidMetH_iff.1 h).1.filter (fun x=>x.1==n)
  rw[e]at h2
  exact laid_sentinel h2 hg ht Tryz.underlying102 errRow Tryz.underlying169 Tryz.underlying171 rfl rfl Tryz.underlying9 (by kernel_rfl) (by kernel_rfl)
theorem table {W : World} (h : laidMetH Tryz.prog Rows.syntaxFixedRow.laid W) : Go.Lib.TabIs Tryz.prog W "internal/strconv.uint64pow10" .u64 Go.Lib.pow10Tab := by
  have h2 := (laidMetH_iff.1 h).1.filter (fun x => x.1 == "internal/strconv.uint64pow10")
  have e : ((Rows.syntaxFixedRow.laid.filter fun x => x.2.handleName?.isNone).filter fun x => x.1 == "internal/strconv.uint64pow10") = [("internal/strconv.uint64pow10", Go.Lib.tabData .u64 Go.Lib.pow10Tab)] := by kernel_rfl
  rw[e]at h2
  exact Go.Lib.tabIs_of_head (g:=3) (t:=165) (e:=146) (n:=20) (by kernel_rfl) (by kernel_rfl) (by kernel_rfl) (by kernel_rfl) (by kernel_rfl) (by kernel_rfl) h2
theorem globs {W:World}(h:laidMetH Tryz.prog Rows.syntaxFixedRow.laid W): @Go.Ab.GR ⟨fun _=>0⟩ Go.Ab.globs0 W (fun b=>b<W.heap.size):=by
  letI:Go.Ab.Letters:=⟨fun _=>0⟩
  intro g x hg
  unfold Go.Ab.globs0 at hg
  cases hb:Nat.beq g 1 with
  |true=>
    rw[hb]at hg
    simp only[cond_true,Option.some.injEq]at hg
    obtain rfl:=Nat.eq_of_beq_eq_true hb
    obtain ⟨a, s, h1, h2, h3, _⟩ := errVar (n := "strconv.ErrSyntax") (text := [105, 110, 118, 97, 108, 105, 100, 32, 115, 121, 110, 116, 97, 120]) 1 h (by kernel_rfl) (by kernel_rfl) (by kernel_rfl)
    have:=Go.Ab.err_gr (g:=1) (by kernel_rfl) h1 h2
    rw[h3]at this
    subst hg
    exact this
  |false=>
    rw[hb]at hg
    simp only[cond_false]at hg
    cases hc:Nat.beq g 2 with
    |true=>
      rw[hc]at hg
      simp only[cond_true,Option.some.injEq]at hg
      obtain rfl:=Nat.eq_of_beq_eq_true hc
      obtain ⟨a, s, h1, h2, h3, _⟩ := errVar (n := "strconv.ErrRange") (text := [118, 97, 108, 117, 101, 32, 111, 117, 116, 32, 111, 102, 32, 114, 97, 110, 103, 101]) 2 h (by kernel_rfl) (by kernel_rfl) (by kernel_rfl)
      have:=Go.Ab.err_gr (g:=2) (by kernel_rfl) h1 h2
      rw[h3]at this
      subst hg
      exact this
    |false=>
      rw[hc]at hg
      simp only[cond_false]at hg
      cases hd:Nat.beq g 3 with
      |true=>
        rw[hd]at hg
        simp only[cond_true,Option.some.injEq]at hg
        obtain rfl:=Nat.eq_of_beq_eq_true hd
        subst hg
        exact Go.Ab.gr_tab (by kernel_rfl) (table h)
      |false=>
        rw[hd]at hg
        cases hg
set_option maxRecDepth 100000 in
theorem contract (H:Type)(enc:TypeId×Value→H)(W:World)(base:Nat)(args:Array Value)(ds gs:List (DataW H))(before:List MemPlace)
    (hval:∀(j:Nat) t v,Tryz.f4.params[j]?=some t→args[j]?=some v→Value.okWide Tryz.prog W .any base t v)
    (hG: @Go.Ab.GR ⟨fun _=>0⟩ Go.Ab.globs0 W (fun b=>b<W.heap.size))
    (hW:DataW.Whole enc Tryz.prog Tryz.f4.params.toList Rows.syntaxFixedSpec.vars false W args.toList ds gs before):
    Calls Tryz.prog 4 args W fun e W'=>∃v,e= .returned v∧Rows.syntaxFixedSpec.post enc Tryz.prog Tryz.f4 false true false false W args v W':=by
  letI:Go.Ab.Letters:=⟨fun _=>0⟩
  exact Go.Ab.law_contractN (P:=Tryz.prog) (B:=Go.Ab.Bn) (K:=fun(t:TypeId) (_:DataW H)=>Go.Ab.flatT Tryz.prog t=true) (hered _) (f:=Tryz.f4) (k:=4) (G:=Go.Ab.globs0) (ev:=Go.Ab.evFn Go.Ab.lay0.tab) (fun N=>Go.Ab.call0_ok _ N) outB (n:=12) (tb:=4) (by kernel_rfl) (by kernel_rfl) Tryz.underlying4 rfl
    (fun ds hd=>three ds (hd.trans (by kernel_rfl)))
    Go.Ab.run_SyntaxFixed hG hval (fun i t d ht _=>List.all_eq_true.1 (show Tryz.f4.params.toList.all (Go.Ab.flatT Tryz.prog)=true by kernel_rfl) t (List.mem_of_getElem? ht)) hW
def lay (cs:Array Value):Obj→Obj
  | .cells _ t frozen=> .cells cs t frozen
  |o=>o
noncomputable abbrev N0:Nat:=(World.settled Tryz.prog default).heap.size
noncomputable def laidWorld (os:Os):World:=
  let w0:=World.holding Tryz.prog os ⟨#[.cells #[.string ⟨#[118,97,108,117,101,32,111,117,116,32,111,102,32,114,97,110,103,101]⟩] 171,.cells #[.string ⟨#[105,110,118,97,108,105,100,32,115,121,110,116,97,120]⟩] 171],#[],[]⟩
  {w0 with heap:=((((w0.heap.modify 3 (lay #[.int .u64 1,.int .u64 10,.int .u64 100,.int .u64 1000,.int .u64 10000,.int .u64 100000,.int .u64 1000000,.int .u64 10000000,.int .u64 100000000,.int .u64 1000000000,.int .u64 10000000000,.int .u64 100000000000,.int .u64 1000000000000,.int .u64 10000000000000,.int .u64 100000000000000,.int .u64 1000000000000000,.int .u64 10000000000000000,.int .u64 100000000000000000,.int .u64 1000000000000000000,.int .u64 10000000000000000000])).modify 4 (lay #[.int .u8 0,.int .u8 1,.int .u8 28,.int .u8 2,.int .u8 29,.int .u8 14,.int .u8 24,.int .u8 3,.int .u8 30,.int .u8 22,.int .u8 20,.int .u8 15,.int .u8 25,.int .u8 17,.int .u8 4,.int .u8 8,.int .u8 31,.int .u8 27,.int .u8 13,.int .u8 23,.int .u8 21,.int .u8 19,.int .u8 16,.int .u8 7,.int .u8 26,.int .u8 12,.int .u8 18,.int .u8 6,.int .u8 11,.int .u8 5,.int .u8 10,.int .u8 9])).modify 5 (lay #[.int .u8 0,.int .u8 1,.int .u8 56,.int .u8 2,.int .u8 57,.int .u8 49,.int .u8 28,.int .u8 3,.int .u8 61,.int .u8 58,.int .u8 42,.int .u8 50,.int .u8 38,.int .u8 29,.int .u8 17,.int .u8 4,.int .u8 62,.int .u8 47,.int .u8 59,.int .u8 36,.int .u8 45,.int .u8 43,.int .u8 51,.int .u8 22,.int .u8 53,.int .u8 39,.int .u8 33,.int .u8 30,.int .u8 24,.int .u8 18,.int .u8 12,.int .u8 5,.int .u8 63,.int .u8 55,.int .u8 48,.int .u8 27,.int .u8 60,.int .u8 41,.int .u8 37,.int .u8 16,.int .u8 46,.int .u8 35,.int .u8 44,.int .u8 21,.int .u8 52,.int .u8 32,.int .u8 23,.int .u8 11,.int .u8 54,.int .u8 26,.int .u8 40,.int .u8 15,.int .u8 34,.int .u8 20,.int .u8 31,.int .u8 10,.int .u8 25,.int .u8 14,.int .u8 19,.int .u8 9,.int .u8 13,.int .u8 8,.int .u8 7,.int .u8 6])).modify 2 (lay #[.iface 169 (.pointer (some ⟨N0,0,none⟩))])).modify 1 (lay #[.iface 169 (.pointer (some ⟨N0+1,0,none⟩))])}
theorem laid_met (os:Os):laidMet Tryz.prog Rows.syntaxFixedRow.laid ((laidWorld os).forCall (fun _ _=>0) ⟨#[],#[.string ⟨#[]⟩],[]⟩).memory:=
  (LaidIn.of_run (l:=Rows.syntaxFixedRow.laid) [4,5,3,2,N0,1,N0+1] 8 (by kernel_rfl) (by kernel_rfl) (by kernel_rfl) (by kernel_rfl)).met
theorem reads (os:Os){H:Type}(enc:TypeId×Value→H):∃places,DataW.whole enc Tryz.prog ((laidWorld os).forCall (fun _ _=>0) ⟨#[],#[.string ⟨#[]⟩],[]⟩).memory Tryz.f4.params.toList Rows.syntaxFixedSpec.vars false (#[.string ⟨#[]⟩]:Array Value).toList 8=some ([.lit (.string [])],[],places):=
  ⟨[],by kernel_rfl⟩
set_option maxRecDepth 100000 in
theorem lifted (os:Os)(started:os.Started)(H:Type)(enc:TypeId×Value→H)(F:Stop.Interp):
    ReturnsInHanded {} Tryz.checked os 4 .any ((OpenSpec.ofChange Rows.syntaxFixedSpec).preRow enc Tryz.prog Tryz.f4 Rows.syntaxFixedRow.domain false Rows.syntaxFixedRow.laid) (((OpenSpec.ofChange Rows.syntaxFixedSpec).at F).post enc Tryz.prog Tryz.f4 false true false false):=by
  obtain⟨places,hx⟩:=reads os enc
  refine returnsInHanded_of_row (C:=Tryz.checked) (s:=OpenSpec.ofChange Rows.syntaxFixedSpec) own started (by kernel_rfl) Tryz.func4
    (witness_row_atRef (enc:=enc) (C:=Tryz.checked) false (laidWorld os) #[.string ⟨#[]⟩] rfl (by kernel_rfl) (by kernel_rfl) (by kernel_rfl)
      (OpenSpec.preRow_of_cond 8 hx (by kernel_rfl) (fun k hk=>by cases hk) (by kernel_rfl) (laid_met os))) ?_
  intro W base args ds gs before hval hW _ hcond _ hl _ _
  exact contract H enc W base args ds gs before hval (globs hl) hW
end Go.Proofs.YtbgddkffhndjcaaGreatDoor.syntaxFixed
