/- The law RolloutCarries, for every input that its row speaks of, out of the evaluator's run (run_RolloutCarries): its row, its card. Conditions: none beyond the row's own. -/
import Derived.Test.YtdppgkglljpdaaaGreatDoorCards
import Derived.Test.YtdppgkglljpdaaaGreatDoorTie
import Derived.Test.YtdppgkglljpdaaaGreatDoorAbXRolloutCarries
import Derived.Test.YtdppgkglljpdaaaGreatDoorAbI
import Derived.LaidSub
import Derived.WalkKit
import Derived.ProofKit
import Derived.OpenShut
import Derived.Deep.DeepHandedRow
import Derived.Lib.LaidTab
set_option linter.all false
namespace Go.Proofs.YtdppgkglljpdaaaGreatDoor.rolloutCarries
open Go.ChangeShapes Go.WideShapes Go.ChangeAt Go.RowKit
theorem own : ownKnob Tryz.prog.godebug = none := by kernel_rfl
theorem outB : laidOutB Tryz.prog = true := by kernel_rfl
theorem three {H : Type} (ds : List (DataW H)) (hd : ds.length = 7) : (Rows.rolloutCarriesSpec.fn H (ds ++ [])).results = [.lit (.bool true)] ∧ (Rows.rolloutCarriesSpec.fn H (ds ++ [])).args = ds ∧ (Rows.rolloutCarriesSpec.fn H (ds ++ [])).vars = [] := by
  match ds, hd with
  | [_, _, _, _, _, _, _], _ => exact ⟨rfl, rfl, rfl⟩
theorem table {W : World} (h : laidMetH Tryz.prog Rows.rolloutCarriesRow.laid W) : Go.Lib.TabIs Tryz.prog W "internal/strconv.uint64pow10" .u64 Go.Lib.pow10Tab := by
  have h2 := (laidMetH_iff.1 h).1.filter (fun x => x.1 == "internal/strconv.uint64pow10")
  have e : ((Rows.rolloutCarriesRow.laid.filter fun x => x.2.handleName?.isNone).filter fun x => x.1 == "internal/strconv.uint64pow10") = [("internal/strconv.uint64pow10", Go.Lib.tabData .u64 Go.Lib.pow10Tab)] := by kernel_rfl
  rw [e] at h2
  exact Go.Lib.tabIs_of_head (g := 0) (t := 257) (e := 95) (n := 20) (by kernel_rfl) (by kernel_rfl) (by kernel_rfl) (by kernel_rfl) (by kernel_rfl) (by kernel_rfl) h2
theorem globs {W : World} (h : laidMetH Tryz.prog Rows.rolloutCarriesRow.laid W) : Go.Ab.GR Go.Ab.globs0 W (fun b => b < W.heap.size) :=
  Go.Ab.gr_of_tab (P := Tryz.prog) (fun g x hg => by
    unfold Go.Ab.globs0 at hg
    cases hb : Nat.beq g 0
    · rw [hb] at hg; cases hg
    · rw [hb] at hg
      refine ⟨Nat.eq_of_beq_eq_true hb, ?_⟩
      rw [← Option.some.inj hg]
      kernel_rfl) (by kernel_rfl) (table h)
set_option maxRecDepth 100000 in
theorem contract (H : Type) (enc : TypeId × Value → H) (W : World) (base : Nat) (args : Array Value) (ds gs : List (DataW H)) (before : List MemPlace)
    (hval : ∀ (j : Nat) t v, Tryz.f4.params[j]? = some t → args[j]? = some v → Value.okWide Tryz.prog W .any base t v)
    (hW : DataW.Whole enc Tryz.prog Tryz.f4.params.toList Rows.rolloutCarriesSpec.vars false W args.toList ds gs before) (hG : Go.Ab.GR Go.Ab.globs0 W (fun b => b < W.heap.size)) :
    Calls Tryz.prog 4 args W fun e W' => ∃ v, e = .returned v ∧ Rows.rolloutCarriesSpec.post enc Tryz.prog Tryz.f4 false true false false W args v W' :=
  Go.Ab.law_contract (P := Tryz.prog) (f := Tryz.f4) (k := 4) (call := Go.Ab.evFn Go.Ab.tabw2 Go.Ab.fuelRolloutCarries) (Go.Ab.callw2_ok Go.Ab.fuelRolloutCarries) outB (n := 8) (tb := 4) (by kernel_rfl) (by kernel_rfl) Tryz.underlying4 rfl
    (fun ds hd => three ds (hd.trans (by kernel_rfl)))
    Go.Ab.run_RolloutCarries hG hval hW
def lay (cs : Array Value) : Obj → Obj
  | .cells _ t frozen => .cells cs t frozen
  | o => o
noncomputable def laidWorld (os : Os) : World :=
  { World.holding Tryz.prog os ⟨#[], #[], []⟩ with heap := (((World.holding Tryz.prog os ⟨#[], #[], []⟩).heap.modify 0 (lay #[.int .u64 1, .int .u64 10, .int .u64 100, .int .u64 1000, .int .u64 10000, .int .u64 100000, .int .u64 1000000, .int .u64 10000000, .int .u64 100000000, .int .u64 1000000000, .int .u64 10000000000, .int .u64 100000000000, .int .u64 1000000000000, .int .u64 10000000000000, .int .u64 100000000000000, .int .u64 1000000000000000, .int .u64 10000000000000000, .int .u64 100000000000000000, .int .u64 1000000000000000000, .int .u64 10000000000000000000])).modify 1 (lay #[.int .u8 0, .int .u8 1, .int .u8 28, .int .u8 2, .int .u8 29, .int .u8 14, .int .u8 24, .int .u8 3, .int .u8 30, .int .u8 22, .int .u8 20, .int .u8 15, .int .u8 25, .int .u8 17, .int .u8 4, .int .u8 8, .int .u8 31, .int .u8 27, .int .u8 13, .int .u8 23, .int .u8 21, .int .u8 19, .int .u8 16, .int .u8 7, .int .u8 26, .int .u8 12, .int .u8 18, .int .u8 6, .int .u8 11, .int .u8 5, .int .u8 10, .int .u8 9])).modify 2 (lay #[.int .u8 0, .int .u8 1, .int .u8 56, .int .u8 2, .int .u8 57, .int .u8 49, .int .u8 28, .int .u8 3, .int .u8 61, .int .u8 58, .int .u8 42, .int .u8 50, .int .u8 38, .int .u8 29, .int .u8 17, .int .u8 4, .int .u8 62, .int .u8 47, .int .u8 59, .int .u8 36, .int .u8 45, .int .u8 43, .int .u8 51, .int .u8 22, .int .u8 53, .int .u8 39, .int .u8 33, .int .u8 30, .int .u8 24, .int .u8 18, .int .u8 12, .int .u8 5, .int .u8 63, .int .u8 55, .int .u8 48, .int .u8 27, .int .u8 60, .int .u8 41, .int .u8 37, .int .u8 16, .int .u8 46, .int .u8 35, .int .u8 44, .int .u8 21, .int .u8 52, .int .u8 32, .int .u8 23, .int .u8 11, .int .u8 54, .int .u8 26, .int .u8 40, .int .u8 15, .int .u8 34, .int .u8 20, .int .u8 31, .int .u8 10, .int .u8 25, .int .u8 14, .int .u8 19, .int .u8 9, .int .u8 13, .int .u8 8, .int .u8 7, .int .u8 6]) }
theorem laid_met (os : Os) : laidMet Tryz.prog Rows.rolloutCarriesRow.laid ((laidWorld os).forCall (fun _ _ => 0) ⟨#[], #[.int .u8 0, .int .u8 0, .string ⟨#[]⟩, .int .i64 0, .int .i64 0, .slice none 0 0, .bool false], []⟩).memory :=
  laidMet_of_run' 8 (by kernel_rfl) (by kernel_rfl)
theorem reads (os : Os) {H : Type} (enc : TypeId × Value → H) : ∃ places, DataW.whole enc Tryz.prog ((laidWorld os).forCall (fun _ _ => 0) ⟨#[], #[.int .u8 0, .int .u8 0, .string ⟨#[]⟩, .int .i64 0, .int .i64 0, .slice none 0 0, .bool false], []⟩).memory Tryz.f4.params.toList Rows.rolloutCarriesSpec.vars false (#[.int .u8 0, .int .u8 0, .string ⟨#[]⟩, .int .i64 0, .int .i64 0, .slice none 0 0, .bool false] : Array Value).toList 8 = some ([.lit (.int .u8 0), .lit (.int .u8 0), .lit (.string []), .lit (.int .i64 0), .lit (.int .i64 0), .nil, .lit (.bool false)], [], places) :=
  ⟨[], by kernel_rfl⟩
set_option maxRecDepth 100000 in
theorem lifted (os : Os) (started : os.Started) (H : Type) (enc : TypeId × Value → H) (F : Stop.Interp) :
    ReturnsInHanded {} Tryz.checked os 4 .any ((OpenSpec.ofChange Rows.rolloutCarriesSpec).preRow enc Tryz.prog Tryz.f4 Rows.rolloutCarriesRow.domain false Rows.rolloutCarriesRow.laid) (((OpenSpec.ofChange Rows.rolloutCarriesSpec).at F).post enc Tryz.prog Tryz.f4 false true false false) := by
  obtain ⟨places, hx⟩ := reads os enc
  refine returnsInHanded_of_row (C := Tryz.checked) (s := OpenSpec.ofChange Rows.rolloutCarriesSpec) own started (by kernel_rfl) Tryz.func4
    (witness_row_at (enc := enc) (C := Tryz.checked) false (laidWorld os) #[.int .u8 0, .int .u8 0, .string ⟨#[]⟩, .int .i64 0, .int .i64 0, .slice none 0 0, .bool false] rfl (by kernel_rfl) (by kernel_rfl) (by kernel_rfl)
      (OpenSpec.preRow_of_cond 8 hx (by kernel_rfl) (fun k hk => by cases hk) (by kernel_rfl) (laid_met os))) ?_
  intro W base args ds gs before hval hW _ _ _ hl _ _
  exact contract H enc W base args ds gs before hval hW (globs hl)
theorem said : Rows.RolloutCarriesSaid :=
  OpenClaim.holds_of_cond 4 Tryz.f4 rfl rfl rfl rfl rfl rfl rfl ⟨rfl, rfl, rfl, rfl, rfl⟩ rfl rfl rfl rfl rfl (by kernel_rfl) Tryz.func4 (by kernel_rfl)
    (of_decide_eq_true (by kernel_rfl)) (by unfold Func.isWrapper; first | (rw [if_pos (by decide +kernel)]; kernel_rfl) | (rw [if_neg (by decide +kernel)]; exact ⟨rfl, rfl⟩))
    (fun os started H enc _ F => by rw [OpenClaim.pre_eq_preRow]; exact lifted os started H enc F)
theorem noStand : Tryz.f4.params.toList.all (fun t => !(Tryz.prog.wantsStandIn t)) = true := by kernel_rfl
theorem plain (f : FuncId) (fn : Func) (hf : Tryz.pinned.checked.prog.funcNamed "actorgrid/actorgridlaw37.RolloutCarries" = some f) (hfn : Tryz.pinned.checked.prog.funcs[f]? = some fn) :
    true = Tryz.pinned.checked.prog.looks [] ∧ ∀ (j : Nat) t, fn.params[j]? = some t → Tryz.pinned.checked.prog.wantsStandIn t = false := by
  obtain rfl : f = 4 := Option.some.inj ((show Tryz.prog.funcNamed "actorgrid/actorgridlaw37.RolloutCarries" = some 4 by kernel_rfl).symm.trans hf) |>.symm
  obtain rfl : fn = Tryz.f4 := (Option.some.inj (Tryz.func4.symm.trans hfn)).symm
  refine ⟨by kernel_rfl, fun j t ht => ?_⟩
  have hm : t ∈ Tryz.f4.params.toList := by simpa using Array.mem_of_getElem? ht
  have := List.all_eq_true.1 noStand t hm
  exact (show Tryz.prog.wantsStandIn t = false by simpa using this)
theorem card : Rows.RolloutCarriesCardSaid :=
  Claim7.holds_tied_plain_at .later [] _ _ _ _ said (fun _ h => by cases h) (by kernel_rfl) (fun _ h => by cases h) rolloutCarries_row_tie rfl ⟨rfl, rfl⟩ (by kernel_rfl) rfl plain (by kernel_rfl)
end Go.Proofs.YtdppgkglljpdaaaGreatDoor.rolloutCarries
namespace Go.Proofs.YtdppgkglljpdaaaGreatDoor
theorem rolloutCarries_holds : Rows.RolloutCarriesCardSaid := rolloutCarries.card
end Go.Proofs.YtdppgkglljpdaaaGreatDoor
