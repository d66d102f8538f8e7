/- The law RuntimeReminds, for every input that its row speaks of, out of the evaluator's run (run_RuntimeReminds): its row, its card. Conditions: none beyond the row's own. -/
import Derived.Test.YthaepnbiaocjkaaGreatDoorCards
import Derived.Test.YthaepnbiaocjkaaGreatDoorTie
import Derived.Test.YthaepnbiaocjkaaGreatDoorAbXRuntimeReminds
import Derived.LaidSub
import Derived.WalkKit
import Derived.ProofKit
import Derived.OpenShut
import Derived.Deep.DeepHandedRow
set_option linter.all false
namespace Go.Proofs.YthaepnbiaocjkaaGreatDoor.runtimeReminds
open Go.ChangeShapes Go.WideShapes Go.ChangeAt Go.RowKit
theorem own : ownKnob Tryz.prog.godebug = none := by kernel_rfl
theorem outB : laidOutB Tryz.prog = true := by kernel_rfl
theorem three {H : Type} (ds : List (DataW H)) (hd : ds.length = 3) : (Rows.runtimeRemindsSpec.fn H (ds ++ [])).results = [.lit (.bool true)] ∧ (Rows.runtimeRemindsSpec.fn H (ds ++ [])).args = ds ∧ (Rows.runtimeRemindsSpec.fn H (ds ++ [])).vars = [] := by
  match ds, hd with
  | [_, _, _], _ => exact ⟨rfl, rfl, rfl⟩
set_option maxRecDepth 100000 in
theorem contract (H : Type) (enc : TypeId × Value → H) (W : World) (base : Nat) (args : Array Value) (ds gs : List (DataW H)) (before : List MemPlace)
    (hval : ∀ (j : Nat) t v, Tryz.f4.params[j]? = some t → args[j]? = some v → Value.okWide Tryz.prog W .any base t v)
    (hW : DataW.Whole enc Tryz.prog Tryz.f4.params.toList Rows.runtimeRemindsSpec.vars false W args.toList ds gs before) :
    Calls Tryz.prog 4 args W fun e W' => ∃ v, e = .returned v ∧ Rows.runtimeRemindsSpec.post enc Tryz.prog Tryz.f4 false true false false W args v W' :=
  Go.Ab.law_contractL (P := Tryz.prog) (f := Tryz.f4) (k := 4) (G := Go.Ab.globs0) (ev := Go.Ab.evFn Go.Ab.layW.tab) Go.Ab.callw_ok outB (n := 8) (tb := 4) (by kernel_rfl) (by kernel_rfl) Tryz.underlying4 rfl
    (fun ds hd => three ds (hd.trans (by kernel_rfl)))
    Go.Ab.run_RuntimeReminds (fun _ => Go.Ab.gr_none) hval Go.Ab.plain_RuntimeReminds hW
def lay (cs : Array Value) : Obj → Obj
  | .cells _ t frozen => .cells cs t frozen
  | o => o
noncomputable def laidWorld (os : Os) : World :=
  { World.holding Tryz.prog os ⟨#[], #[], []⟩ with heap := (((World.holding Tryz.prog os ⟨#[], #[], []⟩).heap.modify 0 (lay #[.int .u64 1, .int .u64 10, .int .u64 100, .int .u64 1000, .int .u64 10000, .int .u64 100000, .int .u64 1000000, .int .u64 10000000, .int .u64 100000000, .int .u64 1000000000, .int .u64 10000000000, .int .u64 100000000000, .int .u64 1000000000000, .int .u64 10000000000000, .int .u64 100000000000000, .int .u64 1000000000000000, .int .u64 10000000000000000, .int .u64 100000000000000000, .int .u64 1000000000000000000, .int .u64 10000000000000000000])).modify 1 (lay #[.int .u8 0, .int .u8 1, .int .u8 28, .int .u8 2, .int .u8 29, .int .u8 14, .int .u8 24, .int .u8 3, .int .u8 30, .int .u8 22, .int .u8 20, .int .u8 15, .int .u8 25, .int .u8 17, .int .u8 4, .int .u8 8, .int .u8 31, .int .u8 27, .int .u8 13, .int .u8 23, .int .u8 21, .int .u8 19, .int .u8 16, .int .u8 7, .int .u8 26, .int .u8 12, .int .u8 18, .int .u8 6, .int .u8 11, .int .u8 5, .int .u8 10, .int .u8 9])).modify 2 (lay #[.int .u8 0, .int .u8 1, .int .u8 56, .int .u8 2, .int .u8 57, .int .u8 49, .int .u8 28, .int .u8 3, .int .u8 61, .int .u8 58, .int .u8 42, .int .u8 50, .int .u8 38, .int .u8 29, .int .u8 17, .int .u8 4, .int .u8 62, .int .u8 47, .int .u8 59, .int .u8 36, .int .u8 45, .int .u8 43, .int .u8 51, .int .u8 22, .int .u8 53, .int .u8 39, .int .u8 33, .int .u8 30, .int .u8 24, .int .u8 18, .int .u8 12, .int .u8 5, .int .u8 63, .int .u8 55, .int .u8 48, .int .u8 27, .int .u8 60, .int .u8 41, .int .u8 37, .int .u8 16, .int .u8 46, .int .u8 35, .int .u8 44, .int .u8 21, .int .u8 52, .int .u8 32, .int .u8 23, .int .u8 11, .int .u8 54, .int .u8 26, .int .u8 40, .int .u8 15, .int .u8 34, .int .u8 20, .int .u8 31, .int .u8 10, .int .u8 25, .int .u8 14, .int .u8 19, .int .u8 9, .int .u8 13, .int .u8 8, .int .u8 7, .int .u8 6]) }
theorem laid_met (os : Os) : laidMet Tryz.prog Rows.runtimeRemindsRow.laid ((laidWorld os).forCall (fun _ _ => 0) ⟨#[], #[.int .u8 0, .int .u16 0, .int .u16 0], []⟩).memory :=
  laidMet_of_run' 8 (by kernel_rfl) (by kernel_rfl)
theorem reads (os : Os) {H : Type} (enc : TypeId × Value → H) : ∃ places, DataW.whole enc Tryz.prog ((laidWorld os).forCall (fun _ _ => 0) ⟨#[], #[.int .u8 0, .int .u16 0, .int .u16 0], []⟩).memory Tryz.f4.params.toList Rows.runtimeRemindsSpec.vars false (#[.int .u8 0, .int .u16 0, .int .u16 0] : Array Value).toList 8 = some ([.lit (.int .u8 0), .lit (.int .u16 0), .lit (.int .u16 0)], [], places) :=
  ⟨[], by kernel_rfl⟩
set_option maxRecDepth 100000 in
theorem lifted (os : Os) (started : os.Started) (H : Type) (enc : TypeId × Value → H) (F : Stop.Interp) :
    ReturnsInHanded {} Tryz.checked os 4 .any ((OpenSpec.ofChange Rows.runtimeRemindsSpec).preRow enc Tryz.prog Tryz.f4 Rows.runtimeRemindsRow.domain false Rows.runtimeRemindsRow.laid) (((OpenSpec.ofChange Rows.runtimeRemindsSpec).at F).post enc Tryz.prog Tryz.f4 false true false false) := by
  obtain ⟨places, hx⟩ := reads os enc
  refine returnsInHanded_of_row (C := Tryz.checked) (s := OpenSpec.ofChange Rows.runtimeRemindsSpec) own started (by kernel_rfl) Tryz.func4
    (witness_row_at (enc := enc) (C := Tryz.checked) false (laidWorld os) #[.int .u8 0, .int .u16 0, .int .u16 0] rfl (by kernel_rfl) (by kernel_rfl) (by kernel_rfl)
      (OpenSpec.preRow_of_cond 8 hx (by kernel_rfl) (fun k hk => by cases hk) (by kernel_rfl) (laid_met os))) ?_
  intro W base args ds gs before hval hW _ _ _ _ _ _
  exact contract H enc W base args ds gs before hval hW
end Go.Proofs.YthaepnbiaocjkaaGreatDoor.runtimeReminds
