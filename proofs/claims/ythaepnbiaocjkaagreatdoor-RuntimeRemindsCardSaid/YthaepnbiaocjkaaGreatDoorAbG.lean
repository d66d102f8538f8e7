/- The seat's program, what cannot be read off it, and its table. -/
import Derived.Test.YthaepnbiaocjkaaGreatDoorAm5
import Derived.Test.YthaepnbiaocjkaaGreatDoorProg
import Derived.KernelRfl
set_option linter.all false
namespace Go.Ab
open Go
set_option maxRecDepth 100000
noncomputable def prog0 : Program := Go.Proofs.Tryz.prog
def globs0 : Glob := fun _ => none
def clO : List (Nat × Nat × Nat) := [(54, 5, 80), (55, 1, 8), (68, 4, 40), (118, 4, 48), (175, 2, 32), (176, 30, 456)]
def clX : List (Nat × Nat × Nat) := [(56, 1, 16)]
def findC : List (Nat × Nat × Nat) → Nat → Option (Nat × Nat)
  | [], _ => none
  | (g, z, b) :: r, f => bif Nat.beq g f then some (z, b) else findC r f
theorem findC_mem {f z b : Nat} : ∀ {l : List (Nat × Nat × Nat)}, findC l f = some (z, b) → (f, z, b) ∈ l
  | [], h => by cases h
  | (g, y, c) :: r, h => by
    simp only [findC] at h
    cases hg : Nat.beq g f
    · rw [hg] at h; exact List.mem_cons_of_mem _ (findC_mem h)
    · rw [hg] at h
      simp only [cond_true, Option.some.injEq, Prod.mk.injEq] at h
      obtain ⟨rfl, rfl⟩ := h
      rw [Nat.eq_of_beq_eq_true hg]; exact List.mem_cons_self ..
def hasF (l : List Nat) (f : Nat) : Bool := hasN f l
def prim0 (f : Nat) : Option (List Da → Option (D × List Ob)) :=
  match findC clO f with
  | some (z, b) => some (primCloneO z b)
  | none => match findC clX f with
    | some (z, b) => some (primClone z b)
    | none => none
def spec0 : Cfg where
  raw f q := bif Nat.beq q 1000041 then (match findC clO f with | some _ => false | none => true) else bif Nat.beq q 3000000 then hasN f [85] else false
  thaw f := match findC clO f with
    | some _ => true
    | none => hasN f [17, 180, 23, 129, 117, 30, 67]
  ghs f := match findC clO f with
    | some (z, _) => [([1, 0, 1, 0, 1], .own 2 z)]
    | none => bif hasN f [122, 81] then [([], .frz 0)] else []
  prim := prim0
theorem mix0 : prog0.follows .mixedOrders = true := by kernel_rfl
theorem names0 : prog0.funcs.toList.all (fun fn => !(fn.name == "runtime.NumGoroutine")) = true := by kernel_rfl
def zdOf : Option Fx → Da
  | some ⟨.seq _ (.seq _ (.seq (.reg _ (⟨_, .bsl _ zd _ _, _, _, _⟩ :: _) _ _) _)), _, _⟩ => zd
  | _ => .nilif
theorem fx54 : fxOf prog0 globs0 spec0 54 = some (cloneY 5 (zdOf (fxOf prog0 globs0 spec0 54)) 80) := by kernel_rfl
theorem fa54 : runFx (fun _ _ _ => none) 0 (cloneY 5 (zdOf (fxOf prog0 globs0 spec0 54)) 80) [.sl .na 5 []] [] = some (.arr 0 0 0 5, [.arr []]) := by kernel_rfl
theorem fb54 : runFx (fun _ _ _ => none) 0 (cloneY 5 (zdOf (fxOf prog0 globs0 spec0 54)) 80) [.sl .some 5 []] [] = some (.arr 0 0 0 5, [.arr []]) := by kernel_rfl
theorem fx55 : fxOf prog0 globs0 spec0 55 = some (cloneY 1 (zdOf (fxOf prog0 globs0 spec0 55)) 8) := by kernel_rfl
theorem fa55 : runFx (fun _ _ _ => none) 0 (cloneY 1 (zdOf (fxOf prog0 globs0 spec0 55)) 8) [.sl .na 1 []] [] = some (.arr 0 0 0 1, [.arr []]) := by kernel_rfl
theorem fb55 : runFx (fun _ _ _ => none) 0 (cloneY 1 (zdOf (fxOf prog0 globs0 spec0 55)) 8) [.sl .some 1 []] [] = some (.arr 0 0 0 1, [.arr []]) := by kernel_rfl
theorem fx68 : fxOf prog0 globs0 spec0 68 = some (cloneY 4 (zdOf (fxOf prog0 globs0 spec0 68)) 40) := by kernel_rfl
theorem fa68 : runFx (fun _ _ _ => none) 0 (cloneY 4 (zdOf (fxOf prog0 globs0 spec0 68)) 40) [.sl .na 4 []] [] = some (.arr 0 0 0 4, [.arr []]) := by kernel_rfl
theorem fb68 : runFx (fun _ _ _ => none) 0 (cloneY 4 (zdOf (fxOf prog0 globs0 spec0 68)) 40) [.sl .some 4 []] [] = some (.arr 0 0 0 4, [.arr []]) := by kernel_rfl
theorem fx118 : fxOf prog0 globs0 spec0 118 = some (cloneY 4 (zdOf (fxOf prog0 globs0 spec0 118)) 48) := by kernel_rfl
theorem fa118 : runFx (fun _ _ _ => none) 0 (cloneY 4 (zdOf (fxOf prog0 globs0 spec0 118)) 48) [.sl .na 4 []] [] = some (.arr 0 0 0 4, [.arr []]) := by kernel_rfl
theorem fb118 : runFx (fun _ _ _ => none) 0 (cloneY 4 (zdOf (fxOf prog0 globs0 spec0 118)) 48) [.sl .some 4 []] [] = some (.arr 0 0 0 4, [.arr []]) := by kernel_rfl
theorem fx175 : fxOf prog0 globs0 spec0 175 = some (cloneY 2 (zdOf (fxOf prog0 globs0 spec0 175)) 32) := by kernel_rfl
theorem fa175 : runFx (fun _ _ _ => none) 0 (cloneY 2 (zdOf (fxOf prog0 globs0 spec0 175)) 32) [.sl .na 2 []] [] = some (.arr 0 0 0 2, [.arr []]) := by kernel_rfl
theorem fb175 : runFx (fun _ _ _ => none) 0 (cloneY 2 (zdOf (fxOf prog0 globs0 spec0 175)) 32) [.sl .some 2 []] [] = some (.arr 0 0 0 2, [.arr []]) := by kernel_rfl
theorem fx176 : fxOf prog0 globs0 spec0 176 = some (cloneY 30 (zdOf (fxOf prog0 globs0 spec0 176)) 456) := by kernel_rfl
theorem fa176 : runFx (fun _ _ _ => none) 0 (cloneY 30 (zdOf (fxOf prog0 globs0 spec0 176)) 456) [.sl .na 30 []] [] = some (.arr 0 0 0 30, [.arr []]) := by kernel_rfl
theorem fb176 : runFx (fun _ _ _ => none) 0 (cloneY 30 (zdOf (fxOf prog0 globs0 spec0 176)) 456) [.sl .some 30 []] [] = some (.arr 0 0 0 30, [.arr []]) := by kernel_rfl
theorem fx56 : fxOf prog0 globs0 spec0 56 = some (cloneX 1 (zdOf (fxOf prog0 globs0 spec0 56)) 16) := by kernel_rfl
theorem fa56 : runFx (fun _ _ _ => none) 0 (cloneX 1 (zdOf (fxOf prog0 globs0 spec0 56)) 16) [.sl .na 1 []] [] = some (.p (.slice 1 []), []) := by kernel_rfl
theorem fb56 : runFx (fun _ _ _ => none) 0 (cloneX 1 (zdOf (fxOf prog0 globs0 spec0 56)) 16) [.sl .some 1 []] [] = some (.p (.slice 1 []), []) := by kernel_rfl
theorem prims0 (L : Letters) (f : Nat) (g : List Da → Option (D × List Ob)) (h : prim0 f = some g) : @PrimOk L prog0 globs0 f g := by
  unfold prim0 at h
  split at h
  · rename_i z b hf
    have hm := findC_mem hf
    simp only [Option.some.injEq] at h
    subst h
    simp only [clO, List.mem_cons, List.not_mem_nil, or_false, Prod.mk.injEq] at hm
    rcases hm with ⟨rfl, rfl, rfl⟩ | ⟨rfl, rfl, rfl⟩ | ⟨rfl, rfl, rfl⟩ | ⟨rfl, rfl, rfl⟩ | ⟨rfl, rfl, rfl⟩ | ⟨rfl, rfl, rfl⟩
    · exact prim_cloneO mix0 fx54 names0 fa54 fb54 L
    · exact prim_cloneO mix0 fx55 names0 fa55 fb55 L
    · exact prim_cloneO mix0 fx68 names0 fa68 fb68 L
    · exact prim_cloneO mix0 fx118 names0 fa118 fb118 L
    · exact prim_cloneO mix0 fx175 names0 fa175 fb175 L
    · exact prim_cloneO mix0 fx176 names0 fa176 fb176 L
  · split at h
    · rename_i z b hf
      have hm := findC_mem hf
      simp only [Option.some.injEq] at h
      subst h
      simp only [clX, List.mem_cons, List.not_mem_nil, or_false, Prod.mk.injEq] at hm
      obtain ⟨rfl, rfl, rfl⟩ := hm
      exact prim_clone mix0 fx56 names0 fa56 fb56 L
    · cases h
noncomputable def lay0 : Lay prog0 globs0 := Lay.base spec0 names0 prims0
end Go.Ab
