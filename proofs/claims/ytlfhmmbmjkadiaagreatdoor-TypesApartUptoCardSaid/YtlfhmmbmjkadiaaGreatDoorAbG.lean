/- The seat's program, what cannot be read off it, and its table. -/
import Derived.Test.YtlfhmmbmjkadiaaGreatDoorAbIx
import Derived.Test.YtlfhmmbmjkadiaaGreatDoorProg
import Derived.KernelRfl
set_option linter.all false
namespace Go.Ab
open Go
set_option maxRecDepth 100000
noncomputable def prog0 : Program := Go.Proofs.Tryz.prog
def globs0 : Glob := fun _ => none
def clO : List (Nat × Nat × Nat) := [(41, 7, 104)]
def clX : List (Nat × Nat × Nat) := [(76, 1, 8), (77, 1, 16), (96, 2, 24)]
def findC : List (Nat × Nat × Nat) → Nat → Option (Nat × Nat)
 | [], _ => none
 | (g, z, b) :: r, f => bif Nat.beq g f then some (z, b) else findC r f
theorem findC_mem {f z b : Nat} : ∀ {l : List (Nat × Nat × Nat)}, findC l f = some (z, b) → (f, z, b) ∈ l
 | [], h => by cases h
 | (g, y, c) :: r, h => by
  simp only [findC] at h
  cases hg : Nat.beq g f
  ·rw [hg] at h; exact List.mem_cons_of_mem _ (findC_mem h)
  ·rw [hg] at h
   simp only [cond_true, Option.some.injEq, Prod.mk.injEq] at h
   obtain ⟨rfl, rfl⟩ := h
   rw [Nat.eq_of_beq_eq_true hg]; exact List.mem_cons_self ..
def prim0 (f : Nat) : Option (List Da → Option (D × List Ob)) :=
 bif Nat.beq f 202 then some primIdx else match findC clO f with
 | some (z, b) => some (primCloneO z b)
 | none => match findC clX f with
  | some (z, b) => some (primClone z b)
  | none => none
def ghsT : List (Nat × List (List Nat × Gh)) := [(5, [([1, 1, 1], .frzc 9 0)]),
 (53, [([1, 1, 1, 0, 1, 0, 0, 0, 1, 1, 0, 0, 1, 1, 1, 1], .frz 8)]),
 (71, [([1, 1, 1, 0, 0], .keep [1]), ([1, 1, 0, 0, 1, 1, 0, 1, 1, 1, 1], .keep [1]), ([1, 1, 0, 0, 1, 1, 0, 1, 1, 0], .keep [1]), ([1, 1, 0, 0, 1, 1, 0, 0], .keep [1]), ([1, 1, 0, 0, 0], .keep [1]), ([1, 0, 0], .keep [1])]),
 (88, [([1, 1], .ownc 9 6 2)]),
 (128, [([1, 1, 1, 1, 1], .frz 8)]),
 (176, [([1, 1, 0, 1, 0], .own 3 1)]),
 (234, [([1, 1, 0, 1, 0, 1, 1, 1, 1, 1, 1, 1, 0], .keep [0, 1, 3, 12]), ([1, 1, 0, 1, 0, 1, 1, 1, 1, 1, 0], .keep [0, 1, 3, 12]), ([1, 1, 0, 1, 0, 1, 1, 1, 0], .keep [0, 1, 3, 11, 12]), ([1, 1, 0, 1, 0, 1, 0], .keep [0, 1, 3, 11, 12])])]
def findG : List (Nat × List (List Nat × Gh)) → Nat → List (List Nat × Gh)
 | [], _ => []
 | (g, l) :: r, f => bif Nat.beq g f then l else findG r f
def spec0 : Cfg where
 raw _ _ := false
 thaw f := match findC clO f with
  | some _ => true
  | none => hasN f [228]
 ghs f := match findC clO f with
  | some (z, _) => [([1, 0, 1, 0, 1], .own 2 z)]
  | none => findG ghsT f
 prim := prim0
theorem mix0 : prog0.follows .mixedOrders = true := by kernel_rfl
theorem names0 : prog0.funcs.toList.all (fun fn => !(fn.name == "runtime.NumGoroutine")) = true := by kernel_rfl
def zdOf : Option Fx → Da
 | some ⟨.seq _ (.seq _ (.seq (.reg _ (⟨_, .bsl _ zd _ _, _, _, _⟩ :: _) _ _) _)), _, _⟩ => zd
 | _ => .nilif
theorem fx41 : fxOf prog0 globs0 spec0 41 = some (cloneY 7 (zdOf (fxOf prog0 globs0 spec0 41)) 104) := by kernel_rfl
theorem fa41 : runFx (fun _ _ _ => none) 0 (cloneY 7 (zdOf (fxOf prog0 globs0 spec0 41)) 104) [.sl .na 7 []] [] = some (.arr 0 0 0 7, [.arr []]) := by kernel_rfl
theorem fb41 : runFx (fun _ _ _ => none) 0 (cloneY 7 (zdOf (fxOf prog0 globs0 spec0 41)) 104) [.sl .some 7 []] [] = some (.arr 0 0 0 7, [.arr []]) := by kernel_rfl
theorem fx76 : fxOf prog0 globs0 spec0 76 = some (cloneX 1 (zdOf (fxOf prog0 globs0 spec0 76)) 8) := by kernel_rfl
theorem fa76 : runFx (fun _ _ _ => none) 0 (cloneX 1 (zdOf (fxOf prog0 globs0 spec0 76)) 8) [.sl .na 1 []] [] = some (.p (.slice 1 []), []) := by kernel_rfl
theorem fb76 : runFx (fun _ _ _ => none) 0 (cloneX 1 (zdOf (fxOf prog0 globs0 spec0 76)) 8) [.sl .some 1 []] [] = some (.p (.slice 1 []), []) := by kernel_rfl
theorem fx77 : fxOf prog0 globs0 spec0 77 = some (cloneX 1 (zdOf (fxOf prog0 globs0 spec0 77)) 16) := by kernel_rfl
theorem fa77 : runFx (fun _ _ _ => none) 0 (cloneX 1 (zdOf (fxOf prog0 globs0 spec0 77)) 16) [.sl .na 1 []] [] = some (.p (.slice 1 []), []) := by kernel_rfl
theorem fb77 : runFx (fun _ _ _ => none) 0 (cloneX 1 (zdOf (fxOf prog0 globs0 spec0 77)) 16) [.sl .some 1 []] [] = some (.p (.slice 1 []), []) := by kernel_rfl
theorem fx96 : fxOf prog0 globs0 spec0 96 = some (cloneX 2 (zdOf (fxOf prog0 globs0 spec0 96)) 24) := by kernel_rfl
theorem fa96 : runFx (fun _ _ _ => none) 0 (cloneX 2 (zdOf (fxOf prog0 globs0 spec0 96)) 24) [.sl .na 2 []] [] = some (.p (.slice 2 []), []) := by kernel_rfl
theorem fb96 : runFx (fun _ _ _ => none) 0 (cloneX 2 (zdOf (fxOf prog0 globs0 spec0 96)) 24) [.sl .some 2 []] [] = some (.p (.slice 2 []), []) := by kernel_rfl
theorem prims0 (L : Letters) (f : Nat) (g : List Da → Option (D × List Ob)) (h : prim0 f = some g) : @PrimOk L prog0 globs0 f g := by
 unfold prim0 at h
 cases hx : Nat.beq f 202 with
 | true =>
  rw [hx] at h
  simp only [cond_true, Option.some.injEq] at h
  rw [← h, Nat.eq_of_beq_eq_true hx]
  exact idx_law (b := 250) mix0 (by kernel_rfl) (by kernel_rfl) (by kernel_rfl) (by kernel_rfl) (by kernel_rfl) (by kernel_rfl) (by kernel_rfl) (by kernel_rfl) (by kernel_rfl) (by kernel_rfl) (by kernel_rfl) L
 | false =>
 rw [hx] at h
 simp only [cond_false] at h
 split at h
 ·rename_i z b hf
  have hm := findC_mem hf
  simp only [Option.some.injEq] at h
  subst h
  simp only [clO, List.mem_cons, List.not_mem_nil, or_false, Prod.mk.injEq] at hm
  obtain ⟨rfl, rfl, rfl⟩ := hm
  exact prim_cloneO mix0 fx41 names0 fa41 fb41 L
 ·split at h
  ·rename_i z b hf
   have hm := findC_mem hf
   simp only [Option.some.injEq] at h
   subst h
   simp only [clX, List.mem_cons, List.not_mem_nil, or_false, Prod.mk.injEq] at hm
   rcases hm with ⟨rfl, rfl, rfl⟩ | ⟨rfl, rfl, rfl⟩ | ⟨rfl, rfl, rfl⟩
   ·exact prim_clone mix0 fx76 names0 fa76 fb76 L
   ·exact prim_clone mix0 fx77 names0 fa77 fb77 L
   ·exact prim_clone mix0 fx96 names0 fa96 fb96 L
  ·cases h
noncomputable def layB : Lay prog0 globs0 := Lay.base spec0 names0 prims0
end Go.Ab
