/- Data of the types of laws 37, read into structures. -/
import Derived.Test.YtdppgkglljpdaaaGreatDoorAbD
import Derived.Test.YtdppgkglljpdaaaGreatDoorRr
set_option linter.all false
namespace Go.Ab
open Go
set_option maxRecDepth 100000
theorem wf_u8 {i : Int} (h : (Lit.int .u8 i).wf = true) : 0 ≤ i ∧ i < 256 := by
  simp only [Lit.wf, Bool.and_eq_true, decide_eq_true_eq] at h
  have h1 : (0 : Int) ≤ i := h.1
  have h2 : i ≤ 255 := h.2
  exact ⟨h1, by omega⟩
theorem d_Ref (n : Nat) (x : Da) (h : datTy prog0 (cellsTy prog0 (n + 2)) 23 x) : ∃ s t : List Nat, x = .agg [.str s, .str t] ∧ wfS s ∧ wfS t := by
  obtain ⟨cs, rfl, hc⟩ := d_agg (by kernel_rfl) h
  have hd := c_struct (fs := #[⟨"Type", 9, 0, false, "", "", 0⟩, ⟨"Key", 9, 1, false, "", "", 16⟩]) (by kernel_rfl) hc
  simp only [fieldsTy] at hd
  obtain ⟨y1, z1, rfl, q1, y2, z2, rfl, q2, rfl⟩ := hd
  obtain ⟨s, rfl, w1⟩ := c_str (by kernel_rfl) q1
  obtain ⟨t, rfl, w2⟩ := c_str (by kernel_rfl) q2
  exact ⟨s, t, rfl, w1, w2⟩
theorem d_Rollout (n : Nat) (x : Da) (h : datTy prog0 (cellsTy prog0 (n + 2)) 54 x) : ∃ r : Ro, x = r.e ∧ wfI r.a ∧ wfI r.n ∧ wfI r.p := by
  obtain ⟨cs, rfl, hc⟩ := d_agg (by kernel_rfl) h
  have hd := c_struct (fs := #[⟨"Active", 3, 0, false, "", "", 0⟩, ⟨"Next", 3, 1, false, "", "", 8⟩, ⟨"Percent", 3, 2, false, "", "", 16⟩]) (by kernel_rfl) hc
  simp only [fieldsTy] at hd
  obtain ⟨y1, z1, rfl, q1, y2, z2, rfl, q2, y3, z3, rfl, q3, rfl⟩ := hd
  obtain ⟨a, rfl, w1⟩ := c_int (k := .i64) (by kernel_rfl) q1
  obtain ⟨b, rfl, w2⟩ := c_int (k := .i64) (by kernel_rfl) q2
  obtain ⟨c, rfl, w3⟩ := c_int (k := .i64) (by kernel_rfl) q3
  exact ⟨⟨a, b, c⟩, rfl, w1, w2, w3⟩
/-- actorgridlaw37.Act -/
structure Ac where
  k : Int
  n : Int
def Ac.e (a : Ac) : Da := .agg [.int .u8 a.k, .int .u8 a.n]
def Ac.wf (a : Ac) : Prop := (0 ≤ a.k ∧ a.k < 256) ∧ 0 ≤ a.n ∧ a.n < 256
theorem d_Act (n : Nat) (x : Da) (h : datTy prog0 (cellsTy prog0 (n + 2)) 66 x) : ∃ a : Ac, x = a.e ∧ a.wf := by
  obtain ⟨cs, rfl, hc⟩ := d_agg (by kernel_rfl) h
  have hd := c_struct (fs := #[⟨"Kind", 5, 0, false, "", "", 0⟩, ⟨"N", 5, 1, false, "", "", 1⟩]) (by kernel_rfl) hc
  simp only [fieldsTy] at hd
  obtain ⟨y1, z1, rfl, q1, y2, z2, rfl, q2, rfl⟩ := hd
  obtain ⟨a, rfl, w1⟩ := c_int (k := .u8) (by kernel_rfl) q1
  obtain ⟨b, rfl, w2⟩ := c_int (k := .u8) (by kernel_rfl) q2
  exact ⟨⟨a, b⟩, rfl, wf_u8 w1, wf_u8 w2⟩
theorem d_Acts (n : Nat) (x : Da) (h : datTy prog0 (cellsTy prog0 (n + 3)) 63 x) : ∃ l : List Ac, x = .slice 2 (l.map Ac.e) ∧ l.length ≤ maxLen ∧ ∀ a ∈ l, a.wf := by
  obtain ⟨l, h1, h2⟩ := c_slice (e := 66) (z := 2) Ac.e (by kernel_rfl) (by kernel_rfl) (d_Act n) (d_one (by kernel_rfl) h)
  exact ⟨l, by simpa using h1, h2⟩
end Go.Ab
