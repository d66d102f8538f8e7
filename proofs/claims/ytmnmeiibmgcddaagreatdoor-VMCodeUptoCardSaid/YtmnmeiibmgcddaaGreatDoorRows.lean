/-
  NARROWER THAN 'FOR EVERY INPUT', by the rows' own cells (each row's printed sentence says how): VMStates: laid · VMRuns: laid · VMStarts: laid · VMSound: laid · VMFuel: laid · VMCode: laid.
  DERIVED. THE GIVEN ROWS OF THIS SEAT. 6 by the template 'for every input the law returns true; each argument reads behind the call as it read before'; 0 by the template 'total and deterministic' (their statements: YtmnmeiibmgcddaaGreatDoorTotals.lean).
  GIVEN WITH THE SEED: the statements are not yours to turn. If you find one false, say at which input.
  Laid BY PROGRAM, IN A SANDBOX (cutbox-rows.mjs): the forced cells as the released guide's own fill.sh prints them over the translation 5aa2256661a9afd7… (all of the seat's roots in one cut). By AI agents, Wed Nov 11 2026. No macro, syntax, notation, axiom, sorry.
-/
import Derived.Test.YtmnmeiibmgcddaaGreatDoorChecked
import GoSem.Claim
import GoSem.ClaimJoined
import GoSem.ClaimMapViews
import Derived.JoinedTies
import Derived.KernelRfl
namespace Go.Proofs.YtmnmeiibmgcddaaGreatDoor
/- THE CELL 'sum', in the pinned program and in every row, IS THE sha256 OF THE DUMP (.gsa) THAT YtmnmeiibmgcddaaGreatDoorProg.lean LOADS. Nothing in Lean hashes anything: it is a label: what it is worth is what the hold of that sum in a sandbox is worth. -/
noncomputable def Tryz.pinned : Pinned := { name := "ytmnmeiibmgcddaagreatdoor", sum := "5aa2256661a9afd71cd8209dda66cf325f83438b5b21d1300375d1b5237c30ba", checked := Tryz.checked }
namespace Rows
def none {H : Type} : Left H := { results := [], args := [] }

/- WHAT THE LISTED PACKAGE-LEVEL VARIABLES READ AS WHEN THE CALL BEGINS. Each datum BY PROGRAM (the guide's laid-datum.mjs) off the statement by which the dump's own 'gosem.cut.vars' lays the variable. In a bare row this is a premise. The card (YtmnmeiibmgcddaaGreatDoorCards.lean) ties it to the program's text. -/
def laid_math_bits_deBruijn32tab {H : Type} : DataW H := .agg [.lit (.int .u8 0), .lit (.int .u8 1), .lit (.int .u8 28), .lit (.int .u8 2), .lit (.int .u8 29), .lit (.int .u8 14), .lit (.int .u8 24), .lit (.int .u8 3), .lit (.int .u8 30), .lit (.int .u8 22), .lit (.int .u8 20), .lit (.int .u8 15), .lit (.int .u8 25), .lit (.int .u8 17), .lit (.int .u8 4), .lit (.int .u8 8), .lit (.int .u8 31), .lit (.int .u8 27), .lit (.int .u8 13), .lit (.int .u8 23), .lit (.int .u8 21), .lit (.int .u8 19), .lit (.int .u8 16), .lit (.int .u8 7), .lit (.int .u8 26), .lit (.int .u8 12), .lit (.int .u8 18), .lit (.int .u8 6), .lit (.int .u8 11), .lit (.int .u8 5), .lit (.int .u8 10), .lit (.int .u8 9)]
def laid_math_bits_deBruijn64tab {H : Type} : DataW H := .agg [.lit (.int .u8 0), .lit (.int .u8 1), .lit (.int .u8 56), .lit (.int .u8 2), .lit (.int .u8 57), .lit (.int .u8 49), .lit (.int .u8 28), .lit (.int .u8 3), .lit (.int .u8 61), .lit (.int .u8 58), .lit (.int .u8 42), .lit (.int .u8 50), .lit (.int .u8 38), .lit (.int .u8 29), .lit (.int .u8 17), .lit (.int .u8 4), .lit (.int .u8 62), .lit (.int .u8 47), .lit (.int .u8 59), .lit (.int .u8 36), .lit (.int .u8 45), .lit (.int .u8 43), .lit (.int .u8 51), .lit (.int .u8 22), .lit (.int .u8 53), .lit (.int .u8 39), .lit (.int .u8 33), .lit (.int .u8 30), .lit (.int .u8 24), .lit (.int .u8 18), .lit (.int .u8 12), .lit (.int .u8 5), .lit (.int .u8 63), .lit (.int .u8 55), .lit (.int .u8 48), .lit (.int .u8 27), .lit (.int .u8 60), .lit (.int .u8 41), .lit (.int .u8 37), .lit (.int .u8 16), .lit (.int .u8 46), .lit (.int .u8 35), .lit (.int .u8 44), .lit (.int .u8 21), .lit (.int .u8 52), .lit (.int .u8 32), .lit (.int .u8 23), .lit (.int .u8 11), .lit (.int .u8 54), .lit (.int .u8 26), .lit (.int .u8 40), .lit (.int .u8 15), .lit (.int .u8 34), .lit (.int .u8 20), .lit (.int .u8 31), .lit (.int .u8 10), .lit (.int .u8 25), .lit (.int .u8 14), .lit (.int .u8 19), .lit (.int .u8 9), .lit (.int .u8 13), .lit (.int .u8 8), .lit (.int .u8 7), .lit (.int .u8 6)]
def laid_internal_strconv_uint64pow10 {H : Type} : DataW H := .agg [.lit (.int .u64 1), .lit (.int .u64 10), .lit (.int .u64 100), .lit (.int .u64 1000), .lit (.int .u64 10000), .lit (.int .u64 100000), .lit (.int .u64 1000000), .lit (.int .u64 10000000), .lit (.int .u64 100000000), .lit (.int .u64 1000000000), .lit (.int .u64 10000000000), .lit (.int .u64 100000000000), .lit (.int .u64 1000000000000), .lit (.int .u64 10000000000000), .lit (.int .u64 100000000000000), .lit (.int .u64 1000000000000000), .lit (.int .u64 10000000000000000), .lit (.int .u64 100000000000000000), .lit (.int .u64 1000000000000000000), .lit (.int .u64 10000000000000000000)]
def laid_strconv_ErrRange {H : Type} : DataW H := .iface "*errors.errorString" (.ptr (.agg [.lit (.string [118, 97, 108, 117, 101, 32, 111, 117, 116, 32, 111, 102, 32, 114, 97, 110, 103, 101])]))
def laid_strconv_ErrSyntax {H : Type} : DataW H := .iface "*errors.errorString" (.ptr (.agg [.lit (.string [105, 110, 118, 97, 108, 105, 100, 32, 115, 121, 110, 116, 97, 120])]))

/-- 'actorgridlaw22.VMStates': WHATEVER THE INPUT: true; the input reads as it did. -/
def vMStatesSpec : ChangeSpec := { name := "vMStates", fn := fun _ => fun
  | [d1, d2, d3, d4, d5, d6, d7] => { results := [.lit (.bool true)], args := [d1, d2, d3, d4, d5, d6, d7] }
  | _ => none }
def vMStatesRow : OpenClaim := { program := "ytmnmeiibmgcddaagreatdoor", sum := "5aa2256661a9afd71cd8209dda66cf325f83438b5b21d1300375d1b5237c30ba", func := "actorgrid/actorgridlaw22.VMStates", spec := "vMStates", inPlace := ["internal/bytealg.IndexByteString", "maps.clone"], unfollowed := true, recurses := true, named := ["strconv.ErrSyntax", "strconv.ErrRange", "internal/strconv.uint64pow10", "math/bits.deBruijn32tab", "math/bits.deBruijn64tab"], apart := false, laid := [("math/bits.deBruijn32tab", laid_math_bits_deBruijn32tab), ("math/bits.deBruijn64tab", laid_math_bits_deBruijn64tab), ("internal/strconv.uint64pow10", laid_internal_strconv_uint64pow10), ("strconv.ErrRange", laid_strconv_ErrRange), ("strconv.ErrSyntax", laid_strconv_ErrSyntax)] }
def VMStatesSaid : Prop := vMStatesRow.holds Tryz.pinned (OpenSpec.ofChange vMStatesSpec)

/-- ITS FALSE NEIGHBOUR: 'it returns false'. Refute it at one input. -/
def vMStatesWrong : ChangeSpec := { name := "vMStates", fn := fun _ => fun
  | [d1, d2, d3, d4, d5, d6, d7] => { results := [.lit (.bool false)], args := [d1, d2, d3, d4, d5, d6, d7] }
  | _ => none }
def VMStatesWrongFalsely : Prop := vMStatesRow.holds Tryz.pinned (OpenSpec.ofChange vMStatesWrong)

/-- 'actorgridlaw22.VMRuns': WHATEVER THE INPUT: true; the input reads as it did. -/
def vMRunsSpec : ChangeSpec := { name := "vMRuns", fn := fun _ => fun
  | [d1, d2, d3, d4, d5, d6] => { results := [.lit (.bool true)], args := [d1, d2, d3, d4, d5, d6] }
  | _ => none }
def vMRunsRow : OpenClaim := { program := "ytmnmeiibmgcddaagreatdoor", sum := "5aa2256661a9afd71cd8209dda66cf325f83438b5b21d1300375d1b5237c30ba", func := "actorgrid/actorgridlaw22.VMRuns", spec := "vMRuns", inPlace := ["internal/bytealg.IndexByteString", "maps.clone"], unfollowed := true, recurses := true, named := ["strconv.ErrSyntax", "strconv.ErrRange", "internal/strconv.uint64pow10", "math/bits.deBruijn32tab", "math/bits.deBruijn64tab"], apart := false, laid := [("math/bits.deBruijn32tab", laid_math_bits_deBruijn32tab), ("math/bits.deBruijn64tab", laid_math_bits_deBruijn64tab), ("internal/strconv.uint64pow10", laid_internal_strconv_uint64pow10), ("strconv.ErrRange", laid_strconv_ErrRange), ("strconv.ErrSyntax", laid_strconv_ErrSyntax)] }
def VMRunsSaid : Prop := vMRunsRow.holds Tryz.pinned (OpenSpec.ofChange vMRunsSpec)

/-- ITS FALSE NEIGHBOUR: 'it returns false'. Refute it at one input. -/
def vMRunsWrong : ChangeSpec := { name := "vMRuns", fn := fun _ => fun
  | [d1, d2, d3, d4, d5, d6] => { results := [.lit (.bool false)], args := [d1, d2, d3, d4, d5, d6] }
  | _ => none }
def VMRunsWrongFalsely : Prop := vMRunsRow.holds Tryz.pinned (OpenSpec.ofChange vMRunsWrong)

/-- 'actorgridlaw22.VMStarts': WHATEVER THE INPUT: true; the input reads as it did. -/
def vMStartsSpec : ChangeSpec := { name := "vMStarts", fn := fun _ => fun
  | [d1, d2, d3, d4, d5, d6] => { results := [.lit (.bool true)], args := [d1, d2, d3, d4, d5, d6] }
  | _ => none }
def vMStartsRow : OpenClaim := { program := "ytmnmeiibmgcddaagreatdoor", sum := "5aa2256661a9afd71cd8209dda66cf325f83438b5b21d1300375d1b5237c30ba", func := "actorgrid/actorgridlaw22.VMStarts", spec := "vMStarts", inPlace := ["internal/bytealg.IndexByteString", "maps.clone"], unfollowed := true, recurses := true, named := ["strconv.ErrSyntax", "strconv.ErrRange", "internal/strconv.uint64pow10", "math/bits.deBruijn32tab", "math/bits.deBruijn64tab"], apart := false, laid := [("math/bits.deBruijn32tab", laid_math_bits_deBruijn32tab), ("math/bits.deBruijn64tab", laid_math_bits_deBruijn64tab), ("internal/strconv.uint64pow10", laid_internal_strconv_uint64pow10), ("strconv.ErrRange", laid_strconv_ErrRange), ("strconv.ErrSyntax", laid_strconv_ErrSyntax)] }
def VMStartsSaid : Prop := vMStartsRow.holds Tryz.pinned (OpenSpec.ofChange vMStartsSpec)

/-- ITS FALSE NEIGHBOUR: 'it returns false'. Refute it at one input. -/
def vMStartsWrong : ChangeSpec := { name := "vMStarts", fn := fun _ => fun
  | [d1, d2, d3, d4, d5, d6] => { results := [.lit (.bool false)], args := [d1, d2, d3, d4, d5, d6] }
  | _ => none }
def VMStartsWrongFalsely : Prop := vMStartsRow.holds Tryz.pinned (OpenSpec.ofChange vMStartsWrong)

/-- 'actorgridlaw22.VMSound': WHATEVER THE INPUT: true; the input reads as it did. -/
def vMSoundSpec : ChangeSpec := { name := "vMSound", fn := fun _ => fun
  | [d1, d2, d3, d4, d5, d6] => { results := [.lit (.bool true)], args := [d1, d2, d3, d4, d5, d6] }
  | _ => none }
def vMSoundRow : OpenClaim := { program := "ytmnmeiibmgcddaagreatdoor", sum := "5aa2256661a9afd71cd8209dda66cf325f83438b5b21d1300375d1b5237c30ba", func := "actorgrid/actorgridlaw22.VMSound", spec := "vMSound", inPlace := ["internal/bytealg.IndexByteString", "maps.clone"], unfollowed := true, recurses := true, named := ["strconv.ErrSyntax", "strconv.ErrRange", "internal/strconv.uint64pow10", "math/bits.deBruijn32tab", "math/bits.deBruijn64tab"], apart := false, laid := [("math/bits.deBruijn32tab", laid_math_bits_deBruijn32tab), ("math/bits.deBruijn64tab", laid_math_bits_deBruijn64tab), ("internal/strconv.uint64pow10", laid_internal_strconv_uint64pow10), ("strconv.ErrRange", laid_strconv_ErrRange), ("strconv.ErrSyntax", laid_strconv_ErrSyntax)] }
def VMSoundSaid : Prop := vMSoundRow.holds Tryz.pinned (OpenSpec.ofChange vMSoundSpec)

/-- ITS FALSE NEIGHBOUR: 'it returns false'. Refute it at one input. -/
def vMSoundWrong : ChangeSpec := { name := "vMSound", fn := fun _ => fun
  | [d1, d2, d3, d4, d5, d6] => { results := [.lit (.bool false)], args := [d1, d2, d3, d4, d5, d6] }
  | _ => none }
def VMSoundWrongFalsely : Prop := vMSoundRow.holds Tryz.pinned (OpenSpec.ofChange vMSoundWrong)

/-- 'actorgridlaw22.VMFuel': WHATEVER THE INPUT: true; the input reads as it did. -/
def vMFuelSpec : ChangeSpec := { name := "vMFuel", fn := fun _ => fun
  | [d1, d2, d3, d4, d5, d6, d7] => { results := [.lit (.bool true)], args := [d1, d2, d3, d4, d5, d6, d7] }
  | _ => none }
def vMFuelRow : OpenClaim := { program := "ytmnmeiibmgcddaagreatdoor", sum := "5aa2256661a9afd71cd8209dda66cf325f83438b5b21d1300375d1b5237c30ba", func := "actorgrid/actorgridlaw22.VMFuel", spec := "vMFuel", inPlace := ["internal/bytealg.IndexByteString", "maps.clone"], unfollowed := true, recurses := true, named := ["strconv.ErrSyntax", "strconv.ErrRange", "internal/strconv.uint64pow10", "math/bits.deBruijn32tab", "math/bits.deBruijn64tab"], apart := false, laid := [("math/bits.deBruijn32tab", laid_math_bits_deBruijn32tab), ("math/bits.deBruijn64tab", laid_math_bits_deBruijn64tab), ("internal/strconv.uint64pow10", laid_internal_strconv_uint64pow10), ("strconv.ErrRange", laid_strconv_ErrRange), ("strconv.ErrSyntax", laid_strconv_ErrSyntax)] }
def VMFuelSaid : Prop := vMFuelRow.holds Tryz.pinned (OpenSpec.ofChange vMFuelSpec)

/-- ITS FALSE NEIGHBOUR: 'it returns false'. Refute it at one input. -/
def vMFuelWrong : ChangeSpec := { name := "vMFuel", fn := fun _ => fun
  | [d1, d2, d3, d4, d5, d6, d7] => { results := [.lit (.bool false)], args := [d1, d2, d3, d4, d5, d6, d7] }
  | _ => none }
def VMFuelWrongFalsely : Prop := vMFuelRow.holds Tryz.pinned (OpenSpec.ofChange vMFuelWrong)

/-- 'actorgridlaw22.VMCode': WHATEVER THE INPUT: true; the input reads as it did. -/
def vMCodeSpec : ChangeSpec := { name := "vMCode", fn := fun _ => fun
  | [d1, d2, d3, d4, d5, d6] => { results := [.lit (.bool true)], args := [d1, d2, d3, d4, d5, d6] }
  | _ => none }
def vMCodeRow : OpenClaim := { program := "ytmnmeiibmgcddaagreatdoor", sum := "5aa2256661a9afd71cd8209dda66cf325f83438b5b21d1300375d1b5237c30ba", func := "actorgrid/actorgridlaw22.VMCode", spec := "vMCode", inPlace := ["internal/bytealg.IndexByteString", "maps.clone"], unfollowed := true, recurses := true, named := ["strconv.ErrSyntax", "strconv.ErrRange", "internal/strconv.uint64pow10", "math/bits.deBruijn32tab", "math/bits.deBruijn64tab"], apart := false, laid := [("math/bits.deBruijn32tab", laid_math_bits_deBruijn32tab), ("math/bits.deBruijn64tab", laid_math_bits_deBruijn64tab), ("internal/strconv.uint64pow10", laid_internal_strconv_uint64pow10), ("strconv.ErrRange", laid_strconv_ErrRange), ("strconv.ErrSyntax", laid_strconv_ErrSyntax)] }
def VMCodeSaid : Prop := vMCodeRow.holds Tryz.pinned (OpenSpec.ofChange vMCodeSpec)

/-- ITS FALSE NEIGHBOUR: 'it returns false'. Refute it at one input. -/
def vMCodeWrong : ChangeSpec := { name := "vMCode", fn := fun _ => fun
  | [d1, d2, d3, d4, d5, d6] => { results := [.lit (.bool false)], args := [d1, d2, d3, d4, d5, d6] }
  | _ => none }
def VMCodeWrongFalsely : Prop := vMCodeRow.holds Tryz.pinned (OpenSpec.ofChange vMCodeWrong)

/- THE SECOND FORM. 'bulk': how many values and letters a reading holds, each counted each time it is reached (what is shared counts as often as it is met; a slice's spare places count too). A statement '..UptoSaid' is the law's where the arguments, and the package variables that the reading takes, are together of bulk at most 1048576: NARROWER than '..Said'. Prove '..Said' where nothing that the law and all that it calls make is longer than what came in: it says more and counts as full. Else prove '..UptoSaid'. A law counts once. -/
mutual
def uptoBulk {H : Type} : DataW H → Nat
  | .lit (.string bytes) => bytes.length + 1
  | .lit _ => 1
  | .nil => 1
  | .ptr d => uptoBulk d + 1
  | .slice elems spare => uptoBulkAll elems + uptoBulkAll spare + 1
  | .agg parts => uptoBulkAll parts + 1
  | .iface _ d => uptoBulk d + 1
  | .map entries => uptoBulkEntries entries + 1
  | .held _ => 1
def uptoBulkAll {H : Type} : List (DataW H) → Nat
  | [] => 0
  | d :: r => uptoBulk d + uptoBulkAll r
def uptoBulkEntries {H : Type} : List (Lit × DataW H) → Nat
  | [] => 0
  | x :: r => uptoBulkEntry x + uptoBulkEntries r
def uptoBulkEntry {H : Type} : Lit × DataW H → Nat
  | (.string bytes, d) => bytes.length + uptoBulk d + 1
  | (_, d) => uptoBulk d + 1
 end
def uptoSmall : (H : Type) → List (DataW H) → Bool := fun _ ds => decide (uptoBulkAll ds ≤ 1048576)
def OpenSpec.upto (s : _root_.Go.ChangeSpec) : _root_.Go.OpenSpec := { _root_.Go.OpenSpec.ofChange s with cond := some uptoSmall }

/-- 'actorgridlaw22.VMStates', WHERE WHAT IT READS IS OF BULK AT MOST 1048576: true; the input reads as it did. -/
def vMStatesUptoRow : OpenClaim := { program := "ytmnmeiibmgcddaagreatdoor", sum := "5aa2256661a9afd71cd8209dda66cf325f83438b5b21d1300375d1b5237c30ba", func := "actorgrid/actorgridlaw22.VMStates", spec := "vMStates", inPlace := ["internal/bytealg.IndexByteString", "maps.clone"], unfollowed := true, recurses := true, named := ["strconv.ErrSyntax", "strconv.ErrRange", "internal/strconv.uint64pow10", "math/bits.deBruijn32tab", "math/bits.deBruijn64tab"], apart := false, laid := [("math/bits.deBruijn32tab", laid_math_bits_deBruijn32tab), ("math/bits.deBruijn64tab", laid_math_bits_deBruijn64tab), ("internal/strconv.uint64pow10", laid_internal_strconv_uint64pow10), ("strconv.ErrRange", laid_strconv_ErrRange), ("strconv.ErrSyntax", laid_strconv_ErrSyntax)], narrowed := true }
def VMStatesUptoSaid : Prop := vMStatesUptoRow.holds Tryz.pinned (OpenSpec.upto vMStatesSpec)

/-- 'actorgridlaw22.VMRuns', WHERE WHAT IT READS IS OF BULK AT MOST 1048576: true; the input reads as it did. -/
def vMRunsUptoRow : OpenClaim := { program := "ytmnmeiibmgcddaagreatdoor", sum := "5aa2256661a9afd71cd8209dda66cf325f83438b5b21d1300375d1b5237c30ba", func := "actorgrid/actorgridlaw22.VMRuns", spec := "vMRuns", inPlace := ["internal/bytealg.IndexByteString", "maps.clone"], unfollowed := true, recurses := true, named := ["strconv.ErrSyntax", "strconv.ErrRange", "internal/strconv.uint64pow10", "math/bits.deBruijn32tab", "math/bits.deBruijn64tab"], apart := false, laid := [("math/bits.deBruijn32tab", laid_math_bits_deBruijn32tab), ("math/bits.deBruijn64tab", laid_math_bits_deBruijn64tab), ("internal/strconv.uint64pow10", laid_internal_strconv_uint64pow10), ("strconv.ErrRange", laid_strconv_ErrRange), ("strconv.ErrSyntax", laid_strconv_ErrSyntax)], narrowed := true }
def VMRunsUptoSaid : Prop := vMRunsUptoRow.holds Tryz.pinned (OpenSpec.upto vMRunsSpec)

/-- 'actorgridlaw22.VMStarts', WHERE WHAT IT READS IS OF BULK AT MOST 1048576: true; the input reads as it did. -/
def vMStartsUptoRow : OpenClaim := { program := "ytmnmeiibmgcddaagreatdoor", sum := "5aa2256661a9afd71cd8209dda66cf325f83438b5b21d1300375d1b5237c30ba", func := "actorgrid/actorgridlaw22.VMStarts", spec := "vMStarts", inPlace := ["internal/bytealg.IndexByteString", "maps.clone"], unfollowed := true, recurses := true, named := ["strconv.ErrSyntax", "strconv.ErrRange", "internal/strconv.uint64pow10", "math/bits.deBruijn32tab", "math/bits.deBruijn64tab"], apart := false, laid := [("math/bits.deBruijn32tab", laid_math_bits_deBruijn32tab), ("math/bits.deBruijn64tab", laid_math_bits_deBruijn64tab), ("internal/strconv.uint64pow10", laid_internal_strconv_uint64pow10), ("strconv.ErrRange", laid_strconv_ErrRange), ("strconv.ErrSyntax", laid_strconv_ErrSyntax)], narrowed := true }
def VMStartsUptoSaid : Prop := vMStartsUptoRow.holds Tryz.pinned (OpenSpec.upto vMStartsSpec)

/-- 'actorgridlaw22.VMSound', WHERE WHAT IT READS IS OF BULK AT MOST 1048576: true; the input reads as it did. -/
def vMSoundUptoRow : OpenClaim := { program := "ytmnmeiibmgcddaagreatdoor", sum := "5aa2256661a9afd71cd8209dda66cf325f83438b5b21d1300375d1b5237c30ba", func := "actorgrid/actorgridlaw22.VMSound", spec := "vMSound", inPlace := ["internal/bytealg.IndexByteString", "maps.clone"], unfollowed := true, recurses := true, named := ["strconv.ErrSyntax", "strconv.ErrRange", "internal/strconv.uint64pow10", "math/bits.deBruijn32tab", "math/bits.deBruijn64tab"], apart := false, laid := [("math/bits.deBruijn32tab", laid_math_bits_deBruijn32tab), ("math/bits.deBruijn64tab", laid_math_bits_deBruijn64tab), ("internal/strconv.uint64pow10", laid_internal_strconv_uint64pow10), ("strconv.ErrRange", laid_strconv_ErrRange), ("strconv.ErrSyntax", laid_strconv_ErrSyntax)], narrowed := true }
def VMSoundUptoSaid : Prop := vMSoundUptoRow.holds Tryz.pinned (OpenSpec.upto vMSoundSpec)

/-- 'actorgridlaw22.VMFuel', WHERE WHAT IT READS IS OF BULK AT MOST 1048576: true; the input reads as it did. -/
def vMFuelUptoRow : OpenClaim := { program := "ytmnmeiibmgcddaagreatdoor", sum := "5aa2256661a9afd71cd8209dda66cf325f83438b5b21d1300375d1b5237c30ba", func := "actorgrid/actorgridlaw22.VMFuel", spec := "vMFuel", inPlace := ["internal/bytealg.IndexByteString", "maps.clone"], unfollowed := true, recurses := true, named := ["strconv.ErrSyntax", "strconv.ErrRange", "internal/strconv.uint64pow10", "math/bits.deBruijn32tab", "math/bits.deBruijn64tab"], apart := false, laid := [("math/bits.deBruijn32tab", laid_math_bits_deBruijn32tab), ("math/bits.deBruijn64tab", laid_math_bits_deBruijn64tab), ("internal/strconv.uint64pow10", laid_internal_strconv_uint64pow10), ("strconv.ErrRange", laid_strconv_ErrRange), ("strconv.ErrSyntax", laid_strconv_ErrSyntax)], narrowed := true }
def VMFuelUptoSaid : Prop := vMFuelUptoRow.holds Tryz.pinned (OpenSpec.upto vMFuelSpec)

/-- 'actorgridlaw22.VMCode', WHERE WHAT IT READS IS OF BULK AT MOST 1048576: true; the input reads as it did. -/
def vMCodeUptoRow : OpenClaim := { program := "ytmnmeiibmgcddaagreatdoor", sum := "5aa2256661a9afd71cd8209dda66cf325f83438b5b21d1300375d1b5237c30ba", func := "actorgrid/actorgridlaw22.VMCode", spec := "vMCode", inPlace := ["internal/bytealg.IndexByteString", "maps.clone"], unfollowed := true, recurses := true, named := ["strconv.ErrSyntax", "strconv.ErrRange", "internal/strconv.uint64pow10", "math/bits.deBruijn32tab", "math/bits.deBruijn64tab"], apart := false, laid := [("math/bits.deBruijn32tab", laid_math_bits_deBruijn32tab), ("math/bits.deBruijn64tab", laid_math_bits_deBruijn64tab), ("internal/strconv.uint64pow10", laid_internal_strconv_uint64pow10), ("strconv.ErrRange", laid_strconv_ErrRange), ("strconv.ErrSyntax", laid_strconv_ErrSyntax)], narrowed := true }
def VMCodeUptoSaid : Prop := vMCodeUptoRow.holds Tryz.pinned (OpenSpec.upto vMCodeSpec)

end Rows
end Go.Proofs.YtmnmeiibmgcddaaGreatDoor
