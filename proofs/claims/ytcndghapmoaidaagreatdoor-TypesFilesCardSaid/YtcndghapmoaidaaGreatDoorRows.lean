/-
  NARROWER THAN 'FOR EVERY INPUT', by the rows' own cells (each row's printed sentence says how): BindUses: laid · BindNames: laid · BindLead: laid · BindFiles: laid · TypesChecks: laid · TypesMay: laid · TypesChain: laid · TypesFiles: laid.
  DERIVED. THE GIVEN ROWS OF THIS SEAT. 8 by the template 'for every input the law returns true; each argument reads behind the call as it read before'; 0 by the template 'total and deterministic' (their statements: YtcndghapmoaidaaGreatDoorTotals.lean).
  GIVEN WITH THE SEED: the statements are not yours to turn. If you find one false, say at which input.
  Laid BY PROGRAM, IN A SANDBOX (cutbox-rows.mjs): the forced cells as the released guide's own fill.sh prints them over the translation d403bc03d0748600… (all of the seat's roots in one cut). By AI agents, Wed Nov 11 2026. No macro, syntax, notation, axiom, sorry.
-/
import Derived.Test.YtcndghapmoaidaaGreatDoorChecked
import GoSem.Claim
import GoSem.ClaimJoined
import GoSem.ClaimMapViews
import Derived.JoinedTies
import Derived.KernelRfl
namespace Go.Proofs.YtcndghapmoaidaaGreatDoor
/- THE CELL 'sum', in the pinned program and in every row, IS THE sha256 OF THE DUMP (.gsa) THAT YtcndghapmoaidaaGreatDoorProg.lean LOADS. Nothing in Lean hashes anything: it is a label: what it is worth is what the hold of that sum in a sandbox is worth. -/
noncomputable def Tryz.pinned : Pinned := { name := "ytcndghapmoaidaagreatdoor", sum := "d403bc03d074860098bc0829a437473d5716d8cf735b6e45eb4f401a925fab14", checked := Tryz.checked }
namespace Rows
def none {H : Type} : Left H := { results := [], args := [] }

/- WHAT THE LISTED PACKAGE-LEVEL VARIABLES READ AS WHEN THE CALL BEGINS. Each datum BY PROGRAM (the guide's laid-datum.mjs) off the statement by which the dump's own 'gosem.cut.vars' lays the variable. In a bare row this is a premise. The card (YtcndghapmoaidaaGreatDoorCards.lean) ties it to the program's text. -/
def laid_math_bits_deBruijn32tab {H : Type} : DataW H := .agg [.lit (.int .u8 0), .lit (.int .u8 1), .lit (.int .u8 28), .lit (.int .u8 2), .lit (.int .u8 29), .lit (.int .u8 14), .lit (.int .u8 24), .lit (.int .u8 3), .lit (.int .u8 30), .lit (.int .u8 22), .lit (.int .u8 20), .lit (.int .u8 15), .lit (.int .u8 25), .lit (.int .u8 17), .lit (.int .u8 4), .lit (.int .u8 8), .lit (.int .u8 31), .lit (.int .u8 27), .lit (.int .u8 13), .lit (.int .u8 23), .lit (.int .u8 21), .lit (.int .u8 19), .lit (.int .u8 16), .lit (.int .u8 7), .lit (.int .u8 26), .lit (.int .u8 12), .lit (.int .u8 18), .lit (.int .u8 6), .lit (.int .u8 11), .lit (.int .u8 5), .lit (.int .u8 10), .lit (.int .u8 9)]
def laid_math_bits_deBruijn64tab {H : Type} : DataW H := .agg [.lit (.int .u8 0), .lit (.int .u8 1), .lit (.int .u8 56), .lit (.int .u8 2), .lit (.int .u8 57), .lit (.int .u8 49), .lit (.int .u8 28), .lit (.int .u8 3), .lit (.int .u8 61), .lit (.int .u8 58), .lit (.int .u8 42), .lit (.int .u8 50), .lit (.int .u8 38), .lit (.int .u8 29), .lit (.int .u8 17), .lit (.int .u8 4), .lit (.int .u8 62), .lit (.int .u8 47), .lit (.int .u8 59), .lit (.int .u8 36), .lit (.int .u8 45), .lit (.int .u8 43), .lit (.int .u8 51), .lit (.int .u8 22), .lit (.int .u8 53), .lit (.int .u8 39), .lit (.int .u8 33), .lit (.int .u8 30), .lit (.int .u8 24), .lit (.int .u8 18), .lit (.int .u8 12), .lit (.int .u8 5), .lit (.int .u8 63), .lit (.int .u8 55), .lit (.int .u8 48), .lit (.int .u8 27), .lit (.int .u8 60), .lit (.int .u8 41), .lit (.int .u8 37), .lit (.int .u8 16), .lit (.int .u8 46), .lit (.int .u8 35), .lit (.int .u8 44), .lit (.int .u8 21), .lit (.int .u8 52), .lit (.int .u8 32), .lit (.int .u8 23), .lit (.int .u8 11), .lit (.int .u8 54), .lit (.int .u8 26), .lit (.int .u8 40), .lit (.int .u8 15), .lit (.int .u8 34), .lit (.int .u8 20), .lit (.int .u8 31), .lit (.int .u8 10), .lit (.int .u8 25), .lit (.int .u8 14), .lit (.int .u8 19), .lit (.int .u8 9), .lit (.int .u8 13), .lit (.int .u8 8), .lit (.int .u8 7), .lit (.int .u8 6)]
def laid_internal_strconv_uint64pow10 {H : Type} : DataW H := .agg [.lit (.int .u64 1), .lit (.int .u64 10), .lit (.int .u64 100), .lit (.int .u64 1000), .lit (.int .u64 10000), .lit (.int .u64 100000), .lit (.int .u64 1000000), .lit (.int .u64 10000000), .lit (.int .u64 100000000), .lit (.int .u64 1000000000), .lit (.int .u64 10000000000), .lit (.int .u64 100000000000), .lit (.int .u64 1000000000000), .lit (.int .u64 10000000000000), .lit (.int .u64 100000000000000), .lit (.int .u64 1000000000000000), .lit (.int .u64 10000000000000000), .lit (.int .u64 100000000000000000), .lit (.int .u64 1000000000000000000), .lit (.int .u64 10000000000000000000)]

/-- 'concordatlaw17.BindUses': WHATEVER THE INPUT: true; the input reads as it did. -/
def bindUsesSpec : ChangeSpec := { name := "bindUses", fn := fun _ => fun
  | [d1, d2, d3] => { results := [.lit (.bool true)], args := [d1, d2, d3] }
  | _ => none }
def bindUsesRow : OpenClaim := { program := "ytcndghapmoaidaagreatdoor", sum := "d403bc03d074860098bc0829a437473d5716d8cf735b6e45eb4f401a925fab14", func := "concordat/concordatlaw17.BindUses", spec := "bindUses", inPlace := ["maps.clone"], unfollowed := true, recurses := true, named := ["internal/strconv.uint64pow10", "math/bits.deBruijn32tab", "math/bits.deBruijn64tab"], plainKeys := false, apart := false, laid := [("math/bits.deBruijn32tab", laid_math_bits_deBruijn32tab), ("math/bits.deBruijn64tab", laid_math_bits_deBruijn64tab), ("internal/strconv.uint64pow10", laid_internal_strconv_uint64pow10)] }
def BindUsesSaid : Prop := bindUsesRow.holds Tryz.pinned (OpenSpec.ofChange bindUsesSpec)

/-- ITS FALSE NEIGHBOUR: 'it returns false'. Refute it at one input. -/
def bindUsesWrong : ChangeSpec := { name := "bindUses", fn := fun _ => fun
  | [d1, d2, d3] => { results := [.lit (.bool false)], args := [d1, d2, d3] }
  | _ => none }
def BindUsesWrongFalsely : Prop := bindUsesRow.holds Tryz.pinned (OpenSpec.ofChange bindUsesWrong)

/-- 'concordatlaw17.BindNames': WHATEVER THE INPUT: true; the input reads as it did. -/
def bindNamesSpec : ChangeSpec := { name := "bindNames", fn := fun _ => fun
  | [d] => { results := [.lit (.bool true)], args := [d] }
  | _ => none }
def bindNamesRow : OpenClaim := { program := "ytcndghapmoaidaagreatdoor", sum := "d403bc03d074860098bc0829a437473d5716d8cf735b6e45eb4f401a925fab14", func := "concordat/concordatlaw17.BindNames", spec := "bindNames", inPlace := ["maps.clone"], unfollowed := true, recurses := true, named := ["internal/strconv.uint64pow10", "math/bits.deBruijn32tab", "math/bits.deBruijn64tab"], plainKeys := false, apart := false, laid := [("math/bits.deBruijn32tab", laid_math_bits_deBruijn32tab), ("math/bits.deBruijn64tab", laid_math_bits_deBruijn64tab), ("internal/strconv.uint64pow10", laid_internal_strconv_uint64pow10)] }
def BindNamesSaid : Prop := bindNamesRow.holds Tryz.pinned (OpenSpec.ofChange bindNamesSpec)

/-- ITS FALSE NEIGHBOUR: 'it returns false'. Refute it at one input. -/
def bindNamesWrong : ChangeSpec := { name := "bindNames", fn := fun _ => fun
  | [d] => { results := [.lit (.bool false)], args := [d] }
  | _ => none }
def BindNamesWrongFalsely : Prop := bindNamesRow.holds Tryz.pinned (OpenSpec.ofChange bindNamesWrong)

/-- 'concordatlaw17.BindLead': WHATEVER THE INPUT: true; the input reads as it did. -/
def bindLeadSpec : ChangeSpec := { name := "bindLead", fn := fun _ => fun
  | [d] => { results := [.lit (.bool true)], args := [d] }
  | _ => none }
def bindLeadRow : OpenClaim := { program := "ytcndghapmoaidaagreatdoor", sum := "d403bc03d074860098bc0829a437473d5716d8cf735b6e45eb4f401a925fab14", func := "concordat/concordatlaw17.BindLead", spec := "bindLead", inPlace := ["maps.clone"], unfollowed := true, recurses := true, named := ["internal/strconv.uint64pow10", "math/bits.deBruijn32tab", "math/bits.deBruijn64tab"], plainKeys := false, apart := false, laid := [("math/bits.deBruijn32tab", laid_math_bits_deBruijn32tab), ("math/bits.deBruijn64tab", laid_math_bits_deBruijn64tab), ("internal/strconv.uint64pow10", laid_internal_strconv_uint64pow10)] }
def BindLeadSaid : Prop := bindLeadRow.holds Tryz.pinned (OpenSpec.ofChange bindLeadSpec)

/-- ITS FALSE NEIGHBOUR: 'it returns false'. Refute it at one input. -/
def bindLeadWrong : ChangeSpec := { name := "bindLead", fn := fun _ => fun
  | [d] => { results := [.lit (.bool false)], args := [d] }
  | _ => none }
def BindLeadWrongFalsely : Prop := bindLeadRow.holds Tryz.pinned (OpenSpec.ofChange bindLeadWrong)

/-- 'concordatlaw17.BindFiles': WHATEVER THE INPUT: true; the input reads as it did. -/
def bindFilesSpec : ChangeSpec := { name := "bindFiles", fn := fun _ => fun
  | [d1, d2] => { results := [.lit (.bool true)], args := [d1, d2] }
  | _ => none }
def bindFilesRow : OpenClaim := { program := "ytcndghapmoaidaagreatdoor", sum := "d403bc03d074860098bc0829a437473d5716d8cf735b6e45eb4f401a925fab14", func := "concordat/concordatlaw17.BindFiles", spec := "bindFiles", inPlace := ["maps.clone"], unfollowed := true, recurses := true, named := ["internal/strconv.uint64pow10", "math/bits.deBruijn32tab", "math/bits.deBruijn64tab"], plainKeys := false, apart := false, laid := [("math/bits.deBruijn32tab", laid_math_bits_deBruijn32tab), ("math/bits.deBruijn64tab", laid_math_bits_deBruijn64tab), ("internal/strconv.uint64pow10", laid_internal_strconv_uint64pow10)] }
def BindFilesSaid : Prop := bindFilesRow.holds Tryz.pinned (OpenSpec.ofChange bindFilesSpec)

/-- ITS FALSE NEIGHBOUR: 'it returns false'. Refute it at one input. -/
def bindFilesWrong : ChangeSpec := { name := "bindFiles", fn := fun _ => fun
  | [d1, d2] => { results := [.lit (.bool false)], args := [d1, d2] }
  | _ => none }
def BindFilesWrongFalsely : Prop := bindFilesRow.holds Tryz.pinned (OpenSpec.ofChange bindFilesWrong)

/-- 'concordatlaw18.TypesChecks': WHATEVER THE INPUT: true; the input reads as it did. -/
def typesChecksSpec : ChangeSpec := { name := "typesChecks", fn := fun _ => fun
  | [d] => { results := [.lit (.bool true)], args := [d] }
  | _ => none }
def typesChecksRow : OpenClaim := { program := "ytcndghapmoaidaagreatdoor", sum := "d403bc03d074860098bc0829a437473d5716d8cf735b6e45eb4f401a925fab14", func := "concordat/concordatlaw18.TypesChecks", spec := "typesChecks", inPlace := ["maps.clone"], unfollowed := true, recurses := true, named := ["internal/strconv.uint64pow10", "math/bits.deBruijn32tab", "math/bits.deBruijn64tab"], plainKeys := false, apart := false, laid := [("math/bits.deBruijn32tab", laid_math_bits_deBruijn32tab), ("math/bits.deBruijn64tab", laid_math_bits_deBruijn64tab), ("internal/strconv.uint64pow10", laid_internal_strconv_uint64pow10)] }
def TypesChecksSaid : Prop := typesChecksRow.holds Tryz.pinned (OpenSpec.ofChange typesChecksSpec)

/-- ITS FALSE NEIGHBOUR: 'it returns false'. Refute it at one input. -/
def typesChecksWrong : ChangeSpec := { name := "typesChecks", fn := fun _ => fun
  | [d] => { results := [.lit (.bool false)], args := [d] }
  | _ => none }
def TypesChecksWrongFalsely : Prop := typesChecksRow.holds Tryz.pinned (OpenSpec.ofChange typesChecksWrong)

/-- 'concordatlaw18.TypesMay': WHATEVER THE INPUT: true; the input reads as it did. -/
def typesMaySpec : ChangeSpec := { name := "typesMay", fn := fun _ => fun
  | [d1, d2] => { results := [.lit (.bool true)], args := [d1, d2] }
  | _ => none }
def typesMayRow : OpenClaim := { program := "ytcndghapmoaidaagreatdoor", sum := "d403bc03d074860098bc0829a437473d5716d8cf735b6e45eb4f401a925fab14", func := "concordat/concordatlaw18.TypesMay", spec := "typesMay", inPlace := ["maps.clone"], unfollowed := true, recurses := true, named := ["internal/strconv.uint64pow10", "math/bits.deBruijn32tab", "math/bits.deBruijn64tab"], plainKeys := false, apart := false, laid := [("math/bits.deBruijn32tab", laid_math_bits_deBruijn32tab), ("math/bits.deBruijn64tab", laid_math_bits_deBruijn64tab), ("internal/strconv.uint64pow10", laid_internal_strconv_uint64pow10)] }
def TypesMaySaid : Prop := typesMayRow.holds Tryz.pinned (OpenSpec.ofChange typesMaySpec)

/-- ITS FALSE NEIGHBOUR: 'it returns false'. Refute it at one input. -/
def typesMayWrong : ChangeSpec := { name := "typesMay", fn := fun _ => fun
  | [d1, d2] => { results := [.lit (.bool false)], args := [d1, d2] }
  | _ => none }
def TypesMayWrongFalsely : Prop := typesMayRow.holds Tryz.pinned (OpenSpec.ofChange typesMayWrong)

/-- 'concordatlaw18.TypesChain': WHATEVER THE INPUT: true; the input reads as it did. -/
def typesChainSpec : ChangeSpec := { name := "typesChain", fn := fun _ => fun
  | [d1, d2] => { results := [.lit (.bool true)], args := [d1, d2] }
  | _ => none }
def typesChainRow : OpenClaim := { program := "ytcndghapmoaidaagreatdoor", sum := "d403bc03d074860098bc0829a437473d5716d8cf735b6e45eb4f401a925fab14", func := "concordat/concordatlaw18.TypesChain", spec := "typesChain", inPlace := ["maps.clone"], unfollowed := true, recurses := true, named := ["internal/strconv.uint64pow10", "math/bits.deBruijn32tab", "math/bits.deBruijn64tab"], plainKeys := false, apart := false, laid := [("math/bits.deBruijn32tab", laid_math_bits_deBruijn32tab), ("math/bits.deBruijn64tab", laid_math_bits_deBruijn64tab), ("internal/strconv.uint64pow10", laid_internal_strconv_uint64pow10)] }
def TypesChainSaid : Prop := typesChainRow.holds Tryz.pinned (OpenSpec.ofChange typesChainSpec)

/-- ITS FALSE NEIGHBOUR: 'it returns false'. Refute it at one input. -/
def typesChainWrong : ChangeSpec := { name := "typesChain", fn := fun _ => fun
  | [d1, d2] => { results := [.lit (.bool false)], args := [d1, d2] }
  | _ => none }
def TypesChainWrongFalsely : Prop := typesChainRow.holds Tryz.pinned (OpenSpec.ofChange typesChainWrong)

/-- 'concordatlaw18.TypesFiles': WHATEVER THE INPUT: true; the input reads as it did. -/
def typesFilesSpec : ChangeSpec := { name := "typesFiles", fn := fun _ => fun
  | [d] => { results := [.lit (.bool true)], args := [d] }
  | _ => none }
def typesFilesRow : OpenClaim := { program := "ytcndghapmoaidaagreatdoor", sum := "d403bc03d074860098bc0829a437473d5716d8cf735b6e45eb4f401a925fab14", func := "concordat/concordatlaw18.TypesFiles", spec := "typesFiles", inPlace := ["maps.clone"], unfollowed := true, recurses := true, named := ["internal/strconv.uint64pow10", "math/bits.deBruijn32tab", "math/bits.deBruijn64tab"], plainKeys := false, apart := false, laid := [("math/bits.deBruijn32tab", laid_math_bits_deBruijn32tab), ("math/bits.deBruijn64tab", laid_math_bits_deBruijn64tab), ("internal/strconv.uint64pow10", laid_internal_strconv_uint64pow10)] }
def TypesFilesSaid : Prop := typesFilesRow.holds Tryz.pinned (OpenSpec.ofChange typesFilesSpec)

/-- ITS FALSE NEIGHBOUR: 'it returns false'. Refute it at one input. -/
def typesFilesWrong : ChangeSpec := { name := "typesFiles", fn := fun _ => fun
  | [d] => { results := [.lit (.bool false)], args := [d] }
  | _ => none }
def TypesFilesWrongFalsely : Prop := typesFilesRow.holds Tryz.pinned (OpenSpec.ofChange typesFilesWrong)

/- THE SECOND FORM. 'bulk': how many values and letters a reading holds, each counted each time it is reached (what is shared counts as often as it is met; a slice's spare places count too). A statement '..UptoSaid' is the law's where the arguments, and the package variables that the reading takes, are together of bulk at most 1048576: NARROWER than '..Said'. Prove '..Said' where nothing that the law and all that it calls make is longer than what came in: it says more and counts as full. Else prove '..UptoSaid'. A law counts once. -/
mutual
def uptoBulk {H : Type} : DataW H → Nat
  | .lit (.string bytes) => bytes.length + 1
  | .lit _ => 1
  | .nil => 1
  | .ptr d => uptoBulk d + 1
  | .slice elems spare => uptoBulkAll elems + uptoBulkAll spare + 1
  | .agg parts => uptoBulkAll parts + 1
  | .iface _ d => uptoBulk d + 1
  | .map entries => uptoBulkEntries entries + 1
  | .held _ => 1
def uptoBulkAll {H : Type} : List (DataW H) → Nat
  | [] => 0
  | d :: r => uptoBulk d + uptoBulkAll r
def uptoBulkEntries {H : Type} : List (Lit × DataW H) → Nat
  | [] => 0
  | x :: r => uptoBulkEntry x + uptoBulkEntries r
def uptoBulkEntry {H : Type} : Lit × DataW H → Nat
  | (.string bytes, d) => bytes.length + uptoBulk d + 1
  | (_, d) => uptoBulk d + 1
 end
def uptoSmall : (H : Type) → List (DataW H) → Bool := fun _ ds => decide (uptoBulkAll ds ≤ 1048576)
def OpenSpec.upto (s : _root_.Go.ChangeSpec) : _root_.Go.OpenSpec := { _root_.Go.OpenSpec.ofChange s with cond := some uptoSmall }

/-- 'concordatlaw17.BindUses', WHERE WHAT IT READS IS OF BULK AT MOST 1048576: true; the input reads as it did. -/
def bindUsesUptoRow : OpenClaim := { program := "ytcndghapmoaidaagreatdoor", sum := "d403bc03d074860098bc0829a437473d5716d8cf735b6e45eb4f401a925fab14", func := "concordat/concordatlaw17.BindUses", spec := "bindUses", inPlace := ["maps.clone"], unfollowed := true, recurses := true, named := ["internal/strconv.uint64pow10", "math/bits.deBruijn32tab", "math/bits.deBruijn64tab"], plainKeys := false, apart := false, laid := [("math/bits.deBruijn32tab", laid_math_bits_deBruijn32tab), ("math/bits.deBruijn64tab", laid_math_bits_deBruijn64tab), ("internal/strconv.uint64pow10", laid_internal_strconv_uint64pow10)], narrowed := true }
def BindUsesUptoSaid : Prop := bindUsesUptoRow.holds Tryz.pinned (OpenSpec.upto bindUsesSpec)

/-- 'concordatlaw17.BindNames', WHERE WHAT IT READS IS OF BULK AT MOST 1048576: true; the input reads as it did. -/
def bindNamesUptoRow : OpenClaim := { program := "ytcndghapmoaidaagreatdoor", sum := "d403bc03d074860098bc0829a437473d5716d8cf735b6e45eb4f401a925fab14", func := "concordat/concordatlaw17.BindNames", spec := "bindNames", inPlace := ["maps.clone"], unfollowed := true, recurses := true, named := ["internal/strconv.uint64pow10", "math/bits.deBruijn32tab", "math/bits.deBruijn64tab"], plainKeys := false, apart := false, laid := [("math/bits.deBruijn32tab", laid_math_bits_deBruijn32tab), ("math/bits.deBruijn64tab", laid_math_bits_deBruijn64tab), ("internal/strconv.uint64pow10", laid_internal_strconv_uint64pow10)], narrowed := true }
def BindNamesUptoSaid : Prop := bindNamesUptoRow.holds Tryz.pinned (OpenSpec.upto bindNamesSpec)

/-- 'concordatlaw17.BindLead', WHERE WHAT IT READS IS OF BULK AT MOST 1048576: true; the input reads as it did. -/
def bindLeadUptoRow : OpenClaim := { program := "ytcndghapmoaidaagreatdoor", sum := "d403bc03d074860098bc0829a437473d5716d8cf735b6e45eb4f401a925fab14", func := "concordat/concordatlaw17.BindLead", spec := "bindLead", inPlace := ["maps.clone"], unfollowed := true, recurses := true, named := ["internal/strconv.uint64pow10", "math/bits.deBruijn32tab", "math/bits.deBruijn64tab"], plainKeys := false, apart := false, laid := [("math/bits.deBruijn32tab", laid_math_bits_deBruijn32tab), ("math/bits.deBruijn64tab", laid_math_bits_deBruijn64tab), ("internal/strconv.uint64pow10", laid_internal_strconv_uint64pow10)], narrowed := true }
def BindLeadUptoSaid : Prop := bindLeadUptoRow.holds Tryz.pinned (OpenSpec.upto bindLeadSpec)

/-- 'concordatlaw17.BindFiles', WHERE WHAT IT READS IS OF BULK AT MOST 1048576: true; the input reads as it did. -/
def bindFilesUptoRow : OpenClaim := { program := "ytcndghapmoaidaagreatdoor", sum := "d403bc03d074860098bc0829a437473d5716d8cf735b6e45eb4f401a925fab14", func := "concordat/concordatlaw17.BindFiles", spec := "bindFiles", inPlace := ["maps.clone"], unfollowed := true, recurses := true, named := ["internal/strconv.uint64pow10", "math/bits.deBruijn32tab", "math/bits.deBruijn64tab"], plainKeys := false, apart := false, laid := [("math/bits.deBruijn32tab", laid_math_bits_deBruijn32tab), ("math/bits.deBruijn64tab", laid_math_bits_deBruijn64tab), ("internal/strconv.uint64pow10", laid_internal_strconv_uint64pow10)], narrowed := true }
def BindFilesUptoSaid : Prop := bindFilesUptoRow.holds Tryz.pinned (OpenSpec.upto bindFilesSpec)

/-- 'concordatlaw18.TypesChecks', WHERE WHAT IT READS IS OF BULK AT MOST 1048576: true; the input reads as it did. -/
def typesChecksUptoRow : OpenClaim := { program := "ytcndghapmoaidaagreatdoor", sum := "d403bc03d074860098bc0829a437473d5716d8cf735b6e45eb4f401a925fab14", func := "concordat/concordatlaw18.TypesChecks", spec := "typesChecks", inPlace := ["maps.clone"], unfollowed := true, recurses := true, named := ["internal/strconv.uint64pow10", "math/bits.deBruijn32tab", "math/bits.deBruijn64tab"], plainKeys := false, apart := false, laid := [("math/bits.deBruijn32tab", laid_math_bits_deBruijn32tab), ("math/bits.deBruijn64tab", laid_math_bits_deBruijn64tab), ("internal/strconv.uint64pow10", laid_internal_strconv_uint64pow10)], narrowed := true }
def TypesChecksUptoSaid : Prop := typesChecksUptoRow.holds Tryz.pinned (OpenSpec.upto typesChecksSpec)

/-- 'concordatlaw18.TypesMay', WHERE WHAT IT READS IS OF BULK AT MOST 1048576: true; the input reads as it did. -/
def typesMayUptoRow : OpenClaim := { program := "ytcndghapmoaidaagreatdoor", sum := "d403bc03d074860098bc0829a437473d5716d8cf735b6e45eb4f401a925fab14", func := "concordat/concordatlaw18.TypesMay", spec := "typesMay", inPlace := ["maps.clone"], unfollowed := true, recurses := true, named := ["internal/strconv.uint64pow10", "math/bits.deBruijn32tab", "math/bits.deBruijn64tab"], plainKeys := false, apart := false, laid := [("math/bits.deBruijn32tab", laid_math_bits_deBruijn32tab), ("math/bits.deBruijn64tab", laid_math_bits_deBruijn64tab), ("internal/strconv.uint64pow10", laid_internal_strconv_uint64pow10)], narrowed := true }
def TypesMayUptoSaid : Prop := typesMayUptoRow.holds Tryz.pinned (OpenSpec.upto typesMaySpec)

/-- 'concordatlaw18.TypesChain', WHERE WHAT IT READS IS OF BULK AT MOST 1048576: true; the input reads as it did. -/
def typesChainUptoRow : OpenClaim := { program := "ytcndghapmoaidaagreatdoor", sum := "d403bc03d074860098bc0829a437473d5716d8cf735b6e45eb4f401a925fab14", func := "concordat/concordatlaw18.TypesChain", spec := "typesChain", inPlace := ["maps.clone"], unfollowed := true, recurses := true, named := ["internal/strconv.uint64pow10", "math/bits.deBruijn32tab", "math/bits.deBruijn64tab"], plainKeys := false, apart := false, laid := [("math/bits.deBruijn32tab", laid_math_bits_deBruijn32tab), ("math/bits.deBruijn64tab", laid_math_bits_deBruijn64tab), ("internal/strconv.uint64pow10", laid_internal_strconv_uint64pow10)], narrowed := true }
def TypesChainUptoSaid : Prop := typesChainUptoRow.holds Tryz.pinned (OpenSpec.upto typesChainSpec)

/-- 'concordatlaw18.TypesFiles', WHERE WHAT IT READS IS OF BULK AT MOST 1048576: true; the input reads as it did. -/
def typesFilesUptoRow : OpenClaim := { program := "ytcndghapmoaidaagreatdoor", sum := "d403bc03d074860098bc0829a437473d5716d8cf735b6e45eb4f401a925fab14", func := "concordat/concordatlaw18.TypesFiles", spec := "typesFiles", inPlace := ["maps.clone"], unfollowed := true, recurses := true, named := ["internal/strconv.uint64pow10", "math/bits.deBruijn32tab", "math/bits.deBruijn64tab"], plainKeys := false, apart := false, laid := [("math/bits.deBruijn32tab", laid_math_bits_deBruijn32tab), ("math/bits.deBruijn64tab", laid_math_bits_deBruijn64tab), ("internal/strconv.uint64pow10", laid_internal_strconv_uint64pow10)], narrowed := true }
def TypesFilesUptoSaid : Prop := typesFilesUptoRow.holds Tryz.pinned (OpenSpec.upto typesFilesSpec)

end Rows
end Go.Proofs.YtcndghapmoaidaaGreatDoor
