/- The data of the program, and its functions over plain data (printed by wip/gen/gen.py). -/
import Derived.Lib.Index
import Derived.Lib.Bytealg
import Derived.Lib.ParseIntB
import Derived.Test.YtefeelcjokdchaaDoorZK
set_option linter.unusedSimpArgs false
set_option linter.unusedVariables false
/- What functions of the library answer, and what the program's own variables hold, as plain data. -/
namespace Go.Proofs.YtefeelcjokdchaaDoor
open Go
def strings_Index (s sub : List UInt8) : Option Int := if s.length < 4294967281 then some (Lib.index s sub) else none
def strings_IndexByte (s : List UInt8) (c : Int) : Option Int := some (Lib.indexByte s c.toNat.toUInt8)
def strconv_ParseInt (s : List UInt8) (b k : Int) : Option (Int × Bool) :=
  if b = 10 ∧ k = 64 ∧ s.length ≤ 281474976710656 then
    match Lib.parseIntB 64 s with
    | .ok v => some (v, false)
    | .range => some (Lib.intSat 64 s, true)
    | _ => none
  else none
/-- The names that are kept. -/
def kept : List (List UInt8) := [[99, 108, 97, 115, 115], [101, 120, 116, 101, 110, 100, 115], [115, 116, 97, 116, 105, 99], [118, 111, 105, 100], [105, 110, 116], [98, 111, 111, 108, 101, 97, 110], [105, 102], [101, 108, 115, 101], [119, 104, 105, 108, 101], [114, 101, 116, 117, 114, 110], [112, 114, 105, 110, 116], [116, 114, 117, 101], [102, 97, 108, 115, 101], [110, 117, 108, 108], [116, 104, 105, 115], [110, 101, 119]]
/-- The marks that may not stand together. -/
def clashes : List (List UInt8 × List UInt8) := [([61], [61]), ([33], [61]), ([60], [61]), ([62], [61]), ([47], [47]), ([47], [42])]
end Go.Proofs.YtefeelcjokdchaaDoor

/- The data of the program, and its functions over plain data (printed by wip/gen/gen.py). -/
set_option linter.unusedSectionVars false
set_option maxRecDepth 100000
set_option maxHeartbeats 4000000
namespace Go.Proofs.YtefeelcjokdchaaDoor
open Go Go.Cn
structure ApiToken where
  Kind : Int
  Text : List UInt8
  At : Int
  Lead : List UInt8
  deriving DecidableEq
structure TokenClash where
  mark : List UInt8
  behind : List UInt8
  deriving DecidableEq
def lclashes : List TokenClash := clashes.map fun p => ⟨p.1, p.2⟩
/-- internal/stringslite.HasPrefix -/
noncomputable def internal_stringslite_HasPrefix_j1 (x5 : Bool) : Option (Bool) := some x5
noncomputable def internal_stringslite_HasPrefix (x1 : List UInt8) (x2 : List UInt8) : Option (Bool) := (if (decide ((x1.length : Int) ≥ (x2.length : Int))) = true then (sub x1 0 (x2.length : Int)).bind fun x4 => internal_stringslite_HasPrefix_j1 (x4 == x2) else internal_stringslite_HasPrefix_j1 false)
/-- strings.HasPrefix -/
noncomputable def strings_HasPrefix (x1 : List UInt8) (x2 : List UInt8) : Option (Bool) := (internal_stringslite_HasPrefix x1 x2).bind fun x3 => some x3
/-- slices.Index[[]string,string] -/
noncomputable def slices_Index_string_string_k1 : Option (Int) := some (-1)
noncomputable def slices_Index_string_string_l2 (x1 : List (List UInt8)) (x2 : List UInt8) (x3 : Int) : Option ((Int) ⊕ (Flow Unit Int)) := (if (decide (x3 < (x1.length : Int))) = true then (idx x1 x3).bind fun x6 => (if (x2 == x6) = true then some (.inr (.done x3)) else some (.inl (w64 (x3 + 1)))) else some (.inr (.next ())))
noncomputable def slices_Index_string_string (x1 : List (List UInt8)) (x2 : List UInt8) : Option (Int) := (iter (fun s => slices_Index_string_string_l2 x1 x2 s) 0).bind fun z => match z with | .next p => slices_Index_string_string_k1 | .done r => some r
/-- slices.Contains[[]string,string] -/
noncomputable def slices_Contains_string_string (x1 : List (List UInt8)) (x2 : List UInt8) : Option (Bool) := (slices_Index_string_string x1 x2).bind fun x3 => some (decide (x3 ≥ 0))
/-- concordat/lex.letter -/
noncomputable def lex_letter_j1 (x5 : Bool) : Option (Bool) := some x5
noncomputable def lex_letter (x1 : Int) : Option (Bool) := (if (decide ((bits .or .u8 x1 32) ≥ 97)) = true then (if (decide ((bits .or .u8 x1 32) ≤ 122)) = true then lex_letter_j1 true else lex_letter_j1 (x1 == 95)) else lex_letter_j1 (x1 == 95))
/-- concordat/lex.digit -/
noncomputable def lex_digit_j1 (x3 : Bool) : Option (Bool) := some x3
noncomputable def lex_digit (x1 : Int) : Option (Bool) := (if (decide (x1 ≥ 48)) = true then lex_digit_j1 (decide (x1 ≤ 57)) else lex_digit_j1 false)
/-- concordat/lex.between$1 -/
noncomputable def lex_between_1 (x1 : Int) : Option (Bool) := some (x1 != 10)
/-- concordat/concordatref03.letter -/
noncomputable def ref03_letter_j1 (x13 : Bool) : Option (Bool) := some x13
noncomputable def ref03_letter (x1 : Int) : Option (Bool) := (if (decide (x1 ≥ 97)) = true then (if (decide (x1 ≤ 122)) = true then ref03_letter_j1 true else (if (decide (x1 ≥ 65)) = true then (if (decide (x1 ≤ 90)) = true then ref03_letter_j1 true else ref03_letter_j1 (x1 == 95)) else ref03_letter_j1 (x1 == 95))) else (if (decide (x1 ≥ 65)) = true then (if (decide (x1 ≤ 90)) = true then ref03_letter_j1 true else ref03_letter_j1 (x1 == 95)) else ref03_letter_j1 (x1 == 95)))
/-- concordat/concordatref03.digit -/
noncomputable def ref03_digit_j1 (x3 : Bool) : Option (Bool) := some x3
noncomputable def ref03_digit (x1 : Int) : Option (Bool) := (if (decide (x1 ≥ 48)) = true then ref03_digit_j1 (decide (x1 ≤ 57)) else ref03_digit_j1 false)
/-- concordat/lex.Name$1 -/
noncomputable def lex_Name_1_j1 (x5 : Bool) : Option (Bool) := some x5
noncomputable def lex_Name_1 (x1 : Int) : Option (Bool) := (lex_letter x1).bind fun x2 => (if x2 = true then lex_Name_1_j1 true else (lex_digit x1).bind fun x4 => lex_Name_1_j1 x4)
/-- concordat/lex.token$1 -/
noncomputable def lex_token_1_j1 (x5 : Bool) : Option (Bool) := some x5
noncomputable def lex_token_1 (x1 : Int) : Option (Bool) := (lex_letter x1).bind fun x2 => (if x2 = true then lex_token_1_j1 true else (lex_digit x1).bind fun x4 => lex_token_1_j1 x4)
/-- concordat/lex.run -/
noncomputable def lex_run_k1 (x1 : List UInt8) : Option (Int) := some (x1.length : Int)
noncomputable def lex_run_l2 (x1 : List UInt8) (x2 : (Int → Option Bool)) (x3 : Int) : Option ((Int) ⊕ (Flow Unit Int)) := (if (decide (x3 < (x1.length : Int))) = true then (idxS x1 x3).bind fun x6 => (x2 x6).bind fun x7 => (if (!x7) = true then some (.inr (.done x3)) else some (.inl (w64 (x3 + 1)))) else some (.inr (.next ())))
noncomputable def lex_run (x1 : List UInt8) (x2 : (Int → Option Bool)) : Option (Int) := (iter (fun s => lex_run_l2 x1 x2 s) 0).bind fun z => match z with | .next p => lex_run_k1 x1 | .done r => some r
/-- concordat/concordatref03.great -/
noncomputable def ref03_great_k1 (x3 : Int) : Option (Bool) := some (decide (x3 > 2147483647))
noncomputable def ref03_great_l2 (x1 : List UInt8) (x3 : Int) (x4 : Int) : Option ((Int × Int) ⊕ (Int)) := (if (decide (x4 < (x1.length : Int))) = true then (idxS x1 x4).bind fun x8 => some (.inl (w64 ((w64 (10 * x3)) + (w64 (IntKind.wrap .u8 (x8 - 48)))), w64 (x4 + 1))) else some (.inr x3))
noncomputable def ref03_great (x1 : List UInt8) : Option (Bool) := (if (decide ((x1.length : Int) > 10)) = true then some true else (iter (fun s => ref03_great_l2 x1 s.1 s.2) (0, 0)).bind fun p => ref03_great_k1 p)
/-- concordat/concordatref03.mark -/
noncomputable def ref03_mark_k1 : Option (Int) := some 0
noncomputable def ref03_mark_j3 (x11 : Int) (x14 : Int) (x15 : Int) : Option ((Int) ⊕ (Flow Unit Int)) := (if (x14 == x15) = true then some (.inr (.done 1)) else some (.inl (w64 (x11 + 1))))
noncomputable def ref03_mark_l2 (x1 : List UInt8) (x2 : Int) (x11 : Int) : Option ((Int) ⊕ (Flow Unit Int)) := (if (decide (x11 < (([43, 45, 42, 47, 37, 60, 62, 61, 33, 40, 41, 123, 125, 59, 44, 46] : List UInt8).length : Int))) = true then (idxS x1 x2).bind fun x14 => (idxS ([43, 45, 42, 47, 37, 60, 62, 61, 33, 40, 41, 123, 125, 59, 44, 46] : List UInt8) x11).bind fun x15 => ref03_mark_j3 x11 x14 x15 else some (.inr (.next ())))
noncomputable def ref03_mark_k4 (x1 : List UInt8) (x2 : Int) : Option (Int) := (iter (fun s => ref03_mark_l2 x1 x2 s) 0).bind fun z => match z with | .next p => ref03_mark_k1 | .done r => some r
noncomputable def ref03_mark_j6 (x3 : Int) (x8 : List UInt8) (x9 : List UInt8) : Option ((Int) ⊕ (Flow Unit Int)) := (if (x8 == x9) = true then some (.inr (.done 2)) else some (.inl (w64 (x3 + 1))))
noncomputable def ref03_mark_j7 (x1 : List UInt8) (x2 : Int) (x3 : Int) (x6 : Bool) : Option ((Int) ⊕ (Flow Unit Int)) := (if x6 = true then (sub x1 x2 (w64 (x2 + 2))).bind fun x8 => (idx ([([61, 61] : List UInt8), ([33, 61] : List UInt8), ([60, 61] : List UInt8), ([62, 61] : List UInt8), ([38, 38] : List UInt8), ([124, 124] : List UInt8)] : List (List UInt8)) x3).bind fun x9 => ref03_mark_j6 x3 x8 x9 else some (.inr (.next ())))
noncomputable def ref03_mark_l5 (x1 : List UInt8) (x2 : Int) (x3 : Int) : Option ((Int) ⊕ (Flow Unit Int)) := (if (decide (x3 < (([([61, 61] : List UInt8), ([33, 61] : List UInt8), ([60, 61] : List UInt8), ([62, 61] : List UInt8), ([38, 38] : List UInt8), ([124, 124] : List UInt8)] : List (List UInt8)).length : Int))) = true then ref03_mark_j7 x1 x2 x3 (decide ((w64 (x2 + 2)) ≤ (x1.length : Int))) else ref03_mark_j7 x1 x2 x3 false)
noncomputable def ref03_mark (x1 : List UInt8) (x2 : Int) : Option (Int) := (iter (fun s => ref03_mark_l5 x1 x2 s) 0).bind fun z => match z with | .next p => ref03_mark_k4 x1 x2 | .done r => some r
/-- concordat/lex.mark -/
noncomputable def lex_mark_k1 (x1 : List UInt8) : Option (Int) := (idxS x1 0).bind fun x8 => (strings_IndexByte ([43, 45, 42, 47, 37, 60, 62, 61, 33, 40, 41, 123, 125, 59, 44, 46] : List UInt8) x8).bind fun x9 => (if (decide (x9 ≥ 0)) = true then some 1 else some 0)
noncomputable def lex_mark_l2 (x1 : List UInt8) (x2 : Int) : Option ((Int) ⊕ (Flow Unit Int)) := (if (decide (x2 < (([([61, 61] : List UInt8), ([33, 61] : List UInt8), ([60, 61] : List UInt8), ([62, 61] : List UInt8), ([38, 38] : List UInt8), ([124, 124] : List UInt8)] : List (List UInt8)).length : Int))) = true then (idx ([([61, 61] : List UInt8), ([33, 61] : List UInt8), ([60, 61] : List UInt8), ([62, 61] : List UInt8), ([38, 38] : List UInt8), ([124, 124] : List UInt8)] : List (List UInt8)) x2).bind fun x5 => (strings_HasPrefix x1 x5).bind fun x6 => (if x6 = true then some (.inr (.done 2)) else some (.inl (w64 (x2 + 1)))) else some (.inr (.next ())))
noncomputable def lex_mark (x1 : List UInt8) : Option (Int) := (iter (fun s => lex_mark_l2 x1 s) 0).bind fun z => match z with | .next p => lex_mark_k1 x1 | .done r => some r
/-- concordat/lex.Kept -/
noncomputable def lex_Kept (x1 : List UInt8) : Option (Bool) := (slices_Contains_string_string kept x1).bind fun x2 => some x2
/-- concordat/lex.between -/
noncomputable def lex_between_j1 (x2 : Int) : Option (Int × Bool) := some (x2, true)
noncomputable def lex_between_k2 (x2 : Int) : Option (Int × Bool) := lex_between_j1 x2
noncomputable def lex_between_j4 (x2 : Int) : Option ((Int) ⊕ (Flow Int (Int × Bool))) := some (.inl (w64 (x2 + 1)))
noncomputable def lex_between_l3 (x1 : List UInt8) (x2 : Int) : Option ((Int) ⊕ (Flow Int (Int × Bool))) := (if (decide (x2 < (x1.length : Int))) = true then (sub x1 x2 (x1.length : Int)).bind fun x5 => (strings_HasPrefix x5 ([47, 47] : List UInt8)).bind fun x6 => (if x6 = true then (lex_run x5 lex_between_1).bind fun x8 => some (.inl (w64 (x2 + x8))) else (strings_HasPrefix x5 ([47, 42] : List UInt8)).bind fun x9 => (if x9 = true then (sub x5 2 (x5.length : Int)).bind fun x11 => (strings_Index x11 ([42, 47] : List UInt8)).bind fun x12 => (if (decide (x12 < 0)) = true then some (.inr (.done (x2, false))) else some (.inl (w64 (x2 + (w64 ((w64 (2 + x12)) + 2)))))) else (idxS x5 0).bind fun x14 => (if (x14 == 32) = true then lex_between_j4 x2 else (if (x14 == 9) = true then lex_between_j4 x2 else (if (x14 == 13) = true then lex_between_j4 x2 else (if (x14 == 10) = true then lex_between_j4 x2 else some (.inr (.next x2)))))))) else some (.inr (.next x2)))
noncomputable def lex_between (x1 : List UInt8) : Option (Int × Bool) := (iter (fun s => lex_between_l3 x1 s) 0).bind fun z => match z with | .next p => lex_between_k2 p | .done r => some r
/-- concordat/lex.token -/
noncomputable def lex_token_j1 (x5 : Int) (x16 : Bool) : Option (Int × Int × Int) := (if x16 = true then some (0, 0, 31) else some (2, x5, 0))
noncomputable def lex_token (x1 : List UInt8) : Option (Int × Int × Int) := (idxS x1 0).bind fun x2 => (lex_digit x2).bind fun x3 => (if x3 = true then (lex_run x1 lex_digit).bind fun x5 => (sub x1 0 x5).bind fun x6 => (strconv_ParseInt x6 10 64).bind fun (x7, x8) => (if x8 = true then lex_token_j1 x5 true else (if (decide (x7 > 2147483647)) = true then lex_token_j1 x5 true else (if (decide (x5 > 1)) = true then (idxS x1 0).bind fun x12 => lex_token_j1 x5 (x12 == 48) else lex_token_j1 x5 false))) else (idxS x1 0).bind fun x18 => (lex_letter x18).bind fun x19 => (if x19 = true then (lex_run x1 lex_token_1).bind fun x21 => (if (decide (x21 > 20)) = true then some (0, 0, 2) else (sub x1 0 x21).bind fun x23 => (lex_Kept x23).bind fun x24 => (if x24 = true then some (3, x21, 0) else some (1, x21, 0))) else (lex_mark x1).bind fun x26 => (if (x26 == 0) = true then some (0, 0, 30) else some (4, x26, 0))))
/-- concordat/lex.Lex$1 -/
noncomputable def lex_Lex_1_j1 (x8 : List UInt8) (x10 : Int) (x2 : Int) (x3 : Int) (x13 : List ApiToken) : Option ((List ApiToken) × (List UInt8) × Int) := some (x13, x8, w64 (x10 + (w64 (x2 + x3))))
noncomputable def lex_Lex_1 (x1 : Int) (x2 : Int) (x3 : Int) (x5 : List ApiToken) (x8 : List UInt8) (x10 : Int) : Option ((List ApiToken) × (List UInt8) × Int) := (sub x8 (w64 (x10 + x2)) (w64 ((w64 (x10 + x2)) + x3))).bind fun x11 => (sub x8 x10 (w64 (x10 + x2))).bind fun x12 => (app 48 x5 ([(ApiToken.mk x1 x11 (w64 (x10 + x2)) x12)] : List ApiToken)).bind fun x13 => lex_Lex_1_j1 x8 x10 x2 x3 x13
/-- concordat/lex.Lex -/
noncomputable def lex_Lex_j2 (x8 : Int) (x15 : Int) : Option (((List UInt8) × Int × (List ApiToken)) ⊕ ((List ApiToken) × Int × Int)) := some (.inr ([], w64 (x8 + x15), 32))
noncomputable def lex_Lex_j3 (x8 : Int) (x15 : Int) (x26 : Int) : Option (((List UInt8) × Int × (List ApiToken)) ⊕ ((List ApiToken) × Int × Int)) := some (.inr ([], w64 (x8 + x15), x26))
noncomputable def lex_Lex_l1 (x6 : List UInt8) (x8 : Int) (x9 : List ApiToken) : Option (((List UInt8) × Int × (List ApiToken)) ⊕ ((List ApiToken) × Int × Int)) := (sub x6 x8 (x6.length : Int)).bind fun x14 => (lex_between x14).bind fun (x15, x16) => (if (!x16) = true then lex_Lex_j2 x8 x15 else (if ((w64 (x8 + x15)) == (x6.length : Int)) = true then (lex_Lex_1 5 x15 0 x9 x6 x8).bind fun (x19, x21, x22) => some (.inr (x19, 0, 0)) else (sub x6 (w64 (x8 + x15)) (x6.length : Int)).bind fun x23 => (lex_token x23).bind fun (x24, x25, x26) => (if (x26 != 0) = true then lex_Lex_j3 x8 x15 x26 else (lex_Lex_1 x24 x15 x25 x9 x6 x8).bind fun (x28, x30, x31) => some (.inl (x30, x31, x28)))))
noncomputable def lex_Lex (x1 : List UInt8) : Option ((List ApiToken) × Int × Int) := (if (decide ((x1.length : Int) > 1048576)) = true then some ([], 0, 2) else iter (fun s => lex_Lex_l1 s.1 s.2.1 s.2.2) (x1, 0, []))
/-- concordat/concordatref03.Kept -/
noncomputable def ref03_Kept_k1 : Option (Bool) := some false
noncomputable def ref03_Kept_l2 (x1 : List UInt8) (x2 : Int) : Option ((Int) ⊕ (Flow Unit Bool)) := (if (decide (x2 < (([([99, 108, 97, 115, 115] : List UInt8), ([101, 120, 116, 101, 110, 100, 115] : List UInt8), ([115, 116, 97, 116, 105, 99] : List UInt8), ([118, 111, 105, 100] : List UInt8), ([105, 110, 116] : List UInt8), ([98, 111, 111, 108, 101, 97, 110] : List UInt8), ([105, 102] : List UInt8), ([101, 108, 115, 101] : List UInt8), ([119, 104, 105, 108, 101] : List UInt8), ([114, 101, 116, 117, 114, 110] : List UInt8), ([112, 114, 105, 110, 116] : List UInt8), ([116, 114, 117, 101] : List UInt8), ([102, 97, 108, 115, 101] : List UInt8), ([110, 117, 108, 108] : List UInt8), ([116, 104, 105, 115] : List UInt8), ([110, 101, 119] : List UInt8)] : List (List UInt8)).length : Int))) = true then (idx ([([99, 108, 97, 115, 115] : List UInt8), ([101, 120, 116, 101, 110, 100, 115] : List UInt8), ([115, 116, 97, 116, 105, 99] : List UInt8), ([118, 111, 105, 100] : List UInt8), ([105, 110, 116] : List UInt8), ([98, 111, 111, 108, 101, 97, 110] : List UInt8), ([105, 102] : List UInt8), ([101, 108, 115, 101] : List UInt8), ([119, 104, 105, 108, 101] : List UInt8), ([114, 101, 116, 117, 114, 110] : List UInt8), ([112, 114, 105, 110, 116] : List UInt8), ([116, 114, 117, 101] : List UInt8), ([102, 97, 108, 115, 101] : List UInt8), ([110, 117, 108, 108] : List UInt8), ([116, 104, 105, 115] : List UInt8), ([110, 101, 119] : List UInt8)] : List (List UInt8)) x2).bind fun x5 => (if (x5 == x1) = true then some (.inr (.done true)) else some (.inl (w64 (x2 + 1)))) else some (.inr (.next ())))
noncomputable def ref03_Kept (x1 : List UInt8) : Option (Bool) := (iter (fun s => ref03_Kept_l2 x1 s) 0).bind fun z => match z with | .next p => ref03_Kept_k1 | .done r => some r
/-- concordat/concordatref03.between -/
noncomputable def ref03_between_k1 (x3 : Int) : Option (Int × Bool) := some (x3, true)
noncomputable def ref03_between_k3 (x29 : Int) : Option ((Int) ⊕ (Flow Int (Int × Bool))) := some (.inl x29)
noncomputable def ref03_between_j5 (x29 : Int) (x33 : Bool) : Option ((Int) ⊕ (Int)) := (if x33 = true then some (.inl (w64 (x29 + 1))) else some (.inr x29))
noncomputable def ref03_between_l4 (x1 : List UInt8) (x29 : Int) : Option ((Int) ⊕ (Int)) := (if (decide (x29 < (x1.length : Int))) = true then (idxS x1 x29).bind fun x32 => ref03_between_j5 x29 (x32 != 10) else ref03_between_j5 x29 false)
noncomputable def ref03_between_k6 (x1 : List UInt8) (x3 : Int) (x35 : Int) : Option ((Int) ⊕ (Flow Int (Int × Bool))) := (if (decide ((w64 (x35 + 1)) ≥ (x1.length : Int))) = true then some (.inr (.done (x3, false))) else some (.inl (w64 (x35 + 2))))
noncomputable def ref03_between_j8 (x35 : Int) (x41 : Bool) : Option ((Int) ⊕ (Int)) := (if x41 = true then some (.inl (w64 (x35 + 1))) else some (.inr x35))
noncomputable def ref03_between_l7 (x1 : List UInt8) (x35 : Int) : Option ((Int) ⊕ (Int)) := (if (decide ((w64 (x35 + 1)) < (x1.length : Int))) = true then (idxS x1 x35).bind fun x38 => (if (x38 != 42) = true then ref03_between_j8 x35 true else (idxS x1 (w64 (x35 + 1))).bind fun x40 => ref03_between_j8 x35 (x40 != 47)) else ref03_between_j8 x35 false)
noncomputable def ref03_between_j9 (x3 : Int) (x1 : List UInt8) (x25 : Bool) : Option ((Int) ⊕ (Flow Int (Int × Bool))) := (if x25 = true then some (.inr (.done (x3, true))) else (idxS x1 (w64 (x3 + 1))).bind fun x27 => (if (x27 == 47) = true then (iter (fun s => ref03_between_l4 x1 s) x3).bind fun p => ref03_between_k3 p else (iter (fun s => ref03_between_l7 x1 s) (w64 (x3 + 2))).bind fun p => ref03_between_k6 x1 x3 p))
noncomputable def ref03_between_j10 (x3 : Int) (x1 : List UInt8) (x6 : Int) (x14 : Bool) : Option ((Int) ⊕ (Flow Int (Int × Bool))) := (if x14 = true then some (.inl (w64 (x3 + 1))) else (if (decide ((w64 (x3 + 1)) ≥ (x1.length : Int))) = true then ref03_between_j9 x3 x1 true else (if (x6 != 47) = true then ref03_between_j9 x3 x1 true else (idxS x1 (w64 (x3 + 1))).bind fun x18 => (if (x18 != 47) = true then (idxS x1 (w64 (x3 + 1))).bind fun x20 => ref03_between_j9 x3 x1 (x20 != 42) else ref03_between_j9 x3 x1 false))))
noncomputable def ref03_between_l2 (x1 : List UInt8) (x3 : Int) : Option ((Int) ⊕ (Flow Int (Int × Bool))) := (if (decide (x3 < (x1.length : Int))) = true then (idxS x1 x3).bind fun x6 => (if (x6 == 32) = true then ref03_between_j10 x3 x1 x6 true else (if (x6 == 9) = true then ref03_between_j10 x3 x1 x6 true else (if (x6 == 10) = true then ref03_between_j10 x3 x1 x6 true else ref03_between_j10 x3 x1 x6 (x6 == 13)))) else some (.inr (.next x3)))
noncomputable def ref03_between (x1 : List UInt8) (x2 : Int) : Option (Int × Bool) := (iter (fun s => ref03_between_l2 x1 s) x2).bind fun z => match z with | .next p => ref03_between_k1 p | .done r => some r
/-- concordat/concordatref03.token -/
noncomputable def ref03_token_j1 (x6 : Int) (x18 : Bool) : Option (Int × Int × Int) := (if x18 = true then some (0, 0, 31) else some (2, x6, 0))
noncomputable def ref03_token_k2 (x1 : List UInt8) (x2 : Int) (x6 : Int) : Option (Int × Int × Int) := (sub x1 x2 (w64 (x2 + x6))).bind fun x13 => (ref03_great x13).bind fun x14 => (if x14 = true then ref03_token_j1 x6 true else (if (decide (x6 > 1)) = true then (idxS x1 x2).bind fun x17 => ref03_token_j1 x6 (x17 == 48) else ref03_token_j1 x6 false))
noncomputable def ref03_token_j4 (x6 : Int) (x11 : Bool) : Option ((Int) ⊕ (Int)) := (if x11 = true then some (.inl (w64 (x6 + 1))) else some (.inr x6))
noncomputable def ref03_token_l3 (x2 : Int) (x1 : List UInt8) (x6 : Int) : Option ((Int) ⊕ (Int)) := (if (decide ((w64 (x2 + x6)) < (x1.length : Int))) = true then (idxS x1 (w64 (x2 + x6))).bind fun x9 => (ref03_digit x9).bind fun x10 => ref03_token_j4 x6 x10 else ref03_token_j4 x6 false)
noncomputable def ref03_token_k5 (x1 : List UInt8) (x2 : Int) (x23 : Int) : Option (Int × Int × Int) := (if (decide (x23 > 20)) = true then some (0, 0, 2) else (sub x1 x2 (w64 (x2 + x23))).bind fun x34 => (ref03_Kept x34).bind fun x35 => (if x35 = true then some (3, x23, 0) else some (1, x23, 0)))
noncomputable def ref03_token_j7 (x23 : Int) (x31 : Bool) : Option ((Int) ⊕ (Int)) := (if x31 = true then some (.inl (w64 (x23 + 1))) else some (.inr x23))
noncomputable def ref03_token_l6 (x2 : Int) (x1 : List UInt8) (x23 : Int) : Option ((Int) ⊕ (Int)) := (if (decide ((w64 (x2 + x23)) < (x1.length : Int))) = true then (idxS x1 (w64 (x2 + x23))).bind fun x26 => (ref03_letter x26).bind fun x27 => (if x27 = true then ref03_token_j7 x23 true else (idxS x1 (w64 (x2 + x23))).bind fun x29 => (ref03_digit x29).bind fun x30 => ref03_token_j7 x23 x30) else ref03_token_j7 x23 false)
noncomputable def ref03_token (x1 : List UInt8) (x2 : Int) : Option (Int × Int × Int) := (idxS x1 x2).bind fun x3 => (ref03_digit x3).bind fun x4 => (if x4 = true then (iter (fun s => ref03_token_l3 x2 x1 s) 0).bind fun p => ref03_token_k2 x1 x2 p else (idxS x1 x2).bind fun x20 => (ref03_letter x20).bind fun x21 => (if x21 = true then (iter (fun s => ref03_token_l6 x2 x1 s) 0).bind fun p => ref03_token_k5 x1 x2 p else (ref03_mark x1 x2).bind fun x37 => (if (x37 == 0) = true then some (0, 0, 30) else some (4, x37, 0))))
/-- concordat/concordatref03.Name -/
noncomputable def ref03_Name_k1 (x1 : List UInt8) : Option (Bool) := (ref03_Kept x1).bind fun x21 => some (!x21)
noncomputable def ref03_Name_j3 (x11 : Int) (x19 : Bool) : Option ((Int) ⊕ (Flow Unit Bool)) := (if x19 = true then some (.inr (.done false)) else some (.inl (w64 (x11 + 1))))
noncomputable def ref03_Name_l2 (x1 : List UInt8) (x11 : Int) : Option ((Int) ⊕ (Flow Unit Bool)) := (if (decide (x11 < (x1.length : Int))) = true then (idxS x1 x11).bind fun x14 => (ref03_letter x14).bind fun x15 => (if (!x15) = true then (idxS x1 x11).bind fun x17 => (ref03_digit x17).bind fun x18 => ref03_Name_j3 x11 (!x18) else ref03_Name_j3 x11 false) else some (.inr (.next ())))
noncomputable def ref03_Name_j4 (x1 : List UInt8) (x9 : Bool) : Option (Bool) := (if x9 = true then some false else (iter (fun s => ref03_Name_l2 x1 s) 0).bind fun z => match z with | .next p => ref03_Name_k1 x1 | .done r => some r)
noncomputable def ref03_Name (x1 : List UInt8) : Option (Bool) := (if (decide ((x1.length : Int) < 1)) = true then ref03_Name_j4 x1 true else (if (decide ((x1.length : Int) > 20)) = true then ref03_Name_j4 x1 true else (idxS x1 0).bind fun x4 => (ref03_letter x4).bind fun x5 => ref03_Name_j4 x1 (!x5)))
/-- concordat/lex.Name -/
noncomputable def lex_Name_j1 (x33 : Bool) : Option (Bool) := some x33
noncomputable def lex_Name (x1 : List UInt8) : Option (Bool) := (if (!(x1 == [])) = true then (if (decide ((x1.length : Int) ≤ 20)) = true then (idxS x1 0).bind fun x4 => (lex_letter x4).bind fun x5 => (if x5 = true then (lex_run x1 lex_Name_1).bind fun x7 => (if (x7 == (x1.length : Int)) = true then (lex_Kept x1).bind fun x9 => lex_Name_j1 (!x9) else lex_Name_j1 false) else lex_Name_j1 false) else lex_Name_j1 false) else lex_Name_j1 false)
/-- concordat/concordatref03.Same -/
noncomputable def ref03_Same_k1 : Option (Bool) := some true
noncomputable def ref03_Same_j3 (x4 : Int) (x7 : ApiToken) (x8 : ApiToken) : Option ((Int) ⊕ (Flow Unit Bool)) := (if (!decide (x7 = x8)) = true then some (.inr (.done false)) else some (.inl (w64 (x4 + 1))))
noncomputable def ref03_Same_l2 (x1 : List ApiToken) (x2 : List ApiToken) (x4 : Int) : Option ((Int) ⊕ (Flow Unit Bool)) := (if (decide (x4 < (x1.length : Int))) = true then (idx x1 x4).bind fun x7 => (idx x2 x4).bind fun x8 => ref03_Same_j3 x4 x7 x8 else some (.inr (.next ())))
noncomputable def ref03_Same (x1 : List ApiToken) (x2 : List ApiToken) : Option (Bool) := (if ((x1.length : Int) != (x2.length : Int)) = true then some false else (iter (fun s => ref03_Same_l2 x1 x2 s) 0).bind fun z => match z with | .next p => ref03_Same_k1 | .done r => some r)
/-- concordat/lex.Unlex -/
noncomputable def lex_Unlex_k1 (x5 : List UInt8) : Option ((List UInt8)) := some x5
noncomputable def lex_Unlex_l2 (x1 : List ApiToken) (x3 : Int) (x5 : List UInt8) : Option ((Int × (List UInt8)) ⊕ ((List UInt8))) := (if (decide (x3 < (x1.length : Int))) = true then (idx x1 x3).bind fun x10 => (bcat x5 x10.Lead).bind fun x12 => (bcat x12 x10.Text).bind fun x14 => some (.inl (w64 (x3 + 1), x14)) else some (.inr x5))
noncomputable def lex_Unlex (x1 : List ApiToken) : Option ((List UInt8)) := (iter (fun s => lex_Unlex_l2 x1 s.1 s.2) (0, [])).bind fun p => lex_Unlex_k1 p
/-- concordat/concordatref03.Unlex -/
noncomputable def ref03_Unlex_k1 (x2 : List UInt8) : Option ((List UInt8)) := some x2
noncomputable def ref03_Unlex_l2 (x1 : List ApiToken) (x2 : List UInt8) (x3 : Int) : Option (((List UInt8) × Int) ⊕ ((List UInt8))) := (if (decide (x3 < (x1.length : Int))) = true then (idx x1 x3).bind fun x7 => (cat x2 x7.Lead).bind fun x8 => (idx x1 x3).bind fun x9 => (cat x8 x9.Text).bind fun x10 => some (.inl (x10, w64 (x3 + 1))) else some (.inr x2))
noncomputable def ref03_Unlex (x1 : List ApiToken) : Option ((List UInt8)) := (iter (fun s => ref03_Unlex_l2 x1 s.1 s.2) ([], 0)).bind fun p => ref03_Unlex_k1 p
/-- concordat/concordatref03.Lex -/
noncomputable def ref03_Lex_j2 (x9 : Int) (x17 : Int) (x22 : List ApiToken) : Option ((Int × (List ApiToken)) ⊕ ((List ApiToken) × Int × Int)) := some (.inl (w64 (x9 + x17), x22))
noncomputable def ref03_Lex_l1 (x1 : List UInt8) (x4 : Int) (x5 : List ApiToken) : Option ((Int × (List ApiToken)) ⊕ ((List ApiToken) × Int × Int)) := (ref03_between x1 x4).bind fun (x9, x10) => (if (!x10) = true then some (.inr ([], x9, 32)) else (if (x9 == (x1.length : Int)) = true then (sub x1 x4 (x1.length : Int)).bind fun x13 => (app 48 x5 ([(ApiToken.mk 5 [] x9 x13)] : List ApiToken)).bind fun x14 => some (.inr (x14, 0, 0)) else (ref03_token x1 x9).bind fun (x16, x17, x18) => (if (x18 != 0) = true then some (.inr ([], x9, x18)) else (sub x1 x9 (w64 (x9 + x17))).bind fun x20 => (sub x1 x4 x9).bind fun x21 => (app 48 x5 ([(ApiToken.mk x16 x20 x9 x21)] : List ApiToken)).bind fun x22 => ref03_Lex_j2 x9 x17 x22)))
noncomputable def ref03_Lex (x1 : List UInt8) : Option ((List ApiToken) × Int × Int) := (if (decide ((x1.length : Int) > 1048576)) = true then some ([], 0, 2) else iter (fun s => ref03_Lex_l1 x1 s.1 s.2) (0, []))
/-- concordat/concordatlaw03.awake -/
noncomputable def law03_awake_j1 (x8004 : Bool) : Option (Bool) := some x8004
noncomputable def law03_awake : Option (Bool) := (lex_Lex ([97, 47, 42, 120, 42, 47, 60, 61, 49] : List UInt8)).bind fun (x1, x2, x3) => (lex_Lex ([97, 38, 98] : List UInt8)).bind fun (x4, x5, x6) => (if (x3 == 0) = true then (if ((x1.length : Int) == 4) = true then (idx x1 1).bind fun x9 => (if (x9.Text == ([60, 61] : List UInt8)) = true then (idx x1 1).bind fun x11 => (if (x11.Lead == ([47, 42, 120, 42, 47] : List UInt8)) = true then (idx x1 1).bind fun x13 => (if (x13.At == 6) = true then (idx x1 2).bind fun x15 => (if (x15.Kind == 2) = true then (idx x1 3).bind fun x17 => (if (x17.Kind == 5) = true then (if (x5 == 1) = true then (if (x6 == 30) = true then (lex_Kept ([119, 104, 105, 108, 101] : List UInt8)).bind fun x21 => (if x21 = true then (lex_Name ([97, 95, 49] : List UInt8)).bind fun x23 => (if x23 = true then (lex_Name ([119, 104, 105, 108, 101] : List UInt8)).bind fun x25 => (if (!x25) = true then (lex_Unlex x1).bind fun x27 => law03_awake_j1 (x27 == ([97, 47, 42, 120, 42, 47, 60, 61, 49] : List UInt8)) else law03_awake_j1 false) else law03_awake_j1 false) else law03_awake_j1 false) else law03_awake_j1 false) else law03_awake_j1 false) else law03_awake_j1 false) else law03_awake_j1 false) else law03_awake_j1 false) else law03_awake_j1 false) else law03_awake_j1 false) else law03_awake_j1 false) else law03_awake_j1 false)
/-- concordat/concordatlaw03.LexTells -/
noncomputable def law03_LexTells_j1 (x15 : Bool) : Option (Bool) := some x15
noncomputable def law03_LexTells (x1 : List UInt8) : Option (Bool) := (law03_awake ).bind fun x2 => (if (!x2) = true then some false else (if (decide ((x1.length : Int) > 3000)) = true then some true else (lex_Lex x1).bind fun (x5, x6, x7) => (ref03_Lex x1).bind fun (x8, x9, x10) => (ref03_Same x5 x8).bind fun x11 => (if x11 = true then (if (x6 == x9) = true then law03_LexTells_j1 (x7 == x10) else law03_LexTells_j1 false) else law03_LexTells_j1 false)))
/-- concordat/concordatlaw03.LexNames -/
noncomputable def law03_LexNames_j1 (x27 : Bool) : Option (Bool) := some x27
noncomputable def law03_LexNames_k2 (x1 : List UInt8) (x2 : List ApiToken) : Option (Bool) := (lex_Kept x1).bind fun x16 => (ref03_Kept x1).bind fun x17 => (if (x16 == x17) = true then (lex_Name x1).bind fun x19 => (ref03_Name x1).bind fun x20 => (if (x19 == x20) = true then (lex_Unlex x2).bind fun x22 => (ref03_Unlex x2).bind fun x23 => law03_LexNames_j1 (x22 == x23) else law03_LexNames_j1 false) else law03_LexNames_j1 false)
noncomputable def law03_LexNames_j4 (x8 : Int) (x14 : Bool) : Option ((Int) ⊕ (Flow Unit Bool)) := (if x14 = true then some (.inr (.done true)) else some (.inl (w64 (x8 + 1))))
noncomputable def law03_LexNames_l3 (x2 : List ApiToken) (x8 : Int) : Option ((Int) ⊕ (Flow Unit Bool)) := (if (decide (x8 < (x2.length : Int))) = true then (idx x2 x8).bind fun x11 => (if (decide ((x11.Text.length : Int) > 200)) = true then law03_LexNames_j4 x8 true else (idx x2 x8).bind fun x13 => law03_LexNames_j4 x8 (decide ((x13.Lead.length : Int) > 200))) else some (.inr (.next ())))
noncomputable def law03_LexNames_j5 (x2 : List ApiToken) (x1 : List UInt8) (x6 : Bool) : Option (Bool) := (if x6 = true then some true else (iter (fun s => law03_LexNames_l3 x2 s) 0).bind fun z => match z with | .next p => law03_LexNames_k2 x1 x2 | .done r => some r)
noncomputable def law03_LexNames (x1 : List UInt8) (x2 : List ApiToken) : Option (Bool) := (law03_awake ).bind fun x3 => (if (!x3) = true then some false else (if (decide ((x1.length : Int) > 200)) = true then law03_LexNames_j5 x2 x1 true else law03_LexNames_j5 x2 x1 (decide ((x2.length : Int) > 200))))
/-- concordat/concordatlaw03.LexBack -/
noncomputable def law03_LexBack_j1 (x12 : Bool) : Option (Bool) := some x12
noncomputable def law03_LexBack_j2 (x61 : Bool) : Option (Bool) := some x61
noncomputable def law03_LexBack_k3 (x5 : List ApiToken) (x1 : List UInt8) (x6 : Int) (x13 : Int) : Option (Bool) := (lex_Unlex x5).bind fun x57 => (if (x57 == x1) = true then (if (x13 == (x1.length : Int)) = true then law03_LexBack_j2 (x6 == 0) else law03_LexBack_j2 false) else law03_LexBack_j2 false)
noncomputable def law03_LexBack_j5 (x5 : List ApiToken) (x14 : Int) (x13 : Int) (x18 : ApiToken) (x54 : Bool) : Option ((Int × Int) ⊕ (Flow Int Bool)) := (if x54 = true then some (.inr (.done false)) else (idx x5 x14).bind fun x56 => some (.inl (w64 ((w64 (x13 + (x18.Lead.length : Int))) + (x56.Text.length : Int)), w64 (x14 + 1))))
noncomputable def law03_LexBack_l4 (x5 : List ApiToken) (x1 : List UInt8) (x13 : Int) (x14 : Int) : Option ((Int × Int) ⊕ (Flow Int Bool)) := (if (decide (x14 < (x5.length : Int))) = true then (idx x5 x14).bind fun x18 => (idx x5 x14).bind fun x19 => (if (x19.At != (w64 (x13 + (x18.Lead.length : Int)))) = true then law03_LexBack_j5 x5 x14 x13 x18 true else (idx x5 x14).bind fun x21 => (if (decide ((w64 ((w64 (x13 + (x18.Lead.length : Int))) + (x21.Text.length : Int))) > (x1.length : Int))) = true then law03_LexBack_j5 x5 x14 x13 x18 true else (idx x5 x14).bind fun x23 => (sub x1 (w64 (x13 + (x18.Lead.length : Int))) (w64 ((w64 (x13 + (x18.Lead.length : Int))) + (x23.Text.length : Int)))).bind fun x24 => (idx x5 x14).bind fun x25 => (if (!(x24 == x25.Text)) = true then law03_LexBack_j5 x5 x14 x13 x18 true else (idx x5 x14).bind fun x27 => (if (!((x27.Kind == 5) == (x14 == (w64 ((x5.length : Int) - 1))))) = true then law03_LexBack_j5 x5 x14 x13 x18 true else (idx x5 x14).bind fun x29 => law03_LexBack_j5 x5 x14 x13 x18 (!((x29.Text == []) == (x14 == (w64 ((x5.length : Int) - 1))))))))) else some (.inr (.next x13)))
noncomputable def law03_LexBack (x1 : List UInt8) : Option (Bool) := (law03_awake ).bind fun x2 => (if (!x2) = true then some false else (if (decide ((x1.length : Int) > 3000)) = true then some true else (lex_Lex x1).bind fun (x5, x6, x7) => (if (x7 != 0) = true then (if ((x5.length : Int) == 0) = true then (if (decide (x6 ≥ 0)) = true then law03_LexBack_j1 (decide (x6 ≤ (x1.length : Int))) else law03_LexBack_j1 false) else law03_LexBack_j1 false) else (iter (fun s => law03_LexBack_l4 x5 x1 s.1 s.2) (0, 0)).bind fun z => match z with | .next p => law03_LexBack_k3 x5 x1 x6 p | .done r => some r)))
/-- concordat/concordatlaw03.LexAhead -/
noncomputable def law03_LexAhead_j1 (x34 : Bool) : Option (Bool) := some x34
noncomputable def law03_LexAhead_j2 (x1 : List UInt8) (x2 : List UInt8) (x9 : Int) (x10 : Int) (x27 : Bool) : Option (Bool) := (if x27 = true then some true else (cat x1 x2).bind fun x29 => (lex_Lex x29).bind fun (x30, x31, x32) => (if (x31 == x9) = true then law03_LexAhead_j1 (x32 == x10) else law03_LexAhead_j1 false))
noncomputable def law03_LexAhead_j3 (x10 : Int) (x1 : List UInt8) (x9 : Int) (x2 : List UInt8) (x20 : Bool) : Option (Bool) := (if x20 = true then some false else (if (x10 != 30) = true then some true else (idxS x1 x9).bind fun x23 => (if (x23 == 38) = true then law03_LexAhead_j2 x1 x2 x9 x10 true else (if (x23 == 124) = true then law03_LexAhead_j2 x1 x2 x9 x10 true else law03_LexAhead_j2 x1 x2 x9 x10 (x23 == 33)))))
noncomputable def law03_LexAhead_j4 (x1 : List UInt8) (x9 : Int) (x10 : Int) (x2 : List UInt8) (x13 : Bool) : Option (Bool) := (if x13 = true then some false else (sub x1 0 x9).bind fun x15 => (lex_Lex x15).bind fun (x16, x17, x18) => (if (x18 != 0) = true then law03_LexAhead_j3 x10 x1 x9 x2 true else law03_LexAhead_j3 x10 x1 x9 x2 ((x16.length : Int) == 0)))
noncomputable def law03_LexAhead_j5 (x1 : List UInt8) (x2 : List UInt8) (x6 : Bool) : Option (Bool) := (if x6 = true then some true else (lex_Lex x1).bind fun (x8, x9, x10) => (if (x10 == 0) = true then some true else (if (decide (x9 < 0)) = true then law03_LexAhead_j4 x1 x9 x10 x2 true else law03_LexAhead_j4 x1 x9 x10 x2 (decide (x9 > (x1.length : Int))))))
noncomputable def law03_LexAhead (x1 : List UInt8) (x2 : List UInt8) : Option (Bool) := (law03_awake ).bind fun x3 => (if (!x3) = true then some false else (if (decide ((x1.length : Int) > 2000)) = true then law03_LexAhead_j5 x1 x2 true else law03_LexAhead_j5 x1 x2 (decide ((x2.length : Int) > 500))))
/-- concordat/concordatlaw03.LexLead -/
noncomputable def law03_LexLead_k1 : Option (Bool) := some true
noncomputable def law03_LexLead_j3 (x23 : Int) (x35 : Bool) : Option ((Int) ⊕ (Flow Unit Bool)) := (if x35 = true then some (.inr (.done false)) else some (.inl (w64 (x23 + 1))))
noncomputable def law03_LexLead_l2 (x5 : List ApiToken) (x17 : List ApiToken) (x23 : Int) : Option ((Int) ⊕ (Flow Unit Bool)) := (if (decide (x23 < (x5.length : Int))) = true then (idx x17 x23).bind fun x26 => (idx x5 x23).bind fun x27 => (if (x26.Kind != x27.Kind) = true then law03_LexLead_j3 x23 true else (idx x17 x23).bind fun x29 => (idx x5 x23).bind fun x30 => (if (!(x29.Text == x30.Text)) = true then law03_LexLead_j3 x23 true else (idx x17 x23).bind fun x32 => law03_LexLead_j3 x23 (!(x32.Lead == ([32] : List UInt8))))) else some (.inr (.next ())))
noncomputable def law03_LexLead_j4 (x5 : List ApiToken) (x17 : List ApiToken) (x21 : Bool) : Option (Bool) := (if x21 = true then some false else (iter (fun s => law03_LexLead_l2 x5 x17 s) 0).bind fun z => match z with | .next p => law03_LexLead_k1 | .done r => some r)
noncomputable def law03_LexLead_k5 (x5 : List ApiToken) (x9 : List UInt8) : Option (Bool) := (lex_Lex x9).bind fun (x17, x18, x19) => (if (x19 != 0) = true then law03_LexLead_j4 x5 x17 true else law03_LexLead_j4 x5 x17 ((x17.length : Int) != (x5.length : Int)))
noncomputable def law03_LexLead_l6 (x5 : List ApiToken) (x9 : List UInt8) (x10 : Int) : Option (((List UInt8) × Int) ⊕ ((List UInt8))) := (if (decide (x10 < (x5.length : Int))) = true then (cat x9 ([32] : List UInt8)).bind fun x14 => (idx x5 x10).bind fun x15 => (cat x14 x15.Text).bind fun x16 => some (.inl (x16, w64 (x10 + 1))) else some (.inr x9))
noncomputable def law03_LexLead (x1 : List UInt8) : Option (Bool) := (law03_awake ).bind fun x2 => (if (!x2) = true then some false else (if (decide ((x1.length : Int) > 2000)) = true then some true else (lex_Lex x1).bind fun (x5, x6, x7) => (if (x7 != 0) = true then some true else (iter (fun s => law03_LexLead_l6 x5 s.1 s.2) ([], 0)).bind fun p => law03_LexLead_k5 x5 p)))
/-- concordat/token.Kind -/
noncomputable def token_Kind_j1 (x2 : List ApiToken) (x18 : Bool) : Option (Int) := (if x18 = true then some 0 else (idx x2 0).bind fun x20 => some x20.Kind)
noncomputable def token_Kind (x1 : List UInt8) : Option (Int) := (lex_Lex x1).bind fun (x2, x3, x4) => (if (x4 != 0) = true then token_Kind_j1 x2 true else (if ((x2.length : Int) != 2) = true then token_Kind_j1 x2 true else (idx x2 0).bind fun x7 => (if (!(x7.Lead == [])) = true then token_Kind_j1 x2 true else (idx x2 1).bind fun x9 => token_Kind_j1 x2 (!(x9.Lead == [])))))
/-- concordat/concordatref04.Kind -/
noncomputable def ref04_Kind_j1 (x2 : List ApiToken) (x10 : Bool) : Option (Int) := (if x10 = true then some 0 else (idx x2 0).bind fun x12 => some x12.Kind)
noncomputable def ref04_Kind (x1 : List UInt8) : Option (Int) := (ref03_Lex x1).bind fun (x2, x3, x4) => (if (x4 != 0) = true then ref04_Kind_j1 x2 true else (if ((x2.length : Int) != 2) = true then ref04_Kind_j1 x2 true else (idx x2 0).bind fun x7 => ref04_Kind_j1 x2 (!(x7.Text == x1))))
/-- concordat/concordatref01.Same -/
noncomputable def ref01_Same_k1 : Option (Bool) := some true
noncomputable def ref01_Same_j3 (x4 : Int) (x7 : List UInt8) (x8 : List UInt8) : Option ((Int) ⊕ (Flow Unit Bool)) := (if (!(x7 == x8)) = true then some (.inr (.done false)) else some (.inl (w64 (x4 + 1))))
noncomputable def ref01_Same_l2 (x1 : List (List UInt8)) (x2 : List (List UInt8)) (x4 : Int) : Option ((Int) ⊕ (Flow Unit Bool)) := (if (decide (x4 < (x1.length : Int))) = true then (idx x1 x4).bind fun x7 => (idx x2 x4).bind fun x8 => ref01_Same_j3 x4 x7 x8 else some (.inr (.next ())))
noncomputable def ref01_Same (x1 : List (List UInt8)) (x2 : List (List UInt8)) : Option (Bool) := (if ((x1.length : Int) != (x2.length : Int)) = true then some false else (iter (fun s => ref01_Same_l2 x1 x2 s) 0).bind fun z => match z with | .next p => ref01_Same_k1 | .done r => some r)
/-- concordat/token.Gap -/
noncomputable def token_Gap_k1 : Option (Bool) := some false
noncomputable def token_Gap_j3 (x12 : Int) (x19 : Bool) : Option ((Int) ⊕ (Flow Unit Bool)) := (if x19 = true then some (.inr (.done true)) else some (.inl (w64 (x12 + 1))))
noncomputable def token_Gap_l2 (x1 : List UInt8) (x2 : List UInt8) (x12 : Int) : Option ((Int) ⊕ (Flow Unit Bool)) := (if (decide (x12 < 6)) = true then (idx lclashes x12).bind fun x15 => (if (x15.mark == x1) = true then (idx lclashes x12).bind fun x17 => (strings_HasPrefix x2 x17.behind).bind fun x18 => token_Gap_j3 x12 x18 else token_Gap_j3 x12 false) else some (.inr (.next ())))
noncomputable def token_Gap_j4 (x4 : Int) (x3 : Int) (x1 : List UInt8) (x2 : List UInt8) (x9 : Bool) : Option (Bool) := (if x9 = true then some (x4 != 4) else (if (x3 == 2) = true then some (x4 == 2) else (iter (fun s => token_Gap_l2 x1 x2 s) 0).bind fun z => match z with | .next p => token_Gap_k1 | .done r => some r))
noncomputable def token_Gap_j5 (x3 : Int) (x4 : Int) (x1 : List UInt8) (x2 : List UInt8) (x6 : Bool) : Option (Bool) := (if x6 = true then some false else (if (x3 == 1) = true then token_Gap_j4 x4 x3 x1 x2 true else token_Gap_j4 x4 x3 x1 x2 (x3 == 3)))
noncomputable def token_Gap (x1 : List UInt8) (x2 : List UInt8) : Option (Bool) := (token_Kind x1).bind fun x3 => (token_Kind x2).bind fun x4 => (if (x3 == 0) = true then token_Gap_j5 x3 x4 x1 x2 true else token_Gap_j5 x3 x4 x1 x2 (x4 == 0))
/-- concordat/concordatref04.Gap -/
noncomputable def ref04_Gap_j1 (x41 : Bool) : Option (Bool) := some x41
noncomputable def ref04_Gap_j2 (x1 : List UInt8) (x2 : List UInt8) (x6 : Bool) : Option (Bool) := (if x6 = true then some false else (cat x1 x2).bind fun x8 => (ref03_Lex x8).bind fun (x9, x10, x11) => (if (x11 != 0) = true then ref04_Gap_j1 true else (if ((x9.length : Int) != 3) = true then ref04_Gap_j1 true else (idx x9 0).bind fun x14 => (if (!(x14.Text == x1)) = true then ref04_Gap_j1 true else (idx x9 1).bind fun x16 => (if (!(x16.Text == x2)) = true then ref04_Gap_j1 true else (idx x9 1).bind fun x18 => ref04_Gap_j1 (!(x18.Lead == [])))))))
noncomputable def ref04_Gap (x1 : List UInt8) (x2 : List UInt8) : Option (Bool) := (ref04_Kind x1).bind fun x3 => (if (x3 == 0) = true then ref04_Gap_j2 x1 x2 true else (ref04_Kind x2).bind fun x5 => ref04_Gap_j2 x1 x2 (x5 == 0))
/-- concordat/token.Spell -/
noncomputable def token_Spell_k1 (x5 : List UInt8) : Option ((List UInt8) × Bool) := some (x5, true)
noncomputable def token_Spell_j3 (x1 : List (List UInt8)) (x3 : Int) (x22 : List UInt8) : Option ((Int × (List UInt8)) ⊕ (Flow (List UInt8) ((List UInt8) × Bool))) := (idx x1 x3).bind fun x23 => (bcat x22 x23).bind fun x24 => some (.inl (w64 (x3 + 1), x24))
noncomputable def token_Spell_j4 (x5 : List UInt8) (x1 : List (List UInt8)) (x3 : Int) (x17 : Bool) : Option ((Int × (List UInt8)) ⊕ (Flow (List UInt8) ((List UInt8) × Bool))) := (if x17 = true then (bput x5 32).bind fun x19 => token_Spell_j3 x1 x3 x19 else token_Spell_j3 x1 x3 x5)
noncomputable def token_Spell_l2 (x1 : List (List UInt8)) (x3 : Int) (x5 : List UInt8) : Option ((Int × (List UInt8)) ⊕ (Flow (List UInt8) ((List UInt8) × Bool))) := (if (decide (x3 < (x1.length : Int))) = true then (idx x1 x3).bind fun x10 => (token_Kind x10).bind fun x11 => (if (x11 == 0) = true then some (.inr (.done ([], false))) else (if (decide (x3 > 0)) = true then (idx x1 (w64 (x3 - 1))).bind fun x14 => (idx x1 x3).bind fun x15 => (token_Gap x14 x15).bind fun x16 => token_Spell_j4 x5 x1 x3 x16 else token_Spell_j4 x5 x1 x3 false)) else some (.inr (.next x5)))
noncomputable def token_Spell (x1 : List (List UInt8)) : Option ((List UInt8) × Bool) := (iter (fun s => token_Spell_l2 x1 s.1 s.2) (0, [])).bind fun z => match z with | .next p => token_Spell_k1 p | .done r => some r
/-- concordat/token.At -/
noncomputable def token_At_k1 : Option (Int) := some (-1)
noncomputable def token_At_j3 (x3 : Int) (x9 : Bool) : Option ((Int) ⊕ (Flow Unit Int)) := (if x9 = true then some (.inr (.done x3)) else some (.inl (w64 (x3 + 1))))
noncomputable def token_At_l2 (x1 : List ApiToken) (x2 : Int) (x3 : Int) : Option ((Int) ⊕ (Flow Unit Int)) := (if (decide (x3 < (x1.length : Int))) = true then (idx x1 x3).bind fun x6 => (if (decide (x6.At ≤ x2)) = true then token_At_j3 x3 (decide ((IntKind.wrap .u64 ((IntKind.wrap .u64 x2) - (IntKind.wrap .u64 x6.At))) < (IntKind.wrap .u64 (x6.Text.length : Int)))) else token_At_j3 x3 false) else some (.inr (.next ())))
noncomputable def token_At (x1 : List ApiToken) (x2 : Int) : Option (Int) := (iter (fun s => token_At_l2 x1 x2 s) 0).bind fun z => match z with | .next p => token_At_k1 | .done r => some r
/-- concordat/concordatlaw04.short -/
noncomputable def law04_short_k1 : Option (Bool) := some true
noncomputable def law04_short_l2 (x1 : List (List UInt8)) (x3 : Int) : Option ((Int) ⊕ (Flow Unit Bool)) := (if (decide (x3 < (x1.length : Int))) = true then (idx x1 x3).bind fun x6 => (if (decide ((x6.length : Int) > 60)) = true then some (.inr (.done false)) else some (.inl (w64 (x3 + 1)))) else some (.inr (.next ())))
noncomputable def law04_short (x1 : List (List UInt8)) : Option (Bool) := (if (decide ((x1.length : Int) > 60)) = true then some false else (iter (fun s => law04_short_l2 x1 s) 0).bind fun z => match z with | .next p => law04_short_k1 | .done r => some r)
/-- concordat/token.Texts -/
noncomputable def token_Texts_k1 (x4 : List (List UInt8)) : Option ((List (List UInt8))) := some x4
noncomputable def token_Texts_j3 (x3 : Int) (x15 : List (List UInt8)) (x9 : ApiToken) : Option ((Int × (List (List UInt8))) ⊕ ((List (List UInt8)))) := some (.inl (w64 (x3 + 1), x15))
noncomputable def token_Texts_l2 (x1 : List ApiToken) (x3 : Int) (x4 : List (List UInt8)) : Option ((Int × (List (List UInt8))) ⊕ ((List (List UInt8)))) := (if (decide (x3 < (x1.length : Int))) = true then (idx x1 x3).bind fun x9 => (if (x9.Kind != 5) = true then (app 16 x4 ([x9.Text] : List (List UInt8))).bind fun x12 => token_Texts_j3 x3 x12 x9 else token_Texts_j3 x3 x4 x9) else some (.inr x4))
noncomputable def token_Texts (x1 : List ApiToken) : Option ((List (List UInt8))) := (iter (fun s => token_Texts_l2 x1 s.1 s.2) (0, [])).bind fun p => token_Texts_k1 p
/-- concordat/concordatlaw04.awake -/
noncomputable def law04_awake_j1 (x978 : Bool) : Option (Bool) := some x978
noncomputable def law04_awake : Option (Bool) := (token_Spell ([([97] : List UInt8), ([49] : List UInt8), ([60] : List UInt8), ([61] : List UInt8), ([41] : List UInt8), ([98] : List UInt8)] : List (List UInt8))).bind fun (x1, x2) => (token_Gap ([97] : List UInt8) ([49] : List UInt8)).bind fun x3 => (if x3 = true then (token_Gap ([60] : List UInt8) ([61] : List UInt8)).bind fun x5 => (if x5 = true then (token_Gap ([47] : List UInt8) ([42] : List UInt8)).bind fun x7 => (if x7 = true then (token_Gap ([49] : List UInt8) ([97] : List UInt8)).bind fun x9 => (if (!x9) = true then (token_Gap ([41] : List UInt8) ([97] : List UInt8)).bind fun x11 => (if (!x11) = true then (if (x1 == ([97, 32, 49, 60, 32, 61, 41, 98] : List UInt8)) = true then (if x2 = true then (token_Kind ([119, 104, 105, 108, 101] : List UInt8)).bind fun x15 => (if (x15 == 3) = true then (token_At ([(ApiToken.mk 0 ([97, 98] : List UInt8) 3 [])] : List ApiToken) 4).bind fun x17 => (if (x17 == 0) = true then (token_Texts ([(ApiToken.mk 1 ([97] : List UInt8) 0 [])] : List ApiToken)).bind fun x19 => law04_awake_j1 ((x19.length : Int) == 1) else law04_awake_j1 false) else law04_awake_j1 false) else law04_awake_j1 false) else law04_awake_j1 false) else law04_awake_j1 false) else law04_awake_j1 false) else law04_awake_j1 false) else law04_awake_j1 false) else law04_awake_j1 false)
/-- concordat/concordatlaw04.TokenKinds -/
noncomputable def law04_TokenKinds_j1 (x13 : Bool) : Option (Bool) := some x13
noncomputable def law04_TokenKinds_j2 (x1 : List UInt8) (x2 : List UInt8) (x6 : Bool) : Option (Bool) := (if x6 = true then some true else (token_Kind x1).bind fun x8 => (ref04_Kind x1).bind fun x9 => (if (x8 == x9) = true then (token_Gap x1 x2).bind fun x11 => (ref04_Gap x1 x2).bind fun x12 => law04_TokenKinds_j1 (x11 == x12) else law04_TokenKinds_j1 false))
noncomputable def law04_TokenKinds (x1 : List UInt8) (x2 : List UInt8) : Option (Bool) := (law04_awake ).bind fun x3 => (if (!x3) = true then some false else (if (decide ((x1.length : Int) > 100)) = true then law04_TokenKinds_j2 x1 x2 true else law04_TokenKinds_j2 x1 x2 (decide ((x2.length : Int) > 100))))
/-- concordat/concordatlaw04.TokenBack -/
noncomputable def law04_TokenBack_k1 : Option (Bool) := some true
noncomputable def law04_TokenBack_j3 (x36 : Int) (x50 : Bool) : Option ((Int) ⊕ (Flow Unit Bool)) := (if x50 = true then some (.inr (.done false)) else some (.inl (w64 (x36 + 1))))
noncomputable def law04_TokenBack_l2 (x1 : List (List UInt8)) (x16 : List ApiToken) (x36 : Int) : Option ((Int) ⊕ (Flow Unit Bool)) := (if (decide (x36 < (x1.length : Int))) = true then (idx x16 x36).bind fun x39 => (if (!(x39.Lead == [])) = true then (idx x16 x36).bind fun x41 => (if (!(x41.Lead == ([32] : List UInt8))) = true then law04_TokenBack_j3 x36 true else (idx x16 x36).bind fun x43 => (idx x1 x36).bind fun x44 => (token_Kind x44).bind fun x45 => law04_TokenBack_j3 x36 (x43.Kind != x45)) else (idx x16 x36).bind fun x47 => (idx x1 x36).bind fun x48 => (token_Kind x48).bind fun x49 => law04_TokenBack_j3 x36 (x47.Kind != x49)) else some (.inr (.next ())))
noncomputable def law04_TokenBack_j4 (x1 : List (List UInt8)) (x16 : List ApiToken) (x34 : Bool) : Option (Bool) := (if x34 = true then some false else (iter (fun s => law04_TokenBack_l2 x1 x16 s) 0).bind fun z => match z with | .next p => law04_TokenBack_k1 | .done r => some r)
noncomputable def law04_TokenBack_k5 (x6 : List UInt8) (x7 : Bool) (x1 : List (List UInt8)) : Option (Bool) := (ref03_Lex x6).bind fun (x16, x17, x18) => (if (!x7) = true then law04_TokenBack_j4 x1 x16 true else (if (x18 != 0) = true then law04_TokenBack_j4 x1 x16 true else (if ((x16.length : Int) != (w64 ((x1.length : Int) + 1))) = true then law04_TokenBack_j4 x1 x16 true else (token_Texts x16).bind fun x22 => (ref01_Same x22 x1).bind fun x23 => law04_TokenBack_j4 x1 x16 (!x23))))
noncomputable def law04_TokenBack_j7 (x15 : Bool) : Option ((Int) ⊕ (Flow Unit Bool)) := some (.inr (.done x15))
noncomputable def law04_TokenBack_l6 (x1 : List (List UInt8)) (x7 : Bool) (x6 : List UInt8) (x8 : Int) : Option ((Int) ⊕ (Flow Unit Bool)) := (if (decide (x8 < (x1.length : Int))) = true then (idx x1 x8).bind fun x11 => (token_Kind x11).bind fun x12 => (if (x12 == 0) = true then (if (!x7) = true then law04_TokenBack_j7 (x6 == []) else law04_TokenBack_j7 false) else some (.inl (w64 (x8 + 1)))) else some (.inr (.next ())))
noncomputable def law04_TokenBack (x1 : List (List UInt8)) : Option (Bool) := (law04_awake ).bind fun x2 => (if (!x2) = true then some false else (law04_short x1).bind fun x4 => (if (!x4) = true then some true else (token_Spell x1).bind fun (x6, x7) => (iter (fun s => law04_TokenBack_l6 x1 x7 x6 s) 0).bind fun z => match z with | .next p => law04_TokenBack_k5 x6 x7 x1 | .done r => some r))
/-- concordat/concordatlaw04.TokenPlaces -/
noncomputable def law04_TokenPlaces_j1 (x31 : Bool) : Option (Bool) := some x31
noncomputable def law04_TokenPlaces_k2 : Option (Bool) := some false
noncomputable def law04_TokenPlaces_j4 (x32 : Int) (x39 : Bool) : Option ((Int) ⊕ (Flow Unit Bool)) := (if x39 = true then some (.inr (.done true)) else some (.inl (w64 (x32 + 1))))
noncomputable def law04_TokenPlaces_l3 (x10 : List ApiToken) (x2 : Int) (x32 : Int) : Option ((Int) ⊕ (Flow Unit Bool)) := (if (decide (x32 < (x10.length : Int))) = true then (idx x10 x32).bind fun x35 => (idx x10 x32).bind fun x36 => (if (decide (x2 ≥ (w64 (x35.At - (x36.Lead.length : Int))))) = true then (idx x10 x32).bind fun x38 => law04_TokenPlaces_j4 x32 (decide (x2 < x38.At)) else law04_TokenPlaces_j4 x32 false) else some (.inr (.next ())))
noncomputable def law04_TokenPlaces_j5 (x1 : List UInt8) (x2 : Int) (x8 : Bool) : Option (Bool) := (if x8 = true then some true else (ref03_Lex x1).bind fun (x10, x11, x12) => (if (x12 != 0) = true then some true else (token_At x10 x2).bind fun x14 => (if (decide (x14 ≥ (x10.length : Int))) = true then some false else (if (decide (x14 ≥ 0)) = true then (idx x10 x14).bind fun x17 => (if (decide (x17.At ≤ x2)) = true then (idx x10 x14).bind fun x19 => (idx x10 x14).bind fun x20 => (if (decide (x2 < (w64 (x19.At + (x20.Text.length : Int))))) = true then (idx x10 x14).bind fun x22 => (idx x10 x14).bind fun x23 => (idxS x22.Text (w64 (x2 - x23.At))).bind fun x24 => (idxS x1 x2).bind fun x25 => law04_TokenPlaces_j1 (x24 == x25) else law04_TokenPlaces_j1 false) else law04_TokenPlaces_j1 false) else (iter (fun s => law04_TokenPlaces_l3 x10 x2 s) 0).bind fun z => match z with | .next p => law04_TokenPlaces_k2 | .done r => some r))))
noncomputable def law04_TokenPlaces (x1 : List UInt8) (x2 : Int) : Option (Bool) := (law04_awake ).bind fun x3 => (if (!x3) = true then some false else (if (decide ((x1.length : Int) > 1000)) = true then law04_TokenPlaces_j5 x1 x2 true else (if (decide (x2 < 0)) = true then law04_TokenPlaces_j5 x1 x2 true else law04_TokenPlaces_j5 x1 x2 (decide (x2 ≥ (x1.length : Int))))))
end Go.Proofs.YtefeelcjokdchaaDoor
