/- The data of the program, and its functions over plain data (printed by wip/gen/gen.py). -/
import Derived.Lib.Index
import Derived.Lib.Bytealg
import Derived.Lib.ParseIntB
import Derived.Lib.Join
import Derived.Test.YtphkaogfinjbjaaGreatDoorZJ
set_option linter.unusedSimpArgs false
set_option linter.unusedVariables false
set_option linter.unusedSectionVars false
/- What functions of the library answer, and what the program's own variables hold, as plain data. -/
namespace Go.Proofs.YtphkaogfinjbjaaGreatDoor
open Go
def strings_Index (s sub : List UInt8) : Option Int := if s.length < 4294967281 then some (Lib.index s sub) else none
def strings_IndexByte (s : List UInt8) (c : Int) : Option Int := some (Lib.indexByte s c.toNat.toUInt8)
def strconv_ParseInt (s : List UInt8) (b k : Int) : Option (Int × Bool) :=
  if b = 10 ∧ k = 64 ∧ s.length ≤ 281474976710656 then
    match Lib.parseIntB 64 s with
    | .ok v => some (v, false)
    | .range => some (Lib.intSat 64 s, true)
    | _ => none
  else none
/-- The names that are kept. -/
def kept : List (List UInt8) := [[99, 108, 97, 115, 115], [101, 120, 116, 101, 110, 100, 115], [115, 116, 97, 116, 105, 99], [118, 111, 105, 100], [105, 110, 116], [98, 111, 111, 108, 101, 97, 110], [105, 102], [101, 108, 115, 101], [119, 104, 105, 108, 101], [114, 101, 116, 117, 114, 110], [112, 114, 105, 110, 116], [116, 114, 117, 101], [102, 97, 108, 115, 101], [110, 117, 108, 108], [116, 104, 105, 115], [110, 101, 119]]
/-- The marks that may not stand together. -/
def clashes : List (List UInt8 × List UInt8) := [([61], [61]), ([33], [61]), ([60], [61]), ([62], [61]), ([47], [47]), ([47], [42])]
def strings_Join (l : List (List UInt8)) (sep : List UInt8) : Option (List UInt8) := if l.length ≤ 140737488355328 ∧ (Lib.join l sep).length ≤ 140737488355328 then some (Lib.join l sep) else none
/-- One row of the table of the longest common rows, out of the one below it. -/
def lcsRow (k : IntKind) (x : Int) : List Int → List Int → List Int
  | [], _ => [0]
  | y :: b, n0 :: ns => (if x == y then k.wrap (ns.headD 0 + 1) else if (lcsRow k x b ns).headD 0 > n0 then (lcsRow k x b ns).headD 0 else n0) :: lcsRow k x b ns
  | _ :: _, [] => []
def lcsRows (k : IntKind) : List Int → List Int → List (List Int)
  | [], b => [List.replicate (b.length + 1) 0]
  | x :: a, b => lcsRow k x b ((lcsRows k a b).headD []) :: lcsRows k a b
def lcs_left (a b : List Int) : Option (List (List Int)) := if a.length ≤ 100000 ∧ b.length ≤ 100000 then some (lcsRows .i32 a b) else none
def slices_Clone (l : List (List UInt8)) : Option (List (List UInt8)) := Go.Cn.app 16 [] l
/-- Grown out of nil. -/
def slices_Grow (n : Int) : Option (List (List UInt8)) := if 0 ≤ n ∧ n ≤ 1000000000000 then some [] else none
end Go.Proofs.YtphkaogfinjbjaaGreatDoor

/- The table of the longest common rows: how it is filled, in plain Lean. -/
namespace Go.Proofs.YtphkaogfinjbjaaGreatDoor
open Go

theorem lcsRow_len (k : IntKind) (x : Int) : ∀ (b nxt : List Int), nxt.length = b.length + 1 → (lcsRow k x b nxt).length = b.length + 1
  | [], _, _ => rfl
  | y :: b, n0 :: ns, h => by
    simp only [lcsRow, List.length_cons] at h ⊢
    rw [lcsRow_len k x b ns (by omega)]
  | y :: b, [], h => by simp at h
theorem lcsRows_lens (k : IntKind) : ∀ (a b : List Int), (lcsRows k a b).length = a.length + 1 ∧ ∀ l ∈ lcsRows k a b, l.length = b.length + 1
  | [], b => ⟨rfl, fun l hl => by simp [lcsRows] at hl; rw [hl]; simp⟩
  | x :: a, b => by
    obtain ⟨h1, h2⟩ := lcsRows_lens k a b
    have hd : ((lcsRows k a b).headD []).length = b.length + 1 := by
      cases hr : lcsRows k a b with
      | nil => rw [hr] at h1; simp at h1
      | cons l ls => exact h2 l (by rw [hr]; simp)
    refine ⟨by simp [lcsRows, h1], fun l hl => ?_⟩
    simp only [lcsRows, List.mem_cons] at hl
    rcases hl with rfl | hl
    · exact lcsRow_len k x b _ hd
    · exact h2 l hl
theorem lcsRows_drop (k : IntKind) : ∀ (i : Nat) (a b : List Int), i ≤ a.length → (lcsRows k a b).drop i = lcsRows k (a.drop i) b
  | 0, _, _, _ => rfl
  | i + 1, x :: a, b, h => by
    simp only [lcsRows, List.drop_succ_cons]
    exact lcsRows_drop k i a b (by simpa using h)
  | i + 1, [], _, h => by simp at h
/-- A row of the table out of the one below it. -/
theorem lcsRows_at (k : IntKind) {a b : List Int} {i : Nat} {x : Int} (hx : a[i]? = some x) : ∃ nxt, (lcsRows k a b)[i + 1]? = some nxt ∧ nxt.length = b.length + 1 ∧ (lcsRows k a b)[i]? = some (lcsRow k x b nxt) := by
  have hi := (List.getElem?_eq_some_iff.1 hx).1
  obtain ⟨h1, h2⟩ := lcsRows_lens k a b
  have hl : i + 1 < (lcsRows k a b).length := by omega
  refine ⟨(lcsRows k a b)[i + 1], by simp [hl], h2 _ (List.getElem_mem _), ?_⟩
  have hd := lcsRows_drop k i a b (by omega)
  have hdx : a.drop i = x :: a.drop (i + 1) := by
    rw [List.drop_eq_getElem_cons hi]
    have : a[i] = x := (List.getElem?_eq_some_iff.1 hx).2
    rw [this]
  rw [hdx] at hd
  simp only [lcsRows] at hd
  have h0 : (lcsRows k a b)[i]? = ((lcsRows k a b).drop i)[0]? := by simp
  rw [h0, hd]
  have hn : (lcsRows k (a.drop (i + 1)) b).headD [] = (lcsRows k a b)[i + 1] := by
    rw [← lcsRows_drop k (i + 1) a b (by omega), List.drop_eq_getElem_cons hl]
    rfl
  rw [hn]
  rfl
/-- A row as far as it is filled, from the right. -/
def part (k : IntKind) (x : Int) (b nxt : List Int) (j : Nat) : List Int := List.replicate j 0 ++ lcsRow k x (b.drop j) (nxt.drop j)
theorem part_end {k : IntKind} {x : Int} {b nxt : List Int} : part k x b nxt b.length = List.replicate (b.length + 1) 0 := by
  unfold part
  rw [List.drop_length]
  simp only [lcsRow]
  rw [List.replicate_succ']
theorem part_zero {k : IntKind} {x : Int} {b nxt : List Int} : part k x b nxt 0 = lcsRow k x b nxt := by simp [part]
/-- What is written next. -/
theorem part_step {k : IntKind} {x : Int} {b nxt : List Int} {j : Nat} {y : Int} (hn : nxt.length = b.length + 1) (hy : b[j]? = some y) : ∃ n0 n1 r1, nxt[j]? = some n0 ∧ nxt[j + 1]? = some n1 ∧ (part k x b nxt (j + 1))[j]? = some 0 ∧ (part k x b nxt (j + 1))[j + 1]? = some r1 ∧
    (part k x b nxt (j + 1)).set j (if x == y then k.wrap (n1 + 1) else if r1 > n0 then r1 else n0) = part k x b nxt j := by
  have hj := (List.getElem?_eq_some_iff.1 hy).1
  have hyb : b[j] = y := (List.getElem?_eq_some_iff.1 hy).2
  have hb : b.drop j = y :: b.drop (j + 1) := by rw [List.drop_eq_getElem_cons hj, hyb]
  have hnx : nxt.drop j = nxt[j] :: nxt.drop (j + 1) := List.drop_eq_getElem_cons (by omega)
  have hnx1 : nxt.drop (j + 1) = nxt[j + 1] :: nxt.drop (j + 2) := List.drop_eq_getElem_cons (by omega)
  obtain ⟨r1, rs, hr⟩ : ∃ r1 rs, lcsRow k x (b.drop (j + 1)) (nxt.drop (j + 1)) = r1 :: rs := by
    have := lcsRow_len k x (b.drop (j + 1)) (nxt.drop (j + 1)) (by simp; omega)
    cases hr : lcsRow k x (b.drop (j + 1)) (nxt.drop (j + 1)) with
    | nil => rw [hr] at this; simp at this
    | cons r1 rs => exact ⟨r1, rs, rfl⟩
  refine ⟨nxt[j], nxt[j + 1], r1, List.getElem?_eq_getElem (by omega), List.getElem?_eq_getElem (by omega), ?_, ?_, ?_⟩
  · unfold part
    rw [List.getElem?_append_left (by simp)]
    simp
  · unfold part
    rw [List.getElem?_append_right (by simp), hr]
    simp
  · unfold part
    rw [hr, hb, hnx]
    simp only [lcsRow]
    rw [hr, hnx1, List.replicate_succ', List.append_assoc, List.set_append_right _ _ (by simp)]
    have hg : nxt[j + 1]? = some nxt[j + 1] := List.getElem?_eq_getElem (by omega)
    simp [hg]
end Go.Proofs.YtphkaogfinjbjaaGreatDoor

/- The data of the program, and its functions over plain data (printed by wip/gen/gen.py). -/
set_option linter.unusedSectionVars false
set_option maxRecDepth 100000
set_option maxHeartbeats 4000000
namespace Go.Proofs.YtphkaogfinjbjaaGreatDoor
open Go Go.Cn
structure ApiSegment where
  Key : List UInt8
  Text : List UInt8
  deriving DecidableEq
structure ApiToken where
  Kind : Int
  Text : List UInt8
  At : Int
  Lead : List UInt8
  deriving DecidableEq
structure Diff3Ends where
  o : Int
  a : Int
  b : Int
  deriving DecidableEq
structure ApiSpan where
  From : Int
  To : Int
  deriving DecidableEq
structure ApiChunk where
  Kind : Int
  O : ApiSpan
  A : ApiSpan
  B : ApiSpan
  deriving DecidableEq
structure ApiPart where
  Clash : Bool
  O : List UInt8
  A : List UInt8
  B : List UInt8
  deriving DecidableEq
structure ApiConflict where
  Kind : Int
  Key : List UInt8
  deriving DecidableEq
/-- concordat/cells.once -/
noncomputable def cells_once_k1 (x5 : SMap Bool) (x6 : List (List UInt8)) : Option ((List (List UInt8))) := some x6
noncomputable def cells_once_j3 (x4 : Int) (x12 : List UInt8) (x5 : SMap Bool) (x17 : List (List UInt8)) : Option ((Int × (SMap Bool) × (List (List UInt8))) ⊕ ((SMap Bool) × (List (List UInt8)))) := some (.inl (w64 (x4 + 1), (mset x12 true x5), x17))
noncomputable def cells_once_l2 (x1 : List (List UInt8)) (x4 : Int) (x5 : SMap Bool) (x6 : List (List UInt8)) : Option ((Int × (SMap Bool) × (List (List UInt8))) ⊕ ((SMap Bool) × (List (List UInt8)))) := (if (decide (x4 < (x1.length : Int))) = true then (idx x1 x4).bind fun x12 => (if (!(mget x12 false x5)) = true then (app 16 x6 ([x12] : List (List UInt8))).bind fun x14 => cells_once_j3 x4 x12 x5 x14 else cells_once_j3 x4 x12 x5 x6) else some (.inr (x5, x6)))
noncomputable def cells_once (x1 : List (List UInt8)) : Option ((List (List UInt8))) := (iter (fun s => cells_once_l2 x1 s.1 s.2.1 s.2.2) (0, ([] : SMap Bool), [])).bind fun p => cells_once_k1 p.1 p.2
/-- concordat/cells.keys -/
noncomputable def cells_keys_k1 (x4 : List (List UInt8)) : Option ((List (List UInt8))) := (cells_once x4).bind fun x21 => some x21
noncomputable def cells_keys_k3 (x3 : Int) (x12 : List (List UInt8)) : Option ((Int × (List (List UInt8))) ⊕ ((List (List UInt8)))) := some (.inl (w64 (x3 + 1), x12))
noncomputable def cells_keys_l4 (x9 : List ApiSegment) (x11 : Int) (x12 : List (List UInt8)) : Option ((Int × (List (List UInt8))) ⊕ ((List (List UInt8)))) := (if (decide (x11 < (x9.length : Int))) = true then (idx x9 x11).bind fun x17 => (app 16 x12 ([x17.Key] : List (List UInt8))).bind fun x19 => some (.inl (w64 (x11 + 1), x19)) else some (.inr x12))
noncomputable def cells_keys_l2 (x1 : List (List ApiSegment)) (x3 : Int) (x4 : List (List UInt8)) : Option ((Int × (List (List UInt8))) ⊕ ((List (List UInt8)))) := (if (decide (x3 < (x1.length : Int))) = true then (idx x1 x3).bind fun x9 => (iter (fun s => cells_keys_l4 x9 s.1 s.2) (0, x4)).bind fun p => cells_keys_k3 x3 p else some (.inr x4))
noncomputable def cells_keys (x1 : List (List ApiSegment)) : Option ((List (List UInt8))) := (iter (fun s => cells_keys_l2 x1 s.1 s.2) (0, [])).bind fun p => cells_keys_k1 p
/-- concordat/cells.of -/
noncomputable def cells_of (x1 : List UInt8) (x2 : Bool) : Option ((List (List UInt8))) := (if (!x2) = true then some (List.replicate 2 []) else some ([([116, 104, 101, 114, 101] : List UInt8), x1] : List (List UInt8)))
/-- slices.Backward[[]concordat/api.Segment,concordat/api.Segment]$1 -/
noncomputable def slices_Backward_api_Segment_api_Segment_1_k1 {σ : Type} (yld : σ → (Int × ApiSegment) → Option (Bool × σ)) (x2 : List ApiSegment) (x6 : σ) : Option ((List ApiSegment) × (σ)) := some (x2, x6)
noncomputable def slices_Backward_api_Segment_api_Segment_1_l2 {σ : Type} (yld : σ → (Int × ApiSegment) → Option (Bool × σ)) (x2 : List ApiSegment) (x5 : Int) (x6 : σ) : Option ((Int × (σ)) ⊕ (Flow (σ) ((List ApiSegment) × (σ)))) := (if (decide (x5 ≥ 0)) = true then (idx x2 x5).bind fun x12 => (yld x6 (x5, x12)).bind fun (x13, x14) => (if (!x13) = true then some (.inr (.done (x2, x14))) else some (.inl (w64 (x5 - 1), x14))) else some (.inr (.next x6)))
noncomputable def slices_Backward_api_Segment_api_Segment_1 {σ : Type} (yld : σ → (Int × ApiSegment) → Option (Bool × σ)) (x2 : List ApiSegment) (x3 : σ) : Option ((List ApiSegment) × (σ)) := (iter (fun s => slices_Backward_api_Segment_api_Segment_1_l2 yld x2 s.1 s.2) (w64 ((x2.length : Int) - 1), x3)).bind fun z => match z with | .next p => slices_Backward_api_Segment_api_Segment_1_k1 yld x2 p | .done r => some r
/-- concordat/cells.table -/
noncomputable def cells_table_r1 (x7 : SMap (List (List UInt8))) (x5 : Int) (x6 : ApiSegment) : Option (Bool × ((SMap (List (List UInt8))))) := (cells_of x6.Text true).bind fun x10 => some (true, (mset x6.Key x10 x7))
noncomputable def cells_table (x1 : List ApiSegment) : Option ((SMap (List (List UInt8)))) := (slices_Backward_api_Segment_api_Segment_1 (fun (s : (SMap (List (List UInt8)))) (a : Int × ApiSegment) => cells_table_r1 s a.1 a.2) x1 ([] : SMap (List (List UInt8)))).bind fun (x11, x12) => some x12
/-- (concordat/cells.cell).there -/
noncomputable def cells_cell_there (x1 : List (List UInt8)) : Option (Bool) := (arrIx 2 0).bind fun x3 => some ((List.getD x1 x3 []) == ([116, 104, 101, 114, 101] : List UInt8))
/-- slices.Index[[]string,string] -/
noncomputable def slices_Index_string_string_k1 : Option (Int) := some (-1)
noncomputable def slices_Index_string_string_l2 (x1 : List (List UInt8)) (x2 : List UInt8) (x3 : Int) : Option ((Int) ⊕ (Flow Unit Int)) := (if (decide (x3 < (x1.length : Int))) = true then (idx x1 x3).bind fun x6 => (if (x2 == x6) = true then some (.inr (.done x3)) else some (.inl (w64 (x3 + 1)))) else some (.inr (.next ())))
noncomputable def slices_Index_string_string (x1 : List (List UInt8)) (x2 : List UInt8) : Option (Int) := (iter (fun s => slices_Index_string_string_l2 x1 x2 s) 0).bind fun z => match z with | .next p => slices_Index_string_string_k1 | .done r => some r
/-- slices.Contains[[]string,string] -/
noncomputable def slices_Contains_string_string (x1 : List (List UInt8)) (x2 : List UInt8) : Option (Bool) := (slices_Index_string_string x1 x2).bind fun x3 => some (decide (x3 ≥ 0))
/-- slices.Equal[[]string,string] -/
noncomputable def slices_Equal_string_string_k1 : Option (Bool) := some true
noncomputable def slices_Equal_string_string_j3 (x4 : Int) (x7 : List UInt8) (x8 : List UInt8) : Option ((Int) ⊕ (Flow Unit Bool)) := (if (!(x7 == x8)) = true then some (.inr (.done false)) else some (.inl (w64 (x4 + 1))))
noncomputable def slices_Equal_string_string_l2 (x1 : List (List UInt8)) (x2 : List (List UInt8)) (x4 : Int) : Option ((Int) ⊕ (Flow Unit Bool)) := (if (decide (x4 < (x1.length : Int))) = true then (idx x1 x4).bind fun x7 => (idx x2 x4).bind fun x8 => slices_Equal_string_string_j3 x4 x7 x8 else some (.inr (.next ())))
noncomputable def slices_Equal_string_string (x1 : List (List UInt8)) (x2 : List (List UInt8)) : Option (Bool) := (if ((x1.length : Int) != (x2.length : Int)) = true then some false else (iter (fun s => slices_Equal_string_string_l2 x1 x2 s) 0).bind fun z => match z with | .next p => slices_Equal_string_string_k1 | .done r => some r)
/-- slices.IndexFunc[[]string,string] -/
noncomputable def slices_IndexFunc_string_string_k1 : Option (Int) := some (-1)
noncomputable def slices_IndexFunc_string_string_l2 (x1 : List (List UInt8)) (x2 : ((List UInt8) → Option Bool)) (x3 : Int) : Option ((Int) ⊕ (Flow Unit Int)) := (if (decide (x3 < (x1.length : Int))) = true then (idx x1 x3).bind fun x6 => (x2 x6).bind fun x7 => (if x7 = true then some (.inr (.done x3)) else some (.inl (w64 (x3 + 1)))) else some (.inr (.next ())))
noncomputable def slices_IndexFunc_string_string (x1 : List (List UInt8)) (x2 : ((List UInt8) → Option Bool)) : Option (Int) := (iter (fun s => slices_IndexFunc_string_string_l2 x1 x2 s) 0).bind fun z => match z with | .next p => slices_IndexFunc_string_string_k1 | .done r => some r
/-- slices.DeleteFunc[[]string,string] -/
noncomputable def slices_DeleteFunc_string_string_k1 (x6 : Int) (x8 : List (List UInt8)) : Option ((List (List UInt8))) := (subL x8 x6 (x8.length : Int)).bind fun x19 => (subL (List.take (Int.toNat x6) x8 ++ List.replicate (x8.length - Int.toNat x6) []) 0 x6).bind fun x20 => some x20
noncomputable def slices_DeleteFunc_string_string_j3 (x7 : Int) (x17 : Int) (x18 : List (List UInt8)) : Option ((Int × Int × (List (List UInt8))) ⊕ (Int × (List (List UInt8)))) := some (.inl (x17, w64 (x7 + 1), x18))
noncomputable def slices_DeleteFunc_string_string_l2 (x1 : ((List UInt8) → Option Bool)) (x6 : Int) (x7 : Int) (x8 : List (List UInt8)) : Option ((Int × Int × (List (List UInt8))) ⊕ (Int × (List (List UInt8)))) := (if (decide (x7 < (x8.length : Int))) = true then (idx x8 x7).bind fun x13 => (x1 x13).bind fun x14 => (if (!x14) = true then (idx x8 x6).bind fun x16 => slices_DeleteFunc_string_string_j3 x7 (w64 (x6 + 1)) (List.set x8 (Int.toNat x6) x13) else slices_DeleteFunc_string_string_j3 x7 x6 x8) else some (.inr (x6, x8)))
noncomputable def slices_DeleteFunc_string_string (x1 : ((List UInt8) → Option Bool)) (x3 : List (List UInt8)) : Option ((List (List UInt8))) := (slices_IndexFunc_string_string x3 x1).bind fun x4 => (if (x4 == (-1)) = true then some x3 else (iter (fun s => slices_DeleteFunc_string_string_l2 x1 s.1 s.2.1 s.2.2) (x4, w64 (x4 + 1), x3)).bind fun p => slices_DeleteFunc_string_string_k1 p.1 p.2)
/-- concordat/cells.Order$1$1 -/
noncomputable def cells_Order_1_1_j1 (x10 : Bool) : Option (Bool) := some x10
noncomputable def cells_Order_1_1 (x1 : List UInt8) (x2 : List (List UInt8)) (x3 : List (List UInt8)) (x4 : List (List UInt8)) : Option (Bool) := (slices_Contains_string_string x2 x1).bind fun x5 => (if x5 = true then (slices_Contains_string_string x3 x1).bind fun x7 => (if x7 = true then (slices_Contains_string_string x4 x1).bind fun x9 => cells_Order_1_1_j1 (!x9) else cells_Order_1_1_j1 (!false)) else cells_Order_1_1_j1 false)
/-- concordat/cells.Order$1 -/
noncomputable def cells_Order_1 (x1 : List (List UInt8)) (x2 : List (List UInt8)) (x3 : List (List UInt8)) (x4 : List (List UInt8)) : Option ((List (List UInt8))) := (slices_Clone x1).bind fun x5 => (slices_DeleteFunc_string_string (fun a0 => cells_Order_1_1 a0 x2 x3 x4) x5).bind fun x7 => some x7
/-- concordat/cells.woven$1 -/
noncomputable def cells_woven_1 (x1 : List UInt8) (x2 : List (List UInt8)) : Option (Bool) := (slices_Contains_string_string x2 x1).bind fun x3 => some x3
/-- internal/stringslite.HasPrefix -/
noncomputable def internal_stringslite_HasPrefix_j1 (x5 : Bool) : Option (Bool) := some x5
noncomputable def internal_stringslite_HasPrefix (x1 : List UInt8) (x2 : List UInt8) : Option (Bool) := (if (decide ((x1.length : Int) ≥ (x2.length : Int))) = true then (sub x1 0 (x2.length : Int)).bind fun x4 => internal_stringslite_HasPrefix_j1 (x4 == x2) else internal_stringslite_HasPrefix_j1 false)
/-- strings.HasPrefix -/
noncomputable def strings_HasPrefix (x1 : List UInt8) (x2 : List UInt8) : Option (Bool) := (internal_stringslite_HasPrefix x1 x2).bind fun x3 => some x3
/-- concordat/lex.run -/
noncomputable def lex_run_k1 (x1 : List UInt8) : Option (Int) := some (x1.length : Int)
noncomputable def lex_run_l2 (x1 : List UInt8) (x2 : (Int → Option Bool)) (x3 : Int) : Option ((Int) ⊕ (Flow Unit Int)) := (if (decide (x3 < (x1.length : Int))) = true then (idxS x1 x3).bind fun x6 => (x2 x6).bind fun x7 => (if (!x7) = true then some (.inr (.done x3)) else some (.inl (w64 (x3 + 1)))) else some (.inr (.next ())))
noncomputable def lex_run (x1 : List UInt8) (x2 : (Int → Option Bool)) : Option (Int) := (iter (fun s => lex_run_l2 x1 x2 s) 0).bind fun z => match z with | .next p => lex_run_k1 x1 | .done r => some r
/-- concordat/lex.between$1 -/
noncomputable def lex_between_1 (x1 : Int) : Option (Bool) := some (x1 != 10)
/-- concordat/lex.between -/
noncomputable def lex_between_j1 (x2 : Int) : Option (Int × Bool) := some (x2, true)
noncomputable def lex_between_k2 (x2 : Int) : Option (Int × Bool) := lex_between_j1 x2
noncomputable def lex_between_j4 (x2 : Int) : Option ((Int) ⊕ (Flow Int (Int × Bool))) := some (.inl (w64 (x2 + 1)))
noncomputable def lex_between_l3 (x1 : List UInt8) (x2 : Int) : Option ((Int) ⊕ (Flow Int (Int × Bool))) := (if (decide (x2 < (x1.length : Int))) = true then (sub x1 x2 (x1.length : Int)).bind fun x5 => (strings_HasPrefix x5 ([47, 47] : List UInt8)).bind fun x6 => (if x6 = true then (lex_run x5 lex_between_1).bind fun x8 => some (.inl (w64 (x2 + x8))) else (strings_HasPrefix x5 ([47, 42] : List UInt8)).bind fun x9 => (if x9 = true then (sub x5 2 (x5.length : Int)).bind fun x11 => (strings_Index x11 ([42, 47] : List UInt8)).bind fun x12 => (if (decide (x12 < 0)) = true then some (.inr (.done (x2, false))) else some (.inl (w64 (x2 + (w64 ((w64 (2 + x12)) + 2)))))) else (idxS x5 0).bind fun x14 => (if (x14 == 32) = true then lex_between_j4 x2 else (if (x14 == 9) = true then lex_between_j4 x2 else (if (x14 == 13) = true then lex_between_j4 x2 else (if (x14 == 10) = true then lex_between_j4 x2 else some (.inr (.next x2)))))))) else some (.inr (.next x2)))
noncomputable def lex_between (x1 : List UInt8) : Option (Int × Bool) := (iter (fun s => lex_between_l3 x1 s) 0).bind fun z => match z with | .next p => lex_between_k2 p | .done r => some r
/-- concordat/lex.digit -/
noncomputable def lex_digit_j1 (x3 : Bool) : Option (Bool) := some x3
noncomputable def lex_digit (x1 : Int) : Option (Bool) := (if (decide (x1 ≥ 48)) = true then lex_digit_j1 (decide (x1 ≤ 57)) else lex_digit_j1 false)
/-- concordat/lex.letter -/
noncomputable def lex_letter_j1 (x5 : Bool) : Option (Bool) := some x5
noncomputable def lex_letter (x1 : Int) : Option (Bool) := (if (decide ((bits .or .u8 x1 32) ≥ 97)) = true then (if (decide ((bits .or .u8 x1 32) ≤ 122)) = true then lex_letter_j1 true else lex_letter_j1 (x1 == 95)) else lex_letter_j1 (x1 == 95))
/-- concordat/lex.token$1 -/
noncomputable def lex_token_1_j1 (x5 : Bool) : Option (Bool) := some x5
noncomputable def lex_token_1 (x1 : Int) : Option (Bool) := (lex_letter x1).bind fun x2 => (if x2 = true then lex_token_1_j1 true else (lex_digit x1).bind fun x4 => lex_token_1_j1 x4)
/-- concordat/lex.Kept -/
noncomputable def lex_Kept (x1 : List UInt8) : Option (Bool) := (slices_Contains_string_string kept x1).bind fun x2 => some x2
/-- concordat/lex.mark -/
noncomputable def lex_mark_k1 (x1 : List UInt8) : Option (Int) := (idxS x1 0).bind fun x8 => (strings_IndexByte ([43, 45, 42, 47, 37, 60, 62, 61, 33, 40, 41, 123, 125, 59, 44, 46] : List UInt8) x8).bind fun x9 => (if (decide (x9 ≥ 0)) = true then some 1 else some 0)
noncomputable def lex_mark_l2 (x1 : List UInt8) (x2 : Int) : Option ((Int) ⊕ (Flow Unit Int)) := (if (decide (x2 < (([([61, 61] : List UInt8), ([33, 61] : List UInt8), ([60, 61] : List UInt8), ([62, 61] : List UInt8), ([38, 38] : List UInt8), ([124, 124] : List UInt8)] : List (List UInt8)).length : Int))) = true then (idx ([([61, 61] : List UInt8), ([33, 61] : List UInt8), ([60, 61] : List UInt8), ([62, 61] : List UInt8), ([38, 38] : List UInt8), ([124, 124] : List UInt8)] : List (List UInt8)) x2).bind fun x5 => (strings_HasPrefix x1 x5).bind fun x6 => (if x6 = true then some (.inr (.done 2)) else some (.inl (w64 (x2 + 1)))) else some (.inr (.next ())))
noncomputable def lex_mark (x1 : List UInt8) : Option (Int) := (iter (fun s => lex_mark_l2 x1 s) 0).bind fun z => match z with | .next p => lex_mark_k1 x1 | .done r => some r
/-- concordat/lex.token -/
noncomputable def lex_token_j1 (x5 : Int) (x16 : Bool) : Option (Int × Int × Int) := (if x16 = true then some (0, 0, 31) else some (2, x5, 0))
noncomputable def lex_token (x1 : List UInt8) : Option (Int × Int × Int) := (idxS x1 0).bind fun x2 => (lex_digit x2).bind fun x3 => (if x3 = true then (lex_run x1 lex_digit).bind fun x5 => (sub x1 0 x5).bind fun x6 => (strconv_ParseInt x6 10 64).bind fun (x7, x8) => (if x8 = true then lex_token_j1 x5 true else (if (decide (x7 > 2147483647)) = true then lex_token_j1 x5 true else (if (decide (x5 > 1)) = true then (idxS x1 0).bind fun x12 => lex_token_j1 x5 (x12 == 48) else lex_token_j1 x5 false))) else (idxS x1 0).bind fun x18 => (lex_letter x18).bind fun x19 => (if x19 = true then (lex_run x1 lex_token_1).bind fun x21 => (if (decide (x21 > 20)) = true then some (0, 0, 2) else (sub x1 0 x21).bind fun x23 => (lex_Kept x23).bind fun x24 => (if x24 = true then some (3, x21, 0) else some (1, x21, 0))) else (lex_mark x1).bind fun x26 => (if (x26 == 0) = true then some (0, 0, 30) else some (4, x26, 0))))
/-- concordat/lex.Lex$1 -/
noncomputable def lex_Lex_1_j1 (x8 : List UInt8) (x10 : Int) (x2 : Int) (x3 : Int) (x13 : List ApiToken) : Option ((List ApiToken) × (List UInt8) × Int) := some (x13, x8, w64 (x10 + (w64 (x2 + x3))))
noncomputable def lex_Lex_1 (x1 : Int) (x2 : Int) (x3 : Int) (x5 : List ApiToken) (x8 : List UInt8) (x10 : Int) : Option ((List ApiToken) × (List UInt8) × Int) := (sub x8 (w64 (x10 + x2)) (w64 ((w64 (x10 + x2)) + x3))).bind fun x11 => (sub x8 x10 (w64 (x10 + x2))).bind fun x12 => (app 48 x5 ([(ApiToken.mk x1 x11 (w64 (x10 + x2)) x12)] : List ApiToken)).bind fun x13 => lex_Lex_1_j1 x8 x10 x2 x3 x13
/-- concordat/lex.Lex -/
noncomputable def lex_Lex_j2 (x8 : Int) (x15 : Int) : Option (((List UInt8) × Int × (List ApiToken)) ⊕ ((List ApiToken) × Int × Int)) := some (.inr ([], w64 (x8 + x15), 32))
noncomputable def lex_Lex_j3 (x8 : Int) (x15 : Int) (x26 : Int) : Option (((List UInt8) × Int × (List ApiToken)) ⊕ ((List ApiToken) × Int × Int)) := some (.inr ([], w64 (x8 + x15), x26))
noncomputable def lex_Lex_l1 (x6 : List UInt8) (x8 : Int) (x9 : List ApiToken) : Option (((List UInt8) × Int × (List ApiToken)) ⊕ ((List ApiToken) × Int × Int)) := (sub x6 x8 (x6.length : Int)).bind fun x14 => (lex_between x14).bind fun (x15, x16) => (if (!x16) = true then lex_Lex_j2 x8 x15 else (if ((w64 (x8 + x15)) == (x6.length : Int)) = true then (lex_Lex_1 5 x15 0 x9 x6 x8).bind fun (x19, x21, x22) => some (.inr (x19, 0, 0)) else (sub x6 (w64 (x8 + x15)) (x6.length : Int)).bind fun x23 => (lex_token x23).bind fun (x24, x25, x26) => (if (x26 != 0) = true then lex_Lex_j3 x8 x15 x26 else (lex_Lex_1 x24 x15 x25 x9 x6 x8).bind fun (x28, x30, x31) => some (.inl (x30, x31, x28)))))
noncomputable def lex_Lex (x1 : List UInt8) : Option ((List ApiToken) × Int × Int) := (if (decide ((x1.length : Int) > 1048576)) = true then some ([], 0, 2) else iter (fun s => lex_Lex_l1 s.1 s.2.1 s.2.2) (x1, 0, []))
/-- concordat/lcs.Numbers -/
noncomputable def lcs_Numbers_k1 (x5 : SMap Int) (x6 : List (List Int)) : Option ((List (List Int))) := some x6
noncomputable def lcs_Numbers_k3 (x6 : List (List Int)) (x4 : Int) (x15 : SMap Int) (x16 : List Int) : Option ((Int × (SMap Int) × (List (List Int))) ⊕ ((SMap Int) × (List (List Int)))) := (app 24 x6 ([x16] : List (List Int))).bind fun x28 => some (.inl (w64 (x4 + 1), x15, x28))
noncomputable def lcs_Numbers_j5 (x16 : List Int) (x14 : Int) (x24 : Int) (x25 : SMap Int) : Option ((Int × (SMap Int) × (List Int)) ⊕ ((SMap Int) × (List Int))) := (app 8 x16 ([x24] : List Int)).bind fun x26 => some (.inl (w64 (x14 + 1), x25, x26))
noncomputable def lcs_Numbers_l4 (x12 : List (List UInt8)) (x14 : Int) (x15 : SMap Int) (x16 : List Int) : Option ((Int × (SMap Int) × (List Int)) ⊕ ((SMap Int) × (List Int))) := (if (decide (x14 < (x12.length : Int))) = true then (idx x12 x14).bind fun x22 => (if (!(mhas x22 x15)) = true then lcs_Numbers_j5 x16 x14 (x15.length : Int) (mset x22 (x15.length : Int) x15) else lcs_Numbers_j5 x16 x14 (mget x22 0 x15) x15) else some (.inr (x15, x16)))
noncomputable def lcs_Numbers_l2 (x1 : List (List (List UInt8))) (x4 : Int) (x5 : SMap Int) (x6 : List (List Int)) : Option ((Int × (SMap Int) × (List (List Int))) ⊕ ((SMap Int) × (List (List Int)))) := (if (decide (x4 < (x1.length : Int))) = true then (idx x1 x4).bind fun x12 => (iter (fun s => lcs_Numbers_l4 x12 s.1 s.2.1 s.2.2) (0, x5, [])).bind fun p => lcs_Numbers_k3 x6 x4 p.1 p.2 else some (.inr (x5, x6)))
noncomputable def lcs_Numbers (x1 : List (List (List UInt8))) : Option ((List (List Int))) := (iter (fun s => lcs_Numbers_l2 x1 s.1 s.2.1 s.2.2) (0, ([] : SMap Int), [])).bind fun p => lcs_Numbers_k1 p.1 p.2
/-- concordat/lcs.none -/
noncomputable def lcs_none_k1 (x5 : List Int) : Option ((List Int)) := some x5
noncomputable def lcs_none_l2 (x1 : Int) (x4 : Int) (x5 : List Int) : Option ((Int × (List Int)) ⊕ ((List Int))) := (if (decide (x4 < x1)) = true then (idx x5 x4).bind fun x9 => some (.inl (w64 (x4 + 1), (List.set x5 (Int.toNat x4) (-1)))) else some (.inr x5))
noncomputable def lcs_none (x1 : Int) : Option ((List Int)) := (mkLen 8 x1).bind fun x2 => (iter (fun s => lcs_none_l2 x1 s.1 s.2) (0, (List.replicate x2 0))).bind fun p => lcs_none_k1 p
/-- concordat/lcs.ends -/
noncomputable def lcs_ends_k1 (x5 : Int) (x15 : Int) (x23 : List Int) : Option (Int × Int × (List Int)) := some (x5, x15, x23)
noncomputable def lcs_ends_l2 (x15 : Int) (x1 : List Int) (x2 : List Int) (x22 : Int) (x23 : List Int) : Option ((Int × (List Int)) ⊕ ((List Int))) := (if (decide (x22 < x15)) = true then (idx x23 (w64 ((w64 ((x1.length : Int) - 1)) - x22))).bind fun x27 => some (.inl (w64 (x22 + 1), (List.set x23 (Int.toNat (w64 ((w64 ((x1.length : Int) - 1)) - x22))) (w64 ((w64 ((x2.length : Int) - 1)) - x22))))) else some (.inr x23))
noncomputable def lcs_ends_k3 (x1 : List Int) (x2 : List Int) (x6 : List Int) (x5 : Int) (x15 : Int) : Option (Int × Int × (List Int)) := (iter (fun s => lcs_ends_l2 x15 x1 x2 s.1 s.2) (0, x6)).bind fun p => lcs_ends_k1 x5 x15 p
noncomputable def lcs_ends_j5 (x15 : Int) (x20 : Bool) : Option ((Int) ⊕ (Int)) := (if x20 = true then some (.inl (w64 (x15 + 1))) else some (.inr x15))
noncomputable def lcs_ends_l4 (x2 : List Int) (x1 : List Int) (x5 : Int) (x15 : Int) : Option ((Int) ⊕ (Int)) := (if (decide (x15 < (w64 ((if (x2.length : Int) < (x1.length : Int) then (x2.length : Int) else (x1.length : Int)) - x5)))) = true then (idx x1 (w64 ((w64 ((x1.length : Int) - 1)) - x15))).bind fun x18 => (idx x2 (w64 ((w64 ((x2.length : Int) - 1)) - x15))).bind fun x19 => lcs_ends_j5 x15 (x18 == x19) else lcs_ends_j5 x15 false)
noncomputable def lcs_ends_k6 (x2 : List Int) (x1 : List Int) (x5 : Int) (x6 : List Int) : Option (Int × Int × (List Int)) := (iter (fun s => lcs_ends_l4 x2 x1 x5 s) 0).bind fun p => lcs_ends_k3 x1 x2 x6 x5 p
noncomputable def lcs_ends_j8 (x6 : List Int) (x5 : Int) (x12 : Bool) : Option ((Int × (List Int)) ⊕ (Int × (List Int))) := (if x12 = true then (idx x6 x5).bind fun x14 => some (.inl (w64 (x5 + 1), (List.set x6 (Int.toNat x5) x5))) else some (.inr (x5, x6)))
noncomputable def lcs_ends_l7 (x2 : List Int) (x1 : List Int) (x5 : Int) (x6 : List Int) : Option ((Int × (List Int)) ⊕ (Int × (List Int))) := (if (decide (x5 < (if (x2.length : Int) < (x1.length : Int) then (x2.length : Int) else (x1.length : Int)))) = true then (idx x1 x5).bind fun x10 => (idx x2 x5).bind fun x11 => lcs_ends_j8 x6 x5 (x10 == x11) else lcs_ends_j8 x6 x5 false)
noncomputable def lcs_ends (x1 : List Int) (x2 : List Int) (x4 : List Int) : Option (Int × Int × (List Int)) := (iter (fun s => lcs_ends_l7 x2 x1 s.1 s.2) (0, x4)).bind fun p => lcs_ends_k6 x2 x1 p.1 p.2
/-- concordat/lcs.Match -/
noncomputable def lcs_Match_k1 (x14 : List Int) : Option ((List Int)) := some x14
noncomputable def lcs_Match_j3 (x12 : Int) (x13 : Int) (x14 : List Int) (x26 : Int) (x28 : Int) : Option ((Int × Int × (List Int)) ⊕ ((List Int))) := (if (decide (x26 ≥ x28)) = true then some (.inl (w64 (x12 + 1), x13, x14)) else some (.inl (x12, w64 (x13 + 1), x14)))
noncomputable def lcs_Match_j4 (x14 : List Int) (x12 : Int) (x13 : Int) (x11 : List (List Int)) (x21 : Int) (x22 : Int) : Option ((Int × Int × (List Int)) ⊕ ((List Int))) := (if (x21 == x22) = true then (idx x14 x12).bind fun x24 => some (.inl (w64 (x12 + 1), w64 (x13 + 1), (List.set x14 (Int.toNat x12) x13))) else (idx x11 (w64 (x12 + 1))).bind fun x25 => (idx x25 x13).bind fun x26 => (idx x11 x12).bind fun x27 => (idx x27 (w64 (x13 + 1))).bind fun x28 => lcs_Match_j3 x12 x13 x14 x26 x28)
noncomputable def lcs_Match_j5 (x1 : List Int) (x12 : Int) (x2 : List Int) (x13 : Int) (x14 : List Int) (x11 : List (List Int)) (x19 : Bool) : Option ((Int × Int × (List Int)) ⊕ ((List Int))) := (if x19 = true then (idx x1 x12).bind fun x21 => (idx x2 x13).bind fun x22 => lcs_Match_j4 x14 x12 x13 x11 x21 x22 else some (.inr x14))
noncomputable def lcs_Match_l2 (x1 : List Int) (x2 : List Int) (x11 : List (List Int)) (x12 : Int) (x13 : Int) (x14 : List Int) : Option ((Int × Int × (List Int)) ⊕ ((List Int))) := (if (decide (x12 < (x1.length : Int))) = true then lcs_Match_j5 x1 x12 x2 x13 x14 x11 (decide (x13 < (x2.length : Int))) else lcs_Match_j5 x1 x12 x2 x13 x14 x11 false)
noncomputable def lcs_Match_j6 (x1 : List Int) (x2 : List Int) (x3 : List Int) (x6 : Bool) : Option ((List Int)) := (if x6 = true then (lcs_ends x1 x2 x3).bind fun (x8, x9, x10) => some x10 else (lcs_left x1 x2).bind fun x11 => (iter (fun s => lcs_Match_l2 x1 x2 x11 s.1 s.2.1 s.2.2) (0, 0, x3)).bind fun p => lcs_Match_k1 p)
noncomputable def lcs_Match (x1 : List Int) (x2 : List Int) : Option ((List Int)) := (lcs_none (x1.length : Int)).bind fun x3 => (if (decide ((x1.length : Int) > 2000)) = true then lcs_Match_j6 x1 x2 x3 true else lcs_Match_j6 x1 x2 x3 (decide ((x2.length : Int) > 2000)))
/-- concordat/diff3.chunks$1$1 -/
noncomputable def diff3_chunks_1_1_k1 (x2 : Diff3Ends) (x4 : Diff3Ends) (x6 : List Int) (x8 : List Int) (x9 : Int) : Option (Int × Diff3Ends × Diff3Ends × (List Int) × (List Int)) := some (x9, x2, x4, x6, x8)
noncomputable def diff3_chunks_1_1_j3 (x9 : Int) (x17 : Bool) : Option ((Int) ⊕ (Int)) := (if x17 = true then some (.inl (w64 (x9 + 1))) else some (.inr x9))
noncomputable def diff3_chunks_1_1_l2 (x2 : Diff3Ends) (x4 : Diff3Ends) (x6 : List Int) (x8 : List Int) (x9 : Int) : Option ((Int) ⊕ (Int)) := (if (decide ((w64 (x2.o + x9)) < x4.o)) = true then (idx x6 (w64 (x2.o + x9))).bind fun x12 => (if (x12 == (w64 (x2.a + x9))) = true then (idx x8 (w64 (x2.o + x9))).bind fun x14 => diff3_chunks_1_1_j3 x9 (x14 == (w64 (x2.b + x9))) else diff3_chunks_1_1_j3 x9 false) else diff3_chunks_1_1_j3 x9 false)
noncomputable def diff3_chunks_1_1 (x2 : Diff3Ends) (x4 : Diff3Ends) (x6 : List Int) (x8 : List Int) : Option (Int × Diff3Ends × Diff3Ends × (List Int) × (List Int)) := (iter (fun s => diff3_chunks_1_1_l2 x2 x4 x6 x8 s) 0).bind fun p => diff3_chunks_1_1_k1 x2 x4 x6 x8 p
/-- concordat/diff3.chunks$1$2 -/
noncomputable def diff3_chunks_1_2_k1 (x4 : Diff3Ends) (x2 : Diff3Ends) (x6 : List Int) (x8 : List Int) : Option (Diff3Ends × Diff3Ends × Diff3Ends × (List Int) × (List Int)) := some (x4, x2, x4, x6, x8)
noncomputable def diff3_chunks_1_2_j3 (x10 : Int) (x2 : Diff3Ends) (x4 : Diff3Ends) (x6 : List Int) (x8 : List Int) (x18 : Int) (x19 : Int) : Option ((Int) ⊕ (Flow Unit (Diff3Ends × Diff3Ends × Diff3Ends × (List Int) × (List Int)))) := some (.inr (.done ((Diff3Ends.mk x10 x18 x19), x2, x4, x6, x8)))
noncomputable def diff3_chunks_1_2_j4 (x6 : List Int) (x10 : Int) (x8 : List Int) (x2 : Diff3Ends) (x4 : Diff3Ends) (x16 : Bool) : Option ((Int) ⊕ (Flow Unit (Diff3Ends × Diff3Ends × Diff3Ends × (List Int) × (List Int)))) := (if x16 = true then (idx x6 x10).bind fun x18 => (idx x8 x10).bind fun x19 => diff3_chunks_1_2_j3 x10 x2 x4 x6 x8 x18 x19 else some (.inl (w64 (x10 + 1))))
noncomputable def diff3_chunks_1_2_l2 (x4 : Diff3Ends) (x6 : List Int) (x8 : List Int) (x2 : Diff3Ends) (x10 : Int) : Option ((Int) ⊕ (Flow Unit (Diff3Ends × Diff3Ends × Diff3Ends × (List Int) × (List Int)))) := (if (decide (x10 < x4.o)) = true then (idx x6 x10).bind fun x13 => (if (decide (x13 ≥ 0)) = true then (idx x8 x10).bind fun x15 => diff3_chunks_1_2_j4 x6 x10 x8 x2 x4 (decide (x15 ≥ 0)) else diff3_chunks_1_2_j4 x6 x10 x8 x2 x4 false) else some (.inr (.next ())))
noncomputable def diff3_chunks_1_2 (x2 : Diff3Ends) (x4 : Diff3Ends) (x6 : List Int) (x8 : List Int) : Option (Diff3Ends × Diff3Ends × Diff3Ends × (List Int) × (List Int)) := (iter (fun s => diff3_chunks_1_2_l2 x4 x6 x8 x2 s) x2.o).bind fun z => match z with | .next p => diff3_chunks_1_2_k1 x4 x2 x6 x8 | .done r => some r
/-- concordat/diff3.chunks$1 -/
noncomputable def diff3_chunks_1_k1 {σ : Type} (yld : σ → (Diff3Ends × Diff3Ends) → Option (Bool × σ)) (x2 : List Int) (x4 : List Int) (x6 : List Int) (x15 : σ) (x17 : List Int) (x18 : List Int) (x19 : Diff3Ends) (x20 : Diff3Ends) : Option ((List Int) × (List Int) × (List Int) × (σ)) := some (x2, x4, x6, x15)
noncomputable def diff3_chunks_1_j3 {σ : Type} (yld : σ → (Diff3Ends × Diff3Ends) → Option (Bool × σ)) (x15 : σ) (x2 : List Int) (x4 : List Int) (x6 : List Int) (x40 : Diff3Ends) (x35 : Diff3Ends) (x36 : Diff3Ends) (x37 : List Int) (x38 : List Int) : Option (((σ) × (List Int) × (List Int) × Diff3Ends × Diff3Ends) ⊕ (Flow ((σ) × (List Int) × (List Int) × Diff3Ends × Diff3Ends) ((List Int) × (List Int) × (List Int) × (σ)))) := (yld x15 (x35, x40)).bind fun (x41, x42) => (if (!x41) = true then some (.inr (.done (x2, x4, x6, x42))) else some (.inl (x42, x37, x38, x40, x36)))
noncomputable def diff3_chunks_1_l2 {σ : Type} (yld : σ → (Diff3Ends × Diff3Ends) → Option (Bool × σ)) (x2 : List Int) (x4 : List Int) (x6 : List Int) (x15 : σ) (x17 : List Int) (x18 : List Int) (x19 : Diff3Ends) (x20 : Diff3Ends) : Option (((σ) × (List Int) × (List Int) × Diff3Ends × Diff3Ends) ⊕ (Flow ((σ) × (List Int) × (List Int) × Diff3Ends × Diff3Ends) ((List Int) × (List Int) × (List Int) × (σ)))) := (if (!decide (x19 = x20)) = true then (diff3_chunks_1_2 x19 x20 x17 x18).bind fun (x28, x29, x30, x31, x32) => (diff3_chunks_1_1 x29 x30 x31 x32).bind fun (x34, x35, x36, x37, x38) => (if (decide (x34 > 0)) = true then diff3_chunks_1_j3 yld x15 x2 x4 x6 (Diff3Ends.mk (w64 (x35.o + x34)) (w64 (x35.a + x34)) (w64 (x35.b + x34))) x35 x36 x37 x38 else diff3_chunks_1_j3 yld x15 x2 x4 x6 x28 x35 x36 x37 x38) else some (.inr (.next (x15, x17, x18, x19, x20))))
noncomputable def diff3_chunks_1_j4 {σ : Type} (yld : σ → (Diff3Ends × Diff3Ends) → Option (Bool × σ)) (x2 : List Int) (x4 : List Int) (x6 : List Int) (x7 : σ) (x9 : List Int) (x10 : List Int) : Option ((List Int) × (List Int) × (List Int) × (σ)) := (iter (fun s => diff3_chunks_1_l2 yld x2 x4 x6 s.1 s.2.1 s.2.2.1 s.2.2.2.1 s.2.2.2.2) (x7, x9, x10, (Diff3Ends.mk 0 0 0), (Diff3Ends.mk (x2.length : Int) (x4.length : Int) (x6.length : Int)))).bind fun z => match z with | .next p => diff3_chunks_1_k1 yld x2 x4 x6 p.1 p.2.1 p.2.2.1 p.2.2.2.1 p.2.2.2.2 | .done r => some r
noncomputable def diff3_chunks_1_j5 {σ : Type} (yld : σ → (Diff3Ends × Diff3Ends) → Option (Bool × σ)) (x2 : List Int) (x4 : List Int) (x6 : List Int) (x7 : σ) (x9 : List Int) (x10 : List Int) : Option ((List Int) × (List Int) × (List Int) × (σ)) := diff3_chunks_1_j4 yld x2 x4 x6 x7 x9 x10
noncomputable def diff3_chunks_1 {σ : Type} (yld : σ → (Diff3Ends × Diff3Ends) → Option (Bool × σ)) (x2 : List Int) (x4 : List Int) (x6 : List Int) (x7 : σ) : Option ((List Int) × (List Int) × (List Int) × (σ)) := (lcs_Match x2 x4).bind fun x9 => (lcs_Match x2 x6).bind fun x10 => diff3_chunks_1_j5 yld x2 x4 x6 x7 x9 x10
/-- slices.Equal[[]int,int] -/
noncomputable def slices_Equal_int_int_k1 : Option (Bool) := some true
noncomputable def slices_Equal_int_int_j3 (x4 : Int) (x7 : Int) (x8 : Int) : Option ((Int) ⊕ (Flow Unit Bool)) := (if (x7 != x8) = true then some (.inr (.done false)) else some (.inl (w64 (x4 + 1))))
noncomputable def slices_Equal_int_int_l2 (x1 : List Int) (x2 : List Int) (x4 : Int) : Option ((Int) ⊕ (Flow Unit Bool)) := (if (decide (x4 < (x1.length : Int))) = true then (idx x1 x4).bind fun x7 => (idx x2 x4).bind fun x8 => slices_Equal_int_int_j3 x4 x7 x8 else some (.inr (.next ())))
noncomputable def slices_Equal_int_int (x1 : List Int) (x2 : List Int) : Option (Bool) := (if ((x1.length : Int) != (x2.length : Int)) = true then some false else (iter (fun s => slices_Equal_int_int_l2 x1 x2 s) 0).bind fun z => match z with | .next p => slices_Equal_int_int_k1 | .done r => some r)
/-- concordat/diff3.kind -/
noncomputable def diff3_kind_j1 (x4 : Bool) (x5 : Bool) (x14 : Bool) : Option (Int) := (if x14 = true then some 4 else (if (!x4) = true then some 1 else (if (!x5) = true then some 2 else some 0)))
noncomputable def diff3_kind_j2 (x4 : Bool) (x5 : Bool) (x11 : Bool) : Option (Int) := (if x11 = true then some 3 else (if (!x4) = true then diff3_kind_j1 x4 x5 (!x5) else diff3_kind_j1 x4 x5 false))
noncomputable def diff3_kind (x1 : List Int) (x2 : List Int) (x3 : List Int) : Option (Int) := (slices_Equal_int_int x1 x2).bind fun x4 => (slices_Equal_int_int x1 x3).bind fun x5 => (if (!x4) = true then (if (!x5) = true then (slices_Equal_int_int x2 x3).bind fun x8 => diff3_kind_j2 x4 x5 x8 else diff3_kind_j2 x4 x5 false) else diff3_kind_j2 x4 x5 false)
/-- concordat/diff3.Chunks -/
noncomputable def diff3_Chunks_r1 (x1 : List Int) (x2 : List Int) (x3 : List Int) (x14 : List ApiChunk) (x11 : Diff3Ends) (x12 : Diff3Ends) : Option (Bool × ((List ApiChunk))) := (subL x1 x11.o x12.o).bind fun x19 => (subL x2 x11.a x12.a).bind fun x20 => (subL x3 x11.b x12.b).bind fun x21 => (diff3_kind x19 x20 x21).bind fun x22 => (app 56 x14 ([(ApiChunk.mk x22 (ApiSpan.mk x11.o x12.o) (ApiSpan.mk x11.a x12.a) (ApiSpan.mk x11.b x12.b))] : List ApiChunk)).bind fun x23 => some (true, x23)
noncomputable def diff3_Chunks (x1 : List Int) (x2 : List Int) (x3 : List Int) : Option ((List ApiChunk)) := (diff3_chunks_1 (fun (s : (List ApiChunk)) (a : Diff3Ends × Diff3Ends) => diff3_Chunks_r1 x1 x2 x3 s a.1 a.2) x1 x2 x3 []).bind fun (x25, x26, x27, x28) => some x28
/-- concordat/diff3.Parts -/
noncomputable def diff3_Parts_j1 (x8 : List ApiChunk) : Option ((List ApiChunk)) := some x8
noncomputable def diff3_Parts (x1 : List (List UInt8)) (x2 : List (List UInt8)) (x3 : List (List UInt8)) : Option ((List ApiChunk)) := (lcs_Numbers ([x1, x2, x3] : List (List (List UInt8)))).bind fun x4 => (idx x4 0).bind fun x5 => (idx x4 1).bind fun x6 => (idx x4 2).bind fun x7 => (diff3_Chunks x5 x6 x7).bind fun x8 => diff3_Parts_j1 x8
/-- concordat/weave.parts -/
noncomputable def weave_parts_k1 (x7 : List ApiPart) : Option ((List ApiPart)) := some x7
noncomputable def weave_parts_j3 (x6 : Int) (x38 : List ApiPart) (x12 : ApiChunk) (x23 : ApiPart) : Option ((Int × (List ApiPart)) ⊕ ((List ApiPart))) := some (.inl (w64 (x6 + 1), x38))
noncomputable def weave_parts_j4 (x6 : Int) (x7 : List ApiPart) (x31 : ApiPart) (x12 : ApiChunk) (x23 : ApiPart) (x32 : List UInt8) (x33 : List UInt8) (x34 : List UInt8) : Option ((Int × (List ApiPart)) ⊕ ((List ApiPart))) := weave_parts_j3 x6 (List.set x7 (Int.toNat (w64 ((x7.length : Int) - 1))) (ApiPart.mk x31.Clash x32 x33 x34)) x12 x23
noncomputable def weave_parts_j5 (x7 : List ApiPart) (x23 : ApiPart) (x6 : Int) (x12 : ApiChunk) (x29 : Bool) : Option ((Int × (List ApiPart)) ⊕ ((List ApiPart))) := (if x29 = true then (idx x7 (w64 ((x7.length : Int) - 1))).bind fun x31 => (cat x31.O x23.O).bind fun x32 => (cat x31.A x23.A).bind fun x33 => (cat x31.B x23.B).bind fun x34 => weave_parts_j4 x6 x7 x31 x12 x23 x32 x33 x34 else (app 56 x7 ([x23] : List ApiPart)).bind fun x35 => weave_parts_j3 x6 x35 x12 x23)
noncomputable def weave_parts_j6 (x7 : List ApiPart) (x6 : Int) (x12 : ApiChunk) (x23 : ApiPart) : Option ((Int × (List ApiPart)) ⊕ ((List ApiPart))) := (if (!x23.Clash) = true then (if (decide ((x7.length : Int) > 0)) = true then (idx x7 (w64 ((x7.length : Int) - 1))).bind fun x26 => weave_parts_j5 x7 x23 x6 x12 (!x26.Clash) else weave_parts_j5 x7 x23 x6 x12 false) else weave_parts_j5 x7 x23 x6 x12 false)
noncomputable def weave_parts_j7 (x12 : ApiChunk) (x7 : List ApiPart) (x6 : Int) (x15 : List UInt8) (x17 : List UInt8) (x19 : List UInt8) : Option ((Int × (List ApiPart)) ⊕ ((List ApiPart))) := (if (x12.Kind == 4) = true then weave_parts_j6 x7 x6 x12 (ApiPart.mk (x12.Kind == 4) x15 x17 x19) else (if (x12.Kind == 2) = true then weave_parts_j6 x7 x6 x12 ({ (ApiPart.mk (x12.Kind == 4) x15 x17 x19) with A := (ApiPart.mk (x12.Kind == 4) x15 x17 x19).B }) else weave_parts_j6 x7 x6 x12 ({ (ApiPart.mk (x12.Kind == 4) x15 x17 x19) with B := (ApiPart.mk (x12.Kind == 4) x15 x17 x19).A })))
noncomputable def weave_parts_l2 (x4 : List ApiChunk) (x1 : List (List UInt8)) (x2 : List (List UInt8)) (x3 : List (List UInt8)) (x6 : Int) (x7 : List ApiPart) : Option ((Int × (List ApiPart)) ⊕ ((List ApiPart))) := (if (decide (x6 < (x4.length : Int))) = true then (idx x4 x6).bind fun x12 => (subL x1 x12.O.From x12.O.To).bind fun x14 => (strings_Join x14 []).bind fun x15 => (subL x2 x12.A.From x12.A.To).bind fun x16 => (strings_Join x16 []).bind fun x17 => (subL x3 x12.B.From x12.B.To).bind fun x18 => (strings_Join x18 []).bind fun x19 => weave_parts_j7 x12 x7 x6 x15 x17 x19 else some (.inr x7))
noncomputable def weave_parts (x1 : List (List UInt8)) (x2 : List (List UInt8)) (x3 : List (List UInt8)) : Option ((List ApiPart)) := (diff3_Parts x1 x2 x3).bind fun x4 => (iter (fun s => weave_parts_l2 x4 x1 x2 x3 s.1 s.2) (0, [])).bind fun p => weave_parts_k1 p
/-- concordat/weave.apart -/
noncomputable def weave_apart_k1 (x6 : List (List (List UInt8))) : Option ((List ApiPart) × Bool) := (arrIx 3 0).bind fun x15 => (arrIx 3 1).bind fun x16 => (arrIx 3 2).bind fun x17 => (weave_parts (List.getD x6 x15 []) (List.getD x6 x16 []) (List.getD x6 x17 [])).bind fun x18 => some (x18, true)
noncomputable def weave_apart_l2 (x1 : (Unit → Option ((List (List UInt8)) × Bool))) (x2 : (Unit → Option ((List (List UInt8)) × Bool))) (x3 : (Unit → Option ((List (List UInt8)) × Bool))) (x5 : Int) (x6 : List (List (List UInt8))) : Option ((Int × (List (List (List UInt8)))) ⊕ (Flow (List (List (List UInt8))) ((List ApiPart) × Bool))) := (if (decide (x5 < (([x1, x2, x3] : List (Unit → Option ((List (List UInt8)) × Bool))).length : Int))) = true then (idx ([x1, x2, x3] : List (Unit → Option ((List (List UInt8)) × Bool))) x5).bind fun x10 => (x10 ()).bind fun (x11, x12) => (if (!x12) = true then some (.inr (.done ([], false))) else (arrIx 3 x5).bind fun x14 => some (.inl (w64 (x5 + 1), (List.set x6 x14 x11)))) else some (.inr (.next x6)))
noncomputable def weave_apart (x1 : (Unit → Option ((List (List UInt8)) × Bool))) (x2 : (Unit → Option ((List (List UInt8)) × Bool))) (x3 : (Unit → Option ((List (List UInt8)) × Bool))) : Option ((List ApiPart) × Bool) := (iter (fun s => weave_apart_l2 x1 x2 x3 s.1 s.2) (0, (List.replicate 3 []))).bind fun z => match z with | .next p => weave_apart_k1 p | .done r => some r
/-- (concordat/weave.source).units -/
noncomputable def weave_source_units_k1 (x8 : List (List UInt8)) : Option ((List (List UInt8)) × Bool) := some (x8, true)
noncomputable def weave_source_units_l2 (x2 : List ApiToken) (x7 : Int) (x8 : List (List UInt8)) : Option ((Int × (List (List UInt8))) ⊕ ((List (List UInt8)))) := (if (decide (x7 < (x2.length : Int))) = true then (idx x2 x7).bind fun x13 => (cat x13.Lead x13.Text).bind fun x15 => (app 16 x8 ([x15] : List (List UInt8))).bind fun x16 => some (.inl (w64 (x7 + 1), x16)) else some (.inr x8))
noncomputable def weave_source_units (x1 : List UInt8) : Option ((List (List UInt8)) × Bool) := (lex_Lex x1).bind fun (x2, x3, x4) => (if (x4 != 0) = true then some ([], false) else (iter (fun s => weave_source_units_l2 x2 s.1 s.2) (0, [])).bind fun p => weave_source_units_k1 p)
/-- concordat/weave.Tokens -/
noncomputable def weave_Tokens (x1 : List UInt8) (x2 : List UInt8) (x3 : List UInt8) : Option ((List ApiPart) × Bool) := (weave_apart (fun _ => weave_source_units x1) (fun _ => weave_source_units x2) (fun _ => weave_source_units x3)).bind fun (x4, x5) => some (x4, x5)
/-- concordat/weave.Side -/
noncomputable def weave_Side_k1 (x9 : List UInt8) : Option ((List UInt8)) := some x9
noncomputable def weave_Side_l2 (x1 : List ApiPart) (x2 : Int) (x7 : Int) (x9 : List UInt8) : Option ((Int × (List UInt8)) ⊕ ((List UInt8))) := (if (decide (x7 < (x1.length : Int))) = true then (idx x1 x7).bind fun x14 => (idx ([x14.O, x14.A, x14.B] : List (List UInt8)) x2).bind fun x16 => (bcat x9 x16).bind fun x17 => some (.inl (w64 (x7 + 1), x17)) else some (.inr x9))
noncomputable def weave_Side_j3 (x1 : List ApiPart) (x2 : Int) (x4 : Bool) : Option ((List UInt8)) := (if x4 = true then some [] else (iter (fun s => weave_Side_l2 x1 x2 s.1 s.2) (0, [])).bind fun p => weave_Side_k1 p)
noncomputable def weave_Side (x1 : List ApiPart) (x2 : Int) : Option ((List UInt8)) := (if (decide (x2 < 0)) = true then weave_Side_j3 x1 x2 true else weave_Side_j3 x1 x2 (decide (x2 > 2)))
/-- concordat/weave.Join -/
noncomputable def weave_Join_k1 (x1 : List ApiPart) : Option ((List UInt8) × Bool) := (weave_Side x1 1).bind fun x8 => some (x8, true)
noncomputable def weave_Join_l2 (x1 : List ApiPart) (x2 : Int) : Option ((Int) ⊕ (Flow Unit ((List UInt8) × Bool))) := (if (decide (x2 < (x1.length : Int))) = true then (idx x1 x2).bind fun x5 => (if x5.Clash = true then some (.inr (.done ([], false))) else some (.inl (w64 (x2 + 1)))) else some (.inr (.next ())))
noncomputable def weave_Join (x1 : List ApiPart) : Option ((List UInt8) × Bool) := (iter (fun s => weave_Join_l2 x1 s) 0).bind fun z => match z with | .next p => weave_Join_k1 x1 | .done r => some r
/-- concordat/lines.all$1 -/
noncomputable def lines_all_1_k1 {σ : Type} (yld : σ → (Int × (List UInt8)) → Option (Bool × σ)) (x2 : List UInt8) (x6 : σ) : Option ((List UInt8) × (σ)) := some (x2, x6)
noncomputable def lines_all_1_j3 {σ : Type} (yld : σ → (Int × (List UInt8)) → Option (Bool × σ)) (x2 : List UInt8) (x5 : Int) (x6 : σ) (x15 : Int) : Option ((Int × (σ)) ⊕ (Flow (σ) ((List UInt8) × (σ)))) := (sub x2 x5 (w64 (x5 + x15))).bind fun x16 => (yld x6 (x5, x16)).bind fun (x17, x18) => (if (!x17) = true then some (.inr (.done (x2, x18))) else some (.inl (w64 (x5 + x15), x18)))
noncomputable def lines_all_1_l2 {σ : Type} (yld : σ → (Int × (List UInt8)) → Option (Bool × σ)) (x2 : List UInt8) (x5 : Int) (x6 : σ) : Option ((Int × (σ)) ⊕ (Flow (σ) ((List UInt8) × (σ)))) := (if (decide (x5 < (x2.length : Int))) = true then (sub x2 x5 (x2.length : Int)).bind fun x12 => (strings_IndexByte x12 10).bind fun x13 => (if ((w64 (x13 + 1)) == 0) = true then lines_all_1_j3 yld x2 x5 x6 (w64 ((x2.length : Int) - x5)) else lines_all_1_j3 yld x2 x5 x6 (w64 (x13 + 1))) else some (.inr (.next x6)))
noncomputable def lines_all_1 {σ : Type} (yld : σ → (Int × (List UInt8)) → Option (Bool × σ)) (x2 : List UInt8) (x3 : σ) : Option ((List UInt8) × (σ)) := (iter (fun s => lines_all_1_l2 yld x2 s.1 s.2) (0, x3)).bind fun z => match z with | .next p => lines_all_1_k1 yld x2 p | .done r => some r
/-- concordat/lines.Split -/
noncomputable def lines_Split_r1 (x7 : List (List UInt8)) (x4 : Int) (x5 : List UInt8) : Option (Bool × ((List (List UInt8)))) := (app 16 x7 ([x5] : List (List UInt8))).bind fun x10 => some (true, x10)
noncomputable def lines_Split (x1 : List UInt8) : Option ((List (List UInt8))) := (lines_all_1 (fun (s : (List (List UInt8))) (a : Int × (List UInt8)) => lines_Split_r1 s a.1 a.2) x1 []).bind fun (x12, x13) => some x13
/-- (concordat/weave.source).lines -/
noncomputable def weave_source_lines (x1 : List UInt8) : Option ((List (List UInt8)) × Bool) := (lines_Split x1).bind fun x2 => some (x2, true)
/-- concordat/weave.Lines -/
noncomputable def weave_Lines (x1 : List UInt8) (x2 : List UInt8) (x3 : List UInt8) : Option ((List ApiPart)) := (weave_apart (fun _ => weave_source_lines x1) (fun _ => weave_source_lines x2) (fun _ => weave_source_lines x3)).bind fun (x4, x5) => some x4
/-- concordat/weave.Text -/
noncomputable def weave_Text_j1 (x1 : List UInt8) (x2 : List UInt8) (x3 : List UInt8) : Option ((List UInt8) × Bool) := (weave_Lines x1 x2 x3).bind fun x14 => (weave_Join x14).bind fun (x15, x16) => some (x15, x16)
noncomputable def weave_Text_j2 (x2 : List UInt8) (x1 : List UInt8) (x3 : List UInt8) (x6 : Bool) : Option ((List UInt8) × Bool) := (if x6 = true then some (x2, true) else (weave_Tokens x1 x2 x3).bind fun (x8, x9) => (if x9 = true then (weave_Join x8).bind fun (x11, x12) => (if x12 = true then some (x11, true) else weave_Text_j1 x1 x2 x3) else weave_Text_j1 x1 x2 x3))
noncomputable def weave_Text (x1 : List UInt8) (x2 : List UInt8) (x3 : List UInt8) : Option ((List UInt8) × Bool) := (if (x2 == x1) = true then some (x3, true) else (if (x3 == x1) = true then weave_Text_j2 x2 x1 x3 (x3 == x1) else weave_Text_j2 x2 x1 x3 (x2 == x3)))
/-- concordat/cells.three -/
noncomputable def cells_three_j1 (x1 : List (List UInt8)) (x2 : List (List UInt8)) (x3 : List (List UInt8)) (x14 : Bool) : Option ((List (List UInt8)) × Int) := (if x14 = true then some ((List.replicate 2 []), 3) else (arrIx 2 1).bind fun x16 => (arrIx 2 1).bind fun x17 => (arrIx 2 1).bind fun x18 => (weave_Text (List.getD x1 x16 []) (List.getD x2 x17 []) (List.getD x3 x18 [])).bind fun (x19, x20) => (if (!x20) = true then some ((List.replicate 2 []), 1) else (cells_of x19 true).bind fun x22 => some (x22, 0)))
noncomputable def cells_three (x1 : List (List UInt8)) (x2 : List (List UInt8)) (x3 : List (List UInt8)) : Option ((List (List UInt8)) × Int) := (if (decide (x2 = x3)) = true then some (x2, 0) else (if (decide (x2 = x1)) = true then some (x3, 0) else (if (decide (x3 = x1)) = true then some (x2, 0) else (cells_cell_there x2).bind fun x11 => (if (!x11) = true then cells_three_j1 x1 x2 x3 (!x11) else (cells_cell_there x3).bind fun x13 => cells_three_j1 x1 x2 x3 (!x13)))))
/-- concordat/cells.Texts -/
noncomputable def cells_Texts_k1 (x11 : List ApiSegment) (x12 : List ApiConflict) : Option ((List ApiSegment) × (List ApiConflict)) := some (x11, x12)
noncomputable def cells_Texts_j3 (x10 : Int) (x34 : List ApiSegment) (x27 : List ApiConflict) (x20 : List (List UInt8)) : Option ((Int × (List ApiSegment) × (List ApiConflict)) ⊕ ((List ApiSegment) × (List ApiConflict))) := some (.inl (w64 (x10 + 1), x34, x27))
noncomputable def cells_Texts_j4 (x20 : List (List UInt8)) (x11 : List ApiSegment) (x19 : List UInt8) (x10 : Int) (x27 : List ApiConflict) : Option ((Int × (List ApiSegment) × (List ApiConflict)) ⊕ ((List ApiSegment) × (List ApiConflict))) := (cells_cell_there x20).bind fun x28 => (if x28 = true then (arrIx 2 1).bind fun x30 => (app 32 x11 ([(ApiSegment.mk x19 (List.getD x20 x30 []))] : List ApiSegment)).bind fun x31 => cells_Texts_j3 x10 x31 x27 x20 else cells_Texts_j3 x10 x11 x27 x20)
noncomputable def cells_Texts_l2 (x7 : List (List UInt8)) (x4 : SMap (List (List UInt8))) (x5 : SMap (List (List UInt8))) (x6 : SMap (List (List UInt8))) (x10 : Int) (x11 : List ApiSegment) (x12 : List ApiConflict) : Option ((Int × (List ApiSegment) × (List ApiConflict)) ⊕ ((List ApiSegment) × (List ApiConflict))) := (if (decide (x10 < (x7.length : Int))) = true then (idx x7 x10).bind fun x19 => (cells_three (mget x19 (List.replicate 2 []) x4) (mget x19 (List.replicate 2 []) x5) (mget x19 (List.replicate 2 []) x6)).bind fun (x20, x21) => (if (x21 != 0) = true then (app 24 x12 ([(ApiConflict.mk x21 x19)] : List ApiConflict)).bind fun x24 => cells_Texts_j4 x20 x11 x19 x10 x24 else cells_Texts_j4 x20 x11 x19 x10 x12) else some (.inr (x11, x12)))
noncomputable def cells_Texts (x1 : List ApiSegment) (x2 : List ApiSegment) (x3 : List ApiSegment) : Option ((List ApiSegment) × (List ApiConflict)) := (cells_table x1).bind fun x4 => (cells_table x2).bind fun x5 => (cells_table x3).bind fun x6 => (cells_keys ([x2, x1, x3] : List (List ApiSegment))).bind fun x7 => (iter (fun s => cells_Texts_l2 x7 x4 x5 x6 s.1 s.2.1 s.2.2) (0, [], [])).bind fun p => cells_Texts_k1 p.1 p.2
/-- concordat/cells.woven -/
noncomputable def cells_woven_k1 (x7 : List (List UInt8)) : Option ((List (List UInt8)) × Bool) := some (x7, true)
noncomputable def cells_woven_j3 (x6 : Int) (x32 : List (List UInt8)) (x12 : ApiChunk) : Option ((Int × (List (List UInt8))) ⊕ (Flow (List (List UInt8)) ((List (List UInt8)) × Bool))) := some (.inl (w64 (x6 + 1), x32))
noncomputable def cells_woven_j4 (x12 : ApiChunk) (x7 : List (List UInt8)) (x6 : Int) (x15 : List (List UInt8)) (x14 : List (List UInt8)) : Option ((Int × (List (List UInt8))) ⊕ (Flow (List (List UInt8)) ((List (List UInt8)) × Bool))) := (if (x12.Kind == 2) = true then (app 16 x7 x15).bind fun x18 => cells_woven_j3 x6 x18 x12 else (if (x12.Kind == 4) = true then (if (decide (x12.O.From < x12.O.To)) = true then some (.inr (.done ([], false))) else (app 16 x7 x14).bind fun x22 => (slices_Clone x15).bind fun x24 => (slices_DeleteFunc_string_string (fun a0 => cells_woven_1 a0 x14) x24).bind fun x26 => (app 16 x22 x26).bind fun x27 => cells_woven_j3 x6 x27 x12) else (app 16 x7 x14).bind fun x29 => cells_woven_j3 x6 x29 x12))
noncomputable def cells_woven_l2 (x4 : List ApiChunk) (x2 : List (List UInt8)) (x3 : List (List UInt8)) (x6 : Int) (x7 : List (List UInt8)) : Option ((Int × (List (List UInt8))) ⊕ (Flow (List (List UInt8)) ((List (List UInt8)) × Bool))) := (if (decide (x6 < (x4.length : Int))) = true then (idx x4 x6).bind fun x12 => (subL x2 x12.A.From x12.A.To).bind fun x14 => (subL x3 x12.B.From x12.B.To).bind fun x15 => cells_woven_j4 x12 x7 x6 x15 x14 else some (.inr (.next x7)))
noncomputable def cells_woven (x1 : List (List UInt8)) (x2 : List (List UInt8)) (x3 : List (List UInt8)) : Option ((List (List UInt8)) × Bool) := (diff3_Parts x1 x2 x3).bind fun x4 => (iter (fun s => cells_woven_l2 x4 x2 x3 s.1 s.2) (0, [])).bind fun z => match z with | .next p => cells_woven_k1 p | .done r => some r
/-- concordat/cells.Order -/
noncomputable def cells_Order_j1 (x17 : List (List UInt8)) (x21 : Bool) : Option ((List (List UInt8)) × Bool) := (if x21 = true then some ([], false) else some (x17, true))
noncomputable def cells_Order_j2 (x17 : List (List UInt8)) (x18 : Bool) : Option ((List (List UInt8)) × Bool) := (if (!x18) = true then cells_Order_j1 x17 true else (cells_once x17).bind fun x20 => cells_Order_j1 x17 ((x20.length : Int) != (x17.length : Int)))
noncomputable def cells_Order_j3 (x7 : List (List UInt8)) (x8 : List (List UInt8)) (x9 : List (List UInt8)) : Option ((List (List UInt8)) × Bool) := (slices_Equal_string_string x9 x7).bind fun x10 => (if x10 = true then some (x8, true) else (slices_Equal_string_string x8 x7).bind fun x12 => (if x12 = true then some (x9, true) else (cells_Order_1 x7 x7 x8 x9).bind fun x14 => (cells_Order_1 x8 x7 x8 x9).bind fun x15 => (cells_Order_1 x9 x7 x8 x9).bind fun x16 => (cells_woven x14 x15 x16).bind fun (x17, x18) => cells_Order_j2 x17 x18))
noncomputable def cells_Order (x1 : List (List UInt8)) (x2 : List (List UInt8)) (x3 : List (List UInt8)) : Option ((List (List UInt8)) × Bool) := (cells_once x1).bind fun x7 => (cells_once x2).bind fun x8 => (cells_once x3).bind fun x9 => cells_Order_j3 x7 x8 x9
/-- slices.Concat[[]string,string] -/
noncomputable def slices_Concat_string_string_k1 (x13 : List (List UInt8)) : Option ((List (List UInt8))) := some x13
noncomputable def slices_Concat_string_string_l2 (x1 : List (List (List UInt8))) (x12 : Int) (x13 : List (List UInt8)) : Option ((Int × (List (List UInt8))) ⊕ ((List (List UInt8)))) := (if (decide (x12 < (x1.length : Int))) = true then (idx x1 x12).bind fun x18 => (app 16 x13 x18).bind fun x19 => some (.inl (w64 (x12 + 1), x19)) else some (.inr x13))
noncomputable def slices_Concat_string_string_k3 (x1 : List (List (List UInt8))) (x2 : Int) : Option ((List (List UInt8))) := (slices_Grow x2).bind fun x9 => (iter (fun s => slices_Concat_string_string_l2 x1 s.1 s.2) (0, x9)).bind fun p => slices_Concat_string_string_k1 p
noncomputable def slices_Concat_string_string_j5 (x2 : Int) (x3 : Int) (x7 : List (List UInt8)) : Option ((Int × Int) ⊕ (Int)) := some (.inl (w64 (x2 + (x7.length : Int)), w64 (x3 + 1)))
noncomputable def slices_Concat_string_string_l4 (x1 : List (List (List UInt8))) (x2 : Int) (x3 : Int) : Option ((Int × Int) ⊕ (Int)) := (if (decide (x3 < (x1.length : Int))) = true then (idx x1 x3).bind fun x7 => (if (decide ((w64 (x2 + (x7.length : Int))) < 0)) = true then none else slices_Concat_string_string_j5 x2 x3 x7) else some (.inr x2))
noncomputable def slices_Concat_string_string (x1 : List (List (List UInt8))) : Option ((List (List UInt8))) := (iter (fun s => slices_Concat_string_string_l4 x1 s.1 s.2) (0, 0)).bind fun p => slices_Concat_string_string_k3 x1 p
/-- concordat/cells.Row -/
noncomputable def cells_Row_k1 (x5 : List ApiConflict) (x21 : List ApiSegment) : Option ((List ApiSegment) × (List ApiConflict)) := some (x21, x5)
noncomputable def cells_Row_j3 (x20 : Int) (x34 : List ApiSegment) (x26 : List UInt8) : Option ((Int × (List ApiSegment)) ⊕ ((List ApiSegment))) := some (.inl (w64 (x20 + 1), x34))
noncomputable def cells_Row_l2 (x18 : List (List UInt8)) (x15 : SMap (List (List UInt8))) (x20 : Int) (x21 : List ApiSegment) : Option ((Int × (List ApiSegment)) ⊕ ((List ApiSegment))) := (if (decide (x20 < (x18.length : Int))) = true then (idx x18 x20).bind fun x26 => (cells_cell_there (mget x26 (List.replicate 2 []) x15)).bind fun x28 => (if x28 = true then (arrIx 2 1).bind fun x30 => (app 32 x21 ([(ApiSegment.mk x26 (List.getD (mget x26 (List.replicate 2 []) x15) x30 []))] : List ApiSegment)).bind fun x31 => cells_Row_j3 x20 x31 x26 else cells_Row_j3 x20 x21 x26) else some (.inr x21))
noncomputable def cells_Row (x1 : List ApiSegment) (x2 : List ApiSegment) (x3 : List ApiSegment) : Option ((List ApiSegment) × (List ApiConflict)) := (cells_Texts x1 x2 x3).bind fun (x4, x5) => (cells_keys ([x1] : List (List ApiSegment))).bind fun x7 => (cells_keys ([x2] : List (List ApiSegment))).bind fun x8 => (cells_keys ([x3] : List (List ApiSegment))).bind fun x9 => (cells_Order x7 x8 x9).bind fun (x10, x11) => (if (!x11) = true then (app 24 x5 ([(ApiConflict.mk 2 [])] : List ApiConflict)).bind fun x13 => some (x4, x13) else (cells_table x4).bind fun x15 => (cells_keys ([x4] : List (List ApiSegment))).bind fun x16 => (slices_Concat_string_string ([x10, x16] : List (List (List UInt8)))).bind fun x17 => (cells_once x17).bind fun x18 => (iter (fun s => cells_Row_l2 x18 x15 s.1 s.2) (0, [])).bind fun p => cells_Row_k1 x5 p)
/-- concordat/cells.Three -/
noncomputable def cells_Three_j1 (x15 : List (List UInt8)) (x16 : Int) (x18 : Nat) (x19 : Bool) : Option ((List UInt8) × Bool × Int) := some ((List.getD x15 x18 []), x19, x16)
noncomputable def cells_Three_j2 (x16 : Int) (x15 : List (List UInt8)) : Option ((List UInt8) × Bool × Int) := (arrIx 2 1).bind fun x18 => (cells_cell_there x15).bind fun x19 => cells_Three_j1 x15 x16 x18 x19
noncomputable def cells_Three (x1 : ApiSegment) (x2 : ApiSegment) (x3 : ApiSegment) (x4 : List Bool) : Option ((List UInt8) × Bool × Int) := (arrIx 3 0).bind fun x9 => (cells_of x1.Text (List.getD x4 x9 false)).bind fun x10 => (arrIx 3 1).bind fun x11 => (cells_of x2.Text (List.getD x4 x11 false)).bind fun x12 => (arrIx 3 2).bind fun x13 => (cells_of x3.Text (List.getD x4 x13 false)).bind fun x14 => (cells_three x10 x12 x14).bind fun (x15, x16) => cells_Three_j2 x16 x15
/-- concordat/concordatref01.Same -/
noncomputable def ref01_Same_k1 : Option (Bool) := some true
noncomputable def ref01_Same_j3 (x4 : Int) (x7 : List UInt8) (x8 : List UInt8) : Option ((Int) ⊕ (Flow Unit Bool)) := (if (!(x7 == x8)) = true then some (.inr (.done false)) else some (.inl (w64 (x4 + 1))))
noncomputable def ref01_Same_l2 (x1 : List (List UInt8)) (x2 : List (List UInt8)) (x4 : Int) : Option ((Int) ⊕ (Flow Unit Bool)) := (if (decide (x4 < (x1.length : Int))) = true then (idx x1 x4).bind fun x7 => (idx x2 x4).bind fun x8 => ref01_Same_j3 x4 x7 x8 else some (.inr (.next ())))
noncomputable def ref01_Same (x1 : List (List UInt8)) (x2 : List (List UInt8)) : Option (Bool) := (if ((x1.length : Int) != (x2.length : Int)) = true then some false else (iter (fun s => ref01_Same_l2 x1 x2 s) 0).bind fun z => match z with | .next p => ref01_Same_k1 | .done r => some r)
/-- concordat/concordatlaw30.row -/
noncomputable def law30_row_k1 (x4 : List ApiSegment) : Option ((List ApiSegment)) := some x4
noncomputable def law30_row_l2 (x1 : List (List UInt8)) (x3 : Int) (x4 : List ApiSegment) : Option ((Int × (List ApiSegment)) ⊕ ((List ApiSegment))) := (if (decide (x3 < (x1.length : Int))) = true then (idx x1 x3).bind fun x9 => (idx x1 x3).bind fun x10 => (cat x10 ([10] : List UInt8)).bind fun x11 => (app 32 x4 ([(ApiSegment.mk x9 x11)] : List ApiSegment)).bind fun x12 => some (.inl (w64 (x3 + 1), x12)) else some (.inr x4))
noncomputable def law30_row (x1 : List (List UInt8)) : Option ((List ApiSegment)) := (iter (fun s => law30_row_l2 x1 s.1 s.2) (0, [])).bind fun p => law30_row_k1 p
/-- concordat/concordatlaw30.awake -/
noncomputable def law30_awake_j1 (x532 : Bool) : Option (Bool) := some x532
noncomputable def law30_awake : Option (Bool) := (cells_Order ([([102] : List UInt8), ([103] : List UInt8)] : List (List UInt8)) ([([102] : List UInt8), ([104] : List UInt8), ([103] : List UInt8)] : List (List UInt8)) ([([103] : List UInt8)] : List (List UInt8))).bind fun (x1, x2) => (law30_row ([([102] : List UInt8), ([103] : List UInt8)] : List (List UInt8))).bind fun x3 => (law30_row ([([102] : List UInt8), ([104] : List UInt8), ([103] : List UInt8)] : List (List UInt8))).bind fun x4 => (law30_row ([([103] : List UInt8)] : List (List UInt8))).bind fun x5 => (cells_Row x3 x4 x5).bind fun (x6, x7) => (law30_row ([([102] : List UInt8)] : List (List UInt8))).bind fun x8 => (law30_row ([([102] : List UInt8)] : List (List UInt8))).bind fun x9 => (cells_Texts x8 x9 []).bind fun (x10, x11) => (cells_Three (ApiSegment.mk [] ([97] : List UInt8)) (ApiSegment.mk [] ([97] : List UInt8)) (ApiSegment.mk [] ([98] : List UInt8)) ([true, true, true] : List Bool)).bind fun (x13, x14, x15) => (if x2 = true then (ref01_Same x1 ([([104] : List UInt8), ([103] : List UInt8)] : List (List UInt8))).bind fun x17 => (if x17 = true then (if ((x6.length : Int) == 2) = true then (idx x6 0).bind fun x20 => (if (x20.Key == ([104] : List UInt8)) = true then (if ((x7.length : Int) == 0) = true then (if ((x10.length : Int) == 0) = true then (if ((x11.length : Int) == 0) = true then (if (x13 == ([98] : List UInt8)) = true then (if x14 = true then law30_awake_j1 (x15 == 0) else law30_awake_j1 false) else law30_awake_j1 false) else law30_awake_j1 false) else law30_awake_j1 false) else law30_awake_j1 false) else law30_awake_j1 false) else law30_awake_j1 false) else law30_awake_j1 false) else law30_awake_j1 false)
/-- concordat/concordatlaw30.few -/
noncomputable def law30_few_k1 : Option (Bool) := some true
noncomputable def law30_few_j3 (x3 : Int) (x9 : Bool) : Option ((Int) ⊕ (Flow Unit Bool)) := (if x9 = true then some (.inr (.done false)) else some (.inl (w64 (x3 + 1))))
noncomputable def law30_few_l2 (x1 : List ApiSegment) (x3 : Int) : Option ((Int) ⊕ (Flow Unit Bool)) := (if (decide (x3 < (x1.length : Int))) = true then (idx x1 x3).bind fun x6 => (if (decide ((x6.Text.length : Int) > 120)) = true then law30_few_j3 x3 true else (idx x1 x3).bind fun x8 => law30_few_j3 x3 (decide ((x8.Key.length : Int) > 60))) else some (.inr (.next ())))
noncomputable def law30_few (x1 : List ApiSegment) : Option (Bool) := (if (decide ((x1.length : Int) > 20)) = true then some false else (iter (fun s => law30_few_l2 x1 s) 0).bind fun z => match z with | .next p => law30_few_k1 | .done r => some r)
/-- concordat/concordatref28.Get -/
noncomputable def ref28_Get_k1 : Option ((List UInt8) × Bool) := some ([], false)
noncomputable def ref28_Get_l2 (x1 : List ApiSegment) (x2 : List UInt8) (x3 : Int) : Option ((Int) ⊕ (Flow Unit ((List UInt8) × Bool))) := (if (decide (x3 < (x1.length : Int))) = true then (idx x1 x3).bind fun x6 => (if (x6.Key == x2) = true then (idx x1 x3).bind fun x8 => some (.inr (.done (x8.Text, true))) else some (.inl (w64 (x3 + 1)))) else some (.inr (.next ())))
noncomputable def ref28_Get (x1 : List ApiSegment) (x2 : List UInt8) : Option ((List UInt8) × Bool) := (iter (fun s => ref28_Get_l2 x1 x2 s) 0).bind fun z => match z with | .next p => ref28_Get_k1 | .done r => some r
/-- concordat/concordatref28.Same -/
noncomputable def ref28_Same_k1 : Option (Bool) := some true
noncomputable def ref28_Same_j3 (x4 : Int) (x7 : ApiSegment) (x8 : ApiSegment) : Option ((Int) ⊕ (Flow Unit Bool)) := (if (!decide (x7 = x8)) = true then some (.inr (.done false)) else some (.inl (w64 (x4 + 1))))
noncomputable def ref28_Same_l2 (x1 : List ApiSegment) (x2 : List ApiSegment) (x4 : Int) : Option ((Int) ⊕ (Flow Unit Bool)) := (if (decide (x4 < (x1.length : Int))) = true then (idx x1 x4).bind fun x7 => (idx x2 x4).bind fun x8 => ref28_Same_j3 x4 x7 x8 else some (.inr (.next ())))
noncomputable def ref28_Same (x1 : List ApiSegment) (x2 : List ApiSegment) : Option (Bool) := (if ((x1.length : Int) != (x2.length : Int)) = true then some false else (iter (fun s => ref28_Same_l2 x1 x2 s) 0).bind fun z => match z with | .next p => ref28_Same_k1 | .done r => some r)
/-- concordat/concordatref30.Once -/
noncomputable def ref30_Once_k1 (x4 : List ApiSegment) : Option ((List ApiSegment)) := some x4
noncomputable def ref30_Once_j3 (x3 : Int) (x17 : List ApiSegment) : Option ((Int × (List ApiSegment)) ⊕ ((List ApiSegment))) := some (.inl (w64 (x3 + 1), x17))
noncomputable def ref30_Once_l2 (x1 : List ApiSegment) (x3 : Int) (x4 : List ApiSegment) : Option ((Int × (List ApiSegment)) ⊕ ((List ApiSegment))) := (if (decide (x3 < (x1.length : Int))) = true then (idx x1 x3).bind fun x9 => (ref28_Get x4 x9.Key).bind fun (x10, x11) => (if (!x11) = true then (idx x1 x3).bind fun x13 => (app 32 x4 ([x13] : List ApiSegment)).bind fun x14 => ref30_Once_j3 x3 x14 else ref30_Once_j3 x3 x4) else some (.inr x4))
noncomputable def ref30_Once (x1 : List ApiSegment) : Option ((List ApiSegment)) := (iter (fun s => ref30_Once_l2 x1 s.1 s.2) (0, [])).bind fun p => ref30_Once_k1 p
/-- concordat/concordatlaw30.CellsOne -/
noncomputable def law30_CellsOne_k1 (x15 : List ApiSegment) (x10 : List ApiSegment) : Option (Bool) := some ((x15.length : Int) == (x10.length : Int))
noncomputable def law30_CellsOne_l2 (x16 : List ApiConflict) (x25 : Int) : Option ((Int) ⊕ (Flow Unit Bool)) := (if (decide (x25 < (x16.length : Int))) = true then (idx x16 x25).bind fun x28 => (if (x28.Kind != 2) = true then some (.inr (.done false)) else some (.inl (w64 (x25 + 1)))) else some (.inr (.next ())))
noncomputable def law30_CellsOne_j3 (x16 : List ApiConflict) (x15 : List ApiSegment) (x10 : List ApiSegment) (x23 : Bool) : Option (Bool) := (if x23 = true then some false else (iter (fun s => law30_CellsOne_l2 x16 s) 0).bind fun z => match z with | .next p => law30_CellsOne_k1 x15 x10 | .done r => some r)
noncomputable def law30_CellsOne_j4 (x2 : List ApiSegment) (x1 : List ApiSegment) (x8 : Bool) : Option (Bool) := (if x8 = true then some true else (ref30_Once x2).bind fun x10 => (cells_Row x1 x1 x2).bind fun (x11, x12) => (cells_Row x1 x2 x1).bind fun (x13, x14) => (cells_Row x1 x2 x2).bind fun (x15, x16) => (if ((w64 ((x12.length : Int) + (x14.length : Int))) != 0) = true then law30_CellsOne_j3 x16 x15 x10 true else (ref28_Same x11 x10).bind fun x18 => (if (!x18) = true then law30_CellsOne_j3 x16 x15 x10 true else (ref28_Same x13 x10).bind fun x20 => law30_CellsOne_j3 x16 x15 x10 (!x20))))
noncomputable def law30_CellsOne (x1 : List ApiSegment) (x2 : List ApiSegment) : Option (Bool) := (law30_awake ).bind fun x3 => (if (!x3) = true then some false else (law30_few x1).bind fun x5 => (law30_few x2).bind fun x6 => (if (!x5) = true then law30_CellsOne_j4 x2 x1 true else law30_CellsOne_j4 x2 x1 (!x6)))
/-- concordat/concordatlaw30.CellsKept -/
noncomputable def law30_CellsKept_k1 : Option (Bool) := some true
noncomputable def law30_CellsKept_j3 (x34 : Int) : Option ((Int) ⊕ (Flow Unit Bool)) := some (.inl (w64 (x34 + 1)))
noncomputable def law30_CellsKept_j4 (x34 : Int) (x59 : Bool) : Option ((Int) ⊕ (Flow Unit Bool)) := (if x59 = true then some (.inr (.done false)) else law30_CellsKept_j3 x34)
noncomputable def law30_CellsKept_j5 (x34 : Int) (x1 : List ApiSegment) (x14 : List ApiSegment) (x38 : List UInt8) (x53 : Bool) : Option ((Int) ⊕ (Flow Unit Bool)) := (if x53 = true then law30_CellsKept_j3 x34 else (idx x1 x34).bind fun x55 => (ref28_Get x14 x55.Key).bind fun (x56, x57) => (if (!x57) = true then law30_CellsKept_j4 x34 true else law30_CellsKept_j4 x34 (!(x56 == x38))))
noncomputable def law30_CellsKept_l2 (x1 : List ApiSegment) (x2 : List ApiSegment) (x3 : List ApiSegment) (x14 : List ApiSegment) (x34 : Int) : Option ((Int) ⊕ (Flow Unit Bool)) := (if (decide (x34 < (x1.length : Int))) = true then (idx x1 x34).bind fun x37 => (ref28_Get x1 x37.Key).bind fun (x38, x39) => (idx x1 x34).bind fun x40 => (ref28_Get x2 x40.Key).bind fun (x41, x42) => (idx x1 x34).bind fun x43 => (ref28_Get x3 x43.Key).bind fun (x44, x45) => (if (!x42) = true then law30_CellsKept_j5 x34 x1 x14 x38 true else (if (!x45) = true then law30_CellsKept_j5 x34 x1 x14 x38 true else (if (!(x41 == x38)) = true then law30_CellsKept_j5 x34 x1 x14 x38 true else law30_CellsKept_j5 x34 x1 x14 x38 (!(x44 == x38))))) else some (.inr (.next ())))
noncomputable def law30_CellsKept_k6 (x1 : List ApiSegment) (x2 : List ApiSegment) (x3 : List ApiSegment) (x14 : List ApiSegment) : Option (Bool) := (iter (fun s => law30_CellsKept_l2 x1 x2 x3 x14 s) 0).bind fun z => match z with | .next p => law30_CellsKept_k1 | .done r => some r
noncomputable def law30_CellsKept_k8 (x16 : Int) : Option ((Int) ⊕ (Flow Unit Bool)) := some (.inl (w64 (x16 + 1)))
noncomputable def law30_CellsKept_j10 (x28 : Int) (x31 : ApiSegment) (x32 : ApiSegment) : Option ((Int) ⊕ (Flow Unit ((Int) ⊕ (Flow Unit Bool)))) := (if (x31.Key == x32.Key) = true then some (.inr (.done (.inr (.done false)))) else some (.inl (w64 (x28 + 1))))
noncomputable def law30_CellsKept_l9 (x16 : Int) (x14 : List ApiSegment) (x28 : Int) : Option ((Int) ⊕ (Flow Unit ((Int) ⊕ (Flow Unit Bool)))) := (if (decide (x28 < x16)) = true then (idx x14 x28).bind fun x31 => (idx x14 x16).bind fun x32 => law30_CellsKept_j10 x28 x31 x32 else some (.inr (.next ())))
noncomputable def law30_CellsKept_j11 (x16 : Int) (x14 : List ApiSegment) (x26 : Bool) : Option ((Int) ⊕ (Flow Unit Bool)) := (if x26 = true then some (.inr (.done false)) else (iter (fun s => law30_CellsKept_l9 x16 x14 s) 0).bind fun z => match z with | .next p => law30_CellsKept_k8 x16 | .done r => some r)
noncomputable def law30_CellsKept_l7 (x14 : List ApiSegment) (x2 : List ApiSegment) (x3 : List ApiSegment) (x16 : Int) : Option ((Int) ⊕ (Flow Unit Bool)) := (if (decide (x16 < (x14.length : Int))) = true then (idx x14 x16).bind fun x19 => (ref28_Get x2 x19.Key).bind fun (x20, x21) => (idx x14 x16).bind fun x22 => (ref28_Get x3 x22.Key).bind fun (x23, x24) => (if (!x21) = true then law30_CellsKept_j11 x16 x14 (!x24) else law30_CellsKept_j11 x16 x14 false) else some (.inr (.next ())))
noncomputable def law30_CellsKept_j12 (x1 : List ApiSegment) (x2 : List ApiSegment) (x3 : List ApiSegment) (x12 : Bool) : Option (Bool) := (if x12 = true then some true else (cells_Row x1 x2 x3).bind fun (x14, x15) => (iter (fun s => law30_CellsKept_l7 x14 x2 x3 s) 0).bind fun z => match z with | .next p => law30_CellsKept_k6 x1 x2 x3 x14 | .done r => some r)
noncomputable def law30_CellsKept (x1 : List ApiSegment) (x2 : List ApiSegment) (x3 : List ApiSegment) : Option (Bool) := (law30_awake ).bind fun x4 => (if (!x4) = true then some false else (law30_few x1).bind fun x6 => (law30_few x2).bind fun x7 => (law30_few x3).bind fun x8 => (if (!x6) = true then law30_CellsKept_j12 x1 x2 x3 true else (if (!x7) = true then law30_CellsKept_j12 x1 x2 x3 true else law30_CellsKept_j12 x1 x2 x3 (!x8))))
end Go.Proofs.YtphkaogfinjbjaaGreatDoor
