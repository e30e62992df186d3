/- The code comes to what these functions say (printed by wip/gen/gen.py). -/
import Derived.Test.YtgkcoicaopilhaaGreatDoorZP3
import Derived.Test.YtgkcoicaopilhaaGreatDoorZT
set_option linter.unusedSimpArgs false
set_option linter.unusedVariables false
/- The code comes to what these functions say (printed by wip/gen/gen.py). -/
set_option linter.unusedSectionVars false
set_option maxRecDepth 100000
set_option maxHeartbeats 4000000
namespace Go.Proofs.YtgkcoicaopilhaaGreatDoor
open Go Go.Cn

theorem ref12_locals_ok (x1 : List ApiToken) (x2 : Int) (x3 : Int) (r : ApiNode × Int × Ref12Wrong) (h : ref12_locals x1 x2 x3 = some r) : FnP Tryz.prog 38 [Pr.lst rApiToken x1, Pr.i64 x2, Pr.i64 x3] (Pr.tup [(rApiNode).val r.1, Pr.i64 r.2.1, (rRef12Wrong).val r.2.2]) := by
  refine fn_introR (n := 71) (rs := [.cell 6 24, .tmp 7, .cell 8 59]) Tryz.func38 rfl Tryz.ntmps38 Tryz.results38 (by decide) (fun s0 => ?_)
  unfold ref12_locals at h
  refine W_rs ?_
  refine rAlloc (R := rApiNode) (z := (ApiNode.mk 0 [] [] 0 0 0 0 0 [])) Tryz.zeroValue24 (fun _ => (by rw [rApiNode_eq]; exact ⟨_, ⟨_, _, rfl, rfl, ⟨_, _, rfl, rfl, ⟨_, _, rfl, rfl, ⟨_, _, rfl, rfl, ⟨_, _, rfl, rfl, ⟨_, _, rfl, rfl, ⟨_, _, rfl, rfl, ⟨_, _, rfl, rfl, ⟨_, _, rfl, ⟨_, rfl, none, 0, rfl, ⟨Nat.le_refl _, fun _ => rfl⟩, .inl rfl⟩, rfl⟩⟩⟩⟩⟩⟩⟩⟩⟩, rfl⟩)) (fun b4 => ?_)
  refine rq (out := Pr.i64 0) qAssign ?_
  refine rAlloc (R := rRef12Wrong) (z := (Ref12Wrong.mk 0 0)) Tryz.zeroValue59 (fun _ => ⟨_, ⟨_, _, rfl, rfl, ⟨_, _, rfl, rfl, rfl⟩⟩, rfl⟩) (fun b5 => ?_)
  refine W_seq ?_
  refine W_rs ?_
  refine rq (out := Pr.lst rApiToken x1) qMove ?_
  refine rq (out := Pr.i64 x2) qMove ?_
  obtain ⟨x6, hx6, h⟩ := bindSome h
  refine rq (out := Pr.bool x6) (qCall (ref12_is_ok x1 x2 ([118, 111, 105, 100] : List UInt8) _ hx6)) ?_
  refine W_cond (b := x6) rfl (fun hc7 => ?_) (fun hc7 => ?_)
  · replace h := iteT hc7 h
    refine W_rs ?_
    refine rq (out := (rApiNode).val (ApiNode.mk 0 [] [] 0 0 0 0 0 [])) (qBuildR rApiNode_eq st24 rfl) ?_
    refine rq (out := Pr.i64 x2) qMove ?_
    obtain ⟨x8, hx8, h⟩ := bindSome h
    refine rq (out := (rRef12Wrong).val x8) (qCall (ref12_syntax_ok x2 _ hx8)) ?_
    refine rStore (R := rApiNode) (R' := rApiNode) (a := (ApiNode.mk 0 [] [] 0 0 0 0 0 [])) (y := (ApiNode.mk 0 [] [] 0 0 0 0 0 [])) 0 Tryz.sizeOf24 (Upd.refl _) ?_
    refine rq (out := Pr.i64 0) qAssign ?_
    refine rStore (R := rRef12Wrong) (R' := rRef12Wrong) (a := (Ref12Wrong.mk 0 0)) (y := x8) 1 Tryz.sizeOf59 (Upd.refl _) ?_
    obtain rfl := Option.some.inj h
    exact W_ret ⟨rfl, [(rApiNode).val (ApiNode.mk 0 [] [] 0 0 0 0 0 []), Pr.i64 0, (rRef12Wrong).val x8], ⟨yBox 0 ty24 Pr.le_rfl, yT Pr.le_rfl, yBox 1 ty59 Pr.le_rfl, trivial⟩, Pr.le_rfl⟩
  · replace h := iteF hc7 h
    refine W_skip ?_
    refine W_seq ?_
    refine W_rs ?_
    refine rq (out := Pr.lst rApiToken x1) qMove ?_
    refine rq (out := Pr.i64 x2) qMove ?_
    refine rq (out := Pr.i64 (w64 (x2 + 1))) qInt ?_
    obtain ⟨x9, hx9, h⟩ := bindSome h
    refine rq (out := Pr.bool x9) (qCall (ref12_name_ok x1 (w64 (x2 + 1)) _ hx9)) ?_
    refine rq (out := Pr.bool (!x9)) qNot ?_
    refine W_cond (b := !x9) rfl (fun hc10 => ?_) (fun hc10 => ?_)
    · replace h := iteT hc10 h
      refine W_rs ?_
      refine rq (out := (rApiNode).val (ApiNode.mk 0 [] [] 0 0 0 0 0 [])) (qBuildR rApiNode_eq st24 rfl) ?_
      refine rq (out := Pr.i64 x2) qMove ?_
      refine rq (out := Pr.i64 (w64 (x2 + 1))) qInt ?_
      obtain ⟨x11, hx11, h⟩ := bindSome h
      refine rq (out := (rRef12Wrong).val x11) (qCall (ref12_syntax_ok (w64 (x2 + 1)) _ hx11)) ?_
      refine rStore (R := rApiNode) (R' := rApiNode) (a := (ApiNode.mk 0 [] [] 0 0 0 0 0 [])) (y := (ApiNode.mk 0 [] [] 0 0 0 0 0 [])) 0 Tryz.sizeOf24 (Upd.refl _) ?_
      refine rq (out := Pr.i64 0) qAssign ?_
      refine rStore (R := rRef12Wrong) (R' := rRef12Wrong) (a := (Ref12Wrong.mk 0 0)) (y := x11) 1 Tryz.sizeOf59 (Upd.refl _) ?_
      obtain rfl := Option.some.inj h
      exact W_ret ⟨rfl, [(rApiNode).val (ApiNode.mk 0 [] [] 0 0 0 0 0 []), Pr.i64 0, (rRef12Wrong).val x11], ⟨yBox 0 ty24 Pr.le_rfl, yT Pr.le_rfl, yBox 1 ty59 Pr.le_rfl, trivial⟩, Pr.le_rfl⟩
    · replace h := iteF hc10 h
      refine W_skip ?_
      refine W_seq ?_
      refine W_rs ?_
      refine rq (out := Pr.lst rApiToken x1) qMove ?_
      refine rq (out := Pr.i64 x2) qMove ?_
      refine rq (out := Pr.i64 (w64 (x2 + 2))) qInt ?_
      obtain ⟨x12, hx12, h⟩ := bindSome h
      refine rq (out := Pr.bool x12) (qCall (ref12_is_ok x1 (w64 (x2 + 2)) ([61] : List UInt8) _ hx12)) ?_
      refine rq (out := Pr.bool (!x12)) qNot ?_
      refine W_cond (b := !x12) rfl (fun hc13 => ?_) (fun hc13 => ?_)
      · replace h := iteT hc13 h
        refine W_rs ?_
        refine rq (out := (rApiNode).val (ApiNode.mk 0 [] [] 0 0 0 0 0 [])) (qBuildR rApiNode_eq st24 rfl) ?_
        refine rq (out := Pr.i64 x2) qMove ?_
        refine rq (out := Pr.i64 (w64 (x2 + 2))) qInt ?_
        obtain ⟨x14, hx14, h⟩ := bindSome h
        refine rq (out := (rRef12Wrong).val x14) (qCall (ref12_syntax_ok (w64 (x2 + 2)) _ hx14)) ?_
        refine rStore (R := rApiNode) (R' := rApiNode) (a := (ApiNode.mk 0 [] [] 0 0 0 0 0 [])) (y := (ApiNode.mk 0 [] [] 0 0 0 0 0 [])) 0 Tryz.sizeOf24 (Upd.refl _) ?_
        refine rq (out := Pr.i64 0) qAssign ?_
        refine rStore (R := rRef12Wrong) (R' := rRef12Wrong) (a := (Ref12Wrong.mk 0 0)) (y := x14) 1 Tryz.sizeOf59 (Upd.refl _) ?_
        obtain rfl := Option.some.inj h
        exact W_ret ⟨rfl, [(rApiNode).val (ApiNode.mk 0 [] [] 0 0 0 0 0 []), Pr.i64 0, (rRef12Wrong).val x14], ⟨yBox 0 ty24 Pr.le_rfl, yT Pr.le_rfl, yBox 1 ty59 Pr.le_rfl, trivial⟩, Pr.le_rfl⟩
      · replace h := iteF hc13 h
        refine W_skip ?_
        refine W_rs ?_
        refine rq (out := Pr.lst rApiToken x1) qMove ?_
        refine rq (out := Pr.i64 x2) qMove ?_
        refine rq (out := Pr.i64 (w64 (x2 + 3))) qInt ?_
        refine rq (out := Pr.i64 x3) qMove ?_
        refine rq (out := Pr.i64 (w64 (x3 + 1))) qInt ?_
        obtain ⟨⟨x15, x16, x17⟩, hx15, h⟩ := bindSome h
        refine rq (out := Pr.tup [(rApiNode).val x15, Pr.i64 x16, (rRef12Wrong).val x17]) (qCall (ref12_expression_ok x1 (w64 (x2 + 3)) (w64 (x3 + 1)) _ hx15)) ?_
        refine rq (out := Pr.tup [(rApiNode).val x15, Pr.i64 x16, (rRef12Wrong).val x17]) qMove ?_
        refine rq (out := (rApiNode).val x15) qExtract ?_
        refine rq (out := Pr.i64 x16) qExtract ?_
        refine rq (out := (rRef12Wrong).val x17) qExtract ?_
        refine rAlloc (R := rApiNode) (z := (ApiNode.mk 0 [] [] 0 0 0 0 0 [])) Tryz.zeroValue24 (fun _ => (by rw [rApiNode_eq]; exact ⟨_, ⟨_, _, rfl, rfl, ⟨_, _, rfl, rfl, ⟨_, _, rfl, rfl, ⟨_, _, rfl, rfl, ⟨_, _, rfl, rfl, ⟨_, _, rfl, rfl, ⟨_, _, rfl, rfl, ⟨_, _, rfl, rfl, ⟨_, _, rfl, ⟨_, rfl, none, 0, rfl, ⟨Nat.le_refl _, fun _ => rfl⟩, .inl rfl⟩, rfl⟩⟩⟩⟩⟩⟩⟩⟩⟩, rfl⟩)) (fun b18 => ?_)
        refine rAlloc (R := rRef12Wrong) (z := (Ref12Wrong.mk 0 0)) Tryz.zeroValue59 (fun _ => ⟨_, ⟨_, _, rfl, rfl, ⟨_, _, rfl, rfl, rfl⟩⟩, rfl⟩) (fun b19 => ?_)
        refine rStore (R := rApiNode) (R' := rApiNode) (a := (ApiNode.mk 0 [] [] 0 0 0 0 0 [])) (y := x15) 2 Tryz.sizeOf24 (Upd.refl _) ?_
        refine rq (out := Pr.i64 x16) qAssign ?_
        refine rStore (R := rRef12Wrong) (R' := rRef12Wrong) (a := (Ref12Wrong.mk 0 0)) (y := x17) 3 Tryz.sizeOf59 (Upd.refl _) ?_
        refine W_seq ?_
        refine W_rs ?_
        refine rq (out := Pr.pt b19 0) (qFieldP fld59_0) ?_
        refine rq (out := Pr.i64 x17.Place) (qLoad (R := rRef12Wrong) (a := x17) (R' := Rp.int .i64) 3 ty3 subRef12Wrong_Place) ?_
        refine rq (out := Pr.bool (decide (x17.Place ≥ 0))) qInt ?_
        refine W_cond (b := decide (x17.Place ≥ 0)) rfl (fun hc20 => ?_) (fun hc20 => ?_)
        · replace h := iteT hc20 h
          refine W_join (fun e C => ref12_locals_j1 x17 = some r ∧ At [(6, Pr.pt b4 0), (7, Pr.i64 0), (8, Pr.pt b5 0)] [Own.box b4 rApiNode (ApiNode.mk 0 [] [] 0 0 0 0 0 []), Own.box b5 rRef12Wrong x17, Own.box b18 rApiNode x15, Own.box b19 rRef12Wrong x17] e C) ?_ ?_
          · rintro e C ⟨h, hat1⟩
            refine W_at hat1 ?_
            clear hat1
            unfold ref12_locals_j1 at h
            obtain rfl := Option.some.inj h
            exact W_ret ⟨rfl, [(rApiNode).val (ApiNode.mk 0 [] [] 0 0 0 0 0 []), Pr.i64 0, (rRef12Wrong).val x17], ⟨yBox 0 ty24 Pr.le_rfl, yT Pr.le_rfl, yBox 1 ty59 Pr.le_rfl, trivial⟩, Pr.le_rfl⟩
          · refine W_drawEx [(2, 0, Own.box b4 rApiNode (ApiNode.mk 0 [] [] 0 0 0 0 0 [])), (4, 1, Own.box b5 rRef12Wrong x17)] [Own.box b4 rApiNode (ApiNode.mk 0 [] [] 0 0 0 0 0 []), Own.box b5 rRef12Wrong x17, Own.box b18 rApiNode x15, Own.box b19 rRef12Wrong x17] hmx (by kernel_rfl) (by kernel_rfl) (show ([2, 4] : List Nat).Nodup by decide) (show ([0, 1] : List Nat).Nodup by decide) rfl rfl ?_
            refine eq1 (out := (rApiNode).val (ApiNode.mk 0 [] [] 0 0 0 0 0 [])) (fun C2 hC => (qBuildR rApiNode_eq st24 rfl)) ?_
            refine eq1 (out := (rRef12Wrong).val x17) (fun C2 hC => (qLoad (R := rRef12Wrong) (a := x17) (R' := rRef12Wrong) 3 ty59 (Sub.refl _) (hi := (hC 3 (by kernel_rfl)).trans rfl))) ?_
            refine eqS (fun C2 hC => sStore (R := rApiNode) (R' := rApiNode) (a := (ApiNode.mk 0 [] [] 0 0 0 0 0 [])) (y := (ApiNode.mk 0 [] [] 0 0 0 0 0 [])) 0 Tryz.sizeOf24 (Upd.refl _) ((hC 0 (by kernel_rfl)).trans rfl)) ?_
            refine eq1 (out := Pr.i64 0) (fun C2 hC => qAssign) ?_
            refine eqS (fun C2 hC => sStore (R := rRef12Wrong) (R' := rRef12Wrong) (a := (Ref12Wrong.mk 0 0)) (y := x17) 1 Tryz.sizeOf59 (Upd.refl _) ((hC 1 (by kernel_rfl)).trans rfl)) ?_
            exact ⟨h, ⟨⟨Pr.le_rfl, Pr.le_rfl, Pr.le_rfl, trivial⟩, Pick.refl _⟩⟩
        · replace h := iteF hc20 h
          refine W_skip ?_
          refine W_seq ?_
          refine W_rs ?_
          refine rq (out := Pr.lst rApiToken x1) qMove ?_
          refine rq (out := Pr.i64 x16) qMove ?_
          obtain ⟨x21, hx21, h⟩ := bindSome h
          refine rq (out := Pr.bool x21) (qCall (ref12_is_ok x1 x16 ([59] : List UInt8) _ hx21)) ?_
          refine rq (out := Pr.bool (!x21)) qNot ?_
          refine W_cond (b := !x21) rfl (fun hc22 => ?_) (fun hc22 => ?_)
          · replace h := iteT hc22 h
            refine W_rs ?_
            refine rq (out := (rApiNode).val (ApiNode.mk 0 [] [] 0 0 0 0 0 [])) (qBuildR rApiNode_eq st24 rfl) ?_
            refine rq (out := Pr.i64 x16) qMove ?_
            obtain ⟨x23, hx23, h⟩ := bindSome h
            refine rq (out := (rRef12Wrong).val x23) (qCall (ref12_syntax_ok x16 _ hx23)) ?_
            refine rStore (R := rApiNode) (R' := rApiNode) (a := (ApiNode.mk 0 [] [] 0 0 0 0 0 [])) (y := (ApiNode.mk 0 [] [] 0 0 0 0 0 [])) 0 Tryz.sizeOf24 (Upd.refl _) ?_
            refine rq (out := Pr.i64 0) qAssign ?_
            refine rStore (R := rRef12Wrong) (R' := rRef12Wrong) (a := (Ref12Wrong.mk 0 0)) (y := x23) 1 Tryz.sizeOf59 (Upd.refl _) ?_
            obtain rfl := Option.some.inj h
            exact W_ret ⟨rfl, [(rApiNode).val (ApiNode.mk 0 [] [] 0 0 0 0 0 []), Pr.i64 0, (rRef12Wrong).val x23], ⟨yBox 0 ty24 Pr.le_rfl, yT Pr.le_rfl, yBox 1 ty59 Pr.le_rfl, trivial⟩, Pr.le_rfl⟩
          · replace h := iteF hc22 h
            refine W_skip ?_
            refine W_rs ?_
            refine rq (out := Pr.lst rApiToken x1) qMove ?_
            refine rq (out := Pr.lst rApiToken x1) qMove ?_
            refine rq (out := Pr.i64 x2) qMove ?_
            refine rq (out := Pr.i64 x16) qMove ?_
            refine rq (out := Pr.i64 (w64 (x16 + 1))) qInt ?_
            refine rq (out := (rApiNode).val x15) (qLoad (R := rApiNode) (a := x15) (R' := rApiNode) 2 ty24 (Sub.refl _)) ?_
            refine rq (out := Pr.lst rApiNode ([x15] : List ApiNode)) (qBuildSlice1 (R := rApiNode) (a := x15) el22 (Nat.le_of_ble_eq_true rfl)) ?_
            obtain ⟨x24, hx24, h⟩ := bindSome h
            refine rq (out := (rApiNode).val x24) (qCall (ref12_made_ok x1 6 x2 (w64 (x16 + 1)) ([x15] : List ApiNode) _ hx24)) ?_
            refine rq (out := Pr.i64 x2) qMove ?_
            obtain ⟨x25, hx25, h⟩ := bindSome h
            refine rq (out := (rApiNode).val x25) (qCall (ref12_typed_ok x1 x24 x2 _ hx25)) ?_
            refine rq (out := Pr.i64 x16) qMove ?_
            refine rq (out := Pr.i64 (w64 (x16 + 1))) qInt ?_
            obtain ⟨x26, hx26, h⟩ := bindSome h
            refine rq (out := (rRef12Wrong).val x26) (qCall (ref12_fine_ok  _ hx26)) ?_
            refine rStore (R := rApiNode) (R' := rApiNode) (a := (ApiNode.mk 0 [] [] 0 0 0 0 0 [])) (y := x25) 0 Tryz.sizeOf24 (Upd.refl _) ?_
            refine rq (out := Pr.i64 (w64 (x16 + 1))) qAssign ?_
            refine rStore (R := rRef12Wrong) (R' := rRef12Wrong) (a := (Ref12Wrong.mk 0 0)) (y := x26) 1 Tryz.sizeOf59 (Upd.refl _) ?_
            obtain rfl := Option.some.inj h
            exact W_ret ⟨rfl, [(rApiNode).val x25, Pr.i64 (w64 (x16 + 1)), (rRef12Wrong).val x26], ⟨yBox 0 ty24 Pr.le_rfl, yT Pr.le_rfl, yBox 1 ty59 Pr.le_rfl, trivial⟩, Pr.le_rfl⟩
def rec_ref12_statement_spec (R : rec_ref12_statement_T) : Prop := (∀ (x1 : List ApiToken) (x2 : Int) (x3 : Int) (r : ApiNode × Int × Ref12Wrong), R.1 x1 x2 x3 = some r → FnP Tryz.prog 39 [Pr.lst rApiToken x1, Pr.i64 x2, Pr.i64 x3] (Pr.tup [(rApiNode).val r.1, Pr.i64 r.2.1, (rRef12Wrong).val r.2.2])) ∧ (∀ (x1 : List ApiToken) (x2 : Int) (x3 : Int) (r : ApiNode × Int × Ref12Wrong), R.2.1 x1 x2 x3 = some r → FnP Tryz.prog 61 [Pr.lst rApiToken x1, Pr.i64 x2, Pr.i64 x3] (Pr.tup [(rApiNode).val r.1, Pr.i64 r.2.1, (rRef12Wrong).val r.2.2])) ∧ (∀ (x1 : List ApiToken) (x2 : Int) (x3 : Int) (r : ApiNode × Int × Ref12Wrong), R.2.2 x1 x2 x3 = some r → FnP Tryz.prog 65 [Pr.lst rApiToken x1, Pr.i64 x2, Pr.i64 x3] (Pr.tup [(rApiNode).val r.1, Pr.i64 r.2.1, (rRef12Wrong).val r.2.2]))
theorem F_ref12_statement_step (R : rec_ref12_statement_T) (ih : rec_ref12_statement_spec R) (x1 : List ApiToken) (x2 : Int) (x3 : Int) (r : ApiNode × Int × Ref12Wrong) (h : F_ref12_statement R x1 x2 x3 = some r) : FnP Tryz.prog 39 [Pr.lst rApiToken x1, Pr.i64 x2, Pr.i64 x3] (Pr.tup [(rApiNode).val r.1, Pr.i64 r.2.1, (rRef12Wrong).val r.2.2]) := by
  refine fn_introR (n := 117) (rs := [.cell 6 24, .tmp 7, .cell 8 59]) Tryz.func39 rfl Tryz.ntmps39 Tryz.results39 (by decide) (fun s0 => ?_)
  unfold F_ref12_statement at h
  refine W_rs ?_
  refine rAlloc (R := rApiNode) (z := (ApiNode.mk 0 [] [] 0 0 0 0 0 [])) Tryz.zeroValue24 (fun _ => (by rw [rApiNode_eq]; exact ⟨_, ⟨_, _, rfl, rfl, ⟨_, _, rfl, rfl, ⟨_, _, rfl, rfl, ⟨_, _, rfl, rfl, ⟨_, _, rfl, rfl, ⟨_, _, rfl, rfl, ⟨_, _, rfl, rfl, ⟨_, _, rfl, rfl, ⟨_, _, rfl, ⟨_, rfl, none, 0, rfl, ⟨Nat.le_refl _, fun _ => rfl⟩, .inl rfl⟩, rfl⟩⟩⟩⟩⟩⟩⟩⟩⟩, rfl⟩)) (fun b4 => ?_)
  refine rq (out := Pr.i64 0) qAssign ?_
  refine rAlloc (R := rRef12Wrong) (z := (Ref12Wrong.mk 0 0)) Tryz.zeroValue59 (fun _ => ⟨_, ⟨_, _, rfl, rfl, ⟨_, _, rfl, rfl, rfl⟩⟩, rfl⟩) (fun b5 => ?_)
  refine W_seq ?_
  refine W_rs ?_
  refine rq (out := Pr.i64 x3) qMove ?_
  refine rq (out := Pr.bool (decide (x3 > 60))) qInt ?_
  refine W_cond (b := decide (x3 > 60)) rfl (fun hc6 => ?_) (fun hc6 => ?_)
  · replace h := iteT hc6 h
    refine W_rs ?_
    refine rq (out := (rApiNode).val (ApiNode.mk 0 [] [] 0 0 0 0 0 [])) (qBuildR rApiNode_eq st24 rfl) ?_
    refine rq (out := Pr.i64 x2) qMove ?_
    refine rq (out := (rRef12Wrong).val (Ref12Wrong.mk x2 2)) (qBuild st59 ⟨(Ref12Wrong.mk x2 0), ⟨_, rfl, rfl, fun j fd hj hf => by match j, hj with | 0, h => exact absurd rfl h | 1, _ => cases hf; rfl | _ + 2, _ => cases hf⟩, ⟨(Ref12Wrong.mk x2 2), ⟨_, rfl, rfl, fun j fd hj hf => by match j, hj with | 0, _ => cases hf; rfl | 1, h => exact absurd rfl h | _ + 2, _ => cases hf⟩, rfl⟩⟩) ?_
    refine rStore (R := rApiNode) (R' := rApiNode) (a := (ApiNode.mk 0 [] [] 0 0 0 0 0 [])) (y := (ApiNode.mk 0 [] [] 0 0 0 0 0 [])) 0 Tryz.sizeOf24 (Upd.refl _) ?_
    refine rq (out := Pr.i64 0) qAssign ?_
    refine rStore (R := rRef12Wrong) (R' := rRef12Wrong) (a := (Ref12Wrong.mk 0 0)) (y := (Ref12Wrong.mk x2 2)) 1 Tryz.sizeOf59 (Upd.refl _) ?_
    obtain rfl := Option.some.inj h
    exact W_ret ⟨rfl, [(rApiNode).val (ApiNode.mk 0 [] [] 0 0 0 0 0 []), Pr.i64 0, (rRef12Wrong).val (Ref12Wrong.mk x2 2)], ⟨yBox 0 ty24 Pr.le_rfl, yT Pr.le_rfl, yBox 1 ty59 Pr.le_rfl, trivial⟩, Pr.le_rfl⟩
  · replace h := iteF hc6 h
    refine W_skip ?_
    refine W_seq ?_
    refine W_block ?_
    refine W_rs ?_
    refine rq (out := Pr.lst rApiToken x1) qMove ?_
    refine rq (out := Pr.i64 x2) qMove ?_
    obtain ⟨x7, hx7, h⟩ := bindSome h
    refine rq (out := Pr.bool x7) (qCall (ref12_is_ok x1 x2 ([123] : List UInt8) _ hx7)) ?_
    refine rq (out := Pr.bool x7) qAssign ?_
    refine W_cond (b := x7) rfl (fun hc8 => ?_) (fun hc8 => ?_)
    · replace h := iteT hc8 h
      refine W_rs ?_
      refine rq (out := Pr.lst rApiToken x1) qMove ?_
      refine rq (out := Pr.i64 x2) qMove ?_
      refine rq (out := Pr.i64 x3) qMove ?_
      obtain ⟨⟨x9, x10, x11⟩, hx9, h⟩ := bindSome h
      refine rq (out := Pr.tup [(rApiNode).val x9, Pr.i64 x10, (rRef12Wrong).val x11]) (qCall (ih.2.1 x1 x2 x3 _ hx9)) ?_
      refine rq (out := (rApiNode).val x9) qExtract ?_
      refine rq (out := Pr.i64 x10) qExtract ?_
      refine rq (out := (rRef12Wrong).val x11) qExtract ?_
      refine rStore (R := rApiNode) (R' := rApiNode) (a := (ApiNode.mk 0 [] [] 0 0 0 0 0 [])) (y := x9) 0 Tryz.sizeOf24 (Upd.refl _) ?_
      refine rq (out := Pr.i64 x10) qAssign ?_
      refine rStore (R := rRef12Wrong) (R' := rRef12Wrong) (a := (Ref12Wrong.mk 0 0)) (y := x11) 1 Tryz.sizeOf59 (Upd.refl _) ?_
      obtain rfl := Option.some.inj h
      exact W_ret ⟨rfl, [(rApiNode).val x9, Pr.i64 x10, (rRef12Wrong).val x11], ⟨yBox 0 ty24 Pr.le_rfl, yT Pr.le_rfl, yBox 1 ty59 Pr.le_rfl, trivial⟩, Pr.le_rfl⟩
    · replace h := iteF hc8 h
      refine W_join (fun e C => ∃ (x15 : Bool), ref12_statement_j5 R x1 x2 x3 x15 = some r ∧ At [(0, Pr.lst rApiToken x1), (1, Pr.i64 x2), (2, Pr.i64 x3), (6, Pr.pt b4 0), (8, Pr.pt b5 0), (33, Pr.bool x15)] [Own.box b4 rApiNode (ApiNode.mk 0 [] [] 0 0 0 0 0 []), Own.box b5 rRef12Wrong (Ref12Wrong.mk 0 0)] e C) ?_ ?_
      · rintro e C ⟨x15, h, hat5⟩
        refine W_at hat5 ?_
        clear hat5
        unfold ref12_statement_j5 at h
        refine W_cond (b := x15) rfl (fun hc16 => ?_) (fun hc16 => ?_)
        · replace h := iteT hc16 h
          refine W_rs ?_
          refine rq (out := Pr.lst rApiToken x1) qMove ?_
          refine rq (out := Pr.i64 x2) qMove ?_
          refine rq (out := Pr.i64 x3) qMove ?_
          obtain ⟨⟨x17, x18, x19⟩, hx17, h⟩ := bindSome h
          refine rq (out := Pr.tup [(rApiNode).val x17, Pr.i64 x18, (rRef12Wrong).val x19]) (qCall (ih.2.2 x1 x2 x3 _ hx17)) ?_
          refine rq (out := (rApiNode).val x17) qExtract ?_
          refine rq (out := Pr.i64 x18) qExtract ?_
          refine rq (out := (rRef12Wrong).val x19) qExtract ?_
          refine rStore (R := rApiNode) (R' := rApiNode) (a := (ApiNode.mk 0 [] [] 0 0 0 0 0 [])) (y := x17) 0 Tryz.sizeOf24 (Upd.refl _) ?_
          refine rq (out := Pr.i64 x18) qAssign ?_
          refine rStore (R := rRef12Wrong) (R' := rRef12Wrong) (a := (Ref12Wrong.mk 0 0)) (y := x19) 1 Tryz.sizeOf59 (Upd.refl _) ?_
          obtain rfl := Option.some.inj h
          exact W_ret ⟨rfl, [(rApiNode).val x17, Pr.i64 x18, (rRef12Wrong).val x19], ⟨yBox 0 ty24 Pr.le_rfl, yT Pr.le_rfl, yBox 1 ty59 Pr.le_rfl, trivial⟩, Pr.le_rfl⟩
        · replace h := iteF hc16 h
          refine W_join (fun e C => ∃ (x23 : Bool), ref12_statement_j4 R x1 x2 x3 x23 = some r ∧ At [(0, Pr.lst rApiToken x1), (1, Pr.i64 x2), (2, Pr.i64 x3), (6, Pr.pt b4 0), (8, Pr.pt b5 0), (47, Pr.bool x23)] [Own.box b4 rApiNode (ApiNode.mk 0 [] [] 0 0 0 0 0 []), Own.box b5 rRef12Wrong (Ref12Wrong.mk 0 0)] e C) ?_ ?_
          · rintro e C ⟨x23, h, hat4⟩
            refine W_at hat4 ?_
            clear hat4
            unfold ref12_statement_j4 at h
            refine W_cond (b := x23) rfl (fun hc24 => ?_) (fun hc24 => ?_)
            · replace h := iteT hc24 h
              refine W_rs ?_
              refine rq (out := Pr.lst rApiToken x1) qMove ?_
              refine rq (out := Pr.i64 x2) qMove ?_
              refine rq (out := Pr.i64 x3) qMove ?_
              obtain ⟨⟨x25, x26, x27⟩, hx25, h⟩ := bindSome h
              refine rq (out := Pr.tup [(rApiNode).val x25, Pr.i64 x26, (rRef12Wrong).val x27]) (qCall (ref12_simple_ok x1 x2 x3 _ hx25)) ?_
              refine rq (out := (rApiNode).val x25) qExtract ?_
              refine rq (out := Pr.i64 x26) qExtract ?_
              refine rq (out := (rRef12Wrong).val x27) qExtract ?_
              refine rStore (R := rApiNode) (R' := rApiNode) (a := (ApiNode.mk 0 [] [] 0 0 0 0 0 [])) (y := x25) 0 Tryz.sizeOf24 (Upd.refl _) ?_
              refine rq (out := Pr.i64 x26) qAssign ?_
              refine rStore (R := rRef12Wrong) (R' := rRef12Wrong) (a := (Ref12Wrong.mk 0 0)) (y := x27) 1 Tryz.sizeOf59 (Upd.refl _) ?_
              obtain rfl := Option.some.inj h
              exact W_ret ⟨rfl, [(rApiNode).val x25, Pr.i64 x26, (rRef12Wrong).val x27], ⟨yBox 0 ty24 Pr.le_rfl, yT Pr.le_rfl, yBox 1 ty59 Pr.le_rfl, trivial⟩, Pr.le_rfl⟩
            · replace h := iteF hc24 h
              refine W_skip ?_
              refine W_rs ?_
              refine rq (out := Pr.lst rApiToken x1) qMove ?_
              refine rq (out := Pr.i64 x2) qMove ?_
              refine rq (out := Pr.i64 x3) qMove ?_
              refine rq (out := Pr.i64 (w64 (x3 + 1))) qInt ?_
              obtain ⟨⟨x28, x29, x30⟩, hx28, h⟩ := bindSome h
              refine rq (out := Pr.tup [(rApiNode).val x28, Pr.i64 x29, (rRef12Wrong).val x30]) (qCall (ref12_expression_ok x1 x2 (w64 (x3 + 1)) _ hx28)) ?_
              refine rq (out := Pr.tup [(rApiNode).val x28, Pr.i64 x29, (rRef12Wrong).val x30]) qMove ?_
              refine rq (out := (rApiNode).val x28) qExtract ?_
              refine rq (out := Pr.i64 x29) qExtract ?_
              refine rq (out := (rRef12Wrong).val x30) qExtract ?_
              refine rAlloc (R := rApiNode) (z := (ApiNode.mk 0 [] [] 0 0 0 0 0 [])) Tryz.zeroValue24 (fun _ => (by rw [rApiNode_eq]; exact ⟨_, ⟨_, _, rfl, rfl, ⟨_, _, rfl, rfl, ⟨_, _, rfl, rfl, ⟨_, _, rfl, rfl, ⟨_, _, rfl, rfl, ⟨_, _, rfl, rfl, ⟨_, _, rfl, rfl, ⟨_, _, rfl, rfl, ⟨_, _, rfl, ⟨_, rfl, none, 0, rfl, ⟨Nat.le_refl _, fun _ => rfl⟩, .inl rfl⟩, rfl⟩⟩⟩⟩⟩⟩⟩⟩⟩, rfl⟩)) (fun b31 => ?_)
              refine rAlloc (R := rRef12Wrong) (z := (Ref12Wrong.mk 0 0)) Tryz.zeroValue59 (fun _ => ⟨_, ⟨_, _, rfl, rfl, ⟨_, _, rfl, rfl, rfl⟩⟩, rfl⟩) (fun b32 => ?_)
              refine rStore (R := rApiNode) (R' := rApiNode) (a := (ApiNode.mk 0 [] [] 0 0 0 0 0 [])) (y := x28) 2 Tryz.sizeOf24 (Upd.refl _) ?_
              refine rq (out := Pr.i64 x29) qAssign ?_
              refine rStore (R := rRef12Wrong) (R' := rRef12Wrong) (a := (Ref12Wrong.mk 0 0)) (y := x30) 3 Tryz.sizeOf59 (Upd.refl _) ?_
              refine W_seq ?_
              refine W_rs ?_
              refine rq (out := Pr.pt b32 0) (qFieldP fld59_0) ?_
              refine rq (out := Pr.i64 x30.Place) (qLoad (R := rRef12Wrong) (a := x30) (R' := Rp.int .i64) 3 ty3 subRef12Wrong_Place) ?_
              refine rq (out := Pr.bool (decide (x30.Place ≥ 0))) qInt ?_
              refine W_cond (b := decide (x30.Place ≥ 0)) rfl (fun hc33 => ?_) (fun hc33 => ?_)
              · replace h := iteT hc33 h
                refine W_join (fun e C => ref12_statement_j1 R x30 = some r ∧ At [(6, Pr.pt b4 0), (7, Pr.i64 0), (8, Pr.pt b5 0)] [Own.box b4 rApiNode (ApiNode.mk 0 [] [] 0 0 0 0 0 []), Own.box b5 rRef12Wrong x30, Own.box b31 rApiNode x28, Own.box b32 rRef12Wrong x30] e C) ?_ ?_
                · rintro e C ⟨h, hat1⟩
                  refine W_at hat1 ?_
                  clear hat1
                  unfold ref12_statement_j1 at h
                  obtain rfl := Option.some.inj h
                  exact W_ret ⟨rfl, [(rApiNode).val (ApiNode.mk 0 [] [] 0 0 0 0 0 []), Pr.i64 0, (rRef12Wrong).val x30], ⟨yBox 0 ty24 Pr.le_rfl, yT Pr.le_rfl, yBox 1 ty59 Pr.le_rfl, trivial⟩, Pr.le_rfl⟩
                · refine W_drawEx [(2, 0, Own.box b4 rApiNode (ApiNode.mk 0 [] [] 0 0 0 0 0 [])), (4, 1, Own.box b5 rRef12Wrong x30)] [Own.box b4 rApiNode (ApiNode.mk 0 [] [] 0 0 0 0 0 []), Own.box b5 rRef12Wrong x30, Own.box b31 rApiNode x28, Own.box b32 rRef12Wrong x30] hmx (by kernel_rfl) (by kernel_rfl) (show ([2, 4] : List Nat).Nodup by decide) (show ([0, 1] : List Nat).Nodup by decide) rfl rfl ?_
                  refine eq1 (out := (rApiNode).val (ApiNode.mk 0 [] [] 0 0 0 0 0 [])) (fun C2 hC => (qBuildR rApiNode_eq st24 rfl)) ?_
                  refine eq1 (out := (rRef12Wrong).val x30) (fun C2 hC => (qLoad (R := rRef12Wrong) (a := x30) (R' := rRef12Wrong) 3 ty59 (Sub.refl _) (hi := (hC 3 (by kernel_rfl)).trans rfl))) ?_
                  refine eqS (fun C2 hC => sStore (R := rApiNode) (R' := rApiNode) (a := (ApiNode.mk 0 [] [] 0 0 0 0 0 [])) (y := (ApiNode.mk 0 [] [] 0 0 0 0 0 [])) 0 Tryz.sizeOf24 (Upd.refl _) ((hC 0 (by kernel_rfl)).trans rfl)) ?_
                  refine eq1 (out := Pr.i64 0) (fun C2 hC => qAssign) ?_
                  refine eqS (fun C2 hC => sStore (R := rRef12Wrong) (R' := rRef12Wrong) (a := (Ref12Wrong.mk 0 0)) (y := x30) 1 Tryz.sizeOf59 (Upd.refl _) ((hC 1 (by kernel_rfl)).trans rfl)) ?_
                  exact ⟨h, ⟨⟨Pr.le_rfl, Pr.le_rfl, Pr.le_rfl, trivial⟩, Pick.refl _⟩⟩
              · replace h := iteF hc33 h
                refine W_skip ?_
                refine W_rs ?_
                refine rq (out := Pr.i64 8) qAssign ?_
                refine W_rs ?_
                refine rq (out := (rApiNode).val x28) (qLoad (R := rApiNode) (a := x28) (R' := rApiNode) 2 ty24 (Sub.refl _)) ?_
                refine rBuildV (R := rApiNode) (ls := ([x28] : List ApiNode)) el22 (Nat.le_of_ble_eq_true rfl) ⟨rfl, rfl⟩ ⟨rfl, trivial⟩ (fun v34 => ?_)
                refine rq (out := Pr.is v34) qAssign ?_
                refine W_join (fun e C => ∃ (x45 : Int), ∃ (x46 : Int), ∃ (x48 : List ApiNode), ∃ (v47 : Value), ref12_statement_j2 R x1 x2 x45 x46 x48 = some r ∧ At [(0, Pr.lst rApiToken x1), (1, Pr.i64 x2), (6, Pr.pt b4 0), (8, Pr.pt b5 0), (10, Pr.i64 x45), (12, Pr.i64 x46), (13, Pr.is v47)] [Own.box b4 rApiNode (ApiNode.mk 0 [] [] 0 0 0 0 0 []), Own.box b5 rRef12Wrong (Ref12Wrong.mk 0 0), Own.box b31 rApiNode x28, Own.box b32 rRef12Wrong x30, Own.vec v47 rApiNode x48 24] e C) ?_ ?_
                · rintro e C ⟨x45, x46, x48, v47, h, hat2⟩
                  refine W_at hat2 ?_
                  clear hat2
                  unfold ref12_statement_j2 at h
                  refine W_seq ?_
                  refine W_rs ?_
                  refine rq (out := Pr.lst rApiToken x1) qMove ?_
                  refine rq (out := Pr.i64 x45) qMove ?_
                  obtain ⟨x49, hx49, h⟩ := bindSome h
                  refine rq (out := Pr.bool x49) (qCall (ref12_is_ok x1 x45 ([59] : List UInt8) _ hx49)) ?_
                  refine rq (out := Pr.bool (!x49)) qNot ?_
                  refine W_cond (b := !x49) rfl (fun hc50 => ?_) (fun hc50 => ?_)
                  · replace h := iteT hc50 h
                    refine W_rs ?_
                    refine rq (out := (rApiNode).val (ApiNode.mk 0 [] [] 0 0 0 0 0 [])) (qBuildR rApiNode_eq st24 rfl) ?_
                    refine rq (out := Pr.i64 x45) qMove ?_
                    obtain ⟨x51, hx51, h⟩ := bindSome h
                    refine rq (out := (rRef12Wrong).val x51) (qCall (ref12_syntax_ok x45 _ hx51)) ?_
                    refine rStore (R := rApiNode) (R' := rApiNode) (a := (ApiNode.mk 0 [] [] 0 0 0 0 0 [])) (y := (ApiNode.mk 0 [] [] 0 0 0 0 0 [])) 0 Tryz.sizeOf24 (Upd.refl _) ?_
                    refine rq (out := Pr.i64 0) qAssign ?_
                    refine rStore (R := rRef12Wrong) (R' := rRef12Wrong) (a := (Ref12Wrong.mk 0 0)) (y := x51) 1 Tryz.sizeOf59 (Upd.refl _) ?_
                    obtain rfl := Option.some.inj h
                    exact W_ret ⟨rfl, [(rApiNode).val (ApiNode.mk 0 [] [] 0 0 0 0 0 []), Pr.i64 0, (rRef12Wrong).val x51], ⟨yBox 0 ty24 Pr.le_rfl, yT Pr.le_rfl, yBox 1 ty59 Pr.le_rfl, trivial⟩, Pr.le_rfl⟩
                  · replace h := iteF hc50 h
                    refine W_skip ?_
                    refine W_rs ?_
                    refine rq (out := Pr.lst rApiToken x1) qMove ?_
                    refine rq (out := Pr.i64 x46) qMove ?_
                    refine rq (out := Pr.i64 x2) qMove ?_
                    refine rq (out := Pr.i64 x45) qMove ?_
                    refine rq (out := Pr.i64 (w64 (x45 + 1))) qInt ?_
                    refine rq (out := Pr.is v47) qMove ?_
                    obtain ⟨x52, hx52, h⟩ := bindSome h
                    refine rRel 4 [13, 112] ?_ rfl ⟨rfl, rfl, trivial⟩
                    refine rq (out := (rApiNode).val x52) (qCall (ref12_made_ok x1 x46 x2 (w64 (x45 + 1)) x48 _ hx52)) ?_
                    refine rq (out := Pr.i64 x45) qMove ?_
                    refine rq (out := Pr.i64 (w64 (x45 + 1))) qInt ?_
                    obtain ⟨x53, hx53, h⟩ := bindSome h
                    refine rq (out := (rRef12Wrong).val x53) (qCall (ref12_fine_ok  _ hx53)) ?_
                    refine rStore (R := rApiNode) (R' := rApiNode) (a := (ApiNode.mk 0 [] [] 0 0 0 0 0 [])) (y := x52) 0 Tryz.sizeOf24 (Upd.refl _) ?_
                    refine rq (out := Pr.i64 (w64 (x45 + 1))) qAssign ?_
                    refine rStore (R := rRef12Wrong) (R' := rRef12Wrong) (a := (Ref12Wrong.mk 0 0)) (y := x53) 1 Tryz.sizeOf59 (Upd.refl _) ?_
                    obtain rfl := Option.some.inj h
                    exact W_ret ⟨rfl, [(rApiNode).val x52, Pr.i64 (w64 (x45 + 1)), (rRef12Wrong).val x53], ⟨yBox 0 ty24 Pr.le_rfl, yT Pr.le_rfl, yBox 1 ty59 Pr.le_rfl, trivial⟩, Pr.le_rfl⟩
                · refine W_rs ?_
                  refine rq (out := Pr.lst rApiToken x1) qMove ?_
                  refine rq (out := Pr.i64 x29) qMove ?_
                  obtain ⟨x35, hx35, h⟩ := bindSome h
                  refine rq (out := Pr.bool x35) (qCall (ref12_is_ok x1 x29 ([61] : List UInt8) _ hx35)) ?_
                  refine W_cond (b := x35) rfl (fun hc36 => ?_) (fun hc36 => ?_)
                  · replace h := iteT hc36 h
                    refine W_rs ?_
                    refine rq (out := Pr.lst rApiToken x1) qMove ?_
                    refine rq (out := Pr.i64 x29) qMove ?_
                    refine rq (out := Pr.i64 (w64 (x29 + 1))) qInt ?_
                    refine rq (out := Pr.i64 x3) qMove ?_
                    refine rq (out := Pr.i64 (w64 (x3 + 1))) qInt ?_
                    obtain ⟨⟨x37, x38, x39⟩, hx37, h⟩ := bindSome h
                    refine rq (out := Pr.tup [(rApiNode).val x37, Pr.i64 x38, (rRef12Wrong).val x39]) (qCall (ref12_expression_ok x1 (w64 (x29 + 1)) (w64 (x3 + 1)) _ hx37)) ?_
                    refine rq (out := Pr.tup [(rApiNode).val x37, Pr.i64 x38, (rRef12Wrong).val x39]) qMove ?_
                    refine rq (out := (rApiNode).val x37) qExtract ?_
                    refine rq (out := Pr.i64 x38) qExtract ?_
                    refine rq (out := (rRef12Wrong).val x39) qExtract ?_
                    refine rAlloc (R := rApiNode) (z := (ApiNode.mk 0 [] [] 0 0 0 0 0 [])) Tryz.zeroValue24 (fun _ => (by rw [rApiNode_eq]; exact ⟨_, ⟨_, _, rfl, rfl, ⟨_, _, rfl, rfl, ⟨_, _, rfl, rfl, ⟨_, _, rfl, rfl, ⟨_, _, rfl, rfl, ⟨_, _, rfl, rfl, ⟨_, _, rfl, rfl, ⟨_, _, rfl, rfl, ⟨_, _, rfl, ⟨_, rfl, none, 0, rfl, ⟨Nat.le_refl _, fun _ => rfl⟩, .inl rfl⟩, rfl⟩⟩⟩⟩⟩⟩⟩⟩⟩, rfl⟩)) (fun b40 => ?_)
                    refine rAlloc (R := rRef12Wrong) (z := (Ref12Wrong.mk 0 0)) Tryz.zeroValue59 (fun _ => ⟨_, ⟨_, _, rfl, rfl, ⟨_, _, rfl, rfl, rfl⟩⟩, rfl⟩) (fun b41 => ?_)
                    refine rStore (R := rApiNode) (R' := rApiNode) (a := (ApiNode.mk 0 [] [] 0 0 0 0 0 [])) (y := x37) 5 Tryz.sizeOf24 (Upd.refl _) ?_
                    refine rq (out := Pr.i64 x38) qAssign ?_
                    refine rStore (R := rRef12Wrong) (R' := rRef12Wrong) (a := (Ref12Wrong.mk 0 0)) (y := x39) 6 Tryz.sizeOf59 (Upd.refl _) ?_
                    refine W_seq ?_
                    refine W_rs ?_
                    refine rq (out := Pr.pt b41 0) (qFieldP fld59_0) ?_
                    refine rq (out := Pr.i64 x39.Place) (qLoad (R := rRef12Wrong) (a := x39) (R' := Rp.int .i64) 6 ty3 subRef12Wrong_Place) ?_
                    refine rq (out := Pr.bool (decide (x39.Place ≥ 0))) qInt ?_
                    refine W_cond (b := decide (x39.Place ≥ 0)) rfl (fun hc42 => ?_) (fun hc42 => ?_)
                    · replace h := iteT hc42 h
                      refine W_join (fun e C => ref12_statement_j3 R x39 = some r ∧ At [(6, Pr.pt b4 0), (7, Pr.i64 0), (8, Pr.pt b5 0)] [Own.box b4 rApiNode (ApiNode.mk 0 [] [] 0 0 0 0 0 []), Own.box b5 rRef12Wrong x39, Own.box b31 rApiNode x28, Own.box b32 rRef12Wrong x30, Own.box b40 rApiNode x37, Own.box b41 rRef12Wrong x39] e C) ?_ ?_
                      · rintro e C ⟨h, hat3⟩
                        refine W_at hat3 ?_
                        clear hat3
                        unfold ref12_statement_j3 at h
                        obtain rfl := Option.some.inj h
                        exact W_ret ⟨rfl, [(rApiNode).val (ApiNode.mk 0 [] [] 0 0 0 0 0 []), Pr.i64 0, (rRef12Wrong).val x39], ⟨yBox 0 ty24 Pr.le_rfl, yT Pr.le_rfl, yBox 1 ty59 Pr.le_rfl, trivial⟩, Pr.le_rfl⟩
                      · refine W_drawEx [(2, 0, Own.box b4 rApiNode (ApiNode.mk 0 [] [] 0 0 0 0 0 [])), (4, 1, Own.box b5 rRef12Wrong x39)] [Own.box b4 rApiNode (ApiNode.mk 0 [] [] 0 0 0 0 0 []), Own.box b5 rRef12Wrong x39, Own.box b31 rApiNode x28, Own.box b32 rRef12Wrong x30, Own.vec v34 rApiNode ([x28] : List ApiNode) 24, Own.box b40 rApiNode x37, Own.box b41 rRef12Wrong x39] hmx (by kernel_rfl) (by kernel_rfl) (show ([2, 4] : List Nat).Nodup by decide) (show ([0, 1] : List Nat).Nodup by decide) rfl rfl ?_
                        refine eq1 (out := (rApiNode).val (ApiNode.mk 0 [] [] 0 0 0 0 0 [])) (fun C2 hC => (qBuildR rApiNode_eq st24 rfl)) ?_
                        refine eq1 (out := (rRef12Wrong).val x39) (fun C2 hC => (qLoad (R := rRef12Wrong) (a := x39) (R' := rRef12Wrong) 6 ty59 (Sub.refl _) (hi := (hC 6 (by kernel_rfl)).trans rfl))) ?_
                        refine eqS (fun C2 hC => sStore (R := rApiNode) (R' := rApiNode) (a := (ApiNode.mk 0 [] [] 0 0 0 0 0 [])) (y := (ApiNode.mk 0 [] [] 0 0 0 0 0 [])) 0 Tryz.sizeOf24 (Upd.refl _) ((hC 0 (by kernel_rfl)).trans rfl)) ?_
                        refine eq1 (out := Pr.i64 0) (fun C2 hC => qAssign) ?_
                        refine eqS (fun C2 hC => sStore (R := rRef12Wrong) (R' := rRef12Wrong) (a := (Ref12Wrong.mk 0 0)) (y := x39) 1 Tryz.sizeOf59 (Upd.refl _) ((hC 1 (by kernel_rfl)).trans rfl)) ?_
                        exact ⟨h, ⟨⟨Pr.le_rfl, Pr.le_rfl, Pr.le_rfl, trivial⟩, Pick.of [0, 1, 2, 3, 5, 6] rfl⟩⟩
                    · replace h := iteF hc42 h
                      refine W_skip ?_
                      refine W_rs ?_
                      refine rq (out := Pr.i64 7) qAssign ?_
                      refine W_rs ?_
                      refine rq (out := Pr.is v34) qMove ?_
                      refine rq (out := (rApiNode).val x37) (qLoad (R := rApiNode) (a := x37) (R' := rApiNode) 5 ty24 (Sub.refl _)) ?_
                      refine rq (out := Pr.lst rApiNode ([x37] : List ApiNode)) (qBuildSlice1 (R := rApiNode) (a := x37) el22 (Nat.le_of_ble_eq_true rfl)) ?_
                      obtain ⟨x43, hx43, h⟩ := bindSome h
                      refine rAppend' 4 el22 hx43 (fun v44 => ?_)
                      refine rq (out := Pr.is v44) qAssign ?_
                      refine W_r ?_
                      refine rq (out := Pr.i64 x38) qMove ?_
                      refine rq (out := Pr.i64 x38) qAssign ?_
                      exact ⟨x38, 7, x43, v44, h, ⟨⟨Pr.le_rfl, Pr.le_rfl, Pr.le_rfl, Pr.le_rfl, Pr.le_rfl, Pr.le_rfl, Pr.le_rfl, trivial⟩, Pick.of [0, 1, 2, 3, 4] rfl⟩⟩
                  · replace h := iteF hc36 h
                    refine W_skip ?_
                    exact ⟨x29, 8, ([x28] : List ApiNode), v34, h, ⟨⟨Pr.le_rfl, Pr.le_rfl, Pr.le_rfl, Pr.le_rfl, Pr.le_rfl, Pr.le_rfl, Pr.le_rfl, trivial⟩, Pick.refl _⟩⟩
          · refine W_rs ?_
            refine rq (out := Pr.lst rApiToken x1) qMove ?_
            refine rq (out := Pr.i64 x2) qMove ?_
            obtain ⟨x20, hx20, h⟩ := bindSome h
            refine rq (out := Pr.bool x20) (qCall (ref12_is_ok x1 x2 ([114, 101, 116, 117, 114, 110] : List UInt8) _ hx20)) ?_
            refine rq (out := Pr.bool x20) qAssign ?_
            refine W_cond (b := x20) rfl (fun hc21 => ?_) (fun hc21 => ?_)
            · replace h := iteT hc21 h
              refine W_skip ?_
              exact ⟨x20, h, ⟨⟨Pr.le_rfl, Pr.le_rfl, Pr.le_rfl, Pr.le_rfl, Pr.le_rfl, Pr.le_rfl, trivial⟩, Pick.refl _⟩⟩
            · replace h := iteF hc21 h
              refine W_r ?_
              refine rq (out := Pr.lst rApiToken x1) qMove ?_
              refine rq (out := Pr.i64 x2) qMove ?_
              obtain ⟨x22, hx22, h⟩ := bindSome h
              refine rq (out := Pr.bool x22) (qCall (ref12_is_ok x1 x2 ([112, 114, 105, 110, 116] : List UInt8) _ hx22)) ?_
              refine rq (out := Pr.bool x22) qAssign ?_
              exact ⟨x22, h, ⟨⟨Pr.le_rfl, Pr.le_rfl, Pr.le_rfl, Pr.le_rfl, Pr.le_rfl, Pr.le_rfl, trivial⟩, Pick.refl _⟩⟩
      · refine W_rs ?_
        refine rq (out := Pr.lst rApiToken x1) qMove ?_
        refine rq (out := Pr.i64 x2) qMove ?_
        obtain ⟨x12, hx12, h⟩ := bindSome h
        refine rq (out := Pr.bool x12) (qCall (ref12_is_ok x1 x2 ([105, 102] : List UInt8) _ hx12)) ?_
        refine rq (out := Pr.bool x12) qAssign ?_
        refine W_cond (b := x12) rfl (fun hc13 => ?_) (fun hc13 => ?_)
        · replace h := iteT hc13 h
          refine W_skip ?_
          exact ⟨x12, h, ⟨⟨Pr.le_rfl, Pr.le_rfl, Pr.le_rfl, Pr.le_rfl, Pr.le_rfl, Pr.le_rfl, trivial⟩, Pick.refl _⟩⟩
        · replace h := iteF hc13 h
          refine W_r ?_
          refine rq (out := Pr.lst rApiToken x1) qMove ?_
          refine rq (out := Pr.i64 x2) qMove ?_
          obtain ⟨x14, hx14, h⟩ := bindSome h
          refine rq (out := Pr.bool x14) (qCall (ref12_is_ok x1 x2 ([119, 104, 105, 108, 101] : List UInt8) _ hx14)) ?_
          refine rq (out := Pr.bool x14) qAssign ?_
          exact ⟨x14, h, ⟨⟨Pr.le_rfl, Pr.le_rfl, Pr.le_rfl, Pr.le_rfl, Pr.le_rfl, Pr.le_rfl, trivial⟩, Pick.refl _⟩⟩
theorem F_ref12_block_step (R : rec_ref12_statement_T) (ih : rec_ref12_statement_spec R) (x1 : List ApiToken) (x2 : Int) (x3 : Int) (r : ApiNode × Int × Ref12Wrong) (h : F_ref12_block R x1 x2 x3 = some r) : FnP Tryz.prog 61 [Pr.lst rApiToken x1, Pr.i64 x2, Pr.i64 x3] (Pr.tup [(rApiNode).val r.1, Pr.i64 r.2.1, (rRef12Wrong).val r.2.2]) := by
  refine fn_introR (n := 72) (rs := [.cell 6 24, .tmp 7, .cell 8 59]) Tryz.func61 rfl Tryz.ntmps61 Tryz.results61 (by decide) (fun s0 => ?_)
  unfold F_ref12_block at h
  refine W_rs ?_
  refine rAlloc (R := rApiNode) (z := (ApiNode.mk 0 [] [] 0 0 0 0 0 [])) Tryz.zeroValue24 (fun _ => (by rw [rApiNode_eq]; exact ⟨_, ⟨_, _, rfl, rfl, ⟨_, _, rfl, rfl, ⟨_, _, rfl, rfl, ⟨_, _, rfl, rfl, ⟨_, _, rfl, rfl, ⟨_, _, rfl, rfl, ⟨_, _, rfl, rfl, ⟨_, _, rfl, rfl, ⟨_, _, rfl, ⟨_, rfl, none, 0, rfl, ⟨Nat.le_refl _, fun _ => rfl⟩, .inl rfl⟩, rfl⟩⟩⟩⟩⟩⟩⟩⟩⟩, rfl⟩)) (fun b4 => ?_)
  refine rq (out := Pr.i64 0) qAssign ?_
  refine rAlloc (R := rRef12Wrong) (z := (Ref12Wrong.mk 0 0)) Tryz.zeroValue59 (fun _ => ⟨_, ⟨_, _, rfl, rfl, ⟨_, _, rfl, rfl, rfl⟩⟩, rfl⟩) (fun b5 => ?_)
  refine W_seq ?_
  refine W_rs ?_
  refine rq (out := Pr.lst rApiToken x1) qMove ?_
  refine rq (out := Pr.i64 x2) qMove ?_
  obtain ⟨x6, hx6, h⟩ := bindSome h
  refine rq (out := Pr.bool x6) (qCall (ref12_is_ok x1 x2 ([123] : List UInt8) _ hx6)) ?_
  refine rq (out := Pr.bool (!x6)) qNot ?_
  refine W_cond (b := !x6) rfl (fun hc7 => ?_) (fun hc7 => ?_)
  · replace h := iteT hc7 h
    refine W_rs ?_
    refine rq (out := (rApiNode).val (ApiNode.mk 0 [] [] 0 0 0 0 0 [])) (qBuildR rApiNode_eq st24 rfl) ?_
    refine rq (out := Pr.i64 x2) qMove ?_
    obtain ⟨x8, hx8, h⟩ := bindSome h
    refine rq (out := (rRef12Wrong).val x8) (qCall (ref12_syntax_ok x2 _ hx8)) ?_
    refine rStore (R := rApiNode) (R' := rApiNode) (a := (ApiNode.mk 0 [] [] 0 0 0 0 0 [])) (y := (ApiNode.mk 0 [] [] 0 0 0 0 0 [])) 0 Tryz.sizeOf24 (Upd.refl _) ?_
    refine rq (out := Pr.i64 0) qAssign ?_
    refine rStore (R := rRef12Wrong) (R' := rRef12Wrong) (a := (Ref12Wrong.mk 0 0)) (y := x8) 1 Tryz.sizeOf59 (Upd.refl _) ?_
    obtain rfl := Option.some.inj h
    exact W_ret ⟨rfl, [(rApiNode).val (ApiNode.mk 0 [] [] 0 0 0 0 0 []), Pr.i64 0, (rRef12Wrong).val x8], ⟨yBox 0 ty24 Pr.le_rfl, yT Pr.le_rfl, yBox 1 ty59 Pr.le_rfl, trivial⟩, Pr.le_rfl⟩
  · replace h := iteF hc7 h
    refine W_skip ?_
    refine W_rs ?_
    refine rq (out := Pr.is (.slice none 0 0)) qAssign ?_
    refine W_rs ?_
    refine rq (out := Pr.i64 x2) qMove ?_
    refine rq (out := Pr.i64 (w64 (x2 + 1))) qInt ?_
    refine rq (out := Pr.i64 (w64 (x2 + 1))) qAssign ?_
    refine W_seq ?_
    refine W_block ?_
    obtain ⟨z2l, hz2, h⟩ := bindSome h
    obtain ⟨n2, hN2⟩ := iter_some hz2
    clear hz2
    refine W_after 0 (fun e C => ∃ (x10 : Int), ∃ (x11 : List ApiNode), ∃ (v9 : Value), ref12_block_k1 R x1 x2 x10 x11 = some r ∧ At [(0, Pr.lst rApiToken x1), (1, Pr.i64 x2), (6, Pr.pt b4 0), (8, Pr.pt b5 0), (9, Pr.is v9), (10, Pr.i64 x10)] [Own.box b4 rApiNode (ApiNode.mk 0 [] [] 0 0 0 0 0 []), Own.box b5 rRef12Wrong (Ref12Wrong.mk 0 0), Own.vec v9 rApiNode x11 24] e C) ?_ ?_
    · rintro e C ⟨x10, x11, v9, h, hat1⟩
      refine W_at hat1 ?_
      clear hat1
      unfold ref12_block_k1 at h
      refine W_rs ?_
      refine rq (out := Pr.lst rApiToken x1) qMove ?_
      refine rq (out := Pr.i64 x2) qMove ?_
      refine rq (out := Pr.i64 x10) qMove ?_
      refine rq (out := Pr.i64 (w64 (x10 + 1))) qInt ?_
      refine rq (out := Pr.is v9) qMove ?_
      obtain ⟨x34, hx34, h⟩ := bindSome h
      refine rRel 2 [9, 67] ?_ rfl ⟨rfl, rfl, trivial⟩
      refine rq (out := (rApiNode).val x34) (qCall (ref12_made_ok x1 5 x2 (w64 (x10 + 1)) x11 _ hx34)) ?_
      refine rq (out := Pr.i64 x10) qMove ?_
      refine rq (out := Pr.i64 (w64 (x10 + 1))) qInt ?_
      obtain ⟨x35, hx35, h⟩ := bindSome h
      refine rq (out := (rRef12Wrong).val x35) (qCall (ref12_fine_ok  _ hx35)) ?_
      refine rStore (R := rApiNode) (R' := rApiNode) (a := (ApiNode.mk 0 [] [] 0 0 0 0 0 [])) (y := x34) 0 Tryz.sizeOf24 (Upd.refl _) ?_
      refine rq (out := Pr.i64 (w64 (x10 + 1))) qAssign ?_
      refine rStore (R := rRef12Wrong) (R' := rRef12Wrong) (a := (Ref12Wrong.mk 0 0)) (y := x35) 1 Tryz.sizeOf59 (Upd.refl _) ?_
      obtain rfl := Option.some.inj h
      exact W_ret ⟨rfl, [(rApiNode).val x34, Pr.i64 (w64 (x10 + 1)), (rRef12Wrong).val x35], ⟨yBox 0 ty24 Pr.le_rfl, yT Pr.le_rfl, yBox 1 ty59 Pr.le_rfl, trivial⟩, Pr.le_rfl⟩
    · refine W_nil [9] rApiNode 24 (fun v36 => ?_) ⟨rfl, trivial⟩
      refine W_loop (fun m e C => ∃ (x10 : Int), ∃ (x11 : List ApiNode), ∃ (v9 : Value), IterN (fun s => ref12_block_l2 R x1 x3 s.1 s.2) m (x10, x11) = some z2l ∧ At [(0, Pr.lst rApiToken x1), (1, Pr.i64 x2), (2, Pr.i64 x3), (6, Pr.pt b4 0), (8, Pr.pt b5 0), (9, Pr.is v9), (10, Pr.i64 x10)] [Own.box b4 rApiNode (ApiNode.mk 0 [] [] 0 0 0 0 0 []), Own.box b5 rRef12Wrong (Ref12Wrong.mk 0 0), Own.vec v9 rApiNode x11 24] e C) n2 ⟨w64 (x2 + 1), [], v36, hN2, ⟨⟨Pr.le_rfl, Pr.le_rfl, Pr.le_rfl, Pr.le_rfl, Pr.le_rfl, Pr.le_rfl, Pr.le_rfl, trivial⟩, Pick.refl _⟩⟩ ?_
      clear hN2
      rintro m e C ⟨x10, x11, v9, hN2, hatl2⟩
      refine W_at hatl2 ?_
      clear hatl2
      obtain ⟨m2, w2l, rfl, h2l, hn2, ho2⟩ := iterN_some hN2
      clear hN2
      replace h2l : ref12_block_l2 R x1 x3 x10 x11 = some w2l := h2l
      unfold ref12_block_l2 at h2l
      refine W_seq ?_
      refine W_rs ?_
      refine rq (out := Pr.lst rApiToken x1) qMove ?_
      refine rq (out := Pr.i64 x10) qMove ?_
      obtain ⟨x15, hx15, h2l⟩ := bindSome h2l
      refine rq (out := Pr.bool x15) (qCall (ref12_is_ok x1 x10 ([125] : List UInt8) _ hx15)) ?_
      refine rq (out := Pr.bool (!x15)) qNot ?_
      refine W_cond (b := !x15) rfl (fun hc16 => ?_) (fun hc16 => ?_)
      · replace h2l := iteT hc16 h2l
        refine W_skip ?_
        refine W_block ?_
        refine W_rs ?_
        refine rAlloc (R := rApiNode) (z := (ApiNode.mk 0 [] [] 0 0 0 0 0 [])) Tryz.zeroValue24 (fun _ => (by rw [rApiNode_eq]; exact ⟨_, ⟨_, _, rfl, rfl, ⟨_, _, rfl, rfl, ⟨_, _, rfl, rfl, ⟨_, _, rfl, rfl, ⟨_, _, rfl, rfl, ⟨_, _, rfl, rfl, ⟨_, _, rfl, rfl, ⟨_, _, rfl, rfl, ⟨_, _, rfl, ⟨_, rfl, none, 0, rfl, ⟨Nat.le_refl _, fun _ => rfl⟩, .inl rfl⟩, rfl⟩⟩⟩⟩⟩⟩⟩⟩⟩, rfl⟩)) (fun b17 => ?_)
        refine W_rs ?_
        refine rAlloc (R := rRef12Wrong) (z := (Ref12Wrong.mk 0 0)) Tryz.zeroValue59 (fun _ => ⟨_, ⟨_, _, rfl, rfl, ⟨_, _, rfl, rfl, rfl⟩⟩, rfl⟩) (fun b18 => ?_)
        refine W_rs ?_
        refine rq (out := Pr.i64 0) qAssign ?_
        refine W_join (fun e C => ∃ (x28 : Int), ∃ (x29 : ApiNode), ∃ (x30 : Ref12Wrong), ref12_block_j4 R x11 x28 x29 x30 = some w2l ∧ At [(0, Pr.lst rApiToken x1), (1, Pr.i64 x2), (2, Pr.i64 x3), (6, Pr.pt b4 0), (8, Pr.pt b5 0), (9, Pr.is v9), (11, Pr.pt b17 0), (12, Pr.pt b18 0), (13, Pr.i64 x28)] [Own.box b4 rApiNode (ApiNode.mk 0 [] [] 0 0 0 0 0 []), Own.box b5 rRef12Wrong (Ref12Wrong.mk 0 0), Own.vec v9 rApiNode x11 24, Own.box b17 rApiNode x29, Own.box b18 rRef12Wrong x30] e C) ?_ ?_
        · rintro e C ⟨x28, x29, x30, h2l, hat4⟩
          refine W_at hat4 ?_
          clear hat4
          unfold ref12_block_j4 at h2l
          refine W_seq ?_
          refine W_rs ?_
          refine rq (out := Pr.pt b18 0) (qFieldP fld59_0) ?_
          refine rq (out := Pr.i64 x30.Place) (qLoad (R := rRef12Wrong) (a := x30) (R' := Rp.int .i64) 4 ty3 subRef12Wrong_Place) ?_
          refine rq (out := Pr.bool (decide (x30.Place ≥ 0))) qInt ?_
          refine W_cond (b := decide (x30.Place ≥ 0)) rfl (fun hc31 => ?_) (fun hc31 => ?_)
          · replace h2l := iteT hc31 h2l
            refine W_join (fun e C => ref12_block_j3 R x30 = some w2l ∧ At [(6, Pr.pt b4 0), (7, Pr.i64 0), (8, Pr.pt b5 0)] [Own.box b4 rApiNode (ApiNode.mk 0 [] [] 0 0 0 0 0 []), Own.box b5 rRef12Wrong x30, Own.box b17 rApiNode x29, Own.box b18 rRef12Wrong x30] e C) ?_ ?_
            · rintro e C ⟨h2l, hat3⟩
              refine W_at hat3 ?_
              clear hat3
              unfold ref12_block_j3 at h2l
              obtain rfl := ho2 _ (Option.some.inj h2l).symm
              replace h : some ((ApiNode.mk 0 [] [] 0 0 0 0 0 []), 0, x30) = some r := h
              obtain rfl := Option.some.inj h
              exact W_ret ⟨rfl, [(rApiNode).val (ApiNode.mk 0 [] [] 0 0 0 0 0 []), Pr.i64 0, (rRef12Wrong).val x30], ⟨yBox 0 ty24 Pr.le_rfl, yT Pr.le_rfl, yBox 1 ty59 Pr.le_rfl, trivial⟩, Pr.le_rfl⟩
            · refine W_drawEx [(2, 0, Own.box b4 rApiNode (ApiNode.mk 0 [] [] 0 0 0 0 0 [])), (4, 1, Own.box b5 rRef12Wrong x30)] [Own.box b4 rApiNode (ApiNode.mk 0 [] [] 0 0 0 0 0 []), Own.box b5 rRef12Wrong x30, Own.vec v9 rApiNode x11 24, Own.box b17 rApiNode x29, Own.box b18 rRef12Wrong x30] hmx (by kernel_rfl) (by kernel_rfl) (show ([2, 4] : List Nat).Nodup by decide) (show ([0, 1] : List Nat).Nodup by decide) rfl rfl ?_
              refine eq1 (out := (rApiNode).val (ApiNode.mk 0 [] [] 0 0 0 0 0 [])) (fun C2 hC => (qBuildR rApiNode_eq st24 rfl)) ?_
              refine eq1 (out := (rRef12Wrong).val x30) (fun C2 hC => (qLoad (R := rRef12Wrong) (a := x30) (R' := rRef12Wrong) 4 ty59 (Sub.refl _) (hi := (hC 4 (by kernel_rfl)).trans rfl))) ?_
              refine eqS (fun C2 hC => sStore (R := rApiNode) (R' := rApiNode) (a := (ApiNode.mk 0 [] [] 0 0 0 0 0 [])) (y := (ApiNode.mk 0 [] [] 0 0 0 0 0 [])) 0 Tryz.sizeOf24 (Upd.refl _) ((hC 0 (by kernel_rfl)).trans rfl)) ?_
              refine eq1 (out := Pr.i64 0) (fun C2 hC => qAssign) ?_
              refine eqS (fun C2 hC => sStore (R := rRef12Wrong) (R' := rRef12Wrong) (a := (Ref12Wrong.mk 0 0)) (y := x30) 1 Tryz.sizeOf59 (Upd.refl _) ((hC 1 (by kernel_rfl)).trans rfl)) ?_
              exact ⟨h2l, ⟨⟨Pr.le_rfl, Pr.le_rfl, Pr.le_rfl, trivial⟩, Pick.of [0, 1, 3, 4] rfl⟩⟩
          · replace h2l := iteF hc31 h2l
            refine W_skip ?_
            refine W_rs ?_
            refine rq (out := Pr.is v9) qMove ?_
            refine rq (out := (rApiNode).val x29) (qLoad (R := rApiNode) (a := x29) (R' := rApiNode) 3 ty24 (Sub.refl _)) ?_
            refine rq (out := Pr.lst rApiNode ([x29] : List ApiNode)) (qBuildSlice1 (R := rApiNode) (a := x29) el22 (Nat.le_of_ble_eq_true rfl)) ?_
            obtain ⟨x32, hx32, h2l⟩ := bindSome h2l
            refine rAppend' 2 el22 hx32 (fun v33 => ?_)
            refine rq (out := Pr.is v33) qAssign ?_
            refine W_r ?_
            refine rq (out := Pr.i64 x28) qMove ?_
            refine rq (out := Pr.i64 x28) qAssign ?_
            exact ⟨m2, Nat.lt_succ_self _, x28, x32, v33, hn2 _ (Option.some.inj h2l).symm, ⟨⟨Pr.le_rfl, Pr.le_rfl, Pr.le_rfl, Pr.le_rfl, Pr.le_rfl, Pr.le_rfl, Pr.le_rfl, trivial⟩, Pick.of [0, 1, 2] rfl⟩⟩
        · refine W_rs ?_
          refine rq (out := Pr.lst rApiToken x1) qMove ?_
          refine rq (out := Pr.i64 x10) qMove ?_
          obtain ⟨x19, hx19, h2l⟩ := bindSome h2l
          refine rq (out := Pr.bool x19) (qCall (ref12_local_ok x1 x10 _ hx19)) ?_
          refine W_cond (b := x19) rfl (fun hc20 => ?_) (fun hc20 => ?_)
          · replace h2l := iteT hc20 h2l
            refine W_rs ?_
            refine rq (out := Pr.lst rApiToken x1) qMove ?_
            refine rq (out := Pr.i64 x10) qMove ?_
            refine rq (out := Pr.i64 x3) qMove ?_
            refine rq (out := Pr.i64 (w64 (x3 + 1))) qInt ?_
            obtain ⟨⟨x21, x22, x23⟩, hx21, h2l⟩ := bindSome h2l
            refine rq (out := Pr.tup [(rApiNode).val x21, Pr.i64 x22, (rRef12Wrong).val x23]) (qCall (ref12_locals_ok x1 x10 (w64 (x3 + 1)) _ hx21)) ?_
            refine rq (out := Pr.tup [(rApiNode).val x21, Pr.i64 x22, (rRef12Wrong).val x23]) qMove ?_
            refine rq (out := (rApiNode).val x21) qExtract ?_
            refine rq (out := Pr.i64 x22) qExtract ?_
            refine rq (out := (rRef12Wrong).val x23) qExtract ?_
            refine rStore (R := rApiNode) (R' := rApiNode) (a := (ApiNode.mk 0 [] [] 0 0 0 0 0 [])) (y := x21) 3 Tryz.sizeOf24 (Upd.refl _) ?_
            refine rq (out := Pr.i64 x22) qAssign ?_
            refine rStore (R := rRef12Wrong) (R' := rRef12Wrong) (a := (Ref12Wrong.mk 0 0)) (y := x23) 4 Tryz.sizeOf59 (Upd.refl _) ?_
            refine W_rs ?_
            refine rq (out := Pr.i64 x3) qMove ?_
            refine rq (out := Pr.i64 (w64 (x3 + 1))) qInt ?_
            refine rq (out := Pr.bool (decide ((w64 (x3 + 1)) > 60))) qInt ?_
            refine W_cond (b := decide ((w64 (x3 + 1)) > 60)) rfl (fun hc24 => ?_) (fun hc24 => ?_)
            · replace h2l := iteT hc24 h2l
              refine W_r ?_
              refine rq (out := Pr.i64 x10) qMove ?_
              refine rq (out := (rRef12Wrong).val (Ref12Wrong.mk x10 2)) (qBuild st59 ⟨(Ref12Wrong.mk x10 0), ⟨_, rfl, rfl, fun j fd hj hf => by match j, hj with | 0, h => exact absurd rfl h | 1, _ => cases hf; rfl | _ + 2, _ => cases hf⟩, ⟨(Ref12Wrong.mk x10 2), ⟨_, rfl, rfl, fun j fd hj hf => by match j, hj with | 0, _ => cases hf; rfl | 1, h => exact absurd rfl h | _ + 2, _ => cases hf⟩, rfl⟩⟩) ?_
              refine rStore (R := rRef12Wrong) (R' := rRef12Wrong) (a := x23) (y := (Ref12Wrong.mk x10 2)) 4 Tryz.sizeOf59 (Upd.refl _) ?_
              exact ⟨x22, x21, (Ref12Wrong.mk x10 2), h2l, ⟨⟨Pr.le_rfl, Pr.le_rfl, Pr.le_rfl, Pr.le_rfl, Pr.le_rfl, Pr.le_rfl, Pr.le_rfl, Pr.le_rfl, Pr.le_rfl, trivial⟩, Pick.refl _⟩⟩
            · replace h2l := iteF hc24 h2l
              refine W_skip ?_
              exact ⟨x22, x21, x23, h2l, ⟨⟨Pr.le_rfl, Pr.le_rfl, Pr.le_rfl, Pr.le_rfl, Pr.le_rfl, Pr.le_rfl, Pr.le_rfl, Pr.le_rfl, Pr.le_rfl, trivial⟩, Pick.refl _⟩⟩
          · replace h2l := iteF hc20 h2l
            refine W_r ?_
            refine rq (out := Pr.lst rApiToken x1) qMove ?_
            refine rq (out := Pr.i64 x10) qMove ?_
            refine rq (out := Pr.i64 x3) qMove ?_
            refine rq (out := Pr.i64 (w64 (x3 + 1))) qInt ?_
            obtain ⟨⟨x25, x26, x27⟩, hx25, h2l⟩ := bindSome h2l
            refine rq (out := Pr.tup [(rApiNode).val x25, Pr.i64 x26, (rRef12Wrong).val x27]) (qCall (ih.1 x1 x10 (w64 (x3 + 1)) _ hx25)) ?_
            refine rq (out := Pr.tup [(rApiNode).val x25, Pr.i64 x26, (rRef12Wrong).val x27]) qMove ?_
            refine rq (out := (rApiNode).val x25) qExtract ?_
            refine rq (out := Pr.i64 x26) qExtract ?_
            refine rq (out := (rRef12Wrong).val x27) qExtract ?_
            refine rStore (R := rApiNode) (R' := rApiNode) (a := (ApiNode.mk 0 [] [] 0 0 0 0 0 [])) (y := x25) 3 Tryz.sizeOf24 (Upd.refl _) ?_
            refine rq (out := Pr.i64 x26) qAssign ?_
            refine rStore (R := rRef12Wrong) (R' := rRef12Wrong) (a := (Ref12Wrong.mk 0 0)) (y := x27) 4 Tryz.sizeOf59 (Upd.refl _) ?_
            exact ⟨x26, x25, x27, h2l, ⟨⟨Pr.le_rfl, Pr.le_rfl, Pr.le_rfl, Pr.le_rfl, Pr.le_rfl, Pr.le_rfl, Pr.le_rfl, Pr.le_rfl, Pr.le_rfl, trivial⟩, Pick.refl _⟩⟩
      · replace h2l := iteF hc16 h2l
        refine W_exit ?_
        obtain rfl := ho2 _ (Option.some.inj h2l).symm
        exact ⟨x10, x11, v9, h, ⟨⟨Pr.le_rfl, Pr.le_rfl, Pr.le_rfl, Pr.le_rfl, Pr.le_rfl, Pr.le_rfl, trivial⟩, Pick.refl _⟩⟩
theorem F_ref12_guarded_step (R : rec_ref12_statement_T) (ih : rec_ref12_statement_spec R) (x1 : List ApiToken) (x2 : Int) (x3 : Int) (r : ApiNode × Int × Ref12Wrong) (h : F_ref12_guarded R x1 x2 x3 = some r) : FnP Tryz.prog 65 [Pr.lst rApiToken x1, Pr.i64 x2, Pr.i64 x3] (Pr.tup [(rApiNode).val r.1, Pr.i64 r.2.1, (rRef12Wrong).val r.2.2]) := by
  refine fn_introR (n := 91) (rs := [.cell 6 24, .tmp 7, .cell 8 59]) Tryz.func65 rfl Tryz.ntmps65 Tryz.results65 (by decide) (fun s0 => ?_)
  unfold F_ref12_guarded at h
  refine W_rs ?_
  refine rAlloc (R := rApiNode) (z := (ApiNode.mk 0 [] [] 0 0 0 0 0 [])) Tryz.zeroValue24 (fun _ => (by rw [rApiNode_eq]; exact ⟨_, ⟨_, _, rfl, rfl, ⟨_, _, rfl, rfl, ⟨_, _, rfl, rfl, ⟨_, _, rfl, rfl, ⟨_, _, rfl, rfl, ⟨_, _, rfl, rfl, ⟨_, _, rfl, rfl, ⟨_, _, rfl, rfl, ⟨_, _, rfl, ⟨_, rfl, none, 0, rfl, ⟨Nat.le_refl _, fun _ => rfl⟩, .inl rfl⟩, rfl⟩⟩⟩⟩⟩⟩⟩⟩⟩, rfl⟩)) (fun b4 => ?_)
  refine rq (out := Pr.i64 0) qAssign ?_
  refine rAlloc (R := rRef12Wrong) (z := (Ref12Wrong.mk 0 0)) Tryz.zeroValue59 (fun _ => ⟨_, ⟨_, _, rfl, rfl, ⟨_, _, rfl, rfl, rfl⟩⟩, rfl⟩) (fun b5 => ?_)
  refine W_rs ?_
  refine rq (out := Pr.lst rApiToken x1) qMove ?_
  refine rq (out := Pr.i64 x2) qMove ?_
  refine rq (out := Pr.i64 (w64 (x2 + 1))) qInt ?_
  refine rq (out := Pr.i64 x3) qMove ?_
  refine rq (out := Pr.i64 (w64 (x3 + 1))) qInt ?_
  obtain ⟨⟨x6, x7, x8⟩, hx6, h⟩ := bindSome h
  refine rq (out := Pr.tup [(rApiNode).val x6, Pr.i64 x7, (rRef12Wrong).val x8]) (qCall (ref12_bracketed_ok x1 (w64 (x2 + 1)) (w64 (x3 + 1)) _ hx6)) ?_
  refine rq (out := Pr.tup [(rApiNode).val x6, Pr.i64 x7, (rRef12Wrong).val x8]) qMove ?_
  refine rq (out := (rApiNode).val x6) qExtract ?_
  refine rq (out := Pr.i64 x7) qExtract ?_
  refine rq (out := (rRef12Wrong).val x8) qExtract ?_
  refine rAlloc (R := rApiNode) (z := (ApiNode.mk 0 [] [] 0 0 0 0 0 [])) Tryz.zeroValue24 (fun _ => (by rw [rApiNode_eq]; exact ⟨_, ⟨_, _, rfl, rfl, ⟨_, _, rfl, rfl, ⟨_, _, rfl, rfl, ⟨_, _, rfl, rfl, ⟨_, _, rfl, rfl, ⟨_, _, rfl, rfl, ⟨_, _, rfl, rfl, ⟨_, _, rfl, rfl, ⟨_, _, rfl, ⟨_, rfl, none, 0, rfl, ⟨Nat.le_refl _, fun _ => rfl⟩, .inl rfl⟩, rfl⟩⟩⟩⟩⟩⟩⟩⟩⟩, rfl⟩)) (fun b9 => ?_)
  refine rAlloc (R := rRef12Wrong) (z := (Ref12Wrong.mk 0 0)) Tryz.zeroValue59 (fun _ => ⟨_, ⟨_, _, rfl, rfl, ⟨_, _, rfl, rfl, rfl⟩⟩, rfl⟩) (fun b10 => ?_)
  refine rStore (R := rApiNode) (R' := rApiNode) (a := (ApiNode.mk 0 [] [] 0 0 0 0 0 [])) (y := x6) 2 Tryz.sizeOf24 (Upd.refl _) ?_
  refine rq (out := Pr.i64 x7) qAssign ?_
  refine rStore (R := rRef12Wrong) (R' := rRef12Wrong) (a := (Ref12Wrong.mk 0 0)) (y := x8) 3 Tryz.sizeOf59 (Upd.refl _) ?_
  refine W_seq ?_
  refine W_rs ?_
  refine rq (out := Pr.pt b10 0) (qFieldP fld59_0) ?_
  refine rq (out := Pr.i64 x8.Place) (qLoad (R := rRef12Wrong) (a := x8) (R' := Rp.int .i64) 3 ty3 subRef12Wrong_Place) ?_
  refine rq (out := Pr.bool (decide (x8.Place ≥ 0))) qInt ?_
  refine W_cond (b := decide (x8.Place ≥ 0)) rfl (fun hc11 => ?_) (fun hc11 => ?_)
  · replace h := iteT hc11 h
    refine W_join (fun e C => ref12_guarded_j1 R x8 = some r ∧ At [(6, Pr.pt b4 0), (7, Pr.i64 0), (8, Pr.pt b5 0)] [Own.box b4 rApiNode (ApiNode.mk 0 [] [] 0 0 0 0 0 []), Own.box b5 rRef12Wrong x8, Own.box b9 rApiNode x6, Own.box b10 rRef12Wrong x8] e C) ?_ ?_
    · rintro e C ⟨h, hat1⟩
      refine W_at hat1 ?_
      clear hat1
      unfold ref12_guarded_j1 at h
      obtain rfl := Option.some.inj h
      exact W_ret ⟨rfl, [(rApiNode).val (ApiNode.mk 0 [] [] 0 0 0 0 0 []), Pr.i64 0, (rRef12Wrong).val x8], ⟨yBox 0 ty24 Pr.le_rfl, yT Pr.le_rfl, yBox 1 ty59 Pr.le_rfl, trivial⟩, Pr.le_rfl⟩
    · refine W_drawEx [(2, 0, Own.box b4 rApiNode (ApiNode.mk 0 [] [] 0 0 0 0 0 [])), (4, 1, Own.box b5 rRef12Wrong x8)] [Own.box b4 rApiNode (ApiNode.mk 0 [] [] 0 0 0 0 0 []), Own.box b5 rRef12Wrong x8, Own.box b9 rApiNode x6, Own.box b10 rRef12Wrong x8] hmx (by kernel_rfl) (by kernel_rfl) (show ([2, 4] : List Nat).Nodup by decide) (show ([0, 1] : List Nat).Nodup by decide) rfl rfl ?_
      refine eq1 (out := (rApiNode).val (ApiNode.mk 0 [] [] 0 0 0 0 0 [])) (fun C2 hC => (qBuildR rApiNode_eq st24 rfl)) ?_
      refine eq1 (out := (rRef12Wrong).val x8) (fun C2 hC => (qLoad (R := rRef12Wrong) (a := x8) (R' := rRef12Wrong) 3 ty59 (Sub.refl _) (hi := (hC 3 (by kernel_rfl)).trans rfl))) ?_
      refine eqS (fun C2 hC => sStore (R := rApiNode) (R' := rApiNode) (a := (ApiNode.mk 0 [] [] 0 0 0 0 0 [])) (y := (ApiNode.mk 0 [] [] 0 0 0 0 0 [])) 0 Tryz.sizeOf24 (Upd.refl _) ((hC 0 (by kernel_rfl)).trans rfl)) ?_
      refine eq1 (out := Pr.i64 0) (fun C2 hC => qAssign) ?_
      refine eqS (fun C2 hC => sStore (R := rRef12Wrong) (R' := rRef12Wrong) (a := (Ref12Wrong.mk 0 0)) (y := x8) 1 Tryz.sizeOf59 (Upd.refl _) ((hC 1 (by kernel_rfl)).trans rfl)) ?_
      exact ⟨h, ⟨⟨Pr.le_rfl, Pr.le_rfl, Pr.le_rfl, trivial⟩, Pick.refl _⟩⟩
  · replace h := iteF hc11 h
    refine W_skip ?_
    refine W_rs ?_
    refine rq (out := Pr.lst rApiToken x1) qMove ?_
    refine rq (out := Pr.i64 x7) qMove ?_
    refine rq (out := Pr.i64 x3) qMove ?_
    refine rq (out := Pr.i64 (w64 (x3 + 1))) qInt ?_
    obtain ⟨⟨x12, x13, x14⟩, hx12, h⟩ := bindSome h
    refine rq (out := Pr.tup [(rApiNode).val x12, Pr.i64 x13, (rRef12Wrong).val x14]) (qCall (ih.1 x1 x7 (w64 (x3 + 1)) _ hx12)) ?_
    refine rq (out := Pr.tup [(rApiNode).val x12, Pr.i64 x13, (rRef12Wrong).val x14]) qMove ?_
    refine rq (out := (rApiNode).val x12) qExtract ?_
    refine rq (out := Pr.i64 x13) qExtract ?_
    refine rq (out := (rRef12Wrong).val x14) qExtract ?_
    refine rAlloc (R := rApiNode) (z := (ApiNode.mk 0 [] [] 0 0 0 0 0 [])) Tryz.zeroValue24 (fun _ => (by rw [rApiNode_eq]; exact ⟨_, ⟨_, _, rfl, rfl, ⟨_, _, rfl, rfl, ⟨_, _, rfl, rfl, ⟨_, _, rfl, rfl, ⟨_, _, rfl, rfl, ⟨_, _, rfl, rfl, ⟨_, _, rfl, rfl, ⟨_, _, rfl, rfl, ⟨_, _, rfl, ⟨_, rfl, none, 0, rfl, ⟨Nat.le_refl _, fun _ => rfl⟩, .inl rfl⟩, rfl⟩⟩⟩⟩⟩⟩⟩⟩⟩, rfl⟩)) (fun b15 => ?_)
    refine rAlloc (R := rRef12Wrong) (z := (Ref12Wrong.mk 0 0)) Tryz.zeroValue59 (fun _ => ⟨_, ⟨_, _, rfl, rfl, ⟨_, _, rfl, rfl, rfl⟩⟩, rfl⟩) (fun b16 => ?_)
    refine rStore (R := rApiNode) (R' := rApiNode) (a := (ApiNode.mk 0 [] [] 0 0 0 0 0 [])) (y := x12) 4 Tryz.sizeOf24 (Upd.refl _) ?_
    refine rq (out := Pr.i64 x13) qAssign ?_
    refine rStore (R := rRef12Wrong) (R' := rRef12Wrong) (a := (Ref12Wrong.mk 0 0)) (y := x14) 5 Tryz.sizeOf59 (Upd.refl _) ?_
    refine W_seq ?_
    refine W_rs ?_
    refine rq (out := Pr.pt b16 0) (qFieldP fld59_0) ?_
    refine rq (out := Pr.i64 x14.Place) (qLoad (R := rRef12Wrong) (a := x14) (R' := Rp.int .i64) 5 ty3 subRef12Wrong_Place) ?_
    refine rq (out := Pr.bool (decide (x14.Place ≥ 0))) qInt ?_
    refine W_cond (b := decide (x14.Place ≥ 0)) rfl (fun hc17 => ?_) (fun hc17 => ?_)
    · replace h := iteT hc17 h
      refine W_join (fun e C => ref12_guarded_j2 R x14 = some r ∧ At [(6, Pr.pt b4 0), (7, Pr.i64 0), (8, Pr.pt b5 0)] [Own.box b4 rApiNode (ApiNode.mk 0 [] [] 0 0 0 0 0 []), Own.box b5 rRef12Wrong x14, Own.box b9 rApiNode x6, Own.box b10 rRef12Wrong x8, Own.box b15 rApiNode x12, Own.box b16 rRef12Wrong x14] e C) ?_ ?_
      · rintro e C ⟨h, hat2⟩
        refine W_at hat2 ?_
        clear hat2
        unfold ref12_guarded_j2 at h
        obtain rfl := Option.some.inj h
        exact W_ret ⟨rfl, [(rApiNode).val (ApiNode.mk 0 [] [] 0 0 0 0 0 []), Pr.i64 0, (rRef12Wrong).val x14], ⟨yBox 0 ty24 Pr.le_rfl, yT Pr.le_rfl, yBox 1 ty59 Pr.le_rfl, trivial⟩, Pr.le_rfl⟩
      · refine W_drawEx [(2, 0, Own.box b4 rApiNode (ApiNode.mk 0 [] [] 0 0 0 0 0 [])), (4, 1, Own.box b5 rRef12Wrong x14)] [Own.box b4 rApiNode (ApiNode.mk 0 [] [] 0 0 0 0 0 []), Own.box b5 rRef12Wrong x14, Own.box b9 rApiNode x6, Own.box b10 rRef12Wrong x8, Own.box b15 rApiNode x12, Own.box b16 rRef12Wrong x14] hmx (by kernel_rfl) (by kernel_rfl) (show ([2, 4] : List Nat).Nodup by decide) (show ([0, 1] : List Nat).Nodup by decide) rfl rfl ?_
        refine eq1 (out := (rApiNode).val (ApiNode.mk 0 [] [] 0 0 0 0 0 [])) (fun C2 hC => (qBuildR rApiNode_eq st24 rfl)) ?_
        refine eq1 (out := (rRef12Wrong).val x14) (fun C2 hC => (qLoad (R := rRef12Wrong) (a := x14) (R' := rRef12Wrong) 5 ty59 (Sub.refl _) (hi := (hC 5 (by kernel_rfl)).trans rfl))) ?_
        refine eqS (fun C2 hC => sStore (R := rApiNode) (R' := rApiNode) (a := (ApiNode.mk 0 [] [] 0 0 0 0 0 [])) (y := (ApiNode.mk 0 [] [] 0 0 0 0 0 [])) 0 Tryz.sizeOf24 (Upd.refl _) ((hC 0 (by kernel_rfl)).trans rfl)) ?_
        refine eq1 (out := Pr.i64 0) (fun C2 hC => qAssign) ?_
        refine eqS (fun C2 hC => sStore (R := rRef12Wrong) (R' := rRef12Wrong) (a := (Ref12Wrong.mk 0 0)) (y := x14) 1 Tryz.sizeOf59 (Upd.refl _) ((hC 1 (by kernel_rfl)).trans rfl)) ?_
        exact ⟨h, ⟨⟨Pr.le_rfl, Pr.le_rfl, Pr.le_rfl, trivial⟩, Pick.refl _⟩⟩
    · replace h := iteF hc17 h
      refine W_skip ?_
      refine W_rs ?_
      refine rq (out := (rApiNode).val x6) (qLoad (R := rApiNode) (a := x6) (R' := rApiNode) 2 ty24 (Sub.refl _)) ?_
      refine rq (out := (rApiNode).val x12) (qLoad (R := rApiNode) (a := x12) (R' := rApiNode) 4 ty24 (Sub.refl _)) ?_
      refine rBuildV (R := rApiNode) (ls := ([x6, x12] : List ApiNode)) el22 (Nat.le_of_ble_eq_true rfl) ⟨rfl, rfl⟩ ⟨rfl, rfl, trivial⟩ (fun v18 => ?_)
      refine rq (out := Pr.is v18) qAssign ?_
      refine W_seq ?_
      refine W_rs ?_
      refine rq (out := Pr.lst rApiToken x1) qMove ?_
      refine rq (out := Pr.i64 x2) qMove ?_
      obtain ⟨x19, hx19, h⟩ := bindSome h
      refine rq (out := Pr.bool x19) (qCall (ref12_is_ok x1 x2 ([119, 104, 105, 108, 101] : List UInt8) _ hx19)) ?_
      refine W_cond (b := x19) rfl (fun hc20 => ?_) (fun hc20 => ?_)
      · replace h := iteT hc20 h
        refine W_rs ?_
        refine rq (out := Pr.lst rApiToken x1) qMove ?_
        refine rq (out := Pr.i64 x2) qMove ?_
        refine rq (out := Pr.i64 x13) qMove ?_
        refine rq (out := Pr.is v18) qMove ?_
        obtain ⟨x21, hx21, h⟩ := bindSome h
        refine rRel 6 [15, 57] ?_ rfl ⟨rfl, rfl, trivial⟩
        refine rq (out := (rApiNode).val x21) (qCall (ref12_made_ok x1 10 x2 x13 ([x6, x12] : List ApiNode) _ hx21)) ?_
        refine rq (out := Pr.i64 x13) qMove ?_
        obtain ⟨x22, hx22, h⟩ := bindSome h
        refine rq (out := (rRef12Wrong).val x22) (qCall (ref12_fine_ok  _ hx22)) ?_
        refine rStore (R := rApiNode) (R' := rApiNode) (a := (ApiNode.mk 0 [] [] 0 0 0 0 0 [])) (y := x21) 0 Tryz.sizeOf24 (Upd.refl _) ?_
        refine rq (out := Pr.i64 x13) qAssign ?_
        refine rStore (R := rRef12Wrong) (R' := rRef12Wrong) (a := (Ref12Wrong.mk 0 0)) (y := x22) 1 Tryz.sizeOf59 (Upd.refl _) ?_
        obtain rfl := Option.some.inj h
        exact W_ret ⟨rfl, [(rApiNode).val x21, Pr.i64 x13, (rRef12Wrong).val x22], ⟨yBox 0 ty24 Pr.le_rfl, yT Pr.le_rfl, yBox 1 ty59 Pr.le_rfl, trivial⟩, Pr.le_rfl⟩
      · replace h := iteF hc20 h
        refine W_skip ?_
        refine W_join (fun e C => ∃ (x33 : Int), ∃ (x35 : List ApiNode), ∃ (v34 : Value), ref12_guarded_j3 R x1 x2 x33 x35 = some r ∧ At [(0, Pr.lst rApiToken x1), (1, Pr.i64 x2), (6, Pr.pt b4 0), (8, Pr.pt b5 0), (13, Pr.i64 x33), (15, Pr.is v34)] [Own.box b4 rApiNode (ApiNode.mk 0 [] [] 0 0 0 0 0 []), Own.box b5 rRef12Wrong (Ref12Wrong.mk 0 0), Own.box b9 rApiNode x6, Own.box b10 rRef12Wrong x8, Own.box b15 rApiNode x12, Own.box b16 rRef12Wrong x14, Own.vec v34 rApiNode x35 24] e C) ?_ ?_
        · rintro e C ⟨x33, x35, v34, h, hat3⟩
          refine W_at hat3 ?_
          clear hat3
          unfold ref12_guarded_j3 at h
          refine W_rs ?_
          refine rq (out := Pr.lst rApiToken x1) qMove ?_
          refine rq (out := Pr.i64 x2) qMove ?_
          refine rq (out := Pr.i64 x33) qMove ?_
          refine rq (out := Pr.is v34) qMove ?_
          obtain ⟨x36, hx36, h⟩ := bindSome h
          refine rRel 6 [15, 87] ?_ rfl ⟨rfl, rfl, trivial⟩
          refine rq (out := (rApiNode).val x36) (qCall (ref12_made_ok x1 9 x2 x33 x35 _ hx36)) ?_
          refine rq (out := Pr.i64 x33) qMove ?_
          obtain ⟨x37, hx37, h⟩ := bindSome h
          refine rq (out := (rRef12Wrong).val x37) (qCall (ref12_fine_ok  _ hx37)) ?_
          refine rStore (R := rApiNode) (R' := rApiNode) (a := (ApiNode.mk 0 [] [] 0 0 0 0 0 [])) (y := x36) 0 Tryz.sizeOf24 (Upd.refl _) ?_
          refine rq (out := Pr.i64 x33) qAssign ?_
          refine rStore (R := rRef12Wrong) (R' := rRef12Wrong) (a := (Ref12Wrong.mk 0 0)) (y := x37) 1 Tryz.sizeOf59 (Upd.refl _) ?_
          obtain rfl := Option.some.inj h
          exact W_ret ⟨rfl, [(rApiNode).val x36, Pr.i64 x33, (rRef12Wrong).val x37], ⟨yBox 0 ty24 Pr.le_rfl, yT Pr.le_rfl, yBox 1 ty59 Pr.le_rfl, trivial⟩, Pr.le_rfl⟩
        · refine W_rs ?_
          refine rq (out := Pr.lst rApiToken x1) qMove ?_
          refine rq (out := Pr.i64 x13) qMove ?_
          obtain ⟨x23, hx23, h⟩ := bindSome h
          refine rq (out := Pr.bool x23) (qCall (ref12_is_ok x1 x13 ([101, 108, 115, 101] : List UInt8) _ hx23)) ?_
          refine W_cond (b := x23) rfl (fun hc24 => ?_) (fun hc24 => ?_)
          · replace h := iteT hc24 h
            refine W_rs ?_
            refine rq (out := Pr.lst rApiToken x1) qMove ?_
            refine rq (out := Pr.i64 x13) qMove ?_
            refine rq (out := Pr.i64 (w64 (x13 + 1))) qInt ?_
            refine rq (out := Pr.i64 x3) qMove ?_
            refine rq (out := Pr.i64 (w64 (x3 + 1))) qInt ?_
            obtain ⟨⟨x25, x26, x27⟩, hx25, h⟩ := bindSome h
            refine rq (out := Pr.tup [(rApiNode).val x25, Pr.i64 x26, (rRef12Wrong).val x27]) (qCall (ih.1 x1 (w64 (x13 + 1)) (w64 (x3 + 1)) _ hx25)) ?_
            refine rq (out := Pr.tup [(rApiNode).val x25, Pr.i64 x26, (rRef12Wrong).val x27]) qMove ?_
            refine rq (out := (rApiNode).val x25) qExtract ?_
            refine rq (out := Pr.i64 x26) qExtract ?_
            refine rq (out := (rRef12Wrong).val x27) qExtract ?_
            refine rAlloc (R := rApiNode) (z := (ApiNode.mk 0 [] [] 0 0 0 0 0 [])) Tryz.zeroValue24 (fun _ => (by rw [rApiNode_eq]; exact ⟨_, ⟨_, _, rfl, rfl, ⟨_, _, rfl, rfl, ⟨_, _, rfl, rfl, ⟨_, _, rfl, rfl, ⟨_, _, rfl, rfl, ⟨_, _, rfl, rfl, ⟨_, _, rfl, rfl, ⟨_, _, rfl, rfl, ⟨_, _, rfl, ⟨_, rfl, none, 0, rfl, ⟨Nat.le_refl _, fun _ => rfl⟩, .inl rfl⟩, rfl⟩⟩⟩⟩⟩⟩⟩⟩⟩, rfl⟩)) (fun b28 => ?_)
            refine rAlloc (R := rRef12Wrong) (z := (Ref12Wrong.mk 0 0)) Tryz.zeroValue59 (fun _ => ⟨_, ⟨_, _, rfl, rfl, ⟨_, _, rfl, rfl, rfl⟩⟩, rfl⟩) (fun b29 => ?_)
            refine rStore (R := rApiNode) (R' := rApiNode) (a := (ApiNode.mk 0 [] [] 0 0 0 0 0 [])) (y := x25) 7 Tryz.sizeOf24 (Upd.refl _) ?_
            refine rq (out := Pr.i64 x26) qAssign ?_
            refine rStore (R := rRef12Wrong) (R' := rRef12Wrong) (a := (Ref12Wrong.mk 0 0)) (y := x27) 8 Tryz.sizeOf59 (Upd.refl _) ?_
            refine W_seq ?_
            refine W_rs ?_
            refine rq (out := Pr.pt b29 0) (qFieldP fld59_0) ?_
            refine rq (out := Pr.i64 x27.Place) (qLoad (R := rRef12Wrong) (a := x27) (R' := Rp.int .i64) 8 ty3 subRef12Wrong_Place) ?_
            refine rq (out := Pr.bool (decide (x27.Place ≥ 0))) qInt ?_
            refine W_cond (b := decide (x27.Place ≥ 0)) rfl (fun hc30 => ?_) (fun hc30 => ?_)
            · replace h := iteT hc30 h
              refine W_join (fun e C => ref12_guarded_j4 R x27 = some r ∧ At [(6, Pr.pt b4 0), (7, Pr.i64 0), (8, Pr.pt b5 0)] [Own.box b4 rApiNode (ApiNode.mk 0 [] [] 0 0 0 0 0 []), Own.box b5 rRef12Wrong x27, Own.box b9 rApiNode x6, Own.box b10 rRef12Wrong x8, Own.box b15 rApiNode x12, Own.box b16 rRef12Wrong x14, Own.box b28 rApiNode x25, Own.box b29 rRef12Wrong x27] e C) ?_ ?_
              · rintro e C ⟨h, hat4⟩
                refine W_at hat4 ?_
                clear hat4
                unfold ref12_guarded_j4 at h
                obtain rfl := Option.some.inj h
                exact W_ret ⟨rfl, [(rApiNode).val (ApiNode.mk 0 [] [] 0 0 0 0 0 []), Pr.i64 0, (rRef12Wrong).val x27], ⟨yBox 0 ty24 Pr.le_rfl, yT Pr.le_rfl, yBox 1 ty59 Pr.le_rfl, trivial⟩, Pr.le_rfl⟩
              · refine W_drawEx [(2, 0, Own.box b4 rApiNode (ApiNode.mk 0 [] [] 0 0 0 0 0 [])), (4, 1, Own.box b5 rRef12Wrong x27)] [Own.box b4 rApiNode (ApiNode.mk 0 [] [] 0 0 0 0 0 []), Own.box b5 rRef12Wrong x27, Own.box b9 rApiNode x6, Own.box b10 rRef12Wrong x8, Own.box b15 rApiNode x12, Own.box b16 rRef12Wrong x14, Own.vec v18 rApiNode ([x6, x12] : List ApiNode) 24, Own.box b28 rApiNode x25, Own.box b29 rRef12Wrong x27] hmx (by kernel_rfl) (by kernel_rfl) (show ([2, 4] : List Nat).Nodup by decide) (show ([0, 1] : List Nat).Nodup by decide) rfl rfl ?_
                refine eq1 (out := (rApiNode).val (ApiNode.mk 0 [] [] 0 0 0 0 0 [])) (fun C2 hC => (qBuildR rApiNode_eq st24 rfl)) ?_
                refine eq1 (out := (rRef12Wrong).val x27) (fun C2 hC => (qLoad (R := rRef12Wrong) (a := x27) (R' := rRef12Wrong) 8 ty59 (Sub.refl _) (hi := (hC 8 (by kernel_rfl)).trans rfl))) ?_
                refine eqS (fun C2 hC => sStore (R := rApiNode) (R' := rApiNode) (a := (ApiNode.mk 0 [] [] 0 0 0 0 0 [])) (y := (ApiNode.mk 0 [] [] 0 0 0 0 0 [])) 0 Tryz.sizeOf24 (Upd.refl _) ((hC 0 (by kernel_rfl)).trans rfl)) ?_
                refine eq1 (out := Pr.i64 0) (fun C2 hC => qAssign) ?_
                refine eqS (fun C2 hC => sStore (R := rRef12Wrong) (R' := rRef12Wrong) (a := (Ref12Wrong.mk 0 0)) (y := x27) 1 Tryz.sizeOf59 (Upd.refl _) ((hC 1 (by kernel_rfl)).trans rfl)) ?_
                exact ⟨h, ⟨⟨Pr.le_rfl, Pr.le_rfl, Pr.le_rfl, trivial⟩, Pick.of [0, 1, 2, 3, 4, 5, 7, 8] rfl⟩⟩
            · replace h := iteF hc30 h
              refine W_skip ?_
              refine W_rs ?_
              refine rq (out := Pr.is v18) qMove ?_
              refine rq (out := (rApiNode).val x25) (qLoad (R := rApiNode) (a := x25) (R' := rApiNode) 7 ty24 (Sub.refl _)) ?_
              refine rq (out := Pr.lst rApiNode ([x25] : List ApiNode)) (qBuildSlice1 (R := rApiNode) (a := x25) el22 (Nat.le_of_ble_eq_true rfl)) ?_
              obtain ⟨x31, hx31, h⟩ := bindSome h
              refine rAppend' 6 el22 hx31 (fun v32 => ?_)
              refine rq (out := Pr.is v32) qAssign ?_
              refine W_r ?_
              refine rq (out := Pr.i64 x26) qMove ?_
              refine rq (out := Pr.i64 x26) qAssign ?_
              exact ⟨x26, x31, v32, h, ⟨⟨Pr.le_rfl, Pr.le_rfl, Pr.le_rfl, Pr.le_rfl, Pr.le_rfl, Pr.le_rfl, trivial⟩, Pick.of [0, 1, 2, 3, 4, 5, 6] rfl⟩⟩
          · replace h := iteF hc24 h
            refine W_skip ?_
            exact ⟨x13, ([x6, x12] : List ApiNode), v18, h, ⟨⟨Pr.le_rfl, Pr.le_rfl, Pr.le_rfl, Pr.le_rfl, Pr.le_rfl, Pr.le_rfl, trivial⟩, Pick.refl _⟩⟩
theorem rec_ref12_statement_ok : ∀ n, rec_ref12_statement_spec (rec_ref12_statement_at n) := by
  intro n
  induction n with
  | zero => exact ⟨(fun x1 x2 x3 r h => nomatch (show none = some r from h)), (fun x1 x2 x3 r h => nomatch (show none = some r from h)), (fun x1 x2 x3 r h => nomatch (show none = some r from h))⟩
  | succ n ih => exact ⟨(fun x1 x2 x3 r h => F_ref12_statement_step (rec_ref12_statement_at n) ih x1 x2 x3 r h), (fun x1 x2 x3 r h => F_ref12_block_step (rec_ref12_statement_at n) ih x1 x2 x3 r h), (fun x1 x2 x3 r h => F_ref12_guarded_step (rec_ref12_statement_at n) ih x1 x2 x3 r h)⟩
theorem ref12_statement_ok (x1 : List ApiToken) (x2 : Int) (x3 : Int) (r : ApiNode × Int × Ref12Wrong) (h : ref12_statement x1 x2 x3 = some r) : FnP Tryz.prog 39 [Pr.lst rApiToken x1, Pr.i64 x2, Pr.i64 x3] (Pr.tup [(rApiNode).val r.1, Pr.i64 r.2.1, (rRef12Wrong).val r.2.2]) := (rec_ref12_statement_ok 1048576).1 x1 x2 x3 r h
theorem ref12_block_ok (x1 : List ApiToken) (x2 : Int) (x3 : Int) (r : ApiNode × Int × Ref12Wrong) (h : ref12_block x1 x2 x3 = some r) : FnP Tryz.prog 61 [Pr.lst rApiToken x1, Pr.i64 x2, Pr.i64 x3] (Pr.tup [(rApiNode).val r.1, Pr.i64 r.2.1, (rRef12Wrong).val r.2.2]) := (rec_ref12_statement_ok 1048576).2.1 x1 x2 x3 r h
theorem ref12_guarded_ok (x1 : List ApiToken) (x2 : Int) (x3 : Int) (r : ApiNode × Int × Ref12Wrong) (h : ref12_guarded x1 x2 x3 = some r) : FnP Tryz.prog 65 [Pr.lst rApiToken x1, Pr.i64 x2, Pr.i64 x3] (Pr.tup [(rApiNode).val r.1, Pr.i64 r.2.1, (rRef12Wrong).val r.2.2]) := (rec_ref12_statement_ok 1048576).2.2 x1 x2 x3 r h
theorem ref12_member_ok (x1 : List ApiToken) (x2 : Int) (r : ApiNode × Int × Ref12Wrong) (h : ref12_member x1 x2 = some r) : FnP Tryz.prog 36 [Pr.lst rApiToken x1, Pr.i64 x2] (Pr.tup [(rApiNode).val r.1, Pr.i64 r.2.1, (rRef12Wrong).val r.2.2]) := by
  refine fn_introR (n := 108) (rs := [.cell 4 24, .tmp 5, .cell 6 59]) Tryz.func36 rfl Tryz.ntmps36 Tryz.results36 (by decide) (fun s0 => ?_)
  unfold ref12_member at h
  refine W_rs ?_
  refine rAlloc (R := rApiNode) (z := (ApiNode.mk 0 [] [] 0 0 0 0 0 [])) Tryz.zeroValue24 (fun _ => (by rw [rApiNode_eq]; exact ⟨_, ⟨_, _, rfl, rfl, ⟨_, _, rfl, rfl, ⟨_, _, rfl, rfl, ⟨_, _, rfl, rfl, ⟨_, _, rfl, rfl, ⟨_, _, rfl, rfl, ⟨_, _, rfl, rfl, ⟨_, _, rfl, rfl, ⟨_, _, rfl, ⟨_, rfl, none, 0, rfl, ⟨Nat.le_refl _, fun _ => rfl⟩, .inl rfl⟩, rfl⟩⟩⟩⟩⟩⟩⟩⟩⟩, rfl⟩)) (fun b3 => ?_)
  refine rq (out := Pr.i64 0) qAssign ?_
  refine rAlloc (R := rRef12Wrong) (z := (Ref12Wrong.mk 0 0)) Tryz.zeroValue59 (fun _ => ⟨_, ⟨_, _, rfl, rfl, ⟨_, _, rfl, rfl, rfl⟩⟩, rfl⟩) (fun b4 => ?_)
  refine W_rs ?_
  refine rq (out := Pr.i64 x2) qMove ?_
  refine rq (out := Pr.i64 x2) qAssign ?_
  refine W_rs ?_
  refine rq (out := Pr.lst rApiToken x1) qMove ?_
  refine rq (out := Pr.i64 x2) qMove ?_
  obtain ⟨x5, hx5, h⟩ := bindSome h
  refine rq (out := Pr.bool x5) (qCall (ref12_is_ok x1 x2 ([115, 116, 97, 116, 105, 99] : List UInt8) _ hx5)) ?_
  refine rq (out := Pr.bool x5) qAssign ?_
  refine W_join (fun e C => ∃ (x7 : Int), ref12_member_j6 x1 x2 x5 x7 = some r ∧ At [(0, Pr.lst rApiToken x1), (1, Pr.i64 x7), (4, Pr.pt b3 0), (6, Pr.pt b4 0), (7, Pr.i64 x2), (8, Pr.bool x5)] [Own.box b3 rApiNode (ApiNode.mk 0 [] [] 0 0 0 0 0 []), Own.box b4 rRef12Wrong (Ref12Wrong.mk 0 0)] e C) ?_ ?_
  · rintro e C ⟨x7, h, hat6⟩
    refine W_at hat6 ?_
    clear hat6
    unfold ref12_member_j6 at h
    refine W_seq ?_
    refine W_rs ?_
    refine rq (out := Pr.lst rApiToken x1) qMove ?_
    refine rq (out := Pr.i64 x7) qMove ?_
    obtain ⟨x8, hx8, h⟩ := bindSome h
    refine rq (out := Pr.bool x8) (qCall (ref12_kind_ok x1 x7 _ hx8)) ?_
    refine rq (out := Pr.bool (!x8)) qNot ?_
    refine W_cond (b := !x8) rfl (fun hc9 => ?_) (fun hc9 => ?_)
    · replace h := iteT hc9 h
      refine W_rs ?_
      refine rq (out := (rApiNode).val (ApiNode.mk 0 [] [] 0 0 0 0 0 [])) (qBuildR rApiNode_eq st24 rfl) ?_
      refine rq (out := Pr.i64 x7) qMove ?_
      obtain ⟨x10, hx10, h⟩ := bindSome h
      refine rq (out := (rRef12Wrong).val x10) (qCall (ref12_syntax_ok x7 _ hx10)) ?_
      refine rStore (R := rApiNode) (R' := rApiNode) (a := (ApiNode.mk 0 [] [] 0 0 0 0 0 [])) (y := (ApiNode.mk 0 [] [] 0 0 0 0 0 [])) 0 Tryz.sizeOf24 (Upd.refl _) ?_
      refine rq (out := Pr.i64 0) qAssign ?_
      refine rStore (R := rRef12Wrong) (R' := rRef12Wrong) (a := (Ref12Wrong.mk 0 0)) (y := x10) 1 Tryz.sizeOf59 (Upd.refl _) ?_
      obtain rfl := Option.some.inj h
      exact W_ret ⟨rfl, [(rApiNode).val (ApiNode.mk 0 [] [] 0 0 0 0 0 []), Pr.i64 0, (rRef12Wrong).val x10], ⟨yBox 0 ty24 Pr.le_rfl, yT Pr.le_rfl, yBox 1 ty59 Pr.le_rfl, trivial⟩, Pr.le_rfl⟩
    · replace h := iteF hc9 h
      refine W_skip ?_
      refine W_seq ?_
      refine W_rs ?_
      refine rq (out := Pr.lst rApiToken x1) qMove ?_
      refine rq (out := Pr.i64 x7) qMove ?_
      refine rq (out := Pr.i64 (w64 (x7 + 1))) qInt ?_
      obtain ⟨x11, hx11, h⟩ := bindSome h
      refine rq (out := Pr.bool x11) (qCall (ref12_name_ok x1 (w64 (x7 + 1)) _ hx11)) ?_
      refine rq (out := Pr.bool (!x11)) qNot ?_
      refine W_cond (b := !x11) rfl (fun hc12 => ?_) (fun hc12 => ?_)
      · replace h := iteT hc12 h
        refine W_rs ?_
        refine rq (out := (rApiNode).val (ApiNode.mk 0 [] [] 0 0 0 0 0 [])) (qBuildR rApiNode_eq st24 rfl) ?_
        refine rq (out := Pr.i64 x7) qMove ?_
        refine rq (out := Pr.i64 (w64 (x7 + 1))) qInt ?_
        obtain ⟨x13, hx13, h⟩ := bindSome h
        refine rq (out := (rRef12Wrong).val x13) (qCall (ref12_syntax_ok (w64 (x7 + 1)) _ hx13)) ?_
        refine rStore (R := rApiNode) (R' := rApiNode) (a := (ApiNode.mk 0 [] [] 0 0 0 0 0 [])) (y := (ApiNode.mk 0 [] [] 0 0 0 0 0 [])) 0 Tryz.sizeOf24 (Upd.refl _) ?_
        refine rq (out := Pr.i64 0) qAssign ?_
        refine rStore (R := rRef12Wrong) (R' := rRef12Wrong) (a := (Ref12Wrong.mk 0 0)) (y := x13) 1 Tryz.sizeOf59 (Upd.refl _) ?_
        obtain rfl := Option.some.inj h
        exact W_ret ⟨rfl, [(rApiNode).val (ApiNode.mk 0 [] [] 0 0 0 0 0 []), Pr.i64 0, (rRef12Wrong).val x13], ⟨yBox 0 ty24 Pr.le_rfl, yT Pr.le_rfl, yBox 1 ty59 Pr.le_rfl, trivial⟩, Pr.le_rfl⟩
      · replace h := iteF hc12 h
        refine W_skip ?_
        refine W_rs ?_
        refine rq (out := Pr.i64 x7) qMove ?_
        refine rq (out := Pr.i64 (w64 (x7 + 2))) qInt ?_
        refine rq (out := Pr.i64 (w64 (x7 + 2))) qAssign ?_
        refine W_rs ?_
        refine rq (out := Pr.i64 2) qAssign ?_
        refine W_rs ?_
        refine rq (out := Pr.is (.slice none 0 0)) qAssign ?_
        refine W_nil [11] rApiNode 24 (fun v14 => ?_) ⟨rfl, trivial⟩
        refine W_join (fun e C => ∃ (x37 : Int), ∃ (x38 : Int), ∃ (x40 : List ApiNode), ∃ (v39 : Value), ref12_member_j3 x1 x2 x7 x5 x37 x38 x40 = some r ∧ At [(0, Pr.lst rApiToken x1), (1, Pr.i64 x7), (4, Pr.pt b3 0), (6, Pr.pt b4 0), (7, Pr.i64 x2), (8, Pr.bool x5), (9, Pr.i64 x37), (10, Pr.i64 x38), (11, Pr.is v39)] [Own.box b3 rApiNode (ApiNode.mk 0 [] [] 0 0 0 0 0 []), Own.box b4 rRef12Wrong (Ref12Wrong.mk 0 0), Own.vec v39 rApiNode x40 24] e C) ?_ ?_
        · rintro e C ⟨x37, x38, x40, v39, h, hat3⟩
          refine W_at hat3 ?_
          clear hat3
          unfold ref12_member_j3 at h
          refine W_rs ?_
          refine rq (out := Pr.lst rApiToken x1) qMove ?_
          refine rq (out := Pr.lst rApiToken x1) qMove ?_
          refine rq (out := Pr.i64 x38) qMove ?_
          refine rq (out := Pr.i64 x2) qMove ?_
          refine rq (out := Pr.i64 x37) qMove ?_
          refine rq (out := Pr.is v39) qMove ?_
          obtain ⟨x41, hx41, h⟩ := bindSome h
          refine rRel 2 [11, 99] ?_ rfl ⟨rfl, rfl, trivial⟩
          refine rq (out := (rApiNode).val x41) (qCall (ref12_made_ok x1 x38 x2 x37 x40 _ hx41)) ?_
          refine rq (out := Pr.i64 x7) qMove ?_
          obtain ⟨x42, hx42, h⟩ := bindSome h
          refine rq (out := (rApiNode).val x42) (qCall (ref12_typed_ok x1 x41 x7 _ hx42)) ?_
          refine rAlloc (R := rApiNode) (z := (ApiNode.mk 0 [] [] 0 0 0 0 0 [])) Tryz.zeroValue24 (fun _ => (by rw [rApiNode_eq]; exact ⟨_, ⟨_, _, rfl, rfl, ⟨_, _, rfl, rfl, ⟨_, _, rfl, rfl, ⟨_, _, rfl, rfl, ⟨_, _, rfl, rfl, ⟨_, _, rfl, rfl, ⟨_, _, rfl, rfl, ⟨_, _, rfl, rfl, ⟨_, _, rfl, ⟨_, rfl, none, 0, rfl, ⟨Nat.le_refl _, fun _ => rfl⟩, .inl rfl⟩, rfl⟩⟩⟩⟩⟩⟩⟩⟩⟩, rfl⟩)) (fun b43 => ?_)
          refine rStore (R := rApiNode) (R' := rApiNode) (a := (ApiNode.mk 0 [] [] 0 0 0 0 0 [])) (y := x42) 2 Tryz.sizeOf24 (Upd.refl _) ?_
          refine W_join (fun e C => ∃ (x45 : ApiNode), ref12_member_j2 x37 x45 = some r ∧ At [(4, Pr.pt b3 0), (6, Pr.pt b4 0), (9, Pr.i64 x37), (18, Pr.pt b43 0)] [Own.box b3 rApiNode (ApiNode.mk 0 [] [] 0 0 0 0 0 []), Own.box b4 rRef12Wrong (Ref12Wrong.mk 0 0), Own.box b43 rApiNode x45] e C) ?_ ?_
          · rintro e C ⟨x45, h, hat2⟩
            refine W_at hat2 ?_
            clear hat2
            unfold ref12_member_j2 at h
            refine W_join (fun e C => ∃ (x46 : Ref12Wrong), ref12_member_j1 x45 x37 x46 = some r ∧ At [(4, Pr.pt b3 0), (5, Pr.i64 x37), (6, Pr.pt b4 0)] [Own.box b3 rApiNode x45, Own.box b4 rRef12Wrong x46, Own.box b43 rApiNode x45] e C) ?_ ?_
            · rintro e C ⟨x46, h, hat1⟩
              refine W_at hat1 ?_
              clear hat1
              unfold ref12_member_j1 at h
              obtain rfl := Option.some.inj h
              exact W_ret ⟨rfl, [(rApiNode).val x45, Pr.i64 x37, (rRef12Wrong).val x46], ⟨yBox 0 ty24 Pr.le_rfl, yT Pr.le_rfl, yBox 1 ty59 Pr.le_rfl, trivial⟩, Pr.le_rfl⟩
            · obtain ⟨x46, hx46, h⟩ := bindSome h
              refine W_drawEx [(3, 0, Own.box b3 rApiNode x45), (5, 1, Own.box b4 rRef12Wrong x46)] [Own.box b3 rApiNode x45, Own.box b4 rRef12Wrong x46, Own.box b43 rApiNode x45] hmx (by kernel_rfl) (by kernel_rfl) (show ([3, 5] : List Nat).Nodup by decide) (show ([0, 1] : List Nat).Nodup by decide) rfl rfl ?_
              refine eq1 (out := (rApiNode).val x45) (fun C2 hC => (qLoad (R := rApiNode) (a := x45) (R' := rApiNode) 2 ty24 (Sub.refl _) (hi := (hC 2 (by kernel_rfl)).trans rfl))) ?_
              refine eq1 (out := Pr.i64 x37) (fun C2 hC => qMove) ?_
              refine eq1 (out := (rRef12Wrong).val x46) (fun C2 hC => (qCall (ref12_fine_ok  _ hx46))) ?_
              refine eqS (fun C2 hC => sStore (R := rApiNode) (R' := rApiNode) (a := (ApiNode.mk 0 [] [] 0 0 0 0 0 [])) (y := x45) 0 Tryz.sizeOf24 (Upd.refl _) ((hC 0 (by kernel_rfl)).trans rfl)) ?_
              refine eq1 (out := Pr.i64 x37) (fun C2 hC => qAssign) ?_
              refine eqS (fun C2 hC => sStore (R := rRef12Wrong) (R' := rRef12Wrong) (a := (Ref12Wrong.mk 0 0)) (y := x46) 1 Tryz.sizeOf59 (Upd.refl _) ((hC 1 (by kernel_rfl)).trans rfl)) ?_
              exact ⟨x46, h, ⟨⟨Pr.le_rfl, Pr.le_rfl, Pr.le_rfl, trivial⟩, Pick.refl _⟩⟩
          · refine W_rs ?_
            refine rq (out := Pr.bool x5) qMove ?_
            refine W_cond (b := x5) rfl (fun hc44 => ?_) (fun hc44 => ?_)
            · replace h := iteT hc44 h
              refine W_r ?_
              refine rq (out := Pr.pt b43 3) (qFieldP fld24_3) ?_
              refine rStore (R := rApiNode) (R' := Rp.int .i64) (a := x42) (y := 1) 2 Tryz.sizeOf2 updApiNode_N ?_
              exact ⟨{ x42 with N := 1 }, h, ⟨⟨Pr.le_rfl, Pr.le_rfl, Pr.le_rfl, Pr.le_rfl, trivial⟩, Pick.refl _⟩⟩
            · replace h := iteF hc44 h
              refine W_skip ?_
              exact ⟨x42, h, ⟨⟨Pr.le_rfl, Pr.le_rfl, Pr.le_rfl, Pr.le_rfl, trivial⟩, Pick.refl _⟩⟩
        · refine W_block ?_
          refine W_rs ?_
          refine rq (out := Pr.lst rApiToken x1) qMove ?_
          refine rq (out := Pr.i64 (w64 (x7 + 2))) qMove ?_
          obtain ⟨x15, hx15, h⟩ := bindSome h
          refine rq (out := Pr.bool x15) (qCall (ref12_is_ok x1 (w64 (x7 + 2)) ([59] : List UInt8) _ hx15)) ?_
          refine rq (out := Pr.bool x15) qAssign ?_
          refine W_cond (b := x15) rfl (fun hc16 => ?_) (fun hc16 => ?_)
          · replace h := iteT hc16 h
            refine W_seq ?_
            refine W_rs ?_
            refine rq (out := Pr.lst rApiToken x1) qMove ?_
            refine rq (out := Pr.i64 x7) qMove ?_
            obtain ⟨x17, hx17, h⟩ := bindSome h
            refine rq (out := Pr.bool x17) (qCall (ref12_is_ok x1 x7 ([118, 111, 105, 100] : List UInt8) _ hx17)) ?_
            refine W_cond (b := x17) rfl (fun hc18 => ?_) (fun hc18 => ?_)
            · replace h := iteT hc18 h
              refine W_rs ?_
              refine rq (out := (rApiNode).val (ApiNode.mk 0 [] [] 0 0 0 0 0 [])) (qBuildR rApiNode_eq st24 rfl) ?_
              refine rq (out := Pr.i64 (w64 (x7 + 2))) qMove ?_
              obtain ⟨x19, hx19, h⟩ := bindSome h
              refine rq (out := (rRef12Wrong).val x19) (qCall (ref12_syntax_ok (w64 (x7 + 2)) _ hx19)) ?_
              refine rStore (R := rApiNode) (R' := rApiNode) (a := (ApiNode.mk 0 [] [] 0 0 0 0 0 [])) (y := (ApiNode.mk 0 [] [] 0 0 0 0 0 [])) 0 Tryz.sizeOf24 (Upd.refl _) ?_
              refine rq (out := Pr.i64 0) qAssign ?_
              refine rStore (R := rRef12Wrong) (R' := rRef12Wrong) (a := (Ref12Wrong.mk 0 0)) (y := x19) 1 Tryz.sizeOf59 (Upd.refl _) ?_
              obtain rfl := Option.some.inj h
              exact W_ret ⟨rfl, [(rApiNode).val (ApiNode.mk 0 [] [] 0 0 0 0 0 []), Pr.i64 0, (rRef12Wrong).val x19], ⟨yBox 0 ty24 Pr.le_rfl, yT Pr.le_rfl, yBox 1 ty59 Pr.le_rfl, trivial⟩, Pr.le_rfl⟩
            · replace h := iteF hc18 h
              refine W_skip ?_
              refine W_r ?_
              refine rq (out := Pr.i64 (w64 (x7 + 2))) qMove ?_
              refine rq (out := Pr.i64 (w64 ((w64 (x7 + 2)) + 1))) qInt ?_
              refine rq (out := Pr.i64 (w64 ((w64 (x7 + 2)) + 1))) qAssign ?_
              exact ⟨w64 ((w64 (x7 + 2)) + 1), 2, [], v14, h, ⟨⟨Pr.le_rfl, Pr.le_rfl, Pr.le_rfl, Pr.le_rfl, Pr.le_rfl, Pr.le_rfl, Pr.le_rfl, Pr.le_rfl, Pr.le_rfl, trivial⟩, Pick.refl _⟩⟩
          · replace h := iteF hc16 h
            refine W_rs ?_
            refine rq (out := Pr.lst rApiToken x1) qMove ?_
            refine rq (out := Pr.i64 (w64 (x7 + 2))) qMove ?_
            obtain ⟨x20, hx20, h⟩ := bindSome h
            refine rq (out := Pr.bool x20) (qCall (ref12_is_ok x1 (w64 (x7 + 2)) ([40] : List UInt8) _ hx20)) ?_
            refine rq (out := Pr.bool x20) qAssign ?_
            refine W_cond (b := x20) rfl (fun hc21 => ?_) (fun hc21 => ?_)
            · replace h := iteT hc21 h
              refine W_rs ?_
              refine rq (out := Pr.i64 3) qAssign ?_
              refine W_rs ?_
              refine rq (out := Pr.lst rApiToken x1) qMove ?_
              refine rq (out := Pr.i64 (w64 (x7 + 2))) qMove ?_
              refine rq (out := Pr.i64 (w64 ((w64 (x7 + 2)) + 1))) qInt ?_
              obtain ⟨⟨x22, x23, x24⟩, hx22, h⟩ := bindSome h
              refine rCallC [] (ref12_params_ok x1 (w64 ((w64 (x7 + 2)) + 1)) _ hx22) (fun q C' hq => ?_)
              obtain ⟨v25, rfl, rfl⟩ := hq
              refine rq (out := Pr.tup [Pr.is v25, Pr.i64 x23, (rRef12Wrong).val x24]) qMove ?_
              refine rq (out := Pr.is v25) qExtract ?_
              refine rq (out := Pr.i64 x23) qExtract ?_
              refine rq (out := (rRef12Wrong).val x24) qExtract ?_
              refine rAlloc (R := rRef12Wrong) (z := (Ref12Wrong.mk 0 0)) Tryz.zeroValue59 (fun _ => ⟨_, ⟨_, _, rfl, rfl, ⟨_, _, rfl, rfl, rfl⟩⟩, rfl⟩) (fun b26 => ?_)
              refine rq (out := Pr.is v25) qAssign ?_
              refine rq (out := Pr.i64 x23) qAssign ?_
              refine rStore (R := rRef12Wrong) (R' := rRef12Wrong) (a := (Ref12Wrong.mk 0 0)) (y := x24) 4 Tryz.sizeOf59 (Upd.refl _) ?_
              refine W_seq ?_
              refine W_rs ?_
              refine rq (out := Pr.pt b26 0) (qFieldP fld59_0) ?_
              refine rq (out := Pr.i64 x24.Place) (qLoad (R := rRef12Wrong) (a := x24) (R' := Rp.int .i64) 4 ty3 subRef12Wrong_Place) ?_
              refine rq (out := Pr.bool (decide (x24.Place ≥ 0))) qInt ?_
              refine W_cond (b := decide (x24.Place ≥ 0)) rfl (fun hc27 => ?_) (fun hc27 => ?_)
              · replace h := iteT hc27 h
                refine W_join (fun e C => ref12_member_j4 x24 = some r ∧ At [(4, Pr.pt b3 0), (5, Pr.i64 0), (6, Pr.pt b4 0)] [Own.box b3 rApiNode (ApiNode.mk 0 [] [] 0 0 0 0 0 []), Own.box b4 rRef12Wrong x24, Own.box b26 rRef12Wrong x24] e C) ?_ ?_
                · rintro e C ⟨h, hat4⟩
                  refine W_at hat4 ?_
                  clear hat4
                  unfold ref12_member_j4 at h
                  obtain rfl := Option.some.inj h
                  exact W_ret ⟨rfl, [(rApiNode).val (ApiNode.mk 0 [] [] 0 0 0 0 0 []), Pr.i64 0, (rRef12Wrong).val x24], ⟨yBox 0 ty24 Pr.le_rfl, yT Pr.le_rfl, yBox 1 ty59 Pr.le_rfl, trivial⟩, Pr.le_rfl⟩
                · refine W_drawEx [(2, 1, Own.box b3 rApiNode (ApiNode.mk 0 [] [] 0 0 0 0 0 [])), (4, 2, Own.box b4 rRef12Wrong x24)] [Own.vec v25 rApiNode x22 24, Own.box b3 rApiNode (ApiNode.mk 0 [] [] 0 0 0 0 0 []), Own.box b4 rRef12Wrong x24, Own.vec v14 rApiNode [] 24, Own.box b26 rRef12Wrong x24] hmx (by kernel_rfl) (by kernel_rfl) (show ([2, 4] : List Nat).Nodup by decide) (show ([1, 2] : List Nat).Nodup by decide) rfl rfl ?_
                  refine eq1 (out := (rApiNode).val (ApiNode.mk 0 [] [] 0 0 0 0 0 [])) (fun C2 hC => (qBuildR rApiNode_eq st24 rfl)) ?_
                  refine eq1 (out := (rRef12Wrong).val x24) (fun C2 hC => (qLoad (R := rRef12Wrong) (a := x24) (R' := rRef12Wrong) 4 ty59 (Sub.refl _) (hi := (hC 4 (by kernel_rfl)).trans rfl))) ?_
                  refine eqS (fun C2 hC => sStore (R := rApiNode) (R' := rApiNode) (a := (ApiNode.mk 0 [] [] 0 0 0 0 0 [])) (y := (ApiNode.mk 0 [] [] 0 0 0 0 0 [])) 1 Tryz.sizeOf24 (Upd.refl _) ((hC 1 (by kernel_rfl)).trans rfl)) ?_
                  refine eq1 (out := Pr.i64 0) (fun C2 hC => qAssign) ?_
                  refine eqS (fun C2 hC => sStore (R := rRef12Wrong) (R' := rRef12Wrong) (a := (Ref12Wrong.mk 0 0)) (y := x24) 2 Tryz.sizeOf59 (Upd.refl _) ((hC 2 (by kernel_rfl)).trans rfl)) ?_
                  exact ⟨h, ⟨⟨Pr.le_rfl, Pr.le_rfl, Pr.le_rfl, trivial⟩, Pick.of [1, 2, 4] rfl⟩⟩
              · replace h := iteF hc27 h
                refine W_skip ?_
                refine W_rs ?_
                refine rq (out := Pr.lst rApiToken x1) qMove ?_
                refine rq (out := Pr.i64 x23) qMove ?_
                obtain ⟨⟨x28, x29, x30⟩, hx28, h⟩ := bindSome h
                refine rq (out := Pr.tup [(rApiNode).val x28, Pr.i64 x29, (rRef12Wrong).val x30]) (qCall (ref12_block_ok x1 x23 1 _ hx28)) ?_
                refine rq (out := Pr.tup [(rApiNode).val x28, Pr.i64 x29, (rRef12Wrong).val x30]) qMove ?_
                refine rq (out := (rApiNode).val x28) qExtract ?_
                refine rq (out := Pr.i64 x29) qExtract ?_
                refine rq (out := (rRef12Wrong).val x30) qExtract ?_
                refine rAlloc (R := rApiNode) (z := (ApiNode.mk 0 [] [] 0 0 0 0 0 [])) Tryz.zeroValue24 (fun _ => (by rw [rApiNode_eq]; exact ⟨_, ⟨_, _, rfl, rfl, ⟨_, _, rfl, rfl, ⟨_, _, rfl, rfl, ⟨_, _, rfl, rfl, ⟨_, _, rfl, rfl, ⟨_, _, rfl, rfl, ⟨_, _, rfl, rfl, ⟨_, _, rfl, rfl, ⟨_, _, rfl, ⟨_, rfl, none, 0, rfl, ⟨Nat.le_refl _, fun _ => rfl⟩, .inl rfl⟩, rfl⟩⟩⟩⟩⟩⟩⟩⟩⟩, rfl⟩)) (fun b31 => ?_)
                refine rAlloc (R := rRef12Wrong) (z := (Ref12Wrong.mk 0 0)) Tryz.zeroValue59 (fun _ => ⟨_, ⟨_, _, rfl, rfl, ⟨_, _, rfl, rfl, rfl⟩⟩, rfl⟩) (fun b32 => ?_)
                refine rStore (R := rApiNode) (R' := rApiNode) (a := (ApiNode.mk 0 [] [] 0 0 0 0 0 [])) (y := x28) 5 Tryz.sizeOf24 (Upd.refl _) ?_
                refine rq (out := Pr.i64 x29) qAssign ?_
                refine rStore (R := rRef12Wrong) (R' := rRef12Wrong) (a := (Ref12Wrong.mk 0 0)) (y := x30) 6 Tryz.sizeOf59 (Upd.refl _) ?_
                refine W_seq ?_
                refine W_rs ?_
                refine rq (out := Pr.pt b32 0) (qFieldP fld59_0) ?_
                refine rq (out := Pr.i64 x30.Place) (qLoad (R := rRef12Wrong) (a := x30) (R' := Rp.int .i64) 6 ty3 subRef12Wrong_Place) ?_
                refine rq (out := Pr.bool (decide (x30.Place ≥ 0))) qInt ?_
                refine W_cond (b := decide (x30.Place ≥ 0)) rfl (fun hc33 => ?_) (fun hc33 => ?_)
                · replace h := iteT hc33 h
                  refine W_join (fun e C => ref12_member_j5 x30 = some r ∧ At [(4, Pr.pt b3 0), (5, Pr.i64 0), (6, Pr.pt b4 0)] [Own.box b3 rApiNode (ApiNode.mk 0 [] [] 0 0 0 0 0 []), Own.box b4 rRef12Wrong x30, Own.box b26 rRef12Wrong x24, Own.box b31 rApiNode x28, Own.box b32 rRef12Wrong x30] e C) ?_ ?_
                  · rintro e C ⟨h, hat5⟩
                    refine W_at hat5 ?_
                    clear hat5
                    unfold ref12_member_j5 at h
                    obtain rfl := Option.some.inj h
                    exact W_ret ⟨rfl, [(rApiNode).val (ApiNode.mk 0 [] [] 0 0 0 0 0 []), Pr.i64 0, (rRef12Wrong).val x30], ⟨yBox 0 ty24 Pr.le_rfl, yT Pr.le_rfl, yBox 1 ty59 Pr.le_rfl, trivial⟩, Pr.le_rfl⟩
                  · refine W_drawEx [(2, 1, Own.box b3 rApiNode (ApiNode.mk 0 [] [] 0 0 0 0 0 [])), (4, 2, Own.box b4 rRef12Wrong x30)] [Own.vec v25 rApiNode x22 24, Own.box b3 rApiNode (ApiNode.mk 0 [] [] 0 0 0 0 0 []), Own.box b4 rRef12Wrong x30, Own.vec v14 rApiNode [] 24, Own.box b26 rRef12Wrong x24, Own.box b31 rApiNode x28, Own.box b32 rRef12Wrong x30] hmx (by kernel_rfl) (by kernel_rfl) (show ([2, 4] : List Nat).Nodup by decide) (show ([1, 2] : List Nat).Nodup by decide) rfl rfl ?_
                    refine eq1 (out := (rApiNode).val (ApiNode.mk 0 [] [] 0 0 0 0 0 [])) (fun C2 hC => (qBuildR rApiNode_eq st24 rfl)) ?_
                    refine eq1 (out := (rRef12Wrong).val x30) (fun C2 hC => (qLoad (R := rRef12Wrong) (a := x30) (R' := rRef12Wrong) 6 ty59 (Sub.refl _) (hi := (hC 6 (by kernel_rfl)).trans rfl))) ?_
                    refine eqS (fun C2 hC => sStore (R := rApiNode) (R' := rApiNode) (a := (ApiNode.mk 0 [] [] 0 0 0 0 0 [])) (y := (ApiNode.mk 0 [] [] 0 0 0 0 0 [])) 1 Tryz.sizeOf24 (Upd.refl _) ((hC 1 (by kernel_rfl)).trans rfl)) ?_
                    refine eq1 (out := Pr.i64 0) (fun C2 hC => qAssign) ?_
                    refine eqS (fun C2 hC => sStore (R := rRef12Wrong) (R' := rRef12Wrong) (a := (Ref12Wrong.mk 0 0)) (y := x30) 2 Tryz.sizeOf59 (Upd.refl _) ((hC 2 (by kernel_rfl)).trans rfl)) ?_
                    exact ⟨h, ⟨⟨Pr.le_rfl, Pr.le_rfl, Pr.le_rfl, trivial⟩, Pick.of [1, 2, 4, 5, 6] rfl⟩⟩
                · replace h := iteF hc33 h
                  refine W_skip ?_
                  refine W_rs ?_
                  refine rq (out := Pr.is v25) qMove ?_
                  refine rq (out := (rApiNode).val x28) (qLoad (R := rApiNode) (a := x28) (R' := rApiNode) 5 ty24 (Sub.refl _)) ?_
                  refine rq (out := Pr.lst rApiNode ([x28] : List ApiNode)) (qBuildSlice1 (R := rApiNode) (a := x28) el22 (Nat.le_of_ble_eq_true rfl)) ?_
                  obtain ⟨x34, hx34, h⟩ := bindSome h
                  refine rAppend' 0 el22 hx34 (fun v35 => ?_)
                  refine rq (out := Pr.is v35) qAssign ?_
                  refine W_rs ?_
                  refine rq (out := Pr.is v35) qMove ?_
                  refine rq (out := Pr.is v35) qAssign ?_
                  refine W_r ?_
                  refine rq (out := Pr.i64 x29) qMove ?_
                  refine rq (out := Pr.i64 x29) qAssign ?_
                  exact ⟨x29, 3, x34, v35, h, ⟨⟨Pr.le_rfl, Pr.le_rfl, Pr.le_rfl, Pr.le_rfl, Pr.le_rfl, Pr.le_rfl, Pr.le_rfl, Pr.le_rfl, Pr.le_rfl, trivial⟩, Pick.of [1, 2, 0] rfl⟩⟩
            · replace h := iteF hc21 h
              refine W_rs ?_
              refine rq (out := (rApiNode).val (ApiNode.mk 0 [] [] 0 0 0 0 0 [])) (qBuildR rApiNode_eq st24 rfl) ?_
              refine rq (out := Pr.i64 (w64 (x7 + 2))) qMove ?_
              obtain ⟨x36, hx36, h⟩ := bindSome h
              refine rq (out := (rRef12Wrong).val x36) (qCall (ref12_syntax_ok (w64 (x7 + 2)) _ hx36)) ?_
              refine rStore (R := rApiNode) (R' := rApiNode) (a := (ApiNode.mk 0 [] [] 0 0 0 0 0 [])) (y := (ApiNode.mk 0 [] [] 0 0 0 0 0 [])) 0 Tryz.sizeOf24 (Upd.refl _) ?_
              refine rq (out := Pr.i64 0) qAssign ?_
              refine rStore (R := rRef12Wrong) (R' := rRef12Wrong) (a := (Ref12Wrong.mk 0 0)) (y := x36) 1 Tryz.sizeOf59 (Upd.refl _) ?_
              obtain rfl := Option.some.inj h
              exact W_ret ⟨rfl, [(rApiNode).val (ApiNode.mk 0 [] [] 0 0 0 0 0 []), Pr.i64 0, (rRef12Wrong).val x36], ⟨yBox 0 ty24 Pr.le_rfl, yT Pr.le_rfl, yBox 1 ty59 Pr.le_rfl, trivial⟩, Pr.le_rfl⟩
  · refine W_rs ?_
    refine rq (out := Pr.bool x5) qMove ?_
    refine W_cond (b := x5) rfl (fun hc6 => ?_) (fun hc6 => ?_)
    · replace h := iteT hc6 h
      refine W_r ?_
      refine rq (out := Pr.i64 x2) qMove ?_
      refine rq (out := Pr.i64 (w64 (x2 + 1))) qInt ?_
      refine rq (out := Pr.i64 (w64 (x2 + 1))) qAssign ?_
      exact ⟨w64 (x2 + 1), h, ⟨⟨Pr.le_rfl, Pr.le_rfl, Pr.le_rfl, Pr.le_rfl, Pr.le_rfl, Pr.le_rfl, trivial⟩, Pick.refl _⟩⟩
    · replace h := iteF hc6 h
      refine W_skip ?_
      exact ⟨x2, h, ⟨⟨Pr.le_rfl, Pr.le_rfl, Pr.le_rfl, Pr.le_rfl, Pr.le_rfl, Pr.le_rfl, trivial⟩, Pick.refl _⟩⟩
theorem ref12_mistake_ok (x1 : List ApiToken) (x2 : Ref12Wrong) (r : ApiMistake) (h : ref12_mistake x1 x2 = some r) : FnP Tryz.prog 42 [Pr.lst rApiToken x1, (rRef12Wrong).val x2] ((rApiMistake).val r) := by
  refine fn_introR (n := 18) (rs := [.cell 4 36]) Tryz.func42 rfl Tryz.ntmps42 Tryz.results42 (by decide) (fun s0 => ?_)
  unfold ref12_mistake at h
  refine W_rs ?_
  refine rBox (R := rRef12Wrong) (a := x2) rfl (fun b3 => ?_)
  refine rAlloc (R := rApiMistake) (z := (ApiMistake.mk 0 0 0)) Tryz.zeroValue36 (fun _ => ⟨_, ⟨_, _, rfl, rfl, ⟨_, _, rfl, rfl, ⟨_, _, rfl, rfl, rfl⟩⟩⟩, rfl⟩) (fun b4 => ?_)
  refine W_join (fun e C => ∃ (x5 : ApiToken), ref12_mistake_j1 x2 x5 = some r ∧ At [(4, Pr.pt b4 0)] [Own.box b3 rRef12Wrong x2, Own.box b4 rApiMistake (ApiMistake.mk x2.Code 0 x5.At)] e C) ?_ ?_
  · rintro e C ⟨x5, h, hat1⟩
    refine W_at hat1 ?_
    clear hat1
    unfold ref12_mistake_j1 at h
    obtain rfl := Option.some.inj h
    exact W_ret ⟨rfl, [(rApiMistake).val (ApiMistake.mk x2.Code 0 x5.At)], ⟨yBox 1 ty36 Pr.le_rfl, trivial⟩, Pr.le_rfl⟩
  · refine W_draw 13 hmx (by kernel_rfl) (by kernel_rfl) ?_
    refine qq (out := Pr.pt b3 1) (qFieldP fld59_1) ?_
    refine qq (out := Pr.i64 x2.Code) (qLoad (R := rRef12Wrong) (a := x2) (R' := Rp.int .i64) 0 ty34 subRef12Wrong_Code) ?_
    refine qq (out := Pr.lst rApiToken x1) qMove ?_
    refine qq (out := Pr.pt b3 0) (qFieldP fld59_0) ?_
    refine qq (out := Pr.i64 x2.Place) (qLoad (R := rRef12Wrong) (a := x2) (R' := Rp.int .i64) 0 ty3 subRef12Wrong_Place) ?_
    refine qq (out := Pr.lst rApiToken x1) qMove ?_
    refine qq (out := Pr.i64 (x1.length : Int)) (qLenL rfl Tryz.underlying52) ?_
    refine qq (out := Pr.i64 (w64 ((x1.length : Int) - 1))) qInt ?_
    refine qq (out := Pr.i64 (if (w64 ((x1.length : Int) - 1)) < x2.Place then (w64 ((x1.length : Int) - 1)) else x2.Place)) (qMin (a := x2.Place) (b := w64 ((x1.length : Int) - 1))) ?_
    obtain ⟨x5, hx5, h⟩ := bindSome h
    refine qq (out := Pr.cpt rApiToken x5) (qIdxA (R := rApiToken) (l := x1) Tryz.underlying52 Tryz.sizeOf56 hx5) ?_
    refine qq (out := Pr.cpt (Rp.int .i64) x5.At) (qFieldC (R := rApiToken) (a := x5) fld56_2 subApiToken_At) ?_
    refine qq (out := Pr.i64 x5.At) (qLoadC (R := Rp.int .i64) (a := x5.At) ty3) ?_
    refine qq (out := (rApiMistake).val (ApiMistake.mk x2.Code 0 x5.At)) (qBuild st36 ⟨(ApiMistake.mk x2.Code 0 0), ⟨_, rfl, rfl, fun j fd hj hf => by match j, hj with | 0, h => exact absurd rfl h | 1, _ => cases hf; rfl | 2, _ => cases hf; rfl | _ + 3, _ => cases hf⟩, ⟨(ApiMistake.mk x2.Code 0 x5.At), ⟨_, rfl, rfl, fun j fd hj hf => by match j, hj with | 0, _ => cases hf; rfl | 1, _ => cases hf; rfl | 2, h => exact absurd rfl h | _ + 3, _ => cases hf⟩, rfl⟩⟩) ?_
    refine rStore (R := rApiMistake) (R' := rApiMistake) (a := (ApiMistake.mk 0 0 0)) (y := (ApiMistake.mk x2.Code 0 x5.At)) 1 Tryz.sizeOf36 (Upd.refl _) ?_
    exact ⟨x5, h, ⟨⟨Pr.le_rfl, trivial⟩, Pick.refl _⟩⟩
def rec_ref11_Depth_spec (R : rec_ref11_Depth_T) : Prop := (∀ (x1 : ApiNode) (r : Int), R x1 = some r → FnP Tryz.prog 43 [(rApiNode).val x1] (Pr.i64 r))
theorem F_ref11_Depth_step (R : rec_ref11_Depth_T) (ih : rec_ref11_Depth_spec R) (x1 : ApiNode) (r : Int) (h : F_ref11_Depth R x1 = some r) : FnP Tryz.prog 43 [(rApiNode).val x1] (Pr.i64 r) := by
  refine fn_intro (n := 22) (rs := [2]) Tryz.func43 rfl Tryz.ntmps43 ⟨by decide, Tryz.results43⟩ (by decide) (fun s0 => ?_)
  unfold F_ref11_Depth at h
  refine W_rs ?_
  refine rBox (R := rApiNode) (a := x1) rfl (fun b2 => ?_)
  refine rq (out := Pr.i64 0) qAssign ?_
  refine W_rs ?_
  refine rq (out := Pr.i64 0) qAssign ?_
  refine W_seq ?_
  refine W_rs ?_
  refine rq (out := Pr.i64 0) qAssign ?_
  refine W_block ?_
  obtain ⟨z2l, hz2, h⟩ := bindSome h
  obtain ⟨n2, hN2⟩ := iter_some hz2
  clear hz2
  refine W_after 0 (fun e C => ∃ (x3 : Int), ref11_Depth_k1 R x3 = some r ∧ At [(3, Pr.i64 x3)] [Own.box b2 rApiNode x1] e C) ?_ ?_
  · rintro e C ⟨x3, h, hat1⟩
    refine W_at hat1 ?_
    clear hat1
    unfold ref11_Depth_k1 at h
    refine W_rs ?_
    refine rq (out := Pr.i64 x3) qMove ?_
    refine rq (out := Pr.i64 (w64 (x3 + 1))) qInt ?_
    refine rq (out := Pr.i64 (w64 (x3 + 1))) qAssign ?_
    obtain rfl := Option.some.inj h
    exact W_ret ⟨rfl, Pr.le_rfl⟩
  · refine W_loop (fun m e C => ∃ (x3 : Int), ∃ (x4 : Int), IterN (fun s => ref11_Depth_l2 R x1 s.1 s.2) m (x3, x4) = some z2l ∧ At [(1, Pr.pt b2 0), (3, Pr.i64 x3), (4, Pr.i64 x4)] [Own.box b2 rApiNode x1] e C) n2 ⟨0, 0, hN2, ⟨⟨Pr.le_rfl, Pr.le_rfl, Pr.le_rfl, trivial⟩, Pick.refl _⟩⟩ ?_
    clear hN2
    rintro m e C ⟨x3, x4, hN2, hatl2⟩
    refine W_at hatl2 ?_
    clear hatl2
    obtain ⟨m2, w2l, rfl, h2l, hn2, ho2⟩ := iterN_some hN2
    clear hN2
    replace h2l : ref11_Depth_l2 R x1 x3 x4 = some w2l := h2l
    unfold ref11_Depth_l2 at h2l
    refine W_seq ?_
    refine W_rs ?_
    refine rq (out := Pr.i64 x4) qMove ?_
    refine rq (out := Pr.pt b2 8) (qFieldP fld24_8) ?_
    refine rq (out := Pr.lst rApiNode x1.Kids) (qLoad (R := rApiNode) (a := x1) (R' := Rp.list rApiNode) 0 ty22 subApiNode_Kids) ?_
    refine rq (out := Pr.i64 (x1.Kids.length : Int)) (qLenL rfl Tryz.underlying22) ?_
    refine rq (out := Pr.bool (decide (x4 < (x1.Kids.length : Int)))) qInt ?_
    refine W_cond (b := decide (x4 < (x1.Kids.length : Int))) rfl (fun hc7 => ?_) (fun hc7 => ?_)
    · replace h2l := iteT hc7 h2l
      refine W_skip ?_
      refine W_seq ?_
      refine W_block ?_
      refine W_r ?_
      refine rq (out := Pr.i64 x3) qMove ?_
      refine rq (out := Pr.pt b2 8) (qFieldP fld24_8) ?_
      refine rq (out := Pr.lst rApiNode x1.Kids) (qLoad (R := rApiNode) (a := x1) (R' := Rp.list rApiNode) 0 ty22 subApiNode_Kids) ?_
      refine rq (out := Pr.i64 x4) qMove ?_
      obtain ⟨x8, hx8, h2l⟩ := bindSome h2l
      refine rq (out := Pr.cpt rApiNode x8) (qIdxA (R := rApiNode) (l := x1.Kids) Tryz.underlying22 Tryz.sizeOf24 hx8) ?_
      refine rq (out := (rApiNode).val x8) (qLoadC (R := rApiNode) (a := x8) ty24) ?_
      obtain ⟨x9, hx9, h2l⟩ := bindSome h2l
      refine rq (out := Pr.i64 x9) (qCall (ih x8 _ hx9)) ?_
      refine rq (out := Pr.i64 (if x9 > x3 then x9 else x3)) (qMax (a := x3) (b := x9)) ?_
      refine rq (out := Pr.i64 (if x9 > x3 then x9 else x3)) qAssign ?_
      refine W_r ?_
      refine rq (out := Pr.i64 x4) qMove ?_
      refine rq (out := Pr.i64 (w64 (x4 + 1))) qInt ?_
      refine rq (out := Pr.i64 (w64 (x4 + 1))) qAssign ?_
      exact ⟨m2, Nat.lt_succ_self _, (if x9 > x3 then x9 else x3), w64 (x4 + 1), hn2 _ (Option.some.inj h2l).symm, ⟨⟨Pr.le_rfl, Pr.le_rfl, Pr.le_rfl, trivial⟩, Pick.refl _⟩⟩
    · replace h2l := iteF hc7 h2l
      refine W_exit ?_
      obtain rfl := ho2 _ (Option.some.inj h2l).symm
      exact ⟨x3, h, ⟨⟨Pr.le_rfl, trivial⟩, Pick.refl _⟩⟩
theorem rec_ref11_Depth_ok : ∀ n, rec_ref11_Depth_spec (rec_ref11_Depth_at n) := by
  intro n
  induction n with
  | zero => exact (fun x1 r h => nomatch (show none = some r from h))
  | succ n ih => exact (fun x1 r h => F_ref11_Depth_step (rec_ref11_Depth_at n) ih x1 r h)
theorem ref11_Depth_ok (x1 : ApiNode) (r : Int) (h : ref11_Depth x1 = some r) : FnP Tryz.prog 43 [(rApiNode).val x1] (Pr.i64 r) := (rec_ref11_Depth_ok 1048576) x1 r h
theorem ref12_One_ok (x1 : List UInt8) (x2 : Int) (r : ApiNode × ApiMistake) (h : ref12_One x1 x2 = some r) : FnP Tryz.prog 17 [Pr.str x1, Pr.i64 x2] (Pr.tup [(rApiNode).val r.1, (rApiMistake).val r.2]) := by
  refine fn_introR (n := 92) (rs := [.cell 4 24, .cell 5 36]) Tryz.func17 rfl Tryz.ntmps17 Tryz.results17 (by decide) (fun s0 => ?_)
  unfold ref12_One at h
  refine W_rs ?_
  refine rAlloc (R := rApiNode) (z := (ApiNode.mk 0 [] [] 0 0 0 0 0 [])) Tryz.zeroValue24 (fun _ => (by rw [rApiNode_eq]; exact ⟨_, ⟨_, _, rfl, rfl, ⟨_, _, rfl, rfl, ⟨_, _, rfl, rfl, ⟨_, _, rfl, rfl, ⟨_, _, rfl, rfl, ⟨_, _, rfl, rfl, ⟨_, _, rfl, rfl, ⟨_, _, rfl, rfl, ⟨_, _, rfl, ⟨_, rfl, none, 0, rfl, ⟨Nat.le_refl _, fun _ => rfl⟩, .inl rfl⟩, rfl⟩⟩⟩⟩⟩⟩⟩⟩⟩, rfl⟩)) (fun b3 => ?_)
  refine rAlloc (R := rApiMistake) (z := (ApiMistake.mk 0 0 0)) Tryz.zeroValue36 (fun _ => ⟨_, ⟨_, _, rfl, rfl, ⟨_, _, rfl, rfl, ⟨_, _, rfl, rfl, rfl⟩⟩⟩, rfl⟩) (fun b4 => ?_)
  refine W_rs ?_
  refine rq (out := Pr.str x1) qMove ?_
  obtain ⟨⟨x5, x6, x7⟩, hx5, h⟩ := bindSome h
  refine rq (out := Pr.tup [Pr.lst rApiToken x5, Pr.i64 x6, Pr.i64 x7]) (qCall (ref03_Lex_ok x1 _ hx5)) ?_
  refine rq (out := Pr.tup [Pr.lst rApiToken x5, Pr.i64 x6, Pr.i64 x7]) qMove ?_
  refine rq (out := Pr.lst rApiToken x5) qExtract ?_
  refine rq (out := Pr.i64 x6) qExtract ?_
  refine rq (out := Pr.i64 x7) qExtract ?_
  refine rq (out := Pr.lst rApiToken x5) qAssign ?_
  refine rq (out := Pr.i64 x6) qAssign ?_
  refine rq (out := Pr.i64 x7) qAssign ?_
  refine W_seq ?_
  refine W_rs ?_
  refine rq (out := Pr.i64 x7) qMove ?_
  refine rq (out := Pr.bool (x7 != 0)) qInt ?_
  refine W_cond (b := x7 != 0) rfl (fun hc8 => ?_) (fun hc8 => ?_)
  · replace h := iteT hc8 h
    refine W_rs ?_
    refine rq (out := (rApiNode).val (ApiNode.mk 0 [] [] 0 0 0 0 0 [])) (qBuildR rApiNode_eq st24 rfl) ?_
    refine rq (out := Pr.i64 x7) qMove ?_
    refine rq (out := Pr.i64 x6) qMove ?_
    refine rq (out := (rApiMistake).val (ApiMistake.mk x7 0 x6)) (qBuild st36 ⟨(ApiMistake.mk x7 0 0), ⟨_, rfl, rfl, fun j fd hj hf => by match j, hj with | 0, h => exact absurd rfl h | 1, _ => cases hf; rfl | 2, _ => cases hf; rfl | _ + 3, _ => cases hf⟩, ⟨(ApiMistake.mk x7 0 x6), ⟨_, rfl, rfl, fun j fd hj hf => by match j, hj with | 0, _ => cases hf; rfl | 1, _ => cases hf; rfl | 2, h => exact absurd rfl h | _ + 3, _ => cases hf⟩, rfl⟩⟩) ?_
    refine rStore (R := rApiNode) (R' := rApiNode) (a := (ApiNode.mk 0 [] [] 0 0 0 0 0 [])) (y := (ApiNode.mk 0 [] [] 0 0 0 0 0 [])) 0 Tryz.sizeOf24 (Upd.refl _) ?_
    refine rStore (R := rApiMistake) (R' := rApiMistake) (a := (ApiMistake.mk 0 0 0)) (y := (ApiMistake.mk x7 0 x6)) 1 Tryz.sizeOf36 (Upd.refl _) ?_
    obtain rfl := Option.some.inj h
    exact W_ret ⟨rfl, [(rApiNode).val (ApiNode.mk 0 [] [] 0 0 0 0 0 []), (rApiMistake).val (ApiMistake.mk x7 0 x6)], ⟨yBox 0 ty24 Pr.le_rfl, yBox 1 ty36 Pr.le_rfl, trivial⟩, Pr.le_rfl⟩
  · replace h := iteF hc8 h
    refine W_skip ?_
    refine W_rs ?_
    refine rAlloc (R := rApiNode) (z := (ApiNode.mk 0 [] [] 0 0 0 0 0 [])) Tryz.zeroValue24 (fun _ => (by rw [rApiNode_eq]; exact ⟨_, ⟨_, _, rfl, rfl, ⟨_, _, rfl, rfl, ⟨_, _, rfl, rfl, ⟨_, _, rfl, rfl, ⟨_, _, rfl, rfl, ⟨_, _, rfl, rfl, ⟨_, _, rfl, rfl, ⟨_, _, rfl, rfl, ⟨_, _, rfl, ⟨_, rfl, none, 0, rfl, ⟨Nat.le_refl _, fun _ => rfl⟩, .inl rfl⟩, rfl⟩⟩⟩⟩⟩⟩⟩⟩⟩, rfl⟩)) (fun b9 => ?_)
    refine W_rs ?_
    refine rAlloc (R := rRef12Wrong) (z := (Ref12Wrong.mk 0 0)) Tryz.zeroValue59 (fun _ => ⟨_, ⟨_, _, rfl, rfl, ⟨_, _, rfl, rfl, rfl⟩⟩, rfl⟩) (fun b10 => ?_)
    refine W_rs ?_
    refine rq (out := Pr.i64 0) qAssign ?_
    refine W_join (fun e C => ∃ (x29 : Int), ∃ (x30 : ApiNode), ∃ (x31 : Ref12Wrong), ref12_One_j4 x5 x29 x30 x31 = some r ∧ At [(4, Pr.pt b3 0), (5, Pr.pt b4 0), (6, Pr.lst rApiToken x5), (9, Pr.pt b9 0), (10, Pr.pt b10 0), (11, Pr.i64 x29)] [Own.box b3 rApiNode (ApiNode.mk 0 [] [] 0 0 0 0 0 []), Own.box b4 rApiMistake (ApiMistake.mk 0 0 0), Own.box b9 rApiNode x30, Own.box b10 rRef12Wrong x31] e C) ?_ ?_
    · rintro e C ⟨x29, x30, x31, h, hat4⟩
      refine W_at hat4 ?_
      clear hat4
      unfold ref12_One_j4 at h
      refine W_join (fun e C => ∃ (x37 : Ref12Wrong), ref12_One_j2 x5 x30 x37 = some r ∧ At [(4, Pr.pt b3 0), (5, Pr.pt b4 0), (6, Pr.lst rApiToken x5), (9, Pr.pt b9 0), (10, Pr.pt b10 0)] [Own.box b3 rApiNode (ApiNode.mk 0 [] [] 0 0 0 0 0 []), Own.box b4 rApiMistake (ApiMistake.mk 0 0 0), Own.box b9 rApiNode x30, Own.box b10 rRef12Wrong x37] e C) ?_ ?_
      · rintro e C ⟨x37, h, hat2⟩
        refine W_at hat2 ?_
        clear hat2
        unfold ref12_One_j2 at h
        refine W_seq ?_
        refine W_rs ?_
        refine rq (out := Pr.pt b10 0) (qFieldP fld59_0) ?_
        refine rq (out := Pr.i64 x37.Place) (qLoad (R := rRef12Wrong) (a := x37) (R' := Rp.int .i64) 3 ty3 subRef12Wrong_Place) ?_
        refine rq (out := Pr.bool (decide (x37.Place ≥ 0))) qInt ?_
        refine W_cond (b := decide (x37.Place ≥ 0)) rfl (fun hc38 => ?_) (fun hc38 => ?_)
        · replace h := iteT hc38 h
          refine W_rs ?_
          refine rq (out := (rApiNode).val (ApiNode.mk 0 [] [] 0 0 0 0 0 [])) (qBuildR rApiNode_eq st24 rfl) ?_
          refine rq (out := Pr.lst rApiToken x5) qMove ?_
          refine rq (out := (rRef12Wrong).val x37) (qLoad (R := rRef12Wrong) (a := x37) (R' := rRef12Wrong) 3 ty59 (Sub.refl _)) ?_
          obtain ⟨x39, hx39, h⟩ := bindSome h
          refine rq (out := (rApiMistake).val x39) (qCall (ref12_mistake_ok x5 x37 _ hx39)) ?_
          refine rStore (R := rApiNode) (R' := rApiNode) (a := (ApiNode.mk 0 [] [] 0 0 0 0 0 [])) (y := (ApiNode.mk 0 [] [] 0 0 0 0 0 [])) 0 Tryz.sizeOf24 (Upd.refl _) ?_
          refine rStore (R := rApiMistake) (R' := rApiMistake) (a := (ApiMistake.mk 0 0 0)) (y := x39) 1 Tryz.sizeOf36 (Upd.refl _) ?_
          obtain rfl := Option.some.inj h
          exact W_ret ⟨rfl, [(rApiNode).val (ApiNode.mk 0 [] [] 0 0 0 0 0 []), (rApiMistake).val x39], ⟨yBox 0 ty24 Pr.le_rfl, yBox 1 ty36 Pr.le_rfl, trivial⟩, Pr.le_rfl⟩
        · replace h := iteF hc38 h
          refine W_skip ?_
          refine W_seq ?_
          refine W_rs ?_
          refine rq (out := (rApiNode).val x30) (qLoad (R := rApiNode) (a := x30) (R' := rApiNode) 2 ty24 (Sub.refl _)) ?_
          obtain ⟨x40, hx40, h⟩ := bindSome h
          refine rq (out := Pr.i64 x40) (qCall (ref11_Depth_ok x30 _ hx40)) ?_
          refine rq (out := Pr.bool (decide (x40 > 200))) qInt ?_
          refine W_cond (b := decide (x40 > 200)) rfl (fun hc41 => ?_) (fun hc41 => ?_)
          · replace h := iteT hc41 h
            refine W_join (fun e C => ∃ (x42 : ApiToken), ref12_One_j1 x42 = some r ∧ At [(4, Pr.pt b3 0), (5, Pr.pt b4 0)] [Own.box b3 rApiNode (ApiNode.mk 0 [] [] 0 0 0 0 0 []), Own.box b4 rApiMistake (ApiMistake.mk 2 0 x42.At), Own.box b9 rApiNode x30, Own.box b10 rRef12Wrong x37] e C) ?_ ?_
            · rintro e C ⟨x42, h, hat1⟩
              refine W_at hat1 ?_
              clear hat1
              unfold ref12_One_j1 at h
              obtain rfl := Option.some.inj h
              exact W_ret ⟨rfl, [(rApiNode).val (ApiNode.mk 0 [] [] 0 0 0 0 0 []), (rApiMistake).val (ApiMistake.mk 2 0 x42.At)], ⟨yBox 0 ty24 Pr.le_rfl, yBox 1 ty36 Pr.le_rfl, trivial⟩, Pr.le_rfl⟩
            · obtain ⟨x42, hx42, h⟩ := bindSome h
              refine W_drawEx [(6, 0, Own.box b3 rApiNode (ApiNode.mk 0 [] [] 0 0 0 0 0 [])), (7, 1, Own.box b4 rApiMistake (ApiMistake.mk 2 0 x42.At))] [Own.box b3 rApiNode (ApiNode.mk 0 [] [] 0 0 0 0 0 []), Own.box b4 rApiMistake (ApiMistake.mk 2 0 x42.At), Own.box b9 rApiNode x30, Own.box b10 rRef12Wrong x37] hmx (by kernel_rfl) (by kernel_rfl) (show ([6, 7] : List Nat).Nodup by decide) (show ([0, 1] : List Nat).Nodup by decide) rfl rfl ?_
              refine eq1 (out := (rApiNode).val (ApiNode.mk 0 [] [] 0 0 0 0 0 [])) (fun C2 hC => (qBuildR rApiNode_eq st24 rfl)) ?_
              refine eq1 (out := Pr.lst rApiToken x5) (fun C2 hC => qMove) ?_
              refine eq1 (out := Pr.cpt rApiToken x42) (fun C2 hC => (qIdxA (R := rApiToken) (l := x5) Tryz.underlying52 Tryz.sizeOf56 hx42)) ?_
              refine eq1 (out := Pr.cpt (Rp.int .i64) x42.At) (fun C2 hC => (qFieldC (R := rApiToken) (a := x42) fld56_2 subApiToken_At)) ?_
              refine eq1 (out := Pr.i64 x42.At) (fun C2 hC => (qLoadC (R := Rp.int .i64) (a := x42.At) ty3)) ?_
              refine eq1 (out := (rApiMistake).val (ApiMistake.mk 2 0 x42.At)) (fun C2 hC => (qBuild st36 ⟨(ApiMistake.mk 2 0 0), ⟨_, rfl, rfl, fun j fd hj hf => by match j, hj with | 0, h => exact absurd rfl h | 1, _ => cases hf; rfl | 2, _ => cases hf; rfl | _ + 3, _ => cases hf⟩, ⟨(ApiMistake.mk 2 0 x42.At), ⟨_, rfl, rfl, fun j fd hj hf => by match j, hj with | 0, _ => cases hf; rfl | 1, _ => cases hf; rfl | 2, h => exact absurd rfl h | _ + 3, _ => cases hf⟩, rfl⟩⟩)) ?_
              refine eqS (fun C2 hC => sStore (R := rApiNode) (R' := rApiNode) (a := (ApiNode.mk 0 [] [] 0 0 0 0 0 [])) (y := (ApiNode.mk 0 [] [] 0 0 0 0 0 [])) 0 Tryz.sizeOf24 (Upd.refl _) ((hC 0 (by kernel_rfl)).trans rfl)) ?_
              refine eqS (fun C2 hC => sStore (R := rApiMistake) (R' := rApiMistake) (a := (ApiMistake.mk 0 0 0)) (y := (ApiMistake.mk 2 0 x42.At)) 1 Tryz.sizeOf36 (Upd.refl _) ((hC 1 (by kernel_rfl)).trans rfl)) ?_
              exact ⟨x42, h, ⟨⟨Pr.le_rfl, Pr.le_rfl, trivial⟩, Pick.refl _⟩⟩
          · replace h := iteF hc41 h
            refine W_skip ?_
            refine W_rs ?_
            refine rq (out := (rApiNode).val x30) (qLoad (R := rApiNode) (a := x30) (R' := rApiNode) 2 ty24 (Sub.refl _)) ?_
            refine rq (out := (rApiMistake).val (ApiMistake.mk 0 0 0)) (qBuild st36 rfl) ?_
            refine rStore (R := rApiNode) (R' := rApiNode) (a := (ApiNode.mk 0 [] [] 0 0 0 0 0 [])) (y := x30) 0 Tryz.sizeOf24 (Upd.refl _) ?_
            refine rStore (R := rApiMistake) (R' := rApiMistake) (a := (ApiMistake.mk 0 0 0)) (y := (ApiMistake.mk 0 0 0)) 1 Tryz.sizeOf36 (Upd.refl _) ?_
            obtain rfl := Option.some.inj h
            exact W_ret ⟨rfl, [(rApiNode).val x30, (rApiMistake).val (ApiMistake.mk 0 0 0)], ⟨yBox 0 ty24 Pr.le_rfl, yBox 1 ty36 Pr.le_rfl, trivial⟩, Pr.le_rfl⟩
      · refine W_join (fun e C => ∃ (x34 : Bool), ref12_One_j3 x29 x5 x30 x31 x34 = some r ∧ At [(4, Pr.pt b3 0), (5, Pr.pt b4 0), (6, Pr.lst rApiToken x5), (9, Pr.pt b9 0), (10, Pr.pt b10 0), (11, Pr.i64 x29), (71, Pr.bool x34)] [Own.box b3 rApiNode (ApiNode.mk 0 [] [] 0 0 0 0 0 []), Own.box b4 rApiMistake (ApiMistake.mk 0 0 0), Own.box b9 rApiNode x30, Own.box b10 rRef12Wrong x31] e C) ?_ ?_
        · rintro e C ⟨x34, h, hat3⟩
          refine W_at hat3 ?_
          clear hat3
          unfold ref12_One_j3 at h
          refine W_cond (b := x34) rfl (fun hc35 => ?_) (fun hc35 => ?_)
          · replace h := iteT hc35 h
            refine W_r ?_
            refine rq (out := Pr.i64 x29) qMove ?_
            obtain ⟨x36, hx36, h⟩ := bindSome h
            refine rq (out := (rRef12Wrong).val x36) (qCall (ref12_syntax_ok x29 _ hx36)) ?_
            refine rStore (R := rRef12Wrong) (R' := rRef12Wrong) (a := x31) (y := x36) 3 Tryz.sizeOf59 (Upd.refl _) ?_
            exact ⟨x36, h, ⟨⟨Pr.le_rfl, Pr.le_rfl, Pr.le_rfl, Pr.le_rfl, Pr.le_rfl, trivial⟩, Pick.refl _⟩⟩
          · replace h := iteF hc35 h
            refine W_skip ?_
            exact ⟨x31, h, ⟨⟨Pr.le_rfl, Pr.le_rfl, Pr.le_rfl, Pr.le_rfl, Pr.le_rfl, trivial⟩, Pick.refl _⟩⟩
        · refine W_r ?_
          refine rq (out := Pr.pt b10 0) (qFieldP fld59_0) ?_
          refine rq (out := Pr.i64 x31.Place) (qLoad (R := rRef12Wrong) (a := x31) (R' := Rp.int .i64) 3 ty3 subRef12Wrong_Place) ?_
          refine rq (out := Pr.bool (decide (x31.Place < 0))) qInt ?_
          refine rq (out := Pr.bool (decide (x31.Place < 0))) qMove ?_
          rcases iteSome h with ⟨hc32, h⟩ | ⟨hc32, h⟩
          · refine rqg hc32 (out := Pr.lst rApiToken x5) qMove ?_
            refine rqg hc32 (out := Pr.i64 x29) qMove ?_
            obtain ⟨x33, hx33, h⟩ := bindSome h
            refine rqg hc32 (out := Pr.cpt rApiToken x33) (qIdxA (R := rApiToken) (l := x5) Tryz.underlying52 Tryz.sizeOf56 hx33) ?_
            refine rqg hc32 (out := Pr.cpt (Rp.int .i64) x33.Kind) (qFieldC (R := rApiToken) (a := x33) fld56_0 subApiToken_Kind) ?_
            refine rqg hc32 (out := Pr.i64 x33.Kind) (qLoadC (R := Rp.int .i64) (a := x33.Kind) ty3) ?_
            refine rqg hc32 (out := Pr.bool (x33.Kind != 5)) qInt ?_
            refine rq (out := Pr.bool (x33.Kind != 5)) (qPickT hc32) ?_
            exact ⟨x33.Kind != 5, h, ⟨⟨Pr.le_rfl, Pr.le_rfl, Pr.le_rfl, Pr.le_rfl, Pr.le_rfl, Pr.le_rfl, Pr.le_rfl, trivial⟩, Pick.refl _⟩⟩
          · refine rno (neT hc32) ?_
            refine rno (neT hc32) ?_
            refine rno (neT hc32) ?_
            refine rno (neT hc32) ?_
            refine rno (neT hc32) ?_
            refine rno (neT hc32) ?_
            refine rq (out := Pr.bool false) (qPickF hc32) ?_
            exact ⟨false, h, ⟨⟨Pr.le_rfl, Pr.le_rfl, Pr.le_rfl, Pr.le_rfl, Pr.le_rfl, Pr.le_rfl, Pr.le_rfl, trivial⟩, Pick.refl _⟩⟩
    · refine W_block ?_
      refine W_rs ?_
      refine rq (out := Pr.i64 x2) qMove ?_
      refine rq (out := Pr.bool (x2 == 1)) qInt ?_
      refine rq (out := Pr.bool (x2 == 1)) qAssign ?_
      refine W_cond (b := x2 == 1) rfl (fun hc11 => ?_) (fun hc11 => ?_)
      · replace h := iteT hc11 h
        refine W_r ?_
        refine rq (out := Pr.lst rApiToken x5) qMove ?_
        obtain ⟨⟨x12, x13, x14⟩, hx12, h⟩ := bindSome h
        refine rq (out := Pr.tup [(rApiNode).val x12, Pr.i64 x13, (rRef12Wrong).val x14]) (qCall (ref12_member_ok x5 0 _ hx12)) ?_
        refine rq (out := Pr.tup [(rApiNode).val x12, Pr.i64 x13, (rRef12Wrong).val x14]) qMove ?_
        refine rq (out := (rApiNode).val x12) qExtract ?_
        refine rq (out := Pr.i64 x13) qExtract ?_
        refine rq (out := (rRef12Wrong).val x14) qExtract ?_
        refine rStore (R := rApiNode) (R' := rApiNode) (a := (ApiNode.mk 0 [] [] 0 0 0 0 0 [])) (y := x12) 2 Tryz.sizeOf24 (Upd.refl _) ?_
        refine rq (out := Pr.i64 x13) qAssign ?_
        refine rStore (R := rRef12Wrong) (R' := rRef12Wrong) (a := (Ref12Wrong.mk 0 0)) (y := x14) 3 Tryz.sizeOf59 (Upd.refl _) ?_
        exact ⟨x13, x12, x14, h, ⟨⟨Pr.le_rfl, Pr.le_rfl, Pr.le_rfl, Pr.le_rfl, Pr.le_rfl, Pr.le_rfl, trivial⟩, Pick.refl _⟩⟩
      · replace h := iteF hc11 h
        refine W_join (fun e C => ∃ (x17 : Bool), ref12_One_j5 x5 x2 x17 = some r ∧ At [(1, Pr.i64 x2), (4, Pr.pt b3 0), (5, Pr.pt b4 0), (6, Pr.lst rApiToken x5), (9, Pr.pt b9 0), (10, Pr.pt b10 0), (39, Pr.bool x17)] [Own.box b3 rApiNode (ApiNode.mk 0 [] [] 0 0 0 0 0 []), Own.box b4 rApiMistake (ApiMistake.mk 0 0 0), Own.box b9 rApiNode (ApiNode.mk 0 [] [] 0 0 0 0 0 []), Own.box b10 rRef12Wrong (Ref12Wrong.mk 0 0)] e C) ?_ ?_
        · rintro e C ⟨x17, h, hat5⟩
          refine W_at hat5 ?_
          clear hat5
          unfold ref12_One_j5 at h
          refine W_cond (b := x17) rfl (fun hc18 => ?_) (fun hc18 => ?_)
          · replace h := iteT hc18 h
            refine W_r ?_
            refine rq (out := Pr.lst rApiToken x5) qMove ?_
            obtain ⟨⟨x19, x20, x21⟩, hx19, h⟩ := bindSome h
            refine rq (out := Pr.tup [(rApiNode).val x19, Pr.i64 x20, (rRef12Wrong).val x21]) (qCall (ref12_locals_ok x5 0 1 _ hx19)) ?_
            refine rq (out := Pr.tup [(rApiNode).val x19, Pr.i64 x20, (rRef12Wrong).val x21]) qMove ?_
            refine rq (out := (rApiNode).val x19) qExtract ?_
            refine rq (out := Pr.i64 x20) qExtract ?_
            refine rq (out := (rRef12Wrong).val x21) qExtract ?_
            refine rStore (R := rApiNode) (R' := rApiNode) (a := (ApiNode.mk 0 [] [] 0 0 0 0 0 [])) (y := x19) 2 Tryz.sizeOf24 (Upd.refl _) ?_
            refine rq (out := Pr.i64 x20) qAssign ?_
            refine rStore (R := rRef12Wrong) (R' := rRef12Wrong) (a := (Ref12Wrong.mk 0 0)) (y := x21) 3 Tryz.sizeOf59 (Upd.refl _) ?_
            exact ⟨x20, x19, x21, h, ⟨⟨Pr.le_rfl, Pr.le_rfl, Pr.le_rfl, Pr.le_rfl, Pr.le_rfl, Pr.le_rfl, trivial⟩, Pick.refl _⟩⟩
          · replace h := iteF hc18 h
            refine W_rs ?_
            refine rq (out := Pr.i64 x2) qMove ?_
            refine rq (out := Pr.bool (x2 == 2)) qInt ?_
            refine rq (out := Pr.bool (x2 == 2)) qAssign ?_
            refine W_cond (b := x2 == 2) rfl (fun hc22 => ?_) (fun hc22 => ?_)
            · replace h := iteT hc22 h
              refine W_r ?_
              refine rq (out := Pr.lst rApiToken x5) qMove ?_
              obtain ⟨⟨x23, x24, x25⟩, hx23, h⟩ := bindSome h
              refine rq (out := Pr.tup [(rApiNode).val x23, Pr.i64 x24, (rRef12Wrong).val x25]) (qCall (ref12_statement_ok x5 0 1 _ hx23)) ?_
              refine rq (out := Pr.tup [(rApiNode).val x23, Pr.i64 x24, (rRef12Wrong).val x25]) qMove ?_
              refine rq (out := (rApiNode).val x23) qExtract ?_
              refine rq (out := Pr.i64 x24) qExtract ?_
              refine rq (out := (rRef12Wrong).val x25) qExtract ?_
              refine rStore (R := rApiNode) (R' := rApiNode) (a := (ApiNode.mk 0 [] [] 0 0 0 0 0 [])) (y := x23) 2 Tryz.sizeOf24 (Upd.refl _) ?_
              refine rq (out := Pr.i64 x24) qAssign ?_
              refine rStore (R := rRef12Wrong) (R' := rRef12Wrong) (a := (Ref12Wrong.mk 0 0)) (y := x25) 3 Tryz.sizeOf59 (Upd.refl _) ?_
              exact ⟨x24, x23, x25, h, ⟨⟨Pr.le_rfl, Pr.le_rfl, Pr.le_rfl, Pr.le_rfl, Pr.le_rfl, Pr.le_rfl, trivial⟩, Pick.refl _⟩⟩
            · replace h := iteF hc22 h
              refine W_r ?_
              refine rq (out := Pr.lst rApiToken x5) qMove ?_
              obtain ⟨⟨x26, x27, x28⟩, hx26, h⟩ := bindSome h
              refine rq (out := Pr.tup [(rApiNode).val x26, Pr.i64 x27, (rRef12Wrong).val x28]) (qCall (ref12_expression_ok x5 0 1 _ hx26)) ?_
              refine rq (out := Pr.tup [(rApiNode).val x26, Pr.i64 x27, (rRef12Wrong).val x28]) qMove ?_
              refine rq (out := (rApiNode).val x26) qExtract ?_
              refine rq (out := Pr.i64 x27) qExtract ?_
              refine rq (out := (rRef12Wrong).val x28) qExtract ?_
              refine rStore (R := rApiNode) (R' := rApiNode) (a := (ApiNode.mk 0 [] [] 0 0 0 0 0 [])) (y := x26) 2 Tryz.sizeOf24 (Upd.refl _) ?_
              refine rq (out := Pr.i64 x27) qAssign ?_
              refine rStore (R := rRef12Wrong) (R' := rRef12Wrong) (a := (Ref12Wrong.mk 0 0)) (y := x28) 3 Tryz.sizeOf59 (Upd.refl _) ?_
              exact ⟨x27, x26, x28, h, ⟨⟨Pr.le_rfl, Pr.le_rfl, Pr.le_rfl, Pr.le_rfl, Pr.le_rfl, Pr.le_rfl, trivial⟩, Pick.refl _⟩⟩
        · refine W_r ?_
          refine rq (out := Pr.i64 x2) qMove ?_
          refine rq (out := Pr.bool (x2 == 2)) qInt ?_
          refine rq (out := Pr.bool (x2 == 2)) qMove ?_
          rcases iteSome h with ⟨hc15, h⟩ | ⟨hc15, h⟩
          · refine rqg hc15 (out := Pr.lst rApiToken x5) qMove ?_
            obtain ⟨x16, hx16, h⟩ := bindSome h
            refine rqg hc15 (out := Pr.bool x16) (qCall (ref12_local_ok x5 0 _ hx16)) ?_
            refine rq (out := Pr.bool x16) (qPickT hc15) ?_
            refine rq (out := Pr.bool x16) qAssign ?_
            exact ⟨x16, h, ⟨⟨Pr.le_rfl, Pr.le_rfl, Pr.le_rfl, Pr.le_rfl, Pr.le_rfl, Pr.le_rfl, Pr.le_rfl, trivial⟩, Pick.refl _⟩⟩
          · refine rno (neT hc15) ?_
            refine rno (neT hc15) ?_
            refine rq (out := Pr.bool false) (qPickF hc15) ?_
            refine rq (out := Pr.bool false) qAssign ?_
            exact ⟨false, h, ⟨⟨Pr.le_rfl, Pr.le_rfl, Pr.le_rfl, Pr.le_rfl, Pr.le_rfl, Pr.le_rfl, Pr.le_rfl, trivial⟩, Pick.refl _⟩⟩
end Go.Proofs.YtgkcoicaopilhaaGreatDoor
