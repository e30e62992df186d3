/- The code comes to what these functions say (printed by wip/gen/gen.py). -/
import Derived.Test.YtgkcoicaopilhaaGreatDoorZP1
import Derived.Test.YtgkcoicaopilhaaGreatDoorZT
set_option linter.unusedSimpArgs false
set_option linter.unusedVariables false
/- The code comes to what these functions say (printed by wip/gen/gen.py). -/
set_option linter.unusedSectionVars false
set_option maxRecDepth 100000
set_option maxHeartbeats 4000000
namespace Go.Proofs.YtgkcoicaopilhaaGreatDoor
open Go Go.Cn

theorem ref12_name_ok (x1 : List ApiToken) (x2 : Int) (r : Bool) (h : ref12_name x1 x2 = some r) : FnP Tryz.prog 59 [Pr.lst rApiToken x1, Pr.i64 x2] (Pr.bool r) := by
  refine fn_intro (n := 17) (rs := [4]) Tryz.func59 rfl Tryz.ntmps59 ⟨by decide, Tryz.results59⟩ (by decide) (fun s0 => ?_)
  unfold ref12_name at h
  refine W_rs ?_
  refine rq (out := Pr.bool false) qAssign ?_
  refine W_join (fun e C => ∃ (x5 : Bool), ref12_name_j1 x5 = some r ∧ At [(4, Pr.bool x5)] [] e C) ?_ ?_
  · rintro e C ⟨x5, h, hat1⟩
    refine W_at hat1 ?_
    clear hat1
    unfold ref12_name_j1 at h
    obtain rfl := Option.some.inj h
    exact W_ret ⟨rfl, Pr.le_rfl⟩
  · refine W_r ?_
    refine rq (out := Pr.i64 x2) qMove ?_
    refine rq (out := Pr.lst rApiToken x1) qMove ?_
    refine rq (out := Pr.i64 (x1.length : Int)) (qLenL rfl Tryz.underlying52) ?_
    refine rq (out := Pr.bool (decide (x2 < (x1.length : Int)))) qInt ?_
    refine rq (out := Pr.bool (decide (x2 < (x1.length : Int)))) qMove ?_
    rcases iteSome h with ⟨hc3, h⟩ | ⟨hc3, h⟩
    · refine rqg hc3 (out := Pr.lst rApiToken x1) qMove ?_
      refine rqg hc3 (out := Pr.i64 x2) qMove ?_
      obtain ⟨x4, hx4, h⟩ := bindSome h
      refine rqg hc3 (out := Pr.cpt rApiToken x4) (qIdxA (R := rApiToken) (l := x1) Tryz.underlying52 Tryz.sizeOf56 hx4) ?_
      refine rqg hc3 (out := Pr.cpt (Rp.int .i64) x4.Kind) (qFieldC (R := rApiToken) (a := x4) fld56_0 subApiToken_Kind) ?_
      refine rqg hc3 (out := Pr.i64 x4.Kind) (qLoadC (R := Rp.int .i64) (a := x4.Kind) ty3) ?_
      refine rqg hc3 (out := Pr.bool (x4.Kind == 1)) qInt ?_
      refine rq (out := Pr.bool (x4.Kind == 1)) (qPickT hc3) ?_
      refine rq (out := Pr.bool (x4.Kind == 1)) qAssign ?_
      exact ⟨x4.Kind == 1, h, ⟨⟨Pr.le_rfl, trivial⟩, Pick.refl _⟩⟩
    · refine rno (neT hc3) ?_
      refine rno (neT hc3) ?_
      refine rno (neT hc3) ?_
      refine rno (neT hc3) ?_
      refine rno (neT hc3) ?_
      refine rno (neT hc3) ?_
      refine rq (out := Pr.bool false) (qPickF hc3) ?_
      refine rq (out := Pr.bool false) qAssign ?_
      exact ⟨false, h, ⟨⟨Pr.le_rfl, trivial⟩, Pick.refl _⟩⟩
theorem ref12_kind_ok (x1 : List ApiToken) (x2 : Int) (r : Bool) (h : ref12_kind x1 x2 = some r) : FnP Tryz.prog 58 [Pr.lst rApiToken x1, Pr.i64 x2] (Pr.bool r) := by
  refine fn_intro (n := 23) (rs := [4]) Tryz.func58 rfl Tryz.ntmps58 ⟨by decide, Tryz.results58⟩ (by decide) (fun s0 => ?_)
  unfold ref12_kind at h
  refine W_rs ?_
  refine rq (out := Pr.bool false) qAssign ?_
  refine W_join (fun e C => ∃ (x18 : Bool), ref12_kind_j1 x18 = some r ∧ At [(4, Pr.bool x18)] [] e C) ?_ ?_
  · rintro e C ⟨x18, h, hat1⟩
    refine W_at hat1 ?_
    clear hat1
    unfold ref12_kind_j1 at h
    obtain rfl := Option.some.inj h
    exact W_ret ⟨rfl, Pr.le_rfl⟩
  · refine W_r ?_
    refine rq (out := Pr.lst rApiToken x1) qMove ?_
    refine rq (out := Pr.i64 x2) qMove ?_
    obtain ⟨x3, hx3, h⟩ := bindSome h
    refine rq (out := Pr.bool x3) (qCall (ref12_name_ok x1 x2 _ hx3)) ?_
    refine rq (out := Pr.bool x3) qMove ?_
    rcases iteSome h with ⟨hc4, h⟩ | ⟨hc4, h⟩
    · refine rno (neF hc4) ?_
      refine rno (neF hc4) ?_
      refine rno (neF hc4) ?_
      refine rq (out := Pr.bool true) (qPickT hc4) ?_
      refine rq (out := Pr.bool true) qMove ?_
      have hc12 : true = true := rfl
      refine rno (neF hc12) ?_
      refine rno (neF hc12) ?_
      refine rno (neF hc12) ?_
      refine rq (out := Pr.bool true) (qPickT hc12) ?_
      refine rq (out := Pr.bool true) qMove ?_
      have hc16 : true = true := rfl
      refine rno (neF hc16) ?_
      refine rno (neF hc16) ?_
      refine rno (neF hc16) ?_
      refine rq (out := Pr.bool true) (qPickT hc16) ?_
      refine rq (out := Pr.bool true) qAssign ?_
      exact ⟨true, h, ⟨⟨Pr.le_rfl, trivial⟩, Pick.refl _⟩⟩
    · refine rqg hc4 (out := Pr.lst rApiToken x1) qMove ?_
      refine rqg hc4 (out := Pr.i64 x2) qMove ?_
      obtain ⟨x5, hx5, h⟩ := bindSome h
      refine rqg hc4 (out := Pr.bool x5) (qCall (ref12_is_ok x1 x2 ([105, 110, 116] : List UInt8) _ hx5)) ?_
      refine rq (out := Pr.bool x5) (qPickF hc4) ?_
      refine rq (out := Pr.bool x5) qMove ?_
      rcases iteSome h with ⟨hc6, h⟩ | ⟨hc6, h⟩
      · refine rno (neF hc6) ?_
        refine rno (neF hc6) ?_
        refine rno (neF hc6) ?_
        refine rq (out := Pr.bool true) (qPickT hc6) ?_
        refine rq (out := Pr.bool true) qMove ?_
        have hc10 : true = true := rfl
        refine rno (neF hc10) ?_
        refine rno (neF hc10) ?_
        refine rno (neF hc10) ?_
        refine rq (out := Pr.bool true) (qPickT hc10) ?_
        refine rq (out := Pr.bool true) qAssign ?_
        exact ⟨true, h, ⟨⟨Pr.le_rfl, trivial⟩, Pick.refl _⟩⟩
      · refine rqg hc6 (out := Pr.lst rApiToken x1) qMove ?_
        refine rqg hc6 (out := Pr.i64 x2) qMove ?_
        obtain ⟨x7, hx7, h⟩ := bindSome h
        refine rqg hc6 (out := Pr.bool x7) (qCall (ref12_is_ok x1 x2 ([98, 111, 111, 108, 101, 97, 110] : List UInt8) _ hx7)) ?_
        refine rq (out := Pr.bool x7) (qPickF hc6) ?_
        refine rq (out := Pr.bool x7) qMove ?_
        rcases iteSome h with ⟨hc8, h⟩ | ⟨hc8, h⟩
        · refine rno (neF hc8) ?_
          refine rno (neF hc8) ?_
          refine rno (neF hc8) ?_
          refine rq (out := Pr.bool true) (qPickT hc8) ?_
          refine rq (out := Pr.bool true) qAssign ?_
          exact ⟨true, h, ⟨⟨Pr.le_rfl, trivial⟩, Pick.refl _⟩⟩
        · refine rqg hc8 (out := Pr.lst rApiToken x1) qMove ?_
          refine rqg hc8 (out := Pr.i64 x2) qMove ?_
          obtain ⟨x9, hx9, h⟩ := bindSome h
          refine rqg hc8 (out := Pr.bool x9) (qCall (ref12_is_ok x1 x2 ([118, 111, 105, 100] : List UInt8) _ hx9)) ?_
          refine rq (out := Pr.bool x9) (qPickF hc8) ?_
          refine rq (out := Pr.bool x9) qAssign ?_
          exact ⟨x9, h, ⟨⟨Pr.le_rfl, trivial⟩, Pick.refl _⟩⟩
theorem ref12_typed_ok (x1 : List ApiToken) (x2 : ApiNode) (x3 : Int) (r : ApiNode) (h : ref12_typed x1 x2 x3 = some r) : FnP Tryz.prog 62 [Pr.lst rApiToken x1, (rApiNode).val x2, Pr.i64 x3] ((rApiNode).val r) := by
  refine fn_introR (n := 34) (rs := [.cell 6 24]) Tryz.func62 rfl Tryz.ntmps62 Tryz.results62 (by decide) (fun s0 => ?_)
  unfold ref12_typed at h
  refine W_rs ?_
  refine rBox (R := rApiNode) (a := x2) rfl (fun b4 => ?_)
  refine rAlloc (R := rApiNode) (z := (ApiNode.mk 0 [] [] 0 0 0 0 0 [])) Tryz.zeroValue24 (fun _ => (by rw [rApiNode_eq]; exact ⟨_, ⟨_, _, rfl, rfl, ⟨_, _, rfl, rfl, ⟨_, _, rfl, rfl, ⟨_, _, rfl, rfl, ⟨_, _, rfl, rfl, ⟨_, _, rfl, rfl, ⟨_, _, rfl, rfl, ⟨_, _, rfl, rfl, ⟨_, _, rfl, ⟨_, rfl, none, 0, rfl, ⟨Nat.le_refl _, fun _ => rfl⟩, .inl rfl⟩, rfl⟩⟩⟩⟩⟩⟩⟩⟩⟩, rfl⟩)) (fun b5 => ?_)
  refine W_rs ?_
  refine rq (out := Pr.lst rApiToken x1) qMove ?_
  refine rq (out := Pr.i64 x3) qMove ?_
  obtain ⟨x6, hx6, h⟩ := bindSome h
  refine rq (out := Pr.cpt rApiToken x6) (qIdxA (R := rApiToken) (l := x1) Tryz.underlying52 Tryz.sizeOf56 hx6) ?_
  refine rq (out := Pr.cpt Rp.str x6.Text) (qFieldC (R := rApiToken) (a := x6) fld56_1 subApiToken_Text) ?_
  refine rq (out := Pr.str x6.Text) (qLoadC (R := Rp.str) (a := x6.Text) ty9) ?_
  refine rq (out := Pr.pt b4 2) (qFieldP fld24_2) ?_
  refine rStore (R := rApiNode) (R' := Rp.str) (a := x2) (y := x6.Text) 0 Tryz.sizeOf9 updApiNode_Type ?_
  refine W_rs ?_
  refine rq (out := Pr.lst rApiToken x1) qMove ?_
  refine rq (out := Pr.i64 x3) qMove ?_
  obtain ⟨x7, hx7, h⟩ := bindSome h
  refine rq (out := Pr.cpt rApiToken x7) (qIdxA (R := rApiToken) (l := x1) Tryz.underlying52 Tryz.sizeOf56 hx7) ?_
  refine rq (out := Pr.cpt (Rp.int .i64) x7.At) (qFieldC (R := rApiToken) (a := x7) fld56_2 subApiToken_At) ?_
  refine rq (out := Pr.i64 x7.At) (qLoadC (R := Rp.int .i64) (a := x7.At) ty3) ?_
  refine rq (out := Pr.pt b4 7) (qFieldP fld24_7) ?_
  refine rStore (R := rApiNode) (R' := Rp.int .i64) (a := { x2 with Type_ := x6.Text }) (y := x7.At) 0 Tryz.sizeOf3 updApiNode_TypeAt ?_
  refine W_rs ?_
  refine rq (out := Pr.lst rApiToken x1) qMove ?_
  refine rq (out := Pr.i64 x3) qMove ?_
  refine rq (out := Pr.i64 (w64 (x3 + 1))) qInt ?_
  obtain ⟨x8, hx8, h⟩ := bindSome h
  refine rq (out := Pr.cpt rApiToken x8) (qIdxA (R := rApiToken) (l := x1) Tryz.underlying52 Tryz.sizeOf56 hx8) ?_
  refine rq (out := Pr.cpt Rp.str x8.Text) (qFieldC (R := rApiToken) (a := x8) fld56_1 subApiToken_Text) ?_
  refine rq (out := Pr.str x8.Text) (qLoadC (R := Rp.str) (a := x8.Text) ty9) ?_
  refine rq (out := Pr.pt b4 1) (qFieldP fld24_1) ?_
  refine rStore (R := rApiNode) (R' := Rp.str) (a := { { x2 with Type_ := x6.Text } with TypeAt := x7.At }) (y := x8.Text) 0 Tryz.sizeOf9 updApiNode_Text ?_
  refine W_rs ?_
  refine rq (out := Pr.lst rApiToken x1) qMove ?_
  refine rq (out := Pr.i64 x3) qMove ?_
  refine rq (out := Pr.i64 (w64 (x3 + 1))) qInt ?_
  obtain ⟨x9, hx9, h⟩ := bindSome h
  refine rq (out := Pr.cpt rApiToken x9) (qIdxA (R := rApiToken) (l := x1) Tryz.underlying52 Tryz.sizeOf56 hx9) ?_
  refine rq (out := Pr.cpt (Rp.int .i64) x9.At) (qFieldC (R := rApiToken) (a := x9) fld56_2 subApiToken_At) ?_
  refine rq (out := Pr.i64 x9.At) (qLoadC (R := Rp.int .i64) (a := x9.At) ty3) ?_
  refine rq (out := Pr.pt b4 6) (qFieldP fld24_6) ?_
  refine rStore (R := rApiNode) (R' := Rp.int .i64) (a := { { { x2 with Type_ := x6.Text } with TypeAt := x7.At } with Text := x8.Text }) (y := x9.At) 0 Tryz.sizeOf3 updApiNode_At ?_
  refine W_rs ?_
  refine rq (out := (rApiNode).val ({ { { { x2 with Type_ := x6.Text } with TypeAt := x7.At } with Text := x8.Text } with At := x9.At })) (qLoad (R := rApiNode) (a := { { { { x2 with Type_ := x6.Text } with TypeAt := x7.At } with Text := x8.Text } with At := x9.At }) (R' := rApiNode) 0 ty24 (Sub.refl _)) ?_
  refine rStore (R := rApiNode) (R' := rApiNode) (a := (ApiNode.mk 0 [] [] 0 0 0 0 0 [])) (y := { { { { x2 with Type_ := x6.Text } with TypeAt := x7.At } with Text := x8.Text } with At := x9.At }) 1 Tryz.sizeOf24 (Upd.refl _) ?_
  obtain rfl := Option.some.inj h
  exact W_ret ⟨rfl, [(rApiNode).val ({ { { { x2 with Type_ := x6.Text } with TypeAt := x7.At } with Text := x8.Text } with At := x9.At })], ⟨yBox 1 ty24 Pr.le_rfl, trivial⟩, Pr.le_rfl⟩
theorem ref12_end_ok (x1 : List ApiToken) (x2 : Int) (r : Int) (h : ref12_end x1 x2 = some r) : FnP Tryz.prog 89 [Pr.lst rApiToken x1, Pr.i64 x2] (Pr.i64 r) := by
  refine fn_intro (n := 19) (rs := [4]) Tryz.func89 rfl Tryz.ntmps89 ⟨by decide, Tryz.results89⟩ (by decide) (fun s0 => ?_)
  unfold ref12_end at h
  refine W_rs ?_
  refine rq (out := Pr.i64 0) qAssign ?_
  refine W_join (fun e C => ∃ (x3 : ApiToken), ∃ (x4 : ApiToken), ref12_end_j1 x3 x4 = some r ∧ At [(4, Pr.i64 (w64 (x3.At + (x4.Text.length : Int))))] [] e C) ?_ ?_
  · rintro e C ⟨x3, x4, h, hat1⟩
    refine W_at hat1 ?_
    clear hat1
    unfold ref12_end_j1 at h
    obtain rfl := Option.some.inj h
    exact W_ret ⟨rfl, Pr.le_rfl⟩
  · refine W_draw 15 hmx (by kernel_rfl) (by kernel_rfl) ?_
    refine qq (out := Pr.lst rApiToken x1) qMove ?_
    refine qq (out := Pr.i64 x2) qMove ?_
    refine qq (out := Pr.i64 (w64 (x2 - 1))) qInt ?_
    obtain ⟨x3, hx3, h⟩ := bindSome h
    refine qq (out := Pr.cpt rApiToken x3) (qIdxA (R := rApiToken) (l := x1) Tryz.underlying52 Tryz.sizeOf56 hx3) ?_
    refine qq (out := Pr.cpt (Rp.int .i64) x3.At) (qFieldC (R := rApiToken) (a := x3) fld56_2 subApiToken_At) ?_
    refine qq (out := Pr.i64 x3.At) (qLoadC (R := Rp.int .i64) (a := x3.At) ty3) ?_
    refine qq (out := Pr.lst rApiToken x1) qMove ?_
    refine qq (out := Pr.i64 x2) qMove ?_
    refine qq (out := Pr.i64 (w64 (x2 - 1))) qInt ?_
    obtain ⟨x4, hx4, h⟩ := bindSome h
    refine qq (out := Pr.cpt rApiToken x4) (qIdxA (R := rApiToken) (l := x1) Tryz.underlying52 Tryz.sizeOf56 hx4) ?_
    refine qq (out := Pr.cpt Rp.str x4.Text) (qFieldC (R := rApiToken) (a := x4) fld56_1 subApiToken_Text) ?_
    refine qq (out := Pr.str x4.Text) (qLoadC (R := Rp.str) (a := x4.Text) ty9) ?_
    refine qq (out := Pr.i64 (x4.Text.length : Int)) (qLenS rfl Tryz.underlying9) ?_
    refine qq (out := Pr.i64 (w64 (x3.At + (x4.Text.length : Int)))) qInt ?_
    refine qq (out := Pr.i64 (w64 (x3.At + (x4.Text.length : Int)))) qAssign ?_
    exact ⟨x3, x4, h, ⟨⟨Pr.le_rfl, trivial⟩, Pick.refl _⟩⟩
theorem ref12_made_ok (x1 : List ApiToken) (x2 : Int) (x3 : Int) (x4 : Int) (x5 : List ApiNode) (r : ApiNode) (h : ref12_made x1 x2 x3 x4 x5 = some r) : FnP Tryz.prog 63 [Pr.lst rApiToken x1, Pr.i64 x2, Pr.i64 x3, Pr.i64 x4, Pr.lst rApiNode x5] ((rApiNode).val r) := by
  refine fn_introR (n := 22) (rs := [.cell 10 24]) Tryz.func63 rfl Tryz.ntmps63 Tryz.results63 (by decide) (fun s0 => ?_)
  unfold ref12_made at h
  refine W_rs ?_
  refine rAlloc (R := rApiNode) (z := (ApiNode.mk 0 [] [] 0 0 0 0 0 [])) Tryz.zeroValue24 (fun _ => (by rw [rApiNode_eq]; exact ⟨_, ⟨_, _, rfl, rfl, ⟨_, _, rfl, rfl, ⟨_, _, rfl, rfl, ⟨_, _, rfl, rfl, ⟨_, _, rfl, rfl, ⟨_, _, rfl, rfl, ⟨_, _, rfl, rfl, ⟨_, _, rfl, rfl, ⟨_, _, rfl, ⟨_, rfl, none, 0, rfl, ⟨Nat.le_refl _, fun _ => rfl⟩, .inl rfl⟩, rfl⟩⟩⟩⟩⟩⟩⟩⟩⟩, rfl⟩)) (fun b6 => ?_)
  refine W_join (fun e C => ∃ (x7 : ApiToken), ∃ (x8 : Int), ref12_made_j1 x2 x5 x7 x8 = some r ∧ At [(10, Pr.pt b6 0)] [Own.box b6 rApiNode (ApiNode.mk x2 [] [] 0 x7.At x8 (-1) (-1) x5)] e C) ?_ ?_
  · rintro e C ⟨x7, x8, h, hat1⟩
    refine W_at hat1 ?_
    clear hat1
    unfold ref12_made_j1 at h
    obtain rfl := Option.some.inj h
    exact W_ret ⟨rfl, [(rApiNode).val (ApiNode.mk x2 [] [] 0 x7.At x8 (-1) (-1) x5)], ⟨yBox 0 ty24 Pr.le_rfl, trivial⟩, Pr.le_rfl⟩
  · refine W_draw 11 hmx (by kernel_rfl) (by kernel_rfl) ?_
    refine qq (out := Pr.i64 x2) qMove ?_
    refine qq (out := Pr.lst rApiToken x1) qMove ?_
    refine qq (out := Pr.i64 x3) qMove ?_
    obtain ⟨x7, hx7, h⟩ := bindSome h
    refine qq (out := Pr.cpt rApiToken x7) (qIdxA (R := rApiToken) (l := x1) Tryz.underlying52 Tryz.sizeOf56 hx7) ?_
    refine qq (out := Pr.cpt (Rp.int .i64) x7.At) (qFieldC (R := rApiToken) (a := x7) fld56_2 subApiToken_At) ?_
    refine qq (out := Pr.i64 x7.At) (qLoadC (R := Rp.int .i64) (a := x7.At) ty3) ?_
    refine qq (out := Pr.lst rApiToken x1) qMove ?_
    refine qq (out := Pr.i64 x4) qMove ?_
    obtain ⟨x8, hx8, h⟩ := bindSome h
    refine qq (out := Pr.i64 x8) (qCall (ref12_end_ok x1 x4 _ hx8)) ?_
    refine qq (out := Pr.lst rApiNode x5) qMove ?_
    refine qq (out := (rApiNode).val (ApiNode.mk x2 [] [] 0 x7.At x8 (-1) (-1) x5)) (qBuildR rApiNode_eq st24 ⟨(ApiNode.mk x2 [] [] 0 0 0 0 0 []), ⟨_, rfl, rfl, fun j fd hj hf => by match j, hj with | 0, h => exact absurd rfl h | 1, _ => cases hf; rfl | 2, _ => cases hf; rfl | 3, _ => cases hf; rfl | 4, _ => cases hf; rfl | 5, _ => cases hf; rfl | 6, _ => cases hf; rfl | 7, _ => cases hf; rfl | 8, _ => cases hf; rfl | _ + 9, _ => cases hf⟩, ⟨(ApiNode.mk x2 [] [] 0 x7.At 0 0 0 []), ⟨_, rfl, rfl, fun j fd hj hf => by match j, hj with | 0, _ => cases hf; rfl | 1, _ => cases hf; rfl | 2, _ => cases hf; rfl | 3, _ => cases hf; rfl | 4, h => exact absurd rfl h | 5, _ => cases hf; rfl | 6, _ => cases hf; rfl | 7, _ => cases hf; rfl | 8, _ => cases hf; rfl | _ + 9, _ => cases hf⟩, ⟨(ApiNode.mk x2 [] [] 0 x7.At x8 0 0 []), ⟨_, rfl, rfl, fun j fd hj hf => by match j, hj with | 0, _ => cases hf; rfl | 1, _ => cases hf; rfl | 2, _ => cases hf; rfl | 3, _ => cases hf; rfl | 4, _ => cases hf; rfl | 5, h => exact absurd rfl h | 6, _ => cases hf; rfl | 7, _ => cases hf; rfl | 8, _ => cases hf; rfl | _ + 9, _ => cases hf⟩, ⟨(ApiNode.mk x2 [] [] 0 x7.At x8 (-1) 0 []), ⟨_, rfl, rfl, fun j fd hj hf => by match j, hj with | 0, _ => cases hf; rfl | 1, _ => cases hf; rfl | 2, _ => cases hf; rfl | 3, _ => cases hf; rfl | 4, _ => cases hf; rfl | 5, _ => cases hf; rfl | 6, h => exact absurd rfl h | 7, _ => cases hf; rfl | 8, _ => cases hf; rfl | _ + 9, _ => cases hf⟩, ⟨(ApiNode.mk x2 [] [] 0 x7.At x8 (-1) (-1) []), ⟨_, rfl, rfl, fun j fd hj hf => by match j, hj with | 0, _ => cases hf; rfl | 1, _ => cases hf; rfl | 2, _ => cases hf; rfl | 3, _ => cases hf; rfl | 4, _ => cases hf; rfl | 5, _ => cases hf; rfl | 6, _ => cases hf; rfl | 7, h => exact absurd rfl h | 8, _ => cases hf; rfl | _ + 9, _ => cases hf⟩, ⟨(ApiNode.mk x2 [] [] 0 x7.At x8 (-1) (-1) x5), ⟨_, rfl, rfl, fun j fd hj hf => by match j, hj with | 0, _ => cases hf; rfl | 1, _ => cases hf; rfl | 2, _ => cases hf; rfl | 3, _ => cases hf; rfl | 4, _ => cases hf; rfl | 5, _ => cases hf; rfl | 6, _ => cases hf; rfl | 7, _ => cases hf; rfl | 8, h => exact absurd rfl h | _ + 9, _ => cases hf⟩, rfl⟩⟩⟩⟩⟩⟩) ?_
    refine rStore (R := rApiNode) (R' := rApiNode) (a := (ApiNode.mk 0 [] [] 0 0 0 0 0 [])) (y := (ApiNode.mk x2 [] [] 0 x7.At x8 (-1) (-1) x5)) 0 Tryz.sizeOf24 (Upd.refl _) ?_
    exact ⟨x7, x8, h, ⟨⟨Pr.le_rfl, trivial⟩, Pick.refl _⟩⟩
theorem ref12_fine_ok (r : Ref12Wrong) (h : ref12_fine = some r) : FnP Tryz.prog 64 [] ((rRef12Wrong).val r) := by
  refine fn_introR (n := 2) (rs := [.cell 0 59]) Tryz.func64 rfl Tryz.ntmps64 Tryz.results64 (by decide) (fun s0 => ?_)
  unfold ref12_fine at h
  refine W_rs ?_
  refine rAlloc (R := rRef12Wrong) (z := (Ref12Wrong.mk 0 0)) Tryz.zeroValue59 (fun _ => ⟨_, ⟨_, _, rfl, rfl, ⟨_, _, rfl, rfl, rfl⟩⟩, rfl⟩) (fun b1 => ?_)
  refine W_rs ?_
  refine rq (out := (rRef12Wrong).val (Ref12Wrong.mk (-1) 0)) (qBuild st59 ⟨(Ref12Wrong.mk (-1) 0), ⟨_, rfl, rfl, fun j fd hj hf => by match j, hj with | 0, h => exact absurd rfl h | 1, _ => cases hf; rfl | _ + 2, _ => cases hf⟩, rfl⟩) ?_
  refine rStore (R := rRef12Wrong) (R' := rRef12Wrong) (a := (Ref12Wrong.mk 0 0)) (y := (Ref12Wrong.mk (-1) 0)) 0 Tryz.sizeOf59 (Upd.refl _) ?_
  obtain rfl := Option.some.inj h
  exact W_ret ⟨rfl, [(rRef12Wrong).val (Ref12Wrong.mk (-1) 0)], ⟨yBox 0 ty59 Pr.le_rfl, trivial⟩, Pr.le_rfl⟩
theorem ref12_params_ok (x1 : List ApiToken) (x2 : Int) (r : (List ApiNode) × Int × Ref12Wrong) (h : ref12_params x1 x2 = some r) : FnC Tryz.prog 60 [Pr.lst rApiToken x1, Pr.i64 x2] [] (fun q C' => ∃ u0, q = Pr.tup [Pr.is u0, Pr.i64 r.2.1, (rRef12Wrong).val r.2.2] ∧ C' = [Own.vec u0 rApiNode r.1 24]) := by
  refine fnc_introR (n := 63) (rs := [.tmp 4, .tmp 5, .cell 6 59]) Tryz.func60 rfl Tryz.ntmps60 Tryz.results60 (by decide) (fun s0 => ?_)
  unfold ref12_params at h
  refine W_rs ?_
  refine rq (out := Pr.is (.slice none 0 0)) qAssign ?_
  refine rq (out := Pr.i64 0) qAssign ?_
  refine rAlloc (R := rRef12Wrong) (z := (Ref12Wrong.mk 0 0)) Tryz.zeroValue59 (fun _ => ⟨_, ⟨_, _, rfl, rfl, ⟨_, _, rfl, rfl, rfl⟩⟩, rfl⟩) (fun b3 => ?_)
  refine W_rs ?_
  refine rq (out := Pr.is (.slice none 0 0)) qAssign ?_
  refine W_seq ?_
  refine W_rs ?_
  refine rq (out := Pr.lst rApiToken x1) qMove ?_
  refine rq (out := Pr.i64 x2) qMove ?_
  obtain ⟨x4, hx4, h⟩ := bindSome h
  refine rq (out := Pr.bool x4) (qCall (ref12_is_ok x1 x2 ([41] : List UInt8) _ hx4)) ?_
  refine W_cond (b := x4) rfl (fun hc5 => ?_) (fun hc5 => ?_)
  · replace h := iteT hc5 h
    refine W_rs ?_
    refine rq (out := Pr.is (.slice none 0 0)) qMove ?_
    refine rq (out := Pr.i64 x2) qMove ?_
    refine rq (out := Pr.i64 (w64 (x2 + 1))) qInt ?_
    obtain ⟨x6, hx6, h⟩ := bindSome h
    refine rq (out := (rRef12Wrong).val x6) (qCall (ref12_fine_ok  _ hx6)) ?_
    refine rq (out := Pr.is (.slice none 0 0)) qAssign ?_
    refine rq (out := Pr.i64 (w64 (x2 + 1))) qAssign ?_
    refine rStore (R := rRef12Wrong) (R' := rRef12Wrong) (a := (Ref12Wrong.mk 0 0)) (y := x6) 0 Tryz.sizeOf59 (Upd.refl _) ?_
    refine W_nil [4] rApiNode 24 (fun v7 => ?_) ⟨rfl, trivial⟩
    obtain rfl := Option.some.inj h
    exact W_ret ⟨.inl rfl, [Pr.is v7, Pr.i64 (w64 (x2 + 1)), (rRef12Wrong).val x6], ⟨yT Pr.le_rfl, yT Pr.le_rfl, yBox 0 ty59 Pr.le_rfl, trivial⟩, _, Pick.of [1] rfl, v7, rfl, rfl⟩
  · replace h := iteF hc5 h
    refine W_skip ?_
    refine W_block ?_
    obtain ⟨n1, hN1⟩ := iter_some h
    refine W_nil [7] rApiNode 24 (fun v36 => ?_) ⟨rfl, trivial⟩
    refine W_loop (fun m e C => ∃ (x8 : Int), ∃ (x10 : List ApiNode), ∃ (v9 : Value), IterN (fun s => ref12_params_l1 x1 s.1 s.2) m (x8, x10) = some r ∧ At [(0, Pr.lst rApiToken x1), (1, Pr.i64 x8), (6, Pr.pt b3 0), (7, Pr.is v9)] [Own.box b3 rRef12Wrong (Ref12Wrong.mk 0 0), Own.vec v9 rApiNode x10 24] e C) n1 ⟨x2, [], v36, hN1, ⟨⟨Pr.le_rfl, Pr.le_rfl, Pr.le_rfl, Pr.le_rfl, trivial⟩, Pick.refl _⟩⟩ ?_
    clear hN1
    rintro m e C ⟨x8, x10, v9, hN1, hatl1⟩
    refine W_at hatl1 ?_
    clear hatl1
    obtain ⟨m1, w1l, rfl, h1l, hn1, ho1⟩ := iterN_some hN1
    clear hN1
    replace h1l : ref12_params_l1 x1 x8 x10 = some w1l := h1l
    unfold ref12_params_l1 at h1l
    refine W_block ?_
    refine W_seq ?_
    refine W_join (fun e C => ∃ (x17 : Bool), ref12_params_j2 x8 x1 x10 x17 = some w1l ∧ At [(0, Pr.lst rApiToken x1), (1, Pr.i64 x8), (6, Pr.pt b3 0), (7, Pr.is v9), (23, Pr.bool x17)] [Own.box b3 rRef12Wrong (Ref12Wrong.mk 0 0), Own.vec v9 rApiNode x10 24] e C) ?_ ?_
    · rintro e C ⟨x17, h1l, hat2⟩
      refine W_at hat2 ?_
      clear hat2
      unfold ref12_params_j2 at h1l
      refine W_cond (b := x17) rfl (fun hc18 => ?_) (fun hc18 => ?_)
      · replace h1l := iteT hc18 h1l
        refine W_rs ?_
        refine rq (out := Pr.i64 x8) qMove ?_
        obtain ⟨x19, hx19, h1l⟩ := bindSome h1l
        refine rq (out := (rRef12Wrong).val x19) (qCall (ref12_syntax_ok x8 _ hx19)) ?_
        refine rq (out := Pr.is (.slice none 0 0)) qAssign ?_
        refine rq (out := Pr.i64 0) qAssign ?_
        refine rStore (R := rRef12Wrong) (R' := rRef12Wrong) (a := (Ref12Wrong.mk 0 0)) (y := x19) 0 Tryz.sizeOf59 (Upd.refl _) ?_
        have h : some ([], 0, x19) = some r := congrArg some (ho1 _ (Option.some.inj h1l).symm)
        refine W_nil [4] rApiNode 24 (fun v20 => ?_) ⟨rfl, trivial⟩
        obtain rfl := Option.some.inj h
        exact W_ret ⟨.inl rfl, [Pr.is v20, Pr.i64 0, (rRef12Wrong).val x19], ⟨yT Pr.le_rfl, yT Pr.le_rfl, yBox 0 ty59 Pr.le_rfl, trivial⟩, _, Pick.of [2] rfl, v20, rfl, rfl⟩
      · replace h1l := iteF hc18 h1l
        refine W_skip ?_
        refine W_seq ?_
        refine W_rs ?_
        refine rq (out := Pr.lst rApiToken x1) qMove ?_
        refine rq (out := Pr.i64 x8) qMove ?_
        refine rq (out := Pr.i64 (w64 (x8 + 1))) qInt ?_
        obtain ⟨x21, hx21, h1l⟩ := bindSome h1l
        refine rq (out := Pr.bool x21) (qCall (ref12_name_ok x1 (w64 (x8 + 1)) _ hx21)) ?_
        refine rq (out := Pr.bool (!x21)) qNot ?_
        refine W_cond (b := !x21) rfl (fun hc22 => ?_) (fun hc22 => ?_)
        · replace h1l := iteT hc22 h1l
          refine W_rs ?_
          refine rq (out := Pr.i64 x8) qMove ?_
          refine rq (out := Pr.i64 (w64 (x8 + 1))) qInt ?_
          obtain ⟨x23, hx23, h1l⟩ := bindSome h1l
          refine rq (out := (rRef12Wrong).val x23) (qCall (ref12_syntax_ok (w64 (x8 + 1)) _ hx23)) ?_
          refine rq (out := Pr.is (.slice none 0 0)) qAssign ?_
          refine rq (out := Pr.i64 0) qAssign ?_
          refine rStore (R := rRef12Wrong) (R' := rRef12Wrong) (a := (Ref12Wrong.mk 0 0)) (y := x23) 0 Tryz.sizeOf59 (Upd.refl _) ?_
          have h : some ([], 0, x23) = some r := congrArg some (ho1 _ (Option.some.inj h1l).symm)
          refine W_nil [4] rApiNode 24 (fun v24 => ?_) ⟨rfl, trivial⟩
          obtain rfl := Option.some.inj h
          exact W_ret ⟨.inl rfl, [Pr.is v24, Pr.i64 0, (rRef12Wrong).val x23], ⟨yT Pr.le_rfl, yT Pr.le_rfl, yBox 0 ty59 Pr.le_rfl, trivial⟩, _, Pick.of [2] rfl, v24, rfl, rfl⟩
        · replace h1l := iteF hc22 h1l
          refine W_skip ?_
          refine W_rs ?_
          refine rq (out := Pr.is v9) qMove ?_
          refine rq (out := Pr.lst rApiToken x1) qMove ?_
          refine rq (out := Pr.lst rApiToken x1) qMove ?_
          refine rq (out := Pr.i64 x8) qMove ?_
          refine rq (out := Pr.i64 x8) qMove ?_
          refine rq (out := Pr.i64 (w64 (x8 + 2))) qInt ?_
          obtain ⟨x25, hx25, h1l⟩ := bindSome h1l
          refine rq (out := (rApiNode).val x25) (qCall' (ref12_made_ok x1 4 x8 (w64 (x8 + 2)) [] _ hx25) ⟨Pr.le_rfl, Pr.le_rfl, Pr.le_rfl, Pr.le_rfl, Pr.lst_nil _, trivial⟩) ?_
          refine rq (out := Pr.i64 x8) qMove ?_
          obtain ⟨x26, hx26, h1l⟩ := bindSome h1l
          refine rq (out := (rApiNode).val x26) (qCall (ref12_typed_ok x1 x25 x8 _ hx26)) ?_
          refine rq (out := Pr.lst rApiNode ([x26] : List ApiNode)) (qBuildSlice1 (R := rApiNode) (a := x26) el22 (Nat.le_of_ble_eq_true rfl)) ?_
          obtain ⟨x27, hx27, h1l⟩ := bindSome h1l
          refine rAppend' 1 el22 hx27 (fun v28 => ?_)
          refine rq (out := Pr.is v28) qAssign ?_
          refine W_seq ?_
          refine W_rs ?_
          refine rq (out := Pr.lst rApiToken x1) qMove ?_
          refine rq (out := Pr.i64 x8) qMove ?_
          refine rq (out := Pr.i64 (w64 (x8 + 2))) qInt ?_
          obtain ⟨x29, hx29, h1l⟩ := bindSome h1l
          refine rq (out := Pr.bool x29) (qCall (ref12_is_ok x1 (w64 (x8 + 2)) ([41] : List UInt8) _ hx29)) ?_
          refine W_cond (b := x29) rfl (fun hc30 => ?_) (fun hc30 => ?_)
          · replace h1l := iteT hc30 h1l
            refine W_rs ?_
            refine rq (out := Pr.is v28) qMove ?_
            refine rq (out := Pr.i64 x8) qMove ?_
            refine rq (out := Pr.i64 (w64 (x8 + 3))) qInt ?_
            obtain ⟨x31, hx31, h1l⟩ := bindSome h1l
            refine rq (out := (rRef12Wrong).val x31) (qCall (ref12_fine_ok  _ hx31)) ?_
            refine rq (out := Pr.is v28) qAssign ?_
            refine rq (out := Pr.i64 (w64 (x8 + 3))) qAssign ?_
            refine rStore (R := rRef12Wrong) (R' := rRef12Wrong) (a := (Ref12Wrong.mk 0 0)) (y := x31) 0 Tryz.sizeOf59 (Upd.refl _) ?_
            have h : some (x27, w64 (x8 + 3), x31) = some r := congrArg some (ho1 _ (Option.some.inj h1l).symm)
            obtain rfl := Option.some.inj h
            exact W_ret ⟨.inl rfl, [Pr.is v28, Pr.i64 (w64 (x8 + 3)), (rRef12Wrong).val x31], ⟨yT Pr.le_rfl, yT Pr.le_rfl, yBox 0 ty59 Pr.le_rfl, trivial⟩, _, Pick.of [1] rfl, v28, rfl, rfl⟩
          · replace h1l := iteF hc30 h1l
            refine W_skip ?_
            refine W_seq ?_
            refine W_rs ?_
            refine rq (out := Pr.lst rApiToken x1) qMove ?_
            refine rq (out := Pr.i64 x8) qMove ?_
            refine rq (out := Pr.i64 (w64 (x8 + 2))) qInt ?_
            obtain ⟨x32, hx32, h1l⟩ := bindSome h1l
            refine rq (out := Pr.bool x32) (qCall (ref12_is_ok x1 (w64 (x8 + 2)) ([44] : List UInt8) _ hx32)) ?_
            refine rq (out := Pr.bool (!x32)) qNot ?_
            refine W_cond (b := !x32) rfl (fun hc33 => ?_) (fun hc33 => ?_)
            · replace h1l := iteT hc33 h1l
              refine W_rs ?_
              refine rq (out := Pr.i64 x8) qMove ?_
              refine rq (out := Pr.i64 (w64 (x8 + 2))) qInt ?_
              obtain ⟨x34, hx34, h1l⟩ := bindSome h1l
              refine rq (out := (rRef12Wrong).val x34) (qCall (ref12_syntax_ok (w64 (x8 + 2)) _ hx34)) ?_
              refine rq (out := Pr.is (.slice none 0 0)) qAssign ?_
              refine rq (out := Pr.i64 0) qAssign ?_
              refine rStore (R := rRef12Wrong) (R' := rRef12Wrong) (a := (Ref12Wrong.mk 0 0)) (y := x34) 0 Tryz.sizeOf59 (Upd.refl _) ?_
              have h : some ([], 0, x34) = some r := congrArg some (ho1 _ (Option.some.inj h1l).symm)
              refine W_nil [4] rApiNode 24 (fun v35 => ?_) ⟨rfl, trivial⟩
              obtain rfl := Option.some.inj h
              exact W_ret ⟨.inl rfl, [Pr.is v35, Pr.i64 0, (rRef12Wrong).val x34], ⟨yT Pr.le_rfl, yT Pr.le_rfl, yBox 0 ty59 Pr.le_rfl, trivial⟩, _, Pick.of [2] rfl, v35, rfl, rfl⟩
            · replace h1l := iteF hc33 h1l
              refine W_skip ?_
              refine W_r ?_
              refine rq (out := Pr.i64 x8) qMove ?_
              refine rq (out := Pr.i64 (w64 (x8 + 3))) qInt ?_
              refine rq (out := Pr.i64 (w64 (x8 + 3))) qAssign ?_
              exact ⟨m1, Nat.lt_succ_self _, w64 (x8 + 3), x27, v28, hn1 _ (Option.some.inj h1l).symm, ⟨⟨Pr.le_rfl, Pr.le_rfl, Pr.le_rfl, Pr.le_rfl, trivial⟩, Pick.refl _⟩⟩
    · refine W_r ?_
      refine rq (out := Pr.lst rApiToken x1) qMove ?_
      refine rq (out := Pr.i64 x8) qMove ?_
      obtain ⟨x14, hx14, h1l⟩ := bindSome h1l
      refine rq (out := Pr.bool x14) (qCall (ref12_kind_ok x1 x8 _ hx14)) ?_
      refine rq (out := Pr.bool (!x14)) qNot ?_
      refine rq (out := Pr.bool (!x14)) qMove ?_
      rcases iteSome h1l with ⟨hc15, h1l⟩ | ⟨hc15, h1l⟩
      · refine rno (neF hc15) ?_
        refine rno (neF hc15) ?_
        refine rno (neF hc15) ?_
        refine rq (out := Pr.bool true) (qPickT hc15) ?_
        exact ⟨true, h1l, ⟨⟨Pr.le_rfl, Pr.le_rfl, Pr.le_rfl, Pr.le_rfl, Pr.le_rfl, trivial⟩, Pick.refl _⟩⟩
      · refine rqg hc15 (out := Pr.lst rApiToken x1) qMove ?_
        refine rqg hc15 (out := Pr.i64 x8) qMove ?_
        obtain ⟨x16, hx16, h1l⟩ := bindSome h1l
        refine rqg hc15 (out := Pr.bool x16) (qCall (ref12_is_ok x1 x8 ([118, 111, 105, 100] : List UInt8) _ hx16)) ?_
        refine rq (out := Pr.bool x16) (qPickF hc15) ?_
        exact ⟨x16, h1l, ⟨⟨Pr.le_rfl, Pr.le_rfl, Pr.le_rfl, Pr.le_rfl, Pr.le_rfl, trivial⟩, Pick.refl _⟩⟩
theorem ref12_binds_ok (x1 : List ApiToken) (x2 : Int) (r : Int) (h : ref12_binds x1 x2 = some r) : FnP Tryz.prog 92 [Pr.lst rApiToken x1, Pr.i64 x2] (Pr.i64 r) := by
  refine fn_intro (n := 42) (rs := [4]) Tryz.func92 rfl Tryz.ntmps92 ⟨by decide, Tryz.results92⟩ (by decide) (fun s0 => ?_)
  unfold ref12_binds at h
  refine W_rs ?_
  refine rq (out := Pr.i64 0) qAssign ?_
  refine W_rs ?_
  refine rq (out := Pr.lst Rp.str ([([124, 124] : List UInt8)] : List (List UInt8))) (qBuildSlice1 (R := Rp.str) (a := ([124, 124] : List UInt8)) el25 (Nat.le_of_ble_eq_true rfl)) ?_
  refine rq (out := Pr.lst Rp.str ([([38, 38] : List UInt8)] : List (List UInt8))) (qBuildSlice1 (R := Rp.str) (a := ([38, 38] : List UInt8)) el25 (Nat.le_of_ble_eq_true rfl)) ?_
  refine rq (out := Pr.lst Rp.str ([([61, 61] : List UInt8), ([33, 61] : List UInt8)] : List (List UInt8))) (qBuildSlice (R := Rp.str) (ls := ([([61, 61] : List UInt8), ([33, 61] : List UInt8)] : List (List UInt8))) el25 (Nat.le_of_ble_eq_true rfl) ⟨rfl, rfl⟩ ⟨rfl, rfl, trivial⟩) ?_
  refine rq (out := Pr.lst Rp.str ([([60] : List UInt8), ([60, 61] : List UInt8), ([62] : List UInt8), ([62, 61] : List UInt8)] : List (List UInt8))) (qBuildSlice (R := Rp.str) (ls := ([([60] : List UInt8), ([60, 61] : List UInt8), ([62] : List UInt8), ([62, 61] : List UInt8)] : List (List UInt8))) el25 (Nat.le_of_ble_eq_true rfl) ⟨rfl, rfl⟩ ⟨rfl, rfl, rfl, rfl, trivial⟩) ?_
  refine rq (out := Pr.lst Rp.str ([([43] : List UInt8), ([45] : List UInt8)] : List (List UInt8))) (qBuildSlice (R := Rp.str) (ls := ([([43] : List UInt8), ([45] : List UInt8)] : List (List UInt8))) el25 (Nat.le_of_ble_eq_true rfl) ⟨rfl, rfl⟩ ⟨rfl, rfl, trivial⟩) ?_
  refine rq (out := Pr.lst Rp.str ([([42] : List UInt8), ([47] : List UInt8), ([37] : List UInt8)] : List (List UInt8))) (qBuildSlice (R := Rp.str) (ls := ([([42] : List UInt8), ([47] : List UInt8), ([37] : List UInt8)] : List (List UInt8))) el25 (Nat.le_of_ble_eq_true rfl) ⟨rfl, rfl⟩ ⟨rfl, rfl, rfl, trivial⟩) ?_
  refine rq (out := Pr.lst (Rp.list Rp.str) ([([([124, 124] : List UInt8)] : List (List UInt8)), ([([38, 38] : List UInt8)] : List (List UInt8)), ([([61, 61] : List UInt8), ([33, 61] : List UInt8)] : List (List UInt8)), ([([60] : List UInt8), ([60, 61] : List UInt8), ([62] : List UInt8), ([62, 61] : List UInt8)] : List (List UInt8)), ([([43] : List UInt8), ([45] : List UInt8)] : List (List UInt8)), ([([42] : List UInt8), ([47] : List UInt8), ([37] : List UInt8)] : List (List UInt8))] : List (List (List UInt8)))) (qBuildSlice (R := Rp.list Rp.str) (ls := ([([([124, 124] : List UInt8)] : List (List UInt8)), ([([38, 38] : List UInt8)] : List (List UInt8)), ([([61, 61] : List UInt8), ([33, 61] : List UInt8)] : List (List UInt8)), ([([60] : List UInt8), ([60, 61] : List UInt8), ([62] : List UInt8), ([62, 61] : List UInt8)] : List (List UInt8)), ([([43] : List UInt8), ([45] : List UInt8)] : List (List UInt8)), ([([42] : List UInt8), ([47] : List UInt8), ([37] : List UInt8)] : List (List UInt8))] : List (List (List UInt8)))) el69 (Nat.le_of_ble_eq_true rfl) ⟨rfl, rfl⟩ ⟨rfl, rfl, rfl, rfl, rfl, rfl, trivial⟩) ?_
  refine rq (out := Pr.lst (Rp.list Rp.str) ([([([124, 124] : List UInt8)] : List (List UInt8)), ([([38, 38] : List UInt8)] : List (List UInt8)), ([([61, 61] : List UInt8), ([33, 61] : List UInt8)] : List (List UInt8)), ([([60] : List UInt8), ([60, 61] : List UInt8), ([62] : List UInt8), ([62, 61] : List UInt8)] : List (List UInt8)), ([([43] : List UInt8), ([45] : List UInt8)] : List (List UInt8)), ([([42] : List UInt8), ([47] : List UInt8), ([37] : List UInt8)] : List (List UInt8))] : List (List (List UInt8)))) qAssign ?_
  refine W_seq ?_
  refine W_rs ?_
  refine rq (out := Pr.i64 0) qAssign ?_
  refine W_block ?_
  obtain ⟨z2l, hz2, h⟩ := bindSome h
  obtain ⟨n2, hN2⟩ := iter_some hz2
  clear hz2
  refine W_after 0 (fun e C => ref12_binds_k1 = some r ∧ At [] [] e C) ?_ ?_
  · rintro e C ⟨h, hat1⟩
    refine W_at hat1 ?_
    clear hat1
    unfold ref12_binds_k1 at h
    refine W_rs ?_
    refine rq (out := Pr.i64 0) qAssign ?_
    obtain rfl := Option.some.inj h
    exact W_ret ⟨rfl, Pr.le_rfl⟩
  · refine W_loop (fun m e C => ∃ (x3 : Int), IterN (fun s => ref12_binds_l2 x1 x2 s) m x3 = some z2l ∧ At [(0, Pr.lst rApiToken x1), (1, Pr.i64 x2), (5, Pr.lst (Rp.list Rp.str) ([([([124, 124] : List UInt8)] : List (List UInt8)), ([([38, 38] : List UInt8)] : List (List UInt8)), ([([61, 61] : List UInt8), ([33, 61] : List UInt8)] : List (List UInt8)), ([([60] : List UInt8), ([60, 61] : List UInt8), ([62] : List UInt8), ([62, 61] : List UInt8)] : List (List UInt8)), ([([43] : List UInt8), ([45] : List UInt8)] : List (List UInt8)), ([([42] : List UInt8), ([47] : List UInt8), ([37] : List UInt8)] : List (List UInt8))] : List (List (List UInt8)))), (6, Pr.i64 x3)] [] e C) n2 ⟨0, hN2, ⟨⟨Pr.le_rfl, Pr.le_rfl, Pr.le_rfl, Pr.le_rfl, trivial⟩, Pick.refl _⟩⟩ ?_
    clear hN2
    rintro m e C ⟨x3, hN2, hatl2⟩
    refine W_at hatl2 ?_
    clear hatl2
    obtain ⟨m2, w2l, rfl, h2l, hn2, ho2⟩ := iterN_some hN2
    clear hN2
    replace h2l : ref12_binds_l2 x1 x2 x3 = some w2l := h2l
    unfold ref12_binds_l2 at h2l
    refine W_seq ?_
    refine W_rs ?_
    refine rq (out := Pr.i64 x3) qMove ?_
    refine rq (out := Pr.lst (Rp.list Rp.str) ([([([124, 124] : List UInt8)] : List (List UInt8)), ([([38, 38] : List UInt8)] : List (List UInt8)), ([([61, 61] : List UInt8), ([33, 61] : List UInt8)] : List (List UInt8)), ([([60] : List UInt8), ([60, 61] : List UInt8), ([62] : List UInt8), ([62, 61] : List UInt8)] : List (List UInt8)), ([([43] : List UInt8), ([45] : List UInt8)] : List (List UInt8)), ([([42] : List UInt8), ([47] : List UInt8), ([37] : List UInt8)] : List (List UInt8))] : List (List (List UInt8)))) qMove ?_
    refine rq (out := Pr.i64 (([([([124, 124] : List UInt8)] : List (List UInt8)), ([([38, 38] : List UInt8)] : List (List UInt8)), ([([61, 61] : List UInt8), ([33, 61] : List UInt8)] : List (List UInt8)), ([([60] : List UInt8), ([60, 61] : List UInt8), ([62] : List UInt8), ([62, 61] : List UInt8)] : List (List UInt8)), ([([43] : List UInt8), ([45] : List UInt8)] : List (List UInt8)), ([([42] : List UInt8), ([47] : List UInt8), ([37] : List UInt8)] : List (List UInt8))] : List (List (List UInt8))).length : Int)) (qLenL rfl Tryz.underlying69) ?_
    refine rq (out := Pr.bool (decide (x3 < (([([([124, 124] : List UInt8)] : List (List UInt8)), ([([38, 38] : List UInt8)] : List (List UInt8)), ([([61, 61] : List UInt8), ([33, 61] : List UInt8)] : List (List UInt8)), ([([60] : List UInt8), ([60, 61] : List UInt8), ([62] : List UInt8), ([62, 61] : List UInt8)] : List (List UInt8)), ([([43] : List UInt8), ([45] : List UInt8)] : List (List UInt8)), ([([42] : List UInt8), ([47] : List UInt8), ([37] : List UInt8)] : List (List UInt8))] : List (List (List UInt8))).length : Int)))) qInt ?_
    refine W_cond (b := decide (x3 < (([([([124, 124] : List UInt8)] : List (List UInt8)), ([([38, 38] : List UInt8)] : List (List UInt8)), ([([61, 61] : List UInt8), ([33, 61] : List UInt8)] : List (List UInt8)), ([([60] : List UInt8), ([60, 61] : List UInt8), ([62] : List UInt8), ([62, 61] : List UInt8)] : List (List UInt8)), ([([43] : List UInt8), ([45] : List UInt8)] : List (List UInt8)), ([([42] : List UInt8), ([47] : List UInt8), ([37] : List UInt8)] : List (List UInt8))] : List (List (List UInt8))).length : Int))) rfl (fun hc5 => ?_) (fun hc5 => ?_)
    · replace h2l := iteT hc5 h2l
      refine W_skip ?_
      refine W_seq ?_
      refine W_block ?_
      refine W_rs ?_
      refine rq (out := Pr.i64 0) qAssign ?_
      refine W_block ?_
      obtain ⟨z4l, hz4, h2l⟩ := bindSome h2l
      obtain ⟨n4, hN4⟩ := iter_some hz4
      clear hz4
      refine W_after 2 (fun e C => ref12_binds_k3 x3 = some w2l ∧ At [(0, Pr.lst rApiToken x1), (1, Pr.i64 x2), (5, Pr.lst (Rp.list Rp.str) ([([([124, 124] : List UInt8)] : List (List UInt8)), ([([38, 38] : List UInt8)] : List (List UInt8)), ([([61, 61] : List UInt8), ([33, 61] : List UInt8)] : List (List UInt8)), ([([60] : List UInt8), ([60, 61] : List UInt8), ([62] : List UInt8), ([62, 61] : List UInt8)] : List (List UInt8)), ([([43] : List UInt8), ([45] : List UInt8)] : List (List UInt8)), ([([42] : List UInt8), ([47] : List UInt8), ([37] : List UInt8)] : List (List UInt8))] : List (List (List UInt8)))), (6, Pr.i64 x3)] [] e C) ?_ ?_
      · rintro e C ⟨h2l, hat3⟩
        refine W_at hat3 ?_
        clear hat3
        unfold ref12_binds_k3 at h2l
        refine W_r ?_
        refine rq (out := Pr.i64 x3) qMove ?_
        refine rq (out := Pr.i64 (w64 (x3 + 1))) qInt ?_
        refine rq (out := Pr.i64 (w64 (x3 + 1))) qAssign ?_
        exact ⟨m2, Nat.lt_succ_self _, w64 (x3 + 1), hn2 _ (Option.some.inj h2l).symm, ⟨⟨Pr.le_rfl, Pr.le_rfl, Pr.le_rfl, Pr.le_rfl, trivial⟩, Pick.refl _⟩⟩
      · refine W_loop (fun m e C => ∃ (x6 : Int), IterN (fun s => ref12_binds_l4 x3 x1 x2 s) m x6 = some z4l ∧ At [(0, Pr.lst rApiToken x1), (1, Pr.i64 x2), (5, Pr.lst (Rp.list Rp.str) ([([([124, 124] : List UInt8)] : List (List UInt8)), ([([38, 38] : List UInt8)] : List (List UInt8)), ([([61, 61] : List UInt8), ([33, 61] : List UInt8)] : List (List UInt8)), ([([60] : List UInt8), ([60, 61] : List UInt8), ([62] : List UInt8), ([62, 61] : List UInt8)] : List (List UInt8)), ([([43] : List UInt8), ([45] : List UInt8)] : List (List UInt8)), ([([42] : List UInt8), ([47] : List UInt8), ([37] : List UInt8)] : List (List UInt8))] : List (List (List UInt8)))), (6, Pr.i64 x3), (7, Pr.i64 x6)] [] e C) n4 ⟨0, hN4, ⟨⟨Pr.le_rfl, Pr.le_rfl, Pr.le_rfl, Pr.le_rfl, Pr.le_rfl, trivial⟩, Pick.refl _⟩⟩ ?_
        clear hN4
        rintro m e C ⟨x6, hN4, hatl4⟩
        refine W_at hatl4 ?_
        clear hatl4
        obtain ⟨m4, w4l, rfl, h4l, hn4, ho4⟩ := iterN_some hN4
        clear hN4
        replace h4l : ref12_binds_l4 x3 x1 x2 x6 = some w4l := h4l
        unfold ref12_binds_l4 at h4l
        refine W_seq ?_
        refine W_rs ?_
        refine rq (out := Pr.i64 x6) qMove ?_
        refine rq (out := Pr.lst (Rp.list Rp.str) ([([([124, 124] : List UInt8)] : List (List UInt8)), ([([38, 38] : List UInt8)] : List (List UInt8)), ([([61, 61] : List UInt8), ([33, 61] : List UInt8)] : List (List UInt8)), ([([60] : List UInt8), ([60, 61] : List UInt8), ([62] : List UInt8), ([62, 61] : List UInt8)] : List (List UInt8)), ([([43] : List UInt8), ([45] : List UInt8)] : List (List UInt8)), ([([42] : List UInt8), ([47] : List UInt8), ([37] : List UInt8)] : List (List UInt8))] : List (List (List UInt8)))) qMove ?_
        refine rq (out := Pr.i64 x3) qMove ?_
        obtain ⟨x8, hx8, h4l⟩ := bindSome h4l
        refine rq (out := Pr.cpt (Rp.list Rp.str) x8) (qIdxA (R := Rp.list Rp.str) (l := ([([([124, 124] : List UInt8)] : List (List UInt8)), ([([38, 38] : List UInt8)] : List (List UInt8)), ([([61, 61] : List UInt8), ([33, 61] : List UInt8)] : List (List UInt8)), ([([60] : List UInt8), ([60, 61] : List UInt8), ([62] : List UInt8), ([62, 61] : List UInt8)] : List (List UInt8)), ([([43] : List UInt8), ([45] : List UInt8)] : List (List UInt8)), ([([42] : List UInt8), ([47] : List UInt8), ([37] : List UInt8)] : List (List UInt8))] : List (List (List UInt8)))) Tryz.underlying69 Tryz.sizeOf25 hx8) ?_
        refine rq (out := Pr.lst Rp.str x8) (qLoadC (R := Rp.list Rp.str) (a := x8) ty25) ?_
        refine rq (out := Pr.i64 (x8.length : Int)) (qLenL rfl Tryz.underlying25) ?_
        refine rq (out := Pr.bool (decide (x6 < (x8.length : Int)))) qInt ?_
        refine W_cond (b := decide (x6 < (x8.length : Int))) rfl (fun hc9 => ?_) (fun hc9 => ?_)
        · replace h4l := iteT hc9 h4l
          refine W_skip ?_
          refine W_seq ?_
          refine W_block ?_
          refine W_rs ?_
          refine rq (out := Pr.lst rApiToken x1) qMove ?_
          refine rq (out := Pr.i64 x2) qMove ?_
          refine rq (out := Pr.lst (Rp.list Rp.str) ([([([124, 124] : List UInt8)] : List (List UInt8)), ([([38, 38] : List UInt8)] : List (List UInt8)), ([([61, 61] : List UInt8), ([33, 61] : List UInt8)] : List (List UInt8)), ([([60] : List UInt8), ([60, 61] : List UInt8), ([62] : List UInt8), ([62, 61] : List UInt8)] : List (List UInt8)), ([([43] : List UInt8), ([45] : List UInt8)] : List (List UInt8)), ([([42] : List UInt8), ([47] : List UInt8), ([37] : List UInt8)] : List (List UInt8))] : List (List (List UInt8)))) qMove ?_
          refine rq (out := Pr.i64 x3) qMove ?_
          obtain ⟨x10, hx10, h4l⟩ := bindSome h4l
          refine rq (out := Pr.cpt (Rp.list Rp.str) x10) (qIdxA (R := Rp.list Rp.str) (l := ([([([124, 124] : List UInt8)] : List (List UInt8)), ([([38, 38] : List UInt8)] : List (List UInt8)), ([([61, 61] : List UInt8), ([33, 61] : List UInt8)] : List (List UInt8)), ([([60] : List UInt8), ([60, 61] : List UInt8), ([62] : List UInt8), ([62, 61] : List UInt8)] : List (List UInt8)), ([([43] : List UInt8), ([45] : List UInt8)] : List (List UInt8)), ([([42] : List UInt8), ([47] : List UInt8), ([37] : List UInt8)] : List (List UInt8))] : List (List (List UInt8)))) Tryz.underlying69 Tryz.sizeOf25 hx10) ?_
          refine rq (out := Pr.lst Rp.str x10) (qLoadC (R := Rp.list Rp.str) (a := x10) ty25) ?_
          refine rq (out := Pr.i64 x6) qMove ?_
          obtain ⟨x11, hx11, h4l⟩ := bindSome h4l
          refine rq (out := Pr.cpt Rp.str x11) (qIdxA (R := Rp.str) (l := x10) Tryz.underlying25 Tryz.sizeOf9 hx11) ?_
          refine rq (out := Pr.str x11) (qLoadC (R := Rp.str) (a := x11) ty9) ?_
          obtain ⟨x12, hx12, h4l⟩ := bindSome h4l
          refine rq (out := Pr.bool x12) (qCall (ref12_is_ok x1 x2 x11 _ hx12)) ?_
          refine W_cond (b := x12) rfl (fun hc13 => ?_) (fun hc13 => ?_)
          · replace h4l := iteT hc13 h4l
            refine W_rs ?_
            refine rq (out := Pr.i64 x3) qMove ?_
            refine rq (out := Pr.i64 (w64 (x3 + 1))) qInt ?_
            refine rq (out := Pr.i64 (w64 (x3 + 1))) qAssign ?_
            obtain rfl := ho4 _ (Option.some.inj h4l).symm
            replace h2l : some (.inr (.done (w64 (x3 + 1)))) = some w2l := h2l
            obtain rfl := ho2 _ (Option.some.inj h2l).symm
            replace h : some (w64 (x3 + 1)) = some r := h
            obtain rfl := Option.some.inj h
            exact W_ret ⟨rfl, Pr.le_rfl⟩
          · replace h4l := iteF hc13 h4l
            refine W_skip ?_
            refine W_r ?_
            refine rq (out := Pr.i64 x6) qMove ?_
            refine rq (out := Pr.i64 (w64 (x6 + 1))) qInt ?_
            refine rq (out := Pr.i64 (w64 (x6 + 1))) qAssign ?_
            exact ⟨m4, Nat.lt_succ_self _, w64 (x6 + 1), hn4 _ (Option.some.inj h4l).symm, ⟨⟨Pr.le_rfl, Pr.le_rfl, Pr.le_rfl, Pr.le_rfl, Pr.le_rfl, trivial⟩, Pick.refl _⟩⟩
        · replace h4l := iteF hc9 h4l
          refine W_exit ?_
          obtain rfl := ho4 _ (Option.some.inj h4l).symm
          exact ⟨h2l, ⟨⟨Pr.le_rfl, Pr.le_rfl, Pr.le_rfl, Pr.le_rfl, trivial⟩, Pick.refl _⟩⟩
    · replace h2l := iteF hc5 h2l
      refine W_exit ?_
      obtain rfl := ho2 _ (Option.some.inj h2l).symm
      exact ⟨h, ⟨trivial, Pick.refl _⟩⟩
end Go.Proofs.YtgkcoicaopilhaaGreatDoor
