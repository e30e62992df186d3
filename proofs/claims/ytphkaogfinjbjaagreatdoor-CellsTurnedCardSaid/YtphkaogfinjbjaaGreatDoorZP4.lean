/- The code comes to what these functions say (printed by wip/gen/gen.py). -/
import Derived.Test.YtphkaogfinjbjaaGreatDoorZP3
import Derived.Test.YtphkaogfinjbjaaGreatDoorZT
set_option linter.unusedSimpArgs false
set_option linter.unusedVariables false
set_option linter.unusedSectionVars false
/- The code comes to what these functions say (printed by wip/gen/gen.py). -/
set_option linter.unusedSectionVars false
set_option maxRecDepth 100000
set_option maxHeartbeats 4000000
namespace Go.Proofs.YtphkaogfinjbjaaGreatDoor
open Go Go.Cn
variable [Known]
theorem ref28_Get_ok (x1 : List ApiSegment) (x2 : List UInt8) (r : (List UInt8) × Bool) (h : ref28_Get x1 x2 = some r) : FnP Tryz.prog 22 [Pr.lst rApiSegment x1, Pr.str x2] (Pr.tup [Pr.str r.1, Pr.bool r.2]) := by
  refine fn_intro (n := 25) (rs := [4, 5]) Tryz.func22 rfl Tryz.ntmps22 ⟨by decide, Tryz.results22⟩ (by decide) (fun s0 => ?_)
  unfold ref28_Get at h
  refine W_rs ?_
  refine rq (out := Pr.str []) qAssign ?_
  refine rq (out := Pr.bool false) qAssign ?_
  refine W_seq ?_
  refine W_rs ?_
  refine rq (out := Pr.i64 0) qAssign ?_
  refine W_block ?_
  obtain ⟨z2l, hz2, h⟩ := bindSome h
  obtain ⟨n2, hN2⟩ := iter_some hz2
  clear hz2
  refine W_after 0 (fun e C => ref28_Get_k1 = some r ∧ At [] [] e C) ?_ ?_
  · rintro e C ⟨h, hat1⟩
    refine W_at hat1 ?_
    clear hat1
    unfold ref28_Get_k1 at h
    refine W_rs ?_
    refine rq (out := Pr.str []) qAssign ?_
    refine rq (out := Pr.bool false) qAssign ?_
    obtain rfl := Option.some.inj h
    exact W_ret ⟨rfl, Pr.le_rfl⟩
  · refine W_loop (fun m e C => ∃ (x3 : Int), IterN (fun s => ref28_Get_l2 x1 x2 s) m x3 = some z2l ∧ At [(0, Pr.lst rApiSegment x1), (1, Pr.str x2), (6, Pr.i64 x3)] [] e C) n2 ⟨0, hN2, ⟨⟨Pr.le_rfl, Pr.le_rfl, Pr.le_rfl, trivial⟩, Pick.refl _⟩⟩ ?_
    clear hN2
    rintro m e C ⟨x3, hN2, hatl2⟩
    refine W_at hatl2 ?_
    clear hatl2
    obtain ⟨m2, w2l, rfl, h2l, hn2, ho2⟩ := iterN_some hN2
    clear hN2
    replace h2l : ref28_Get_l2 x1 x2 x3 = some w2l := h2l
    unfold ref28_Get_l2 at h2l
    refine W_seq ?_
    refine W_rs ?_
    refine rq (out := Pr.i64 x3) qMove ?_
    refine rq (out := Pr.lst rApiSegment x1) qMove ?_
    refine rq (out := Pr.i64 (x1.length : Int)) (qLenL rfl Tryz.underlying22) ?_
    refine rq (out := Pr.bool (decide (x3 < (x1.length : Int)))) qInt ?_
    refine W_cond (b := decide (x3 < (x1.length : Int))) rfl (fun hc5 => ?_) (fun hc5 => ?_)
    · replace h2l := iteT hc5 h2l
      refine W_skip ?_
      refine W_seq ?_
      refine W_block ?_
      refine W_rs ?_
      refine rq (out := Pr.lst rApiSegment x1) qMove ?_
      refine rq (out := Pr.i64 x3) qMove ?_
      obtain ⟨x6, hx6, h2l⟩ := bindSome h2l
      refine rq (out := Pr.cpt rApiSegment x6) (qIdxA (R := rApiSegment) (l := x1) Tryz.underlying22 Tryz.sizeOf38 hx6) ?_
      refine rq (out := Pr.cpt Rp.str x6.Key) (qFieldC (R := rApiSegment) (a := x6) fld38_0 subApiSegment_Key) ?_
      refine rq (out := Pr.str x6.Key) (qLoadC (R := Rp.str) (a := x6.Key) ty9) ?_
      refine rq (out := Pr.str x2) qMove ?_
      refine rq (out := Pr.bool (x6.Key == x2)) qStr ?_
      refine W_cond (b := x6.Key == x2) rfl (fun hc7 => ?_) (fun hc7 => ?_)
      · replace h2l := iteT hc7 h2l
        refine W_rs ?_
        refine rq (out := Pr.lst rApiSegment x1) qMove ?_
        refine rq (out := Pr.i64 x3) qMove ?_
        obtain ⟨x8, hx8, h2l⟩ := bindSome h2l
        refine rq (out := Pr.cpt rApiSegment x8) (qIdxA (R := rApiSegment) (l := x1) Tryz.underlying22 Tryz.sizeOf38 hx8) ?_
        refine rq (out := Pr.cpt Rp.str x8.Text) (qFieldC (R := rApiSegment) (a := x8) fld38_1 subApiSegment_Text) ?_
        refine rq (out := Pr.str x8.Text) (qLoadC (R := Rp.str) (a := x8.Text) ty9) ?_
        refine rq (out := Pr.str x8.Text) qAssign ?_
        refine rq (out := Pr.bool true) qAssign ?_
        obtain rfl := ho2 _ (Option.some.inj h2l).symm
        replace h : some (x8.Text, true) = some r := h
        obtain rfl := Option.some.inj h
        exact W_ret ⟨rfl, Pr.le_rfl⟩
      · replace h2l := iteF hc7 h2l
        refine W_skip ?_
        refine W_r ?_
        refine rq (out := Pr.i64 x3) qMove ?_
        refine rq (out := Pr.i64 (w64 (x3 + 1))) qInt ?_
        refine rq (out := Pr.i64 (w64 (x3 + 1))) qAssign ?_
        exact ⟨m2, Nat.lt_succ_self _, w64 (x3 + 1), hn2 _ (Option.some.inj h2l).symm, ⟨⟨Pr.le_rfl, Pr.le_rfl, Pr.le_rfl, trivial⟩, Pick.refl _⟩⟩
    · replace h2l := iteF hc5 h2l
      refine W_exit ?_
      obtain rfl := ho2 _ (Option.some.inj h2l).symm
      exact ⟨h, ⟨trivial, Pick.refl _⟩⟩
end Go.Proofs.YtphkaogfinjbjaaGreatDoor
