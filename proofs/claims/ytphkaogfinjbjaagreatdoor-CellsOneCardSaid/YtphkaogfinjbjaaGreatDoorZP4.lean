/- The code comes to what these functions say (printed by wip/gen/gen.py). -/
import Derived.Test.YtphkaogfinjbjaaGreatDoorZP3
import Derived.Test.YtphkaogfinjbjaaGreatDoorZT
set_option linter.unusedSimpArgs false
set_option linter.unusedVariables false
set_option linter.unusedSectionVars false
/- The code comes to what these functions say (printed by wip/gen/gen.py). -/
set_option linter.unusedSectionVars false
set_option maxRecDepth 100000
set_option maxHeartbeats 4000000
namespace Go.Proofs.YtphkaogfinjbjaaGreatDoor
open Go Go.Cn
variable [Known]
theorem ref28_Get_ok (x1 : List ApiSegment) (x2 : List UInt8) (r : (List UInt8) × Bool) (h : ref28_Get x1 x2 = some r) : FnP Tryz.prog 22 [Pr.lst rApiSegment x1, Pr.str x2] (Pr.tup [Pr.str r.1, Pr.bool r.2]) := by
  refine fn_intro (n := 25) (rs := [4, 5]) Tryz.func22 rfl Tryz.ntmps22 ⟨by decide, Tryz.results22⟩ (by decide) (fun s0 => ?_)
  unfold ref28_Get at h
  refine W_rs ?_
  refine rq (out := Pr.str []) qAssign ?_
  refine rq (out := Pr.bool false) qAssign ?_
  refine W_seq ?_
  refine W_rs ?_
  refine rq (out := Pr.i64 0) qAssign ?_
  refine W_block ?_
  obtain ⟨z2l, hz2, h⟩ := bindSome h
  obtain ⟨n2, hN2⟩ := iter_some hz2
  clear hz2
  refine W_after 0 (fun e C => ref28_Get_k1 = some r ∧ At [] [] e C) ?_ ?_
  · rintro e C ⟨h, hat1⟩
    refine W_at hat1 ?_
    clear hat1
    unfold ref28_Get_k1 at h
    refine W_rs ?_
    refine rq (out := Pr.str []) qAssign ?_
    refine rq (out := Pr.bool false) qAssign ?_
    obtain rfl := Option.some.inj h
    exact W_ret ⟨rfl, Pr.le_rfl⟩
  · refine W_loop (fun m e C => ∃ (x3 : Int), IterN (fun s => ref28_Get_l2 x1 x2 s) m x3 = some z2l ∧ At [(0, Pr.lst rApiSegment x1), (1, Pr.str x2), (6, Pr.i64 x3)] [] e C) n2 ⟨0, hN2, ⟨⟨Pr.le_rfl, Pr.le_rfl, Pr.le_rfl, trivial⟩, Pick.refl _⟩⟩ ?_
    clear hN2
    rintro m e C ⟨x3, hN2, hatl2⟩
    refine W_at hatl2 ?_
    clear hatl2
    obtain ⟨m2, w2l, rfl, h2l, hn2, ho2⟩ := iterN_some hN2
    clear hN2
    replace h2l : ref28_Get_l2 x1 x2 x3 = some w2l := h2l
    unfold ref28_Get_l2 at h2l
    refine W_seq ?_
    refine W_rs ?_
    refine rq (out := Pr.i64 x3) qMove ?_
    refine rq (out := Pr.lst rApiSegment x1) qMove ?_
    refine rq (out := Pr.i64 (x1.length : Int)) (qLenL rfl Tryz.underlying22) ?_
    refine rq (out := Pr.bool (decide (x3 < (x1.length : Int)))) qInt ?_
    refine W_cond (b := decide (x3 < (x1.length : Int))) rfl (fun hc5 => ?_) (fun hc5 => ?_)
    · replace h2l := iteT hc5 h2l
      refine W_skip ?_
      refine W_seq ?_
      refine W_block ?_
      refine W_rs ?_
      refine rq (out := Pr.lst rApiSegment x1) qMove ?_
      refine rq (out := Pr.i64 x3) qMove ?_
      obtain ⟨x6, hx6, h2l⟩ := bindSome h2l
      refine rq (out := Pr.cpt rApiSegment x6) (qIdxA (R := rApiSegment) (l := x1) Tryz.underlying22 Tryz.sizeOf38 hx6) ?_
      refine rq (out := Pr.cpt Rp.str x6.Key) (qFieldC (R := rApiSegment) (a := x6) fld38_0 subApiSegment_Key) ?_
      refine rq (out := Pr.str x6.Key) (qLoadC (R := Rp.str) (a := x6.Key) ty9) ?_
      refine rq (out := Pr.str x2) qMove ?_
      refine rq (out := Pr.bool (x6.Key == x2)) qStr ?_
      refine W_cond (b := x6.Key == x2) rfl (fun hc7 => ?_) (fun hc7 => ?_)
      · replace h2l := iteT hc7 h2l
        refine W_rs ?_
        refine rq (out := Pr.lst rApiSegment x1) qMove ?_
        refine rq (out := Pr.i64 x3) qMove ?_
        obtain ⟨x8, hx8, h2l⟩ := bindSome h2l
        refine rq (out := Pr.cpt rApiSegment x8) (qIdxA (R := rApiSegment) (l := x1) Tryz.underlying22 Tryz.sizeOf38 hx8) ?_
        refine rq (out := Pr.cpt Rp.str x8.Text) (qFieldC (R := rApiSegment) (a := x8) fld38_1 subApiSegment_Text) ?_
        refine rq (out := Pr.str x8.Text) (qLoadC (R := Rp.str) (a := x8.Text) ty9) ?_
        refine rq (out := Pr.str x8.Text) qAssign ?_
        refine rq (out := Pr.bool true) qAssign ?_
        obtain rfl := ho2 _ (Option.some.inj h2l).symm
        replace h : some (x8.Text, true) = some r := h
        obtain rfl := Option.some.inj h
        exact W_ret ⟨rfl, Pr.le_rfl⟩
      · replace h2l := iteF hc7 h2l
        refine W_skip ?_
        refine W_r ?_
        refine rq (out := Pr.i64 x3) qMove ?_
        refine rq (out := Pr.i64 (w64 (x3 + 1))) qInt ?_
        refine rq (out := Pr.i64 (w64 (x3 + 1))) qAssign ?_
        exact ⟨m2, Nat.lt_succ_self _, w64 (x3 + 1), hn2 _ (Option.some.inj h2l).symm, ⟨⟨Pr.le_rfl, Pr.le_rfl, Pr.le_rfl, trivial⟩, Pick.refl _⟩⟩
    · replace h2l := iteF hc5 h2l
      refine W_exit ?_
      obtain rfl := ho2 _ (Option.some.inj h2l).symm
      exact ⟨h, ⟨trivial, Pick.refl _⟩⟩
theorem ref28_Same_ok (x1 : List ApiSegment) (x2 : List ApiSegment) (r : Bool) (h : ref28_Same x1 x2 = some r) : FnP Tryz.prog 14 [Pr.lst rApiSegment x1, Pr.lst rApiSegment x2] (Pr.bool r) := by
  refine fn_intro (n := 26) (rs := [4]) Tryz.func14 rfl Tryz.ntmps14 ⟨by decide, Tryz.results14⟩ (by decide) (fun s0 => ?_)
  unfold ref28_Same at h
  refine W_rs ?_
  refine rq (out := Pr.bool false) qAssign ?_
  refine W_seq ?_
  refine W_rs ?_
  refine rq (out := Pr.lst rApiSegment x1) qMove ?_
  refine rq (out := Pr.i64 (x1.length : Int)) (qLenL rfl Tryz.underlying22) ?_
  refine rq (out := Pr.lst rApiSegment x2) qMove ?_
  refine rq (out := Pr.i64 (x2.length : Int)) (qLenL rfl Tryz.underlying22) ?_
  refine rq (out := Pr.bool ((x1.length : Int) != (x2.length : Int))) qInt ?_
  refine W_cond (b := (x1.length : Int) != (x2.length : Int)) rfl (fun hc3 => ?_) (fun hc3 => ?_)
  · replace h := iteT hc3 h
    refine W_rs ?_
    refine rq (out := Pr.bool false) qAssign ?_
    obtain rfl := Option.some.inj h
    exact W_ret ⟨rfl, Pr.le_rfl⟩
  · replace h := iteF hc3 h
    refine W_skip ?_
    refine W_seq ?_
    refine W_rs ?_
    refine rq (out := Pr.i64 0) qAssign ?_
    refine W_block ?_
    obtain ⟨z2l, hz2, h⟩ := bindSome h
    obtain ⟨n2, hN2⟩ := iter_some hz2
    clear hz2
    refine W_after 0 (fun e C => ref28_Same_k1 = some r ∧ At [] [] e C) ?_ ?_
    · rintro e C ⟨h, hat1⟩
      refine W_at hat1 ?_
      clear hat1
      unfold ref28_Same_k1 at h
      refine W_rs ?_
      refine rq (out := Pr.bool true) qAssign ?_
      obtain rfl := Option.some.inj h
      exact W_ret ⟨rfl, Pr.le_rfl⟩
    · refine W_loop (fun m e C => ∃ (x4 : Int), IterN (fun s => ref28_Same_l2 x1 x2 s) m x4 = some z2l ∧ At [(0, Pr.lst rApiSegment x1), (1, Pr.lst rApiSegment x2), (5, Pr.i64 x4)] [] e C) n2 ⟨0, hN2, ⟨⟨Pr.le_rfl, Pr.le_rfl, Pr.le_rfl, trivial⟩, Pick.refl _⟩⟩ ?_
      clear hN2
      rintro m e C ⟨x4, hN2, hatl2⟩
      refine W_at hatl2 ?_
      clear hatl2
      obtain ⟨m2, w2l, rfl, h2l, hn2, ho2⟩ := iterN_some hN2
      clear hN2
      replace h2l : ref28_Same_l2 x1 x2 x4 = some w2l := h2l
      unfold ref28_Same_l2 at h2l
      refine W_seq ?_
      refine W_rs ?_
      refine rq (out := Pr.i64 x4) qMove ?_
      refine rq (out := Pr.lst rApiSegment x1) qMove ?_
      refine rq (out := Pr.i64 (x1.length : Int)) (qLenL rfl Tryz.underlying22) ?_
      refine rq (out := Pr.bool (decide (x4 < (x1.length : Int)))) qInt ?_
      refine W_cond (b := decide (x4 < (x1.length : Int))) rfl (fun hc6 => ?_) (fun hc6 => ?_)
      · replace h2l := iteT hc6 h2l
        refine W_skip ?_
        refine W_seq ?_
        refine W_block ?_
        refine W_join (fun e C => ∃ (x7 : ApiSegment), ∃ (x8 : ApiSegment), ref28_Same_j3 x4 x7 x8 = some w2l ∧ At [(0, Pr.lst rApiSegment x1), (1, Pr.lst rApiSegment x2), (5, Pr.i64 x4), (25, Pr.bool (!decide (x7 = x8)))] [] e C) ?_ ?_
        · rintro e C ⟨x7, x8, h2l, hat3⟩
          refine W_at hat3 ?_
          clear hat3
          unfold ref28_Same_j3 at h2l
          refine W_cond (b := !decide (x7 = x8)) rfl (fun hc9 => ?_) (fun hc9 => ?_)
          · replace h2l := iteT hc9 h2l
            refine W_rs ?_
            refine rq (out := Pr.bool false) qAssign ?_
            obtain rfl := ho2 _ (Option.some.inj h2l).symm
            replace h : some false = some r := h
            obtain rfl := Option.some.inj h
            exact W_ret ⟨rfl, Pr.le_rfl⟩
          · replace h2l := iteF hc9 h2l
            refine W_skip ?_
            refine W_r ?_
            refine rq (out := Pr.i64 x4) qMove ?_
            refine rq (out := Pr.i64 (w64 (x4 + 1))) qInt ?_
            refine rq (out := Pr.i64 (w64 (x4 + 1))) qAssign ?_
            exact ⟨m2, Nat.lt_succ_self _, w64 (x4 + 1), hn2 _ (Option.some.inj h2l).symm, ⟨⟨Pr.le_rfl, Pr.le_rfl, Pr.le_rfl, trivial⟩, Pick.refl _⟩⟩
        · refine W_draw 9 hmx (by kernel_rfl) (by kernel_rfl) ?_
          refine qq (out := Pr.lst rApiSegment x1) qMove ?_
          refine qq (out := Pr.i64 x4) qMove ?_
          obtain ⟨x7, hx7, h2l⟩ := bindSome h2l
          refine qq (out := Pr.cpt rApiSegment x7) (qIdxA (R := rApiSegment) (l := x1) Tryz.underlying22 Tryz.sizeOf38 hx7) ?_
          refine qq (out := (rApiSegment).val x7) (qLoadC (R := rApiSegment) (a := x7) ty38) ?_
          refine qq (out := Pr.lst rApiSegment x2) qMove ?_
          refine qq (out := Pr.i64 x4) qMove ?_
          obtain ⟨x8, hx8, h2l⟩ := bindSome h2l
          refine qq (out := Pr.cpt rApiSegment x8) (qIdxA (R := rApiSegment) (l := x2) Tryz.underlying22 Tryz.sizeOf38 hx8) ?_
          refine qq (out := (rApiSegment).val x8) (qLoadC (R := rApiSegment) (a := x8) ty38) ?_
          refine qq (out := Pr.bool (!decide (x7 = x8))) (qStNe (a := x7) (b := x8) eqApiSegment (by decide) rfl eqgApiSegment) ?_
          exact ⟨x7, x8, h2l, ⟨⟨Pr.le_rfl, Pr.le_rfl, Pr.le_rfl, Pr.le_rfl, trivial⟩, Pick.refl _⟩⟩
      · replace h2l := iteF hc6 h2l
        refine W_exit ?_
        obtain rfl := ho2 _ (Option.some.inj h2l).symm
        exact ⟨h, ⟨trivial, Pick.refl _⟩⟩
theorem ref30_Once_ok (x1 : List ApiSegment) (r : (List ApiSegment)) (h : ref30_Once x1 = some r) : FnP Tryz.prog 21 [Pr.lst rApiSegment x1] (Pr.lst rApiSegment r) := by
  refine fn_intro (n := 33) (rs := [2]) Tryz.func21 rfl Tryz.ntmps21 ⟨by decide, Tryz.results21⟩ (by decide) (fun s0 => ?_)
  unfold ref30_Once at h
  refine W_rs ?_
  refine rq (out := Pr.is (.slice none 0 0)) qAssign ?_
  refine W_rs ?_
  refine rq (out := Pr.is (.slice none 0 0)) qAssign ?_
  refine W_seq ?_
  refine W_rs ?_
  refine rq (out := Pr.i64 0) qAssign ?_
  refine W_block ?_
  obtain ⟨z2l, hz2, h⟩ := bindSome h
  obtain ⟨n2, hN2⟩ := iter_some hz2
  clear hz2
  refine W_after 0 (fun e C => ∃ (x4 : List ApiSegment), ∃ (v2 : Value), ref30_Once_k1 x4 = some r ∧ At [(3, Pr.is v2)] [Own.vec v2 rApiSegment x4 38] e C) ?_ ?_
  · rintro e C ⟨x4, v2, h, hat1⟩
    refine W_at hat1 ?_
    clear hat1
    unfold ref30_Once_k1 at h
    refine W_rs ?_
    refine rq (out := Pr.is v2) qMove ?_
    refine rq (out := Pr.is v2) qAssign ?_
    refine W_rel 0 [2] ?_ rfl ⟨rfl, trivial⟩
    obtain rfl := Option.some.inj h
    exact W_ret ⟨rfl, Pr.le_rfl⟩
  · refine W_nil [3] rApiSegment 38 (fun v18 => ?_) ⟨rfl, trivial⟩
    refine W_loop (fun m e C => ∃ (x3 : Int), ∃ (x4 : List ApiSegment), ∃ (v2 : Value), IterN (fun s => ref30_Once_l2 x1 s.1 s.2) m (x3, x4) = some z2l ∧ At [(0, Pr.lst rApiSegment x1), (3, Pr.is v2), (4, Pr.i64 x3)] [Own.vec v2 rApiSegment x4 38] e C) n2 ⟨0, [], v18, hN2, ⟨⟨Pr.le_rfl, Pr.le_rfl, Pr.le_rfl, trivial⟩, Pick.refl _⟩⟩ ?_
    clear hN2
    rintro m e C ⟨x3, x4, v2, hN2, hatl2⟩
    refine W_at hatl2 ?_
    clear hatl2
    obtain ⟨m2, w2l, rfl, h2l, hn2, ho2⟩ := iterN_some hN2
    clear hN2
    replace h2l : ref30_Once_l2 x1 x3 x4 = some w2l := h2l
    unfold ref30_Once_l2 at h2l
    refine W_seq ?_
    refine W_rs ?_
    refine rq (out := Pr.i64 x3) qMove ?_
    refine rq (out := Pr.lst rApiSegment x1) qMove ?_
    refine rq (out := Pr.i64 (x1.length : Int)) (qLenL rfl Tryz.underlying22) ?_
    refine rq (out := Pr.bool (decide (x3 < (x1.length : Int)))) qInt ?_
    refine W_cond (b := decide (x3 < (x1.length : Int))) rfl (fun hc8 => ?_) (fun hc8 => ?_)
    · replace h2l := iteT hc8 h2l
      refine W_skip ?_
      refine W_join (fun e C => ∃ (x17 : List ApiSegment), ∃ (v16 : Value), ref30_Once_j3 x3 x17 = some w2l ∧ At [(0, Pr.lst rApiSegment x1), (3, Pr.is v16), (4, Pr.i64 x3)] [Own.vec v16 rApiSegment x17 38] e C) ?_ ?_
      · rintro e C ⟨x17, v16, h2l, hat3⟩
        refine W_at hat3 ?_
        clear hat3
        unfold ref30_Once_j3 at h2l
        refine W_r ?_
        refine rq (out := Pr.i64 x3) qMove ?_
        refine rq (out := Pr.i64 (w64 (x3 + 1))) qInt ?_
        refine rq (out := Pr.i64 (w64 (x3 + 1))) qAssign ?_
        exact ⟨m2, Nat.lt_succ_self _, w64 (x3 + 1), x17, v16, hn2 _ (Option.some.inj h2l).symm, ⟨⟨Pr.le_rfl, Pr.le_rfl, Pr.le_rfl, trivial⟩, Pick.refl _⟩⟩
      · refine W_block ?_
        refine W_rs ?_
        refine rq (out := Pr.is v2) qMove ?_
        refine rq (out := Pr.lst rApiSegment x1) qMove ?_
        refine rq (out := Pr.i64 x3) qMove ?_
        obtain ⟨x9, hx9, h2l⟩ := bindSome h2l
        refine rq (out := Pr.cpt rApiSegment x9) (qIdxA (R := rApiSegment) (l := x1) Tryz.underlying22 Tryz.sizeOf38 hx9) ?_
        refine rq (out := Pr.cpt Rp.str x9.Key) (qFieldC (R := rApiSegment) (a := x9) fld38_0 subApiSegment_Key) ?_
        refine rq (out := Pr.str x9.Key) (qLoadC (R := Rp.str) (a := x9.Key) ty9) ?_
        obtain ⟨⟨x10, x11⟩, hx10, h2l⟩ := bindSome h2l
        refine rq (out := Pr.tup [Pr.str x10, Pr.bool x11]) (qCallB 0 (ref28_Get_ok x4 x9.Key _ hx10) ⟨.inr ⟨Pr.le_rfl, rfl⟩, .inl Pr.le_rfl, trivial⟩ (fun _ _ _ ⟨vs, e, l⟩ => ⟨vs, e, match vs, l with | [_, _], l => l⟩)) ?_
        refine rq (out := Pr.tup [Pr.str x10, Pr.bool x11]) qMove ?_
        refine rq (out := Pr.str x10) qExtract ?_
        refine rq (out := Pr.bool x11) qExtract ?_
        refine rq (out := Pr.str x10) qAssign ?_
        refine rq (out := Pr.bool x11) qAssign ?_
        refine W_rs ?_
        refine rq (out := Pr.bool x11) qMove ?_
        refine rq (out := Pr.bool (!x11)) qNot ?_
        refine W_cond (b := !x11) rfl (fun hc12 => ?_) (fun hc12 => ?_)
        · replace h2l := iteT hc12 h2l
          refine W_r ?_
          refine rq (out := Pr.is v2) qMove ?_
          refine rq (out := Pr.lst rApiSegment x1) qMove ?_
          refine rq (out := Pr.i64 x3) qMove ?_
          obtain ⟨x13, hx13, h2l⟩ := bindSome h2l
          refine rq (out := Pr.cpt rApiSegment x13) (qIdxA (R := rApiSegment) (l := x1) Tryz.underlying22 Tryz.sizeOf38 hx13) ?_
          refine rq (out := (rApiSegment).val x13) (qLoadC (R := rApiSegment) (a := x13) ty38) ?_
          refine rq (out := Pr.lst rApiSegment ([x13] : List ApiSegment)) (qBuildSlice1 (R := rApiSegment) (a := x13) el22 (Nat.le_of_ble_eq_true rfl)) ?_
          obtain ⟨x14, hx14, h2l⟩ := bindSome h2l
          refine rAppend' 0 el22 hx14 (fun v15 => ?_)
          refine rq (out := Pr.is v15) qAssign ?_
          exact ⟨x14, v15, h2l, ⟨⟨Pr.le_rfl, Pr.le_rfl, Pr.le_rfl, trivial⟩, Pick.refl _⟩⟩
        · replace h2l := iteF hc12 h2l
          refine W_skip ?_
          exact ⟨x4, v2, h2l, ⟨⟨Pr.le_rfl, Pr.le_rfl, Pr.le_rfl, trivial⟩, Pick.refl _⟩⟩
    · replace h2l := iteF hc8 h2l
      refine W_exit ?_
      obtain rfl := ho2 _ (Option.some.inj h2l).symm
      exact ⟨x4, v2, h, ⟨⟨Pr.le_rfl, trivial⟩, Pick.refl _⟩⟩
end Go.Proofs.YtphkaogfinjbjaaGreatDoor
