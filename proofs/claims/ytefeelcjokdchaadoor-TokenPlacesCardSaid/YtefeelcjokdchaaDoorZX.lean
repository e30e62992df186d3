/- Contracts of the library, and what is proved by hand (printed by wip/gen/gen.py). -/
import Derived.Test.YtefeelcjokdchaaDoorZH
import Derived.Test.YtefeelcjokdchaaDoorZK
import Derived.Test.YtefeelcjokdchaaDoorLay
import Derived.Lib.ConvBytes
import Derived.Lib.AtoiErrMem
set_option linter.unusedSimpArgs false
set_option linter.unusedVariables false
/- Contracts of the library, and what is proved by hand (printed by wip/gen/gen.py). -/
set_option linter.unusedSectionVars false
set_option maxRecDepth 100000
set_option maxHeartbeats 4000000
namespace Go.Proofs.YtefeelcjokdchaaDoor
open Go Go.Cn
variable [Known]
theorem Builder_copyCheck_ok (b : Nat) (v : Value) : FnC Tryd.prog 70 [Pr.pt b 0] [Own.bld 66 b v] (fun q C' => q = Pr.tup [] ∧ C' = [Own.bld 66 b v]) := by
  refine fnc_intro (n := 20) (rs := []) Tryd.func70 rfl Tryd.ntmps70 ⟨by decide, Tryd.results70⟩ (by decide) (fun s0 => ?_)
  refine W_bld (fun p hp => ?_)
  rcases hp with rfl | rfl
  · refine W_rs ?_
    refine rq (out := Pr.pt b 0) qMove ?_
    refine rq (out := Pr.pt b 0) qNilP ?_
    refine rq (out := Pr.pt b 0) (qFieldP fld66_0) ?_
    refine rq (out := Pr.is (.pointer none)) (qLoadB0 Tryd.isAgg63) ?_
    refine rq (out := Pr.bool true) (qPtrNil (q := none) Tryd.underlying63) ?_
    refine W_cond (b := true) rfl (fun _ => ?_) (fun h => nomatch h)
    refine W_toBld (B := 66) (b := b) (v := v) (.inr rfl) ?_
    refine W_r ?_
    refine rq (out := Pr.pt b 0) qMove ?_
    refine rq (out := Pr.pt b 0) qMove ?_
    refine rq (out := Pr.pt b 0) (qToUnsafe Tryd.underlying63 Tryd.underlying97 (show Tryd.prog.info? 66 = some Tryd.t66 from rfl) (by decide)) ?_
    refine rq (out := Pr.pt b 0) (qNoEscape Tryd.func79 (by kernel_rfl) (by kernel_rfl) (by kernel_rfl) (by kernel_rfl)) ?_
    refine rq (out := Pr.pt b 0) (qFromUnsafe Tryd.underlying97 Tryd.underlying63 (show Tryd.prog.info? 66 = some Tryd.t66 from rfl) (by kernel_rfl)) ?_
    refine rq (out := Pr.pt b 0) qNilP ?_
    refine rq (out := Pr.pt b 0) (qFieldP fld66_0) ?_
    refine rStoreB0 Tryd.sizeOf63 ?_
    exact ⟨rfl, .inr rfl, _, Pr.le_rfl, rfl, rfl⟩
  · refine W_rs ?_
    refine rq (out := Pr.pt b 0) qMove ?_
    refine rq (out := Pr.pt b 0) qNilP ?_
    refine rq (out := Pr.pt b 0) (qFieldP fld66_0) ?_
    refine rq (out := Pr.pt b 0) (qLoadB0 Tryd.isAgg63) ?_
    refine rq (out := Pr.bool false) (qPtrNil (q := some ⟨b, 0, none⟩) Tryd.underlying63) ?_
    refine W_cond (b := false) rfl (fun h => nomatch h) (fun _ => ?_)
    refine W_rs ?_
    refine rq (out := Pr.pt b 0) qMove ?_
    refine rq (out := Pr.pt b 0) qNilP ?_
    refine rq (out := Pr.pt b 0) (qFieldP fld66_0) ?_
    refine rq (out := Pr.pt b 0) (qLoadB0 Tryd.isAgg63) ?_
    refine rq (out := Pr.pt b 0) qMove ?_
    refine rq (out := Pr.bool false) (qPtrSame Tryd.underlying63 (show Tryd.prog.info? 66 = some Tryd.t66 from rfl)) ?_
    refine W_cond (b := false) rfl (fun h => nomatch h) (fun _ => ?_)
    refine W_bldp (.inr rfl) ?_
    refine W_skip ?_
    exact ⟨.inr rfl, _, Pr.le_rfl, rfl, rfl⟩
theorem Builder_WriteString_ok (b : Nat) (v : Value) (l m z : List UInt8) (h : bcat l m = some z) : FnC Tryd.prog 54 [Pr.pt b 0, Pr.str m] [Own.bld 66 b v, Own.vec v Rp.byte l 5] (fun q C' => ∃ v', q = Pr.tup [Pr.i64 m.length, Pr.is .nilIface] ∧ C' = [Own.bld 66 b v', Own.vec v' Rp.byte z 5]) := by
  obtain ⟨h2, rfl⟩ := bcat_some h
  refine fnc_intro (n := 19) (rs := [4, 5]) Tryd.func54 rfl Tryd.ntmps54 ⟨by decide, Tryd.results54⟩ (by decide) (fun s0 => ?_)
  refine W_rs ?_
  refine rq (out := Pr.i64 0) qAssign ?_
  refine rq (out := Pr.is .nilIface) qAssign ?_
  refine W_rs ?_
  refine rq (out := Pr.pt b 0) qMove ?_
  refine rCallC [0] (Builder_copyCheck_ok b v) (fun q C' hq => ?_)
  obtain ⟨rfl, rfl⟩ := hq
  refine W_rs ?_
  refine rq (out := Pr.pt b 0) qMove ?_
  refine rq (out := Pr.pt b 0) qMove ?_
  refine rq (out := Pr.pt b 0) qNilP ?_
  refine rq (out := Pr.pt b 1) (qFieldP fld66_1) ?_
  refine rq (out := Pr.is v) (qLoadB 0 Tryd.isAgg64) ?_
  refine rq (out := Pr.str m) qMove ?_
  refine rAppendS 1 (l := l) (m := m) el64 Tryd.underlying9 h2 (fun v' => ?_)
  refine rq (out := Pr.pt b 0) qNilP ?_
  refine rq (out := Pr.pt b 1) (qFieldP fld66_1) ?_
  refine rStoreB 0 1 (l := l ++ m) (R := Rp.byte) (e := 5) Tryd.sizeOf64 ?_
  refine W_rs ?_
  refine rq (out := Pr.str m) qMove ?_
  refine rq (out := Pr.i64 (m.length : Int)) (qLenS rfl Tryd.underlying9) ?_
  refine rq (out := Pr.i64 (m.length : Int)) qAssign ?_
  refine rq (out := Pr.is .nilIface) qAssign ?_
  exact W_ret ⟨.inl rfl, _, Pr.le_rfl, _, rfl, rfl⟩
theorem Builder_WriteByte_ok (b : Nat) (v : Value) (l : List UInt8) (c : Int) (z : List UInt8) (h : bput l c = some z) : FnC Tryd.prog 57 [Pr.pt b 0, Pr.u8 c] [Own.bld 66 b v, Own.vec v Rp.byte l 5] (fun q C' => ∃ v', q = Pr.is .nilIface ∧ C' = [Own.bld 66 b v', Own.vec v' Rp.byte z 5]) := by
  obtain ⟨⟨h0, h2⟩, rfl⟩ := bput_some h
  let m : List UInt8 := [UInt8.ofNat c.toNat]
  have hc : Pr.u8 c = Rp.byte.val (UInt8.ofNat c.toNat) := byte_of h0
  rw [hc]
  refine fnc_intro (n := 17) (rs := [4]) Tryd.func57 rfl Tryd.ntmps57 ⟨by decide, Tryd.results57⟩ (by decide) (fun s0 => ?_)
  refine W_rs ?_
  refine rq (out := Pr.is .nilIface) qAssign ?_
  refine W_rs ?_
  refine rq (out := Pr.pt b 0) qMove ?_
  refine rCallC [0] (Builder_copyCheck_ok b v) (fun q C' hq => ?_)
  obtain ⟨rfl, rfl⟩ := hq
  refine W_rs ?_
  refine rq (out := Pr.pt b 0) qMove ?_
  refine rq (out := Pr.pt b 0) qMove ?_
  refine rq (out := Pr.pt b 0) qNilP ?_
  refine rq (out := Pr.pt b 1) (qFieldP fld66_1) ?_
  refine rq (out := Pr.is v) (qLoadB 0 Tryd.isAgg64) ?_
  refine rq (out := Rp.byte.val (UInt8.ofNat c.toNat)) qMove ?_
  refine rq (out := Pr.lst Rp.byte m) (qBuildSlice1 (R := Rp.byte) (a := UInt8.ofNat c.toNat) el64 (Nat.le_of_ble_eq_true rfl)) ?_
  refine rAppend 1 (R := Rp.byte) (l := l) (m := m) el64 (by simpa [m] using h2) (by simp only [maxLen, m, List.length_singleton]; omega) (fun v' => ?_)
  refine rq (out := Pr.pt b 0) qNilP ?_
  refine rq (out := Pr.pt b 1) (qFieldP fld66_1) ?_
  refine rStoreB 0 1 (l := l ++ m) (R := Rp.byte) (e := 5) Tryd.sizeOf64 ?_
  refine W_rs ?_
  refine rq (out := Pr.is .nilIface) qAssign ?_
  exact W_ret ⟨.inl rfl, _, Pr.le_rfl, _, rfl, rfl⟩
theorem cells5 : Tryd.prog.cellsOf 5 = 1 := by kernel_rfl
theorem Builder_String_ok (b : Nat) (v : Value) (l : List UInt8) : FnC Tryd.prog 55 [Pr.pt b 0] [Own.bld 66 b v, Own.vec v Rp.byte l 5] (fun q C' => q = Pr.str l ∧ C' = []) := by
  refine fnc_intro (n := 14) (rs := [2]) Tryd.func55 rfl Tryd.ntmps55 ⟨by decide, Tryd.results55⟩ (by decide) (fun s0 => ?_)
  refine W_rs ?_
  refine rq (out := Pr.str []) qAssign ?_
  refine W_seq ?_
  refine W_draw 10 hmx (by kernel_rfl) (by kernel_rfl) ?_
  refine qq (out := Pr.pt b 0) qMove ?_
  refine qq (out := Pr.pt b 0) qNilP ?_
  refine qq (out := Pr.pt b 1) (qFieldP fld66_1) ?_
  refine qq (out := Pr.is v) (qLoadB 0 Tryd.isAgg64) ?_
  refine qq (out := Pr.sd v) (qSliceData 1 (l := l) (e := 5) Tryd.underlying90) ?_
  refine qq (out := Pr.pt b 0) qMove ?_
  refine qq (out := Pr.pt b 0) qNilP ?_
  refine qq (out := Pr.pt b 1) (qFieldP fld66_1) ?_
  refine qq (out := Pr.is v) (qLoadB 0 Tryd.isAgg64) ?_
  refine qq (out := Pr.i64 (l.length : Int)) (qLenV 1 rfl Tryd.underlying64) ?_
  refine rUnsafeString 1 (l := l) Tryd.underlying90 cells5 ?_
  refine rq (out := Pr.str l) qAssign ?_
  refine W_drop (C' := []) (List.nil_sublist _) ?_
  exact W_ret ⟨.inl rfl, _, Pr.le_rfl, rfl, rfl⟩
theorem gKept : ∀ s, Glob.ok s → RowAt Rp.str s ⟨0, 0, none⟩ kept := fun _ h => GCells.row (R := Rp.str) h.1 (rowC_flat (R := Rp.str) (fun l => [.string ⟨l.toArray⟩]) (fun _ _ => rfl))
theorem gClashes [HasClashes] : ∀ s, Glob.ok s → RowAt rTokenClash s ⟨1, 0, none⟩ lclashes := fun _ h => GCells.row (R := rTokenClash) (L := lclashes) (cs := cellsClashes) (h.2.1 HasClashes.it) ⟨_, _, rfl, ⟨_, _, rfl, rfl, _, _, rfl, rfl, rfl⟩, _, _, rfl, ⟨_, _, rfl, rfl, _, _, rfl, rfl, rfl⟩, _, _, rfl, ⟨_, _, rfl, rfl, _, _, rfl, rfl, rfl⟩, _, _, rfl, ⟨_, _, rfl, rfl, _, _, rfl, rfl, rfl⟩, _, _, rfl, ⟨_, _, rfl, rfl, _, _, rfl, rfl, rfl⟩, _, _, rfl, ⟨_, _, rfl, rfl, _, _, rfl, rfl, rfl⟩, rfl⟩
theorem allP1 {s : St} {p : Pr} {vs : List Value} (h : AllP s [p] vs) : ∃ v, vs = [v] ∧ p.p s v := by
  match vs, h with
  | [v], h => exact ⟨v, rfl, h.1⟩
theorem allP2 {s : St} {p q : Pr} {vs : List Value} (h : AllP s [p, q] vs) : ∃ v u, vs = [v, u] ∧ p.p s v ∧ q.p s u := by
  match vs, h with
  | [v, u], h => exact ⟨v, u, rfl, h.1, h.2.1⟩
theorem allP3 {s : St} {p q r : Pr} {vs : List Value} (h : AllP s [p, q, r] vs) : ∃ v u t, vs = [v, u, t] ∧ p.p s v ∧ q.p s u ∧ r.p s t := by
  match vs, h with
  | [v, u, t], h => exact ⟨v, u, t, rfl, h.1, h.2.1, h.2.2.1⟩
theorem strings_IndexByte_ok (x : List UInt8) (c : Int) (r : Int) (h : strings_IndexByte x c = some r) : FnP Tryd.prog 78 [Pr.str x, Pr.u8 c] (Pr.i64 r) := by
  refine fn_same en78 (fun s vs hs ha => ?_)
  obtain ⟨v, u, rfl, h1, h2⟩ := allP2 ha
  obtain rfl : v = .string (bs x) := h1
  obtain rfl : u = .int .u8 c := h2
  refine (Tryd.strings_IndexByte (bs x) c s.w).mono ?_
  rintro e w' ⟨rfl, rfl⟩
  obtain rfl := Option.some.inj h
  exact ⟨_, rfl, rfl, rfl⟩
theorem strings_Index_ok (x y : List UInt8) (r : Int) (h : strings_Index x y = some r) : FnP Tryd.prog 63 [Pr.str x, Pr.str y] (Pr.i64 r) := by
  refine fn_same en63 (fun s vs hs ha => ?_)
  obtain ⟨v, u, rfl, h1, h2⟩ := allP2 ha
  obtain rfl : v = .string (bs x) := h1
  obtain rfl : u = .string (bs y) := h2
  unfold strings_Index at h
  split at h
  · rename_i hlt
    obtain ⟨m, hm⟩ := hs.glob.2.2.1
    have hc := hm.lies.cell (j := 0) rfl
    have ha : (⟨2, 0, none⟩ : Addr).add 0 = ⟨2, 0, none⟩ := by simp [Addr.add]
    rw [ha] at hc
    refine (Tryd.strings_Index (bs x) (bs y) m s.w (by simpa [bs, ByteArray.size] using hlt) hc).mono ?_
    rintro e w' ⟨rfl, rfl⟩
    obtain rfl := Option.some.inj h
    exact ⟨_, rfl, rfl, rfl⟩
  · cases h
theorem strconv_ParseInt_ok (x : List UInt8) (b k : Int) (r : Int × Bool) (h : strconv_ParseInt x b k = some r) : FnP Tryd.prog 64 [Pr.str x, Pr.i64 b, Pr.i64 k] (Pr.tup [Pr.i64 r.1, Pr.err r.2]) := by
  refine fn_below en64 (fun s vs hs ha => ?_)
  obtain ⟨v, u, t, rfl, h1, h2, h3⟩ := allP3 ha
  obtain rfl : v = .string (bs x) := h1
  obtain rfl : u = .int .i64 b := h2
  obtain rfl : t = .int .i64 k := h3
  unfold strconv_ParseInt at h
  split at h
  · rename_i hc
    obtain ⟨rfl, rfl, hlen⟩ := hc
    have hsz : (bs x).size = x.length := by simp [bs, ByteArray.size]
    have hdl : (bs x).data.toList = x := by simp [bs]
    cases hp : Lib.parseIntB 64 x with
    | ok v =>
      rw [hp] at h
      obtain rfl := Option.some.inj h
      refine (Tryd.strconv_ParseInt_ok (bs x) (by rw [hsz]; omega) v (by rw [hdl]; exact hp) s.w).mono ?_
      rintro e w' ⟨rfl, hw⟩
      refine ⟨_, rfl, ?_, fun F' => ⟨[_, _], rfl, rfl, rfl, trivial⟩⟩
      rcases hw with rfl | ⟨t, rfl⟩
      · exact Go.RowKit.Below.refl _ _
      · exact Lib.bytesWorld_below _ _ _
    | range =>
      rw [hp] at h
      obtain rfl := Option.some.inj h
      obtain ⟨te, pe, hg⟩ := hs.glob.2.2.2
      have hc := hg.lies.cell (j := 0) rfl
      have ha : (⟨4, 0, none⟩ : Addr).add 0 = ⟨4, 0, none⟩ := by simp [Addr.add]
      rw [ha] at hc
      refine (Tryd.strconv_ParseInt_range (bs x) (by rw [hsz]; exact hlen) (by rw [hdl]; exact hp) (.iface te pe) s.w hc (.inr ⟨te, pe, rfl⟩)).mono ?_
      rintro e w' ⟨N, rfl, _, _, hb⟩
      rw [hdl]
      exact ⟨_, rfl, hb, fun F' => ⟨[_, _], rfl, rfl, ⟨_, _, rfl⟩, trivial⟩⟩
    | _ => rw [hp] at h; cases h
  · cases h

end Go.Proofs.YtefeelcjokdchaaDoor
