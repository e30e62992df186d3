/- The code comes to what these functions say (printed by wip/gen/gen.py). -/
import Derived.Test.YtgkcoicaopilhaaGreatDoorZP6
import Derived.Test.YtgkcoicaopilhaaGreatDoorZT
set_option linter.unusedSimpArgs false
set_option linter.unusedVariables false
set_option linter.unusedSectionVars false
set_option linter.unusedSectionVars false
set_option maxRecDepth 100000
set_option maxHeartbeats 4000000
namespace Go.Proofs.YtgkcoicaopilhaaGreatDoor
open Go Go.Cn
def rec_ref11_Exact_spec (R:dr):Prop:=(∀(x1:ApiNode) (x2:ApiNode) (r:Bool),R x1 x2=some r->FnP Tryz.prog 9 [(ab).val x1,(ab).val x2] (Pr.bool r))
theorem F_ref11_Exact_step (R:dr) (ih:rec_ref11_Exact_spec R) (x1 x2:ApiNode) (r:Bool) (h:F_ref11_Exact R x1 x2=some r):FnP Tryz.prog 9 [(ab).val x1,(ab).val x2] (Pr.bool r):=by
 refine ba (n:=90) (rs:=[4]) Tryz.func9 rfl Tryz.ntmps9 ⟨by decide,Tryz.results9⟩ (by decide) (fun s0=> ?_)
 unfold F_ref11_Exact at h
 refine W_rs ?_
 refine rBox (R:=ab) (a:=x1) rfl (fun b3=> ?_)
 refine rBox (R:=ab) (a:=x2) rfl (fun b4=> ?_)
 refine rq (out:=Pr.bool false) ae ?_
 refine a6 ?_
 refine a8 (fun e C=>∃(x260:Bool),ej R x1 x2 x260=some r/\At [(2,ao b3 0),(3,ao b4 0),(69,Pr.bool x260)] [Own.box b3 ab x1,Own.box b4 ab x2] e C) ?_ ?_
 ·rintro e C ⟨x260,h,hat4⟩
  refine W_at hat4 ?_
  clear hat4
  unfold ej at h
  refine am (b:=x260) rfl (fun hc261=> ?_) (fun hc261=> ?_)
  ·replace h:=iteT hc261 h
   refine W_rs ?_
   refine rq (out:=Pr.bool false) ae ?_
   obtain rfl:=Option.some.inj h
   exact a4 ⟨rfl,aa⟩
  replace h:=iteF hc261 h
  refine au ?_
  refine a6 ?_
  refine W_rs ?_
  refine rq (out:=Pr.i64 0) ae ?_
  refine a5 ?_
  obtain⟨z2l,hz2,h⟩:=af h
  obtain⟨n2,hN2⟩:=bo hz2
  clear hz2
  refine c6 0 (fun e C=>ref11_Exact_k1 R=some r/\At [] [Own.box b3 ab x1,Own.box b4 ab x2] e C) ?_ ?_
  ·rintro e C ⟨h,hat1⟩
   refine W_at hat1 ?_
   clear hat1
   unfold ref11_Exact_k1 at h
   refine W_rs ?_
   refine rq (out:=Pr.bool true) ae ?_
   obtain rfl:=Option.some.inj h
   exact a4 ⟨rfl,aa⟩
  refine dp (fun m e C=>∃(x262:Int),d9 (fun s=>js R x1 x2 s) m x262=some z2l/\At [(2,ao b3 0),(3,ao b4 0),(5,Pr.i64 x262)] [Own.box b3 ab x1,Own.box b4 ab x2] e C) n2 ⟨0,hN2,⟨⟨aa,aa,aa,trivial⟩,Pick.refl _⟩⟩ ?_
  clear hN2
  rintro m e C ⟨x262,hN2,hatl2⟩
  refine W_at hatl2 ?_
  clear hatl2
  obtain⟨m2,w2l,rfl,h2l,hn2,ho2⟩:=bg hN2
  clear hN2
  replace h2l:js R x1 x2 x262=some w2l:=h2l
  unfold js at h2l
  refine a6 ?_
  refine W_rs ?_
  refine rq (out:=Pr.i64 x262) ag ?_
  refine rq (out:=ao b3 8) (aq cp) ?_
  refine rq (out:=aj ab x1.Kids) (aw (R:=ab) (a:=x1) (R':=ax ab) 0 ty22 ar) ?_
  refine rq (out:=Pr.i64 (x1.Kids.length:Int)) (dz rfl Tryz.underlying22) ?_
  refine rq (out:=Pr.bool (decide (x262<(x1.Kids.length:Int)))) qInt ?_
  refine am (b:=decide (x262<(x1.Kids.length:Int))) rfl (fun hc264=> ?_) (fun hc264=> ?_)
  ·replace h2l:=iteT hc264 h2l
   refine au ?_
   refine a6 ?_
   refine a5 ?_
   refine a8 (fun e C=>∃(x267:Bool),ref11_Exact_j3 R x262 x267=some w2l/\At [(2,ao b3 0),(3,ao b4 0),(5,Pr.i64 x262),(6,Pr.bool x267)] [Own.box b3 ab x1,Own.box b4 ab x2] e C) ?_ ?_
   ·rintro e C ⟨x267,h2l,hat3⟩
    refine W_at hat3 ?_
    clear hat3
    unfold ref11_Exact_j3 at h2l
    refine W_rs ?_
    refine rq (out:=Pr.bool x267) ag ?_
    refine rq (out:=Pr.bool (!x267)) qNot ?_
    refine am (b:= !x267) rfl (fun hc268=> ?_) (fun hc268=> ?_)
    ·replace h2l:=iteT hc268 h2l
     refine W_rs ?_
     refine rq (out:=Pr.bool false) ae ?_
     obtain rfl:=ho2 _ (Option.some.inj h2l).symm
     replace h:some false=some r:=h
     obtain rfl:=Option.some.inj h
     exact a4 ⟨rfl,aa⟩
    replace h2l:=iteF hc268 h2l
    refine au ?_
    refine W_r ?_
    refine rq (out:=Pr.i64 x262) ag ?_
    refine rq (out:=Pr.i64 (w64 (x262+1))) qInt ?_
    refine rq (out:=Pr.i64 (w64 (x262+1))) ae ?_
    exact⟨m2,Nat.lt_succ_self _,w64 (x262+1),hn2 _ (Option.some.inj h2l).symm,⟨⟨aa,aa,aa,trivial⟩,Pick.refl _⟩⟩
   refine fa 12 hmx (by kernel_rfl) (by kernel_rfl) ?_
   refine qq (out:=ao b3 8) (aq cp) ?_
   refine qq (out:=aj ab x1.Kids) (aw (R:=ab) (a:=x1) (R':=ax ab) 0 ty22 ar) ?_
   refine qq (out:=Pr.i64 x262) ag ?_
   obtain⟨x265,hx265,h2l⟩:=af h2l
   refine qq (out:=bb ab x265) (dl (R:=ab) (l:=x1.Kids) Tryz.underlying22 Tryz.sizeOf24 hx265) ?_
   refine qq (out:=(ab).val x265) (cd (R:=ab) (a:=x265) ty24) ?_
   refine qq (out:=ao b4 8) (aq cp) ?_
   refine qq (out:=aj ab x2.Kids) (aw (R:=ab) (a:=x2) (R':=ax ab) 1 ty22 ar) ?_
   refine qq (out:=Pr.i64 x262) ag ?_
   obtain⟨x266,hx266,h2l⟩:=af h2l
   refine qq (out:=bb ab x266) (dl (R:=ab) (l:=x2.Kids) Tryz.underlying22 Tryz.sizeOf24 hx266) ?_
   refine qq (out:=(ab).val x266) (cd (R:=ab) (a:=x266) ty24) ?_
   obtain⟨x267,hx267,h2l⟩:=af h2l
   refine qq (out:=Pr.bool x267) (av (ih x265 x266 _ hx267)) ?_
   refine qq (out:=Pr.bool x267) ae ?_
   exact⟨x267,h2l,⟨⟨aa,aa,aa,aa,trivial⟩,Pick.refl _⟩⟩
  replace h2l:=iteF hc264 h2l
  refine cy ?_
  obtain rfl:=ho2 _ (Option.some.inj h2l).symm
  exact⟨h,⟨trivial,Pick.refl _⟩⟩
 refine W_r ?_
 refine rq (out:=ao b3 4) (aq fld24_4) ?_
 refine rq (out:=Pr.i64 x1.From) (aw (R:=ab) (a:=x1) (R':=Rp.int .i64) 0 ty3 subApiNode_From) ?_
 refine rq (out:=ao b4 4) (aq fld24_4) ?_
 refine rq (out:=Pr.i64 x2.From) (aw (R:=ab) (a:=x2) (R':=Rp.int .i64) 1 ty3 subApiNode_From) ?_
 refine rq (out:=Pr.bool (x1.From != x2.From)) qInt ?_
 refine rq (out:=Pr.bool (x1.From != x2.From)) ag ?_
 rcases bv h with⟨hc5,h⟩|⟨hc5,h⟩
 ·refine rno (neF hc5) ?_
  refine rno (neF hc5) ?_
  refine rno (neF hc5) ?_
  refine rno (neF hc5) ?_
  refine rno (neF hc5) ?_
  refine rq (out:=Pr.bool true) (bi hc5) ?_
  refine rq (out:=Pr.bool true) ag ?_
  have hc133:true=true:=rfl
  refine rno (neF hc133) ?_
  refine rno (neF hc133) ?_
  refine rno (neF hc133) ?_
  refine rno (neF hc133) ?_
  refine rno (neF hc133) ?_
  refine rq (out:=Pr.bool true) (bi hc133) ?_
  refine rq (out:=Pr.bool true) ag ?_
  have hc197:true=true:=rfl
  refine rno (neF hc197) ?_
  refine rno (neF hc197) ?_
  refine rno (neF hc197) ?_
  refine rno (neF hc197) ?_
  refine rno (neF hc197) ?_
  refine rq (out:=Pr.bool true) (bi hc197) ?_
  refine rq (out:=Pr.bool true) ag ?_
  have hc229:true=true:=rfl
  refine rno (neF hc229) ?_
  refine rno (neF hc229) ?_
  refine rno (neF hc229) ?_
  refine rno (neF hc229) ?_
  refine rno (neF hc229) ?_
  refine rq (out:=Pr.bool true) (bi hc229) ?_
  refine rq (out:=Pr.bool true) ag ?_
  have hc245:true=true:=rfl
  refine rno (neF hc245) ?_
  refine rno (neF hc245) ?_
  refine rno (neF hc245) ?_
  refine rno (neF hc245) ?_
  refine rno (neF hc245) ?_
  refine rq (out:=Pr.bool true) (bi hc245) ?_
  refine rq (out:=Pr.bool true) ag ?_
  have hc253:true=true:=rfl
  refine rno (neF hc253) ?_
  refine rno (neF hc253) ?_
  refine rno (neF hc253) ?_
  refine rno (neF hc253) ?_
  refine rno (neF hc253) ?_
  refine rq (out:=Pr.bool true) (bi hc253) ?_
  refine rq (out:=Pr.bool true) ag ?_
  have hc257:true=true:=rfl
  refine rno (neF hc257) ?_
  refine rno (neF hc257) ?_
  refine rno (neF hc257) ?_
  refine rno (neF hc257) ?_
  refine rno (neF hc257) ?_
  refine rq (out:=Pr.bool true) (bi hc257) ?_
  refine rq (out:=Pr.bool true) ag ?_
  have hc259:true=true:=rfl
  refine rno (neF hc259) ?_
  refine rno (neF hc259) ?_
  refine rno (neF hc259) ?_
  refine rno (neF hc259) ?_
  refine rno (neF hc259) ?_
  refine rno (neF hc259) ?_
  refine rno (neF hc259) ?_
  refine rq (out:=Pr.bool true) (bi hc259) ?_
  exact⟨true,h,⟨⟨aa,aa,aa,trivial⟩,Pick.refl _⟩⟩
 refine rqg hc5 (out:=ao b3 5) (aq fld24_5) ?_
 refine rqg hc5 (out:=Pr.i64 x1.To) (aw (R:=ab) (a:=x1) (R':=Rp.int .i64) 0 ty3 subApiNode_To) ?_
 refine rqg hc5 (out:=ao b4 5) (aq fld24_5) ?_
 refine rqg hc5 (out:=Pr.i64 x2.To) (aw (R:=ab) (a:=x2) (R':=Rp.int .i64) 1 ty3 subApiNode_To) ?_
 refine rqg hc5 (out:=Pr.bool (x1.To != x2.To)) qInt ?_
 refine rq (out:=Pr.bool (x1.To != x2.To)) (bu hc5) ?_
 refine rq (out:=Pr.bool (x1.To != x2.To)) ag ?_
 rcases bv h with⟨hc6,h⟩|⟨hc6,h⟩
 ·refine rno (neF hc6) ?_
  refine rno (neF hc6) ?_
  refine rno (neF hc6) ?_
  refine rno (neF hc6) ?_
  refine rno (neF hc6) ?_
  refine rq (out:=Pr.bool true) (bi hc6) ?_
  refine rq (out:=Pr.bool true) ag ?_
  have hc70:true=true:=rfl
  refine rno (neF hc70) ?_
  refine rno (neF hc70) ?_
  refine rno (neF hc70) ?_
  refine rno (neF hc70) ?_
  refine rno (neF hc70) ?_
  refine rq (out:=Pr.bool true) (bi hc70) ?_
  refine rq (out:=Pr.bool true) ag ?_
  have hc102:true=true:=rfl
  refine rno (neF hc102) ?_
  refine rno (neF hc102) ?_
  refine rno (neF hc102) ?_
  refine rno (neF hc102) ?_
  refine rno (neF hc102) ?_
  refine rq (out:=Pr.bool true) (bi hc102) ?_
  refine rq (out:=Pr.bool true) ag ?_
  have hc118:true=true:=rfl
  refine rno (neF hc118) ?_
  refine rno (neF hc118) ?_
  refine rno (neF hc118) ?_
  refine rno (neF hc118) ?_
  refine rno (neF hc118) ?_
  refine rq (out:=Pr.bool true) (bi hc118) ?_
  refine rq (out:=Pr.bool true) ag ?_
  have hc126:true=true:=rfl
  refine rno (neF hc126) ?_
  refine rno (neF hc126) ?_
  refine rno (neF hc126) ?_
  refine rno (neF hc126) ?_
  refine rno (neF hc126) ?_
  refine rq (out:=Pr.bool true) (bi hc126) ?_
  refine rq (out:=Pr.bool true) ag ?_
  have hc130:true=true:=rfl
  refine rno (neF hc130) ?_
  refine rno (neF hc130) ?_
  refine rno (neF hc130) ?_
  refine rno (neF hc130) ?_
  refine rno (neF hc130) ?_
  refine rq (out:=Pr.bool true) (bi hc130) ?_
  refine rq (out:=Pr.bool true) ag ?_
  have hc132:true=true:=rfl
  refine rno (neF hc132) ?_
  refine rno (neF hc132) ?_
  refine rno (neF hc132) ?_
  refine rno (neF hc132) ?_
  refine rno (neF hc132) ?_
  refine rno (neF hc132) ?_
  refine rno (neF hc132) ?_
  refine rq (out:=Pr.bool true) (bi hc132) ?_
  exact⟨true,h,⟨⟨aa,aa,aa,trivial⟩,Pick.refl _⟩⟩
 refine rqg hc6 (out:=ao b3 6) (aq fld24_6) ?_
 refine rqg hc6 (out:=Pr.i64 x1.At) (aw (R:=ab) (a:=x1) (R':=Rp.int .i64) 0 ty3 subApiNode_At) ?_
 refine rqg hc6 (out:=ao b4 6) (aq fld24_6) ?_
 refine rqg hc6 (out:=Pr.i64 x2.At) (aw (R:=ab) (a:=x2) (R':=Rp.int .i64) 1 ty3 subApiNode_At) ?_
 refine rqg hc6 (out:=Pr.bool (x1.At != x2.At)) qInt ?_
 refine rq (out:=Pr.bool (x1.At != x2.At)) (bu hc6) ?_
 refine rq (out:=Pr.bool (x1.At != x2.At)) ag ?_
 rcases bv h with⟨hc7,h⟩|⟨hc7,h⟩
 ·refine rno (neF hc7) ?_
  refine rno (neF hc7) ?_
  refine rno (neF hc7) ?_
  refine rno (neF hc7) ?_
  refine rno (neF hc7) ?_
  refine rq (out:=Pr.bool true) (bi hc7) ?_
  refine rq (out:=Pr.bool true) ag ?_
  have hc39:true=true:=rfl
  refine rno (neF hc39) ?_
  refine rno (neF hc39) ?_
  refine rno (neF hc39) ?_
  refine rno (neF hc39) ?_
  refine rno (neF hc39) ?_
  refine rq (out:=Pr.bool true) (bi hc39) ?_
  refine rq (out:=Pr.bool true) ag ?_
  have hc55:true=true:=rfl
  refine rno (neF hc55) ?_
  refine rno (neF hc55) ?_
  refine rno (neF hc55) ?_
  refine rno (neF hc55) ?_
  refine rno (neF hc55) ?_
  refine rq (out:=Pr.bool true) (bi hc55) ?_
  refine rq (out:=Pr.bool true) ag ?_
  have hc63:true=true:=rfl
  refine rno (neF hc63) ?_
  refine rno (neF hc63) ?_
  refine rno (neF hc63) ?_
  refine rno (neF hc63) ?_
  refine rno (neF hc63) ?_
  refine rq (out:=Pr.bool true) (bi hc63) ?_
  refine rq (out:=Pr.bool true) ag ?_
  have hc67:true=true:=rfl
  refine rno (neF hc67) ?_
  refine rno (neF hc67) ?_
  refine rno (neF hc67) ?_
  refine rno (neF hc67) ?_
  refine rno (neF hc67) ?_
  refine rq (out:=Pr.bool true) (bi hc67) ?_
  refine rq (out:=Pr.bool true) ag ?_
  have hc69:true=true:=rfl
  refine rno (neF hc69) ?_
  refine rno (neF hc69) ?_
  refine rno (neF hc69) ?_
  refine rno (neF hc69) ?_
  refine rno (neF hc69) ?_
  refine rno (neF hc69) ?_
  refine rno (neF hc69) ?_
  refine rq (out:=Pr.bool true) (bi hc69) ?_
  exact⟨true,h,⟨⟨aa,aa,aa,trivial⟩,Pick.refl _⟩⟩
 refine rqg hc7 (out:=ao b3 7) (aq fld24_7) ?_
 refine rqg hc7 (out:=Pr.i64 x1.TypeAt) (aw (R:=ab) (a:=x1) (R':=Rp.int .i64) 0 ty3 subApiNode_TypeAt) ?_
 refine rqg hc7 (out:=ao b4 7) (aq fld24_7) ?_
 refine rqg hc7 (out:=Pr.i64 x2.TypeAt) (aw (R:=ab) (a:=x2) (R':=Rp.int .i64) 1 ty3 subApiNode_TypeAt) ?_
 refine rqg hc7 (out:=Pr.bool (x1.TypeAt != x2.TypeAt)) qInt ?_
 refine rq (out:=Pr.bool (x1.TypeAt != x2.TypeAt)) (bu hc7) ?_
 refine rq (out:=Pr.bool (x1.TypeAt != x2.TypeAt)) ag ?_
 rcases bv h with⟨hc8,h⟩|⟨hc8,h⟩
 ·refine rno (neF hc8) ?_
  refine rno (neF hc8) ?_
  refine rno (neF hc8) ?_
  refine rno (neF hc8) ?_
  refine rno (neF hc8) ?_
  refine rq (out:=Pr.bool true) (bi hc8) ?_
  refine rq (out:=Pr.bool true) ag ?_
  have hc24:true=true:=rfl
  refine rno (neF hc24) ?_
  refine rno (neF hc24) ?_
  refine rno (neF hc24) ?_
  refine rno (neF hc24) ?_
  refine rno (neF hc24) ?_
  refine rq (out:=Pr.bool true) (bi hc24) ?_
  refine rq (out:=Pr.bool true) ag ?_
  have hc32:true=true:=rfl
  refine rno (neF hc32) ?_
  refine rno (neF hc32) ?_
  refine rno (neF hc32) ?_
  refine rno (neF hc32) ?_
  refine rno (neF hc32) ?_
  refine rq (out:=Pr.bool true) (bi hc32) ?_
  refine rq (out:=Pr.bool true) ag ?_
  have hc36:true=true:=rfl
  refine rno (neF hc36) ?_
  refine rno (neF hc36) ?_
  refine rno (neF hc36) ?_
  refine rno (neF hc36) ?_
  refine rno (neF hc36) ?_
  refine rq (out:=Pr.bool true) (bi hc36) ?_
  refine rq (out:=Pr.bool true) ag ?_
  have hc38:true=true:=rfl
  refine rno (neF hc38) ?_
  refine rno (neF hc38) ?_
  refine rno (neF hc38) ?_
  refine rno (neF hc38) ?_
  refine rno (neF hc38) ?_
  refine rno (neF hc38) ?_
  refine rno (neF hc38) ?_
  refine rq (out:=Pr.bool true) (bi hc38) ?_
  exact⟨true,h,⟨⟨aa,aa,aa,trivial⟩,Pick.refl _⟩⟩
 refine rqg hc8 (out:=ao b3 0) (aq ff) ?_
 refine rqg hc8 (out:=Pr.i64 x1.Kind) (aw (R:=ab) (a:=x1) (R':=Rp.int .i64) 0 ty3 bp) ?_
 refine rqg hc8 (out:=ao b4 0) (aq ff) ?_
 refine rqg hc8 (out:=Pr.i64 x2.Kind) (aw (R:=ab) (a:=x2) (R':=Rp.int .i64) 1 ty3 bp) ?_
 refine rqg hc8 (out:=Pr.bool (x1.Kind != x2.Kind)) qInt ?_
 refine rq (out:=Pr.bool (x1.Kind != x2.Kind)) (bu hc8) ?_
 refine rq (out:=Pr.bool (x1.Kind != x2.Kind)) ag ?_
 rcases bv h with⟨hc9,h⟩|⟨hc9,h⟩
 ·refine rno (neF hc9) ?_
  refine rno (neF hc9) ?_
  refine rno (neF hc9) ?_
  refine rno (neF hc9) ?_
  refine rno (neF hc9) ?_
  refine rq (out:=Pr.bool true) (bi hc9) ?_
  refine rq (out:=Pr.bool true) ag ?_
  have hc17:true=true:=rfl
  refine rno (neF hc17) ?_
  refine rno (neF hc17) ?_
  refine rno (neF hc17) ?_
  refine rno (neF hc17) ?_
  refine rno (neF hc17) ?_
  refine rq (out:=Pr.bool true) (bi hc17) ?_
  refine rq (out:=Pr.bool true) ag ?_
  have hc21:true=true:=rfl
  refine rno (neF hc21) ?_
  refine rno (neF hc21) ?_
  refine rno (neF hc21) ?_
  refine rno (neF hc21) ?_
  refine rno (neF hc21) ?_
  refine rq (out:=Pr.bool true) (bi hc21) ?_
  refine rq (out:=Pr.bool true) ag ?_
  have hc23:true=true:=rfl
  refine rno (neF hc23) ?_
  refine rno (neF hc23) ?_
  refine rno (neF hc23) ?_
  refine rno (neF hc23) ?_
  refine rno (neF hc23) ?_
  refine rno (neF hc23) ?_
  refine rno (neF hc23) ?_
  refine rq (out:=Pr.bool true) (bi hc23) ?_
  exact⟨true,h,⟨⟨aa,aa,aa,trivial⟩,Pick.refl _⟩⟩
 refine rqg hc9 (out:=ao b3 1) (aq eb) ?_
 refine rqg hc9 (out:=ah x1.Text) (aw (R:=ab) (a:=x1) (R':=ak) 0 ty9 bn) ?_
 refine rqg hc9 (out:=ao b4 1) (aq eb) ?_
 refine rqg hc9 (out:=ah x2.Text) (aw (R:=ab) (a:=x2) (R':=ak) 1 ty9 bn) ?_
 refine rqg hc9 (out:=Pr.bool (!(x1.Text==x2.Text))) qStr ?_
 refine rq (out:=Pr.bool (!(x1.Text==x2.Text))) (bu hc9) ?_
 refine rq (out:=Pr.bool (!(x1.Text==x2.Text))) ag ?_
 rcases bv h with⟨hc10,h⟩|⟨hc10,h⟩
 ·refine rno (neF hc10) ?_
  refine rno (neF hc10) ?_
  refine rno (neF hc10) ?_
  refine rno (neF hc10) ?_
  refine rno (neF hc10) ?_
  refine rq (out:=Pr.bool true) (bi hc10) ?_
  refine rq (out:=Pr.bool true) ag ?_
  have hc14:true=true:=rfl
  refine rno (neF hc14) ?_
  refine rno (neF hc14) ?_
  refine rno (neF hc14) ?_
  refine rno (neF hc14) ?_
  refine rno (neF hc14) ?_
  refine rq (out:=Pr.bool true) (bi hc14) ?_
  refine rq (out:=Pr.bool true) ag ?_
  have hc16:true=true:=rfl
  refine rno (neF hc16) ?_
  refine rno (neF hc16) ?_
  refine rno (neF hc16) ?_
  refine rno (neF hc16) ?_
  refine rno (neF hc16) ?_
  refine rno (neF hc16) ?_
  refine rno (neF hc16) ?_
  refine rq (out:=Pr.bool true) (bi hc16) ?_
  exact⟨true,h,⟨⟨aa,aa,aa,trivial⟩,Pick.refl _⟩⟩
 refine rqg hc10 (out:=ao b3 2) (aq kf) ?_
 refine rqg hc10 (out:=ah x1.Type_) (aw (R:=ab) (a:=x1) (R':=ak) 0 ty9 dk) ?_
 refine rqg hc10 (out:=ao b4 2) (aq kf) ?_
 refine rqg hc10 (out:=ah x2.Type_) (aw (R:=ab) (a:=x2) (R':=ak) 1 ty9 dk) ?_
 refine rqg hc10 (out:=Pr.bool (!(x1.Type_==x2.Type_))) qStr ?_
 refine rq (out:=Pr.bool (!(x1.Type_==x2.Type_))) (bu hc10) ?_
 refine rq (out:=Pr.bool (!(x1.Type_==x2.Type_))) ag ?_
 rcases bv h with⟨hc11,h⟩|⟨hc11,h⟩
 ·refine rno (neF hc11) ?_
  refine rno (neF hc11) ?_
  refine rno (neF hc11) ?_
  refine rno (neF hc11) ?_
  refine rno (neF hc11) ?_
  refine rq (out:=Pr.bool true) (bi hc11) ?_
  refine rq (out:=Pr.bool true) ag ?_
  have hc13:true=true:=rfl
  refine rno (neF hc13) ?_
  refine rno (neF hc13) ?_
  refine rno (neF hc13) ?_
  refine rno (neF hc13) ?_
  refine rno (neF hc13) ?_
  refine rno (neF hc13) ?_
  refine rno (neF hc13) ?_
  refine rq (out:=Pr.bool true) (bi hc13) ?_
  exact⟨true,h,⟨⟨aa,aa,aa,trivial⟩,Pick.refl _⟩⟩
 refine rqg hc11 (out:=ao b3 3) (aq fld24_3) ?_
 refine rqg hc11 (out:=Pr.i64 x1.N) (aw (R:=ab) (a:=x1) (R':=Rp.int .i64) 0 ty2 ft) ?_
 refine rqg hc11 (out:=ao b4 3) (aq fld24_3) ?_
 refine rqg hc11 (out:=Pr.i64 x2.N) (aw (R:=ab) (a:=x2) (R':=Rp.int .i64) 1 ty2 ft) ?_
 refine rqg hc11 (out:=Pr.bool (x1.N != x2.N)) qInt ?_
 refine rq (out:=Pr.bool (x1.N != x2.N)) (bu hc11) ?_
 refine rq (out:=Pr.bool (x1.N != x2.N)) ag ?_
 rcases bv h with⟨hc12,h⟩|⟨hc12,h⟩
 ·refine rno (neF hc12) ?_
  refine rno (neF hc12) ?_
  refine rno (neF hc12) ?_
  refine rno (neF hc12) ?_
  refine rno (neF hc12) ?_
  refine rno (neF hc12) ?_
  refine rno (neF hc12) ?_
  refine rq (out:=Pr.bool true) (bi hc12) ?_
  exact⟨true,h,⟨⟨aa,aa,aa,trivial⟩,Pick.refl _⟩⟩
 refine rqg hc12 (out:=ao b3 8) (aq cp) ?_
 refine rqg hc12 (out:=aj ab x1.Kids) (aw (R:=ab) (a:=x1) (R':=ax ab) 0 ty22 ar) ?_
 refine rqg hc12 (out:=Pr.i64 (x1.Kids.length:Int)) (dz rfl Tryz.underlying22) ?_
 refine rqg hc12 (out:=ao b4 8) (aq cp) ?_
 refine rqg hc12 (out:=aj ab x2.Kids) (aw (R:=ab) (a:=x2) (R':=ax ab) 1 ty22 ar) ?_
 refine rqg hc12 (out:=Pr.i64 (x2.Kids.length:Int)) (dz rfl Tryz.underlying22) ?_
 refine rqg hc12 (out:=Pr.bool ((x1.Kids.length:Int) != (x2.Kids.length:Int))) qInt ?_
 refine rq (out:=Pr.bool ((x1.Kids.length:Int) != (x2.Kids.length:Int))) (bu hc12) ?_
 exact⟨(x1.Kids.length:Int) != (x2.Kids.length:Int),h,⟨⟨aa,aa,aa,trivial⟩,Pick.refl _⟩⟩
theorem rec_ref11_Exact_ok :∀n,rec_ref11_Exact_spec (f0 n):=by
 intro n
 induction n with
 |zero=>exact(fun x1 x2 r h=>nomatch (show none=some r from h))
 |succ n ih=>exact(fun x1 x2 r h=>F_ref11_Exact_step (f0 n) ih x1 x2 r h)
theorem ref11_Exact_ok (x1 x2:ApiNode) (r:Bool) (h:ref11_Exact x1 x2=some r):FnP Tryz.prog 9 [(ab).val x1,(ab).val x2] (Pr.bool r):=(rec_ref11_Exact_ok 1048576) x1 x2 r h
theorem ref14_in_ok (x1:List (List UInt8)) (x2:List UInt8) (r:Bool) (h:ref14_in x1 x2=some r):FnP Tryz.prog 28 [aj ak x1,ah x2] (Pr.bool r):=by
 refine ba (n:=22) (rs:=[4]) Tryz.func28 rfl Tryz.ntmps28 ⟨by decide,Tryz.results28⟩ (by decide) (fun s0=> ?_)
 unfold ref14_in at h
 refine W_rs ?_
 refine rq (out:=Pr.bool false) ae ?_
 refine a6 ?_
 refine W_rs ?_
 refine rq (out:=Pr.i64 0) ae ?_
 refine a5 ?_
 obtain⟨z2l,hz2,h⟩:=af h
 obtain⟨n2,hN2⟩:=bo hz2
 clear hz2
 refine c6 0 (fun e C=>ref14_in_k1=some r/\At [] [] e C) ?_ ?_
 ·rintro e C ⟨h,hat1⟩
  refine W_at hat1 ?_
  clear hat1
  unfold ref14_in_k1 at h
  refine W_rs ?_
  refine rq (out:=Pr.bool false) ae ?_
  obtain rfl:=Option.some.inj h
  exact a4 ⟨rfl,aa⟩
 refine dp (fun m e C=>∃(x3:Int),d9 (fun s=>ref14_in_l2 x1 x2 s) m x3=some z2l/\At [(0,aj ak x1),(1,ah x2),(5,Pr.i64 x3)] [] e C) n2 ⟨0,hN2,⟨⟨aa,aa,aa,trivial⟩,Pick.refl _⟩⟩ ?_
 clear hN2
 rintro m e C ⟨x3,hN2,hatl2⟩
 refine W_at hatl2 ?_
 clear hatl2
 obtain⟨m2,w2l,rfl,h2l,hn2,ho2⟩:=bg hN2
 clear hN2
 replace h2l:ref14_in_l2 x1 x2 x3=some w2l:=h2l
 unfold ref14_in_l2 at h2l
 refine a6 ?_
 refine W_rs ?_
 refine rq (out:=Pr.i64 x3) ag ?_
 refine rq (out:=aj ak x1) ag ?_
 refine rq (out:=Pr.i64 (x1.length:Int)) (dz rfl Tryz.underlying25) ?_
 refine rq (out:=Pr.bool (decide (x3<(x1.length:Int)))) qInt ?_
 refine am (b:=decide (x3<(x1.length:Int))) rfl (fun hc5=> ?_) (fun hc5=> ?_)
 ·replace h2l:=iteT hc5 h2l
  refine au ?_
  refine a6 ?_
  refine a5 ?_
  refine a8 (fun e C=>∃(x8:Bool),ref14_in_j3 x3 x8=some w2l/\At [(0,aj ak x1),(1,ah x2),(5,Pr.i64 x3),(21,Pr.bool x8)] [] e C) ?_ ?_
  ·rintro e C ⟨x8,h2l,hat3⟩
   refine W_at hat3 ?_
   clear hat3
   unfold ref14_in_j3 at h2l
   refine am (b:=x8) rfl (fun hc9=> ?_) (fun hc9=> ?_)
   ·replace h2l:=iteT hc9 h2l
    refine W_rs ?_
    refine rq (out:=Pr.bool true) ae ?_
    obtain rfl:=ho2 _ (Option.some.inj h2l).symm
    replace h:some true=some r:=h
    obtain rfl:=Option.some.inj h
    exact a4 ⟨rfl,aa⟩
   replace h2l:=iteF hc9 h2l
   refine au ?_
   refine W_r ?_
   refine rq (out:=Pr.i64 x3) ag ?_
   refine rq (out:=Pr.i64 (w64 (x3+1))) qInt ?_
   refine rq (out:=Pr.i64 (w64 (x3+1))) ae ?_
   exact⟨m2,Nat.lt_succ_self _,w64 (x3+1),hn2 _ (Option.some.inj h2l).symm,⟨⟨aa,aa,aa,trivial⟩,Pick.refl _⟩⟩
  refine W_r ?_
  refine rq (out:=aj ak x1) ag ?_
  refine rq (out:=Pr.i64 x3) ag ?_
  obtain⟨x6,hx6,h2l⟩:=af h2l
  refine rq (out:=bb ak x6) (dl (R:=ak) (l:=x1) Tryz.underlying25 Tryz.sizeOf9 hx6) ?_
  refine rq (out:=ah x6) (cd (R:=ak) (a:=x6) ty9) ?_
  refine rq (out:=ah x2) ag ?_
  refine rq (out:=Pr.bool (x6==x2)) qStr ?_
  refine rq (out:=Pr.bool (x6==x2)) ag ?_
  rcases bv h2l with⟨hc7,h2l⟩|⟨hc7,h2l⟩
  ·refine rqg hc7 (out:=ah x2) ag ?_
   refine rqg hc7 (out:=Pr.bool (!(x2==[]))) qStr ?_
   refine rq (out:=Pr.bool (!(x2==[]))) (bi hc7) ?_
   exact⟨!(x2==[]),h2l,⟨⟨aa,aa,aa,aa,trivial⟩,Pick.refl _⟩⟩
  refine rno (neT hc7) ?_
  refine rno (neT hc7) ?_
  refine rq (out:=Pr.bool false) (bu hc7) ?_
  exact⟨false,h2l,⟨⟨aa,aa,aa,aa,trivial⟩,Pick.refl _⟩⟩
 replace h2l:=iteF hc5 h2l
 refine cy ?_
 obtain rfl:=ho2 _ (Option.some.inj h2l).symm
 exact⟨h,⟨trivial,Pick.refl _⟩⟩
def rec_ref14_Erase_spec (R:dh):Prop:=(∀(x1:ApiNode) (x2:List (List UInt8)) (r:ApiNode),R x1 x2=some r->FnP Tryz.prog 11 [(ab).val x1,aj ak x2] ((ab).val r))
theorem F_ref14_Erase_step (R:dh) (ih:rec_ref14_Erase_spec R) (x1:ApiNode) (x2:List (List UInt8)) (r:ApiNode) (h:F_ref14_Erase R x1 x2=some r):FnP Tryz.prog 11 [(ab).val x1,aj ak x2] ((ab).val r):=by
 refine ep (n:=46) (rs:=[.cell 4 24]) Tryz.func11 rfl Tryz.ntmps11 Tryz.results11 (by decide) (fun s0=> ?_)
 unfold F_ref14_Erase at h
 refine W_rs ?_
 refine rBox (R:=ab) (a:=x1) rfl (fun b3=> ?_)
 refine cb (R:=ab) (z:=(ApiNode.mk 0 [] [] 0 0 0 0 0 [])) Tryz.zeroValue24 (fun _=>(by rw[al];exact⟨_,⟨_,_,rfl,rfl,⟨_,_,rfl,rfl,⟨_,_,rfl,rfl,⟨_,_,rfl,rfl,⟨_,_,rfl,rfl,⟨_,_,rfl,rfl,⟨_,_,rfl,rfl,⟨_,_,rfl,rfl,⟨_,_,rfl,⟨_,rfl,none,0,rfl,⟨Nat.le_refl _,fun _=>rfl⟩,.inl rfl⟩,rfl⟩⟩⟩⟩⟩⟩⟩⟩⟩,rfl⟩)) (fun b4=> ?_)
 refine W_rs ?_
 refine rq (out:=Pr.is (.slice none 0 0)) ae ?_
 refine a6 ?_
 refine W_rs ?_
 refine rq (out:=Pr.i64 0) ae ?_
 refine a5 ?_
 obtain⟨z5l,hz5,h⟩:=af h
 obtain⟨n5,hN5⟩:=bo hz5
 clear hz5
 refine c6 0 (fun e C=>∃(x7:List ApiNode),∃(v5:Value),ref14_Erase_k4 R x2 x1 x7=some r/\At [(1,aj ak x2),(2,ao b3 0),(4,ao b4 0),(5,Pr.is v5)] [Own.box b3 ab x1,Own.box b4 ab (ApiNode.mk 0 [] [] 0 0 0 0 0 []),Own.vec v5 ab x7 24] e C) ?_ ?_
 ·rintro e C ⟨x7,v5,h,hat4⟩
  refine W_at hat4 ?_
  clear hat4
  unfold ref14_Erase_k4 at h
  refine W_rs ?_
  refine rq (out:=Pr.is v5) ag ?_
  refine rq (out:=ao b3 8) (aq cp) ?_
  refine rRel 2 [5,26] ?_ rfl ⟨rfl,rfl,trivial⟩
  refine az (R:=ab) (R':=ax ab) (a:=x1) (y:=x7) 0 Tryz.sizeOf22 updApiNode_Kids ?_
  refine W_rs ?_
  refine rq (out:=aj ak x2) ag ?_
  refine rq (out:=ao b3 1) (aq eb) ?_
  refine rq (out:=ah (({x1 with Kids:=x7}).Text)) (aw (R:=ab) (a:={x1 with Kids:=x7}) (R':=ak) 0 ty9 bn) ?_
  obtain⟨x16,hx16,h⟩:=af h
  refine rq (out:=Pr.bool x16) (av (ref14_in_ok x2 (({x1 with Kids:=x7}).Text) _ hx16)) ?_
  refine rq (out:=Pr.bool x16) ae ?_
  refine a8 (fun e C=>∃(x20:ApiNode),jq R x2 x20=some r/\At [(1,aj ak x2),(2,ao b3 0),(4,ao b4 0)] [Own.box b3 ab x20,Own.box b4 ab (ApiNode.mk 0 [] [] 0 0 0 0 0 [])] e C) ?_ ?_
  ·rintro e C ⟨x20,h,hat2⟩
   refine W_at hat2 ?_
   clear hat2
   unfold jq at h
   refine W_rs ?_
   refine rq (out:=aj ak x2) ag ?_
   refine rq (out:=ao b3 2) (aq kf) ?_
   refine rq (out:=ah x20.Type_) (aw (R:=ab) (a:=x20) (R':=ak) 0 ty9 dk) ?_
   obtain⟨x21,hx21,h⟩:=af h
   refine rq (out:=Pr.bool x21) (av (ref14_in_ok x2 x20.Type_ _ hx21)) ?_
   refine rq (out:=Pr.bool x21) ae ?_
   refine a8 (fun e C=>∃(x23:ApiNode),k1 R x23=some r/\At [(2,ao b3 0),(4,ao b4 0)] [Own.box b3 ab x23,Own.box b4 ab (ApiNode.mk 0 [] [] 0 0 0 0 0 [])] e C) ?_ ?_
   ·rintro e C ⟨x23,h,hat1⟩
    refine W_at hat1 ?_
    clear hat1
    unfold k1 at h
    refine W_rs ?_
    refine rq (out:=(ab).val x23) (aw (R:=ab) (a:=x23) (R':=ab) 0 ty24 (Sub.refl _)) ?_
    refine az (R:=ab) (R':=ab) (a:=(ApiNode.mk 0 [] [] 0 0 0 0 0 [])) (y:=x23) 1 Tryz.sizeOf24 (Upd.refl _) ?_
    obtain rfl:=Option.some.inj h
    exact a4 ⟨rfl,[(ab).val x23],⟨yBox 1 ty24 aa,trivial⟩,aa⟩
   refine W_rs ?_
   refine rq (out:=Pr.bool x21) ag ?_
   refine am (b:=x21) rfl (fun hc22=> ?_) (fun hc22=> ?_)
   ·replace h:=iteT hc22 h
    refine W_r ?_
    refine rq (out:=ao b3 2) (aq kf) ?_
    refine az (R:=ab) (R':=ak) (a:=x20) (y:=([95]:List UInt8)) 0 Tryz.sizeOf9 updApiNode_Type ?_
    exact⟨{x20 with Type_:=([95]:List UInt8)},h,⟨⟨aa,aa,trivial⟩,Pick.refl _⟩⟩
   replace h:=iteF hc22 h
   refine au ?_
   exact⟨x20,h,⟨⟨aa,aa,trivial⟩,Pick.refl _⟩⟩
  refine a8 (fun e C=>∃(x18:Bool),kz R x2 x1 x7 x18=some r/\At [(1,aj ak x2),(2,ao b3 0),(4,ao b4 0),(37,Pr.bool x18)] [Own.box b3 ab ({x1 with Kids:=x7}),Own.box b4 ab (ApiNode.mk 0 [] [] 0 0 0 0 0 [])] e C) ?_ ?_
  ·rintro e C ⟨x18,h,hat3⟩
   refine W_at hat3 ?_
   clear hat3
   unfold kz at h
   refine am (b:=x18) rfl (fun hc19=> ?_) (fun hc19=> ?_)
   ·replace h:=iteT hc19 h
    refine W_r ?_
    refine rq (out:=ao b3 1) (aq eb) ?_
    refine az (R:=ab) (R':=ak) (a:={x1 with Kids:=x7}) (y:=([95]:List UInt8)) 0 Tryz.sizeOf9 gu ?_
    exact⟨{{x1 with Kids:=x7} with Text:=([95]:List UInt8)},h,⟨⟨aa,aa,aa,trivial⟩,Pick.refl _⟩⟩
   replace h:=iteF hc19 h
   refine au ?_
   exact⟨{x1 with Kids:=x7},h,⟨⟨aa,aa,aa,trivial⟩,Pick.refl _⟩⟩
  refine W_r ?_
  refine rq (out:=Pr.bool x16) ag ?_
  refine rq (out:=Pr.bool x16) ag ?_
  rcases bv h with⟨hc17,h⟩|⟨hc17,h⟩
  ·refine rqg hc17 (out:=ao b3 0) (aq ff) ?_
   refine rqg hc17 (out:=Pr.i64 (({x1 with Kids:=x7}).Kind)) (aw (R:=ab) (a:={x1 with Kids:=x7}) (R':=Rp.int .i64) 0 ty3 bp) ?_
   refine rqg hc17 (out:=Pr.bool ((({x1 with Kids:=x7}).Kind) != 24)) qInt ?_
   refine rq (out:=Pr.bool ((({x1 with Kids:=x7}).Kind) != 24)) (bi hc17) ?_
   exact⟨(({x1 with Kids:=x7}).Kind) != 24,h,⟨⟨aa,aa,aa,aa,trivial⟩,Pick.refl _⟩⟩
  refine rno (neT hc17) ?_
  refine rno (neT hc17) ?_
  refine rno (neT hc17) ?_
  refine rq (out:=Pr.bool false) (bu hc17) ?_
  exact⟨false,h,⟨⟨aa,aa,aa,aa,trivial⟩,Pick.refl _⟩⟩
 refine W_nil [5] ab 24 (fun v24=> ?_) ⟨rfl,trivial⟩
 refine dp (fun m e C=>∃(x6:Int),∃(x7:List ApiNode),∃(v5:Value),d9 (fun s=>ga R x1 x2 s.1 s.2) m (x6,x7)=some z5l/\At [(1,aj ak x2),(2,ao b3 0),(4,ao b4 0),(5,Pr.is v5),(6,Pr.i64 x6)] [Own.box b3 ab x1,Own.box b4 ab (ApiNode.mk 0 [] [] 0 0 0 0 0 []),Own.vec v5 ab x7 24] e C) n5 ⟨0,[],v24,hN5,⟨⟨aa,aa,aa,aa,aa,trivial⟩,Pick.refl _⟩⟩ ?_
 clear hN5
 rintro m e C ⟨x6,x7,v5,hN5,hatl5⟩
 refine W_at hatl5 ?_
 clear hatl5
 obtain⟨m5,w5l,rfl,h5l,hn5,ho5⟩:=bg hN5
 clear hN5
 replace h5l:ga R x1 x2 x6 x7=some w5l:=h5l
 unfold ga at h5l
 refine a6 ?_
 refine W_rs ?_
 refine rq (out:=Pr.i64 x6) ag ?_
 refine rq (out:=ao b3 8) (aq cp) ?_
 refine rq (out:=aj ab x1.Kids) (aw (R:=ab) (a:=x1) (R':=ax ab) 0 ty22 ar) ?_
 refine rq (out:=Pr.i64 (x1.Kids.length:Int)) (dz rfl Tryz.underlying22) ?_
 refine rq (out:=Pr.bool (decide (x6<(x1.Kids.length:Int)))) qInt ?_
 refine am (b:=decide (x6<(x1.Kids.length:Int))) rfl (fun hc11=> ?_) (fun hc11=> ?_)
 ·replace h5l:=iteT hc11 h5l
  refine au ?_
  refine a6 ?_
  refine a5 ?_
  refine W_r ?_
  refine rq (out:=Pr.is v5) ag ?_
  refine rq (out:=ao b3 8) (aq cp) ?_
  refine rq (out:=aj ab x1.Kids) (aw (R:=ab) (a:=x1) (R':=ax ab) 0 ty22 ar) ?_
  refine rq (out:=Pr.i64 x6) ag ?_
  obtain⟨x12,hx12,h5l⟩:=af h5l
  refine rq (out:=bb ab x12) (dl (R:=ab) (l:=x1.Kids) Tryz.underlying22 Tryz.sizeOf24 hx12) ?_
  refine rq (out:=(ab).val x12) (cd (R:=ab) (a:=x12) ty24) ?_
  refine rq (out:=aj ak x2) ag ?_
  obtain⟨x13,hx13,h5l⟩:=af h5l
  refine rq (out:=(ab).val x13) (av (ih x12 x2 _ hx13)) ?_
  refine rq (out:=aj ab ([x13]:List ApiNode)) (cm (R:=ab) (a:=x13) el22 (Nat.le_of_ble_eq_true rfl)) ?_
  obtain⟨x14,hx14,h5l⟩:=af h5l
  refine g7 2 el22 hx14 (fun v15=> ?_)
  refine rq (out:=Pr.is v15) ae ?_
  refine W_r ?_
  refine rq (out:=Pr.i64 x6) ag ?_
  refine rq (out:=Pr.i64 (w64 (x6+1))) qInt ?_
  refine rq (out:=Pr.i64 (w64 (x6+1))) ae ?_
  exact⟨m5,Nat.lt_succ_self _,w64 (x6+1),x14,v15,hn5 _ (Option.some.inj h5l).symm,⟨⟨aa,aa,aa,aa,aa,trivial⟩,Pick.refl _⟩⟩
 replace h5l:=iteF hc11 h5l
 refine cy ?_
 obtain rfl:=ho5 _ (Option.some.inj h5l).symm
 exact⟨x7,v5,h,⟨⟨aa,aa,aa,aa,trivial⟩,Pick.refl _⟩⟩
theorem rec_ref14_Erase_ok :∀n,rec_ref14_Erase_spec (fy n):=by
 intro n
 induction n with
 |zero=>exact(fun x1 x2 r h=>nomatch (show none=some r from h))
 |succ n ih=>exact(fun x1 x2 r h=>F_ref14_Erase_step (fy n) ih x1 x2 r h)
theorem ref14_Erase_ok (x1:ApiNode) (x2:List (List UInt8)) (r:ApiNode) (h:ref14_Erase x1 x2=some r):FnP Tryz.prog 11 [(ab).val x1,aj ak x2] ((ab).val r):=(rec_ref14_Erase_ok 1048576) x1 x2 r h
theorem ref13_Binds_ok (x1:List UInt8) (r:Int) (h:ref13_Binds x1=some r):FnP Tryz.prog 150 [ah x1] (Pr.i64 r):=by
 refine ba (n:=39) (rs:=[2]) Tryz.func150 rfl Tryz.ntmps150 ⟨by decide,Tryz.results150⟩ (by decide) (fun s0=> ?_)
 unfold ref13_Binds at h
 refine W_rs ?_
 refine rq (out:=Pr.i64 0) ae ?_
 refine W_rs ?_
 refine rq (out:=aj ak ([([124,124]:List UInt8)]:List (List UInt8))) (cm (R:=ak) (a:=([124,124]:List UInt8)) el25 (Nat.le_of_ble_eq_true rfl)) ?_
 refine rq (out:=aj ak ([([38,38]:List UInt8)]:List (List UInt8))) (cm (R:=ak) (a:=([38,38]:List UInt8)) el25 (Nat.le_of_ble_eq_true rfl)) ?_
 refine rq (out:=aj ak ([([61,61]:List UInt8),([33,61]:List UInt8)]:List (List UInt8))) (ec (R:=ak) (ls:=([([61,61]:List UInt8),([33,61]:List UInt8)]:List (List UInt8))) el25 (Nat.le_of_ble_eq_true rfl) ⟨rfl,rfl⟩ ⟨rfl,rfl,trivial⟩) ?_
 refine rq (out:=aj ak ([([60]:List UInt8),([60,61]:List UInt8),([62]:List UInt8),([62,61]:List UInt8)]:List (List UInt8))) (ec (R:=ak) (ls:=([([60]:List UInt8),([60,61]:List UInt8),([62]:List UInt8),([62,61]:List UInt8)]:List (List UInt8))) el25 (Nat.le_of_ble_eq_true rfl) ⟨rfl,rfl⟩ ⟨rfl,rfl,rfl,rfl,trivial⟩) ?_
 refine rq (out:=aj ak ([([43]:List UInt8),([45]:List UInt8)]:List (List UInt8))) (ec (R:=ak) (ls:=([([43]:List UInt8),([45]:List UInt8)]:List (List UInt8))) el25 (Nat.le_of_ble_eq_true rfl) ⟨rfl,rfl⟩ ⟨rfl,rfl,trivial⟩) ?_
 refine rq (out:=aj ak ([([42]:List UInt8),([47]:List UInt8),([37]:List UInt8)]:List (List UInt8))) (ec (R:=ak) (ls:=([([42]:List UInt8),([47]:List UInt8),([37]:List UInt8)]:List (List UInt8))) el25 (Nat.le_of_ble_eq_true rfl) ⟨rfl,rfl⟩ ⟨rfl,rfl,rfl,trivial⟩) ?_
 refine rq (out:=aj (ax ak) ([([([124,124]:List UInt8)]:List (List UInt8)),([([38,38]:List UInt8)]:List (List UInt8)),([([61,61]:List UInt8),([33,61]:List UInt8)]:List (List UInt8)),([([60]:List UInt8),([60,61]:List UInt8),([62]:List UInt8),([62,61]:List UInt8)]:List (List UInt8)),([([43]:List UInt8),([45]:List UInt8)]:List (List UInt8)),([([42]:List UInt8),([47]:List UInt8),([37]:List UInt8)]:List (List UInt8))]:List (List (List UInt8)))) (ec (R:=ax ak) (ls:=([([([124,124]:List UInt8)]:List (List UInt8)),([([38,38]:List UInt8)]:List (List UInt8)),([([61,61]:List UInt8),([33,61]:List UInt8)]:List (List UInt8)),([([60]:List UInt8),([60,61]:List UInt8),([62]:List UInt8),([62,61]:List UInt8)]:List (List UInt8)),([([43]:List UInt8),([45]:List UInt8)]:List (List UInt8)),([([42]:List UInt8),([47]:List UInt8),([37]:List UInt8)]:List (List UInt8))]:List (List (List UInt8)))) el69 (Nat.le_of_ble_eq_true rfl) ⟨rfl,rfl⟩ ⟨rfl,rfl,rfl,rfl,rfl,rfl,trivial⟩) ?_
 refine rq (out:=aj (ax ak) ([([([124,124]:List UInt8)]:List (List UInt8)),([([38,38]:List UInt8)]:List (List UInt8)),([([61,61]:List UInt8),([33,61]:List UInt8)]:List (List UInt8)),([([60]:List UInt8),([60,61]:List UInt8),([62]:List UInt8),([62,61]:List UInt8)]:List (List UInt8)),([([43]:List UInt8),([45]:List UInt8)]:List (List UInt8)),([([42]:List UInt8),([47]:List UInt8),([37]:List UInt8)]:List (List UInt8))]:List (List (List UInt8)))) ae ?_
 refine a6 ?_
 refine W_rs ?_
 refine rq (out:=Pr.i64 0) ae ?_
 refine a5 ?_
 obtain⟨z2l,hz2,h⟩:=af h
 obtain⟨n2,hN2⟩:=bo hz2
 clear hz2
 refine c6 0 (fun e C=>ref13_Binds_k1=some r/\At [] [] e C) ?_ ?_
 ·rintro e C ⟨h,hat1⟩
  refine W_at hat1 ?_
  clear hat1
  unfold ref13_Binds_k1 at h
  refine W_rs ?_
  refine rq (out:=Pr.i64 0) ae ?_
  obtain rfl:=Option.some.inj h
  exact a4 ⟨rfl,aa⟩
 refine dp (fun m e C=>∃(x2:Int),d9 (fun s=>ge x1 s) m x2=some z2l/\At [(0,ah x1),(3,aj (ax ak) ([([([124,124]:List UInt8)]:List (List UInt8)),([([38,38]:List UInt8)]:List (List UInt8)),([([61,61]:List UInt8),([33,61]:List UInt8)]:List (List UInt8)),([([60]:List UInt8),([60,61]:List UInt8),([62]:List UInt8),([62,61]:List UInt8)]:List (List UInt8)),([([43]:List UInt8),([45]:List UInt8)]:List (List UInt8)),([([42]:List UInt8),([47]:List UInt8),([37]:List UInt8)]:List (List UInt8))]:List (List (List UInt8)))),(4,Pr.i64 x2)] [] e C) n2 ⟨0,hN2,⟨⟨aa,aa,aa,trivial⟩,Pick.refl _⟩⟩ ?_
 clear hN2
 rintro m e C ⟨x2,hN2,hatl2⟩
 refine W_at hatl2 ?_
 clear hatl2
 obtain⟨m2,w2l,rfl,h2l,hn2,ho2⟩:=bg hN2
 clear hN2
 replace h2l:ge x1 x2=some w2l:=h2l
 unfold ge at h2l
 refine a6 ?_
 refine W_rs ?_
 refine rq (out:=Pr.i64 x2) ag ?_
 refine rq (out:=aj (ax ak) ([([([124,124]:List UInt8)]:List (List UInt8)),([([38,38]:List UInt8)]:List (List UInt8)),([([61,61]:List UInt8),([33,61]:List UInt8)]:List (List UInt8)),([([60]:List UInt8),([60,61]:List UInt8),([62]:List UInt8),([62,61]:List UInt8)]:List (List UInt8)),([([43]:List UInt8),([45]:List UInt8)]:List (List UInt8)),([([42]:List UInt8),([47]:List UInt8),([37]:List UInt8)]:List (List UInt8))]:List (List (List UInt8)))) ag ?_
 refine rq (out:=Pr.i64 (([([([124,124]:List UInt8)]:List (List UInt8)),([([38,38]:List UInt8)]:List (List UInt8)),([([61,61]:List UInt8),([33,61]:List UInt8)]:List (List UInt8)),([([60]:List UInt8),([60,61]:List UInt8),([62]:List UInt8),([62,61]:List UInt8)]:List (List UInt8)),([([43]:List UInt8),([45]:List UInt8)]:List (List UInt8)),([([42]:List UInt8),([47]:List UInt8),([37]:List UInt8)]:List (List UInt8))]:List (List (List UInt8))).length:Int)) (dz rfl Tryz.underlying69) ?_
 refine rq (out:=Pr.bool (decide (x2<(([([([124,124]:List UInt8)]:List (List UInt8)),([([38,38]:List UInt8)]:List (List UInt8)),([([61,61]:List UInt8),([33,61]:List UInt8)]:List (List UInt8)),([([60]:List UInt8),([60,61]:List UInt8),([62]:List UInt8),([62,61]:List UInt8)]:List (List UInt8)),([([43]:List UInt8),([45]:List UInt8)]:List (List UInt8)),([([42]:List UInt8),([47]:List UInt8),([37]:List UInt8)]:List (List UInt8))]:List (List (List UInt8))).length:Int)))) qInt ?_
 refine am (b:=decide (x2<(([([([124,124]:List UInt8)]:List (List UInt8)),([([38,38]:List UInt8)]:List (List UInt8)),([([61,61]:List UInt8),([33,61]:List UInt8)]:List (List UInt8)),([([60]:List UInt8),([60,61]:List UInt8),([62]:List UInt8),([62,61]:List UInt8)]:List (List UInt8)),([([43]:List UInt8),([45]:List UInt8)]:List (List UInt8)),([([42]:List UInt8),([47]:List UInt8),([37]:List UInt8)]:List (List UInt8))]:List (List (List UInt8))).length:Int))) rfl (fun hc4=> ?_) (fun hc4=> ?_)
 ·replace h2l:=iteT hc4 h2l
  refine au ?_
  refine a6 ?_
  refine a5 ?_
  refine W_rs ?_
  refine rq (out:=Pr.i64 0) ae ?_
  refine a5 ?_
  obtain⟨z4l,hz4,h2l⟩:=af h2l
  obtain⟨n4,hN4⟩:=bo hz4
  clear hz4
  refine c6 2 (fun e C=>ref13_Binds_k3 x2=some w2l/\At [(0,ah x1),(3,aj (ax ak) ([([([124,124]:List UInt8)]:List (List UInt8)),([([38,38]:List UInt8)]:List (List UInt8)),([([61,61]:List UInt8),([33,61]:List UInt8)]:List (List UInt8)),([([60]:List UInt8),([60,61]:List UInt8),([62]:List UInt8),([62,61]:List UInt8)]:List (List UInt8)),([([43]:List UInt8),([45]:List UInt8)]:List (List UInt8)),([([42]:List UInt8),([47]:List UInt8),([37]:List UInt8)]:List (List UInt8))]:List (List (List UInt8)))),(4,Pr.i64 x2)] [] e C) ?_ ?_
  ·rintro e C ⟨h2l,hat3⟩
   refine W_at hat3 ?_
   clear hat3
   unfold ref13_Binds_k3 at h2l
   refine W_r ?_
   refine rq (out:=Pr.i64 x2) ag ?_
   refine rq (out:=Pr.i64 (w64 (x2+1))) qInt ?_
   refine rq (out:=Pr.i64 (w64 (x2+1))) ae ?_
   exact⟨m2,Nat.lt_succ_self _,w64 (x2+1),hn2 _ (Option.some.inj h2l).symm,⟨⟨aa,aa,aa,trivial⟩,Pick.refl _⟩⟩
  refine dp (fun m e C=>∃(x5:Int),d9 (fun s=>gc x2 x1 s) m x5=some z4l/\At [(0,ah x1),(3,aj (ax ak) ([([([124,124]:List UInt8)]:List (List UInt8)),([([38,38]:List UInt8)]:List (List UInt8)),([([61,61]:List UInt8),([33,61]:List UInt8)]:List (List UInt8)),([([60]:List UInt8),([60,61]:List UInt8),([62]:List UInt8),([62,61]:List UInt8)]:List (List UInt8)),([([43]:List UInt8),([45]:List UInt8)]:List (List UInt8)),([([42]:List UInt8),([47]:List UInt8),([37]:List UInt8)]:List (List UInt8))]:List (List (List UInt8)))),(4,Pr.i64 x2),(5,Pr.i64 x5)] [] e C) n4 ⟨0,hN4,⟨⟨aa,aa,aa,aa,trivial⟩,Pick.refl _⟩⟩ ?_
  clear hN4
  rintro m e C ⟨x5,hN4,hatl4⟩
  refine W_at hatl4 ?_
  clear hatl4
  obtain⟨m4,w4l,rfl,h4l,hn4,ho4⟩:=bg hN4
  clear hN4
  replace h4l:gc x2 x1 x5=some w4l:=h4l
  unfold gc at h4l
  refine a6 ?_
  refine W_rs ?_
  refine rq (out:=Pr.i64 x5) ag ?_
  refine rq (out:=aj (ax ak) ([([([124,124]:List UInt8)]:List (List UInt8)),([([38,38]:List UInt8)]:List (List UInt8)),([([61,61]:List UInt8),([33,61]:List UInt8)]:List (List UInt8)),([([60]:List UInt8),([60,61]:List UInt8),([62]:List UInt8),([62,61]:List UInt8)]:List (List UInt8)),([([43]:List UInt8),([45]:List UInt8)]:List (List UInt8)),([([42]:List UInt8),([47]:List UInt8),([37]:List UInt8)]:List (List UInt8))]:List (List (List UInt8)))) ag ?_
  refine rq (out:=Pr.i64 x2) ag ?_
  obtain⟨x7,hx7,h4l⟩:=af h4l
  refine rq (out:=bb (ax ak) x7) (dl (R:=ax ak) (l:=([([([124,124]:List UInt8)]:List (List UInt8)),([([38,38]:List UInt8)]:List (List UInt8)),([([61,61]:List UInt8),([33,61]:List UInt8)]:List (List UInt8)),([([60]:List UInt8),([60,61]:List UInt8),([62]:List UInt8),([62,61]:List UInt8)]:List (List UInt8)),([([43]:List UInt8),([45]:List UInt8)]:List (List UInt8)),([([42]:List UInt8),([47]:List UInt8),([37]:List UInt8)]:List (List UInt8))]:List (List (List UInt8)))) Tryz.underlying69 Tryz.sizeOf25 hx7) ?_
  refine rq (out:=aj ak x7) (cd (R:=ax ak) (a:=x7) ty25) ?_
  refine rq (out:=Pr.i64 (x7.length:Int)) (dz rfl Tryz.underlying25) ?_
  refine rq (out:=Pr.bool (decide (x5<(x7.length:Int)))) qInt ?_
  refine am (b:=decide (x5<(x7.length:Int))) rfl (fun hc8=> ?_) (fun hc8=> ?_)
  ·replace h4l:=iteT hc8 h4l
   refine au ?_
   refine a6 ?_
   refine a5 ?_
   refine W_rs ?_
   refine rq (out:=aj (ax ak) ([([([124,124]:List UInt8)]:List (List UInt8)),([([38,38]:List UInt8)]:List (List UInt8)),([([61,61]:List UInt8),([33,61]:List UInt8)]:List (List UInt8)),([([60]:List UInt8),([60,61]:List UInt8),([62]:List UInt8),([62,61]:List UInt8)]:List (List UInt8)),([([43]:List UInt8),([45]:List UInt8)]:List (List UInt8)),([([42]:List UInt8),([47]:List UInt8),([37]:List UInt8)]:List (List UInt8))]:List (List (List UInt8)))) ag ?_
   refine rq (out:=Pr.i64 x2) ag ?_
   obtain⟨x9,hx9,h4l⟩:=af h4l
   refine rq (out:=bb (ax ak) x9) (dl (R:=ax ak) (l:=([([([124,124]:List UInt8)]:List (List UInt8)),([([38,38]:List UInt8)]:List (List UInt8)),([([61,61]:List UInt8),([33,61]:List UInt8)]:List (List UInt8)),([([60]:List UInt8),([60,61]:List UInt8),([62]:List UInt8),([62,61]:List UInt8)]:List (List UInt8)),([([43]:List UInt8),([45]:List UInt8)]:List (List UInt8)),([([42]:List UInt8),([47]:List UInt8),([37]:List UInt8)]:List (List UInt8))]:List (List (List UInt8)))) Tryz.underlying69 Tryz.sizeOf25 hx9) ?_
   refine rq (out:=aj ak x9) (cd (R:=ax ak) (a:=x9) ty25) ?_
   refine rq (out:=Pr.i64 x5) ag ?_
   obtain⟨x10,hx10,h4l⟩:=af h4l
   refine rq (out:=bb ak x10) (dl (R:=ak) (l:=x9) Tryz.underlying25 Tryz.sizeOf9 hx10) ?_
   refine rq (out:=ah x10) (cd (R:=ak) (a:=x10) ty9) ?_
   refine rq (out:=ah x1) ag ?_
   refine rq (out:=Pr.bool (x10==x1)) qStr ?_
   refine am (b:=x10==x1) rfl (fun hc11=> ?_) (fun hc11=> ?_)
   ·replace h4l:=iteT hc11 h4l
    refine W_rs ?_
    refine rq (out:=Pr.i64 x2) ag ?_
    refine rq (out:=Pr.i64 (w64 (x2+1))) qInt ?_
    refine rq (out:=Pr.i64 (w64 (x2+1))) ae ?_
    obtain rfl:=ho4 _ (Option.some.inj h4l).symm
    replace h2l:some (.inr (.done (w64 (x2+1))))=some w2l:=h2l
    obtain rfl:=ho2 _ (Option.some.inj h2l).symm
    replace h:some (w64 (x2+1))=some r:=h
    obtain rfl:=Option.some.inj h
    exact a4 ⟨rfl,aa⟩
   replace h4l:=iteF hc11 h4l
   refine au ?_
   refine W_r ?_
   refine rq (out:=Pr.i64 x5) ag ?_
   refine rq (out:=Pr.i64 (w64 (x5+1))) qInt ?_
   refine rq (out:=Pr.i64 (w64 (x5+1))) ae ?_
   exact⟨m4,Nat.lt_succ_self _,w64 (x5+1),hn4 _ (Option.some.inj h4l).symm,⟨⟨aa,aa,aa,aa,trivial⟩,Pick.refl _⟩⟩
  replace h4l:=iteF hc8 h4l
  refine cy ?_
  obtain rfl:=ho4 _ (Option.some.inj h4l).symm
  exact⟨h2l,⟨⟨aa,aa,aa,trivial⟩,Pick.refl _⟩⟩
 replace h2l:=iteF hc4 h2l
 refine cy ?_
 obtain rfl:=ho2 _ (Option.some.inj h2l).symm
 exact⟨h,⟨trivial,Pick.refl _⟩⟩
theorem ref13_binding_ok (x1:ApiNode) (r:Int) (h:ref13_binding x1=some r):FnP Tryz.prog 141 [(ab).val x1] (Pr.i64 r):=by
 refine ba (n:=13) (rs:=[2]) Tryz.func141 rfl Tryz.ntmps141 ⟨by decide,Tryz.results141⟩ (by decide) (fun s0=> ?_)
 unfold ref13_binding at h
 refine W_rs ?_
 refine rBox (R:=ab) (a:=x1) rfl (fun b2=> ?_)
 refine rq (out:=Pr.i64 0) ae ?_
 refine a6 ?_
 refine W_rs ?_
 refine rq (out:=ao b2 0) (aq ff) ?_
 refine rq (out:=Pr.i64 x1.Kind) (aw (R:=ab) (a:=x1) (R':=Rp.int .i64) 0 ty3 bp) ?_
 refine a5 ?_
 refine W_rs ?_
 refine rq (out:=Pr.bool (x1.Kind==24)) qInt ?_
 refine rq (out:=Pr.bool (x1.Kind==24)) ae ?_
 refine am (b:=x1.Kind==24) rfl (fun hc3=> ?_) (fun hc3=> ?_)
 ·replace h:=iteT hc3 h
  refine W_rs ?_
  refine rq (out:=ao b2 1) (aq eb) ?_
  refine rq (out:=ah x1.Text) (aw (R:=ab) (a:=x1) (R':=ak) 0 ty9 bn) ?_
  obtain⟨x4,hx4,h⟩:=af h
  refine rq (out:=Pr.i64 x4) (av (ref13_Binds_ok x1.Text _ hx4)) ?_
  refine rq (out:=Pr.i64 x4) ae ?_
  obtain rfl:=Option.some.inj h
  exact a4 ⟨rfl,aa⟩
 replace h:=iteF hc3 h
 refine a8 (fun e C=>∃(x6:Bool),ji x6=some r/\At [(10,Pr.bool x6)] [Own.box b2 ab x1] e C) ?_ ?_
 ·rintro e C ⟨x6,h,hat1⟩
  refine W_at hat1 ?_
  clear hat1
  unfold ji at h
  refine am (b:=x6) rfl (fun hc7=> ?_) (fun hc7=> ?_)
  ·replace h:=iteT hc7 h
   refine W_rs ?_
   refine rq (out:=Pr.i64 7) ae ?_
   obtain rfl:=Option.some.inj h
   exact a4 ⟨rfl,aa⟩
  replace h:=iteF hc7 h
  refine au ?_
  refine W_rs ?_
  refine rq (out:=Pr.i64 8) ae ?_
  obtain rfl:=Option.some.inj h
  exact a4 ⟨rfl,aa⟩
 refine W_rs ?_
 refine rq (out:=Pr.bool (x1.Kind==22)) qInt ?_
 refine rq (out:=Pr.bool (x1.Kind==22)) ae ?_
 refine am (b:=x1.Kind==22) rfl (fun hc5=> ?_) (fun hc5=> ?_)
 ·replace h:=iteT hc5 h
  refine au ?_
  exact⟨x1.Kind==22,h,⟨⟨aa,trivial⟩,Pick.refl _⟩⟩
 replace h:=iteF hc5 h
 refine W_r ?_
 refine rq (out:=Pr.bool (x1.Kind==23)) qInt ?_
 refine rq (out:=Pr.bool (x1.Kind==23)) ae ?_
 exact⟨x1.Kind==23,h,⟨⟨aa,trivial⟩,Pick.refl _⟩⟩
def rec_ref13_digits_spec (R:dt):Prop:=(∀(x1:Int) (r:(List UInt8)),R x1=some r->FnP Tryz.prog 148 [Pr.i64 x1] (ah r))
theorem F_ref13_digits_step (R:dt) (ih:rec_ref13_digits_spec R) (x1:Int) (r:(List UInt8)) (h:gl R x1=some r):FnP Tryz.prog 148 [Pr.i64 x1] (ah r):=by
 refine ba (n:=25) (rs:=[2]) Tryz.func148 rfl Tryz.ntmps148 ⟨by decide,Tryz.results148⟩ (by decide) (fun s0=> ?_)
 unfold gl at h
 refine W_rs ?_
 refine rq (out:=ah []) ae ?_
 refine a6 ?_
 refine W_rs ?_
 refine rq (out:=Pr.i64 x1) ag ?_
 refine rq (out:=Pr.bool (decide (x1<0))) qInt ?_
 refine am (b:=decide (x1<0)) rfl (fun hc2=> ?_) (fun hc2=> ?_)
 ·replace h:=iteT hc2 h
  refine a6 ?_
  refine W_rs ?_
  refine rq (out:=Pr.i64 x1) ag ?_
  refine rq (out:=Pr.bool (x1==(-9223372036854775808))) qInt ?_
  refine am (b:=x1==(-9223372036854775808)) rfl (fun hc3=> ?_) (fun hc3=> ?_)
  ·replace h:=iteT hc3 h
   refine W_rs ?_
   refine rq (out:=ah ([45,57,50,50,51,51,55,50,48,51,54,56,53,52,55,55,53,56,48,56]:List UInt8)) ae ?_
   obtain rfl:=Option.some.inj h
   exact a4 ⟨rfl,aa⟩
  replace h:=iteF hc3 h
  refine au ?_
  refine W_rs ?_
  refine rq (out:=Pr.i64 x1) ag ?_
  refine rq (out:=Pr.i64 (w64 (-x1))) qNeg ?_
  obtain⟨x4,hx4,h⟩:=af h
  refine rq (out:=ah x4) (av (ih (w64 (-x1)) _ hx4)) ?_
  obtain⟨x5,hx5,h⟩:=af h
  refine rq (out:=ah x5) (cf hx5) ?_
  refine rq (out:=ah x5) ae ?_
  obtain rfl:=Option.some.inj h
  exact a4 ⟨rfl,aa⟩
 replace h:=iteF hc2 h
 refine au ?_
 refine W_rs ?_
 refine rq (out:=ah []) ae ?_
 refine a5 ?_
 obtain⟨n1,hN1⟩:=bo h
 refine dp (fun m e C=>∃(x6:Int),∃(x7:List UInt8),d9 (fun s=>gv R s.1 s.2) m (x6,x7)=some r/\At [(0,Pr.i64 x6),(3,ah x7)] [] e C) n1 ⟨x1,[],hN1,⟨⟨aa,aa,trivial⟩,Pick.refl _⟩⟩ ?_
 clear hN1
 rintro m e C ⟨x6,x7,hN1,hatl1⟩
 refine W_at hatl1 ?_
 clear hatl1
 obtain⟨m1,w1l,rfl,h1l,hn1,ho1⟩:=bg hN1
 clear hN1
 replace h1l:gv R x6 x7=some w1l:=h1l
 unfold gv at h1l
 refine a5 ?_
 refine W_rs ?_
 refine rq (out:=Pr.i64 x6) ag ?_
 refine rq (out:=Pr.i64 (Int.tmod x6 10)) (qRem (by decide)) ?_
 refine rq (out:=Pr.i64 (w64 (48+(Int.tmod x6 10)))) qInt ?_
 refine rq (out:=Pr.u8 (IntKind.wrap .u8 (w64 (48+(Int.tmod x6 10))))) (qConv Tryz.underlying2 Tryz.underlying5) ?_
 refine rq (out:=aj (Rp.int .u8) ([IntKind.wrap .u8 (w64 (48+(Int.tmod x6 10)))]:List Int)) (cm (R:=Rp.int .u8) (a:=IntKind.wrap .u8 (w64 (48+(Int.tmod x6 10)))) el107 (Nat.le_of_ble_eq_true rfl)) ?_
 refine rq (out:=ah (strOf ([IntKind.wrap .u8 (w64 (48+(Int.tmod x6 10)))]:List Int))) (qBytesStr (l:=([IntKind.wrap .u8 (w64 (48+(Int.tmod x6 10)))]:List Int)) Tryz.underlying107 Tryz.underlying9 Tryz.underlying5) ?_
 refine rq (out:=ah x7) ag ?_
 obtain⟨x10,hx10,h1l⟩:=af h1l
 refine rq (out:=ah x10) (cf hx10) ?_
 refine rq (out:=ah x10) ae ?_
 refine W_rs ?_
 refine rq (out:=Pr.i64 x6) ag ?_
 refine rq (out:=Pr.i64 (w64 (Int.tdiv x6 10))) (qDiv (by decide)) ?_
 refine rq (out:=Pr.i64 (w64 (Int.tdiv x6 10))) ae ?_
 refine W_rs ?_
 refine rq (out:=Pr.i64 (w64 (Int.tdiv x6 10))) ag ?_
 refine rq (out:=Pr.bool ((w64 (Int.tdiv x6 10))==0)) qInt ?_
 refine am (b:=(w64 (Int.tdiv x6 10))==0) rfl (fun hc11=> ?_) (fun hc11=> ?_)
 ·replace h1l:=iteT hc11 h1l
  refine W_rs ?_
  refine rq (out:=ah x10) ag ?_
  refine rq (out:=ah x10) ae ?_
  have h:some x10=some r:=congrArg some (ho1 _ (Option.some.inj h1l).symm)
  obtain rfl:=Option.some.inj h
  exact a4 ⟨rfl,aa⟩
 replace h1l:=iteF hc11 h1l
 refine au ?_
 exact⟨m1,Nat.lt_succ_self _,w64 (Int.tdiv x6 10),x10,hn1 _ (Option.some.inj h1l).symm,⟨⟨aa,aa,trivial⟩,Pick.refl _⟩⟩
theorem rec_ref13_digits_ok :∀n,rec_ref13_digits_spec (eh n):=by
 intro n
 induction n with
 |zero=>exact(fun x1 r h=>nomatch (show none=some r from h))
 |succ n ih=>exact(fun x1 r h=>F_ref13_digits_step (eh n) ih x1 r h)
theorem ref13_digits_ok (x1:Int) (r:(List UInt8)) (h:ref13_digits x1=some r):FnP Tryz.prog 148 [Pr.i64 x1] (ah r):=(rec_ref13_digits_ok 1048576) x1 r h
def kc (R:cn):Prop:=(∀(x1:ApiNode) (x2:Int) (x3:Int) (r:(List UInt8)),R.1 x1 x2 x3=some r->FnP Tryz.prog 130 [(ab).val x1,Pr.i64 x2,Pr.i64 x3] (ah r))/\(∀(x1:ApiNode) (r:(List UInt8)),R.2.1 x1=some r->FnP Tryz.prog 140 [(ab).val x1] (ah r))/\(∀(x1:ApiNode) (x2:Int) (r:(List UInt8)),R.2.2 x1 x2=some r->FnP Tryz.prog 149 [(ab).val x1,Pr.i64 x2] (ah r))
theorem F_ref13_kid_step (R:cn) (ih:kc R) (x1:ApiNode) (x2 x3:Int) (r:(List UInt8)) (h:lh R x1 x2 x3=some r):FnP Tryz.prog 130 [(ab).val x1,Pr.i64 x2,Pr.i64 x3] (ah r):=by
 refine ba (n:=31) (rs:=[6]) Tryz.func130 rfl Tryz.ntmps130 ⟨by decide,Tryz.results130⟩ (by decide) (fun s0=> ?_)
 unfold lh at h
 refine W_rs ?_
 refine rBox (R:=ab) (a:=x1) rfl (fun b4=> ?_)
 refine rq (out:=ah []) ae ?_
 refine a6 ?_
 refine W_rs ?_
 refine rq (out:=Pr.i64 x2) ag ?_
 refine rq (out:=ao b4 8) (aq cp) ?_
 refine rq (out:=aj ab x1.Kids) (aw (R:=ab) (a:=x1) (R':=ax ab) 0 ty22 ar) ?_
 refine rq (out:=Pr.i64 (x1.Kids.length:Int)) (dz rfl Tryz.underlying22) ?_
 refine rq (out:=Pr.bool (decide (x2≥(x1.Kids.length:Int)))) qInt ?_
 refine am (b:=decide (x2≥(x1.Kids.length:Int))) rfl (fun hc5=> ?_) (fun hc5=> ?_)
 ·replace h:=iteT hc5 h
  refine W_rs ?_
  refine rq (out:=ah []) ae ?_
  obtain rfl:=Option.some.inj h
  exact a4 ⟨rfl,aa⟩
 replace h:=iteF hc5 h
 refine au ?_
 refine W_rs ?_
 refine rq (out:=ao b4 8) (aq cp) ?_
 refine rq (out:=aj ab x1.Kids) (aw (R:=ab) (a:=x1) (R':=ax ab) 0 ty22 ar) ?_
 refine rq (out:=Pr.i64 x2) ag ?_
 obtain⟨x6,hx6,h⟩:=af h
 refine rq (out:=bb ab x6) (dl (R:=ab) (l:=x1.Kids) Tryz.underlying22 Tryz.sizeOf24 hx6) ?_
 refine rq (out:=(ab).val x6) (cd (R:=ab) (a:=x6) ty24) ?_
 obtain⟨x7,hx7,h⟩:=af h
 refine rq (out:=ah x7) (av (ih.2.1 x6 _ hx7)) ?_
 refine rq (out:=ah x7) ae ?_
 refine a6 ?_
 refine W_rs ?_
 refine rq (out:=ao b4 8) (aq cp) ?_
 refine rq (out:=aj ab x1.Kids) (aw (R:=ab) (a:=x1) (R':=ax ab) 0 ty22 ar) ?_
 refine rq (out:=Pr.i64 x2) ag ?_
 obtain⟨x8,hx8,h⟩:=af h
 refine rq (out:=bb ab x8) (dl (R:=ab) (l:=x1.Kids) Tryz.underlying22 Tryz.sizeOf24 hx8) ?_
 refine rq (out:=(ab).val x8) (cd (R:=ab) (a:=x8) ty24) ?_
 obtain⟨x9,hx9,h⟩:=af h
 refine rq (out:=Pr.i64 x9) (av (ref13_binding_ok x8 _ hx9)) ?_
 refine rq (out:=Pr.i64 x3) ag ?_
 refine rq (out:=Pr.bool (decide (x9<x3))) qInt ?_
 refine am (b:=decide (x9<x3)) rfl (fun hc10=> ?_) (fun hc10=> ?_)
 ·replace h:=iteT hc10 h
  refine W_rs ?_
  refine rq (out:=ah x7) ag ?_
  obtain⟨x11,hx11,h⟩:=af h
  refine rq (out:=ah x11) (cf hx11) ?_
  obtain⟨x12,hx12,h⟩:=af h
  refine rq (out:=ah x12) (cf hx12) ?_
  refine rq (out:=ah x12) ae ?_
  obtain rfl:=Option.some.inj h
  exact a4 ⟨rfl,aa⟩
 replace h:=iteF hc10 h
 refine au ?_
 refine W_rs ?_
 refine rq (out:=ah x7) ag ?_
 refine rq (out:=ah x7) ae ?_
 obtain rfl:=Option.some.inj h
 exact a4 ⟨rfl,aa⟩
theorem F_ref13_Expression_step (R:cn) (ih:kc R) (x1:ApiNode) (r:(List UInt8)) (h:br R x1=some r):FnP Tryz.prog 140 [(ab).val x1] (ah r):=by
 refine ba (n:=119) (rs:=[2]) Tryz.func140 rfl Tryz.ntmps140 ⟨by decide,Tryz.results140⟩ (by decide) (fun s0=> ?_)
 unfold br at h
 refine W_rs ?_
 refine rBox (R:=ab) (a:=x1) rfl (fun b2=> ?_)
 refine rq (out:=ah []) ae ?_
 refine a6 ?_
 refine W_rs ?_
 refine rq (out:=ao b2 0) (aq ff) ?_
 refine rq (out:=Pr.i64 x1.Kind) (aw (R:=ab) (a:=x1) (R':=Rp.int .i64) 0 ty3 bp) ?_
 refine a5 ?_
 refine W_rs ?_
 refine rq (out:=Pr.bool (x1.Kind==13)) qInt ?_
 refine rq (out:=Pr.bool (x1.Kind==13)) ae ?_
 refine am (b:=x1.Kind==13) rfl (fun hc3=> ?_) (fun hc3=> ?_)
 ·replace h:=iteT hc3 h
  refine W_rs ?_
  refine rq (out:=ao b2 3) (aq fld24_3) ?_
  refine rq (out:=Pr.i64 x1.N) (aw (R:=ab) (a:=x1) (R':=Rp.int .i64) 0 ty2 ft) ?_
  obtain⟨x4,hx4,h⟩:=af h
  refine rq (out:=ah x4) (av (ref13_digits_ok x1.N _ hx4)) ?_
  refine rq (out:=ah x4) ae ?_
  obtain rfl:=Option.some.inj h
  exact a4 ⟨rfl,aa⟩
 replace h:=iteF hc3 h
 refine W_rs ?_
 refine rq (out:=Pr.bool (x1.Kind==14)) qInt ?_
 refine rq (out:=Pr.bool (x1.Kind==14)) ae ?_
 refine am (b:=x1.Kind==14) rfl (fun hc5=> ?_) (fun hc5=> ?_)
 ·replace h:=iteT hc5 h
  refine a6 ?_
  refine W_rs ?_
  refine rq (out:=ao b2 3) (aq fld24_3) ?_
  refine rq (out:=Pr.i64 x1.N) (aw (R:=ab) (a:=x1) (R':=Rp.int .i64) 0 ty2 ft) ?_
  refine rq (out:=Pr.bool (x1.N==1)) qInt ?_
  refine am (b:=x1.N==1) rfl (fun hc6=> ?_) (fun hc6=> ?_)
  ·replace h:=iteT hc6 h
   refine W_rs ?_
   refine rq (out:=ah ([116,114,117,101]:List UInt8)) ae ?_
   obtain rfl:=Option.some.inj h
   exact a4 ⟨rfl,aa⟩
  replace h:=iteF hc6 h
  refine au ?_
  refine W_rs ?_
  refine rq (out:=ah ([102,97,108,115,101]:List UInt8)) ae ?_
  obtain rfl:=Option.some.inj h
  exact a4 ⟨rfl,aa⟩
 replace h:=iteF hc5 h
 refine W_rs ?_
 refine rq (out:=Pr.bool (x1.Kind==15)) qInt ?_
 refine rq (out:=Pr.bool (x1.Kind==15)) ae ?_
 refine am (b:=x1.Kind==15) rfl (fun hc7=> ?_) (fun hc7=> ?_)
 ·replace h:=iteT hc7 h
  refine W_rs ?_
  refine rq (out:=ah ([110,117,108,108]:List UInt8)) ae ?_
  obtain rfl:=Option.some.inj h
  exact a4 ⟨rfl,aa⟩
 replace h:=iteF hc7 h
 refine W_rs ?_
 refine rq (out:=Pr.bool (x1.Kind==16)) qInt ?_
 refine rq (out:=Pr.bool (x1.Kind==16)) ae ?_
 refine am (b:=x1.Kind==16) rfl (fun hc8=> ?_) (fun hc8=> ?_)
 ·replace h:=iteT hc8 h
  refine W_rs ?_
  refine rq (out:=ah ([116,104,105,115]:List UInt8)) ae ?_
  obtain rfl:=Option.some.inj h
  exact a4 ⟨rfl,aa⟩
 replace h:=iteF hc8 h
 refine W_rs ?_
 refine rq (out:=Pr.bool (x1.Kind==17)) qInt ?_
 refine rq (out:=Pr.bool (x1.Kind==17)) ae ?_
 refine am (b:=x1.Kind==17) rfl (fun hc9=> ?_) (fun hc9=> ?_)
 ·replace h:=iteT hc9 h
  refine W_rs ?_
  refine rq (out:=ao b2 1) (aq eb) ?_
  refine rq (out:=ah x1.Text) (aw (R:=ab) (a:=x1) (R':=ak) 0 ty9 bn) ?_
  refine rq (out:=ah x1.Text) ae ?_
  obtain rfl:=Option.some.inj h
  exact a4 ⟨rfl,aa⟩
 replace h:=iteF hc9 h
 refine W_rs ?_
 refine rq (out:=Pr.bool (x1.Kind==21)) qInt ?_
 refine rq (out:=Pr.bool (x1.Kind==21)) ae ?_
 refine am (b:=x1.Kind==21) rfl (fun hc10=> ?_) (fun hc10=> ?_)
 ·replace h:=iteT hc10 h
  refine W_rs ?_
  refine rq (out:=ao b2 1) (aq eb) ?_
  refine rq (out:=ah x1.Text) (aw (R:=ab) (a:=x1) (R':=ak) 0 ty9 bn) ?_
  obtain⟨x11,hx11,h⟩:=af h
  refine rq (out:=ah x11) (cf hx11) ?_
  obtain⟨x12,hx12,h⟩:=af h
  refine rq (out:=ah x12) (cf hx12) ?_
  refine rq (out:=ah x12) ae ?_
  obtain rfl:=Option.some.inj h
  exact a4 ⟨rfl,aa⟩
 replace h:=iteF hc10 h
 refine W_rs ?_
 refine rq (out:=Pr.bool (x1.Kind==18)) qInt ?_
 refine rq (out:=Pr.bool (x1.Kind==18)) ae ?_
 refine am (b:=x1.Kind==18) rfl (fun hc13=> ?_) (fun hc13=> ?_)
 ·replace h:=iteT hc13 h
  refine a8 (fun e C=>∃(x16:List UInt8),lp R x16=some r/\At [(2,ah x16)] [Own.box b2 ab x1] e C) ?_ ?_
  ·rintro e C ⟨x16,h,hat1⟩
   refine W_at hat1 ?_
   clear hat1
   unfold lp at h
   obtain rfl:=Option.some.inj h
   exact a4 ⟨rfl,aa⟩
  refine fa 7 hmx (by kernel_rfl) (by kernel_rfl) ?_
  refine qq (out:=(ab).val x1) (aw (R:=ab) (a:=x1) (R':=ab) 0 ty24 (Sub.refl _)) ?_
  obtain⟨x14,hx14,h⟩:=af h
  refine qq (out:=ah x14) (av (ih.1 x1 0 8 _ hx14)) ?_
  obtain⟨x15,hx15,h⟩:=af h
  refine qq (out:=ah x15) (cf hx15) ?_
  refine qq (out:=ao b2 1) (aq eb) ?_
  refine qq (out:=ah x1.Text) (aw (R:=ab) (a:=x1) (R':=ak) 0 ty9 bn) ?_
  obtain⟨x16,hx16,h⟩:=af h
  refine qq (out:=ah x16) (cf hx16) ?_
  refine qq (out:=ah x16) ae ?_
  exact⟨x16,h,⟨⟨aa,trivial⟩,Pick.refl _⟩⟩
 replace h:=iteF hc13 h
 refine W_rs ?_
 refine rq (out:=Pr.bool (x1.Kind==19)) qInt ?_
 refine rq (out:=Pr.bool (x1.Kind==19)) ae ?_
 refine am (b:=x1.Kind==19) rfl (fun hc17=> ?_) (fun hc17=> ?_)
 ·replace h:=iteT hc17 h
  refine a8 (fun e C=>∃(x19:List UInt8),ln R x19=some r/\At [(2,ah x19)] [Own.box b2 ab x1] e C) ?_ ?_
  ·rintro e C ⟨x19,h,hat2⟩
   refine W_at hat2 ?_
   clear hat2
   unfold ln at h
   obtain rfl:=Option.some.inj h
   exact a4 ⟨rfl,aa⟩
  refine fa 6 hmx (by kernel_rfl) (by kernel_rfl) ?_
  refine qq (out:=ao b2 1) (aq eb) ?_
  refine qq (out:=ah x1.Text) (aw (R:=ab) (a:=x1) (R':=ak) 0 ty9 bn) ?_
  refine qq (out:=(ab).val x1) (aw (R:=ab) (a:=x1) (R':=ab) 0 ty24 (Sub.refl _)) ?_
  obtain⟨x18,hx18,h⟩:=af h
  refine qq (out:=ah x18) (av (ih.2.2 x1 0 _ hx18)) ?_
  obtain⟨x19,hx19,h⟩:=af h
  refine qq (out:=ah x19) (cf hx19) ?_
  refine qq (out:=ah x19) ae ?_
  exact⟨x19,h,⟨⟨aa,trivial⟩,Pick.refl _⟩⟩
 replace h:=iteF hc17 h
 refine W_rs ?_
 refine rq (out:=Pr.bool (x1.Kind==20)) qInt ?_
 refine rq (out:=Pr.bool (x1.Kind==20)) ae ?_
 refine am (b:=x1.Kind==20) rfl (fun hc20=> ?_) (fun hc20=> ?_)
 ·replace h:=iteT hc20 h
  refine a8 (fun e C=>∃(x25:List UInt8),lm R x25=some r/\At [(2,ah x25)] [Own.box b2 ab x1] e C) ?_ ?_
  ·rintro e C ⟨x25,h,hat3⟩
   refine W_at hat3 ?_
   clear hat3
   unfold lm at h
   obtain rfl:=Option.some.inj h
   exact a4 ⟨rfl,aa⟩
  refine fa 10 hmx (by kernel_rfl) (by kernel_rfl) ?_
  refine qq (out:=(ab).val x1) (aw (R:=ab) (a:=x1) (R':=ab) 0 ty24 (Sub.refl _)) ?_
  obtain⟨x21,hx21,h⟩:=af h
  refine qq (out:=ah x21) (av (ih.1 x1 0 8 _ hx21)) ?_
  obtain⟨x22,hx22,h⟩:=af h
  refine qq (out:=ah x22) (cf hx22) ?_
  refine qq (out:=ao b2 1) (aq eb) ?_
  refine qq (out:=ah x1.Text) (aw (R:=ab) (a:=x1) (R':=ak) 0 ty9 bn) ?_
  obtain⟨x23,hx23,h⟩:=af h
  refine qq (out:=ah x23) (cf hx23) ?_
  refine qq (out:=(ab).val x1) (aw (R:=ab) (a:=x1) (R':=ab) 0 ty24 (Sub.refl _)) ?_
  obtain⟨x24,hx24,h⟩:=af h
  refine qq (out:=ah x24) (av (ih.2.2 x1 1 _ hx24)) ?_
  obtain⟨x25,hx25,h⟩:=af h
  refine qq (out:=ah x25) (cf hx25) ?_
  refine qq (out:=ah x25) ae ?_
  exact⟨x25,h,⟨⟨aa,trivial⟩,Pick.refl _⟩⟩
 replace h:=iteF hc20 h
 refine W_rs ?_
 refine rq (out:=Pr.bool (x1.Kind==22)) qInt ?_
 refine rq (out:=Pr.bool (x1.Kind==22)) ae ?_
 refine am (b:=x1.Kind==22) rfl (fun hc26=> ?_) (fun hc26=> ?_)
 ·replace h:=iteT hc26 h
  refine W_rs ?_
  refine rq (out:=(ab).val x1) (aw (R:=ab) (a:=x1) (R':=ab) 0 ty24 (Sub.refl _)) ?_
  obtain⟨x27,hx27,h⟩:=af h
  refine rq (out:=ah x27) (av (ih.1 x1 0 7 _ hx27)) ?_
  obtain⟨x28,hx28,h⟩:=af h
  refine rq (out:=ah x28) (cf hx28) ?_
  refine rq (out:=ah x28) ae ?_
  obtain rfl:=Option.some.inj h
  exact a4 ⟨rfl,aa⟩
 replace h:=iteF hc26 h
 refine W_rs ?_
 refine rq (out:=Pr.bool (x1.Kind==23)) qInt ?_
 refine rq (out:=Pr.bool (x1.Kind==23)) ae ?_
 refine am (b:=x1.Kind==23) rfl (fun hc29=> ?_) (fun hc29=> ?_)
 ·replace h:=iteT hc29 h
  refine a6 ?_
  refine a8 (fun e C=>∃(x36:Bool),cu R x1 x36=some r/\At [(1,ao b2 0),(90,Pr.bool x36)] [Own.box b2 ab x1] e C) ?_ ?_
  ·rintro e C ⟨x36,h,hat4⟩
   refine W_at hat4 ?_
   clear hat4
   unfold cu at h
   refine am (b:=x36) rfl (fun hc37=> ?_) (fun hc37=> ?_)
   ·replace h:=iteT hc37 h
    refine W_rs ?_
    refine rq (out:=ao b2 8) (aq cp) ?_
    refine rq (out:=aj ab x1.Kids) (aw (R:=ab) (a:=x1) (R':=ax ab) 0 ty22 ar) ?_
    obtain⟨x38,hx38,h⟩:=af h
    refine rq (out:=bb ab x38) (dl (R:=ab) (l:=x1.Kids) Tryz.underlying22 Tryz.sizeOf24 hx38) ?_
    refine rq (out:=(ab).val x38) (cd (R:=ab) (a:=x38) ty24) ?_
    obtain⟨x39,hx39,h⟩:=af h
    refine rq (out:=ah x39) (av (ih.2.1 x38 _ hx39)) ?_
    obtain⟨x40,hx40,h⟩:=af h
    refine rq (out:=ah x40) (cf hx40) ?_
    obtain⟨x41,hx41,h⟩:=af h
    refine rq (out:=ah x41) (cf hx41) ?_
    refine rq (out:=ah x41) ae ?_
    obtain rfl:=Option.some.inj h
    exact a4 ⟨rfl,aa⟩
   replace h:=iteF hc37 h
   refine au ?_
   refine W_rs ?_
   refine rq (out:=(ab).val x1) (aw (R:=ab) (a:=x1) (R':=ab) 0 ty24 (Sub.refl _)) ?_
   obtain⟨x42,hx42,h⟩:=af h
   refine rq (out:=ah x42) (av (ih.1 x1 0 7 _ hx42)) ?_
   obtain⟨x43,hx43,h⟩:=af h
   refine rq (out:=ah x43) (cf hx43) ?_
   refine rq (out:=ah x43) ae ?_
   obtain rfl:=Option.some.inj h
   exact a4 ⟨rfl,aa⟩
  refine W_r ?_
  refine rq (out:=ao b2 8) (aq cp) ?_
  refine rq (out:=aj ab x1.Kids) (aw (R:=ab) (a:=x1) (R':=ax ab) 0 ty22 ar) ?_
  refine rq (out:=Pr.i64 (x1.Kids.length:Int)) (dz rfl Tryz.underlying22) ?_
  refine rq (out:=Pr.bool (decide ((x1.Kids.length:Int)>0))) qInt ?_
  refine rq (out:=Pr.bool (decide ((x1.Kids.length:Int)>0))) ag ?_
  rcases bv h with⟨hc30,h⟩|⟨hc30,h⟩
  ·refine rqg hc30 (out:=ao b2 8) (aq cp) ?_
   refine rqg hc30 (out:=aj ab x1.Kids) (aw (R:=ab) (a:=x1) (R':=ax ab) 0 ty22 ar) ?_
   obtain⟨x31,hx31,h⟩:=af h
   refine rqg hc30 (out:=bb ab x31) (dl (R:=ab) (l:=x1.Kids) Tryz.underlying22 Tryz.sizeOf24 hx31) ?_
   refine rqg hc30 (out:=bb (Rp.int .i64) x31.Kind) (ea (R:=ab) (a:=x31) ff bp) ?_
   refine rqg hc30 (out:=Pr.i64 x31.Kind) (cd (R:=Rp.int .i64) (a:=x31.Kind) ty3) ?_
   refine rqg hc30 (out:=Pr.bool (x31.Kind==23)) qInt ?_
   refine rqg hc30 (out:=Pr.bool (x31.Kind==23)) ag ?_
   rcases bv h with⟨hc32,h⟩|⟨hc32,h⟩
   ·refine rno (neF hc32) ?_
    refine rno (neF hc32) ?_
    refine rno (neF hc32) ?_
    refine rno (neF hc32) ?_
    refine rno (neF hc32) ?_
    refine rno (neF hc32) ?_
    refine rno (neF hc32) ?_
    refine rnoU ?_
    refine rnoU ?_
    refine rnoU ?_
    refine rnoU ?_
    refine rnoU ?_
    refine rnoU ?_
    refine rno (neF hc32) ?_
    refine rqg hc30 (out:=Pr.bool true) (bi hc32) ?_
    refine rq (out:=Pr.bool true) (bi hc30) ?_
    exact⟨true,h,⟨⟨aa,aa,trivial⟩,Pick.refl _⟩⟩
   refine rqg hc32 (out:=ao b2 8) (aq cp) ?_
   refine rqg hc32 (out:=aj ab x1.Kids) (aw (R:=ab) (a:=x1) (R':=ax ab) 0 ty22 ar) ?_
   obtain⟨x33,hx33,h⟩:=af h
   refine rqg hc32 (out:=bb ab x33) (dl (R:=ab) (l:=x1.Kids) Tryz.underlying22 Tryz.sizeOf24 hx33) ?_
   refine rqg hc32 (out:=bb (Rp.int .i64) x33.Kind) (ea (R:=ab) (a:=x33) ff bp) ?_
   refine rqg hc32 (out:=Pr.i64 x33.Kind) (cd (R:=Rp.int .i64) (a:=x33.Kind) ty3) ?_
   refine rqg hc32 (out:=Pr.bool (x33.Kind==13)) qInt ?_
   refine rqg hc32 (out:=Pr.bool (x33.Kind==13)) ag ?_
   rcases bv h with⟨hc34,h⟩|⟨hc34,h⟩
   ·refine rqg hc34 (out:=ao b2 8) (aq cp) ?_
    refine rqg hc34 (out:=aj ab x1.Kids) (aw (R:=ab) (a:=x1) (R':=ax ab) 0 ty22 ar) ?_
    obtain⟨x35,hx35,h⟩:=af h
    refine rqg hc34 (out:=bb ab x35) (dl (R:=ab) (l:=x1.Kids) Tryz.underlying22 Tryz.sizeOf24 hx35) ?_
    refine rqg hc34 (out:=bb (Rp.int .i64) x35.N) (ea (R:=ab) (a:=x35) fld24_3 ft) ?_
    refine rqg hc34 (out:=Pr.i64 x35.N) (cd (R:=Rp.int .i64) (a:=x35.N) ty2) ?_
    refine rqg hc34 (out:=Pr.bool (decide (x35.N<0))) qInt ?_
    refine rqg hc32 (out:=Pr.bool (decide (x35.N<0))) (bi hc34) ?_
    refine rqg hc30 (out:=Pr.bool (decide (x35.N<0))) (bu hc32) ?_
    refine rq (out:=Pr.bool (decide (x35.N<0))) (bi hc30) ?_
    exact⟨decide (x35.N<0),h,⟨⟨aa,aa,trivial⟩,Pick.refl _⟩⟩
   refine rno (neT hc34) ?_
   refine rno (neT hc34) ?_
   refine rno (neT hc34) ?_
   refine rno (neT hc34) ?_
   refine rno (neT hc34) ?_
   refine rno (neT hc34) ?_
   refine rqg hc32 (out:=Pr.bool false) (bu hc34) ?_
   refine rqg hc30 (out:=Pr.bool false) (bu hc32) ?_
   refine rq (out:=Pr.bool false) (bi hc30) ?_
   exact⟨false,h,⟨⟨aa,aa,trivial⟩,Pick.refl _⟩⟩
  refine rno (neT hc30) ?_
  refine rno (neT hc30) ?_
  refine rno (neT hc30) ?_
  refine rno (neT hc30) ?_
  refine rno (neT hc30) ?_
  refine rno (neT hc30) ?_
  refine rno (neT hc30) ?_
  refine rnoU ?_
  refine rnoU ?_
  refine rnoU ?_
  refine rnoU ?_
  refine rnoU ?_
  refine rnoU ?_
  refine rnoU ?_
  refine rnoU ?_
  refine rnoU ?_
  refine rnoU ?_
  refine rnoU ?_
  refine rnoU ?_
  refine rnoU ?_
  refine rnoU ?_
  refine rno (neT hc30) ?_
  refine rq (out:=Pr.bool false) (bu hc30) ?_
  exact⟨false,h,⟨⟨aa,aa,trivial⟩,Pick.refl _⟩⟩
 replace h:=iteF hc29 h
 refine W_rs ?_
 refine rq (out:=Pr.bool (x1.Kind==24)) qInt ?_
 refine rq (out:=Pr.bool (x1.Kind==24)) ae ?_
 refine am (b:=x1.Kind==24) rfl (fun hc44=> ?_) (fun hc44=> ?_)
 ·replace h:=iteT hc44 h
  refine W_rs ?_
  refine rq (out:=ao b2 1) (aq eb) ?_
  refine rq (out:=ah x1.Text) (aw (R:=ab) (a:=x1) (R':=ak) 0 ty9 bn) ?_
  obtain⟨x45,hx45,h⟩:=af h
  refine rq (out:=Pr.i64 x45) (av (ref13_Binds_ok x1.Text _ hx45)) ?_
  refine rq (out:=Pr.i64 x45) ae ?_
  refine a8 (fun e C=>∃(x51:List UInt8),ll R x51=some r/\At [(2,ah x51)] [Own.box b2 ab x1] e C) ?_ ?_
  ·rintro e C ⟨x51,h,hat5⟩
   refine W_at hat5 ?_
   clear hat5
   unfold ll at h
   obtain rfl:=Option.some.inj h
   exact a4 ⟨rfl,aa⟩
  refine fa 14 hmx (by kernel_rfl) (by kernel_rfl) ?_
  refine qq (out:=(ab).val x1) (aw (R:=ab) (a:=x1) (R':=ab) 0 ty24 (Sub.refl _)) ?_
  refine qq (out:=Pr.i64 x45) ag ?_
  obtain⟨x46,hx46,h⟩:=af h
  refine qq (out:=ah x46) (av (ih.1 x1 0 x45 _ hx46)) ?_
  obtain⟨x47,hx47,h⟩:=af h
  refine qq (out:=ah x47) (cf hx47) ?_
  refine qq (out:=ao b2 1) (aq eb) ?_
  refine qq (out:=ah x1.Text) (aw (R:=ab) (a:=x1) (R':=ak) 0 ty9 bn) ?_
  obtain⟨x48,hx48,h⟩:=af h
  refine qq (out:=ah x48) (cf hx48) ?_
  obtain⟨x49,hx49,h⟩:=af h
  refine qq (out:=ah x49) (cf hx49) ?_
  refine qq (out:=(ab).val x1) (aw (R:=ab) (a:=x1) (R':=ab) 0 ty24 (Sub.refl _)) ?_
  refine qq (out:=Pr.i64 x45) ag ?_
  refine qq (out:=Pr.i64 (w64 (x45+1))) qInt ?_
  obtain⟨x50,hx50,h⟩:=af h
  refine qq (out:=ah x50) (av (ih.1 x1 1 (w64 (x45+1)) _ hx50)) ?_
  obtain⟨x51,hx51,h⟩:=af h
  refine qq (out:=ah x51) (cf hx51) ?_
  refine qq (out:=ah x51) ae ?_
  exact⟨x51,h,⟨⟨aa,trivial⟩,Pick.refl _⟩⟩
 replace h:=iteF hc44 h
 refine au ?_
 refine W_rs ?_
 refine rq (out:=ah []) ae ?_
 obtain rfl:=Option.some.inj h
 exact a4 ⟨rfl,aa⟩
theorem F_ref13_arguments_step (R:cn) (ih:kc R) (x1:ApiNode) (x2:Int) (r:(List UInt8)) (h:i7 R x1 x2=some r):FnP Tryz.prog 149 [(ab).val x1,Pr.i64 x2] (ah r):=by
 refine ba (n:=30) (rs:=[4]) Tryz.func149 rfl Tryz.ntmps149 ⟨by decide,Tryz.results149⟩ (by decide) (fun s0=> ?_)
 unfold i7 at h
 refine W_rs ?_
 refine rBox (R:=ab) (a:=x1) rfl (fun b3=> ?_)
 refine rq (out:=ah []) ae ?_
 refine W_rs ?_
 refine rq (out:=ah ([40]:List UInt8)) ae ?_
 refine a6 ?_
 refine W_rs ?_
 refine rq (out:=Pr.i64 x2) ag ?_
 refine rq (out:=Pr.i64 x2) ae ?_
 refine a5 ?_
 obtain⟨z2l,hz2,h⟩:=af h
 obtain⟨n2,hN2⟩:=bo hz2
 clear hz2
 refine c6 0 (fun e C=>∃(x4:List UInt8),j6 R x4=some r/\At [(5,ah x4)] [Own.box b3 ab x1] e C) ?_ ?_
 ·rintro e C ⟨x4,h,hat1⟩
  refine W_at hat1 ?_
  clear hat1
  unfold j6 at h
  refine W_rs ?_
  refine rq (out:=ah x4) ag ?_
  obtain⟨x15,hx15,h⟩:=af h
  refine rq (out:=ah x15) (cf hx15) ?_
  refine rq (out:=ah x15) ae ?_
  obtain rfl:=Option.some.inj h
  exact a4 ⟨rfl,aa⟩
 refine dp (fun m e C=>∃(x4:List UInt8),∃(x5:Int),d9 (fun s=>em R x1 x2 s.1 s.2) m (x4,x5)=some z2l/\At [(1,Pr.i64 x2),(2,ao b3 0),(5,ah x4),(6,Pr.i64 x5)] [Own.box b3 ab x1] e C) n2 ⟨([40]:List UInt8),x2,hN2,⟨⟨aa,aa,aa,aa,trivial⟩,Pick.refl _⟩⟩ ?_
 clear hN2
 rintro m e C ⟨x4,x5,hN2,hatl2⟩
 refine W_at hatl2 ?_
 clear hatl2
 obtain⟨m2,w2l,rfl,h2l,hn2,ho2⟩:=bg hN2
 clear hN2
 replace h2l:em R x1 x2 x4 x5=some w2l:=h2l
 unfold em at h2l
 refine a6 ?_
 refine W_rs ?_
 refine rq (out:=Pr.i64 x5) ag ?_
 refine rq (out:=ao b3 8) (aq cp) ?_
 refine rq (out:=aj ab x1.Kids) (aw (R:=ab) (a:=x1) (R':=ax ab) 0 ty22 ar) ?_
 refine rq (out:=Pr.i64 (x1.Kids.length:Int)) (dz rfl Tryz.underlying22) ?_
 refine rq (out:=Pr.bool (decide (x5<(x1.Kids.length:Int)))) qInt ?_
 refine am (b:=decide (x5<(x1.Kids.length:Int))) rfl (fun hc8=> ?_) (fun hc8=> ?_)
 ·replace h2l:=iteT hc8 h2l
  refine au ?_
  refine a6 ?_
  refine a5 ?_
  refine a8 (fun e C=>∃(x11:List UInt8),io R x1 x5 x11=some w2l/\At [(1,Pr.i64 x2),(2,ao b3 0),(5,ah x11),(6,Pr.i64 x5)] [Own.box b3 ab x1] e C) ?_ ?_
  ·rintro e C ⟨x11,h2l,hat3⟩
   refine W_at hat3 ?_
   clear hat3
   unfold io at h2l
   refine W_r ?_
   refine rq (out:=ah x11) ag ?_
   refine rq (out:=ao b3 8) (aq cp) ?_
   refine rq (out:=aj ab x1.Kids) (aw (R:=ab) (a:=x1) (R':=ax ab) 0 ty22 ar) ?_
   refine rq (out:=Pr.i64 x5) ag ?_
   obtain⟨x12,hx12,h2l⟩:=af h2l
   refine rq (out:=bb ab x12) (dl (R:=ab) (l:=x1.Kids) Tryz.underlying22 Tryz.sizeOf24 hx12) ?_
   refine rq (out:=(ab).val x12) (cd (R:=ab) (a:=x12) ty24) ?_
   obtain⟨x13,hx13,h2l⟩:=af h2l
   refine rq (out:=ah x13) (av (ih.2.1 x12 _ hx13)) ?_
   obtain⟨x14,hx14,h2l⟩:=af h2l
   refine rq (out:=ah x14) (cf hx14) ?_
   refine rq (out:=ah x14) ae ?_
   refine W_r ?_
   refine rq (out:=Pr.i64 x5) ag ?_
   refine rq (out:=Pr.i64 (w64 (x5+1))) qInt ?_
   refine rq (out:=Pr.i64 (w64 (x5+1))) ae ?_
   exact⟨m2,Nat.lt_succ_self _,x14,w64 (x5+1),hn2 _ (Option.some.inj h2l).symm,⟨⟨aa,aa,aa,aa,trivial⟩,Pick.refl _⟩⟩
  refine W_rs ?_
  refine rq (out:=Pr.i64 x5) ag ?_
  refine rq (out:=Pr.i64 x2) ag ?_
  refine rq (out:=Pr.bool (decide (x5>x2))) qInt ?_
  refine am (b:=decide (x5>x2)) rfl (fun hc9=> ?_) (fun hc9=> ?_)
  ·replace h2l:=iteT hc9 h2l
   refine W_r ?_
   refine rq (out:=ah x4) ag ?_
   obtain⟨x10,hx10,h2l⟩:=af h2l
   refine rq (out:=ah x10) (cf hx10) ?_
   refine rq (out:=ah x10) ae ?_
   exact⟨x10,h2l,⟨⟨aa,aa,aa,aa,trivial⟩,Pick.refl _⟩⟩
  replace h2l:=iteF hc9 h2l
  refine au ?_
  exact⟨x4,h2l,⟨⟨aa,aa,aa,aa,trivial⟩,Pick.refl _⟩⟩
 replace h2l:=iteF hc8 h2l
 refine cy ?_
 obtain rfl:=ho2 _ (Option.some.inj h2l).symm
 exact⟨x4,h,⟨⟨aa,trivial⟩,Pick.refl _⟩⟩
theorem rec_ref13_kid_ok :∀n,kc (dm n):=by
 intro n
 induction n with
 |zero=>exact⟨(fun x1 x2 x3 r h=>nomatch (show none=some r from h)),(fun x1 r h=>nomatch (show none=some r from h)),(fun x1 x2 r h=>nomatch (show none=some r from h))⟩
 |succ n ih=>exact⟨(fun x1 x2 x3 r h=>F_ref13_kid_step (dm n) ih x1 x2 x3 r h),(fun x1 r h=>F_ref13_Expression_step (dm n) ih x1 r h),(fun x1 x2 r h=>F_ref13_arguments_step (dm n) ih x1 x2 r h)⟩
theorem jb (x1:ApiNode) (x2 x3:Int) (r:(List UInt8)) (h:jg x1 x2 x3=some r):FnP Tryz.prog 130 [(ab).val x1,Pr.i64 x2,Pr.i64 x3] (ah r):=(rec_ref13_kid_ok 1048576).1 x1 x2 x3 r h
def fc (R:bh):Prop:=(∀(x1:ApiNode) (x2:Int) (x3:List UInt8) (r:(List UInt8)),R.1 x1 x2 x3=some r->FnP Tryz.prog 51 [(ab).val x1,Pr.i64 x2,ah x3] (ah r))/\(∀(x1:List ApiNode) (x2:List UInt8) (r:(List UInt8)),R.2.1 x1 x2=some r->FnP Tryz.prog 73 [aj ab x1,ah x2] (ah r))/\(∀(x1:ApiNode) (x2:List UInt8) (r:(List UInt8)),R.2.2.1 x1 x2=some r->FnP Tryz.prog 99 [(ab).val x1,ah x2] (ah r))/\(∀(x1:ApiNode) (x2:List UInt8) (r:(List UInt8) × Bool),R.2.2.2 x1 x2=some r->FnP Tryz.prog 113 [(ab).val x1,ah x2] (bj [ah r.1,Pr.bool r.2]))
theorem F_ref13_belongs_step (R:bh) (ih:fc R) (x1:ApiNode) (x2:Int) (x3:List UInt8) (r:(List UInt8)) (h:gw R x1 x2 x3=some r):FnP Tryz.prog 51 [(ab).val x1,Pr.i64 x2,ah x3] (ah r):=by
 refine ba (n:=37) (rs:=[6]) Tryz.func51 rfl Tryz.ntmps51 ⟨by decide,Tryz.results51⟩ (by decide) (fun s0=> ?_)
 unfold gw at h
 refine W_rs ?_
 refine rBox (R:=ab) (a:=x1) rfl (fun b4=> ?_)
 refine rq (out:=ah []) ae ?_
 refine a6 ?_
 refine W_rs ?_
 refine rq (out:=Pr.i64 x2) ag ?_
 refine rq (out:=ao b4 8) (aq cp) ?_
 refine rq (out:=aj ab x1.Kids) (aw (R:=ab) (a:=x1) (R':=ax ab) 0 ty22 ar) ?_
 refine rq (out:=Pr.i64 (x1.Kids.length:Int)) (dz rfl Tryz.underlying22) ?_
 refine rq (out:=Pr.bool (decide (x2≥(x1.Kids.length:Int)))) qInt ?_
 refine am (b:=decide (x2≥(x1.Kids.length:Int))) rfl (fun hc5=> ?_) (fun hc5=> ?_)
 ·replace h:=iteT hc5 h
  refine W_rs ?_
  refine rq (out:=ah x3) ag ?_
  obtain⟨x6,hx6,h⟩:=af h
  refine rq (out:=ah x6) (lw (ih.2.1 [] x3 _ hx6) ⟨de _,aa,trivial⟩) ?_
  refine rq (out:=ah x6) ae ?_
  obtain rfl:=Option.some.inj h
  exact a4 ⟨rfl,aa⟩
 replace h:=iteF hc5 h
 refine au ?_
 refine a6 ?_
 refine W_rs ?_
 refine rq (out:=ao b4 8) (aq cp) ?_
 refine rq (out:=aj ab x1.Kids) (aw (R:=ab) (a:=x1) (R':=ax ab) 0 ty22 ar) ?_
 refine rq (out:=Pr.i64 x2) ag ?_
 obtain⟨x7,hx7,h⟩:=af h
 refine rq (out:=bb ab x7) (dl (R:=ab) (l:=x1.Kids) Tryz.underlying22 Tryz.sizeOf24 hx7) ?_
 refine rq (out:=bb (Rp.int .i64) x7.Kind) (ea (R:=ab) (a:=x7) ff bp) ?_
 refine rq (out:=Pr.i64 x7.Kind) (cd (R:=Rp.int .i64) (a:=x7.Kind) ty3) ?_
 refine rq (out:=Pr.bool (x7.Kind==5)) qInt ?_
 refine am (b:=x7.Kind==5) rfl (fun hc8=> ?_) (fun hc8=> ?_)
 ·replace h:=iteT hc8 h
  refine W_rs ?_
  refine rq (out:=ao b4 8) (aq cp) ?_
  refine rq (out:=aj ab x1.Kids) (aw (R:=ab) (a:=x1) (R':=ax ab) 0 ty22 ar) ?_
  refine rq (out:=Pr.i64 x2) ag ?_
  obtain⟨x9,hx9,h⟩:=af h
  refine rq (out:=bb ab x9) (dl (R:=ab) (l:=x1.Kids) Tryz.underlying22 Tryz.sizeOf24 hx9) ?_
  refine rq (out:=bb (ax ab) x9.Kids) (ea (R:=ab) (a:=x9) cp ar) ?_
  refine rq (out:=aj ab x9.Kids) (cd (R:=ax ab) (a:=x9.Kids) ty22) ?_
  refine rq (out:=ah x3) ag ?_
  obtain⟨x10,hx10,h⟩:=af h
  refine rq (out:=ah x10) (av (ih.2.1 x9.Kids x3 _ hx10)) ?_
  refine rq (out:=ah x10) ae ?_
  obtain rfl:=Option.some.inj h
  exact a4 ⟨rfl,aa⟩
 replace h:=iteF hc8 h
 refine au ?_
 refine W_rs ?_
 refine rq (out:=ao b4 8) (aq cp) ?_
 refine rq (out:=aj ab x1.Kids) (aw (R:=ab) (a:=x1) (R':=ax ab) 0 ty22 ar) ?_
 refine rq (out:=Pr.i64 x2) ag ?_
 refine rq (out:=Pr.i64 x2) ag ?_
 refine rq (out:=Pr.i64 (w64 (x2+1))) qInt ?_
 obtain⟨x11,hx11,h⟩:=af h
 refine rq (out:=aj ab x11) (qLSubLH Tryz.underlying22 Tryz.sizeOf24 hx11) ?_
 refine rq (out:=ah x3) ag ?_
 obtain⟨x12,hx12,h⟩:=af h
 refine rq (out:=ah x12) (av (ih.2.1 x11 x3 _ hx12)) ?_
 refine rq (out:=ah x12) ae ?_
 obtain rfl:=Option.some.inj h
 exact a4 ⟨rfl,aa⟩
theorem F_ref13_blocked_step (R:bh) (ih:fc R) (x1:List ApiNode) (x2:List UInt8) (r:(List UInt8)) (h:i5 R x1 x2=some r):FnP Tryz.prog 73 [aj ab x1,ah x2] (ah r):=by
 refine ba (n:=26) (rs:=[4]) Tryz.func73 rfl Tryz.ntmps73 ⟨by decide,Tryz.results73⟩ (by decide) (fun s0=> ?_)
 unfold i5 at h
 refine W_rs ?_
 refine rq (out:=ah []) ae ?_
 refine W_rs ?_
 refine rq (out:=ah ([123,10]:List UInt8)) ae ?_
 refine a6 ?_
 refine W_rs ?_
 refine rq (out:=Pr.i64 0) ae ?_
 refine a5 ?_
 obtain⟨z2l,hz2,h⟩:=af h
 obtain⟨n2,hN2⟩:=bo hz2
 clear hz2
 refine c6 0 (fun e C=>∃(x3:List UInt8),k8 R x2 x3=some r/\At [(1,ah x2),(5,ah x3)] [] e C) ?_ ?_
 ·rintro e C ⟨x3,h,hat1⟩
  refine W_at hat1 ?_
  clear hat1
  unfold k8 at h
  refine W_rs ?_
  refine rq (out:=ah x3) ag ?_
  refine rq (out:=ah x2) ag ?_
  obtain⟨x12,hx12,h⟩:=af h
  refine rq (out:=ah x12) (cf hx12) ?_
  obtain⟨x13,hx13,h⟩:=af h
  refine rq (out:=ah x13) (cf hx13) ?_
  refine rq (out:=ah x13) ae ?_
  obtain rfl:=Option.some.inj h
  exact a4 ⟨rfl,aa⟩
 refine dp (fun m e C=>∃(x3:List UInt8),∃(x4:Int),d9 (fun s=>e7 R x1 x2 s.1 s.2) m (x3,x4)=some z2l/\At [(0,aj ab x1),(1,ah x2),(5,ah x3),(6,Pr.i64 x4)] [] e C) n2 ⟨([123,10]:List UInt8),0,hN2,⟨⟨aa,aa,aa,aa,trivial⟩,Pick.refl _⟩⟩ ?_
 clear hN2
 rintro m e C ⟨x3,x4,hN2,hatl2⟩
 refine W_at hatl2 ?_
 clear hatl2
 obtain⟨m2,w2l,rfl,h2l,hn2,ho2⟩:=bg hN2
 clear hN2
 replace h2l:e7 R x1 x2 x3 x4=some w2l:=h2l
 unfold e7 at h2l
 refine a6 ?_
 refine W_rs ?_
 refine rq (out:=Pr.i64 x4) ag ?_
 refine rq (out:=aj ab x1) ag ?_
 refine rq (out:=Pr.i64 (x1.length:Int)) (dz rfl Tryz.underlying22) ?_
 refine rq (out:=Pr.bool (decide (x4<(x1.length:Int)))) qInt ?_
 refine am (b:=decide (x4<(x1.length:Int))) rfl (fun hc7=> ?_) (fun hc7=> ?_)
 ·replace h2l:=iteT hc7 h2l
  refine au ?_
  refine a6 ?_
  refine a5 ?_
  refine W_r ?_
  refine rq (out:=ah x3) ag ?_
  refine rq (out:=aj ab x1) ag ?_
  refine rq (out:=Pr.i64 x4) ag ?_
  obtain⟨x8,hx8,h2l⟩:=af h2l
  refine rq (out:=bb ab x8) (dl (R:=ab) (l:=x1) Tryz.underlying22 Tryz.sizeOf24 hx8) ?_
  refine rq (out:=(ab).val x8) (cd (R:=ab) (a:=x8) ty24) ?_
  refine rq (out:=ah x2) ag ?_
  obtain⟨x9,hx9,h2l⟩:=af h2l
  refine rq (out:=ah x9) (cf hx9) ?_
  obtain⟨x10,hx10,h2l⟩:=af h2l
  refine rq (out:=ah x10) (av (ih.2.2.1 x8 x9 _ hx10)) ?_
  obtain⟨x11,hx11,h2l⟩:=af h2l
  refine rq (out:=ah x11) (cf hx11) ?_
  refine rq (out:=ah x11) ae ?_
  refine W_r ?_
  refine rq (out:=Pr.i64 x4) ag ?_
  refine rq (out:=Pr.i64 (w64 (x4+1))) qInt ?_
  refine rq (out:=Pr.i64 (w64 (x4+1))) ae ?_
  exact⟨m2,Nat.lt_succ_self _,x11,w64 (x4+1),hn2 _ (Option.some.inj h2l).symm,⟨⟨aa,aa,aa,aa,trivial⟩,Pick.refl _⟩⟩
 replace h2l:=iteF hc7 h2l
 refine cy ?_
 obtain rfl:=ho2 _ (Option.some.inj h2l).symm
 exact⟨x3,h,⟨⟨aa,aa,trivial⟩,Pick.refl _⟩⟩
theorem F_ref13_Statement_step (R:bh) (ih:fc R) (x1:ApiNode) (x2:List UInt8) (r:(List UInt8)) (h:i8 R x1 x2=some r):FnP Tryz.prog 99 [(ab).val x1,ah x2] (ah r):=by
 refine ba (n:=19) (rs:=[4]) Tryz.func99 rfl Tryz.ntmps99 ⟨by decide,Tryz.results99⟩ (by decide) (fun s0=> ?_)
 unfold i8 at h
 refine W_rs ?_
 refine rBox (R:=ab) (a:=x1) rfl (fun b3=> ?_)
 refine rq (out:=ah []) ae ?_
 refine W_rs ?_
 refine rq (out:=(ab).val x1) (aw (R:=ab) (a:=x1) (R':=ab) 0 ty24 (Sub.refl _)) ?_
 refine rq (out:=ah x2) ag ?_
 obtain⟨⟨x4,x5⟩,hx4,h⟩:=af h
 refine rq (out:=bj [ah x4,Pr.bool x5]) (av (ih.2.2.2 x1 x2 _ hx4)) ?_
 refine rq (out:=bj [ah x4,Pr.bool x5]) ag ?_
 refine rq (out:=ah x4) ay ?_
 refine rq (out:=Pr.bool x5) ay ?_
 refine rq (out:=ah x4) ae ?_
 refine rq (out:=Pr.bool x5) ae ?_
 refine a6 ?_
 refine W_rs ?_
 refine rq (out:=Pr.bool x5) ag ?_
 refine rq (out:=Pr.bool (!x5)) qNot ?_
 refine am (b:= !x5) rfl (fun hc6=> ?_) (fun hc6=> ?_)
 ·replace h:=iteT hc6 h
  refine W_rs ?_
  refine rq (out:=ah []) ae ?_
  obtain rfl:=Option.some.inj h
  exact a4 ⟨rfl,aa⟩
 replace h:=iteF hc6 h
 refine au ?_
 refine W_rs ?_
 refine rq (out:=ah x2) ag ?_
 refine rq (out:=ah x4) ag ?_
 obtain⟨x7,hx7,h⟩:=af h
 refine rq (out:=ah x7) (cf hx7) ?_
 obtain⟨x8,hx8,h⟩:=af h
 refine rq (out:=ah x8) (cf hx8) ?_
 refine rq (out:=ah x8) ae ?_
 obtain rfl:=Option.some.inj h
 exact a4 ⟨rfl,aa⟩
theorem F_ref13_line_step (R:bh) (ih:fc R) (x1:ApiNode) (x2:List UInt8) (r:(List UInt8) × Bool) (h:ee R x1 x2=some r):FnP Tryz.prog 113 [(ab).val x1,ah x2] (bj [ah r.1,Pr.bool r.2]):=by
 refine ba (n:=89) (rs:=[4,5]) Tryz.func113 rfl Tryz.ntmps113 ⟨by decide,Tryz.results113⟩ (by decide) (fun s0=> ?_)
 unfold ee at h
 refine W_rs ?_
 refine rBox (R:=ab) (a:=x1) rfl (fun b3=> ?_)
 refine rq (out:=ah []) ae ?_
 refine rq (out:=Pr.bool false) ae ?_
 refine a6 ?_
 refine W_rs ?_
 refine rq (out:=ao b3 0) (aq ff) ?_
 refine rq (out:=Pr.i64 x1.Kind) (aw (R:=ab) (a:=x1) (R':=Rp.int .i64) 0 ty3 bp) ?_
 refine a5 ?_
 refine W_rs ?_
 refine rq (out:=Pr.bool (x1.Kind==6)) qInt ?_
 refine rq (out:=Pr.bool (x1.Kind==6)) ae ?_
 refine am (b:=x1.Kind==6) rfl (fun hc4=> ?_) (fun hc4=> ?_)
 ·replace h:=iteT hc4 h
  refine a8 (fun e C=>∃(x10:List UInt8),ct R x10=some r/\At [(4,ah x10),(5,Pr.bool true)] [Own.box b3 ab x1] e C) ?_ ?_
  ·rintro e C ⟨x10,h,hat1⟩
   refine W_at hat1 ?_
   clear hat1
   unfold ct at h
   obtain rfl:=Option.some.inj h
   exact a4 ⟨rfl,aa⟩
  refine fa 13 hmx (by kernel_rfl) (by kernel_rfl) ?_
  refine qq (out:=ao b3 2) (aq kf) ?_
  refine qq (out:=ah x1.Type_) (aw (R:=ab) (a:=x1) (R':=ak) 0 ty9 dk) ?_
  obtain⟨x5,hx5,h⟩:=af h
  refine qq (out:=ah x5) (cf hx5) ?_
  refine qq (out:=ao b3 1) (aq eb) ?_
  refine qq (out:=ah x1.Text) (aw (R:=ab) (a:=x1) (R':=ak) 0 ty9 bn) ?_
  obtain⟨x6,hx6,h⟩:=af h
  refine qq (out:=ah x6) (cf hx6) ?_
  obtain⟨x7,hx7,h⟩:=af h
  refine qq (out:=ah x7) (cf hx7) ?_
  refine qq (out:=(ab).val x1) (aw (R:=ab) (a:=x1) (R':=ab) 0 ty24 (Sub.refl _)) ?_
  obtain⟨x8,hx8,h⟩:=af h
  refine qq (out:=ah x8) (av (jb x1 0 0 _ hx8)) ?_
  obtain⟨x9,hx9,h⟩:=af h
  refine qq (out:=ah x9) (cf hx9) ?_
  obtain⟨x10,hx10,h⟩:=af h
  refine qq (out:=ah x10) (cf hx10) ?_
  refine qq (out:=ah x10) ae ?_
  refine qq (out:=Pr.bool true) ae ?_
  exact⟨x10,h,⟨⟨aa,aa,trivial⟩,Pick.refl _⟩⟩
 replace h:=iteF hc4 h
 refine W_rs ?_
 refine rq (out:=Pr.bool (x1.Kind==7)) qInt ?_
 refine rq (out:=Pr.bool (x1.Kind==7)) ae ?_
 refine am (b:=x1.Kind==7) rfl (fun hc11=> ?_) (fun hc11=> ?_)
 ·replace h:=iteT hc11 h
  refine a8 (fun e C=>∃(x16:List UInt8),cr R x16=some r/\At [(4,ah x16),(5,Pr.bool true)] [Own.box b3 ab x1] e C) ?_ ?_
  ·rintro e C ⟨x16,h,hat2⟩
   refine W_at hat2 ?_
   clear hat2
   unfold cr at h
   obtain rfl:=Option.some.inj h
   exact a4 ⟨rfl,aa⟩
  refine fa 9 hmx (by kernel_rfl) (by kernel_rfl) ?_
  refine qq (out:=(ab).val x1) (aw (R:=ab) (a:=x1) (R':=ab) 0 ty24 (Sub.refl _)) ?_
  obtain⟨x12,hx12,h⟩:=af h
  refine qq (out:=ah x12) (av (jb x1 0 0 _ hx12)) ?_
  obtain⟨x13,hx13,h⟩:=af h
  refine qq (out:=ah x13) (cf hx13) ?_
  refine qq (out:=(ab).val x1) (aw (R:=ab) (a:=x1) (R':=ab) 0 ty24 (Sub.refl _)) ?_
  obtain⟨x14,hx14,h⟩:=af h
  refine qq (out:=ah x14) (av (jb x1 1 0 _ hx14)) ?_
  obtain⟨x15,hx15,h⟩:=af h
  refine qq (out:=ah x15) (cf hx15) ?_
  obtain⟨x16,hx16,h⟩:=af h
  refine qq (out:=ah x16) (cf hx16) ?_
  refine qq (out:=ah x16) ae ?_
  refine qq (out:=Pr.bool true) ae ?_
  exact⟨x16,h,⟨⟨aa,aa,trivial⟩,Pick.refl _⟩⟩
 replace h:=iteF hc11 h
 refine W_rs ?_
 refine rq (out:=Pr.bool (x1.Kind==8)) qInt ?_
 refine rq (out:=Pr.bool (x1.Kind==8)) ae ?_
 refine am (b:=x1.Kind==8) rfl (fun hc17=> ?_) (fun hc17=> ?_)
 ·replace h:=iteT hc17 h
  refine W_rs ?_
  refine rq (out:=(ab).val x1) (aw (R:=ab) (a:=x1) (R':=ab) 0 ty24 (Sub.refl _)) ?_
  obtain⟨x18,hx18,h⟩:=af h
  refine rq (out:=ah x18) (av (jb x1 0 0 _ hx18)) ?_
  obtain⟨x19,hx19,h⟩:=af h
  refine rq (out:=ah x19) (cf hx19) ?_
  refine rq (out:=ah x19) ae ?_
  refine rq (out:=Pr.bool true) ae ?_
  obtain rfl:=Option.some.inj h
  exact a4 ⟨rfl,aa⟩
 replace h:=iteF hc17 h
 refine W_rs ?_
 refine rq (out:=Pr.bool (x1.Kind==11)) qInt ?_
 refine rq (out:=Pr.bool (x1.Kind==11)) ae ?_
 refine am (b:=x1.Kind==11) rfl (fun hc20=> ?_) (fun hc20=> ?_)
 ·replace h:=iteT hc20 h
  refine a6 ?_
  refine W_rs ?_
  refine rq (out:=ao b3 8) (aq cp) ?_
  refine rq (out:=aj ab x1.Kids) (aw (R:=ab) (a:=x1) (R':=ax ab) 0 ty22 ar) ?_
  refine rq (out:=Pr.i64 (x1.Kids.length:Int)) (dz rfl Tryz.underlying22) ?_
  refine rq (out:=Pr.bool ((x1.Kids.length:Int)==0)) qInt ?_
  refine am (b:=(x1.Kids.length:Int)==0) rfl (fun hc21=> ?_) (fun hc21=> ?_)
  ·replace h:=iteT hc21 h
   refine W_rs ?_
   refine rq (out:=ah ([114,101,116,117,114,110,59]:List UInt8)) ae ?_
   refine rq (out:=Pr.bool true) ae ?_
   obtain rfl:=Option.some.inj h
   exact a4 ⟨rfl,aa⟩
  replace h:=iteF hc21 h
  refine au ?_
  refine W_rs ?_
  refine rq (out:=(ab).val x1) (aw (R:=ab) (a:=x1) (R':=ab) 0 ty24 (Sub.refl _)) ?_
  obtain⟨x22,hx22,h⟩:=af h
  refine rq (out:=ah x22) (av (jb x1 0 0 _ hx22)) ?_
  obtain⟨x23,hx23,h⟩:=af h
  refine rq (out:=ah x23) (cf hx23) ?_
  obtain⟨x24,hx24,h⟩:=af h
  refine rq (out:=ah x24) (cf hx24) ?_
  refine rq (out:=ah x24) ae ?_
  refine rq (out:=Pr.bool true) ae ?_
  obtain rfl:=Option.some.inj h
  exact a4 ⟨rfl,aa⟩
 replace h:=iteF hc20 h
 refine W_rs ?_
 refine rq (out:=Pr.bool (x1.Kind==12)) qInt ?_
 refine rq (out:=Pr.bool (x1.Kind==12)) ae ?_
 refine am (b:=x1.Kind==12) rfl (fun hc25=> ?_) (fun hc25=> ?_)
 ·replace h:=iteT hc25 h
  refine W_rs ?_
  refine rq (out:=(ab).val x1) (aw (R:=ab) (a:=x1) (R':=ab) 0 ty24 (Sub.refl _)) ?_
  obtain⟨x26,hx26,h⟩:=af h
  refine rq (out:=ah x26) (av (jb x1 0 0 _ hx26)) ?_
  obtain⟨x27,hx27,h⟩:=af h
  refine rq (out:=ah x27) (cf hx27) ?_
  obtain⟨x28,hx28,h⟩:=af h
  refine rq (out:=ah x28) (cf hx28) ?_
  refine rq (out:=ah x28) ae ?_
  refine rq (out:=Pr.bool true) ae ?_
  obtain rfl:=Option.some.inj h
  exact a4 ⟨rfl,aa⟩
 replace h:=iteF hc25 h
 refine W_rs ?_
 refine rq (out:=Pr.bool (x1.Kind==10)) qInt ?_
 refine rq (out:=Pr.bool (x1.Kind==10)) ae ?_
 refine am (b:=x1.Kind==10) rfl (fun hc29=> ?_) (fun hc29=> ?_)
 ·replace h:=iteT hc29 h
  refine a8 (fun e C=>∃(x34:List UInt8),cq R x34=some r/\At [(4,ah x34),(5,Pr.bool true)] [Own.box b3 ab x1] e C) ?_ ?_
  ·rintro e C ⟨x34,h,hat3⟩
   refine W_at hat3 ?_
   clear hat3
   unfold cq at h
   obtain rfl:=Option.some.inj h
   exact a4 ⟨rfl,aa⟩
  refine fa 10 hmx (by kernel_rfl) (by kernel_rfl) ?_
  refine qq (out:=(ab).val x1) (aw (R:=ab) (a:=x1) (R':=ab) 0 ty24 (Sub.refl _)) ?_
  obtain⟨x30,hx30,h⟩:=af h
  refine qq (out:=ah x30) (av (jb x1 0 0 _ hx30)) ?_
  obtain⟨x31,hx31,h⟩:=af h
  refine qq (out:=ah x31) (cf hx31) ?_
  obtain⟨x32,hx32,h⟩:=af h
  refine qq (out:=ah x32) (cf hx32) ?_
  refine qq (out:=(ab).val x1) (aw (R:=ab) (a:=x1) (R':=ab) 0 ty24 (Sub.refl _)) ?_
  refine qq (out:=ah x2) ag ?_
  obtain⟨x33,hx33,h⟩:=af h
  refine qq (out:=ah x33) (av (ih.1 x1 1 x2 _ hx33)) ?_
  obtain⟨x34,hx34,h⟩:=af h
  refine qq (out:=ah x34) (cf hx34) ?_
  refine qq (out:=ah x34) ae ?_
  refine qq (out:=Pr.bool true) ae ?_
  exact⟨x34,h,⟨⟨aa,aa,trivial⟩,Pick.refl _⟩⟩
 replace h:=iteF hc29 h
 refine W_rs ?_
 refine rq (out:=Pr.bool (x1.Kind==9)) qInt ?_
 refine rq (out:=Pr.bool (x1.Kind==9)) ae ?_
 refine am (b:=x1.Kind==9) rfl (fun hc35=> ?_) (fun hc35=> ?_)
 ·replace h:=iteT hc35 h
  refine a8 (fun e C=>∃(x40:List UInt8),ref13_line_j5 R x1 x2 x40=some r/\At [(1,ah x2),(2,ao b3 0),(6,ah x40)] [Own.box b3 ab x1] e C) ?_ ?_
  ·rintro e C ⟨x40,h,hat5⟩
   refine W_at hat5 ?_
   clear hat5
   unfold ref13_line_j5 at h
   refine a8 (fun e C=>∃(x45:List UInt8),co R x45=some r/\At [(6,ah x45)] [Own.box b3 ab x1] e C) ?_ ?_
   ·rintro e C ⟨x45,h,hat4⟩
    refine W_at hat4 ?_
    clear hat4
    unfold co at h
    refine W_rs ?_
    refine rq (out:=ah x45) ag ?_
    refine rq (out:=ah x45) ae ?_
    refine rq (out:=Pr.bool true) ae ?_
    obtain rfl:=Option.some.inj h
    exact a4 ⟨rfl,aa⟩
   refine W_rs ?_
   refine rq (out:=ao b3 8) (aq cp) ?_
   refine rq (out:=aj ab x1.Kids) (aw (R:=ab) (a:=x1) (R':=ax ab) 0 ty22 ar) ?_
   refine rq (out:=Pr.i64 (x1.Kids.length:Int)) (dz rfl Tryz.underlying22) ?_
   refine rq (out:=Pr.bool (decide ((x1.Kids.length:Int)>2))) qInt ?_
   refine am (b:=decide ((x1.Kids.length:Int)>2)) rfl (fun hc41=> ?_) (fun hc41=> ?_)
   ·replace h:=iteT hc41 h
    refine W_r ?_
    refine rq (out:=ah x40) ag ?_
    obtain⟨x42,hx42,h⟩:=af h
    refine rq (out:=ah x42) (cf hx42) ?_
    refine rq (out:=(ab).val x1) (aw (R:=ab) (a:=x1) (R':=ab) 0 ty24 (Sub.refl _)) ?_
    refine rq (out:=ah x2) ag ?_
    obtain⟨x43,hx43,h⟩:=af h
    refine rq (out:=ah x43) (av (ih.1 x1 2 x2 _ hx43)) ?_
    obtain⟨x44,hx44,h⟩:=af h
    refine rq (out:=ah x44) (cf hx44) ?_
    refine rq (out:=ah x44) ae ?_
    exact⟨x44,h,⟨⟨aa,trivial⟩,Pick.refl _⟩⟩
   replace h:=iteF hc41 h
   refine au ?_
   exact⟨x40,h,⟨⟨aa,trivial⟩,Pick.refl _⟩⟩
  refine fa 9 hmx (by kernel_rfl) (by kernel_rfl) ?_
  refine qq (out:=(ab).val x1) (aw (R:=ab) (a:=x1) (R':=ab) 0 ty24 (Sub.refl _)) ?_
  obtain⟨x36,hx36,h⟩:=af h
  refine qq (out:=ah x36) (av (jb x1 0 0 _ hx36)) ?_
  obtain⟨x37,hx37,h⟩:=af h
  refine qq (out:=ah x37) (cf hx37) ?_
  obtain⟨x38,hx38,h⟩:=af h
  refine qq (out:=ah x38) (cf hx38) ?_
  refine qq (out:=(ab).val x1) (aw (R:=ab) (a:=x1) (R':=ab) 0 ty24 (Sub.refl _)) ?_
  refine qq (out:=ah x2) ag ?_
  obtain⟨x39,hx39,h⟩:=af h
  refine qq (out:=ah x39) (av (ih.1 x1 1 x2 _ hx39)) ?_
  obtain⟨x40,hx40,h⟩:=af h
  refine qq (out:=ah x40) (cf hx40) ?_
  refine qq (out:=ah x40) ae ?_
  exact⟨x40,h,⟨⟨aa,aa,aa,trivial⟩,Pick.refl _⟩⟩
 replace h:=iteF hc35 h
 refine W_rs ?_
 refine rq (out:=Pr.bool (x1.Kind==5)) qInt ?_
 refine rq (out:=Pr.bool (x1.Kind==5)) ae ?_
 refine am (b:=x1.Kind==5) rfl (fun hc46=> ?_) (fun hc46=> ?_)
 ·replace h:=iteT hc46 h
  refine W_rs ?_
  refine rq (out:=ao b3 8) (aq cp) ?_
  refine rq (out:=aj ab x1.Kids) (aw (R:=ab) (a:=x1) (R':=ax ab) 0 ty22 ar) ?_
  refine rq (out:=ah x2) ag ?_
  obtain⟨x47,hx47,h⟩:=af h
  refine rq (out:=ah x47) (av (ih.2.1 x1.Kids x2 _ hx47)) ?_
  refine rq (out:=ah x47) ae ?_
  refine rq (out:=Pr.bool true) ae ?_
  obtain rfl:=Option.some.inj h
  exact a4 ⟨rfl,aa⟩
 replace h:=iteF hc46 h
 refine au ?_
 refine W_rs ?_
 refine rq (out:=ah []) ae ?_
 refine rq (out:=Pr.bool false) ae ?_
 obtain rfl:=Option.some.inj h
 exact a4 ⟨rfl,aa⟩
theorem rec_ref13_belongs_ok :∀n,fc (bx n):=by
 intro n
 induction n with
 |zero=>exact⟨(fun x1 x2 x3 r h=>nomatch (show none=some r from h)),(fun x1 x2 r h=>nomatch (show none=some r from h)),(fun x1 x2 r h=>nomatch (show none=some r from h)),(fun x1 x2 r h=>nomatch (show none=some r from h))⟩
 |succ n ih=>exact⟨(fun x1 x2 x3 r h=>F_ref13_belongs_step (bx n) ih x1 x2 x3 r h),(fun x1 x2 r h=>F_ref13_blocked_step (bx n) ih x1 x2 r h),(fun x1 x2 r h=>F_ref13_Statement_step (bx n) ih x1 x2 r h),(fun x1 x2 r h=>F_ref13_line_step (bx n) ih x1 x2 r h)⟩
theorem ref13_belongs_ok (x1:ApiNode) (x2:Int) (x3:List UInt8) (r:(List UInt8)) (h:ref13_belongs x1 x2 x3=some r):FnP Tryz.prog 51 [(ab).val x1,Pr.i64 x2,ah x3] (ah r):=(rec_ref13_belongs_ok 1048576).1 x1 x2 x3 r h
end Go.Proofs.YtgkcoicaopilhaaGreatDoor
