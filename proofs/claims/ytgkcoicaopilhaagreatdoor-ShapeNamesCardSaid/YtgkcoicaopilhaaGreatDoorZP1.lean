/- The code comes to what these functions say (printed by wip/gen/gen.py). -/
import Derived.Test.YtgkcoicaopilhaaGreatDoorZP
import Derived.Test.YtgkcoicaopilhaaGreatDoorZT
set_option linter.unusedSimpArgs false
set_option linter.unusedVariables false
set_option linter.unusedSectionVars false
set_option linter.unusedSectionVars false
set_option maxRecDepth 100000
set_option maxHeartbeats 4000000
namespace Go.Proofs.YtgkcoicaopilhaaGreatDoor
open Go Go.Cn
def fk (R:bt):Prop:=(∀(x1:ApiNode) (x2:Int) (x3:List UInt8) (r:(List UInt8)),R.1 x1 x2 x3=some r->FnP Tryz.prog 50 [(ab).val x1,Pr.i64 x2,ai x3] (ai r))/\(∀(x1:List ApiNode) (x2:List UInt8) (r:(List UInt8)),R.2.1 x1 x2=some r->FnP Tryz.prog 72 [aj ab x1,ai x2] (ai r))/\(∀(x1:ApiNode) (x2:List UInt8) (r:(List UInt8)),R.2.2.1 x1 x2=some r->FnP Tryz.prog 98 [(ab).val x1,ai x2] (ai r))/\(∀(x1:ApiNode) (x2:List UInt8) (r:(List UInt8)),R.2.2.2 x1 x2=some r->FnP Tryz.prog 112 [(ab).val x1,ai x2] (ai r))
theorem F_print_belongs_step (R:bt) (ih:fk R) (x1:ApiNode) (x2:Int) (x3:List UInt8) (r:(List UInt8)) (h:ie R x1 x2 x3=some r):FnP Tryz.prog 50 [(ab).val x1,Pr.i64 x2,ai x3] (ai r):=by
 refine bo (n:=39) (rs:=[6]) Tryz.func50 rfl Tryz.ntmps50 ⟨by decide,Tryz.results50⟩ (by decide) (fun s0=> ?_)
 unfold ie at h
 refine W_rs ?_
 refine rBox (R:=ab) (a:=x1) rfl (fun b4=> ?_)
 refine rq (out:=ai []) ae ?_
 refine a5 ?_
 refine az ?_
 refine W_rs ?_
 refine rq (out:=Pr.i64 x2) ag ?_
 refine rq (out:=ap b4 8) (a4 e8) ?_
 refine rq (out:=aj ab x1.Kids) (a8 (R:=ab) (a:=x1) (R':=a9 ab) 0 ty22 bi) ?_
 refine rq (out:=Pr.i64 (x1.Kids.length:Int)) (fi rfl Tryz.underlying22) ?_
 refine rq (out:=Pr.bool (decide (x2≥(x1.Kids.length:Int)))) qInt ?_
 refine rq (out:=Pr.bool (decide (x2≥(x1.Kids.length:Int)))) ae ?_
 refine ao (b:=decide (x2≥(x1.Kids.length:Int))) rfl (fun hc5=> ?_) (fun hc5=> ?_)
 ·replace h:=iteT hc5 h
  refine W_rs ?_
  refine rq (out:=ai x3) ag ?_
  obtain⟨x6,hx6,h⟩:=af h
  refine rq (out:=ai x6) (mc (ih.2.1 [] x3 _ hx6) ⟨da _,aa,trivial⟩) ?_
  refine rq (out:=ai x6) ae ?_
  obtain rfl:=Option.some.inj h
  exact a6 ⟨rfl,aa⟩
 replace h:=iteF hc5 h
 refine W_rs ?_
 refine rq (out:=ap b4 8) (a4 e8) ?_
 refine rq (out:=aj ab x1.Kids) (a8 (R:=ab) (a:=x1) (R':=a9 ab) 0 ty22 bi) ?_
 refine rq (out:=Pr.i64 x2) ag ?_
 obtain⟨x7,hx7,h⟩:=af h
 refine rq (out:=bj ab x7) (ef (R:=ab) (l:=x1.Kids) Tryz.underlying22 Tryz.sizeOf24 hx7) ?_
 refine rq (out:=bj (Rp.int .i64) x7.Kind) (e7 (R:=ab) (a:=x7) md c8) ?_
 refine rq (out:=Pr.i64 x7.Kind) (c5 (R:=Rp.int .i64) (a:=x7.Kind) ty3) ?_
 refine rq (out:=Pr.bool (x7.Kind==5)) qInt ?_
 refine rq (out:=Pr.bool (x7.Kind==5)) ae ?_
 refine ao (b:=x7.Kind==5) rfl (fun hc8=> ?_) (fun hc8=> ?_)
 ·replace h:=iteT hc8 h
  refine W_rs ?_
  refine rq (out:=ap b4 8) (a4 e8) ?_
  refine rq (out:=aj ab x1.Kids) (a8 (R:=ab) (a:=x1) (R':=a9 ab) 0 ty22 bi) ?_
  refine rq (out:=Pr.i64 x2) ag ?_
  obtain⟨x9,hx9,h⟩:=af h
  refine rq (out:=bj ab x9) (ef (R:=ab) (l:=x1.Kids) Tryz.underlying22 Tryz.sizeOf24 hx9) ?_
  refine rq (out:=bj (a9 ab) x9.Kids) (e7 (R:=ab) (a:=x9) e8 bi) ?_
  refine rq (out:=aj ab x9.Kids) (c5 (R:=a9 ab) (a:=x9.Kids) ty22) ?_
  refine rq (out:=ai x3) ag ?_
  obtain⟨x10,hx10,h⟩:=af h
  refine rq (out:=ai x10) (aw (ih.2.1 x9.Kids x3 _ hx10)) ?_
  refine rq (out:=ai x10) ae ?_
  obtain rfl:=Option.some.inj h
  exact a6 ⟨rfl,aa⟩
 replace h:=iteF hc8 h
 refine au ?_
 refine W_rs ?_
 refine rq (out:=ap b4 8) (a4 e8) ?_
 refine rq (out:=aj ab x1.Kids) (a8 (R:=ab) (a:=x1) (R':=a9 ab) 0 ty22 bi) ?_
 refine rq (out:=Pr.i64 x2) ag ?_
 refine rq (out:=Pr.i64 x2) ag ?_
 refine rq (out:=Pr.i64 (w64 (x2+1))) qInt ?_
 obtain⟨x11,hx11,h⟩:=af h
 refine rq (out:=aj ab x11) (qLSubLH Tryz.underlying22 Tryz.sizeOf24 hx11) ?_
 refine rq (out:=ai x3) ag ?_
 obtain⟨x12,hx12,h⟩:=af h
 refine rq (out:=ai x12) (aw (ih.2.1 x11 x3 _ hx12)) ?_
 refine rq (out:=ai x12) ae ?_
 obtain rfl:=Option.some.inj h
 exact a6 ⟨rfl,aa⟩
theorem F_print_block_step (R:bt) (ih:fk R) (x1:List ApiNode) (x2:List UInt8) (r:(List UInt8)) (h:ma R x1 x2=some r):FnP Tryz.prog 72 [aj ab x1,ai x2] (ai r):=by
 refine bo (n:=25) (rs:=[4]) Tryz.func72 rfl Tryz.ntmps72 ⟨by decide,Tryz.results72⟩ (by decide) (fun s0=> ?_)
 unfold ma at h
 refine W_rs ?_
 refine rq (out:=ai []) ae ?_
 refine W_rs ?_
 refine rq (out:=ai ([123,10]:List UInt8)) ae ?_
 refine a5 ?_
 refine W_rs ?_
 refine rq (out:=aj ab x1) ag ?_
 refine rq (out:=Pr.i64 (x1.length:Int)) (fi rfl Tryz.underlying22) ?_
 refine rq (out:=Pr.i64 0) ag ?_
 refine az ?_
 obtain⟨z2l,hz2,h⟩:=af h
 obtain⟨n2,hN2⟩:=cc hz2
 clear hz2
 refine du 0 (fun e C=>∃(x3:List UInt8),print_block_k1 R x2 x3=some r/\At [(1,ai x2),(5,ai x3)] [] e C) ?_ ?_
 ·rintro e C ⟨x3,h,hat1⟩
  refine W_at hat1 ?_
  clear hat1
  unfold print_block_k1 at h
  refine W_rs ?_
  refine rq (out:=ai x3) ag ?_
  refine rq (out:=ai x2) ag ?_
  obtain⟨x13,hx13,h⟩:=af h
  refine rq (out:=ai x13) (ew hx13) ?_
  obtain⟨x14,hx14,h⟩:=af h
  refine rq (out:=ai x14) (ew hx14) ?_
  refine rq (out:=ai x14) ae ?_
  obtain rfl:=Option.some.inj h
  exact a6 ⟨rfl,aa⟩
 refine eh (fun m e C=>∃(x3:List UInt8),∃(x4:Int),en (fun s=>gr R x1 x2 s.1 s.2) m (x3,x4)=some z2l/\At [(1,ai x2),(5,ai x3),(8,aj ab x1),(9,Pr.i64 (x1.length:Int)),(10,Pr.i64 x4)] [] e C) n2 ⟨([123,10]:List UInt8),0,hN2,⟨⟨aa,aa,aa,aa,aa,trivial⟩,Pick.refl _⟩⟩ ?_
 clear hN2
 rintro m e C ⟨x3,x4,hN2,hatl2⟩
 refine W_at hatl2 ?_
 clear hatl2
 obtain⟨m2,w2l,rfl,h2l,hn2,ho2⟩:=bx hN2
 clear hN2
 replace h2l:gr R x1 x2 x3 x4=some w2l:=h2l
 unfold gr at h2l
 refine W_rs ?_
 refine rq (out:=Pr.bool (decide (x4<(x1.length:Int)))) qInt ?_
 refine a5 ?_
 refine ao (b:=decide (x4<(x1.length:Int))) rfl (fun hc7=> ?_) (fun hc7=> ?_)
 ·replace h2l:=iteT hc7 h2l
  refine au ?_
  refine a5 ?_
  refine az ?_
  refine W_rs ?_
  obtain⟨x8,hx8,h2l⟩:=af h2l
  refine rq (out:=bj ab x8) (ef (R:=ab) (l:=x1) Tryz.underlying22 Tryz.sizeOf24 hx8) ?_
  refine rq (out:=(ab).val x8) (c5 (R:=ab) (a:=x8) ty24) ?_
  refine cb (R:=ab) (z:=(ApiNode.mk 0 [] [] 0 0 0 0 0 [])) Tryz.zeroValue24 (fun _=>(by rw[al];exact⟨_,⟨_,_,rfl,rfl,⟨_,_,rfl,rfl,⟨_,_,rfl,rfl,⟨_,_,rfl,rfl,⟨_,_,rfl,rfl,⟨_,_,rfl,rfl,⟨_,_,rfl,rfl,⟨_,_,rfl,rfl,⟨_,_,rfl,⟨_,rfl,none,0,rfl,⟨Nat.le_refl _,fun _=>rfl⟩,.inl rfl⟩,rfl⟩⟩⟩⟩⟩⟩⟩⟩⟩,rfl⟩)) (fun b9=> ?_)
  refine aq (R:=ab) (R':=ab) (a:=(ApiNode.mk 0 [] [] 0 0 0 0 0 [])) (y:=x8) 0 Tryz.sizeOf24 (Upd.refl _) ?_
  refine W_r ?_
  refine rq (out:=ai x3) ag ?_
  refine rq (out:=(ab).val x8) (a8 (R:=ab) (a:=x8) (R':=ab) 0 ty24 (Sub.refl _)) ?_
  refine rq (out:=ai x2) ag ?_
  obtain⟨x10,hx10,h2l⟩:=af h2l
  refine rq (out:=ai x10) (ew hx10) ?_
  obtain⟨x11,hx11,h2l⟩:=af h2l
  refine rq (out:=ai x11) (aw (ih.2.2.1 x8 x10 _ hx11)) ?_
  obtain⟨x12,hx12,h2l⟩:=af h2l
  refine rq (out:=ai x12) (ew hx12) ?_
  refine rq (out:=ai x12) ae ?_
  refine W_r ?_
  refine rq (out:=Pr.i64 (w64 (x4+1))) qInt ?_
  refine rq (out:=Pr.i64 (w64 (x4+1))) ag ?_
  exact⟨m2,Nat.lt_succ_self _,x12,w64 (x4+1),hn2 _ (Option.some.inj h2l).symm,⟨⟨aa,aa,aa,aa,aa,trivial⟩,Pick.of [] rfl⟩⟩
 replace h2l:=iteF hc7 h2l
 refine dg ?_
 obtain rfl:=ho2 _ (Option.some.inj h2l).symm
 exact⟨x3,h,⟨⟨aa,aa,trivial⟩,Pick.refl _⟩⟩
theorem F_print_Statement_step (R:bt) (ih:fk R) (x1:ApiNode) (x2:List UInt8) (r:(List UInt8)) (h:jl R x1 x2=some r):FnP Tryz.prog 98 [(ab).val x1,ai x2] (ai r):=by
 refine bo (n:=15) (rs:=[4]) Tryz.func98 rfl Tryz.ntmps98 ⟨by decide,Tryz.results98⟩ (by decide) (fun s0=> ?_)
 unfold jl at h
 refine W_rs ?_
 refine rBox (R:=ab) (a:=x1) rfl (fun b3=> ?_)
 refine rq (out:=ai []) ae ?_
 refine W_rs ?_
 refine rq (out:=(ab).val x1) (a8 (R:=ab) (a:=x1) (R':=ab) 0 ty24 (Sub.refl _)) ?_
 refine rq (out:=ai x2) ag ?_
 obtain⟨x4,hx4,h⟩:=af h
 refine rq (out:=ai x4) (aw (ih.2.2.2 x1 x2 _ hx4)) ?_
 refine rq (out:=ai x4) ae ?_
 refine a5 ?_
 refine W_rs ?_
 refine rq (out:=ai x4) ag ?_
 refine rq (out:=Pr.bool (x4==[])) qStr ?_
 refine ao (b:=x4==[]) rfl (fun hc5=> ?_) (fun hc5=> ?_)
 ·replace h:=iteT hc5 h
  refine W_rs ?_
  refine rq (out:=ai []) ae ?_
  obtain rfl:=Option.some.inj h
  exact a6 ⟨rfl,aa⟩
 replace h:=iteF hc5 h
 refine au ?_
 refine W_rs ?_
 refine rq (out:=ai x2) ag ?_
 refine rq (out:=ai x4) ag ?_
 obtain⟨x6,hx6,h⟩:=af h
 refine rq (out:=ai x6) (ew hx6) ?_
 obtain⟨x7,hx7,h⟩:=af h
 refine rq (out:=ai x7) (ew hx7) ?_
 refine rq (out:=ai x7) ae ?_
 obtain rfl:=Option.some.inj h
 exact a6 ⟨rfl,aa⟩
theorem F_print_line_step (R:bt) (ih:fk R) (x1:ApiNode) (x2:List UInt8) (r:(List UInt8)) (h:d8 R x1 x2=some r):FnP Tryz.prog 112 [(ab).val x1,ai x2] (ai r):=by
 refine bo (n:=84) (rs:=[4]) Tryz.func112 rfl Tryz.ntmps112 ⟨by decide,Tryz.results112⟩ (by decide) (fun s0=> ?_)
 unfold d8 at h
 refine W_rs ?_
 refine rBox (R:=ab) (a:=x1) rfl (fun b3=> ?_)
 refine rq (out:=ai []) ae ?_
 refine W_rs ?_
 refine rq (out:=(ab).val x1) (a8 (R:=ab) (a:=x1) (R':=ab) 0 ty24 (Sub.refl _)) ?_
 obtain⟨x4,hx4,h⟩:=af h
 refine rq (out:=ai x4) (aw (print_kid_ok x1 0 0 _ hx4)) ?_
 refine rq (out:=ai x4) ae ?_
 refine a5 ?_
 refine W_rs ?_
 refine rq (out:=ap b3 0) (a4 md) ?_
 refine rq (out:=Pr.i64 x1.Kind) (a8 (R:=ab) (a:=x1) (R':=Rp.int .i64) 0 ty3 c8) ?_
 refine az ?_
 refine W_rs ?_
 refine rq (out:=Pr.bool (x1.Kind==6)) qInt ?_
 refine rq (out:=Pr.bool (x1.Kind==6)) ae ?_
 refine ao (b:=x1.Kind==6) rfl (fun hc5=> ?_) (fun hc5=> ?_)
 ·replace h:=iteT hc5 h
  refine W_rs ?_
  refine rq (out:=ap b3 2) (a4 fld24_2) ?_
  refine rq (out:=ai x1.Type_) (a8 (R:=ab) (a:=x1) (R':=am) 0 ty9 ib) ?_
  obtain⟨x6,hx6,h⟩:=af h
  refine rq (out:=ai x6) (ew hx6) ?_
  refine rq (out:=ap b3 1) (a4 gl) ?_
  refine rq (out:=ai x1.Text) (a8 (R:=ab) (a:=x1) (R':=am) 0 ty9 ct) ?_
  obtain⟨x7,hx7,h⟩:=af h
  refine rq (out:=ai x7) (ew hx7) ?_
  obtain⟨x8,hx8,h⟩:=af h
  refine rq (out:=ai x8) (ew hx8) ?_
  refine rq (out:=ai x4) ag ?_
  obtain⟨x9,hx9,h⟩:=af h
  refine rq (out:=ai x9) (ew hx9) ?_
  obtain⟨x10,hx10,h⟩:=af h
  refine rq (out:=ai x10) (ew hx10) ?_
  refine rq (out:=ai x10) ae ?_
  obtain rfl:=Option.some.inj h
  exact a6 ⟨rfl,aa⟩
 replace h:=iteF hc5 h
 refine W_rs ?_
 refine rq (out:=Pr.bool (x1.Kind==7)) qInt ?_
 refine rq (out:=Pr.bool (x1.Kind==7)) ae ?_
 refine ao (b:=x1.Kind==7) rfl (fun hc11=> ?_) (fun hc11=> ?_)
 ·replace h:=iteT hc11 h
  refine W_rs ?_
  refine rq (out:=ai x4) ag ?_
  obtain⟨x12,hx12,h⟩:=af h
  refine rq (out:=ai x12) (ew hx12) ?_
  refine rq (out:=(ab).val x1) (a8 (R:=ab) (a:=x1) (R':=ab) 0 ty24 (Sub.refl _)) ?_
  obtain⟨x13,hx13,h⟩:=af h
  refine rq (out:=ai x13) (aw (print_kid_ok x1 1 0 _ hx13)) ?_
  obtain⟨x14,hx14,h⟩:=af h
  refine rq (out:=ai x14) (ew hx14) ?_
  obtain⟨x15,hx15,h⟩:=af h
  refine rq (out:=ai x15) (ew hx15) ?_
  refine rq (out:=ai x15) ae ?_
  obtain rfl:=Option.some.inj h
  exact a6 ⟨rfl,aa⟩
 replace h:=iteF hc11 h
 refine W_rs ?_
 refine rq (out:=Pr.bool (x1.Kind==8)) qInt ?_
 refine rq (out:=Pr.bool (x1.Kind==8)) ae ?_
 refine ao (b:=x1.Kind==8) rfl (fun hc16=> ?_) (fun hc16=> ?_)
 ·replace h:=iteT hc16 h
  refine W_rs ?_
  refine rq (out:=ai x4) ag ?_
  obtain⟨x17,hx17,h⟩:=af h
  refine rq (out:=ai x17) (ew hx17) ?_
  refine rq (out:=ai x17) ae ?_
  obtain rfl:=Option.some.inj h
  exact a6 ⟨rfl,aa⟩
 replace h:=iteF hc16 h
 refine W_rs ?_
 refine rq (out:=Pr.bool (x1.Kind==11)) qInt ?_
 refine rq (out:=Pr.bool (x1.Kind==11)) ae ?_
 refine ao (b:=x1.Kind==11) rfl (fun hc18=> ?_) (fun hc18=> ?_)
 ·replace h:=iteT hc18 h
  refine a5 ?_
  refine W_rs ?_
  refine rq (out:=ap b3 8) (a4 e8) ?_
  refine rq (out:=aj ab x1.Kids) (a8 (R:=ab) (a:=x1) (R':=a9 ab) 0 ty22 bi) ?_
  refine rq (out:=Pr.i64 (x1.Kids.length:Int)) (fi rfl Tryz.underlying22) ?_
  refine rq (out:=Pr.bool (decide ((x1.Kids.length:Int)>0))) qInt ?_
  refine ao (b:=decide ((x1.Kids.length:Int)>0)) rfl (fun hc19=> ?_) (fun hc19=> ?_)
  ·replace h:=iteT hc19 h
   refine W_rs ?_
   refine rq (out:=ai x4) ag ?_
   obtain⟨x20,hx20,h⟩:=af h
   refine rq (out:=ai x20) (ew hx20) ?_
   obtain⟨x21,hx21,h⟩:=af h
   refine rq (out:=ai x21) (ew hx21) ?_
   refine rq (out:=ai x21) ae ?_
   obtain rfl:=Option.some.inj h
   exact a6 ⟨rfl,aa⟩
  replace h:=iteF hc19 h
  refine au ?_
  refine W_rs ?_
  refine rq (out:=ai ([114,101,116,117,114,110,59]:List UInt8)) ae ?_
  obtain rfl:=Option.some.inj h
  exact a6 ⟨rfl,aa⟩
 replace h:=iteF hc18 h
 refine W_rs ?_
 refine rq (out:=Pr.bool (x1.Kind==12)) qInt ?_
 refine rq (out:=Pr.bool (x1.Kind==12)) ae ?_
 refine ao (b:=x1.Kind==12) rfl (fun hc22=> ?_) (fun hc22=> ?_)
 ·replace h:=iteT hc22 h
  refine W_rs ?_
  refine rq (out:=ai x4) ag ?_
  obtain⟨x23,hx23,h⟩:=af h
  refine rq (out:=ai x23) (ew hx23) ?_
  obtain⟨x24,hx24,h⟩:=af h
  refine rq (out:=ai x24) (ew hx24) ?_
  refine rq (out:=ai x24) ae ?_
  obtain rfl:=Option.some.inj h
  exact a6 ⟨rfl,aa⟩
 replace h:=iteF hc22 h
 refine W_rs ?_
 refine rq (out:=Pr.bool (x1.Kind==10)) qInt ?_
 refine rq (out:=Pr.bool (x1.Kind==10)) ae ?_
 refine ao (b:=x1.Kind==10) rfl (fun hc25=> ?_) (fun hc25=> ?_)
 ·replace h:=iteT hc25 h
  refine W_rs ?_
  refine rq (out:=ai x4) ag ?_
  obtain⟨x26,hx26,h⟩:=af h
  refine rq (out:=ai x26) (ew hx26) ?_
  obtain⟨x27,hx27,h⟩:=af h
  refine rq (out:=ai x27) (ew hx27) ?_
  refine rq (out:=(ab).val x1) (a8 (R:=ab) (a:=x1) (R':=ab) 0 ty24 (Sub.refl _)) ?_
  refine rq (out:=ai x2) ag ?_
  obtain⟨x28,hx28,h⟩:=af h
  refine rq (out:=ai x28) (aw (ih.1 x1 1 x2 _ hx28)) ?_
  obtain⟨x29,hx29,h⟩:=af h
  refine rq (out:=ai x29) (ew hx29) ?_
  refine rq (out:=ai x29) ae ?_
  obtain rfl:=Option.some.inj h
  exact a6 ⟨rfl,aa⟩
 replace h:=iteF hc25 h
 refine W_rs ?_
 refine rq (out:=Pr.bool (x1.Kind==9)) qInt ?_
 refine rq (out:=Pr.bool (x1.Kind==9)) ae ?_
 refine ao (b:=x1.Kind==9) rfl (fun hc30=> ?_) (fun hc30=> ?_)
 ·replace h:=iteT hc30 h
  refine W_rs ?_
  refine rq (out:=ai x4) ag ?_
  obtain⟨x31,hx31,h⟩:=af h
  refine rq (out:=ai x31) (ew hx31) ?_
  obtain⟨x32,hx32,h⟩:=af h
  refine rq (out:=ai x32) (ew hx32) ?_
  refine rq (out:=(ab).val x1) (a8 (R:=ab) (a:=x1) (R':=ab) 0 ty24 (Sub.refl _)) ?_
  refine rq (out:=ai x2) ag ?_
  obtain⟨x33,hx33,h⟩:=af h
  refine rq (out:=ai x33) (aw (ih.1 x1 1 x2 _ hx33)) ?_
  obtain⟨x34,hx34,h⟩:=af h
  refine rq (out:=ai x34) (ew hx34) ?_
  refine rq (out:=ai x34) ae ?_
  refine bc (fun e C=>∃(x39:List UInt8),print_line_j1 R x39=some r/\At [(6,ai x39)] [Own.box b3 ab x1] e C) ?_ ?_
  ·rintro e C ⟨x39,h,hat1⟩
   refine W_at hat1 ?_
   clear hat1
   unfold print_line_j1 at h
   refine W_rs ?_
   refine rq (out:=ai x39) ag ?_
   refine rq (out:=ai x39) ae ?_
   obtain rfl:=Option.some.inj h
   exact a6 ⟨rfl,aa⟩
  refine W_rs ?_
  refine rq (out:=ap b3 8) (a4 e8) ?_
  refine rq (out:=aj ab x1.Kids) (a8 (R:=ab) (a:=x1) (R':=a9 ab) 0 ty22 bi) ?_
  refine rq (out:=Pr.i64 (x1.Kids.length:Int)) (fi rfl Tryz.underlying22) ?_
  refine rq (out:=Pr.bool (decide ((x1.Kids.length:Int)>2))) qInt ?_
  refine ao (b:=decide ((x1.Kids.length:Int)>2)) rfl (fun hc35=> ?_) (fun hc35=> ?_)
  ·replace h:=iteT hc35 h
   refine W_r ?_
   refine rq (out:=ai x34) ag ?_
   refine rq (out:=(ab).val x1) (a8 (R:=ab) (a:=x1) (R':=ab) 0 ty24 (Sub.refl _)) ?_
   refine rq (out:=ai x2) ag ?_
   obtain⟨x36,hx36,h⟩:=af h
   refine rq (out:=ai x36) (aw (ih.1 x1 2 x2 _ hx36)) ?_
   obtain⟨x37,hx37,h⟩:=af h
   refine rq (out:=ai x37) (ew hx37) ?_
   obtain⟨x38,hx38,h⟩:=af h
   refine rq (out:=ai x38) (ew hx38) ?_
   refine rq (out:=ai x38) ae ?_
   exact⟨x38,h,⟨⟨aa,trivial⟩,Pick.refl _⟩⟩
  replace h:=iteF hc35 h
  refine au ?_
  exact⟨x34,h,⟨⟨aa,trivial⟩,Pick.refl _⟩⟩
 replace h:=iteF hc30 h
 refine W_rs ?_
 refine rq (out:=Pr.bool (x1.Kind==5)) qInt ?_
 refine rq (out:=Pr.bool (x1.Kind==5)) ae ?_
 refine ao (b:=x1.Kind==5) rfl (fun hc40=> ?_) (fun hc40=> ?_)
 ·replace h:=iteT hc40 h
  refine W_rs ?_
  refine rq (out:=ap b3 8) (a4 e8) ?_
  refine rq (out:=aj ab x1.Kids) (a8 (R:=ab) (a:=x1) (R':=a9 ab) 0 ty22 bi) ?_
  refine rq (out:=ai x2) ag ?_
  obtain⟨x41,hx41,h⟩:=af h
  refine rq (out:=ai x41) (aw (ih.2.1 x1.Kids x2 _ hx41)) ?_
  refine rq (out:=ai x41) ae ?_
  obtain rfl:=Option.some.inj h
  exact a6 ⟨rfl,aa⟩
 replace h:=iteF hc40 h
 refine au ?_
 refine W_rs ?_
 refine rq (out:=ai []) ae ?_
 obtain rfl:=Option.some.inj h
 exact a6 ⟨rfl,aa⟩
theorem rec_print_belongs_ok :∀n,fk (bq n):=by
 intro n
 induction n with
 |zero=>exact⟨(fun x1 x2 x3 r h=>nomatch (show none=some r from h)),(fun x1 x2 r h=>nomatch (show none=some r from h)),(fun x1 x2 r h=>nomatch (show none=some r from h)),(fun x1 x2 r h=>nomatch (show none=some r from h))⟩
 |succ n ih=>exact⟨(fun x1 x2 x3 r h=>F_print_belongs_step (bq n) ih x1 x2 x3 r h),(fun x1 x2 r h=>F_print_block_step (bq n) ih x1 x2 r h),(fun x1 x2 r h=>F_print_Statement_step (bq n) ih x1 x2 r h),(fun x1 x2 r h=>F_print_line_step (bq n) ih x1 x2 r h)⟩
theorem print_belongs_ok (x1:ApiNode) (x2:Int) (x3:List UInt8) (r:(List UInt8)) (h:print_belongs x1 x2 x3=some r):FnP Tryz.prog 50 [(ab).val x1,Pr.i64 x2,ai x3] (ai r):=(rec_print_belongs_ok 1048576).1 x1 x2 x3 r h
theorem print_Member_ok (x1:ApiNode) (r:(List UInt8)) (h:jo x1=some r):FnP Tryz.prog 30 [(ab).val x1] (ai r):=by
 refine bo (n:=46) (rs:=[2]) Tryz.func30 rfl Tryz.ntmps30 ⟨by decide,Tryz.results30⟩ (by decide) (fun s0=> ?_)
 unfold jo at h
 refine W_rs ?_
 refine rBox (R:=ab) (a:=x1) rfl (fun b2=> ?_)
 refine rq (out:=ai []) ae ?_
 refine W_rs ?_
 refine rq (out:=ai ([32,32]:List UInt8)) ae ?_
 refine bc (fun e C=>∃(x5:List UInt8),jf x1 x5=some r/\At [(1,ap b2 0),(3,ai x5)] [Own.box b2 ab x1] e C) ?_ ?_
 ·rintro e C ⟨x5,h,hat1⟩
  refine W_at hat1 ?_
  clear hat1
  unfold jf at h
  refine W_rs ?_
  refine rq (out:=ai x5) ag ?_
  refine rq (out:=ap b2 2) (a4 fld24_2) ?_
  refine rq (out:=ai x1.Type_) (a8 (R:=ab) (a:=x1) (R':=am) 0 ty9 ib) ?_
  obtain⟨x6,hx6,h⟩:=af h
  refine rq (out:=ai x6) (ew hx6) ?_
  refine rq (out:=ap b2 1) (a4 gl) ?_
  refine rq (out:=ai x1.Text) (a8 (R:=ab) (a:=x1) (R':=am) 0 ty9 ct) ?_
  obtain⟨x7,hx7,h⟩:=af h
  refine rq (out:=ai x7) (ew hx7) ?_
  obtain⟨x8,hx8,h⟩:=af h
  refine rq (out:=ai x8) (ew hx8) ?_
  refine rq (out:=ai x8) ae ?_
  refine a5 ?_
  refine W_rs ?_
  refine rq (out:=ap b2 0) (a4 md) ?_
  refine rq (out:=Pr.i64 x1.Kind) (a8 (R:=ab) (a:=x1) (R':=Rp.int .i64) 0 ty3 c8) ?_
  refine az ?_
  refine W_rs ?_
  refine rq (out:=Pr.bool (x1.Kind==2)) qInt ?_
  refine rq (out:=Pr.bool (x1.Kind==2)) ae ?_
  refine ao (b:=x1.Kind==2) rfl (fun hc9=> ?_) (fun hc9=> ?_)
  ·replace h:=iteT hc9 h
   refine W_rs ?_
   refine rq (out:=ai x8) ag ?_
   obtain⟨x10,hx10,h⟩:=af h
   refine rq (out:=ai x10) (ew hx10) ?_
   refine rq (out:=ai x10) ae ?_
   obtain rfl:=Option.some.inj h
   exact a6 ⟨rfl,aa⟩
  replace h:=iteF hc9 h
  refine W_rs ?_
  refine rq (out:=Pr.bool (x1.Kind==3)) qInt ?_
  refine rq (out:=Pr.bool (x1.Kind==3)) ae ?_
  refine ao (b:=x1.Kind==3) rfl (fun hc11=> ?_) (fun hc11=> ?_)
  ·replace h:=iteT hc11 h
   refine W_rs ?_
   refine rq (out:=ap b2 8) (a4 e8) ?_
   refine rq (out:=aj ab x1.Kids) (a8 (R:=ab) (a:=x1) (R':=a9 ab) 0 ty22 bi) ?_
   refine rq (out:=Pr.i64 (x1.Kids.length:Int)) (fi rfl Tryz.underlying22) ?_
   refine rq (out:=Pr.i64 (w64 ((x1.Kids.length:Int) - 1))) qInt ?_
   refine rq (out:=Pr.i64 (if(w64 ((x1.Kids.length:Int) - 1))>0 then(w64 ((x1.Kids.length:Int) - 1))else 0)) (qMax (a:=0) (b:=w64 ((x1.Kids.length:Int) - 1))) ?_
   refine rq (out:=Pr.i64 (if(w64 ((x1.Kids.length:Int) - 1))>0 then(w64 ((x1.Kids.length:Int) - 1))else 0)) ae ?_
   refine W_rs ?_
   refine rq (out:=ap b2 8) (a4 e8) ?_
   refine rq (out:=aj ab x1.Kids) (a8 (R:=ab) (a:=x1) (R':=a9 ab) 0 ty22 bi) ?_
   refine rq (out:=Pr.i64 (if(w64 ((x1.Kids.length:Int) - 1))>0 then(w64 ((x1.Kids.length:Int) - 1))else 0)) ag ?_
   obtain⟨x12,hx12,h⟩:=af h
   refine rq (out:=aj ab x12) (qLSubH Tryz.underlying22 Tryz.sizeOf24 hx12) ?_
   obtain⟨x13,hx13,h⟩:=af h
   refine rq (out:=ai x13) (mc (print_list_ok x12 ky _ hx13) ⟨aa,(is_pfn en49 (fun _ _ hs=>by obtain⟨a0,r,rfl,rfl,hr⟩:=hs;exact print_Member_1_ok a0 r hr)),trivial⟩) ?_
   refine rq (out:=ai x13) ae ?_
   refine W_rs ?_
   refine rq (out:=ai x8) ag ?_
   refine rq (out:=ai x13) ag ?_
   obtain⟨x14,hx14,h⟩:=af h
   refine rq (out:=ai x14) (ew hx14) ?_
   obtain⟨x15,hx15,h⟩:=af h
   refine rq (out:=ai x15) (ew hx15) ?_
   refine rq (out:=(ab).val x1) (a8 (R:=ab) (a:=x1) (R':=ab) 0 ty24 (Sub.refl _)) ?_
   refine rq (out:=Pr.i64 (if(w64 ((x1.Kids.length:Int) - 1))>0 then(w64 ((x1.Kids.length:Int) - 1))else 0)) ag ?_
   obtain⟨x16,hx16,h⟩:=af h
   refine rq (out:=ai x16) (aw (print_belongs_ok x1 (if(w64 ((x1.Kids.length:Int) - 1))>0 then(w64 ((x1.Kids.length:Int) - 1))else 0) ([32,32]:List UInt8) _ hx16)) ?_
   obtain⟨x17,hx17,h⟩:=af h
   refine rq (out:=ai x17) (ew hx17) ?_
   obtain⟨x18,hx18,h⟩:=af h
   refine rq (out:=ai x18) (ew hx18) ?_
   refine rq (out:=ai x18) ae ?_
   obtain rfl:=Option.some.inj h
   exact a6 ⟨rfl,aa⟩
  replace h:=iteF hc11 h
  refine au ?_
  refine W_rs ?_
  refine rq (out:=ai []) ae ?_
  obtain rfl:=Option.some.inj h
  exact a6 ⟨rfl,aa⟩
 refine W_rs ?_
 refine rq (out:=ap b2 3) (a4 fld24_3) ?_
 refine rq (out:=Pr.i64 x1.N) (a8 (R:=ab) (a:=x1) (R':=Rp.int .i64) 0 ty2 subApiNode_N) ?_
 refine rq (out:=Pr.bool (x1.N==1)) qInt ?_
 refine ao (b:=x1.N==1) rfl (fun hc3=> ?_) (fun hc3=> ?_)
 ·replace h:=iteT hc3 h
  refine W_r ?_
  refine rq (out:=ai ([32,32]:List UInt8)) ag ?_
  obtain⟨x4,hx4,h⟩:=af h
  refine rq (out:=ai x4) (ew hx4) ?_
  refine rq (out:=ai x4) ae ?_
  exact⟨x4,h,⟨⟨aa,aa,trivial⟩,Pick.refl _⟩⟩
 replace h:=iteF hc3 h
 refine au ?_
 exact⟨([32,32]:List UInt8),h,⟨⟨aa,aa,trivial⟩,Pick.refl _⟩⟩
theorem print_Class_ok (x1:ApiNode) (r:(List UInt8)) (h:print_Class x1=some r):FnP Tryz.prog 29 [(ab).val x1] (ai r):=by
 refine bo (n:=33) (rs:=[2]) Tryz.func29 rfl Tryz.ntmps29 ⟨by decide,Tryz.results29⟩ (by decide) (fun s0=> ?_)
 unfold print_Class at h
 refine W_rs ?_
 refine rBox (R:=ab) (a:=x1) rfl (fun b2=> ?_)
 refine rq (out:=ai []) ae ?_
 refine W_rs ?_
 refine rq (out:=ap b2 1) (a4 gl) ?_
 refine rq (out:=ai x1.Text) (a8 (R:=ab) (a:=x1) (R':=am) 0 ty9 ct) ?_
 obtain⟨x3,hx3,h⟩:=af h
 refine rq (out:=ai x3) (ew hx3) ?_
 refine rq (out:=ai x3) ae ?_
 refine bc (fun e C=>∃(x7:List UInt8),kz x1 x7=some r/\At [(1,ap b2 0),(3,ai x7)] [Own.box b2 ab x1] e C) ?_ ?_
 ·rintro e C ⟨x7,h,hat3⟩
  refine W_at hat3 ?_
  clear hat3
  unfold kz at h
  refine W_rs ?_
  refine rq (out:=ai x7) ag ?_
  obtain⟨x8,hx8,h⟩:=af h
  refine rq (out:=ai x8) (ew hx8) ?_
  refine rq (out:=ai x8) ae ?_
  refine a5 ?_
  refine W_rs ?_
  refine rq (out:=ap b2 8) (a4 e8) ?_
  refine rq (out:=aj ab x1.Kids) (a8 (R:=ab) (a:=x1) (R':=a9 ab) 0 ty22 bi) ?_
  refine rq (out:=Pr.i64 (x1.Kids.length:Int)) (fi rfl Tryz.underlying22) ?_
  refine rq (out:=Pr.i64 0) ag ?_
  refine az ?_
  obtain⟨z2l,hz2,h⟩:=af h
  obtain⟨n2,hN2⟩:=cc hz2
  clear hz2
  refine du 0 (fun e C=>∃(x9:List UInt8),print_Class_k1 x9=some r/\At [(3,ai x9)] [Own.box b2 ab x1] e C) ?_ ?_
  ·rintro e C ⟨x9,h,hat1⟩
   refine W_at hat1 ?_
   clear hat1
   unfold print_Class_k1 at h
   refine W_rs ?_
   refine rq (out:=ai x9) ag ?_
   obtain⟨x18,hx18,h⟩:=af h
   refine rq (out:=ai x18) (ew hx18) ?_
   refine rq (out:=ai x18) ae ?_
   obtain rfl:=Option.some.inj h
   exact a6 ⟨rfl,aa⟩
  refine eh (fun m e C=>∃(x9:List UInt8),∃(x10:Int),en (fun s=>gt x1 s.1 s.2) m (x9,x10)=some z2l/\At [(3,ai x9),(20,aj ab x1.Kids),(21,Pr.i64 (x1.Kids.length:Int)),(22,Pr.i64 x10)] [Own.box b2 ab x1] e C) n2 ⟨x8,0,hN2,⟨⟨aa,aa,aa,aa,trivial⟩,Pick.refl _⟩⟩ ?_
  clear hN2
  rintro m e C ⟨x9,x10,hN2,hatl2⟩
  refine W_at hatl2 ?_
  clear hatl2
  obtain⟨m2,w2l,rfl,h2l,hn2,ho2⟩:=bx hN2
  clear hN2
  replace h2l:gt x1 x9 x10=some w2l:=h2l
  unfold gt at h2l
  refine W_rs ?_
  refine rq (out:=Pr.bool (decide (x10<(x1.Kids.length:Int)))) qInt ?_
  refine a5 ?_
  refine ao (b:=decide (x10<(x1.Kids.length:Int))) rfl (fun hc13=> ?_) (fun hc13=> ?_)
  ·replace h2l:=iteT hc13 h2l
   refine au ?_
   refine a5 ?_
   refine az ?_
   refine W_rs ?_
   obtain⟨x14,hx14,h2l⟩:=af h2l
   refine rq (out:=bj ab x14) (ef (R:=ab) (l:=x1.Kids) Tryz.underlying22 Tryz.sizeOf24 hx14) ?_
   refine rq (out:=(ab).val x14) (c5 (R:=ab) (a:=x14) ty24) ?_
   refine cb (R:=ab) (z:=(ApiNode.mk 0 [] [] 0 0 0 0 0 [])) Tryz.zeroValue24 (fun _=>(by rw[al];exact⟨_,⟨_,_,rfl,rfl,⟨_,_,rfl,rfl,⟨_,_,rfl,rfl,⟨_,_,rfl,rfl,⟨_,_,rfl,rfl,⟨_,_,rfl,rfl,⟨_,_,rfl,rfl,⟨_,_,rfl,rfl,⟨_,_,rfl,⟨_,rfl,none,0,rfl,⟨Nat.le_refl _,fun _=>rfl⟩,.inl rfl⟩,rfl⟩⟩⟩⟩⟩⟩⟩⟩⟩,rfl⟩)) (fun b15=> ?_)
   refine aq (R:=ab) (R':=ab) (a:=(ApiNode.mk 0 [] [] 0 0 0 0 0 [])) (y:=x14) 1 Tryz.sizeOf24 (Upd.refl _) ?_
   refine W_r ?_
   refine rq (out:=ai x9) ag ?_
   refine rq (out:=(ab).val x14) (a8 (R:=ab) (a:=x14) (R':=ab) 1 ty24 (Sub.refl _)) ?_
   obtain⟨x16,hx16,h2l⟩:=af h2l
   refine rq (out:=ai x16) (aw (print_Member_ok x14 _ hx16)) ?_
   obtain⟨x17,hx17,h2l⟩:=af h2l
   refine rq (out:=ai x17) (ew hx17) ?_
   refine rq (out:=ai x17) ae ?_
   refine W_r ?_
   refine rq (out:=Pr.i64 (w64 (x10+1))) qInt ?_
   refine rq (out:=Pr.i64 (w64 (x10+1))) ag ?_
   exact⟨m2,Nat.lt_succ_self _,x17,w64 (x10+1),hn2 _ (Option.some.inj h2l).symm,⟨⟨aa,aa,aa,aa,trivial⟩,Pick.of [0] rfl⟩⟩
  replace h2l:=iteF hc13 h2l
  refine dg ?_
  obtain rfl:=ho2 _ (Option.some.inj h2l).symm
  exact⟨x9,h,⟨⟨aa,trivial⟩,Pick.refl _⟩⟩
 refine W_rs ?_
 refine rq (out:=ap b2 2) (a4 fld24_2) ?_
 refine rq (out:=ai x1.Type_) (a8 (R:=ab) (a:=x1) (R':=am) 0 ty9 ib) ?_
 refine rq (out:=Pr.bool (!(x1.Type_==[]))) qStr ?_
 refine ao (b:= !(x1.Type_==[])) rfl (fun hc4=> ?_) (fun hc4=> ?_)
 ·replace h:=iteT hc4 h
  refine W_r ?_
  refine rq (out:=ai x3) ag ?_
  refine rq (out:=ap b2 2) (a4 fld24_2) ?_
  refine rq (out:=ai x1.Type_) (a8 (R:=ab) (a:=x1) (R':=am) 0 ty9 ib) ?_
  obtain⟨x5,hx5,h⟩:=af h
  refine rq (out:=ai x5) (ew hx5) ?_
  obtain⟨x6,hx6,h⟩:=af h
  refine rq (out:=ai x6) (ew hx6) ?_
  refine rq (out:=ai x6) ae ?_
  exact⟨x6,h,⟨⟨aa,aa,trivial⟩,Pick.refl _⟩⟩
 replace h:=iteF hc4 h
 refine au ?_
 exact⟨x3,h,⟨⟨aa,aa,trivial⟩,Pick.refl _⟩⟩
theorem shape_Of_ok (x1:ApiNode) (x2:List (List UInt8)) (r:(List UInt8)) (h:l5 x1 x2=some r):FnP Tryz.prog 12 [(ab).val x1,aj am x2] (ai r):=by
 refine bo (n:=20) (rs:=[4]) Tryz.func12 rfl Tryz.ntmps12 ⟨by decide,Tryz.results12⟩ (by decide) (fun s0=> ?_)
 unfold l5 at h
 refine W_rs ?_
 refine rBox (R:=ab) (a:=x1) rfl (fun b3=> ?_)
 refine rq (out:=ai []) ae ?_
 refine W_rs ?_
 refine rq (out:=(ab).val x1) (a8 (R:=ab) (a:=x1) (R':=ab) 0 ty24 (Sub.refl _)) ?_
 refine rq (out:=aj am x2) ag ?_
 obtain⟨x4,hx4,h⟩:=af h
 refine rq (out:=(ab).val x4) (aw (shape_Erase_ok x1 x2 _ hx4)) ?_
 refine cb (R:=ab) (z:=(ApiNode.mk 0 [] [] 0 0 0 0 0 [])) Tryz.zeroValue24 (fun _=>(by rw[al];exact⟨_,⟨_,_,rfl,rfl,⟨_,_,rfl,rfl,⟨_,_,rfl,rfl,⟨_,_,rfl,rfl,⟨_,_,rfl,rfl,⟨_,_,rfl,rfl,⟨_,_,rfl,rfl,⟨_,_,rfl,rfl,⟨_,_,rfl,⟨_,rfl,none,0,rfl,⟨Nat.le_refl _,fun _=>rfl⟩,.inl rfl⟩,rfl⟩⟩⟩⟩⟩⟩⟩⟩⟩,rfl⟩)) (fun b5=> ?_)
 refine aq (R:=ab) (R':=ab) (a:=(ApiNode.mk 0 [] [] 0 0 0 0 0 [])) (y:=x4) 1 Tryz.sizeOf24 (Upd.refl _) ?_
 refine a5 ?_
 refine W_rs ?_
 refine rq (out:=ap b3 0) (a4 md) ?_
 refine rq (out:=Pr.i64 x1.Kind) (a8 (R:=ab) (a:=x1) (R':=Rp.int .i64) 0 ty3 c8) ?_
 refine az ?_
 refine W_rs ?_
 refine rq (out:=Pr.bool (x1.Kind==1)) qInt ?_
 refine rq (out:=Pr.bool (x1.Kind==1)) ae ?_
 refine ao (b:=x1.Kind==1) rfl (fun hc6=> ?_) (fun hc6=> ?_)
 ·replace h:=iteT hc6 h
  refine W_rs ?_
  refine rq (out:=(ab).val x4) (a8 (R:=ab) (a:=x4) (R':=ab) 1 ty24 (Sub.refl _)) ?_
  obtain⟨x7,hx7,h⟩:=af h
  refine rq (out:=ai x7) (aw (print_Class_ok x4 _ hx7)) ?_
  refine rq (out:=ai x7) ae ?_
  obtain rfl:=Option.some.inj h
  exact a6 ⟨rfl,aa⟩
 replace h:=iteF hc6 h
 refine bc (fun e C=>∃(x9:Bool),shape_Of_j1 x4 x9=some r/\At [(5,ap b5 0),(15,Pr.bool x9)] [Own.box b3 ab x1,Own.box b5 ab x4] e C) ?_ ?_
 ·rintro e C ⟨x9,h,hat1⟩
  refine W_at hat1 ?_
  clear hat1
  unfold shape_Of_j1 at h
  refine ao (b:=x9) rfl (fun hc10=> ?_) (fun hc10=> ?_)
  ·replace h:=iteT hc10 h
   refine W_rs ?_
   refine rq (out:=(ab).val x4) (a8 (R:=ab) (a:=x4) (R':=ab) 1 ty24 (Sub.refl _)) ?_
   obtain⟨x11,hx11,h⟩:=af h
   refine rq (out:=ai x11) (aw (print_Member_ok x4 _ hx11)) ?_
   refine rq (out:=ai x11) ae ?_
   obtain rfl:=Option.some.inj h
   exact a6 ⟨rfl,aa⟩
  replace h:=iteF hc10 h
  refine au ?_
  refine W_rs ?_
  refine rq (out:=ai []) ae ?_
  obtain rfl:=Option.some.inj h
  exact a6 ⟨rfl,aa⟩
 refine W_rs ?_
 refine rq (out:=Pr.bool (x1.Kind==2)) qInt ?_
 refine rq (out:=Pr.bool (x1.Kind==2)) ae ?_
 refine ao (b:=x1.Kind==2) rfl (fun hc8=> ?_) (fun hc8=> ?_)
 ·replace h:=iteT hc8 h
  refine au ?_
  exact⟨x1.Kind==2,h,⟨⟨aa,aa,trivial⟩,Pick.refl _⟩⟩
 replace h:=iteF hc8 h
 refine W_r ?_
 refine rq (out:=Pr.bool (x1.Kind==3)) qInt ?_
 refine rq (out:=Pr.bool (x1.Kind==3)) ae ?_
 exact⟨x1.Kind==3,h,⟨⟨aa,aa,trivial⟩,Pick.refl _⟩⟩
theorem lex_Lex_1_ok (x1 x2 x3:Int) (x5:List ApiToken) (x8:List UInt8) (x10:Int) (b4:Nat) (v6:Value) (b7 b9:Nat) (r:(List ApiToken) × (List UInt8) × Int) (h:lex_Lex_1 x1 x2 x3 x5 x8 x10=some r):FnC Tryz.prog 52 [Pr.i64 x1,Pr.i64 x2,Pr.i64 x3,ap b4 0,ap b7 0,ap b9 0] [Own.cell b4 (Pr.is v6),Own.vec v6 ah x5 56,Own.box b7 am x8,Own.box b9 (Rp.int .i64) x10] (fun q C'=>∃w0,q=bh []/\C'=[Own.cell b4 (Pr.is w0),Own.vec w0 ah r.1 56,Own.box b7 am r.2.1,Own.box b9 (Rp.int .i64) r.2.2]):=by
 refine fnc_introP (n:=38) (rs:=[]) Tryz.func52 rfl Tryz.ntmps52 ⟨by decide,Tryz.results52⟩ (by decide) (fun s0=> ?_)
 unfold lex_Lex_1 at h
 refine bc (fun e C=>∃(x13:List ApiToken),∃(v14:Value),lex_Lex_1_j1 x8 x10 x2 x3 x13=some r/\At [(1,Pr.i64 x2),(2,Pr.i64 x3),(5,ap b9 0)] [Own.cell b4 (Pr.is v14),Own.vec v14 ah x13 56,Own.box b7 am x8,Own.box b9 (Rp.int .i64) x10] e C) ?_ ?_
 ·rintro e C ⟨x13,v14,h,hat1⟩
  refine W_at hat1 ?_
  clear hat1
  unfold lex_Lex_1_j1 at h
  refine W_r ?_
  refine rq (out:=Pr.i64 x10) (a8 (R:=Rp.int .i64) (a:=x10) (R':=Rp.int .i64) 3 ty3 (Sub.refl _)) ?_
  refine rq (out:=Pr.i64 x2) ag ?_
  refine rq (out:=Pr.i64 x3) ag ?_
  refine rq (out:=Pr.i64 (w64 (x2+x3))) qInt ?_
  refine rq (out:=Pr.i64 (w64 (x10+(w64 (x2+x3))))) qInt ?_
  refine aq (R:=Rp.int .i64) (R':=Rp.int .i64) (a:=x10) (y:=w64 (x10+(w64 (x2+x3)))) 3 Tryz.sizeOf3 (Upd.refl _) ?_
  obtain rfl:=Option.some.inj h
  exact⟨.inr rfl,_,Pick.refl _,_,aa,v14,rfl,rfl⟩
 refine jm 23 hmx (by kernel_rfl) (by kernel_rfl) ?_
 refine qq (out:=Pr.is v6) (qLoadP 0 Tryz.isAgg52) ?_
 refine qq (out:=Pr.i64 x1) ag ?_
 refine qq (out:=ai x8) (a8 (R:=am) (a:=x8) (R':=am) 2 ty9 (Sub.refl _)) ?_
 refine qq (out:=Pr.i64 x10) (a8 (R:=Rp.int .i64) (a:=x10) (R':=Rp.int .i64) 3 ty3 (Sub.refl _)) ?_
 refine qq (out:=Pr.i64 x2) ag ?_
 refine qq (out:=Pr.i64 (w64 (x10+x2))) qInt ?_
 refine qq (out:=Pr.i64 x10) (a8 (R:=Rp.int .i64) (a:=x10) (R':=Rp.int .i64) 3 ty3 (Sub.refl _)) ?_
 refine qq (out:=Pr.i64 x2) ag ?_
 refine qq (out:=Pr.i64 (w64 (x10+x2))) qInt ?_
 refine qq (out:=Pr.i64 x3) ag ?_
 refine qq (out:=Pr.i64 (w64 ((w64 (x10+x2))+x3))) qInt ?_
 obtain⟨x11,hx11,h⟩:=af h
 refine qq (out:=ai x11) (qSubLH Tryz.underlying9 hx11) ?_
 refine qq (out:=Pr.i64 x10) (a8 (R:=Rp.int .i64) (a:=x10) (R':=Rp.int .i64) 3 ty3 (Sub.refl _)) ?_
 refine qq (out:=Pr.i64 x2) ag ?_
 refine qq (out:=Pr.i64 (w64 (x10+x2))) qInt ?_
 refine qq (out:=ai x8) (a8 (R:=am) (a:=x8) (R':=am) 2 ty9 (Sub.refl _)) ?_
 refine qq (out:=Pr.i64 x10) (a8 (R:=Rp.int .i64) (a:=x10) (R':=Rp.int .i64) 3 ty3 (Sub.refl _)) ?_
 refine qq (out:=Pr.i64 x10) (a8 (R:=Rp.int .i64) (a:=x10) (R':=Rp.int .i64) 3 ty3 (Sub.refl _)) ?_
 refine qq (out:=Pr.i64 x2) ag ?_
 refine qq (out:=Pr.i64 (w64 (x10+x2))) qInt ?_
 obtain⟨x12,hx12,h⟩:=af h
 refine qq (out:=ai x12) (qSubLH Tryz.underlying9 hx12) ?_
 refine qq (out:=(ah).val (ApiToken.mk x1 x11 (w64 (x10+x2)) x12)) (qBuild st56 ⟨(ApiToken.mk x1 [] 0 []),⟨_,rfl,rfl,fun j fd hj hf=>by match j,hj with| 0,h=>exact absurd rfl h| 1,_=>cases hf;rfl| 2,_=>cases hf;rfl| 3,_=>cases hf;rfl|_+4,_=>cases hf⟩,⟨(ApiToken.mk x1 x11 0 []),⟨_,rfl,rfl,fun j fd hj hf=>by match j,hj with| 0,_=>cases hf;rfl| 1,h=>exact absurd rfl h| 2,_=>cases hf;rfl| 3,_=>cases hf;rfl|_+4,_=>cases hf⟩,⟨(ApiToken.mk x1 x11 (w64 (x10+x2)) []),⟨_,rfl,rfl,fun j fd hj hf=>by match j,hj with| 0,_=>cases hf;rfl| 1,_=>cases hf;rfl| 2,h=>exact absurd rfl h| 3,_=>cases hf;rfl|_+4,_=>cases hf⟩,⟨(ApiToken.mk x1 x11 (w64 (x10+x2)) x12),⟨_,rfl,rfl,fun j fd hj hf=>by match j,hj with| 0,_=>cases hf;rfl| 1,_=>cases hf;rfl| 2,_=>cases hf;rfl| 3,h=>exact absurd rfl h|_+4,_=>cases hf⟩,rfl⟩⟩⟩⟩) ?_
 refine qq (out:=aj ah ([(ApiToken.mk x1 x11 (w64 (x10+x2)) x12)]:List ApiToken)) (cr (R:=ah) (a:=(ApiToken.mk x1 x11 (w64 (x10+x2)) x12)) el52 (Nat.le_of_ble_eq_true rfl)) ?_
 obtain⟨x13,hx13,h⟩:=af h
 refine ip 1 el52 hx13 (fun v14=> ?_)
 refine rStoreV 0 1 Tryz.sizeOf52 ?_
 exact⟨x13,v14,h,⟨⟨aa,aa,aa,trivial⟩,Pick.refl _⟩⟩
theorem internal_stringslite_HasPrefix_ok (x1 x2:List UInt8) (r:Bool) (h:ej x1 x2=some r):FnP Tryz.prog 100 [ai x1,ai x2] (Pr.bool r):=by
 refine bo (n:=18) (rs:=[4]) Tryz.func100 rfl Tryz.ntmps100 ⟨by decide,Tryz.results100⟩ (by decide) (fun s0=> ?_)
 unfold ej at h
 refine W_rs ?_
 refine rq (out:=Pr.bool false) ae ?_
 refine bc (fun e C=>∃(x5:Bool),cw x5=some r/\At [(4,Pr.bool x5)] [] e C) ?_ ?_
 ·rintro e C ⟨x5,h,hat1⟩
  refine W_at hat1 ?_
  clear hat1
  unfold cw at h
  obtain rfl:=Option.some.inj h
  exact a6 ⟨rfl,aa⟩
 refine W_r ?_
 refine rq (out:=ai x1) ag ?_
 refine rq (out:=Pr.i64 (x1.length:Int)) (qLenS rfl Tryz.underlying9) ?_
 refine rq (out:=ai x2) ag ?_
 refine rq (out:=Pr.i64 (x2.length:Int)) (qLenS rfl Tryz.underlying9) ?_
 refine rq (out:=Pr.bool (decide ((x1.length:Int)≥(x2.length:Int)))) qInt ?_
 refine rq (out:=Pr.bool (decide ((x1.length:Int)≥(x2.length:Int)))) ag ?_
 rcases bv h with⟨hc3,h⟩|⟨hc3,h⟩
 ·refine rqg hc3 (out:=ai x1) ag ?_
  refine rqg hc3 (out:=ai x2) ag ?_
  refine rqg hc3 (out:=Pr.i64 (x2.length:Int)) (qLenS rfl Tryz.underlying9) ?_
  obtain⟨x4,hx4,h⟩:=af h
  refine rqg hc3 (out:=ai x4) (qSubH Tryz.underlying9 hx4) ?_
  refine rqg hc3 (out:=ai x2) ag ?_
  refine rqg hc3 (out:=Pr.bool (x4==x2)) qStr ?_
  refine rq (out:=Pr.bool (x4==x2)) (bu hc3) ?_
  refine rq (out:=Pr.bool (x4==x2)) ae ?_
  exact⟨x4==x2,h,⟨⟨aa,trivial⟩,Pick.refl _⟩⟩
 refine rno (neT hc3) ?_
 refine rno (neT hc3) ?_
 refine rno (neT hc3) ?_
 refine rno (neT hc3) ?_
 refine rno (neT hc3) ?_
 refine rno (neT hc3) ?_
 refine rq (out:=Pr.bool false) (bp hc3) ?_
 refine rq (out:=Pr.bool false) ae ?_
 exact⟨false,h,⟨⟨aa,trivial⟩,Pick.refl _⟩⟩
theorem mf (x1 x2:List UInt8) (r:Bool) (h:e6 x1 x2=some r):FnP Tryz.prog 74 [ai x1,ai x2] (Pr.bool r):=by
 refine bo (n:=8) (rs:=[4]) Tryz.func74 rfl Tryz.ntmps74 ⟨by decide,Tryz.results74⟩ (by decide) (fun s0=> ?_)
 unfold e6 at h
 refine W_rs ?_
 refine rq (out:=Pr.bool false) ae ?_
 refine W_rs ?_
 refine rq (out:=ai x1) ag ?_
 refine rq (out:=ai x2) ag ?_
 obtain⟨x3,hx3,h⟩:=af h
 refine rq (out:=Pr.bool x3) (aw (internal_stringslite_HasPrefix_ok x1 x2 _ hx3)) ?_
 refine rq (out:=Pr.bool x3) ae ?_
 obtain rfl:=Option.some.inj h
 exact a6 ⟨rfl,aa⟩
theorem lex_run_ok (x1:List UInt8) (x2:(Int->Option Bool)) (r:Int) (h:lex_run x1 x2=some r):FnP Tryz.prog 75 [ai x1,Pr.pfn Tryz.prog (spec94 x2)] (Pr.i64 r):=by
 refine bo (n:=21) (rs:=[4]) Tryz.func75 rfl Tryz.ntmps75 ⟨by decide,Tryz.results75⟩ (by decide) (fun s0=> ?_)
 unfold lex_run at h
 refine W_rs ?_
 refine rq (out:=Pr.i64 0) ae ?_
 refine a5 ?_
 refine W_rs ?_
 refine rq (out:=ai x1) ag ?_
 refine rq (out:=Pr.i64 (x1.length:Int)) (qLenS rfl Tryz.underlying9) ?_
 refine rq (out:=Pr.i64 0) ag ?_
 refine az ?_
 obtain⟨z2l,hz2,h⟩:=af h
 obtain⟨n2,hN2⟩:=cc hz2
 clear hz2
 refine du 0 (fun e C=>lex_run_k1 x1=some r/\At [(0,ai x1)] [] e C) ?_ ?_
 ·rintro e C ⟨h,hat1⟩
  refine W_at hat1 ?_
  clear hat1
  unfold lex_run_k1 at h
  refine W_rs ?_
  refine rq (out:=ai x1) ag ?_
  refine rq (out:=Pr.i64 (x1.length:Int)) (qLenS rfl Tryz.underlying9) ?_
  refine rq (out:=Pr.i64 (x1.length:Int)) ae ?_
  obtain rfl:=Option.some.inj h
  exact a6 ⟨rfl,aa⟩
 refine eh (fun m e C=>∃(x3:Int),en (fun s=>lex_run_l2 x1 x2 s) m x3=some z2l/\At [(0,ai x1),(1,Pr.pfn Tryz.prog (spec94 x2)),(7,Pr.i64 (x1.length:Int)),(8,Pr.i64 x3)] [] e C) n2 ⟨0,hN2,⟨⟨aa,aa,aa,aa,trivial⟩,Pick.refl _⟩⟩ ?_
 clear hN2
 rintro m e C ⟨x3,hN2,hatl2⟩
 refine W_at hatl2 ?_
 clear hatl2
 obtain⟨m2,w2l,rfl,h2l,hn2,ho2⟩:=bx hN2
 clear hN2
 replace h2l:lex_run_l2 x1 x2 x3=some w2l:=h2l
 unfold lex_run_l2 at h2l
 refine W_rs ?_
 refine rq (out:=Pr.bool (decide (x3<(x1.length:Int)))) qInt ?_
 refine a5 ?_
 refine ao (b:=decide (x3<(x1.length:Int))) rfl (fun hc5=> ?_) (fun hc5=> ?_)
 ·replace h2l:=iteT hc5 h2l
  refine au ?_
  refine a5 ?_
  refine az ?_
  refine W_rs ?_
  refine rq (out:=Pr.i64 x3) ag ?_
  refine rq (out:=Pr.i64 x3) ae ?_
  refine W_rs ?_
  refine rq (out:=Pr.pfn Tryz.prog (spec94 x2)) ag ?_
  refine rq (out:=ai x1) ag ?_
  refine rq (out:=Pr.i64 x3) ag ?_
  obtain⟨x6,hx6,h2l⟩:=af h2l
  refine rq (out:=Pr.u8 x6) (qIdxS Tryz.underlying9 hx6) ?_
  obtain⟨x7,hx7,h2l⟩:=af h2l
  refine rq (out:=Pr.bool x7) (qCallP (spec:=spec94 x2) ⟨_,_,rfl,rfl,hx7⟩) ?_
  refine rq (out:=Pr.bool (!x7)) qNot ?_
  refine ao (b:= !x7) rfl (fun hc8=> ?_) (fun hc8=> ?_)
  ·replace h2l:=iteT hc8 h2l
   refine W_rs ?_
   refine rq (out:=Pr.i64 x3) ag ?_
   refine rq (out:=Pr.i64 x3) ae ?_
   obtain rfl:=ho2 _ (Option.some.inj h2l).symm
   replace h:some x3=some r:=h
   obtain rfl:=Option.some.inj h
   exact a6 ⟨rfl,aa⟩
  replace h2l:=iteF hc8 h2l
  refine au ?_
  refine W_r ?_
  refine rq (out:=Pr.i64 (w64 (x3+1))) qInt ?_
  refine rq (out:=Pr.i64 (w64 (x3+1))) ag ?_
  exact⟨m2,Nat.lt_succ_self _,w64 (x3+1),hn2 _ (Option.some.inj h2l).symm,⟨⟨aa,aa,aa,aa,trivial⟩,Pick.refl _⟩⟩
 replace h2l:=iteF hc5 h2l
 refine dg ?_
 obtain rfl:=ho2 _ (Option.some.inj h2l).symm
 exact⟨h,⟨⟨aa,trivial⟩,Pick.refl _⟩⟩
end Go.Proofs.YtgkcoicaopilhaaGreatDoor
