/- The code comes to what these functions say (printed by wip/gen/gen.py). -/
import Derived.Test.YtackaijkmkollaaGreatDoorZP3
import Derived.Test.YtackaijkmkollaaGreatDoorZT
set_option linter.unusedSimpArgs false
set_option linter.unusedVariables false
set_option linter.unusedSectionVars false
set_option linter.unusedSectionVars false
set_option maxRecDepth 100000
set_option maxHeartbeats 4000000
namespace Go.Proofs.YtackaijkmkollaaGreatDoor
open Go Go.Cn
variable [Known]
def dx (R:aw):Prop:=(∀(x1:Int) (x3:ParseParser) (b2:Nat) (r:PX ParseWrong (ApiNode × ParseParser)),R.1 x1 x3=some r->FnX Tryz.prog 52 [al b2 0,Pr.i64 x1] [Own.box b2 ae x3] (fun q C'=>∃a9,r= .ok a9/\q=(rApiNode).val a9.1/\C'=[Own.box b2 ae a9.2]) (fun v=>∃m,r= .bad m/\v=cv m))/\(∀(x1:Int) (x3:ParseParser) (b2:Nat) (r:PX ParseWrong (ApiNode × ParseParser)),R.2.1 x1 x3=some r->FnX Tryz.prog 58 [al b2 0,Pr.i64 x1] [Own.box b2 ae x3] (fun q C'=>∃a9,r= .ok a9/\q=(rApiNode).val a9.1/\C'=[Own.box b2 ae a9.2]) (fun v=>∃m,r= .bad m/\v=cv m))/\(∀(x1:Int) (x3:ParseParser) (b2:Nat) (r:PX ParseWrong (ApiNode × ParseParser)),R.2.2.1 x1 x3=some r->FnX Tryz.prog 81 [al b2 0,Pr.i64 x1] [Own.box b2 ae x3] (fun q C'=>∃a9,r= .ok a9/\q=(rApiNode).val a9.1/\C'=[Own.box b2 ae a9.2]) (fun v=>∃m,r= .bad m/\v=cv m))/\(∀(x1:Int) (x3:ParseParser) (b2:Nat) (r:PX ParseWrong (ApiNode × ParseParser)),R.2.2.2 x1 x3=some r->FnX Tryz.prog 82 [al b2 0,Pr.i64 x1] [Own.box b2 ae x3] (fun q C'=>∃a9,r= .ok a9/\q=(rApiNode).val a9.1/\C'=[Own.box b2 ae a9.2]) (fun v=>∃m,r= .bad m/\v=cv m))
theorem F_parse_parser_block_step (R:aw) (ih:dx R) (x1:Int) (x3:ParseParser) (b2:Nat) (r:PX ParseWrong (ApiNode × ParseParser)) (h:fc R x1 x3=some r):FnX Tryz.prog 52 [al b2 0,Pr.i64 x1] [Own.box b2 ae x3] (fun q C'=>∃a9,r= .ok a9/\q=(rApiNode).val a9.1/\C'=[Own.box b2 ae a9.2]) (fun v=>∃m,r= .bad m/\v=cv m):=by
 refine d4 (n:=36) (rs:=[.cell 4 32]) Tryz.func52 rfl Tryz.ntmps52 Tryz.results52 (by decide) (fun s0=> ?_)
 unfold fc at h
 refine W_rs ?_
 refine bi (R:=rApiNode) (z:=(ApiNode.mk 0 [] [] 0 0 0 0 0 [])) Tryz.zeroValue32 (fun _=>(by rw[ap];exact⟨_,⟨_,_,rfl,rfl,⟨_,_,rfl,rfl,⟨_,_,rfl,rfl,⟨_,_,rfl,rfl,⟨_,_,rfl,rfl,⟨_,_,rfl,rfl,⟨_,_,rfl,rfl,⟨_,_,rfl,rfl,⟨_,_,rfl,⟨_,rfl,none,0,rfl,⟨Nat.le_refl _,fun _=>rfl⟩,.inl rfl⟩,rfl⟩⟩⟩⟩⟩⟩⟩⟩⟩,rfl⟩)) (fun b4=> ?_)
 refine W_rs ?_
 refine rq (out:=al b2 0) ai ?_
 refine rq (out:=al b2 0) qNilP ?_
 refine rq (out:=al b2 1) (a3 fld65_1) ?_
 refine rq (out:=Pr.i64 x3.at_) (a7 (R:=ae) (a:=x3) (R':=Rp.int .i64) 0 ty3 subParseParser_at) ?_
 refine rq (out:=Pr.i64 x3.at_) aj ?_
 refine W_rs ?_
 refine rq (out:=al b2 0) ai ?_
 rcases aq h with⟨m29,hm29,h⟩|⟨x5,hx5,h⟩
 ·refine az [0] (ao ([123]:List UInt8) x3 b2 _ hm29) ⟨aa,aa,trivial⟩ (fun q C' hq=> ?_) (fun v9 hv=> ?_)
  ·obtain⟨_,h9,_⟩:=hq;cases h9
  obtain⟨_,h9,rfl⟩:=hv
  cases h9
  obtain rfl:=Option.some.inj h
  exact .inr ⟨_,rfl,_,rfl,rfl⟩
 refine az [0] (ao ([123]:List UInt8) x3 b2 _ hx5) ⟨aa,aa,trivial⟩ (fun q C' hq=> ?_) (fun v9 hv=>by obtain⟨_,h9,_⟩:=hv;cases h9)
 obtain⟨_,h9,rfl,rfl⟩:=hq
 cases h9
 refine rCtx [Own.box b2 ae x5,Own.box b4 rApiNode (ApiNode.mk 0 [] [] 0 0 0 0 0 [])] ?_
 refine W_rs ?_
 refine rq (out:=Pr.is (.slice none 0 0)) aj ?_
 refine c0 ?_
 refine bu ?_
 obtain⟨z2l,hz2,h⟩:=ak h
 obtain⟨n2,hN2⟩:=dv hz2
 clear hz2
 refine kp 0 (fun e C=>∃(x13:ParseParser),∃(x8:List ApiNode),∃(v6:Value),iy R x3 x13 x8=some r/\At [(0,al b2 0),(4,al b4 0),(5,Pr.i64 x3.at_),(6,Pr.is v6)] [Own.box b2 ae x13,Own.box b4 rApiNode (ApiNode.mk 0 [] [] 0 0 0 0 0 []),Own.vec v6 rApiNode x8 32] e C) ?_ ?_
 ·rintro e C ⟨x13,x8,v6,h,hat1⟩
  refine W_at hat1 ?_
  clear hat1
  unfold iy at h
  refine W_rs ?_
  refine rq (out:=al b2 0) ai ?_
  refine rq (out:=Pr.i64 x3.at_) ai ?_
  refine rq (out:=Pr.is v6) ai ?_
  obtain⟨x27,hx27,h⟩:=ak h
  refine rRel 2 [6,34] ?_ rfl ⟨rfl,rfl,trivial⟩
  refine rq (out:=(rApiNode).val x27) (qMade 0 hx27 aa) ?_
  refine a5 (R:=rApiNode) (R':=rApiNode) (a:=(ApiNode.mk 0 [] [] 0 0 0 0 0 [])) (y:=x27) 1 Tryz.sizeOf32 (Upd.refl _) ?_
  obtain rfl:=Option.some.inj h
  exact bp (.inl ⟨.inl rfl,[(rApiNode).val x27],⟨yBox 1 ty32 aa,trivial⟩,_,Pick.of [0] rfl,_,rfl,rfl,rfl⟩)
 refine W_nil [6] rApiNode 32 (fun v28=> ?_) ⟨rfl,trivial⟩
 refine k8 (fun m e C=>∃(x7:ParseParser),∃(x8:List ApiNode),∃(v6:Value),i1 (fun s=>f1 R x1 s.1 s.2) m (x7,x8)=some z2l/\At [(0,al b2 0),(1,Pr.i64 x1),(4,al b4 0),(5,Pr.i64 x3.at_),(6,Pr.is v6)] [Own.box b2 ae x7,Own.box b4 rApiNode (ApiNode.mk 0 [] [] 0 0 0 0 0 []),Own.vec v6 rApiNode x8 32] e C) n2 ⟨x5,[],v28,hN2,⟨⟨aa,aa,aa,aa,aa,trivial⟩,Pick.refl _⟩⟩ ?_
 clear hN2
 rintro m e C ⟨x7,x8,v6,hN2,hatl2⟩
 refine W_at hatl2 ?_
 clear hatl2
 obtain⟨m2,w2l,rfl,h2l,hn2,ho2⟩:=dp hN2
 clear hN2
 replace h2l:f1 R x1 x7 x8=some w2l:=h2l
 unfold f1 at h2l
 refine c0 ?_
 refine W_rs ?_
 refine rq (out:=al b2 0) ai ?_
 obtain⟨⟨x12,x13⟩,hx12,h2l⟩:=ak h2l
 refine i7 [0] (a6 ([125]:List UInt8) x7 b2 _ hx12) (fun q C' hq=> ?_)
 obtain⟨rfl,rfl⟩:=hq
 refine rCtx [Own.box b2 ae x13,Own.box b4 rApiNode (ApiNode.mk 0 [] [] 0 0 0 0 0 []),Own.vec v6 rApiNode x8 32] ?_
 refine rq (out:=Pr.bool (!x12)) qNot ?_
 refine a8 (b:= !x12) rfl (fun hc14=> ?_) (fun hc14=> ?_)
 ·replace h2l:=iteT hc14 h2l
  refine bj ?_
  refine bu ?_
  refine W_rs ?_
  refine rq (out:=al b2 0) ai ?_
  obtain⟨x15,hx15,h2l⟩:=ak h2l
  refine rq (out:=Pr.bool x15) (qCallBx 0 (parse_parser_isLocal_ok x13 _ hx15) ⟨.inr ⟨aa,rfl⟩,trivial⟩ (fun _ _ _ h=>h)) ?_
  refine a8 (b:=x15) rfl (fun hc16=> ?_) (fun hc16=> ?_)
  ·replace h2l:=iteT hc16 h2l
   refine W_r ?_
   refine rq (out:=Pr.is v6) ai ?_
   refine rq (out:=al b2 0) ai ?_
   refine rq (out:=Pr.i64 x1) ai ?_
   refine rq (out:=Pr.i64 (w64 (x1+1))) qInt ?_
   rcases aq h2l with⟨m21,hm21,h2l⟩|⟨⟨x17,x18⟩,hx17,h2l⟩
   ·refine az [0] (iv (w64 (x1+1)) x13 b2 _ hm21) ⟨aa,aa,trivial⟩ (fun q C' hq=> ?_) (fun v9 hv=> ?_)
    ·obtain⟨_,h9,_⟩:=hq;cases h9
    obtain⟨_,h9,rfl⟩:=hv
    cases h9
    obtain rfl:=ho2 _ (Option.some.inj h2l).symm
    replace h:some (.bad m21)=some r:=h
    obtain rfl:=Option.some.inj h
    exact .inr ⟨_,rfl,_,rfl,rfl⟩
   refine az [0] (iv (w64 (x1+1)) x13 b2 _ hx17) ⟨aa,aa,trivial⟩ (fun q C' hq=> ?_) (fun v9 hv=>by obtain⟨_,h9,_⟩:=hv;cases h9)
   obtain⟨_,h9,rfl,rfl⟩:=hq
   cases h9
   refine rCtx [Own.box b2 ae x18,Own.box b4 rApiNode (ApiNode.mk 0 [] [] 0 0 0 0 0 []),Own.vec v6 rApiNode x8 32] ?_
   refine rq (out:=av rApiNode ([x17]:List ApiNode)) (cn (R:=rApiNode) (a:=x17) el24 (Nat.le_of_ble_eq_true rfl)) ?_
   obtain⟨x19,hx19,h2l⟩:=ak h2l
   refine kz 2 el24 hx19 (fun v20=> ?_)
   refine rq (out:=Pr.is v20) aj ?_
   exact⟨m2,Nat.lt_succ_self _,x18,x19,v20,hn2 _ (Option.some.inj h2l).symm,⟨⟨aa,aa,aa,aa,aa,trivial⟩,Pick.refl _⟩⟩
  replace h2l:=iteF hc16 h2l
  refine W_r ?_
  refine rq (out:=Pr.is v6) ai ?_
  refine rq (out:=al b2 0) ai ?_
  refine rq (out:=Pr.i64 x1) ai ?_
  refine rq (out:=Pr.i64 (w64 (x1+1))) qInt ?_
  rcases aq h2l with⟨m26,hm26,h2l⟩|⟨⟨x22,x23⟩,hx22,h2l⟩
  ·refine az [0] (ih.2.1 (w64 (x1+1)) x13 b2 _ hm26) ⟨aa,aa,trivial⟩ (fun q C' hq=> ?_) (fun v9 hv=> ?_)
   ·obtain⟨_,h9,_⟩:=hq;cases h9
   obtain⟨_,h9,rfl⟩:=hv
   cases h9
   obtain rfl:=ho2 _ (Option.some.inj h2l).symm
   replace h:some (.bad m26)=some r:=h
   obtain rfl:=Option.some.inj h
   exact .inr ⟨_,rfl,_,rfl,rfl⟩
  refine az [0] (ih.2.1 (w64 (x1+1)) x13 b2 _ hx22) ⟨aa,aa,trivial⟩ (fun q C' hq=> ?_) (fun v9 hv=>by obtain⟨_,h9,_⟩:=hv;cases h9)
  obtain⟨_,h9,rfl,rfl⟩:=hq
  cases h9
  refine rCtx [Own.box b2 ae x23,Own.box b4 rApiNode (ApiNode.mk 0 [] [] 0 0 0 0 0 []),Own.vec v6 rApiNode x8 32] ?_
  refine rq (out:=av rApiNode ([x22]:List ApiNode)) (cn (R:=rApiNode) (a:=x22) el24 (Nat.le_of_ble_eq_true rfl)) ?_
  obtain⟨x24,hx24,h2l⟩:=ak h2l
  refine kz 2 el24 hx24 (fun v25=> ?_)
  refine rq (out:=Pr.is v25) aj ?_
  exact⟨m2,Nat.lt_succ_self _,x23,x24,v25,hn2 _ (Option.some.inj h2l).symm,⟨⟨aa,aa,aa,aa,aa,trivial⟩,Pick.refl _⟩⟩
 replace h2l:=iteF hc14 h2l
 refine jn ?_
 obtain rfl:=ho2 _ (Option.some.inj h2l).symm
 exact⟨x13,x8,v6,h,⟨⟨aa,aa,aa,aa,trivial⟩,Pick.refl _⟩⟩
theorem F_parse_parser_statement_step (R:aw) (ih:dx R) (x1:Int) (x3:ParseParser) (b2:Nat) (r:PX ParseWrong (ApiNode × ParseParser)) (h:dq R x1 x3=some r):FnX Tryz.prog 58 [al b2 0,Pr.i64 x1] [Own.box b2 ae x3] (fun q C'=>∃a9,r= .ok a9/\q=(rApiNode).val a9.1/\C'=[Own.box b2 ae a9.2]) (fun v=>∃m,r= .bad m/\v=cv m):=by
 refine d4 (n:=33) (rs:=[.cell 4 32]) Tryz.func58 rfl Tryz.ntmps58 Tryz.results58 (by decide) (fun s0=> ?_)
 unfold dq at h
 refine W_rs ?_
 refine bi (R:=rApiNode) (z:=(ApiNode.mk 0 [] [] 0 0 0 0 0 [])) Tryz.zeroValue32 (fun _=>(by rw[ap];exact⟨_,⟨_,_,rfl,rfl,⟨_,_,rfl,rfl,⟨_,_,rfl,rfl,⟨_,_,rfl,rfl,⟨_,_,rfl,rfl,⟨_,_,rfl,rfl,⟨_,_,rfl,rfl,⟨_,_,rfl,rfl,⟨_,_,rfl,⟨_,rfl,none,0,rfl,⟨Nat.le_refl _,fun _=>rfl⟩,.inl rfl⟩,rfl⟩⟩⟩⟩⟩⟩⟩⟩⟩,rfl⟩)) (fun b4=> ?_)
 refine W_rs ?_
 refine rq (out:=al b2 0) ai ?_
 refine rq (out:=Pr.i64 x1) ai ?_
 rcases aq h with⟨m35,hm35,h⟩|⟨x5,hx5,h⟩
 ·refine az [0] (eu x1 x3 b2 _ hm35) ⟨aa,aa,trivial⟩ (fun q C' hq=> ?_) (fun v9 hv=> ?_)
  ·obtain⟨_,h9,_⟩:=hq;cases h9
  obtain⟨_,h9,rfl⟩:=hv
  cases h9
  obtain rfl:=Option.some.inj h
  exact .inr ⟨_,rfl,_,rfl,rfl⟩
 refine az [0] (eu x1 x3 b2 _ hx5) ⟨aa,aa,trivial⟩ (fun q C' hq=> ?_) (fun v9 hv=>by obtain⟨_,h9,_⟩:=hv;cases h9)
 obtain⟨_,h9,rfl,rfl⟩:=hq
 cases h9
 refine rCtx [Own.box b2 ae x5,Own.box b4 rApiNode (ApiNode.mk 0 [] [] 0 0 0 0 0 [])] ?_
 refine W_rs ?_
 refine rq (out:=al b2 0) ai ?_
 obtain⟨x6,hx6,h⟩:=ak h
 refine rq (out:=(af).val x6) (qCallBx 0 (cc x5 _ hx6) ⟨.inr ⟨aa,rfl⟩,trivial⟩ (fun _ _ _ h=>Flat.val gk _ _ _ _ h)) ?_
 refine bi (R:=af) (z:=(ApiToken.mk 0 [] 0 [])) Tryz.zeroValue37 (fun _=>⟨_,⟨_,_,rfl,rfl,⟨_,_,rfl,rfl,⟨_,_,rfl,rfl,⟨_,_,rfl,rfl,rfl⟩⟩⟩⟩,rfl⟩) (fun b7=> ?_)
 refine a5 (R:=af) (R':=af) (a:=(ApiToken.mk 0 [] 0 [])) (y:=x6) 2 Tryz.sizeOf37 (Upd.refl _) ?_
 refine c0 ?_
 refine cd (fun e C=>∃(x8:SMap (Option Nat)),cu R x6 x1 x5 x8=some r/\At [(0,al b2 0),(1,Pr.i64 x1),(4,al b4 0),(5,al b7 0),(6,(jz).val (mget x6.Text none x8)),(7,Pr.bool (mhas x6.Text x8))] [Own.box b2 ae x5,Own.box b4 rApiNode (ApiNode.mk 0 [] [] 0 0 0 0 0 []),Own.box b7 af x6] e C) ?_ ?_
 ·rintro e C ⟨x8,h,hat2⟩
  refine W_at hat2 ?_
  clear hat2
  unfold cu at h
  refine cd (fun e C=>∃(x10:Bool),dk R x6 x8 x1 x5 x10=some r/\At [(0,al b2 0),(1,Pr.i64 x1),(4,al b4 0),(6,(jz).val (mget x6.Text none x8)),(25,Pr.bool x10)] [Own.box b2 ae x5,Own.box b4 rApiNode (ApiNode.mk 0 [] [] 0 0 0 0 0 []),Own.box b7 af x6] e C) ?_ ?_
  ·rintro e C ⟨x10,h,hat1⟩
   refine W_at hat1 ?_
   clear hat1
   unfold dk at h
   refine a8 (b:=x10) rfl (fun hc11=> ?_) (fun hc11=> ?_)
   ·replace h:=iteT hc11 h
    refine W_rs ?_
    refine rq (out:=(jz).val (mget x6.Text none x8)) ai ?_
    refine rq (out:=al b2 0) ai ?_
    refine rq (out:=Pr.i64 x1) ai ?_
    rcases bk h with⟨hc12,h⟩|⟨hc12,h⟩
    ·refine rEnv 26 (q:=Pr.is (.func (.func 52) #[] #[])) (fid_le hc12) ?_
     rcases aq h with⟨m15,hm15,h⟩|⟨⟨x13,x14⟩,hx13,h⟩
     ·refine kn [0] (ih.1 x1 x5 b2 _ hm15) ⟨aa,aa,trivial⟩ (fun q C' hq=> ?_) (fun v9 hv=> ?_)
      ·obtain⟨_,h9,_⟩:=hq;cases h9
      obtain⟨_,h9,rfl⟩:=hv
      cases h9
      obtain rfl:=Option.some.inj h
      exact .inr ⟨_,rfl,_,rfl,rfl⟩
     refine kn [0] (ih.1 x1 x5 b2 _ hx13) ⟨aa,aa,trivial⟩ (fun q C' hq=> ?_) (fun v9 hv=>by obtain⟨_,h9,_⟩:=hv;cases h9)
     obtain⟨_,h9,rfl,rfl⟩:=hq
     cases h9
     refine rCtx [Own.box b2 ae x14,Own.box b4 rApiNode (ApiNode.mk 0 [] [] 0 0 0 0 0 []),Own.box b7 af x6] ?_
     refine a5 (R:=rApiNode) (R':=rApiNode) (a:=(ApiNode.mk 0 [] [] 0 0 0 0 0 [])) (y:=x13) 1 Tryz.sizeOf32 (Upd.refl _) ?_
     obtain rfl:=Option.some.inj h
     exact bp (.inl ⟨.inl rfl,[(rApiNode).val x13],⟨yBox 1 ty32 aa,trivial⟩,_,Pick.of [0] rfl,_,rfl,rfl,rfl⟩)
    rcases bk h with⟨hc16,h⟩|⟨hc16,h⟩
    ·refine rEnv 26 (q:=Pr.is (.func (.func 81) #[] #[])) (fid_le hc16) ?_
     rcases aq h with⟨m19,hm19,h⟩|⟨⟨x17,x18⟩,hx17,h⟩
     ·refine kn [0] (ih.2.2.1 x1 x5 b2 _ hm19) ⟨aa,aa,trivial⟩ (fun q C' hq=> ?_) (fun v9 hv=> ?_)
      ·obtain⟨_,h9,_⟩:=hq;cases h9
      obtain⟨_,h9,rfl⟩:=hv
      cases h9
      obtain rfl:=Option.some.inj h
      exact .inr ⟨_,rfl,_,rfl,rfl⟩
     refine kn [0] (ih.2.2.1 x1 x5 b2 _ hx17) ⟨aa,aa,trivial⟩ (fun q C' hq=> ?_) (fun v9 hv=>by obtain⟨_,h9,_⟩:=hv;cases h9)
     obtain⟨_,h9,rfl,rfl⟩:=hq
     cases h9
     refine rCtx [Own.box b2 ae x18,Own.box b4 rApiNode (ApiNode.mk 0 [] [] 0 0 0 0 0 []),Own.box b7 af x6] ?_
     refine a5 (R:=rApiNode) (R':=rApiNode) (a:=(ApiNode.mk 0 [] [] 0 0 0 0 0 [])) (y:=x17) 1 Tryz.sizeOf32 (Upd.refl _) ?_
     obtain rfl:=Option.some.inj h
     exact bp (.inl ⟨.inl rfl,[(rApiNode).val x17],⟨yBox 1 ty32 aa,trivial⟩,_,Pick.of [0] rfl,_,rfl,rfl,rfl⟩)
    rcases bk h with⟨hc20,h⟩|⟨hc20,h⟩
    ·refine rEnv 26 (q:=Pr.is (.func (.func 82) #[] #[])) (fid_le hc20) ?_
     rcases aq h with⟨m23,hm23,h⟩|⟨⟨x21,x22⟩,hx21,h⟩
     ·refine kn [0] (ih.2.2.2 x1 x5 b2 _ hm23) ⟨aa,aa,trivial⟩ (fun q C' hq=> ?_) (fun v9 hv=> ?_)
      ·obtain⟨_,h9,_⟩:=hq;cases h9
      obtain⟨_,h9,rfl⟩:=hv
      cases h9
      obtain rfl:=Option.some.inj h
      exact .inr ⟨_,rfl,_,rfl,rfl⟩
     refine kn [0] (ih.2.2.2 x1 x5 b2 _ hx21) ⟨aa,aa,trivial⟩ (fun q C' hq=> ?_) (fun v9 hv=>by obtain⟨_,h9,_⟩:=hv;cases h9)
     obtain⟨_,h9,rfl,rfl⟩:=hq
     cases h9
     refine rCtx [Own.box b2 ae x22,Own.box b4 rApiNode (ApiNode.mk 0 [] [] 0 0 0 0 0 []),Own.box b7 af x6] ?_
     refine a5 (R:=rApiNode) (R':=rApiNode) (a:=(ApiNode.mk 0 [] [] 0 0 0 0 0 [])) (y:=x21) 1 Tryz.sizeOf32 (Upd.refl _) ?_
     obtain rfl:=Option.some.inj h
     exact bp (.inl ⟨.inl rfl,[(rApiNode).val x21],⟨yBox 1 ty32 aa,trivial⟩,_,Pick.of [0] rfl,_,rfl,rfl,rfl⟩)
    rcases bk h with⟨hc24,h⟩|⟨hc24,h⟩
    ·refine rEnv 26 (q:=Pr.is (.func (.func 83) #[] #[])) (fid_le hc24) ?_
     rcases aq h with⟨m27,hm27,h⟩|⟨⟨x25,x26⟩,hx25,h⟩
     ·refine kn [0] (parse_parser_back_ok x1 x5 b2 _ hm27) ⟨aa,aa,trivial⟩ (fun q C' hq=> ?_) (fun v9 hv=> ?_)
      ·obtain⟨_,h9,_⟩:=hq;cases h9
      obtain⟨_,h9,rfl⟩:=hv
      cases h9
      obtain rfl:=Option.some.inj h
      exact .inr ⟨_,rfl,_,rfl,rfl⟩
     refine kn [0] (parse_parser_back_ok x1 x5 b2 _ hx25) ⟨aa,aa,trivial⟩ (fun q C' hq=> ?_) (fun v9 hv=>by obtain⟨_,h9,_⟩:=hv;cases h9)
     obtain⟨_,h9,rfl,rfl⟩:=hq
     cases h9
     refine rCtx [Own.box b2 ae x26,Own.box b4 rApiNode (ApiNode.mk 0 [] [] 0 0 0 0 0 []),Own.box b7 af x6] ?_
     refine a5 (R:=rApiNode) (R':=rApiNode) (a:=(ApiNode.mk 0 [] [] 0 0 0 0 0 [])) (y:=x25) 1 Tryz.sizeOf32 (Upd.refl _) ?_
     obtain rfl:=Option.some.inj h
     exact bp (.inl ⟨.inl rfl,[(rApiNode).val x25],⟨yBox 1 ty32 aa,trivial⟩,_,Pick.of [0] rfl,_,rfl,rfl,rfl⟩)
    rcases bk h with⟨hc28,h⟩|⟨hc28,h⟩
    ·refine rEnv 26 (q:=Pr.is (.func (.func 84) #[] #[])) (fid_le hc28) ?_
     rcases aq h with⟨m31,hm31,h⟩|⟨⟨x29,x30⟩,hx29,h⟩
     ·refine kn [0] (parse_parser_show_ok x1 x5 b2 _ hm31) ⟨aa,aa,trivial⟩ (fun q C' hq=> ?_) (fun v9 hv=> ?_)
      ·obtain⟨_,h9,_⟩:=hq;cases h9
      obtain⟨_,h9,rfl⟩:=hv
      cases h9
      obtain rfl:=Option.some.inj h
      exact .inr ⟨_,rfl,_,rfl,rfl⟩
     refine kn [0] (parse_parser_show_ok x1 x5 b2 _ hx29) ⟨aa,aa,trivial⟩ (fun q C' hq=> ?_) (fun v9 hv=>by obtain⟨_,h9,_⟩:=hv;cases h9)
     obtain⟨_,h9,rfl,rfl⟩:=hq
     cases h9
     refine rCtx [Own.box b2 ae x30,Own.box b4 rApiNode (ApiNode.mk 0 [] [] 0 0 0 0 0 []),Own.box b7 af x6] ?_
     refine a5 (R:=rApiNode) (R':=rApiNode) (a:=(ApiNode.mk 0 [] [] 0 0 0 0 0 [])) (y:=x29) 1 Tryz.sizeOf32 (Upd.refl _) ?_
     obtain rfl:=Option.some.inj h
     exact bp (.inl ⟨.inl rfl,[(rApiNode).val x29],⟨yBox 1 ty32 aa,trivial⟩,_,Pick.of [0] rfl,_,rfl,rfl,rfl⟩)
    cases h
   replace h:=iteF hc11 h
   refine bj ?_
   refine W_rs ?_
   refine rq (out:=al b2 0) ai ?_
   refine rq (out:=Pr.i64 x1) ai ?_
   rcases aq h with⟨m34,hm34,h⟩|⟨⟨x32,x33⟩,hx32,h⟩
   ·refine az [0] (parse_parser_plain_ok x1 x5 b2 _ hm34) ⟨aa,aa,trivial⟩ (fun q C' hq=> ?_) (fun v9 hv=> ?_)
    ·obtain⟨_,h9,_⟩:=hq;cases h9
    obtain⟨_,h9,rfl⟩:=hv
    cases h9
    obtain rfl:=Option.some.inj h
    exact .inr ⟨_,rfl,_,rfl,rfl⟩
   refine az [0] (parse_parser_plain_ok x1 x5 b2 _ hx32) ⟨aa,aa,trivial⟩ (fun q C' hq=> ?_) (fun v9 hv=>by obtain⟨_,h9,_⟩:=hv;cases h9)
   obtain⟨_,h9,rfl,rfl⟩:=hq
   cases h9
   refine rCtx [Own.box b2 ae x33,Own.box b4 rApiNode (ApiNode.mk 0 [] [] 0 0 0 0 0 []),Own.box b7 af x6] ?_
   refine a5 (R:=rApiNode) (R':=rApiNode) (a:=(ApiNode.mk 0 [] [] 0 0 0 0 0 [])) (y:=x32) 1 Tryz.sizeOf32 (Upd.refl _) ?_
   obtain rfl:=Option.some.inj h
   exact bp (.inl ⟨.inl rfl,[(rApiNode).val x32],⟨yBox 1 ty32 aa,trivial⟩,_,Pick.of [0] rfl,_,rfl,rfl,rfl⟩)
  refine W_r ?_
  refine rq (out:=Pr.bool (mhas x6.Text x8)) ai ?_
  refine rq (out:=Pr.bool (mhas x6.Text x8)) ai ?_
  rcases bk h with⟨hc9,h⟩|⟨hc9,h⟩
  ·refine rqg hc9 (out:=al b7 0) (a3 fld37_0) ?_
   refine rqg hc9 (out:=Pr.i64 x6.Kind) (a7 (R:=af) (a:=x6) (R':=Rp.int .i64) 2 ty3 di) ?_
   refine rqg hc9 (out:=Pr.bool (x6.Kind != 1)) qInt ?_
   refine rq (out:=Pr.bool (x6.Kind != 1)) (bg hc9) ?_
   exact⟨x6.Kind != 1,h,⟨⟨aa,aa,aa,aa,aa,trivial⟩,Pick.refl _⟩⟩
  refine rno (neT hc9) ?_
  refine rno (neT hc9) ?_
  refine rno (neT hc9) ?_
  refine rq (out:=Pr.bool false) (ax hc9) ?_
  exact⟨false,h,⟨⟨aa,aa,aa,aa,aa,trivial⟩,Pick.refl _⟩⟩
 refine W_draw 9 hmx (by kernel_rfl) (by kernel_rfl) ?_
 obtain⟨x8,hx8,h⟩:=ak h
 refine qq (out:=Pr.mapS jz x8) (dt (parse_begun_ok _ hx8)) ?_
 refine qq (out:=al b7 1) (a3 fld37_1) ?_
 refine qq (out:=ar x6.Text) (a7 (R:=af) (a:=x6) (R':=bh) 2 ty9 subApiToken_Text) ?_
 refine qq (out:=cj [(jz).val (mget x6.Text none x8),Pr.bool (mhas x6.Text x8)]) (qMapGetS2 (R:=jz) (m:=x8) (kx:=x6.Text) (z:=none) Tryz.underlying83 Tryz.underlying9 Tryz.zeroValue81 (fun _=>rfl)) ?_
 refine qq (out:=cj [(jz).val (mget x6.Text none x8),Pr.bool (mhas x6.Text x8)]) ai ?_
 refine qq (out:=(jz).val (mget x6.Text none x8)) bo ?_
 refine qq (out:=Pr.bool (mhas x6.Text x8)) bo ?_
 refine qq (out:=(jz).val (mget x6.Text none x8)) aj ?_
 refine qq (out:=Pr.bool (mhas x6.Text x8)) aj ?_
 exact⟨x8,h,⟨⟨aa,aa,aa,aa,aa,aa,trivial⟩,Pick.refl _⟩⟩
theorem F_parse_parser_branch_step (R:aw) (ih:dx R) (x1:Int) (x3:ParseParser) (b2:Nat) (r:PX ParseWrong (ApiNode × ParseParser)) (h:ew R x1 x3=some r):FnX Tryz.prog 81 [al b2 0,Pr.i64 x1] [Own.box b2 ae x3] (fun q C'=>∃a9,r= .ok a9/\q=(rApiNode).val a9.1/\C'=[Own.box b2 ae a9.2]) (fun v=>∃m,r= .bad m/\v=cv m):=by
 refine d4 (n:=38) (rs:=[.cell 4 32]) Tryz.func81 rfl Tryz.ntmps81 Tryz.results81 (by decide) (fun s0=> ?_)
 unfold ew at h
 refine W_rs ?_
 refine bi (R:=rApiNode) (z:=(ApiNode.mk 0 [] [] 0 0 0 0 0 [])) Tryz.zeroValue32 (fun _=>(by rw[ap];exact⟨_,⟨_,_,rfl,rfl,⟨_,_,rfl,rfl,⟨_,_,rfl,rfl,⟨_,_,rfl,rfl,⟨_,_,rfl,rfl,⟨_,_,rfl,rfl,⟨_,_,rfl,rfl,⟨_,_,rfl,rfl,⟨_,_,rfl,⟨_,rfl,none,0,rfl,⟨Nat.le_refl _,fun _=>rfl⟩,.inl rfl⟩,rfl⟩⟩⟩⟩⟩⟩⟩⟩⟩,rfl⟩)) (fun b4=> ?_)
 refine W_rs ?_
 refine rq (out:=al b2 0) ai ?_
 refine rq (out:=al b2 0) qNilP ?_
 refine rq (out:=al b2 1) (a3 fld65_1) ?_
 refine rq (out:=Pr.i64 x3.at_) (a7 (R:=ae) (a:=x3) (R':=Rp.int .i64) 0 ty3 subParseParser_at) ?_
 refine rq (out:=Pr.i64 x3.at_) aj ?_
 refine W_rs ?_
 refine rq (out:=al b2 0) ai ?_
 rcases aq h with⟨m27,hm27,h⟩|⟨x5,hx5,h⟩
 ·refine az [0] (ao ([105,102]:List UInt8) x3 b2 _ hm27) ⟨aa,aa,trivial⟩ (fun q C' hq=> ?_) (fun v9 hv=> ?_)
  ·obtain⟨_,h9,_⟩:=hq;cases h9
  obtain⟨_,h9,rfl⟩:=hv
  cases h9
  obtain rfl:=Option.some.inj h
  exact .inr ⟨_,rfl,_,rfl,rfl⟩
 refine az [0] (ao ([105,102]:List UInt8) x3 b2 _ hx5) ⟨aa,aa,trivial⟩ (fun q C' hq=> ?_) (fun v9 hv=>by obtain⟨_,h9,_⟩:=hv;cases h9)
 obtain⟨_,h9,rfl,rfl⟩:=hq
 cases h9
 refine rCtx [Own.box b2 ae x5,Own.box b4 rApiNode (ApiNode.mk 0 [] [] 0 0 0 0 0 [])] ?_
 refine W_rs ?_
 refine rq (out:=al b2 0) ai ?_
 refine rq (out:=Pr.i64 x1) ai ?_
 refine rq (out:=Pr.i64 (w64 (x1+1))) qInt ?_
 rcases aq h with⟨m26,hm26,h⟩|⟨⟨x6,x7⟩,hx6,h⟩
 ·refine az [0] (dl (w64 (x1+1)) x5 b2 _ hm26) ⟨aa,aa,trivial⟩ (fun q C' hq=> ?_) (fun v9 hv=> ?_)
  ·obtain⟨_,h9,_⟩:=hq;cases h9
  obtain⟨_,h9,rfl⟩:=hv
  cases h9
  obtain rfl:=Option.some.inj h
  exact .inr ⟨_,rfl,_,rfl,rfl⟩
 refine az [0] (dl (w64 (x1+1)) x5 b2 _ hx6) ⟨aa,aa,trivial⟩ (fun q C' hq=> ?_) (fun v9 hv=>by obtain⟨_,h9,_⟩:=hv;cases h9)
 obtain⟨_,h9,rfl,rfl⟩:=hq
 cases h9
 refine rCtx [Own.box b2 ae x7,Own.box b4 rApiNode (ApiNode.mk 0 [] [] 0 0 0 0 0 [])] ?_
 refine rBuildV (R:=rApiNode) (ls:=([x6]:List ApiNode)) el24 (Nat.le_of_ble_eq_true rfl) ⟨rfl,rfl⟩ ⟨rfl,trivial⟩ (fun v8=> ?_)
 refine rq (out:=Pr.is v8) aj ?_
 refine W_rs ?_
 refine rq (out:=Pr.is v8) ai ?_
 refine rq (out:=al b2 0) ai ?_
 refine rq (out:=Pr.i64 x1) ai ?_
 refine rq (out:=Pr.i64 (w64 (x1+1))) qInt ?_
 rcases aq h with⟨m25,hm25,h⟩|⟨⟨x9,x10⟩,hx9,h⟩
 ·refine az [0] (ih.2.1 (w64 (x1+1)) x7 b2 _ hm25) ⟨aa,aa,trivial⟩ (fun q C' hq=> ?_) (fun v9 hv=> ?_)
  ·obtain⟨_,h9,_⟩:=hq;cases h9
  obtain⟨_,h9,rfl⟩:=hv
  cases h9
  obtain rfl:=Option.some.inj h
  exact .inr ⟨_,rfl,_,rfl,rfl⟩
 refine az [0] (ih.2.1 (w64 (x1+1)) x7 b2 _ hx9) ⟨aa,aa,trivial⟩ (fun q C' hq=> ?_) (fun v9 hv=>by obtain⟨_,h9,_⟩:=hv;cases h9)
 obtain⟨_,h9,rfl,rfl⟩:=hq
 cases h9
 refine rCtx [Own.box b2 ae x10,Own.box b4 rApiNode (ApiNode.mk 0 [] [] 0 0 0 0 0 []),Own.vec v8 rApiNode ([x6]:List ApiNode) 32] ?_
 refine rq (out:=av rApiNode ([x9]:List ApiNode)) (cn (R:=rApiNode) (a:=x9) el24 (Nat.le_of_ble_eq_true rfl)) ?_
 obtain⟨x11,hx11,h⟩:=ak h
 refine kz 2 el24 hx11 (fun v12=> ?_)
 refine rq (out:=Pr.is v12) aj ?_
 refine cd (fun e C=>∃(x22:ParseParser),∃(x23:List ApiNode),∃(v21:Value),fj R x3 x22 x23=some r/\At [(0,al b2 0),(4,al b4 0),(5,Pr.i64 x3.at_),(6,Pr.is v21)] [Own.box b2 ae x22,Own.box b4 rApiNode (ApiNode.mk 0 [] [] 0 0 0 0 0 []),Own.vec v21 rApiNode x23 32] e C) ?_ ?_
 ·rintro e C ⟨x22,x23,v21,h,hat1⟩
  refine W_at hat1 ?_
  clear hat1
  unfold fj at h
  refine W_rs ?_
  refine rq (out:=al b2 0) ai ?_
  refine rq (out:=Pr.i64 x3.at_) ai ?_
  refine rq (out:=Pr.is v21) ai ?_
  obtain⟨x24,hx24,h⟩:=ak h
  refine rRel 2 [6,36] ?_ rfl ⟨rfl,rfl,trivial⟩
  refine rq (out:=(rApiNode).val x24) (qMade 0 hx24 aa) ?_
  refine a5 (R:=rApiNode) (R':=rApiNode) (a:=(ApiNode.mk 0 [] [] 0 0 0 0 0 [])) (y:=x24) 1 Tryz.sizeOf32 (Upd.refl _) ?_
  obtain rfl:=Option.some.inj h
  exact bp (.inl ⟨.inl rfl,[(rApiNode).val x24],⟨yBox 1 ty32 aa,trivial⟩,_,Pick.of [0] rfl,_,rfl,rfl,rfl⟩)
 refine W_rs ?_
 refine rq (out:=al b2 0) ai ?_
 obtain⟨⟨x13,x14⟩,hx13,h⟩:=ak h
 refine i7 [0] (a6 ([101,108,115,101]:List UInt8) x10 b2 _ hx13) (fun q C' hq=> ?_)
 obtain⟨rfl,rfl⟩:=hq
 refine rCtx [Own.box b2 ae x14,Own.box b4 rApiNode (ApiNode.mk 0 [] [] 0 0 0 0 0 []),Own.vec v12 rApiNode x11 32] ?_
 refine a8 (b:=x13) rfl (fun hc15=> ?_) (fun hc15=> ?_)
 ·replace h:=iteT hc15 h
  refine W_r ?_
  refine rq (out:=Pr.is v12) ai ?_
  refine rq (out:=al b2 0) ai ?_
  refine rq (out:=Pr.i64 x1) ai ?_
  refine rq (out:=Pr.i64 (w64 (x1+1))) qInt ?_
  rcases aq h with⟨m20,hm20,h⟩|⟨⟨x16,x17⟩,hx16,h⟩
  ·refine az [0] (ih.2.1 (w64 (x1+1)) x14 b2 _ hm20) ⟨aa,aa,trivial⟩ (fun q C' hq=> ?_) (fun v9 hv=> ?_)
   ·obtain⟨_,h9,_⟩:=hq;cases h9
   obtain⟨_,h9,rfl⟩:=hv
   cases h9
   obtain rfl:=Option.some.inj h
   exact .inr ⟨_,rfl,_,rfl,rfl⟩
  refine az [0] (ih.2.1 (w64 (x1+1)) x14 b2 _ hx16) ⟨aa,aa,trivial⟩ (fun q C' hq=> ?_) (fun v9 hv=>by obtain⟨_,h9,_⟩:=hv;cases h9)
  obtain⟨_,h9,rfl,rfl⟩:=hq
  cases h9
  refine rCtx [Own.box b2 ae x17,Own.box b4 rApiNode (ApiNode.mk 0 [] [] 0 0 0 0 0 []),Own.vec v12 rApiNode x11 32] ?_
  refine rq (out:=av rApiNode ([x16]:List ApiNode)) (cn (R:=rApiNode) (a:=x16) el24 (Nat.le_of_ble_eq_true rfl)) ?_
  obtain⟨x18,hx18,h⟩:=ak h
  refine kz 2 el24 hx18 (fun v19=> ?_)
  refine rq (out:=Pr.is v19) aj ?_
  exact⟨x17,x18,v19,h,⟨⟨aa,aa,aa,aa,trivial⟩,Pick.refl _⟩⟩
 replace h:=iteF hc15 h
 refine bj ?_
 exact⟨x14,x11,v12,h,⟨⟨aa,aa,aa,aa,trivial⟩,Pick.refl _⟩⟩
theorem F_parse_parser_loop_step (R:aw) (ih:dx R) (x1:Int) (x3:ParseParser) (b2:Nat) (r:PX ParseWrong (ApiNode × ParseParser)) (h:fq R x1 x3=some r):FnX Tryz.prog 82 [al b2 0,Pr.i64 x1] [Own.box b2 ae x3] (fun q C'=>∃a9,r= .ok a9/\q=(rApiNode).val a9.1/\C'=[Own.box b2 ae a9.2]) (fun v=>∃m,r= .bad m/\v=cv m):=by
 refine d4 (n:=28) (rs:=[.cell 4 32]) Tryz.func82 rfl Tryz.ntmps82 Tryz.results82 (by decide) (fun s0=> ?_)
 unfold fq at h
 refine W_rs ?_
 refine bi (R:=rApiNode) (z:=(ApiNode.mk 0 [] [] 0 0 0 0 0 [])) Tryz.zeroValue32 (fun _=>(by rw[ap];exact⟨_,⟨_,_,rfl,rfl,⟨_,_,rfl,rfl,⟨_,_,rfl,rfl,⟨_,_,rfl,rfl,⟨_,_,rfl,rfl,⟨_,_,rfl,rfl,⟨_,_,rfl,rfl,⟨_,_,rfl,rfl,⟨_,_,rfl,⟨_,rfl,none,0,rfl,⟨Nat.le_refl _,fun _=>rfl⟩,.inl rfl⟩,rfl⟩⟩⟩⟩⟩⟩⟩⟩⟩,rfl⟩)) (fun b4=> ?_)
 refine W_rs ?_
 refine rq (out:=al b2 0) ai ?_
 refine rq (out:=al b2 0) qNilP ?_
 refine rq (out:=al b2 1) (a3 fld65_1) ?_
 refine rq (out:=Pr.i64 x3.at_) (a7 (R:=ae) (a:=x3) (R':=Rp.int .i64) 0 ty3 subParseParser_at) ?_
 refine rq (out:=Pr.i64 x3.at_) aj ?_
 refine W_rs ?_
 refine rq (out:=al b2 0) ai ?_
 rcases aq h with⟨m15,hm15,h⟩|⟨x5,hx5,h⟩
 ·refine az [0] (ao ([119,104,105,108,101]:List UInt8) x3 b2 _ hm15) ⟨aa,aa,trivial⟩ (fun q C' hq=> ?_) (fun v9 hv=> ?_)
  ·obtain⟨_,h9,_⟩:=hq;cases h9
  obtain⟨_,h9,rfl⟩:=hv
  cases h9
  obtain rfl:=Option.some.inj h
  exact .inr ⟨_,rfl,_,rfl,rfl⟩
 refine az [0] (ao ([119,104,105,108,101]:List UInt8) x3 b2 _ hx5) ⟨aa,aa,trivial⟩ (fun q C' hq=> ?_) (fun v9 hv=>by obtain⟨_,h9,_⟩:=hv;cases h9)
 obtain⟨_,h9,rfl,rfl⟩:=hq
 cases h9
 refine rCtx [Own.box b2 ae x5,Own.box b4 rApiNode (ApiNode.mk 0 [] [] 0 0 0 0 0 [])] ?_
 refine W_rs ?_
 refine rq (out:=al b2 0) ai ?_
 refine rq (out:=Pr.i64 x1) ai ?_
 refine rq (out:=Pr.i64 (w64 (x1+1))) qInt ?_
 rcases aq h with⟨m14,hm14,h⟩|⟨⟨x6,x7⟩,hx6,h⟩
 ·refine az [0] (dl (w64 (x1+1)) x5 b2 _ hm14) ⟨aa,aa,trivial⟩ (fun q C' hq=> ?_) (fun v9 hv=> ?_)
  ·obtain⟨_,h9,_⟩:=hq;cases h9
  obtain⟨_,h9,rfl⟩:=hv
  cases h9
  obtain rfl:=Option.some.inj h
  exact .inr ⟨_,rfl,_,rfl,rfl⟩
 refine az [0] (dl (w64 (x1+1)) x5 b2 _ hx6) ⟨aa,aa,trivial⟩ (fun q C' hq=> ?_) (fun v9 hv=>by obtain⟨_,h9,_⟩:=hv;cases h9)
 obtain⟨_,h9,rfl,rfl⟩:=hq
 cases h9
 refine rCtx [Own.box b2 ae x7,Own.box b4 rApiNode (ApiNode.mk 0 [] [] 0 0 0 0 0 [])] ?_
 refine bi (R:=rApiNode) (z:=(ApiNode.mk 0 [] [] 0 0 0 0 0 [])) Tryz.zeroValue32 (fun _=>(by rw[ap];exact⟨_,⟨_,_,rfl,rfl,⟨_,_,rfl,rfl,⟨_,_,rfl,rfl,⟨_,_,rfl,rfl,⟨_,_,rfl,rfl,⟨_,_,rfl,rfl,⟨_,_,rfl,rfl,⟨_,_,rfl,rfl,⟨_,_,rfl,⟨_,rfl,none,0,rfl,⟨Nat.le_refl _,fun _=>rfl⟩,.inl rfl⟩,rfl⟩⟩⟩⟩⟩⟩⟩⟩⟩,rfl⟩)) (fun b8=> ?_)
 refine a5 (R:=rApiNode) (R':=rApiNode) (a:=(ApiNode.mk 0 [] [] 0 0 0 0 0 [])) (y:=x6) 2 Tryz.sizeOf32 (Upd.refl _) ?_
 refine W_rs ?_
 refine rq (out:=al b2 0) ai ?_
 refine rq (out:=Pr.i64 x1) ai ?_
 refine rq (out:=Pr.i64 (w64 (x1+1))) qInt ?_
 rcases aq h with⟨m13,hm13,h⟩|⟨⟨x9,x10⟩,hx9,h⟩
 ·refine az [0] (ih.2.1 (w64 (x1+1)) x7 b2 _ hm13) ⟨aa,aa,trivial⟩ (fun q C' hq=> ?_) (fun v9 hv=> ?_)
  ·obtain⟨_,h9,_⟩:=hq;cases h9
  obtain⟨_,h9,rfl⟩:=hv
  cases h9
  obtain rfl:=Option.some.inj h
  exact .inr ⟨_,rfl,_,rfl,rfl⟩
 refine az [0] (ih.2.1 (w64 (x1+1)) x7 b2 _ hx9) ⟨aa,aa,trivial⟩ (fun q C' hq=> ?_) (fun v9 hv=>by obtain⟨_,h9,_⟩:=hv;cases h9)
 obtain⟨_,h9,rfl,rfl⟩:=hq
 cases h9
 refine rCtx [Own.box b2 ae x10,Own.box b4 rApiNode (ApiNode.mk 0 [] [] 0 0 0 0 0 []),Own.box b8 rApiNode x6] ?_
 refine bi (R:=rApiNode) (z:=(ApiNode.mk 0 [] [] 0 0 0 0 0 [])) Tryz.zeroValue32 (fun _=>(by rw[ap];exact⟨_,⟨_,_,rfl,rfl,⟨_,_,rfl,rfl,⟨_,_,rfl,rfl,⟨_,_,rfl,rfl,⟨_,_,rfl,rfl,⟨_,_,rfl,rfl,⟨_,_,rfl,rfl,⟨_,_,rfl,rfl,⟨_,_,rfl,⟨_,rfl,none,0,rfl,⟨Nat.le_refl _,fun _=>rfl⟩,.inl rfl⟩,rfl⟩⟩⟩⟩⟩⟩⟩⟩⟩,rfl⟩)) (fun b11=> ?_)
 refine a5 (R:=rApiNode) (R':=rApiNode) (a:=(ApiNode.mk 0 [] [] 0 0 0 0 0 [])) (y:=x9) 3 Tryz.sizeOf32 (Upd.refl _) ?_
 refine W_rs ?_
 refine rq (out:=al b2 0) ai ?_
 refine rq (out:=Pr.i64 x3.at_) ai ?_
 refine rq (out:=(rApiNode).val x6) (a7 (R:=rApiNode) (a:=x6) (R':=rApiNode) 2 ty32 (Sub.refl _)) ?_
 refine rq (out:=(rApiNode).val x9) (a7 (R:=rApiNode) (a:=x9) (R':=rApiNode) 3 ty32 (Sub.refl _)) ?_
 refine rq (out:=av rApiNode ([x6,x9]:List ApiNode)) (qBuildSlice (R:=rApiNode) (ls:=([x6,x9]:List ApiNode)) el24 (Nat.le_of_ble_eq_true rfl) ⟨rfl,rfl⟩ ⟨rfl,rfl,trivial⟩) ?_
 obtain⟨x12,hx12,h⟩:=ak h
 refine rq (out:=(rApiNode).val x12) (qMade 0 hx12 aa) ?_
 refine a5 (R:=rApiNode) (R':=rApiNode) (a:=(ApiNode.mk 0 [] [] 0 0 0 0 0 [])) (y:=x12) 1 Tryz.sizeOf32 (Upd.refl _) ?_
 obtain rfl:=Option.some.inj h
 exact bp (.inl ⟨.inl rfl,[(rApiNode).val x12],⟨yBox 1 ty32 aa,trivial⟩,_,Pick.of [0] rfl,_,rfl,rfl,rfl⟩)
theorem kv :∀n,dx (cf n):=by
 intro n
 induction n with
 |zero=>exact⟨(fun x1 x3 b2 r h=>nomatch (show none=some r from h)),(fun x1 x3 b2 r h=>nomatch (show none=some r from h)),(fun x1 x3 b2 r h=>nomatch (show none=some r from h)),(fun x1 x3 b2 r h=>nomatch (show none=some r from h))⟩
 |succ n ih=>exact⟨(fun x1 x3 b2 r h=>F_parse_parser_block_step (cf n) ih x1 x3 b2 r h),(fun x1 x3 b2 r h=>F_parse_parser_statement_step (cf n) ih x1 x3 b2 r h),(fun x1 x3 b2 r h=>F_parse_parser_branch_step (cf n) ih x1 x3 b2 r h),(fun x1 x3 b2 r h=>F_parse_parser_loop_step (cf n) ih x1 x3 b2 r h)⟩
theorem parse_parser_block_ok (x1:Int) (x3:ParseParser) (b2:Nat) (r:PX ParseWrong (ApiNode × ParseParser)) (h:j1 x1 x3=some r):FnX Tryz.prog 52 [al b2 0,Pr.i64 x1] [Own.box b2 ae x3] (fun q C'=>∃a9,r= .ok a9/\q=(rApiNode).val a9.1/\C'=[Own.box b2 ae a9.2]) (fun v=>∃m,r= .bad m/\v=cv m):=(kv 1048576).1 x1 x3 b2 r h
theorem kw (x1:Int) (x3:ParseParser) (b2:Nat) (r:PX ParseWrong (ApiNode × ParseParser)) (h:parse_parser_statement x1 x3=some r):FnX Tryz.prog 58 [al b2 0,Pr.i64 x1] [Own.box b2 ae x3] (fun q C'=>∃a9,r= .ok a9/\q=(rApiNode).val a9.1/\C'=[Own.box b2 ae a9.2]) (fun v=>∃m,r= .bad m/\v=cv m):=(kv 1048576).2.1 x1 x3 b2 r h
end Go.Proofs.YtackaijkmkollaaGreatDoor
