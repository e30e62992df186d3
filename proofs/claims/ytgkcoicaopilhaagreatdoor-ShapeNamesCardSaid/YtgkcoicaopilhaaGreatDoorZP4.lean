/- The code comes to what these functions say (printed by wip/gen/gen.py). -/
import Derived.Test.YtgkcoicaopilhaaGreatDoorZP3
import Derived.Test.YtgkcoicaopilhaaGreatDoorZT
set_option linter.unusedSimpArgs false
set_option linter.unusedVariables false
set_option linter.unusedSectionVars false
set_option linter.unusedSectionVars false
set_option maxRecDepth 100000
set_option maxHeartbeats 4000000
namespace Go.Proofs.YtgkcoicaopilhaaGreatDoor
open Go Go.Cn
theorem ref12_typed_ok (x1:List ApiToken) (x2:ApiNode) (x3:Int) (r:ApiNode) (h:ne x1 x2 x3=some r):FnP Tryz.prog 62 [aj ah x1,(ab).val x2,Pr.i64 x3] ((ab).val r):=by
 refine el (n:=34) (rs:=[.cell 6 24]) Tryz.func62 rfl Tryz.ntmps62 Tryz.results62 (by decide) (fun s0=> ?_)
 unfold ne at h
 refine W_rs ?_
 refine rBox (R:=ab) (a:=x2) rfl (fun b4=> ?_)
 refine cb (R:=ab) (z:=(ApiNode.mk 0 [] [] 0 0 0 0 0 [])) Tryz.zeroValue24 (fun _=>(by rw[al];exact⟨_,⟨_,_,rfl,rfl,⟨_,_,rfl,rfl,⟨_,_,rfl,rfl,⟨_,_,rfl,rfl,⟨_,_,rfl,rfl,⟨_,_,rfl,rfl,⟨_,_,rfl,rfl,⟨_,_,rfl,rfl,⟨_,_,rfl,⟨_,rfl,none,0,rfl,⟨Nat.le_refl _,fun _=>rfl⟩,.inl rfl⟩,rfl⟩⟩⟩⟩⟩⟩⟩⟩⟩,rfl⟩)) (fun b5=> ?_)
 refine W_rs ?_
 refine rq (out:=aj ah x1) ag ?_
 refine rq (out:=Pr.i64 x3) ag ?_
 obtain⟨x6,hx6,h⟩:=af h
 refine rq (out:=bj ah x6) (ef (R:=ah) (l:=x1) Tryz.underlying52 Tryz.sizeOf56 hx6) ?_
 refine rq (out:=bj am x6.Text) (e7 (R:=ah) (a:=x6) fld56_1 dp) ?_
 refine rq (out:=ai x6.Text) (c5 (R:=am) (a:=x6.Text) ty9) ?_
 refine rq (out:=ap b4 2) (a4 fld24_2) ?_
 refine aq (R:=ab) (R':=am) (a:=x2) (y:=x6.Text) 0 Tryz.sizeOf9 updApiNode_Type ?_
 refine W_rs ?_
 refine rq (out:=aj ah x1) ag ?_
 refine rq (out:=Pr.i64 x3) ag ?_
 obtain⟨x7,hx7,h⟩:=af h
 refine rq (out:=bj ah x7) (ef (R:=ah) (l:=x1) Tryz.underlying52 Tryz.sizeOf56 hx7) ?_
 refine rq (out:=bj (Rp.int .i64) x7.At) (e7 (R:=ah) (a:=x7) fld56_2 fw) ?_
 refine rq (out:=Pr.i64 x7.At) (c5 (R:=Rp.int .i64) (a:=x7.At) ty3) ?_
 refine rq (out:=ap b4 7) (a4 fld24_7) ?_
 refine aq (R:=ab) (R':=Rp.int .i64) (a:={x2 with Type_:=x6.Text}) (y:=x7.At) 0 Tryz.sizeOf3 updApiNode_TypeAt ?_
 refine W_rs ?_
 refine rq (out:=aj ah x1) ag ?_
 refine rq (out:=Pr.i64 x3) ag ?_
 refine rq (out:=Pr.i64 (w64 (x3+1))) qInt ?_
 obtain⟨x8,hx8,h⟩:=af h
 refine rq (out:=bj ah x8) (ef (R:=ah) (l:=x1) Tryz.underlying52 Tryz.sizeOf56 hx8) ?_
 refine rq (out:=bj am x8.Text) (e7 (R:=ah) (a:=x8) fld56_1 dp) ?_
 refine rq (out:=ai x8.Text) (c5 (R:=am) (a:=x8.Text) ty9) ?_
 refine rq (out:=ap b4 1) (a4 gl) ?_
 refine aq (R:=ab) (R':=am) (a:={{x2 with Type_:=x6.Text} with TypeAt:=x7.At}) (y:=x8.Text) 0 Tryz.sizeOf9 ia ?_
 refine W_rs ?_
 refine rq (out:=aj ah x1) ag ?_
 refine rq (out:=Pr.i64 x3) ag ?_
 refine rq (out:=Pr.i64 (w64 (x3+1))) qInt ?_
 obtain⟨x9,hx9,h⟩:=af h
 refine rq (out:=bj ah x9) (ef (R:=ah) (l:=x1) Tryz.underlying52 Tryz.sizeOf56 hx9) ?_
 refine rq (out:=bj (Rp.int .i64) x9.At) (e7 (R:=ah) (a:=x9) fld56_2 fw) ?_
 refine rq (out:=Pr.i64 x9.At) (c5 (R:=Rp.int .i64) (a:=x9.At) ty3) ?_
 refine rq (out:=ap b4 6) (a4 fld24_6) ?_
 refine aq (R:=ab) (R':=Rp.int .i64) (a:={{{x2 with Type_:=x6.Text} with TypeAt:=x7.At} with Text:=x8.Text}) (y:=x9.At) 0 Tryz.sizeOf3 updApiNode_At ?_
 refine W_rs ?_
 refine rq (out:=(ab).val ({{{{x2 with Type_:=x6.Text} with TypeAt:=x7.At} with Text:=x8.Text} with At:=x9.At})) (a8 (R:=ab) (a:={{{{x2 with Type_:=x6.Text} with TypeAt:=x7.At} with Text:=x8.Text} with At:=x9.At}) (R':=ab) 0 ty24 (Sub.refl _)) ?_
 refine aq (R:=ab) (R':=ab) (a:=(ApiNode.mk 0 [] [] 0 0 0 0 0 [])) (y:={{{{x2 with Type_:=x6.Text} with TypeAt:=x7.At} with Text:=x8.Text} with At:=x9.At}) 1 Tryz.sizeOf24 (Upd.refl _) ?_
 obtain rfl:=Option.some.inj h
 exact a6 ⟨rfl,[(ab).val ({{{{x2 with Type_:=x6.Text} with TypeAt:=x7.At} with Text:=x8.Text} with At:=x9.At})],⟨yBox 1 ty24 aa,trivial⟩,aa⟩
theorem ref12_end_ok (x1:List ApiToken) (x2 r:Int) (h:ref12_end x1 x2=some r):FnP Tryz.prog 89 [aj ah x1,Pr.i64 x2] (Pr.i64 r):=by
 refine bo (n:=19) (rs:=[4]) Tryz.func89 rfl Tryz.ntmps89 ⟨by decide,Tryz.results89⟩ (by decide) (fun s0=> ?_)
 unfold ref12_end at h
 refine W_rs ?_
 refine rq (out:=Pr.i64 0) ae ?_
 refine bc (fun e C=>∃(x3:ApiToken),∃(x4:ApiToken),ref12_end_j1 x3 x4=some r/\At [(4,Pr.i64 (w64 (x3.At+(x4.Text.length:Int))))] [] e C) ?_ ?_
 ·rintro e C ⟨x3,x4,h,hat1⟩
  refine W_at hat1 ?_
  clear hat1
  unfold ref12_end_j1 at h
  obtain rfl:=Option.some.inj h
  exact a6 ⟨rfl,aa⟩
 refine jm 15 hmx (by kernel_rfl) (by kernel_rfl) ?_
 refine qq (out:=aj ah x1) ag ?_
 refine qq (out:=Pr.i64 x2) ag ?_
 refine qq (out:=Pr.i64 (w64 (x2 - 1))) qInt ?_
 obtain⟨x3,hx3,h⟩:=af h
 refine qq (out:=bj ah x3) (ef (R:=ah) (l:=x1) Tryz.underlying52 Tryz.sizeOf56 hx3) ?_
 refine qq (out:=bj (Rp.int .i64) x3.At) (e7 (R:=ah) (a:=x3) fld56_2 fw) ?_
 refine qq (out:=Pr.i64 x3.At) (c5 (R:=Rp.int .i64) (a:=x3.At) ty3) ?_
 refine qq (out:=aj ah x1) ag ?_
 refine qq (out:=Pr.i64 x2) ag ?_
 refine qq (out:=Pr.i64 (w64 (x2 - 1))) qInt ?_
 obtain⟨x4,hx4,h⟩:=af h
 refine qq (out:=bj ah x4) (ef (R:=ah) (l:=x1) Tryz.underlying52 Tryz.sizeOf56 hx4) ?_
 refine qq (out:=bj am x4.Text) (e7 (R:=ah) (a:=x4) fld56_1 dp) ?_
 refine qq (out:=ai x4.Text) (c5 (R:=am) (a:=x4.Text) ty9) ?_
 refine qq (out:=Pr.i64 (x4.Text.length:Int)) (qLenS rfl Tryz.underlying9) ?_
 refine qq (out:=Pr.i64 (w64 (x3.At+(x4.Text.length:Int)))) qInt ?_
 refine qq (out:=Pr.i64 (w64 (x3.At+(x4.Text.length:Int)))) ae ?_
 exact⟨x3,x4,h,⟨⟨aa,trivial⟩,Pick.refl _⟩⟩
theorem cu (x1:List ApiToken) (x2 x3 x4:Int) (x5:List ApiNode) (r:ApiNode) (h:c7 x1 x2 x3 x4 x5=some r):FnP Tryz.prog 63 [aj ah x1,Pr.i64 x2,Pr.i64 x3,Pr.i64 x4,aj ab x5] ((ab).val r):=by
 refine el (n:=22) (rs:=[.cell 10 24]) Tryz.func63 rfl Tryz.ntmps63 Tryz.results63 (by decide) (fun s0=> ?_)
 unfold c7 at h
 refine W_rs ?_
 refine cb (R:=ab) (z:=(ApiNode.mk 0 [] [] 0 0 0 0 0 [])) Tryz.zeroValue24 (fun _=>(by rw[al];exact⟨_,⟨_,_,rfl,rfl,⟨_,_,rfl,rfl,⟨_,_,rfl,rfl,⟨_,_,rfl,rfl,⟨_,_,rfl,rfl,⟨_,_,rfl,rfl,⟨_,_,rfl,rfl,⟨_,_,rfl,rfl,⟨_,_,rfl,⟨_,rfl,none,0,rfl,⟨Nat.le_refl _,fun _=>rfl⟩,.inl rfl⟩,rfl⟩⟩⟩⟩⟩⟩⟩⟩⟩,rfl⟩)) (fun b6=> ?_)
 refine bc (fun e C=>∃(x7:ApiToken),∃(x8:Int),ref12_made_j1 x2 x5 x7 x8=some r/\At [(10,ap b6 0)] [Own.box b6 ab (ApiNode.mk x2 [] [] 0 x7.At x8 (-1) (-1) x5)] e C) ?_ ?_
 ·rintro e C ⟨x7,x8,h,hat1⟩
  refine W_at hat1 ?_
  clear hat1
  unfold ref12_made_j1 at h
  obtain rfl:=Option.some.inj h
  exact a6 ⟨rfl,[(ab).val (ApiNode.mk x2 [] [] 0 x7.At x8 (-1) (-1) x5)],⟨yBox 0 ty24 aa,trivial⟩,aa⟩
 refine jm 11 hmx (by kernel_rfl) (by kernel_rfl) ?_
 refine qq (out:=Pr.i64 x2) ag ?_
 refine qq (out:=aj ah x1) ag ?_
 refine qq (out:=Pr.i64 x3) ag ?_
 obtain⟨x7,hx7,h⟩:=af h
 refine qq (out:=bj ah x7) (ef (R:=ah) (l:=x1) Tryz.underlying52 Tryz.sizeOf56 hx7) ?_
 refine qq (out:=bj (Rp.int .i64) x7.At) (e7 (R:=ah) (a:=x7) fld56_2 fw) ?_
 refine qq (out:=Pr.i64 x7.At) (c5 (R:=Rp.int .i64) (a:=x7.At) ty3) ?_
 refine qq (out:=aj ah x1) ag ?_
 refine qq (out:=Pr.i64 x4) ag ?_
 obtain⟨x8,hx8,h⟩:=af h
 refine qq (out:=Pr.i64 x8) (aw (ref12_end_ok x1 x4 _ hx8)) ?_
 refine qq (out:=aj ab x5) ag ?_
 refine qq (out:=(ab).val (ApiNode.mk x2 [] [] 0 x7.At x8 (-1) (-1) x5)) (dc al st24 ⟨(ApiNode.mk x2 [] [] 0 0 0 0 0 []),⟨_,rfl,rfl,fun j fd hj hf=>by match j,hj with| 0,h=>exact absurd rfl h| 1,_=>cases hf;rfl| 2,_=>cases hf;rfl| 3,_=>cases hf;rfl| 4,_=>cases hf;rfl| 5,_=>cases hf;rfl| 6,_=>cases hf;rfl| 7,_=>cases hf;rfl| 8,_=>cases hf;rfl|_+9,_=>cases hf⟩,⟨(ApiNode.mk x2 [] [] 0 x7.At 0 0 0 []),⟨_,rfl,rfl,fun j fd hj hf=>by match j,hj with| 0,_=>cases hf;rfl| 1,_=>cases hf;rfl| 2,_=>cases hf;rfl| 3,_=>cases hf;rfl| 4,h=>exact absurd rfl h| 5,_=>cases hf;rfl| 6,_=>cases hf;rfl| 7,_=>cases hf;rfl| 8,_=>cases hf;rfl|_+9,_=>cases hf⟩,⟨(ApiNode.mk x2 [] [] 0 x7.At x8 0 0 []),⟨_,rfl,rfl,fun j fd hj hf=>by match j,hj with| 0,_=>cases hf;rfl| 1,_=>cases hf;rfl| 2,_=>cases hf;rfl| 3,_=>cases hf;rfl| 4,_=>cases hf;rfl| 5,h=>exact absurd rfl h| 6,_=>cases hf;rfl| 7,_=>cases hf;rfl| 8,_=>cases hf;rfl|_+9,_=>cases hf⟩,⟨(ApiNode.mk x2 [] [] 0 x7.At x8 (-1) 0 []),⟨_,rfl,rfl,fun j fd hj hf=>by match j,hj with| 0,_=>cases hf;rfl| 1,_=>cases hf;rfl| 2,_=>cases hf;rfl| 3,_=>cases hf;rfl| 4,_=>cases hf;rfl| 5,_=>cases hf;rfl| 6,h=>exact absurd rfl h| 7,_=>cases hf;rfl| 8,_=>cases hf;rfl|_+9,_=>cases hf⟩,⟨(ApiNode.mk x2 [] [] 0 x7.At x8 (-1) (-1) []),⟨_,rfl,rfl,fun j fd hj hf=>by match j,hj with| 0,_=>cases hf;rfl| 1,_=>cases hf;rfl| 2,_=>cases hf;rfl| 3,_=>cases hf;rfl| 4,_=>cases hf;rfl| 5,_=>cases hf;rfl| 6,_=>cases hf;rfl| 7,h=>exact absurd rfl h| 8,_=>cases hf;rfl|_+9,_=>cases hf⟩,⟨(ApiNode.mk x2 [] [] 0 x7.At x8 (-1) (-1) x5),⟨_,rfl,rfl,fun j fd hj hf=>by match j,hj with| 0,_=>cases hf;rfl| 1,_=>cases hf;rfl| 2,_=>cases hf;rfl| 3,_=>cases hf;rfl| 4,_=>cases hf;rfl| 5,_=>cases hf;rfl| 6,_=>cases hf;rfl| 7,_=>cases hf;rfl| 8,h=>exact absurd rfl h|_+9,_=>cases hf⟩,rfl⟩⟩⟩⟩⟩⟩) ?_
 refine aq (R:=ab) (R':=ab) (a:=(ApiNode.mk 0 [] [] 0 0 0 0 0 [])) (y:=(ApiNode.mk x2 [] [] 0 x7.At x8 (-1) (-1) x5)) 0 Tryz.sizeOf24 (Upd.refl _) ?_
 exact⟨x7,x8,h,⟨⟨aa,trivial⟩,Pick.refl _⟩⟩
theorem cd (r:Ref12Wrong) (h:ba=some r):FnP Tryz.prog 64 [] ((ac).val r):=by
 refine el (n:=2) (rs:=[.cell 0 59]) Tryz.func64 rfl Tryz.ntmps64 Tryz.results64 (by decide) (fun s0=> ?_)
 unfold ba at h
 refine W_rs ?_
 refine cb (R:=ac) (z:=(Ref12Wrong.mk 0 0)) Tryz.zeroValue59 (fun _=>⟨_,⟨_,_,rfl,rfl,⟨_,_,rfl,rfl,rfl⟩⟩,rfl⟩) (fun b1=> ?_)
 refine W_rs ?_
 refine rq (out:=(ac).val (Ref12Wrong.mk (-1) 0)) (qBuild st59 ⟨(Ref12Wrong.mk (-1) 0),⟨_,rfl,rfl,fun j fd hj hf=>by match j,hj with| 0,h=>exact absurd rfl h| 1,_=>cases hf;rfl|_+2,_=>cases hf⟩,rfl⟩) ?_
 refine aq (R:=ac) (R':=ac) (a:=(Ref12Wrong.mk 0 0)) (y:=(Ref12Wrong.mk (-1) 0)) 0 Tryz.sizeOf59 (Upd.refl _) ?_
 obtain rfl:=Option.some.inj h
 exact a6 ⟨rfl,[(ac).val (Ref12Wrong.mk (-1) 0)],⟨yBox 0 ty59 aa,trivial⟩,aa⟩
theorem ref12_params_ok (x1:List ApiToken) (x2:Int) (r:(List ApiNode) × Int × Ref12Wrong) (h:ref12_params x1 x2=some r):FnC Tryz.prog 60 [aj ah x1,Pr.i64 x2] [] (fun q C'=>∃u0,q=bh [Pr.is u0,Pr.i64 r.2.1,(ac).val r.2.2]/\C'=[Own.vec u0 ab r.1 24]):=by
 refine fnc_introR (n:=63) (rs:=[.tmp 4,.tmp 5,.cell 6 59]) Tryz.func60 rfl Tryz.ntmps60 Tryz.results60 (by decide) (fun s0=> ?_)
 unfold ref12_params at h
 refine W_rs ?_
 refine rq (out:=Pr.is (.slice none 0 0)) ae ?_
 refine rq (out:=Pr.i64 0) ae ?_
 refine cb (R:=ac) (z:=(Ref12Wrong.mk 0 0)) Tryz.zeroValue59 (fun _=>⟨_,⟨_,_,rfl,rfl,⟨_,_,rfl,rfl,rfl⟩⟩,rfl⟩) (fun b3=> ?_)
 refine W_rs ?_
 refine rq (out:=Pr.is (.slice none 0 0)) ae ?_
 refine a5 ?_
 refine W_rs ?_
 refine rq (out:=aj ah x1) ag ?_
 refine rq (out:=Pr.i64 x2) ag ?_
 obtain⟨x4,hx4,h⟩:=af h
 refine rq (out:=Pr.bool x4) (aw (a7 x1 x2 ([41]:List UInt8) _ hx4)) ?_
 refine ao (b:=x4) rfl (fun hc5=> ?_) (fun hc5=> ?_)
 ·replace h:=iteT hc5 h
  refine W_rs ?_
  refine rq (out:=Pr.is (.slice none 0 0)) ag ?_
  refine rq (out:=Pr.i64 x2) ag ?_
  refine rq (out:=Pr.i64 (w64 (x2+1))) qInt ?_
  obtain⟨x6,hx6,h⟩:=af h
  refine rq (out:=(ac).val x6) (aw (cd _ hx6)) ?_
  refine rq (out:=Pr.is (.slice none 0 0)) ae ?_
  refine rq (out:=Pr.i64 (w64 (x2+1))) ae ?_
  refine aq (R:=ac) (R':=ac) (a:=(Ref12Wrong.mk 0 0)) (y:=x6) 0 Tryz.sizeOf59 (Upd.refl _) ?_
  refine W_nil [4] ab 24 (fun v7=> ?_) ⟨rfl,trivial⟩
  obtain rfl:=Option.some.inj h
  exact a6 ⟨.inl rfl,[Pr.is v7,Pr.i64 (w64 (x2+1)),(ac).val x6],⟨yT aa,yT aa,yBox 0 ty59 aa,trivial⟩,_,Pick.of [1] rfl,v7,rfl,rfl⟩
 replace h:=iteF hc5 h
 refine au ?_
 refine az ?_
 obtain⟨n1,hN1⟩:=cc h
 refine W_nil [7] ab 24 (fun v36=> ?_) ⟨rfl,trivial⟩
 refine eh (fun m e C=>∃(x8:Int),∃(x10:List ApiNode),∃(v9:Value),en (fun s=>ja x1 s.1 s.2) m (x8,x10)=some r/\At [(0,aj ah x1),(1,Pr.i64 x8),(6,ap b3 0),(7,Pr.is v9)] [Own.box b3 ac (Ref12Wrong.mk 0 0),Own.vec v9 ab x10 24] e C) n1 ⟨x2,[],v36,hN1,⟨⟨aa,aa,aa,aa,trivial⟩,Pick.refl _⟩⟩ ?_
 clear hN1
 rintro m e C ⟨x8,x10,v9,hN1,hatl1⟩
 refine W_at hatl1 ?_
 clear hatl1
 obtain⟨m1,w1l,rfl,h1l,hn1,ho1⟩:=bx hN1
 clear hN1
 replace h1l:ja x1 x8 x10=some w1l:=h1l
 unfold ja at h1l
 refine az ?_
 refine a5 ?_
 refine bc (fun e C=>∃(x17:Bool),ic x8 x1 x10 x17=some w1l/\At [(0,aj ah x1),(1,Pr.i64 x8),(6,ap b3 0),(7,Pr.is v9),(23,Pr.bool x17)] [Own.box b3 ac (Ref12Wrong.mk 0 0),Own.vec v9 ab x10 24] e C) ?_ ?_
 ·rintro e C ⟨x17,h1l,hat2⟩
  refine W_at hat2 ?_
  clear hat2
  unfold ic at h1l
  refine ao (b:=x17) rfl (fun hc18=> ?_) (fun hc18=> ?_)
  ·replace h1l:=iteT hc18 h1l
   refine W_rs ?_
   refine rq (out:=Pr.i64 x8) ag ?_
   obtain⟨x19,hx19,h1l⟩:=af h1l
   refine rq (out:=(ac).val x19) (aw (bn x8 _ hx19)) ?_
   refine rq (out:=Pr.is (.slice none 0 0)) ae ?_
   refine rq (out:=Pr.i64 0) ae ?_
   refine aq (R:=ac) (R':=ac) (a:=(Ref12Wrong.mk 0 0)) (y:=x19) 0 Tryz.sizeOf59 (Upd.refl _) ?_
   have h:some ([],0,x19)=some r:=congrArg some (ho1 _ (Option.some.inj h1l).symm)
   refine W_nil [4] ab 24 (fun v20=> ?_) ⟨rfl,trivial⟩
   obtain rfl:=Option.some.inj h
   exact a6 ⟨.inl rfl,[Pr.is v20,Pr.i64 0,(ac).val x19],⟨yT aa,yT aa,yBox 0 ty59 aa,trivial⟩,_,Pick.of [2] rfl,v20,rfl,rfl⟩
  replace h1l:=iteF hc18 h1l
  refine au ?_
  refine a5 ?_
  refine W_rs ?_
  refine rq (out:=aj ah x1) ag ?_
  refine rq (out:=Pr.i64 x8) ag ?_
  refine rq (out:=Pr.i64 (w64 (x8+1))) qInt ?_
  obtain⟨x21,hx21,h1l⟩:=af h1l
  refine rq (out:=Pr.bool x21) (aw (gm x1 (w64 (x8+1)) _ hx21)) ?_
  refine rq (out:=Pr.bool (!x21)) qNot ?_
  refine ao (b:= !x21) rfl (fun hc22=> ?_) (fun hc22=> ?_)
  ·replace h1l:=iteT hc22 h1l
   refine W_rs ?_
   refine rq (out:=Pr.i64 x8) ag ?_
   refine rq (out:=Pr.i64 (w64 (x8+1))) qInt ?_
   obtain⟨x23,hx23,h1l⟩:=af h1l
   refine rq (out:=(ac).val x23) (aw (bn (w64 (x8+1)) _ hx23)) ?_
   refine rq (out:=Pr.is (.slice none 0 0)) ae ?_
   refine rq (out:=Pr.i64 0) ae ?_
   refine aq (R:=ac) (R':=ac) (a:=(Ref12Wrong.mk 0 0)) (y:=x23) 0 Tryz.sizeOf59 (Upd.refl _) ?_
   have h:some ([],0,x23)=some r:=congrArg some (ho1 _ (Option.some.inj h1l).symm)
   refine W_nil [4] ab 24 (fun v24=> ?_) ⟨rfl,trivial⟩
   obtain rfl:=Option.some.inj h
   exact a6 ⟨.inl rfl,[Pr.is v24,Pr.i64 0,(ac).val x23],⟨yT aa,yT aa,yBox 0 ty59 aa,trivial⟩,_,Pick.of [2] rfl,v24,rfl,rfl⟩
  replace h1l:=iteF hc22 h1l
  refine au ?_
  refine W_rs ?_
  refine rq (out:=Pr.is v9) ag ?_
  refine rq (out:=aj ah x1) ag ?_
  refine rq (out:=aj ah x1) ag ?_
  refine rq (out:=Pr.i64 x8) ag ?_
  refine rq (out:=Pr.i64 x8) ag ?_
  refine rq (out:=Pr.i64 (w64 (x8+2))) qInt ?_
  obtain⟨x25,hx25,h1l⟩:=af h1l
  refine rq (out:=(ab).val x25) (mc (cu x1 4 x8 (w64 (x8+2)) [] _ hx25) ⟨aa,aa,aa,aa,da _,trivial⟩) ?_
  refine rq (out:=Pr.i64 x8) ag ?_
  obtain⟨x26,hx26,h1l⟩:=af h1l
  refine rq (out:=(ab).val x26) (aw (ref12_typed_ok x1 x25 x8 _ hx26)) ?_
  refine rq (out:=aj ab ([x26]:List ApiNode)) (cr (R:=ab) (a:=x26) el22 (Nat.le_of_ble_eq_true rfl)) ?_
  obtain⟨x27,hx27,h1l⟩:=af h1l
  refine ip 1 el22 hx27 (fun v28=> ?_)
  refine rq (out:=Pr.is v28) ae ?_
  refine a5 ?_
  refine W_rs ?_
  refine rq (out:=aj ah x1) ag ?_
  refine rq (out:=Pr.i64 x8) ag ?_
  refine rq (out:=Pr.i64 (w64 (x8+2))) qInt ?_
  obtain⟨x29,hx29,h1l⟩:=af h1l
  refine rq (out:=Pr.bool x29) (aw (a7 x1 (w64 (x8+2)) ([41]:List UInt8) _ hx29)) ?_
  refine ao (b:=x29) rfl (fun hc30=> ?_) (fun hc30=> ?_)
  ·replace h1l:=iteT hc30 h1l
   refine W_rs ?_
   refine rq (out:=Pr.is v28) ag ?_
   refine rq (out:=Pr.i64 x8) ag ?_
   refine rq (out:=Pr.i64 (w64 (x8+3))) qInt ?_
   obtain⟨x31,hx31,h1l⟩:=af h1l
   refine rq (out:=(ac).val x31) (aw (cd _ hx31)) ?_
   refine rq (out:=Pr.is v28) ae ?_
   refine rq (out:=Pr.i64 (w64 (x8+3))) ae ?_
   refine aq (R:=ac) (R':=ac) (a:=(Ref12Wrong.mk 0 0)) (y:=x31) 0 Tryz.sizeOf59 (Upd.refl _) ?_
   have h:some (x27,w64 (x8+3),x31)=some r:=congrArg some (ho1 _ (Option.some.inj h1l).symm)
   obtain rfl:=Option.some.inj h
   exact a6 ⟨.inl rfl,[Pr.is v28,Pr.i64 (w64 (x8+3)),(ac).val x31],⟨yT aa,yT aa,yBox 0 ty59 aa,trivial⟩,_,Pick.of [1] rfl,v28,rfl,rfl⟩
  replace h1l:=iteF hc30 h1l
  refine au ?_
  refine a5 ?_
  refine W_rs ?_
  refine rq (out:=aj ah x1) ag ?_
  refine rq (out:=Pr.i64 x8) ag ?_
  refine rq (out:=Pr.i64 (w64 (x8+2))) qInt ?_
  obtain⟨x32,hx32,h1l⟩:=af h1l
  refine rq (out:=Pr.bool x32) (aw (a7 x1 (w64 (x8+2)) ([44]:List UInt8) _ hx32)) ?_
  refine rq (out:=Pr.bool (!x32)) qNot ?_
  refine ao (b:= !x32) rfl (fun hc33=> ?_) (fun hc33=> ?_)
  ·replace h1l:=iteT hc33 h1l
   refine W_rs ?_
   refine rq (out:=Pr.i64 x8) ag ?_
   refine rq (out:=Pr.i64 (w64 (x8+2))) qInt ?_
   obtain⟨x34,hx34,h1l⟩:=af h1l
   refine rq (out:=(ac).val x34) (aw (bn (w64 (x8+2)) _ hx34)) ?_
   refine rq (out:=Pr.is (.slice none 0 0)) ae ?_
   refine rq (out:=Pr.i64 0) ae ?_
   refine aq (R:=ac) (R':=ac) (a:=(Ref12Wrong.mk 0 0)) (y:=x34) 0 Tryz.sizeOf59 (Upd.refl _) ?_
   have h:some ([],0,x34)=some r:=congrArg some (ho1 _ (Option.some.inj h1l).symm)
   refine W_nil [4] ab 24 (fun v35=> ?_) ⟨rfl,trivial⟩
   obtain rfl:=Option.some.inj h
   exact a6 ⟨.inl rfl,[Pr.is v35,Pr.i64 0,(ac).val x34],⟨yT aa,yT aa,yBox 0 ty59 aa,trivial⟩,_,Pick.of [2] rfl,v35,rfl,rfl⟩
  replace h1l:=iteF hc33 h1l
  refine au ?_
  refine W_r ?_
  refine rq (out:=Pr.i64 x8) ag ?_
  refine rq (out:=Pr.i64 (w64 (x8+3))) qInt ?_
  refine rq (out:=Pr.i64 (w64 (x8+3))) ae ?_
  exact⟨m1,Nat.lt_succ_self _,w64 (x8+3),x27,v28,hn1 _ (Option.some.inj h1l).symm,⟨⟨aa,aa,aa,aa,trivial⟩,Pick.refl _⟩⟩
 refine W_r ?_
 refine rq (out:=aj ah x1) ag ?_
 refine rq (out:=Pr.i64 x8) ag ?_
 obtain⟨x14,hx14,h1l⟩:=af h1l
 refine rq (out:=Pr.bool x14) (aw (ref12_kind_ok x1 x8 _ hx14)) ?_
 refine rq (out:=Pr.bool (!x14)) qNot ?_
 refine rq (out:=Pr.bool (!x14)) ag ?_
 rcases bv h1l with⟨hc15,h1l⟩|⟨hc15,h1l⟩
 ·refine rno (neF hc15) ?_
  refine rno (neF hc15) ?_
  refine rno (neF hc15) ?_
  refine rq (out:=Pr.bool true) (bu hc15) ?_
  exact⟨true,h1l,⟨⟨aa,aa,aa,aa,aa,trivial⟩,Pick.refl _⟩⟩
 refine rqg hc15 (out:=aj ah x1) ag ?_
 refine rqg hc15 (out:=Pr.i64 x8) ag ?_
 obtain⟨x16,hx16,h1l⟩:=af h1l
 refine rqg hc15 (out:=Pr.bool x16) (aw (a7 x1 x8 ([118,111,105,100]:List UInt8) _ hx16)) ?_
 refine rq (out:=Pr.bool x16) (bp hc15) ?_
 exact⟨x16,h1l,⟨⟨aa,aa,aa,aa,aa,trivial⟩,Pick.refl _⟩⟩
theorem ref12_binds_ok (x1:List ApiToken) (x2 r:Int) (h:ref12_binds x1 x2=some r):FnP Tryz.prog 92 [aj ah x1,Pr.i64 x2] (Pr.i64 r):=by
 refine bo (n:=42) (rs:=[4]) Tryz.func92 rfl Tryz.ntmps92 ⟨by decide,Tryz.results92⟩ (by decide) (fun s0=> ?_)
 unfold ref12_binds at h
 refine W_rs ?_
 refine rq (out:=Pr.i64 0) ae ?_
 refine W_rs ?_
 refine rq (out:=aj am ([([124,124]:List UInt8)]:List (List UInt8))) (cr (R:=am) (a:=([124,124]:List UInt8)) el25 (Nat.le_of_ble_eq_true rfl)) ?_
 refine rq (out:=aj am ([([38,38]:List UInt8)]:List (List UInt8))) (cr (R:=am) (a:=([38,38]:List UInt8)) el25 (Nat.le_of_ble_eq_true rfl)) ?_
 refine rq (out:=aj am ([([61,61]:List UInt8),([33,61]:List UInt8)]:List (List UInt8))) (fo (R:=am) (ls:=([([61,61]:List UInt8),([33,61]:List UInt8)]:List (List UInt8))) el25 (Nat.le_of_ble_eq_true rfl) ⟨rfl,rfl⟩ ⟨rfl,rfl,trivial⟩) ?_
 refine rq (out:=aj am ([([60]:List UInt8),([60,61]:List UInt8),([62]:List UInt8),([62,61]:List UInt8)]:List (List UInt8))) (fo (R:=am) (ls:=([([60]:List UInt8),([60,61]:List UInt8),([62]:List UInt8),([62,61]:List UInt8)]:List (List UInt8))) el25 (Nat.le_of_ble_eq_true rfl) ⟨rfl,rfl⟩ ⟨rfl,rfl,rfl,rfl,trivial⟩) ?_
 refine rq (out:=aj am ([([43]:List UInt8),([45]:List UInt8)]:List (List UInt8))) (fo (R:=am) (ls:=([([43]:List UInt8),([45]:List UInt8)]:List (List UInt8))) el25 (Nat.le_of_ble_eq_true rfl) ⟨rfl,rfl⟩ ⟨rfl,rfl,trivial⟩) ?_
 refine rq (out:=aj am ([([42]:List UInt8),([47]:List UInt8),([37]:List UInt8)]:List (List UInt8))) (fo (R:=am) (ls:=([([42]:List UInt8),([47]:List UInt8),([37]:List UInt8)]:List (List UInt8))) el25 (Nat.le_of_ble_eq_true rfl) ⟨rfl,rfl⟩ ⟨rfl,rfl,rfl,trivial⟩) ?_
 refine rq (out:=aj (a9 am) ([([([124,124]:List UInt8)]:List (List UInt8)),([([38,38]:List UInt8)]:List (List UInt8)),([([61,61]:List UInt8),([33,61]:List UInt8)]:List (List UInt8)),([([60]:List UInt8),([60,61]:List UInt8),([62]:List UInt8),([62,61]:List UInt8)]:List (List UInt8)),([([43]:List UInt8),([45]:List UInt8)]:List (List UInt8)),([([42]:List UInt8),([47]:List UInt8),([37]:List UInt8)]:List (List UInt8))]:List (List (List UInt8)))) (fo (R:=a9 am) (ls:=([([([124,124]:List UInt8)]:List (List UInt8)),([([38,38]:List UInt8)]:List (List UInt8)),([([61,61]:List UInt8),([33,61]:List UInt8)]:List (List UInt8)),([([60]:List UInt8),([60,61]:List UInt8),([62]:List UInt8),([62,61]:List UInt8)]:List (List UInt8)),([([43]:List UInt8),([45]:List UInt8)]:List (List UInt8)),([([42]:List UInt8),([47]:List UInt8),([37]:List UInt8)]:List (List UInt8))]:List (List (List UInt8)))) el69 (Nat.le_of_ble_eq_true rfl) ⟨rfl,rfl⟩ ⟨rfl,rfl,rfl,rfl,rfl,rfl,trivial⟩) ?_
 refine rq (out:=aj (a9 am) ([([([124,124]:List UInt8)]:List (List UInt8)),([([38,38]:List UInt8)]:List (List UInt8)),([([61,61]:List UInt8),([33,61]:List UInt8)]:List (List UInt8)),([([60]:List UInt8),([60,61]:List UInt8),([62]:List UInt8),([62,61]:List UInt8)]:List (List UInt8)),([([43]:List UInt8),([45]:List UInt8)]:List (List UInt8)),([([42]:List UInt8),([47]:List UInt8),([37]:List UInt8)]:List (List UInt8))]:List (List (List UInt8)))) ae ?_
 refine a5 ?_
 refine W_rs ?_
 refine rq (out:=Pr.i64 0) ae ?_
 refine az ?_
 obtain⟨z2l,hz2,h⟩:=af h
 obtain⟨n2,hN2⟩:=cc hz2
 clear hz2
 refine du 0 (fun e C=>ref12_binds_k1=some r/\At [] [] e C) ?_ ?_
 ·rintro e C ⟨h,hat1⟩
  refine W_at hat1 ?_
  clear hat1
  unfold ref12_binds_k1 at h
  refine W_rs ?_
  refine rq (out:=Pr.i64 0) ae ?_
  obtain rfl:=Option.some.inj h
  exact a6 ⟨rfl,aa⟩
 refine eh (fun m e C=>∃(x3:Int),en (fun s=>kp x1 x2 s) m x3=some z2l/\At [(0,aj ah x1),(1,Pr.i64 x2),(5,aj (a9 am) ([([([124,124]:List UInt8)]:List (List UInt8)),([([38,38]:List UInt8)]:List (List UInt8)),([([61,61]:List UInt8),([33,61]:List UInt8)]:List (List UInt8)),([([60]:List UInt8),([60,61]:List UInt8),([62]:List UInt8),([62,61]:List UInt8)]:List (List UInt8)),([([43]:List UInt8),([45]:List UInt8)]:List (List UInt8)),([([42]:List UInt8),([47]:List UInt8),([37]:List UInt8)]:List (List UInt8))]:List (List (List UInt8)))),(6,Pr.i64 x3)] [] e C) n2 ⟨0,hN2,⟨⟨aa,aa,aa,aa,trivial⟩,Pick.refl _⟩⟩ ?_
 clear hN2
 rintro m e C ⟨x3,hN2,hatl2⟩
 refine W_at hatl2 ?_
 clear hatl2
 obtain⟨m2,w2l,rfl,h2l,hn2,ho2⟩:=bx hN2
 clear hN2
 replace h2l:kp x1 x2 x3=some w2l:=h2l
 unfold kp at h2l
 refine a5 ?_
 refine W_rs ?_
 refine rq (out:=Pr.i64 x3) ag ?_
 refine rq (out:=aj (a9 am) ([([([124,124]:List UInt8)]:List (List UInt8)),([([38,38]:List UInt8)]:List (List UInt8)),([([61,61]:List UInt8),([33,61]:List UInt8)]:List (List UInt8)),([([60]:List UInt8),([60,61]:List UInt8),([62]:List UInt8),([62,61]:List UInt8)]:List (List UInt8)),([([43]:List UInt8),([45]:List UInt8)]:List (List UInt8)),([([42]:List UInt8),([47]:List UInt8),([37]:List UInt8)]:List (List UInt8))]:List (List (List UInt8)))) ag ?_
 refine rq (out:=Pr.i64 (([([([124,124]:List UInt8)]:List (List UInt8)),([([38,38]:List UInt8)]:List (List UInt8)),([([61,61]:List UInt8),([33,61]:List UInt8)]:List (List UInt8)),([([60]:List UInt8),([60,61]:List UInt8),([62]:List UInt8),([62,61]:List UInt8)]:List (List UInt8)),([([43]:List UInt8),([45]:List UInt8)]:List (List UInt8)),([([42]:List UInt8),([47]:List UInt8),([37]:List UInt8)]:List (List UInt8))]:List (List (List UInt8))).length:Int)) (fi rfl Tryz.underlying69) ?_
 refine rq (out:=Pr.bool (decide (x3<(([([([124,124]:List UInt8)]:List (List UInt8)),([([38,38]:List UInt8)]:List (List UInt8)),([([61,61]:List UInt8),([33,61]:List UInt8)]:List (List UInt8)),([([60]:List UInt8),([60,61]:List UInt8),([62]:List UInt8),([62,61]:List UInt8)]:List (List UInt8)),([([43]:List UInt8),([45]:List UInt8)]:List (List UInt8)),([([42]:List UInt8),([47]:List UInt8),([37]:List UInt8)]:List (List UInt8))]:List (List (List UInt8))).length:Int)))) qInt ?_
 refine ao (b:=decide (x3<(([([([124,124]:List UInt8)]:List (List UInt8)),([([38,38]:List UInt8)]:List (List UInt8)),([([61,61]:List UInt8),([33,61]:List UInt8)]:List (List UInt8)),([([60]:List UInt8),([60,61]:List UInt8),([62]:List UInt8),([62,61]:List UInt8)]:List (List UInt8)),([([43]:List UInt8),([45]:List UInt8)]:List (List UInt8)),([([42]:List UInt8),([47]:List UInt8),([37]:List UInt8)]:List (List UInt8))]:List (List (List UInt8))).length:Int))) rfl (fun hc5=> ?_) (fun hc5=> ?_)
 ·replace h2l:=iteT hc5 h2l
  refine au ?_
  refine a5 ?_
  refine az ?_
  refine W_rs ?_
  refine rq (out:=Pr.i64 0) ae ?_
  refine az ?_
  obtain⟨z4l,hz4,h2l⟩:=af h2l
  obtain⟨n4,hN4⟩:=cc hz4
  clear hz4
  refine du 2 (fun e C=>ref12_binds_k3 x3=some w2l/\At [(0,aj ah x1),(1,Pr.i64 x2),(5,aj (a9 am) ([([([124,124]:List UInt8)]:List (List UInt8)),([([38,38]:List UInt8)]:List (List UInt8)),([([61,61]:List UInt8),([33,61]:List UInt8)]:List (List UInt8)),([([60]:List UInt8),([60,61]:List UInt8),([62]:List UInt8),([62,61]:List UInt8)]:List (List UInt8)),([([43]:List UInt8),([45]:List UInt8)]:List (List UInt8)),([([42]:List UInt8),([47]:List UInt8),([37]:List UInt8)]:List (List UInt8))]:List (List (List UInt8)))),(6,Pr.i64 x3)] [] e C) ?_ ?_
  ·rintro e C ⟨h2l,hat3⟩
   refine W_at hat3 ?_
   clear hat3
   unfold ref12_binds_k3 at h2l
   refine W_r ?_
   refine rq (out:=Pr.i64 x3) ag ?_
   refine rq (out:=Pr.i64 (w64 (x3+1))) qInt ?_
   refine rq (out:=Pr.i64 (w64 (x3+1))) ae ?_
   exact⟨m2,Nat.lt_succ_self _,w64 (x3+1),hn2 _ (Option.some.inj h2l).symm,⟨⟨aa,aa,aa,aa,trivial⟩,Pick.refl _⟩⟩
  refine eh (fun m e C=>∃(x6:Int),en (fun s=>iz x3 x1 x2 s) m x6=some z4l/\At [(0,aj ah x1),(1,Pr.i64 x2),(5,aj (a9 am) ([([([124,124]:List UInt8)]:List (List UInt8)),([([38,38]:List UInt8)]:List (List UInt8)),([([61,61]:List UInt8),([33,61]:List UInt8)]:List (List UInt8)),([([60]:List UInt8),([60,61]:List UInt8),([62]:List UInt8),([62,61]:List UInt8)]:List (List UInt8)),([([43]:List UInt8),([45]:List UInt8)]:List (List UInt8)),([([42]:List UInt8),([47]:List UInt8),([37]:List UInt8)]:List (List UInt8))]:List (List (List UInt8)))),(6,Pr.i64 x3),(7,Pr.i64 x6)] [] e C) n4 ⟨0,hN4,⟨⟨aa,aa,aa,aa,aa,trivial⟩,Pick.refl _⟩⟩ ?_
  clear hN4
  rintro m e C ⟨x6,hN4,hatl4⟩
  refine W_at hatl4 ?_
  clear hatl4
  obtain⟨m4,w4l,rfl,h4l,hn4,ho4⟩:=bx hN4
  clear hN4
  replace h4l:iz x3 x1 x2 x6=some w4l:=h4l
  unfold iz at h4l
  refine a5 ?_
  refine W_rs ?_
  refine rq (out:=Pr.i64 x6) ag ?_
  refine rq (out:=aj (a9 am) ([([([124,124]:List UInt8)]:List (List UInt8)),([([38,38]:List UInt8)]:List (List UInt8)),([([61,61]:List UInt8),([33,61]:List UInt8)]:List (List UInt8)),([([60]:List UInt8),([60,61]:List UInt8),([62]:List UInt8),([62,61]:List UInt8)]:List (List UInt8)),([([43]:List UInt8),([45]:List UInt8)]:List (List UInt8)),([([42]:List UInt8),([47]:List UInt8),([37]:List UInt8)]:List (List UInt8))]:List (List (List UInt8)))) ag ?_
  refine rq (out:=Pr.i64 x3) ag ?_
  obtain⟨x8,hx8,h4l⟩:=af h4l
  refine rq (out:=bj (a9 am) x8) (ef (R:=a9 am) (l:=([([([124,124]:List UInt8)]:List (List UInt8)),([([38,38]:List UInt8)]:List (List UInt8)),([([61,61]:List UInt8),([33,61]:List UInt8)]:List (List UInt8)),([([60]:List UInt8),([60,61]:List UInt8),([62]:List UInt8),([62,61]:List UInt8)]:List (List UInt8)),([([43]:List UInt8),([45]:List UInt8)]:List (List UInt8)),([([42]:List UInt8),([47]:List UInt8),([37]:List UInt8)]:List (List UInt8))]:List (List (List UInt8)))) Tryz.underlying69 Tryz.sizeOf25 hx8) ?_
  refine rq (out:=aj am x8) (c5 (R:=a9 am) (a:=x8) ty25) ?_
  refine rq (out:=Pr.i64 (x8.length:Int)) (fi rfl Tryz.underlying25) ?_
  refine rq (out:=Pr.bool (decide (x6<(x8.length:Int)))) qInt ?_
  refine ao (b:=decide (x6<(x8.length:Int))) rfl (fun hc9=> ?_) (fun hc9=> ?_)
  ·replace h4l:=iteT hc9 h4l
   refine au ?_
   refine a5 ?_
   refine az ?_
   refine W_rs ?_
   refine rq (out:=aj ah x1) ag ?_
   refine rq (out:=Pr.i64 x2) ag ?_
   refine rq (out:=aj (a9 am) ([([([124,124]:List UInt8)]:List (List UInt8)),([([38,38]:List UInt8)]:List (List UInt8)),([([61,61]:List UInt8),([33,61]:List UInt8)]:List (List UInt8)),([([60]:List UInt8),([60,61]:List UInt8),([62]:List UInt8),([62,61]:List UInt8)]:List (List UInt8)),([([43]:List UInt8),([45]:List UInt8)]:List (List UInt8)),([([42]:List UInt8),([47]:List UInt8),([37]:List UInt8)]:List (List UInt8))]:List (List (List UInt8)))) ag ?_
   refine rq (out:=Pr.i64 x3) ag ?_
   obtain⟨x10,hx10,h4l⟩:=af h4l
   refine rq (out:=bj (a9 am) x10) (ef (R:=a9 am) (l:=([([([124,124]:List UInt8)]:List (List UInt8)),([([38,38]:List UInt8)]:List (List UInt8)),([([61,61]:List UInt8),([33,61]:List UInt8)]:List (List UInt8)),([([60]:List UInt8),([60,61]:List UInt8),([62]:List UInt8),([62,61]:List UInt8)]:List (List UInt8)),([([43]:List UInt8),([45]:List UInt8)]:List (List UInt8)),([([42]:List UInt8),([47]:List UInt8),([37]:List UInt8)]:List (List UInt8))]:List (List (List UInt8)))) Tryz.underlying69 Tryz.sizeOf25 hx10) ?_
   refine rq (out:=aj am x10) (c5 (R:=a9 am) (a:=x10) ty25) ?_
   refine rq (out:=Pr.i64 x6) ag ?_
   obtain⟨x11,hx11,h4l⟩:=af h4l
   refine rq (out:=bj am x11) (ef (R:=am) (l:=x10) Tryz.underlying25 Tryz.sizeOf9 hx11) ?_
   refine rq (out:=ai x11) (c5 (R:=am) (a:=x11) ty9) ?_
   obtain⟨x12,hx12,h4l⟩:=af h4l
   refine rq (out:=Pr.bool x12) (aw (a7 x1 x2 x11 _ hx12)) ?_
   refine ao (b:=x12) rfl (fun hc13=> ?_) (fun hc13=> ?_)
   ·replace h4l:=iteT hc13 h4l
    refine W_rs ?_
    refine rq (out:=Pr.i64 x3) ag ?_
    refine rq (out:=Pr.i64 (w64 (x3+1))) qInt ?_
    refine rq (out:=Pr.i64 (w64 (x3+1))) ae ?_
    obtain rfl:=ho4 _ (Option.some.inj h4l).symm
    replace h2l:some (.inr (.done (w64 (x3+1))))=some w2l:=h2l
    obtain rfl:=ho2 _ (Option.some.inj h2l).symm
    replace h:some (w64 (x3+1))=some r:=h
    obtain rfl:=Option.some.inj h
    exact a6 ⟨rfl,aa⟩
   replace h4l:=iteF hc13 h4l
   refine au ?_
   refine W_r ?_
   refine rq (out:=Pr.i64 x6) ag ?_
   refine rq (out:=Pr.i64 (w64 (x6+1))) qInt ?_
   refine rq (out:=Pr.i64 (w64 (x6+1))) ae ?_
   exact⟨m4,Nat.lt_succ_self _,w64 (x6+1),hn4 _ (Option.some.inj h4l).symm,⟨⟨aa,aa,aa,aa,aa,trivial⟩,Pick.refl _⟩⟩
  replace h4l:=iteF hc9 h4l
  refine dg ?_
  obtain rfl:=ho4 _ (Option.some.inj h4l).symm
  exact⟨h2l,⟨⟨aa,aa,aa,aa,trivial⟩,Pick.refl _⟩⟩
 replace h2l:=iteF hc5 h2l
 refine dg ?_
 obtain rfl:=ho2 _ (Option.some.inj h2l).symm
 exact⟨h,⟨trivial,Pick.refl _⟩⟩
def d3 (R:ak):Prop:=(∀(x1:List ApiToken) (x2:Int) (x3:Int) (r:ApiNode × Int × Ref12Wrong),R.1 x1 x2 x3=some r->FnP Tryz.prog 40 [aj ah x1,Pr.i64 x2,Pr.i64 x3] (bh [(ab).val r.1,Pr.i64 r.2.1,(ac).val r.2.2]))/\(∀(x1:List ApiToken) (x2:Int) (x3:Int) (x4:Int) (r:ApiNode × Int × Ref12Wrong),R.2.1 x1 x2 x3 x4=some r->FnP Tryz.prog 67 [aj ah x1,Pr.i64 x2,Pr.i64 x3,Pr.i64 x4] (bh [(ab).val r.1,Pr.i64 r.2.1,(ac).val r.2.2]))/\(∀(x1:List ApiToken) (x2:Int) (x3:Int) (r:ApiNode × Int × Ref12Wrong),R.2.2.1 x1 x2 x3=some r->FnP Tryz.prog 91 [aj ah x1,Pr.i64 x2,Pr.i64 x3] (bh [(ab).val r.1,Pr.i64 r.2.1,(ac).val r.2.2]))/\(∀(x1:List ApiToken) (x2:Int) (x3:Int) (r:ApiNode × Int × Ref12Wrong),R.2.2.2.1 x1 x2 x3=some r->FnP Tryz.prog 106 [aj ah x1,Pr.i64 x2,Pr.i64 x3] (bh [(ab).val r.1,Pr.i64 r.2.1,(ac).val r.2.2]))/\(∀(x1:List ApiToken) (x2:Int) (x3:Int) (r:(List ApiNode) × Int × Ref12Wrong),R.2.2.2.2 x1 x2 x3=some r->FnP Tryz.prog 107 [aj ah x1,Pr.i64 x2,Pr.i64 x3] (bh [aj ab r.1,Pr.i64 r.2.1,(ac).val r.2.2]))
theorem F_ref12_expression_step (R:ak) (ih:d3 R) (x1:List ApiToken) (x2 x3:Int) (r:ApiNode × Int × Ref12Wrong) (h:ix R x1 x2 x3=some r):FnP Tryz.prog 40 [aj ah x1,Pr.i64 x2,Pr.i64 x3] (bh [(ab).val r.1,Pr.i64 r.2.1,(ac).val r.2.2]):=by
 refine el (n:=16) (rs:=[.cell 6 24,.tmp 7,.cell 8 59]) Tryz.func40 rfl Tryz.ntmps40 Tryz.results40 (by decide) (fun s0=> ?_)
 unfold ix at h
 refine W_rs ?_
 refine cb (R:=ab) (z:=(ApiNode.mk 0 [] [] 0 0 0 0 0 [])) Tryz.zeroValue24 (fun _=>(by rw[al];exact⟨_,⟨_,_,rfl,rfl,⟨_,_,rfl,rfl,⟨_,_,rfl,rfl,⟨_,_,rfl,rfl,⟨_,_,rfl,rfl,⟨_,_,rfl,rfl,⟨_,_,rfl,rfl,⟨_,_,rfl,rfl,⟨_,_,rfl,⟨_,rfl,none,0,rfl,⟨Nat.le_refl _,fun _=>rfl⟩,.inl rfl⟩,rfl⟩⟩⟩⟩⟩⟩⟩⟩⟩,rfl⟩)) (fun b4=> ?_)
 refine rq (out:=Pr.i64 0) ae ?_
 refine cb (R:=ac) (z:=(Ref12Wrong.mk 0 0)) Tryz.zeroValue59 (fun _=>⟨_,⟨_,_,rfl,rfl,⟨_,_,rfl,rfl,rfl⟩⟩,rfl⟩) (fun b5=> ?_)
 refine W_rs ?_
 refine rq (out:=aj ah x1) ag ?_
 refine rq (out:=Pr.i64 x2) ag ?_
 refine rq (out:=Pr.i64 x3) ag ?_
 obtain⟨⟨x6,x7,x8⟩,hx6,h⟩:=af h
 refine rq (out:=bh [(ab).val x6,Pr.i64 x7,(ac).val x8]) (aw (ih.2.1 x1 x2 x3 1 _ hx6)) ?_
 refine rq (out:=(ab).val x6) ar ?_
 refine rq (out:=Pr.i64 x7) ar ?_
 refine rq (out:=(ac).val x8) ar ?_
 refine aq (R:=ab) (R':=ab) (a:=(ApiNode.mk 0 [] [] 0 0 0 0 0 [])) (y:=x6) 0 Tryz.sizeOf24 (Upd.refl _) ?_
 refine rq (out:=Pr.i64 x7) ae ?_
 refine aq (R:=ac) (R':=ac) (a:=(Ref12Wrong.mk 0 0)) (y:=x8) 1 Tryz.sizeOf59 (Upd.refl _) ?_
 obtain rfl:=Option.some.inj h
 exact a6 ⟨rfl,[(ab).val x6,Pr.i64 x7,(ac).val x8],⟨yBox 0 ty24 aa,yT aa,yBox 1 ty59 aa,trivial⟩,aa⟩
theorem F_ref12_level_step (R:ak) (ih:d3 R) (x1:List ApiToken) (x2 x3 x4:Int) (r:ApiNode × Int × Ref12Wrong) (h:F_ref12_level R x1 x2 x3 x4=some r):FnP Tryz.prog 67 [aj ah x1,Pr.i64 x2,Pr.i64 x3,Pr.i64 x4] (bh [(ab).val r.1,Pr.i64 r.2.1,(ac).val r.2.2]):=by
 refine el (n:=81) (rs:=[.cell 8 24,.tmp 9,.cell 10 59]) Tryz.func67 rfl Tryz.ntmps67 Tryz.results67 (by decide) (fun s0=> ?_)
 unfold F_ref12_level at h
 refine W_rs ?_
 refine cb (R:=ab) (z:=(ApiNode.mk 0 [] [] 0 0 0 0 0 [])) Tryz.zeroValue24 (fun _=>(by rw[al];exact⟨_,⟨_,_,rfl,rfl,⟨_,_,rfl,rfl,⟨_,_,rfl,rfl,⟨_,_,rfl,rfl,⟨_,_,rfl,rfl,⟨_,_,rfl,rfl,⟨_,_,rfl,rfl,⟨_,_,rfl,rfl,⟨_,_,rfl,⟨_,rfl,none,0,rfl,⟨Nat.le_refl _,fun _=>rfl⟩,.inl rfl⟩,rfl⟩⟩⟩⟩⟩⟩⟩⟩⟩,rfl⟩)) (fun b5=> ?_)
 refine rq (out:=Pr.i64 0) ae ?_
 refine cb (R:=ac) (z:=(Ref12Wrong.mk 0 0)) Tryz.zeroValue59 (fun _=>⟨_,⟨_,_,rfl,rfl,⟨_,_,rfl,rfl,rfl⟩⟩,rfl⟩) (fun b6=> ?_)
 refine a5 ?_
 refine W_rs ?_
 refine rq (out:=Pr.i64 x4) ag ?_
 refine rq (out:=Pr.bool (decide (x4>6))) qInt ?_
 refine ao (b:=decide (x4>6)) rfl (fun hc7=> ?_) (fun hc7=> ?_)
 ·replace h:=iteT hc7 h
  refine W_rs ?_
  refine rq (out:=aj ah x1) ag ?_
  refine rq (out:=Pr.i64 x2) ag ?_
  refine rq (out:=Pr.i64 x3) ag ?_
  obtain⟨⟨x8,x9,x10⟩,hx8,h⟩:=af h
  refine rq (out:=bh [(ab).val x8,Pr.i64 x9,(ac).val x10]) (aw (ih.2.2.1 x1 x2 x3 _ hx8)) ?_
  refine rq (out:=(ab).val x8) ar ?_
  refine rq (out:=Pr.i64 x9) ar ?_
  refine rq (out:=(ac).val x10) ar ?_
  refine aq (R:=ab) (R':=ab) (a:=(ApiNode.mk 0 [] [] 0 0 0 0 0 [])) (y:=x8) 0 Tryz.sizeOf24 (Upd.refl _) ?_
  refine rq (out:=Pr.i64 x9) ae ?_
  refine aq (R:=ac) (R':=ac) (a:=(Ref12Wrong.mk 0 0)) (y:=x10) 1 Tryz.sizeOf59 (Upd.refl _) ?_
  obtain rfl:=Option.some.inj h
  exact a6 ⟨rfl,[(ab).val x8,Pr.i64 x9,(ac).val x10],⟨yBox 0 ty24 aa,yT aa,yBox 1 ty59 aa,trivial⟩,aa⟩
 replace h:=iteF hc7 h
 refine au ?_
 refine W_rs ?_
 refine rq (out:=aj ah x1) ag ?_
 refine rq (out:=Pr.i64 x2) ag ?_
 refine rq (out:=Pr.i64 x3) ag ?_
 refine rq (out:=Pr.i64 x4) ag ?_
 refine rq (out:=Pr.i64 (w64 (x4+1))) qInt ?_
 obtain⟨⟨x11,x12,x13⟩,hx11,h⟩:=af h
 refine rq (out:=bh [(ab).val x11,Pr.i64 x12,(ac).val x13]) (aw (ih.2.1 x1 x2 x3 (w64 (x4+1)) _ hx11)) ?_
 refine rq (out:=bh [(ab).val x11,Pr.i64 x12,(ac).val x13]) ag ?_
 refine rq (out:=(ab).val x11) ar ?_
 refine rq (out:=Pr.i64 x12) ar ?_
 refine rq (out:=(ac).val x13) ar ?_
 refine cb (R:=ab) (z:=(ApiNode.mk 0 [] [] 0 0 0 0 0 [])) Tryz.zeroValue24 (fun _=>(by rw[al];exact⟨_,⟨_,_,rfl,rfl,⟨_,_,rfl,rfl,⟨_,_,rfl,rfl,⟨_,_,rfl,rfl,⟨_,_,rfl,rfl,⟨_,_,rfl,rfl,⟨_,_,rfl,rfl,⟨_,_,rfl,rfl,⟨_,_,rfl,⟨_,rfl,none,0,rfl,⟨Nat.le_refl _,fun _=>rfl⟩,.inl rfl⟩,rfl⟩⟩⟩⟩⟩⟩⟩⟩⟩,rfl⟩)) (fun b14=> ?_)
 refine cb (R:=ac) (z:=(Ref12Wrong.mk 0 0)) Tryz.zeroValue59 (fun _=>⟨_,⟨_,_,rfl,rfl,⟨_,_,rfl,rfl,rfl⟩⟩,rfl⟩) (fun b15=> ?_)
 refine aq (R:=ab) (R':=ab) (a:=(ApiNode.mk 0 [] [] 0 0 0 0 0 [])) (y:=x11) 2 Tryz.sizeOf24 (Upd.refl _) ?_
 refine rq (out:=Pr.i64 x12) ae ?_
 refine aq (R:=ac) (R':=ac) (a:=(Ref12Wrong.mk 0 0)) (y:=x13) 3 Tryz.sizeOf59 (Upd.refl _) ?_
 refine a5 ?_
 refine W_rs ?_
 refine rq (out:=ap b15 0) (a4 gy) ?_
 refine rq (out:=Pr.i64 x13.Place) (a8 (R:=ac) (a:=x13) (R':=Rp.int .i64) 3 ty3 bb) ?_
 refine rq (out:=Pr.bool (decide (x13.Place≥0))) qInt ?_
 refine ao (b:=decide (x13.Place≥0)) rfl (fun hc16=> ?_) (fun hc16=> ?_)
 ·replace h:=iteT hc16 h
  refine bc (fun e C=>ref12_level_j1 R x13=some r/\At [(8,ap b5 0),(9,Pr.i64 0),(10,ap b6 0)] [Own.box b5 ab (ApiNode.mk 0 [] [] 0 0 0 0 0 []),Own.box b6 ac x13,Own.box b14 ab x11,Own.box b15 ac x13] e C) ?_ ?_
  ·rintro e C ⟨h,hat1⟩
   refine W_at hat1 ?_
   clear hat1
   unfold ref12_level_j1 at h
   obtain rfl:=Option.some.inj h
   exact a6 ⟨rfl,[(ab).val (ApiNode.mk 0 [] [] 0 0 0 0 0 []),Pr.i64 0,(ac).val x13],⟨yBox 0 ty24 aa,yT aa,yBox 1 ty59 aa,trivial⟩,aa⟩
  refine dx [(2,0,Own.box b5 ab (ApiNode.mk 0 [] [] 0 0 0 0 0 [])),(4,1,Own.box b6 ac x13)] [Own.box b5 ab (ApiNode.mk 0 [] [] 0 0 0 0 0 []),Own.box b6 ac x13,Own.box b14 ab x11,Own.box b15 ac x13] hmx (by kernel_rfl) (by kernel_rfl) (show([2,4]:List Nat).Nodup by decide) (show([0,1]:List Nat).Nodup by decide) rfl rfl ?_
  refine eq1 (out:=(ab).val (ApiNode.mk 0 [] [] 0 0 0 0 0 [])) (fun C2 hC=>(dc al st24 rfl)) ?_
  refine eq1 (out:=(ac).val x13) (fun C2 hC=>(a8 (R:=ac) (a:=x13) (R':=ac) 3 ty59 (Sub.refl _) (hi:=(hC 3 (by kernel_rfl)).trans rfl))) ?_
  refine eqS (fun C2 hC=>de (R:=ab) (R':=ab) (a:=(ApiNode.mk 0 [] [] 0 0 0 0 0 [])) (y:=(ApiNode.mk 0 [] [] 0 0 0 0 0 [])) 0 Tryz.sizeOf24 (Upd.refl _) ((hC 0 (by kernel_rfl)).trans rfl)) ?_
  refine eq1 (out:=Pr.i64 0) (fun C2 hC=>ae) ?_
  refine eqS (fun C2 hC=>de (R:=ac) (R':=ac) (a:=(Ref12Wrong.mk 0 0)) (y:=x13) 1 Tryz.sizeOf59 (Upd.refl _) ((hC 1 (by kernel_rfl)).trans rfl)) ?_
  exact⟨h,⟨⟨aa,aa,aa,trivial⟩,Pick.refl _⟩⟩
 replace h:=iteF hc16 h
 refine au ?_
 refine a5 ?_
 refine az ?_
 obtain⟨z4l,hz4,h⟩:=af h
 obtain⟨n4,hN4⟩:=cc hz4
 clear hz4
 refine du 0 (fun e C=>∃(x17:Int),∃(x18:ApiNode),ref12_level_k3 R x17 x18=some r/\At [(8,ap b5 0),(10,ap b6 0),(11,ap b14 0),(12,Pr.i64 x17)] [Own.box b5 ab (ApiNode.mk 0 [] [] 0 0 0 0 0 []),Own.box b6 ac (Ref12Wrong.mk 0 0),Own.box b14 ab x18,Own.box b15 ac x13] e C) ?_ ?_
 ·rintro e C ⟨x17,x18,h,hat3⟩
  refine W_at hat3 ?_
  clear hat3
  unfold ref12_level_k3 at h
  refine bc (fun e C=>∃(x31:Ref12Wrong),ref12_level_j2 R x18 x17 x31=some r/\At [(8,ap b5 0),(9,Pr.i64 x17),(10,ap b6 0)] [Own.box b5 ab x18,Own.box b6 ac x31,Own.box b14 ab x18,Own.box b15 ac x13] e C) ?_ ?_
  ·rintro e C ⟨x31,h,hat2⟩
   refine W_at hat2 ?_
   clear hat2
   unfold ref12_level_j2 at h
   obtain rfl:=Option.some.inj h
   exact a6 ⟨rfl,[(ab).val x18,Pr.i64 x17,(ac).val x31],⟨yBox 0 ty24 aa,yT aa,yBox 1 ty59 aa,trivial⟩,aa⟩
  obtain⟨x31,hx31,h⟩:=af h
  refine dx [(3,0,Own.box b5 ab x18),(5,1,Own.box b6 ac x31)] [Own.box b5 ab x18,Own.box b6 ac x31,Own.box b14 ab x18,Own.box b15 ac x13] hmx (by kernel_rfl) (by kernel_rfl) (show([3,5]:List Nat).Nodup by decide) (show([0,1]:List Nat).Nodup by decide) rfl rfl ?_
  refine eq1 (out:=(ab).val x18) (fun C2 hC=>(a8 (R:=ab) (a:=x18) (R':=ab) 2 ty24 (Sub.refl _) (hi:=(hC 2 (by kernel_rfl)).trans rfl))) ?_
  refine eq1 (out:=Pr.i64 x17) (fun C2 hC=>ag) ?_
  refine eq1 (out:=(ac).val x31) (fun C2 hC=>(aw (cd _ hx31))) ?_
  refine eqS (fun C2 hC=>de (R:=ab) (R':=ab) (a:=(ApiNode.mk 0 [] [] 0 0 0 0 0 [])) (y:=x18) 0 Tryz.sizeOf24 (Upd.refl _) ((hC 0 (by kernel_rfl)).trans rfl)) ?_
  refine eq1 (out:=Pr.i64 x17) (fun C2 hC=>ae) ?_
  refine eqS (fun C2 hC=>de (R:=ac) (R':=ac) (a:=(Ref12Wrong.mk 0 0)) (y:=x31) 1 Tryz.sizeOf59 (Upd.refl _) ((hC 1 (by kernel_rfl)).trans rfl)) ?_
  exact⟨x31,h,⟨⟨aa,aa,aa,trivial⟩,Pick.refl _⟩⟩
 refine eh (fun m e C=>∃(x17:Int),∃(x18:ApiNode),en (fun s=>kn R x1 x4 x3 x2 s.1 s.2) m (x17,x18)=some z4l/\At [(0,aj ah x1),(1,Pr.i64 x2),(2,Pr.i64 x3),(3,Pr.i64 x4),(8,ap b5 0),(10,ap b6 0),(11,ap b14 0),(12,Pr.i64 x17)] [Own.box b5 ab (ApiNode.mk 0 [] [] 0 0 0 0 0 []),Own.box b6 ac (Ref12Wrong.mk 0 0),Own.box b14 ab x18,Own.box b15 ac x13] e C) n4 ⟨x12,x11,hN4,⟨⟨aa,aa,aa,aa,aa,aa,aa,aa,trivial⟩,Pick.refl _⟩⟩ ?_
 clear hN4
 rintro m e C ⟨x17,x18,hN4,hatl4⟩
 refine W_at hatl4 ?_
 clear hatl4
 obtain⟨m4,w4l,rfl,h4l,hn4,ho4⟩:=bx hN4
 clear hN4
 replace h4l:kn R x1 x4 x3 x2 x17 x18=some w4l:=h4l
 unfold kn at h4l
 refine a5 ?_
 refine W_rs ?_
 refine rq (out:=aj ah x1) ag ?_
 refine rq (out:=Pr.i64 x17) ag ?_
 obtain⟨x21,hx21,h4l⟩:=af h4l
 refine rq (out:=Pr.i64 x21) (aw (ref12_binds_ok x1 x17 _ hx21)) ?_
 refine rq (out:=Pr.i64 x4) ag ?_
 refine rq (out:=Pr.bool (x21==x4)) qInt ?_
 refine ao (b:=x21==x4) rfl (fun hc22=> ?_) (fun hc22=> ?_)
 ·replace h4l:=iteT hc22 h4l
  refine au ?_
  refine az ?_
  refine W_rs ?_
  refine rq (out:=aj ah x1) ag ?_
  refine rq (out:=Pr.i64 x17) ag ?_
  refine rq (out:=Pr.i64 (w64 (x17+1))) qInt ?_
  refine rq (out:=Pr.i64 x3) ag ?_
  refine rq (out:=Pr.i64 x4) ag ?_
  refine rq (out:=Pr.i64 (w64 (x4+1))) qInt ?_
  obtain⟨⟨x23,x24,x25⟩,hx23,h4l⟩:=af h4l
  refine rq (out:=bh [(ab).val x23,Pr.i64 x24,(ac).val x25]) (aw (ih.2.1 x1 (w64 (x17+1)) x3 (w64 (x4+1)) _ hx23)) ?_
  refine rq (out:=bh [(ab).val x23,Pr.i64 x24,(ac).val x25]) ag ?_
  refine rq (out:=(ab).val x23) ar ?_
  refine rq (out:=Pr.i64 x24) ar ?_
  refine rq (out:=(ac).val x25) ar ?_
  refine cb (R:=ab) (z:=(ApiNode.mk 0 [] [] 0 0 0 0 0 [])) Tryz.zeroValue24 (fun _=>(by rw[al];exact⟨_,⟨_,_,rfl,rfl,⟨_,_,rfl,rfl,⟨_,_,rfl,rfl,⟨_,_,rfl,rfl,⟨_,_,rfl,rfl,⟨_,_,rfl,rfl,⟨_,_,rfl,rfl,⟨_,_,rfl,rfl,⟨_,_,rfl,⟨_,rfl,none,0,rfl,⟨Nat.le_refl _,fun _=>rfl⟩,.inl rfl⟩,rfl⟩⟩⟩⟩⟩⟩⟩⟩⟩,rfl⟩)) (fun b26=> ?_)
  refine cb (R:=ac) (z:=(Ref12Wrong.mk 0 0)) Tryz.zeroValue59 (fun _=>⟨_,⟨_,_,rfl,rfl,⟨_,_,rfl,rfl,rfl⟩⟩,rfl⟩) (fun b27=> ?_)
  refine aq (R:=ab) (R':=ab) (a:=(ApiNode.mk 0 [] [] 0 0 0 0 0 [])) (y:=x23) 4 Tryz.sizeOf24 (Upd.refl _) ?_
  refine rq (out:=Pr.i64 x24) ae ?_
  refine aq (R:=ac) (R':=ac) (a:=(Ref12Wrong.mk 0 0)) (y:=x25) 5 Tryz.sizeOf59 (Upd.refl _) ?_
  refine a5 ?_
  refine W_rs ?_
  refine rq (out:=ap b27 0) (a4 gy) ?_
  refine rq (out:=Pr.i64 x25.Place) (a8 (R:=ac) (a:=x25) (R':=Rp.int .i64) 5 ty3 bb) ?_
  refine rq (out:=Pr.bool (decide (x25.Place≥0))) qInt ?_
  refine ao (b:=decide (x25.Place≥0)) rfl (fun hc28=> ?_) (fun hc28=> ?_)
  ·replace h4l:=iteT hc28 h4l
   refine bc (fun e C=>ref12_level_j5 R x25=some w4l/\At [(8,ap b5 0),(9,Pr.i64 0),(10,ap b6 0)] [Own.box b5 ab (ApiNode.mk 0 [] [] 0 0 0 0 0 []),Own.box b6 ac x25,Own.box b14 ab x18,Own.box b15 ac x13,Own.box b26 ab x23,Own.box b27 ac x25] e C) ?_ ?_
   ·rintro e C ⟨h4l,hat5⟩
    refine W_at hat5 ?_
    clear hat5
    unfold ref12_level_j5 at h4l
    obtain rfl:=ho4 _ (Option.some.inj h4l).symm
    replace h:some ((ApiNode.mk 0 [] [] 0 0 0 0 0 []),0,x25)=some r:=h
    obtain rfl:=Option.some.inj h
    exact a6 ⟨rfl,[(ab).val (ApiNode.mk 0 [] [] 0 0 0 0 0 []),Pr.i64 0,(ac).val x25],⟨yBox 0 ty24 aa,yT aa,yBox 1 ty59 aa,trivial⟩,aa⟩
   refine dx [(2,0,Own.box b5 ab (ApiNode.mk 0 [] [] 0 0 0 0 0 [])),(4,1,Own.box b6 ac x25)] [Own.box b5 ab (ApiNode.mk 0 [] [] 0 0 0 0 0 []),Own.box b6 ac x25,Own.box b14 ab x18,Own.box b15 ac x13,Own.box b26 ab x23,Own.box b27 ac x25] hmx (by kernel_rfl) (by kernel_rfl) (show([2,4]:List Nat).Nodup by decide) (show([0,1]:List Nat).Nodup by decide) rfl rfl ?_
   refine eq1 (out:=(ab).val (ApiNode.mk 0 [] [] 0 0 0 0 0 [])) (fun C2 hC=>(dc al st24 rfl)) ?_
   refine eq1 (out:=(ac).val x25) (fun C2 hC=>(a8 (R:=ac) (a:=x25) (R':=ac) 5 ty59 (Sub.refl _) (hi:=(hC 5 (by kernel_rfl)).trans rfl))) ?_
   refine eqS (fun C2 hC=>de (R:=ab) (R':=ab) (a:=(ApiNode.mk 0 [] [] 0 0 0 0 0 [])) (y:=(ApiNode.mk 0 [] [] 0 0 0 0 0 [])) 0 Tryz.sizeOf24 (Upd.refl _) ((hC 0 (by kernel_rfl)).trans rfl)) ?_
   refine eq1 (out:=Pr.i64 0) (fun C2 hC=>ae) ?_
   refine eqS (fun C2 hC=>de (R:=ac) (R':=ac) (a:=(Ref12Wrong.mk 0 0)) (y:=x25) 1 Tryz.sizeOf59 (Upd.refl _) ((hC 1 (by kernel_rfl)).trans rfl)) ?_
   exact⟨h4l,⟨⟨aa,aa,aa,trivial⟩,Pick.refl _⟩⟩
  replace h4l:=iteF hc28 h4l
  refine au ?_
  refine W_rs ?_
  refine rq (out:=aj ah x1) ag ?_
  refine rq (out:=Pr.i64 x17) ag ?_
  obtain⟨x29,hx29,h4l⟩:=af h4l
  refine rq (out:=bj ah x29) (ef (R:=ah) (l:=x1) Tryz.underlying52 Tryz.sizeOf56 hx29) ?_
  refine rq (out:=bj am x29.Text) (e7 (R:=ah) (a:=x29) fld56_1 dp) ?_
  refine rq (out:=ai x29.Text) (c5 (R:=am) (a:=x29.Text) ty9) ?_
  refine rq (out:=ai x29.Text) ae ?_
  refine W_rs ?_
  refine rq (out:=aj ah x1) ag ?_
  refine rq (out:=Pr.i64 x2) ag ?_
  refine rq (out:=Pr.i64 x24) ag ?_
  refine rq (out:=(ab).val x18) (a8 (R:=ab) (a:=x18) (R':=ab) 2 ty24 (Sub.refl _)) ?_
  refine rq (out:=(ab).val x23) (a8 (R:=ab) (a:=x23) (R':=ab) 4 ty24 (Sub.refl _)) ?_
  refine rq (out:=aj ab ([x18,x23]:List ApiNode)) (fo (R:=ab) (ls:=([x18,x23]:List ApiNode)) el22 (Nat.le_of_ble_eq_true rfl) ⟨rfl,rfl⟩ ⟨rfl,rfl,trivial⟩) ?_
  obtain⟨x30,hx30,h4l⟩:=af h4l
  refine rq (out:=(ab).val x30) (aw (cu x1 24 x2 x24 ([x18,x23]:List ApiNode) _ hx30)) ?_
  refine aq (R:=ab) (R':=ab) (a:=x18) (y:=x30) 2 Tryz.sizeOf24 (Upd.refl _) ?_
  refine W_rs ?_
  refine rq (out:=ai x29.Text) ag ?_
  refine rq (out:=ap b14 1) (a4 gl) ?_
  refine aq (R:=ab) (R':=am) (a:=x30) (y:=x29.Text) 2 Tryz.sizeOf9 ia ?_
  refine W_r ?_
  refine rq (out:=Pr.i64 x24) ag ?_
  refine rq (out:=Pr.i64 x24) ae ?_
  exact⟨m4,Nat.lt_succ_self _,x24,{x30 with Text:=x29.Text},hn4 _ (Option.some.inj h4l).symm,⟨⟨aa,aa,aa,aa,aa,aa,aa,aa,trivial⟩,Pick.of [0,1,2,3] rfl⟩⟩
 replace h4l:=iteF hc22 h4l
 refine dg ?_
 obtain rfl:=ho4 _ (Option.some.inj h4l).symm
 exact⟨x17,x18,h,⟨⟨aa,aa,aa,aa,trivial⟩,Pick.refl _⟩⟩
theorem F_ref12_unary_step (R:ak) (ih:d3 R) (x1:List ApiToken) (x2 x3:Int) (r:ApiNode × Int × Ref12Wrong) (h:F_ref12_unary R x1 x2 x3=some r):FnP Tryz.prog 91 [aj ah x1,Pr.i64 x2,Pr.i64 x3] (bh [(ab).val r.1,Pr.i64 r.2.1,(ac).val r.2.2]):=by
 refine el (n:=140) (rs:=[.cell 6 24,.tmp 7,.cell 8 59]) Tryz.func91 rfl Tryz.ntmps91 Tryz.results91 (by decide) (fun s0=> ?_)
 unfold F_ref12_unary at h
 refine W_rs ?_
 refine cb (R:=ab) (z:=(ApiNode.mk 0 [] [] 0 0 0 0 0 [])) Tryz.zeroValue24 (fun _=>(by rw[al];exact⟨_,⟨_,_,rfl,rfl,⟨_,_,rfl,rfl,⟨_,_,rfl,rfl,⟨_,_,rfl,rfl,⟨_,_,rfl,rfl,⟨_,_,rfl,rfl,⟨_,_,rfl,rfl,⟨_,_,rfl,rfl,⟨_,_,rfl,⟨_,rfl,none,0,rfl,⟨Nat.le_refl _,fun _=>rfl⟩,.inl rfl⟩,rfl⟩⟩⟩⟩⟩⟩⟩⟩⟩,rfl⟩)) (fun b4=> ?_)
 refine rq (out:=Pr.i64 0) ae ?_
 refine cb (R:=ac) (z:=(Ref12Wrong.mk 0 0)) Tryz.zeroValue59 (fun _=>⟨_,⟨_,_,rfl,rfl,⟨_,_,rfl,rfl,rfl⟩⟩,rfl⟩) (fun b5=> ?_)
 refine a5 ?_
 refine W_rs ?_
 refine rq (out:=Pr.i64 x3) ag ?_
 refine rq (out:=Pr.bool (decide (x3>60))) qInt ?_
 refine ao (b:=decide (x3>60)) rfl (fun hc6=> ?_) (fun hc6=> ?_)
 ·replace h:=iteT hc6 h
  refine W_rs ?_
  refine rq (out:=(ab).val (ApiNode.mk 0 [] [] 0 0 0 0 0 [])) (dc al st24 rfl) ?_
  refine rq (out:=Pr.i64 x2) ag ?_
  refine rq (out:=(ac).val (Ref12Wrong.mk x2 2)) (qBuild st59 ⟨(Ref12Wrong.mk x2 0),⟨_,rfl,rfl,fun j fd hj hf=>by match j,hj with| 0,h=>exact absurd rfl h| 1,_=>cases hf;rfl|_+2,_=>cases hf⟩,⟨(Ref12Wrong.mk x2 2),⟨_,rfl,rfl,fun j fd hj hf=>by match j,hj with| 0,_=>cases hf;rfl| 1,h=>exact absurd rfl h|_+2,_=>cases hf⟩,rfl⟩⟩) ?_
  refine aq (R:=ab) (R':=ab) (a:=(ApiNode.mk 0 [] [] 0 0 0 0 0 [])) (y:=(ApiNode.mk 0 [] [] 0 0 0 0 0 [])) 0 Tryz.sizeOf24 (Upd.refl _) ?_
  refine rq (out:=Pr.i64 0) ae ?_
  refine aq (R:=ac) (R':=ac) (a:=(Ref12Wrong.mk 0 0)) (y:=(Ref12Wrong.mk x2 2)) 1 Tryz.sizeOf59 (Upd.refl _) ?_
  obtain rfl:=Option.some.inj h
  exact a6 ⟨rfl,[(ab).val (ApiNode.mk 0 [] [] 0 0 0 0 0 []),Pr.i64 0,(ac).val (Ref12Wrong.mk x2 2)],⟨yBox 0 ty24 aa,yT aa,yBox 1 ty59 aa,trivial⟩,aa⟩
 replace h:=iteF hc6 h
 refine au ?_
 refine a5 ?_
 refine bc (fun e C=>∃(x10:Bool),kj R x1 x2 x3 x10=some r/\At [(0,aj ah x1),(1,Pr.i64 x2),(2,Pr.i64 x3),(6,ap b4 0),(8,ap b5 0),(34,Pr.bool x10)] [Own.box b4 ab (ApiNode.mk 0 [] [] 0 0 0 0 0 []),Own.box b5 ac (Ref12Wrong.mk 0 0)] e C) ?_ ?_
 ·rintro e C ⟨x10,h,hat9⟩
  refine W_at hat9 ?_
  clear hat9
  unfold kj at h
  refine ao (b:=x10) rfl (fun hc11=> ?_) (fun hc11=> ?_)
  ·replace h:=iteT hc11 h
   refine W_rs ?_
   refine rq (out:=aj ah x1) ag ?_
   refine rq (out:=Pr.i64 x2) ag ?_
   refine rq (out:=Pr.i64 (w64 (x2+1))) qInt ?_
   refine rq (out:=Pr.i64 x3) ag ?_
   refine rq (out:=Pr.i64 (w64 (x3+1))) qInt ?_
   obtain⟨⟨x12,x13,x14⟩,hx12,h⟩:=af h
   refine rq (out:=bh [(ab).val x12,Pr.i64 x13,(ac).val x14]) (aw (ih.2.2.1 x1 (w64 (x2+1)) (w64 (x3+1)) _ hx12)) ?_
   refine rq (out:=bh [(ab).val x12,Pr.i64 x13,(ac).val x14]) ag ?_
   refine rq (out:=(ab).val x12) ar ?_
   refine rq (out:=Pr.i64 x13) ar ?_
   refine rq (out:=(ac).val x14) ar ?_
   refine cb (R:=ab) (z:=(ApiNode.mk 0 [] [] 0 0 0 0 0 [])) Tryz.zeroValue24 (fun _=>(by rw[al];exact⟨_,⟨_,_,rfl,rfl,⟨_,_,rfl,rfl,⟨_,_,rfl,rfl,⟨_,_,rfl,rfl,⟨_,_,rfl,rfl,⟨_,_,rfl,rfl,⟨_,_,rfl,rfl,⟨_,_,rfl,rfl,⟨_,_,rfl,⟨_,rfl,none,0,rfl,⟨Nat.le_refl _,fun _=>rfl⟩,.inl rfl⟩,rfl⟩⟩⟩⟩⟩⟩⟩⟩⟩,rfl⟩)) (fun b15=> ?_)
   refine cb (R:=ac) (z:=(Ref12Wrong.mk 0 0)) Tryz.zeroValue59 (fun _=>⟨_,⟨_,_,rfl,rfl,⟨_,_,rfl,rfl,rfl⟩⟩,rfl⟩) (fun b16=> ?_)
   refine aq (R:=ab) (R':=ab) (a:=(ApiNode.mk 0 [] [] 0 0 0 0 0 [])) (y:=x12) 2 Tryz.sizeOf24 (Upd.refl _) ?_
   refine rq (out:=Pr.i64 x13) ae ?_
   refine aq (R:=ac) (R':=ac) (a:=(Ref12Wrong.mk 0 0)) (y:=x14) 3 Tryz.sizeOf59 (Upd.refl _) ?_
   refine a5 ?_
   refine W_rs ?_
   refine rq (out:=ap b16 0) (a4 gy) ?_
   refine rq (out:=Pr.i64 x14.Place) (a8 (R:=ac) (a:=x14) (R':=Rp.int .i64) 3 ty3 bb) ?_
   refine rq (out:=Pr.bool (decide (x14.Place≥0))) qInt ?_
   refine ao (b:=decide (x14.Place≥0)) rfl (fun hc17=> ?_) (fun hc17=> ?_)
   ·replace h:=iteT hc17 h
    refine bc (fun e C=>ref12_unary_j1 R x14=some r/\At [(6,ap b4 0),(7,Pr.i64 0),(8,ap b5 0)] [Own.box b4 ab (ApiNode.mk 0 [] [] 0 0 0 0 0 []),Own.box b5 ac x14,Own.box b15 ab x12,Own.box b16 ac x14] e C) ?_ ?_
    ·rintro e C ⟨h,hat1⟩
     refine W_at hat1 ?_
     clear hat1
     unfold ref12_unary_j1 at h
     obtain rfl:=Option.some.inj h
     exact a6 ⟨rfl,[(ab).val (ApiNode.mk 0 [] [] 0 0 0 0 0 []),Pr.i64 0,(ac).val x14],⟨yBox 0 ty24 aa,yT aa,yBox 1 ty59 aa,trivial⟩,aa⟩
    refine dx [(2,0,Own.box b4 ab (ApiNode.mk 0 [] [] 0 0 0 0 0 [])),(4,1,Own.box b5 ac x14)] [Own.box b4 ab (ApiNode.mk 0 [] [] 0 0 0 0 0 []),Own.box b5 ac x14,Own.box b15 ab x12,Own.box b16 ac x14] hmx (by kernel_rfl) (by kernel_rfl) (show([2,4]:List Nat).Nodup by decide) (show([0,1]:List Nat).Nodup by decide) rfl rfl ?_
    refine eq1 (out:=(ab).val (ApiNode.mk 0 [] [] 0 0 0 0 0 [])) (fun C2 hC=>(dc al st24 rfl)) ?_
    refine eq1 (out:=(ac).val x14) (fun C2 hC=>(a8 (R:=ac) (a:=x14) (R':=ac) 3 ty59 (Sub.refl _) (hi:=(hC 3 (by kernel_rfl)).trans rfl))) ?_
    refine eqS (fun C2 hC=>de (R:=ab) (R':=ab) (a:=(ApiNode.mk 0 [] [] 0 0 0 0 0 [])) (y:=(ApiNode.mk 0 [] [] 0 0 0 0 0 [])) 0 Tryz.sizeOf24 (Upd.refl _) ((hC 0 (by kernel_rfl)).trans rfl)) ?_
    refine eq1 (out:=Pr.i64 0) (fun C2 hC=>ae) ?_
    refine eqS (fun C2 hC=>de (R:=ac) (R':=ac) (a:=(Ref12Wrong.mk 0 0)) (y:=x14) 1 Tryz.sizeOf59 (Upd.refl _) ((hC 1 (by kernel_rfl)).trans rfl)) ?_
    exact⟨h,⟨⟨aa,aa,aa,trivial⟩,Pick.refl _⟩⟩
   replace h:=iteF hc17 h
   refine au ?_
   refine W_rs ?_
   refine rq (out:=Pr.i64 22) ae ?_
   refine bc (fun e C=>∃(x20:Int),km R x1 x2 x13 x12 x20=some r/\At [(0,aj ah x1),(1,Pr.i64 x2),(6,ap b4 0),(8,ap b5 0),(9,ap b15 0),(10,Pr.i64 x13),(12,Pr.i64 x20)] [Own.box b4 ab (ApiNode.mk 0 [] [] 0 0 0 0 0 []),Own.box b5 ac (Ref12Wrong.mk 0 0),Own.box b15 ab x12,Own.box b16 ac x14] e C) ?_ ?_
   ·rintro e C ⟨x20,h,hat2⟩
    refine W_at hat2 ?_
    clear hat2
    unfold km at h
    refine W_rs ?_
    refine rq (out:=aj ah x1) ag ?_
    refine rq (out:=Pr.i64 x20) ag ?_
    refine rq (out:=Pr.i64 x2) ag ?_
    refine rq (out:=Pr.i64 x13) ag ?_
    refine rq (out:=(ab).val x12) (a8 (R:=ab) (a:=x12) (R':=ab) 2 ty24 (Sub.refl _)) ?_
    refine rq (out:=aj ab ([x12]:List ApiNode)) (cr (R:=ab) (a:=x12) el22 (Nat.le_of_ble_eq_true rfl)) ?_
    obtain⟨x21,hx21,h⟩:=af h
    refine rq (out:=(ab).val x21) (aw (cu x1 x20 x2 x13 ([x12]:List ApiNode) _ hx21)) ?_
    refine rq (out:=Pr.i64 x13) ag ?_
    obtain⟨x22,hx22,h⟩:=af h
    refine rq (out:=(ac).val x22) (aw (cd _ hx22)) ?_
    refine aq (R:=ab) (R':=ab) (a:=(ApiNode.mk 0 [] [] 0 0 0 0 0 [])) (y:=x21) 0 Tryz.sizeOf24 (Upd.refl _) ?_
    refine rq (out:=Pr.i64 x13) ae ?_
    refine aq (R:=ac) (R':=ac) (a:=(Ref12Wrong.mk 0 0)) (y:=x22) 1 Tryz.sizeOf59 (Upd.refl _) ?_
    obtain rfl:=Option.some.inj h
    exact a6 ⟨rfl,[(ab).val x21,Pr.i64 x13,(ac).val x22],⟨yBox 0 ty24 aa,yT aa,yBox 1 ty59 aa,trivial⟩,aa⟩
   refine W_rs ?_
   refine rq (out:=aj ah x1) ag ?_
   refine rq (out:=Pr.i64 x2) ag ?_
   obtain⟨x18,hx18,h⟩:=af h
   refine rq (out:=bj ah x18) (ef (R:=ah) (l:=x1) Tryz.underlying52 Tryz.sizeOf56 hx18) ?_
   refine rq (out:=bj am x18.Text) (e7 (R:=ah) (a:=x18) fld56_1 dp) ?_
   refine rq (out:=ai x18.Text) (c5 (R:=am) (a:=x18.Text) ty9) ?_
   refine rq (out:=Pr.bool (x18.Text==([45]:List UInt8))) qStr ?_
   refine ao (b:=x18.Text==([45]:List UInt8)) rfl (fun hc19=> ?_) (fun hc19=> ?_)
   ·replace h:=iteT hc19 h
    refine W_r ?_
    refine rq (out:=Pr.i64 23) ae ?_
    exact⟨23,h,⟨⟨aa,aa,aa,aa,aa,aa,aa,trivial⟩,Pick.refl _⟩⟩
   replace h:=iteF hc19 h
   refine au ?_
   exact⟨22,h,⟨⟨aa,aa,aa,aa,aa,aa,aa,trivial⟩,Pick.refl _⟩⟩
  replace h:=iteF hc11 h
  refine au ?_
  refine W_rs ?_
  refine rq (out:=aj ah x1) ag ?_
  refine rq (out:=Pr.i64 x2) ag ?_
  refine rq (out:=Pr.i64 x3) ag ?_
  refine rq (out:=Pr.i64 (w64 (x3+1))) qInt ?_
  obtain⟨⟨x23,x24,x25⟩,hx23,h⟩:=af h
  refine rq (out:=bh [(ab).val x23,Pr.i64 x24,(ac).val x25]) (aw (ih.2.2.2.1 x1 x2 (w64 (x3+1)) _ hx23)) ?_
  refine rq (out:=bh [(ab).val x23,Pr.i64 x24,(ac).val x25]) ag ?_
  refine rq (out:=(ab).val x23) ar ?_
  refine rq (out:=Pr.i64 x24) ar ?_
  refine rq (out:=(ac).val x25) ar ?_
  refine cb (R:=ab) (z:=(ApiNode.mk 0 [] [] 0 0 0 0 0 [])) Tryz.zeroValue24 (fun _=>(by rw[al];exact⟨_,⟨_,_,rfl,rfl,⟨_,_,rfl,rfl,⟨_,_,rfl,rfl,⟨_,_,rfl,rfl,⟨_,_,rfl,rfl,⟨_,_,rfl,rfl,⟨_,_,rfl,rfl,⟨_,_,rfl,rfl,⟨_,_,rfl,⟨_,rfl,none,0,rfl,⟨Nat.le_refl _,fun _=>rfl⟩,.inl rfl⟩,rfl⟩⟩⟩⟩⟩⟩⟩⟩⟩,rfl⟩)) (fun b26=> ?_)
  refine cb (R:=ac) (z:=(Ref12Wrong.mk 0 0)) Tryz.zeroValue59 (fun _=>⟨_,⟨_,_,rfl,rfl,⟨_,_,rfl,rfl,rfl⟩⟩,rfl⟩) (fun b27=> ?_)
  refine aq (R:=ab) (R':=ab) (a:=(ApiNode.mk 0 [] [] 0 0 0 0 0 [])) (y:=x23) 2 Tryz.sizeOf24 (Upd.refl _) ?_
  refine rq (out:=Pr.i64 x24) ae ?_
  refine aq (R:=ac) (R':=ac) (a:=(Ref12Wrong.mk 0 0)) (y:=x25) 3 Tryz.sizeOf59 (Upd.refl _) ?_
  refine a5 ?_
  refine W_rs ?_
  refine rq (out:=ap b27 0) (a4 gy) ?_
  refine rq (out:=Pr.i64 x25.Place) (a8 (R:=ac) (a:=x25) (R':=Rp.int .i64) 3 ty3 bb) ?_
  refine rq (out:=Pr.bool (decide (x25.Place≥0))) qInt ?_
  refine ao (b:=decide (x25.Place≥0)) rfl (fun hc28=> ?_) (fun hc28=> ?_)
  ·replace h:=iteT hc28 h
   refine bc (fun e C=>ref12_unary_j3 R x25=some r/\At [(6,ap b4 0),(7,Pr.i64 0),(8,ap b5 0)] [Own.box b4 ab (ApiNode.mk 0 [] [] 0 0 0 0 0 []),Own.box b5 ac x25,Own.box b26 ab x23,Own.box b27 ac x25] e C) ?_ ?_
   ·rintro e C ⟨h,hat3⟩
    refine W_at hat3 ?_
    clear hat3
    unfold ref12_unary_j3 at h
    obtain rfl:=Option.some.inj h
    exact a6 ⟨rfl,[(ab).val (ApiNode.mk 0 [] [] 0 0 0 0 0 []),Pr.i64 0,(ac).val x25],⟨yBox 0 ty24 aa,yT aa,yBox 1 ty59 aa,trivial⟩,aa⟩
   refine dx [(2,0,Own.box b4 ab (ApiNode.mk 0 [] [] 0 0 0 0 0 [])),(4,1,Own.box b5 ac x25)] [Own.box b4 ab (ApiNode.mk 0 [] [] 0 0 0 0 0 []),Own.box b5 ac x25,Own.box b26 ab x23,Own.box b27 ac x25] hmx (by kernel_rfl) (by kernel_rfl) (show([2,4]:List Nat).Nodup by decide) (show([0,1]:List Nat).Nodup by decide) rfl rfl ?_
   refine eq1 (out:=(ab).val (ApiNode.mk 0 [] [] 0 0 0 0 0 [])) (fun C2 hC=>(dc al st24 rfl)) ?_
   refine eq1 (out:=(ac).val x25) (fun C2 hC=>(a8 (R:=ac) (a:=x25) (R':=ac) 3 ty59 (Sub.refl _) (hi:=(hC 3 (by kernel_rfl)).trans rfl))) ?_
   refine eqS (fun C2 hC=>de (R:=ab) (R':=ab) (a:=(ApiNode.mk 0 [] [] 0 0 0 0 0 [])) (y:=(ApiNode.mk 0 [] [] 0 0 0 0 0 [])) 0 Tryz.sizeOf24 (Upd.refl _) ((hC 0 (by kernel_rfl)).trans rfl)) ?_
   refine eq1 (out:=Pr.i64 0) (fun C2 hC=>ae) ?_
   refine eqS (fun C2 hC=>de (R:=ac) (R':=ac) (a:=(Ref12Wrong.mk 0 0)) (y:=x25) 1 Tryz.sizeOf59 (Upd.refl _) ((hC 1 (by kernel_rfl)).trans rfl)) ?_
   exact⟨h,⟨⟨aa,aa,aa,trivial⟩,Pick.refl _⟩⟩
  replace h:=iteF hc28 h
  refine au ?_
  refine a5 ?_
  refine az ?_
  obtain⟨z6l,hz6,h⟩:=af h
  obtain⟨n6,hN6⟩:=cc hz6
  clear hz6
  refine du 0 (fun e C=>∃(x29:Int),∃(x30:ApiNode),ref12_unary_k5 R x29 x30=some r/\At [(6,ap b4 0),(8,ap b5 0),(13,ap b26 0),(14,Pr.i64 x29)] [Own.box b4 ab (ApiNode.mk 0 [] [] 0 0 0 0 0 []),Own.box b5 ac (Ref12Wrong.mk 0 0),Own.box b26 ab x30,Own.box b27 ac x25] e C) ?_ ?_
  ·rintro e C ⟨x29,x30,h,hat5⟩
   refine W_at hat5 ?_
   clear hat5
   unfold ref12_unary_k5 at h
   refine bc (fun e C=>∃(x55:Ref12Wrong),ref12_unary_j4 R x30 x29 x55=some r/\At [(6,ap b4 0),(7,Pr.i64 x29),(8,ap b5 0)] [Own.box b4 ab x30,Own.box b5 ac x55,Own.box b26 ab x30,Own.box b27 ac x25] e C) ?_ ?_
   ·rintro e C ⟨x55,h,hat4⟩
    refine W_at hat4 ?_
    clear hat4
    unfold ref12_unary_j4 at h
    obtain rfl:=Option.some.inj h
    exact a6 ⟨rfl,[(ab).val x30,Pr.i64 x29,(ac).val x55],⟨yBox 0 ty24 aa,yT aa,yBox 1 ty59 aa,trivial⟩,aa⟩
   obtain⟨x55,hx55,h⟩:=af h
   refine dx [(3,0,Own.box b4 ab x30),(5,1,Own.box b5 ac x55)] [Own.box b4 ab x30,Own.box b5 ac x55,Own.box b26 ab x30,Own.box b27 ac x25] hmx (by kernel_rfl) (by kernel_rfl) (show([3,5]:List Nat).Nodup by decide) (show([0,1]:List Nat).Nodup by decide) rfl rfl ?_
   refine eq1 (out:=(ab).val x30) (fun C2 hC=>(a8 (R:=ab) (a:=x30) (R':=ab) 2 ty24 (Sub.refl _) (hi:=(hC 2 (by kernel_rfl)).trans rfl))) ?_
   refine eq1 (out:=Pr.i64 x29) (fun C2 hC=>ag) ?_
   refine eq1 (out:=(ac).val x55) (fun C2 hC=>(aw (cd _ hx55))) ?_
   refine eqS (fun C2 hC=>de (R:=ab) (R':=ab) (a:=(ApiNode.mk 0 [] [] 0 0 0 0 0 [])) (y:=x30) 0 Tryz.sizeOf24 (Upd.refl _) ((hC 0 (by kernel_rfl)).trans rfl)) ?_
   refine eq1 (out:=Pr.i64 x29) (fun C2 hC=>ae) ?_
   refine eqS (fun C2 hC=>de (R:=ac) (R':=ac) (a:=(Ref12Wrong.mk 0 0)) (y:=x55) 1 Tryz.sizeOf59 (Upd.refl _) ((hC 1 (by kernel_rfl)).trans rfl)) ?_
   exact⟨x55,h,⟨⟨aa,aa,aa,trivial⟩,Pick.refl _⟩⟩
  refine eh (fun m e C=>∃(x29:Int),∃(x30:ApiNode),en (fun s=>ki R x1 x3 x2 s.1 s.2) m (x29,x30)=some z6l/\At [(0,aj ah x1),(1,Pr.i64 x2),(2,Pr.i64 x3),(6,ap b4 0),(8,ap b5 0),(13,ap b26 0),(14,Pr.i64 x29)] [Own.box b4 ab (ApiNode.mk 0 [] [] 0 0 0 0 0 []),Own.box b5 ac (Ref12Wrong.mk 0 0),Own.box b26 ab x30,Own.box b27 ac x25] e C) n6 ⟨x24,x23,hN6,⟨⟨aa,aa,aa,aa,aa,aa,aa,trivial⟩,Pick.refl _⟩⟩ ?_
  clear hN6
  rintro m e C ⟨x29,x30,hN6,hatl6⟩
  refine W_at hatl6 ?_
  clear hatl6
  obtain⟨m6,w6l,rfl,h6l,hn6,ho6⟩:=bx hN6
  clear hN6
  replace h6l:ki R x1 x3 x2 x29 x30=some w6l:=h6l
  unfold ki at h6l
  refine a5 ?_
  refine W_rs ?_
  refine rq (out:=aj ah x1) ag ?_
  refine rq (out:=Pr.i64 x29) ag ?_
  obtain⟨x33,hx33,h6l⟩:=af h6l
  refine rq (out:=Pr.bool x33) (aw (a7 x1 x29 ([46]:List UInt8) _ hx33)) ?_
  refine ao (b:=x33) rfl (fun hc34=> ?_) (fun hc34=> ?_)
  ·replace h6l:=iteT hc34 h6l
   refine au ?_
   refine az ?_
   refine a5 ?_
   refine W_rs ?_
   refine rq (out:=aj ah x1) ag ?_
   refine rq (out:=Pr.i64 x29) ag ?_
   refine rq (out:=Pr.i64 (w64 (x29+1))) qInt ?_
   obtain⟨x35,hx35,h6l⟩:=af h6l
   refine rq (out:=Pr.bool x35) (aw (gm x1 (w64 (x29+1)) _ hx35)) ?_
   refine rq (out:=Pr.bool (!x35)) qNot ?_
   refine ao (b:= !x35) rfl (fun hc36=> ?_) (fun hc36=> ?_)
   ·replace h6l:=iteT hc36 h6l
    refine W_rs ?_
    refine rq (out:=(ab).val (ApiNode.mk 0 [] [] 0 0 0 0 0 [])) (dc al st24 rfl) ?_
    refine rq (out:=Pr.i64 x29) ag ?_
    refine rq (out:=Pr.i64 (w64 (x29+1))) qInt ?_
    obtain⟨x37,hx37,h6l⟩:=af h6l
    refine rq (out:=(ac).val x37) (aw (bn (w64 (x29+1)) _ hx37)) ?_
    refine aq (R:=ab) (R':=ab) (a:=(ApiNode.mk 0 [] [] 0 0 0 0 0 [])) (y:=(ApiNode.mk 0 [] [] 0 0 0 0 0 [])) 0 Tryz.sizeOf24 (Upd.refl _) ?_
    refine rq (out:=Pr.i64 0) ae ?_
    refine aq (R:=ac) (R':=ac) (a:=(Ref12Wrong.mk 0 0)) (y:=x37) 1 Tryz.sizeOf59 (Upd.refl _) ?_
    obtain rfl:=ho6 _ (Option.some.inj h6l).symm
    replace h:some ((ApiNode.mk 0 [] [] 0 0 0 0 0 []),0,x37)=some r:=h
    obtain rfl:=Option.some.inj h
    exact a6 ⟨rfl,[(ab).val (ApiNode.mk 0 [] [] 0 0 0 0 0 []),Pr.i64 0,(ac).val x37],⟨yBox 0 ty24 aa,yT aa,yBox 1 ty59 aa,trivial⟩,aa⟩
   replace h6l:=iteF hc36 h6l
   refine au ?_
   refine W_rs ?_
   refine rq (out:=Pr.i64 x29) ag ?_
   refine rq (out:=Pr.i64 (w64 (x29+1))) qInt ?_
   refine rq (out:=Pr.i64 (w64 (x29+1))) ae ?_
   refine W_rs ?_
   refine rq (out:=Pr.i64 18) ae ?_
   refine W_rs ?_
   refine rq (out:=(ab).val x30) (a8 (R:=ab) (a:=x30) (R':=ab) 2 ty24 (Sub.refl _)) ?_
   refine rBuildV (R:=ab) (ls:=([x30]:List ApiNode)) el22 (Nat.le_of_ble_eq_true rfl) ⟨rfl,rfl⟩ ⟨rfl,trivial⟩ (fun v38=> ?_)
   refine rq (out:=Pr.is v38) ae ?_
   refine W_rs ?_
   refine rq (out:=Pr.i64 (w64 (x29+1))) ag ?_
   refine rq (out:=Pr.i64 (w64 ((w64 (x29+1))+1))) qInt ?_
   refine rq (out:=Pr.i64 (w64 ((w64 (x29+1))+1))) ae ?_
   refine bc (fun e C=>∃(x48:Int),∃(x49:Int),∃(x51:List ApiNode),∃(v50:Value),kl R x1 x2 x29 x48 x49 x51=some w6l/\At [(0,aj ah x1),(1,Pr.i64 x2),(2,Pr.i64 x3),(6,ap b4 0),(8,ap b5 0),(13,ap b26 0),(14,Pr.i64 x48),(16,Pr.i64 (w64 (x29+1))),(17,Pr.i64 x49),(18,Pr.is v50)] [Own.box b4 ab (ApiNode.mk 0 [] [] 0 0 0 0 0 []),Own.box b5 ac (Ref12Wrong.mk 0 0),Own.box b26 ab x30,Own.box b27 ac x25,Own.vec v50 ab x51 24] e C) ?_ ?_
   ·rintro e C ⟨x48,x49,x51,v50,h6l,hat7⟩
    refine W_at hat7 ?_
    clear hat7
    unfold kl at h6l
    refine W_rs ?_
    refine rq (out:=aj ah x1) ag ?_
    refine rq (out:=Pr.i64 x49) ag ?_
    refine rq (out:=Pr.i64 x2) ag ?_
    refine rq (out:=Pr.i64 x48) ag ?_
    refine rq (out:=Pr.is v50) ag ?_
    obtain⟨x52,hx52,h6l⟩:=af h6l
    refine rRel 4 [18,123] ?_ rfl ⟨rfl,rfl,trivial⟩
    refine rq (out:=(ab).val x52) (aw (cu x1 x49 x2 x48 x51 _ hx52)) ?_
    refine aq (R:=ab) (R':=ab) (a:=x30) (y:=x52) 2 Tryz.sizeOf24 (Upd.refl _) ?_
    refine W_rs ?_
    refine rq (out:=aj ah x1) ag ?_
    refine rq (out:=Pr.i64 (w64 (x29+1))) ag ?_
    obtain⟨x53,hx53,h6l⟩:=af h6l
    refine rq (out:=bj ah x53) (ef (R:=ah) (l:=x1) Tryz.underlying52 Tryz.sizeOf56 hx53) ?_
    refine rq (out:=bj am x53.Text) (e7 (R:=ah) (a:=x53) fld56_1 dp) ?_
    refine rq (out:=ai x53.Text) (c5 (R:=am) (a:=x53.Text) ty9) ?_
    refine rq (out:=ap b26 1) (a4 gl) ?_
    refine aq (R:=ab) (R':=am) (a:=x52) (y:=x53.Text) 2 Tryz.sizeOf9 ia ?_
    refine W_r ?_
    refine rq (out:=aj ah x1) ag ?_
    refine rq (out:=Pr.i64 (w64 (x29+1))) ag ?_
    obtain⟨x54,hx54,h6l⟩:=af h6l
    refine rq (out:=bj ah x54) (ef (R:=ah) (l:=x1) Tryz.underlying52 Tryz.sizeOf56 hx54) ?_
    refine rq (out:=bj (Rp.int .i64) x54.At) (e7 (R:=ah) (a:=x54) fld56_2 fw) ?_
    refine rq (out:=Pr.i64 x54.At) (c5 (R:=Rp.int .i64) (a:=x54.At) ty3) ?_
    refine rq (out:=ap b26 6) (a4 fld24_6) ?_
    refine aq (R:=ab) (R':=Rp.int .i64) (a:={x52 with Text:=x53.Text}) (y:=x54.At) 2 Tryz.sizeOf3 updApiNode_At ?_
    exact⟨m6,Nat.lt_succ_self _,x48,{{x52 with Text:=x53.Text} with At:=x54.At},hn6 _ (Option.some.inj h6l).symm,⟨⟨aa,aa,aa,aa,aa,aa,aa,trivial⟩,Pick.refl _⟩⟩
   refine W_rs ?_
   refine rq (out:=aj ah x1) ag ?_
   refine rq (out:=Pr.i64 (w64 ((w64 (x29+1))+1))) ag ?_
   obtain⟨x39,hx39,h6l⟩:=af h6l
   refine rq (out:=Pr.bool x39) (aw (a7 x1 (w64 ((w64 (x29+1))+1)) ([40]:List UInt8) _ hx39)) ?_
   refine ao (b:=x39) rfl (fun hc40=> ?_) (fun hc40=> ?_)
   ·replace h6l:=iteT hc40 h6l
    refine W_rs ?_
    refine rq (out:=aj ah x1) ag ?_
    refine rq (out:=Pr.i64 (w64 ((w64 (x29+1))+1))) ag ?_
    refine rq (out:=Pr.i64 (w64 ((w64 ((w64 (x29+1))+1))+1))) qInt ?_
    refine rq (out:=Pr.i64 x3) ag ?_
    refine rq (out:=Pr.i64 (w64 (x3+1))) qInt ?_
    obtain⟨⟨x41,x42,x43⟩,hx41,h6l⟩:=af h6l
    refine rq (out:=bh [aj ab x41,Pr.i64 x42,(ac).val x43]) (aw (ih.2.2.2.2 x1 (w64 ((w64 ((w64 (x29+1))+1))+1)) (w64 (x3+1)) _ hx41)) ?_
    refine rq (out:=bh [aj ab x41,Pr.i64 x42,(ac).val x43]) ag ?_
    refine rq (out:=aj ab x41) ar ?_
    refine rq (out:=Pr.i64 x42) ar ?_
    refine rq (out:=(ac).val x43) ar ?_
    refine cb (R:=ac) (z:=(Ref12Wrong.mk 0 0)) Tryz.zeroValue59 (fun _=>⟨_,⟨_,_,rfl,rfl,⟨_,_,rfl,rfl,rfl⟩⟩,rfl⟩) (fun b44=> ?_)
    refine rq (out:=aj ab x41) ae ?_
    refine rq (out:=Pr.i64 x42) ae ?_
    refine aq (R:=ac) (R':=ac) (a:=(Ref12Wrong.mk 0 0)) (y:=x43) 5 Tryz.sizeOf59 (Upd.refl _) ?_
    refine a5 ?_
    refine W_rs ?_
    refine rq (out:=ap b44 0) (a4 gy) ?_
    refine rq (out:=Pr.i64 x43.Place) (a8 (R:=ac) (a:=x43) (R':=Rp.int .i64) 5 ty3 bb) ?_
    refine rq (out:=Pr.bool (decide (x43.Place≥0))) qInt ?_
    refine ao (b:=decide (x43.Place≥0)) rfl (fun hc45=> ?_) (fun hc45=> ?_)
    ·replace h6l:=iteT hc45 h6l
     refine bc (fun e C=>ref12_unary_j8 R x43=some w6l/\At [(6,ap b4 0),(7,Pr.i64 0),(8,ap b5 0)] [Own.box b4 ab (ApiNode.mk 0 [] [] 0 0 0 0 0 []),Own.box b5 ac x43,Own.box b26 ab x30,Own.box b27 ac x25,Own.box b44 ac x43] e C) ?_ ?_
     ·rintro e C ⟨h6l,hat8⟩
      refine W_at hat8 ?_
      clear hat8
      unfold ref12_unary_j8 at h6l
      obtain rfl:=ho6 _ (Option.some.inj h6l).symm
      replace h:some ((ApiNode.mk 0 [] [] 0 0 0 0 0 []),0,x43)=some r:=h
      obtain rfl:=Option.some.inj h
      exact a6 ⟨rfl,[(ab).val (ApiNode.mk 0 [] [] 0 0 0 0 0 []),Pr.i64 0,(ac).val x43],⟨yBox 0 ty24 aa,yT aa,yBox 1 ty59 aa,trivial⟩,aa⟩
     refine dx [(2,0,Own.box b4 ab (ApiNode.mk 0 [] [] 0 0 0 0 0 [])),(4,1,Own.box b5 ac x43)] [Own.box b4 ab (ApiNode.mk 0 [] [] 0 0 0 0 0 []),Own.box b5 ac x43,Own.box b26 ab x30,Own.box b27 ac x25,Own.vec v38 ab ([x30]:List ApiNode) 24,Own.box b44 ac x43] hmx (by kernel_rfl) (by kernel_rfl) (show([2,4]:List Nat).Nodup by decide) (show([0,1]:List Nat).Nodup by decide) rfl rfl ?_
     refine eq1 (out:=(ab).val (ApiNode.mk 0 [] [] 0 0 0 0 0 [])) (fun C2 hC=>(dc al st24 rfl)) ?_
     refine eq1 (out:=(ac).val x43) (fun C2 hC=>(a8 (R:=ac) (a:=x43) (R':=ac) 5 ty59 (Sub.refl _) (hi:=(hC 5 (by kernel_rfl)).trans rfl))) ?_
     refine eqS (fun C2 hC=>de (R:=ab) (R':=ab) (a:=(ApiNode.mk 0 [] [] 0 0 0 0 0 [])) (y:=(ApiNode.mk 0 [] [] 0 0 0 0 0 [])) 0 Tryz.sizeOf24 (Upd.refl _) ((hC 0 (by kernel_rfl)).trans rfl)) ?_
     refine eq1 (out:=Pr.i64 0) (fun C2 hC=>ae) ?_
     refine eqS (fun C2 hC=>de (R:=ac) (R':=ac) (a:=(Ref12Wrong.mk 0 0)) (y:=x43) 1 Tryz.sizeOf59 (Upd.refl _) ((hC 1 (by kernel_rfl)).trans rfl)) ?_
     exact⟨h6l,⟨⟨aa,aa,aa,trivial⟩,Pick.of [0,1,2,3,5] rfl⟩⟩
    replace h6l:=iteF hc45 h6l
    refine au ?_
    refine W_rs ?_
    refine rq (out:=Pr.i64 20) ae ?_
    refine W_rs ?_
    refine rq (out:=Pr.is v38) ag ?_
    refine rq (out:=aj ab x41) ag ?_
    obtain⟨x46,hx46,h6l⟩:=af h6l
    refine ip 4 el22 hx46 (fun v47=> ?_)
    refine rq (out:=Pr.is v47) ae ?_
    refine W_r ?_
    refine rq (out:=Pr.i64 x42) ag ?_
    refine rq (out:=Pr.i64 x42) ae ?_
    exact⟨x42,20,x46,v47,h6l,⟨⟨aa,aa,aa,aa,aa,aa,aa,aa,aa,aa,trivial⟩,Pick.of [0,1,2,3,4] rfl⟩⟩
   replace h6l:=iteF hc40 h6l
   refine au ?_
   exact⟨w64 ((w64 (x29+1))+1),18,([x30]:List ApiNode),v38,h6l,⟨⟨aa,aa,aa,aa,aa,aa,aa,aa,aa,aa,trivial⟩,Pick.refl _⟩⟩
  replace h6l:=iteF hc34 h6l
  refine dg ?_
  obtain rfl:=ho6 _ (Option.some.inj h6l).symm
  exact⟨x29,x30,h,⟨⟨aa,aa,aa,aa,trivial⟩,Pick.refl _⟩⟩
 refine W_r ?_
 refine rq (out:=aj ah x1) ag ?_
 refine rq (out:=Pr.i64 x2) ag ?_
 obtain⟨x7,hx7,h⟩:=af h
 refine rq (out:=Pr.bool x7) (aw (a7 x1 x2 ([33]:List UInt8) _ hx7)) ?_
 refine rq (out:=Pr.bool x7) ag ?_
 rcases bv h with⟨hc8,h⟩|⟨hc8,h⟩
 ·refine rno (neF hc8) ?_
  refine rno (neF hc8) ?_
  refine rno (neF hc8) ?_
  refine rq (out:=Pr.bool true) (bu hc8) ?_
  exact⟨true,h,⟨⟨aa,aa,aa,aa,aa,aa,trivial⟩,Pick.refl _⟩⟩
 refine rqg hc8 (out:=aj ah x1) ag ?_
 refine rqg hc8 (out:=Pr.i64 x2) ag ?_
 obtain⟨x9,hx9,h⟩:=af h
 refine rqg hc8 (out:=Pr.bool x9) (aw (a7 x1 x2 ([45]:List UInt8) _ hx9)) ?_
 refine rq (out:=Pr.bool x9) (bp hc8) ?_
 exact⟨x9,h,⟨⟨aa,aa,aa,aa,aa,aa,trivial⟩,Pick.refl _⟩⟩
theorem F_ref12_primary_step (R:ak) (ih:d3 R) (x1:List ApiToken) (x2 x3:Int) (r:ApiNode × Int × Ref12Wrong) (h:lz R x1 x2 x3=some r):FnP Tryz.prog 106 [aj ah x1,Pr.i64 x2,Pr.i64 x3] (bh [(ab).val r.1,Pr.i64 r.2.1,(ac).val r.2.2]):=by
 refine el (n:=250) (rs:=[.cell 6 24,.tmp 7,.cell 8 59]) Tryz.func106 rfl Tryz.ntmps106 Tryz.results106 (by decide) (fun s0=> ?_)
 unfold lz at h
 refine W_rs ?_
 refine cb (R:=ab) (z:=(ApiNode.mk 0 [] [] 0 0 0 0 0 [])) Tryz.zeroValue24 (fun _=>(by rw[al];exact⟨_,⟨_,_,rfl,rfl,⟨_,_,rfl,rfl,⟨_,_,rfl,rfl,⟨_,_,rfl,rfl,⟨_,_,rfl,rfl,⟨_,_,rfl,rfl,⟨_,_,rfl,rfl,⟨_,_,rfl,rfl,⟨_,_,rfl,⟨_,rfl,none,0,rfl,⟨Nat.le_refl _,fun _=>rfl⟩,.inl rfl⟩,rfl⟩⟩⟩⟩⟩⟩⟩⟩⟩,rfl⟩)) (fun b4=> ?_)
 refine rq (out:=Pr.i64 0) ae ?_
 refine cb (R:=ac) (z:=(Ref12Wrong.mk 0 0)) Tryz.zeroValue59 (fun _=>⟨_,⟨_,_,rfl,rfl,⟨_,_,rfl,rfl,rfl⟩⟩,rfl⟩) (fun b5=> ?_)
 refine a5 ?_
 refine az ?_
 refine W_rs ?_
 refine rq (out:=aj ah x1) ag ?_
 refine rq (out:=Pr.i64 x2) ag ?_
 obtain⟨x6,hx6,h⟩:=af h
 refine rq (out:=bj ah x6) (ef (R:=ah) (l:=x1) Tryz.underlying52 Tryz.sizeOf56 hx6) ?_
 refine rq (out:=bj (Rp.int .i64) x6.Kind) (e7 (R:=ah) (a:=x6) fld56_0 j6) ?_
 refine rq (out:=Pr.i64 x6.Kind) (c5 (R:=Rp.int .i64) (a:=x6.Kind) ty3) ?_
 refine rq (out:=Pr.bool (x6.Kind==2)) qInt ?_
 refine rq (out:=Pr.bool (x6.Kind==2)) ae ?_
 refine ao (b:=x6.Kind==2) rfl (fun hc7=> ?_) (fun hc7=> ?_)
 ·replace h:=iteT hc7 h
  refine W_rs ?_
  refine rq (out:=aj ah x1) ag ?_
  refine rq (out:=Pr.i64 x2) ag ?_
  refine rq (out:=Pr.i64 x2) ag ?_
  refine rq (out:=Pr.i64 (w64 (x2+1))) qInt ?_
  obtain⟨x8,hx8,h⟩:=af h
  refine rq (out:=(ab).val x8) (mc (cu x1 13 x2 (w64 (x2+1)) [] _ hx8) ⟨aa,aa,aa,aa,da _,trivial⟩) ?_
  refine cb (R:=ab) (z:=(ApiNode.mk 0 [] [] 0 0 0 0 0 [])) Tryz.zeroValue24 (fun _=>(by rw[al];exact⟨_,⟨_,_,rfl,rfl,⟨_,_,rfl,rfl,⟨_,_,rfl,rfl,⟨_,_,rfl,rfl,⟨_,_,rfl,rfl,⟨_,_,rfl,rfl,⟨_,_,rfl,rfl,⟨_,_,rfl,rfl,⟨_,_,rfl,⟨_,rfl,none,0,rfl,⟨Nat.le_refl _,fun _=>rfl⟩,.inl rfl⟩,rfl⟩⟩⟩⟩⟩⟩⟩⟩⟩,rfl⟩)) (fun b9=> ?_)
  refine aq (R:=ab) (R':=ab) (a:=(ApiNode.mk 0 [] [] 0 0 0 0 0 [])) (y:=x8) 2 Tryz.sizeOf24 (Upd.refl _) ?_
  refine a5 ?_
  refine W_rs ?_
  refine rq (out:=Pr.i64 0) ae ?_
  refine az ?_
  obtain⟨z3l,hz3,h⟩:=af h
  obtain⟨n3,hN3⟩:=cc hz3
  clear hz3
  refine du 1 (fun e C=>∃(x11:ApiNode),mx R x2 x11=some r/\At [(1,Pr.i64 x2),(6,ap b4 0),(8,ap b5 0),(9,ap b9 0)] [Own.box b4 ab (ApiNode.mk 0 [] [] 0 0 0 0 0 []),Own.box b5 ac (Ref12Wrong.mk 0 0),Own.box b9 ab x11] e C) ?_ ?_
  ·rintro e C ⟨x11,h,hat2⟩
   refine W_at hat2 ?_
   clear hat2
   unfold mx at h
   refine bc (fun e C=>∃(x18:Ref12Wrong),m9 R x11 x2 x18=some r/\At [(6,ap b4 0),(7,Pr.i64 (w64 (x2+1))),(8,ap b5 0)] [Own.box b4 ab x11,Own.box b5 ac x18,Own.box b9 ab x11] e C) ?_ ?_
   ·rintro e C ⟨x18,h,hat1⟩
    refine W_at hat1 ?_
    clear hat1
    unfold m9 at h
    obtain rfl:=Option.some.inj h
    exact a6 ⟨rfl,[(ab).val x11,Pr.i64 (w64 (x2+1)),(ac).val x18],⟨yBox 0 ty24 aa,yT aa,yBox 1 ty59 aa,trivial⟩,aa⟩
   obtain⟨x18,hx18,h⟩:=af h
   refine dx [(4,0,Own.box b4 ab x11),(6,1,Own.box b5 ac x18)] [Own.box b4 ab x11,Own.box b5 ac x18,Own.box b9 ab x11] hmx (by kernel_rfl) (by kernel_rfl) (show([4,6]:List Nat).Nodup by decide) (show([0,1]:List Nat).Nodup by decide) rfl rfl ?_
   refine eq1 (out:=(ab).val x11) (fun C2 hC=>(a8 (R:=ab) (a:=x11) (R':=ab) 2 ty24 (Sub.refl _) (hi:=(hC 2 (by kernel_rfl)).trans rfl))) ?_
   refine eq1 (out:=Pr.i64 x2) (fun C2 hC=>ag) ?_
   refine eq1 (out:=Pr.i64 (w64 (x2+1))) (fun C2 hC=>qInt) ?_
   refine eq1 (out:=(ac).val x18) (fun C2 hC=>(aw (cd _ hx18))) ?_
   refine eqS (fun C2 hC=>de (R:=ab) (R':=ab) (a:=(ApiNode.mk 0 [] [] 0 0 0 0 0 [])) (y:=x11) 0 Tryz.sizeOf24 (Upd.refl _) ((hC 0 (by kernel_rfl)).trans rfl)) ?_
   refine eq1 (out:=Pr.i64 (w64 (x2+1))) (fun C2 hC=>ae) ?_
   refine eqS (fun C2 hC=>de (R:=ac) (R':=ac) (a:=(Ref12Wrong.mk 0 0)) (y:=x18) 1 Tryz.sizeOf59 (Upd.refl _) ((hC 1 (by kernel_rfl)).trans rfl)) ?_
   exact⟨x18,h,⟨⟨aa,aa,aa,trivial⟩,Pick.refl _⟩⟩
  refine eh (fun m e C=>∃(x10:Int),∃(x11:ApiNode),en (fun s=>gh R x1 x2 s.1 s.2) m (x10,x11)=some z3l/\At [(0,aj ah x1),(1,Pr.i64 x2),(6,ap b4 0),(8,ap b5 0),(9,ap b9 0),(10,Pr.i64 x10)] [Own.box b4 ab (ApiNode.mk 0 [] [] 0 0 0 0 0 []),Own.box b5 ac (Ref12Wrong.mk 0 0),Own.box b9 ab x11] e C) n3 ⟨0,x8,hN3,⟨⟨aa,aa,aa,aa,aa,aa,trivial⟩,Pick.refl _⟩⟩ ?_
  clear hN3
  rintro m e C ⟨x10,x11,hN3,hatl3⟩
  refine W_at hatl3 ?_
  clear hatl3
  obtain⟨m3,w3l,rfl,h3l,hn3,ho3⟩:=bx hN3
  clear hN3
  replace h3l:gh R x1 x2 x10 x11=some w3l:=h3l
  unfold gh at h3l
  refine a5 ?_
  refine W_rs ?_
  refine rq (out:=Pr.i64 x10) ag ?_
  refine rq (out:=aj ah x1) ag ?_
  refine rq (out:=Pr.i64 x2) ag ?_
  obtain⟨x14,hx14,h3l⟩:=af h3l
  refine rq (out:=bj ah x14) (ef (R:=ah) (l:=x1) Tryz.underlying52 Tryz.sizeOf56 hx14) ?_
  refine rq (out:=bj am x14.Text) (e7 (R:=ah) (a:=x14) fld56_1 dp) ?_
  refine rq (out:=ai x14.Text) (c5 (R:=am) (a:=x14.Text) ty9) ?_
  refine rq (out:=Pr.i64 (x14.Text.length:Int)) (qLenS rfl Tryz.underlying9) ?_
  refine rq (out:=Pr.bool (decide (x10<(x14.Text.length:Int)))) qInt ?_
  refine ao (b:=decide (x10<(x14.Text.length:Int))) rfl (fun hc15=> ?_) (fun hc15=> ?_)
  ·replace h3l:=iteT hc15 h3l
   refine au ?_
   refine a5 ?_
   refine az ?_
   refine jm 14 hmx (by kernel_rfl) (by kernel_rfl) ?_
   refine qq (out:=ap b9 3) (a4 fld24_3) ?_
   refine qq (out:=Pr.i64 x11.N) (a8 (R:=ab) (a:=x11) (R':=Rp.int .i64) 2 ty2 subApiNode_N) ?_
   refine qq (out:=Pr.i64 (w64 (10 * x11.N))) qInt ?_
   refine qq (out:=aj ah x1) ag ?_
   refine qq (out:=Pr.i64 x2) ag ?_
   obtain⟨x16,hx16,h3l⟩:=af h3l
   refine qq (out:=bj ah x16) (ef (R:=ah) (l:=x1) Tryz.underlying52 Tryz.sizeOf56 hx16) ?_
   refine qq (out:=bj am x16.Text) (e7 (R:=ah) (a:=x16) fld56_1 dp) ?_
   refine qq (out:=ai x16.Text) (c5 (R:=am) (a:=x16.Text) ty9) ?_
   refine qq (out:=Pr.i64 x10) ag ?_
   obtain⟨x17,hx17,h3l⟩:=af h3l
   refine qq (out:=Pr.u8 x17) (qIdxS Tryz.underlying9 hx17) ?_
   refine qq (out:=Pr.u8 (IntKind.wrap .u8 (x17 - 48))) qInt ?_
   refine qq (out:=Pr.i64 (w64 (IntKind.wrap .u8 (x17 - 48)))) (qConv Tryz.underlying5 Tryz.underlying2) ?_
   refine qq (out:=Pr.i64 (w64 ((w64 (10 * x11.N))+(w64 (IntKind.wrap .u8 (x17 - 48)))))) qInt ?_
   refine qq (out:=ap b9 3) (a4 fld24_3) ?_
   refine aq (R:=ab) (R':=Rp.int .i64) (a:=x11) (y:=w64 ((w64 (10 * x11.N))+(w64 (IntKind.wrap .u8 (x17 - 48))))) 2 Tryz.sizeOf2 updApiNode_N ?_
   refine W_r ?_
   refine rq (out:=Pr.i64 x10) ag ?_
   refine rq (out:=Pr.i64 (w64 (x10+1))) qInt ?_
   refine rq (out:=Pr.i64 (w64 (x10+1))) ae ?_
   exact⟨m3,Nat.lt_succ_self _,w64 (x10+1),{x11 with N:=w64 ((w64 (10 * x11.N))+(w64 (IntKind.wrap .u8 (x17 - 48))))},hn3 _ (Option.some.inj h3l).symm,⟨⟨aa,aa,aa,aa,aa,aa,trivial⟩,Pick.refl _⟩⟩
  replace h3l:=iteF hc15 h3l
  refine dg ?_
  obtain rfl:=ho3 _ (Option.some.inj h3l).symm
  exact⟨x11,h,⟨⟨aa,aa,aa,aa,trivial⟩,Pick.refl _⟩⟩
 replace h:=iteF hc7 h
 refine W_rs ?_
 refine rq (out:=aj ah x1) ag ?_
 refine rq (out:=Pr.i64 x2) ag ?_
 obtain⟨x19,hx19,h⟩:=af h
 refine rq (out:=Pr.bool x19) (aw (a7 x1 x2 ([116,114,117,101]:List UInt8) _ hx19)) ?_
 refine rq (out:=Pr.bool x19) ae ?_
 refine ao (b:=x19) rfl (fun hc20=> ?_) (fun hc20=> ?_)
 ·replace h:=iteT hc20 h
  refine W_rs ?_
  refine rq (out:=aj ah x1) ag ?_
  refine rq (out:=Pr.i64 x2) ag ?_
  refine rq (out:=Pr.i64 x2) ag ?_
  refine rq (out:=Pr.i64 (w64 (x2+1))) qInt ?_
  obtain⟨x21,hx21,h⟩:=af h
  refine rq (out:=(ab).val x21) (mc (cu x1 14 x2 (w64 (x2+1)) [] _ hx21) ⟨aa,aa,aa,aa,da _,trivial⟩) ?_
  refine cb (R:=ab) (z:=(ApiNode.mk 0 [] [] 0 0 0 0 0 [])) Tryz.zeroValue24 (fun _=>(by rw[al];exact⟨_,⟨_,_,rfl,rfl,⟨_,_,rfl,rfl,⟨_,_,rfl,rfl,⟨_,_,rfl,rfl,⟨_,_,rfl,rfl,⟨_,_,rfl,rfl,⟨_,_,rfl,rfl,⟨_,_,rfl,rfl,⟨_,_,rfl,⟨_,rfl,none,0,rfl,⟨Nat.le_refl _,fun _=>rfl⟩,.inl rfl⟩,rfl⟩⟩⟩⟩⟩⟩⟩⟩⟩,rfl⟩)) (fun b22=> ?_)
  refine aq (R:=ab) (R':=ab) (a:=(ApiNode.mk 0 [] [] 0 0 0 0 0 [])) (y:=x21) 2 Tryz.sizeOf24 (Upd.refl _) ?_
  refine W_rs ?_
  refine rq (out:=ap b22 3) (a4 fld24_3) ?_
  refine aq (R:=ab) (R':=Rp.int .i64) (a:=x21) (y:=1) 2 Tryz.sizeOf2 updApiNode_N ?_
  refine bc (fun e C=>∃(x23:Ref12Wrong),m8 R x21 x2 x23=some r/\At [(6,ap b4 0),(7,Pr.i64 (w64 (x2+1))),(8,ap b5 0)] [Own.box b4 ab ({x21 with N:=1}),Own.box b5 ac x23,Own.box b22 ab ({x21 with N:=1})] e C) ?_ ?_
  ·rintro e C ⟨x23,h,hat4⟩
   refine W_at hat4 ?_
   clear hat4
   unfold m8 at h
   obtain rfl:=Option.some.inj h
   exact a6 ⟨rfl,[(ab).val ({x21 with N:=1}),Pr.i64 (w64 (x2+1)),(ac).val x23],⟨yBox 0 ty24 aa,yT aa,yBox 1 ty59 aa,trivial⟩,aa⟩
  obtain⟨x23,hx23,h⟩:=af h
  refine dx [(4,0,Own.box b4 ab ({x21 with N:=1})),(6,1,Own.box b5 ac x23)] [Own.box b4 ab ({x21 with N:=1}),Own.box b5 ac x23,Own.box b22 ab ({x21 with N:=1})] hmx (by kernel_rfl) (by kernel_rfl) (show([4,6]:List Nat).Nodup by decide) (show([0,1]:List Nat).Nodup by decide) rfl rfl ?_
  refine eq1 (out:=(ab).val ({x21 with N:=1})) (fun C2 hC=>(a8 (R:=ab) (a:={x21 with N:=1}) (R':=ab) 2 ty24 (Sub.refl _) (hi:=(hC 2 (by kernel_rfl)).trans rfl))) ?_
  refine eq1 (out:=Pr.i64 x2) (fun C2 hC=>ag) ?_
  refine eq1 (out:=Pr.i64 (w64 (x2+1))) (fun C2 hC=>qInt) ?_
  refine eq1 (out:=(ac).val x23) (fun C2 hC=>(aw (cd _ hx23))) ?_
  refine eqS (fun C2 hC=>de (R:=ab) (R':=ab) (a:=(ApiNode.mk 0 [] [] 0 0 0 0 0 [])) (y:={x21 with N:=1}) 0 Tryz.sizeOf24 (Upd.refl _) ((hC 0 (by kernel_rfl)).trans rfl)) ?_
  refine eq1 (out:=Pr.i64 (w64 (x2+1))) (fun C2 hC=>ae) ?_
  refine eqS (fun C2 hC=>de (R:=ac) (R':=ac) (a:=(Ref12Wrong.mk 0 0)) (y:=x23) 1 Tryz.sizeOf59 (Upd.refl _) ((hC 1 (by kernel_rfl)).trans rfl)) ?_
  exact⟨x23,h,⟨⟨aa,aa,aa,trivial⟩,Pick.refl _⟩⟩
 replace h:=iteF hc20 h
 refine W_rs ?_
 refine rq (out:=aj ah x1) ag ?_
 refine rq (out:=Pr.i64 x2) ag ?_
 obtain⟨x24,hx24,h⟩:=af h
 refine rq (out:=Pr.bool x24) (aw (a7 x1 x2 ([102,97,108,115,101]:List UInt8) _ hx24)) ?_
 refine rq (out:=Pr.bool x24) ae ?_
 refine ao (b:=x24) rfl (fun hc25=> ?_) (fun hc25=> ?_)
 ·replace h:=iteT hc25 h
  refine W_rs ?_
  refine rq (out:=aj ah x1) ag ?_
  refine rq (out:=Pr.i64 x2) ag ?_
  refine rq (out:=Pr.i64 x2) ag ?_
  refine rq (out:=Pr.i64 (w64 (x2+1))) qInt ?_
  obtain⟨x26,hx26,h⟩:=af h
  refine rq (out:=(ab).val x26) (mc (cu x1 14 x2 (w64 (x2+1)) [] _ hx26) ⟨aa,aa,aa,aa,da _,trivial⟩) ?_
  refine rq (out:=Pr.i64 x2) ag ?_
  refine rq (out:=Pr.i64 (w64 (x2+1))) qInt ?_
  obtain⟨x27,hx27,h⟩:=af h
  refine rq (out:=(ac).val x27) (aw (cd _ hx27)) ?_
  refine aq (R:=ab) (R':=ab) (a:=(ApiNode.mk 0 [] [] 0 0 0 0 0 [])) (y:=x26) 0 Tryz.sizeOf24 (Upd.refl _) ?_
  refine rq (out:=Pr.i64 (w64 (x2+1))) ae ?_
  refine aq (R:=ac) (R':=ac) (a:=(Ref12Wrong.mk 0 0)) (y:=x27) 1 Tryz.sizeOf59 (Upd.refl _) ?_
  obtain rfl:=Option.some.inj h
  exact a6 ⟨rfl,[(ab).val x26,Pr.i64 (w64 (x2+1)),(ac).val x27],⟨yBox 0 ty24 aa,yT aa,yBox 1 ty59 aa,trivial⟩,aa⟩
 replace h:=iteF hc25 h
 refine W_rs ?_
 refine rq (out:=aj ah x1) ag ?_
 refine rq (out:=Pr.i64 x2) ag ?_
 obtain⟨x28,hx28,h⟩:=af h
 refine rq (out:=Pr.bool x28) (aw (a7 x1 x2 ([110,117,108,108]:List UInt8) _ hx28)) ?_
 refine rq (out:=Pr.bool x28) ae ?_
 refine ao (b:=x28) rfl (fun hc29=> ?_) (fun hc29=> ?_)
 ·replace h:=iteT hc29 h
  refine W_rs ?_
  refine rq (out:=aj ah x1) ag ?_
  refine rq (out:=Pr.i64 x2) ag ?_
  refine rq (out:=Pr.i64 x2) ag ?_
  refine rq (out:=Pr.i64 (w64 (x2+1))) qInt ?_
  obtain⟨x30,hx30,h⟩:=af h
  refine rq (out:=(ab).val x30) (mc (cu x1 15 x2 (w64 (x2+1)) [] _ hx30) ⟨aa,aa,aa,aa,da _,trivial⟩) ?_
  refine rq (out:=Pr.i64 x2) ag ?_
  refine rq (out:=Pr.i64 (w64 (x2+1))) qInt ?_
  obtain⟨x31,hx31,h⟩:=af h
  refine rq (out:=(ac).val x31) (aw (cd _ hx31)) ?_
  refine aq (R:=ab) (R':=ab) (a:=(ApiNode.mk 0 [] [] 0 0 0 0 0 [])) (y:=x30) 0 Tryz.sizeOf24 (Upd.refl _) ?_
  refine rq (out:=Pr.i64 (w64 (x2+1))) ae ?_
  refine aq (R:=ac) (R':=ac) (a:=(Ref12Wrong.mk 0 0)) (y:=x31) 1 Tryz.sizeOf59 (Upd.refl _) ?_
  obtain rfl:=Option.some.inj h
  exact a6 ⟨rfl,[(ab).val x30,Pr.i64 (w64 (x2+1)),(ac).val x31],⟨yBox 0 ty24 aa,yT aa,yBox 1 ty59 aa,trivial⟩,aa⟩
 replace h:=iteF hc29 h
 refine W_rs ?_
 refine rq (out:=aj ah x1) ag ?_
 refine rq (out:=Pr.i64 x2) ag ?_
 obtain⟨x32,hx32,h⟩:=af h
 refine rq (out:=Pr.bool x32) (aw (a7 x1 x2 ([116,104,105,115]:List UInt8) _ hx32)) ?_
 refine rq (out:=Pr.bool x32) ae ?_
 refine ao (b:=x32) rfl (fun hc33=> ?_) (fun hc33=> ?_)
 ·replace h:=iteT hc33 h
  refine W_rs ?_
  refine rq (out:=aj ah x1) ag ?_
  refine rq (out:=Pr.i64 x2) ag ?_
  refine rq (out:=Pr.i64 x2) ag ?_
  refine rq (out:=Pr.i64 (w64 (x2+1))) qInt ?_
  obtain⟨x34,hx34,h⟩:=af h
  refine rq (out:=(ab).val x34) (mc (cu x1 16 x2 (w64 (x2+1)) [] _ hx34) ⟨aa,aa,aa,aa,da _,trivial⟩) ?_
  refine rq (out:=Pr.i64 x2) ag ?_
  refine rq (out:=Pr.i64 (w64 (x2+1))) qInt ?_
  obtain⟨x35,hx35,h⟩:=af h
  refine rq (out:=(ac).val x35) (aw (cd _ hx35)) ?_
  refine aq (R:=ab) (R':=ab) (a:=(ApiNode.mk 0 [] [] 0 0 0 0 0 [])) (y:=x34) 0 Tryz.sizeOf24 (Upd.refl _) ?_
  refine rq (out:=Pr.i64 (w64 (x2+1))) ae ?_
  refine aq (R:=ac) (R':=ac) (a:=(Ref12Wrong.mk 0 0)) (y:=x35) 1 Tryz.sizeOf59 (Upd.refl _) ?_
  obtain rfl:=Option.some.inj h
  exact a6 ⟨rfl,[(ab).val x34,Pr.i64 (w64 (x2+1)),(ac).val x35],⟨yBox 0 ty24 aa,yT aa,yBox 1 ty59 aa,trivial⟩,aa⟩
 replace h:=iteF hc33 h
 refine W_rs ?_
 refine rq (out:=aj ah x1) ag ?_
 refine rq (out:=Pr.i64 x2) ag ?_
 obtain⟨x36,hx36,h⟩:=af h
 refine rq (out:=Pr.bool x36) (aw (a7 x1 x2 ([110,101,119]:List UInt8) _ hx36)) ?_
 refine rq (out:=Pr.bool x36) ae ?_
 refine ao (b:=x36) rfl (fun hc37=> ?_) (fun hc37=> ?_)
 ·replace h:=iteT hc37 h
  refine a5 ?_
  refine W_rs ?_
  refine rq (out:=aj ah x1) ag ?_
  refine rq (out:=Pr.i64 x2) ag ?_
  refine rq (out:=Pr.i64 (w64 (x2+1))) qInt ?_
  obtain⟨x38,hx38,h⟩:=af h
  refine rq (out:=Pr.bool x38) (aw (gm x1 (w64 (x2+1)) _ hx38)) ?_
  refine rq (out:=Pr.bool (!x38)) qNot ?_
  refine ao (b:= !x38) rfl (fun hc39=> ?_) (fun hc39=> ?_)
  ·replace h:=iteT hc39 h
   refine W_rs ?_
   refine rq (out:=(ab).val (ApiNode.mk 0 [] [] 0 0 0 0 0 [])) (dc al st24 rfl) ?_
   refine rq (out:=Pr.i64 x2) ag ?_
   refine rq (out:=Pr.i64 (w64 (x2+1))) qInt ?_
   obtain⟨x40,hx40,h⟩:=af h
   refine rq (out:=(ac).val x40) (aw (bn (w64 (x2+1)) _ hx40)) ?_
   refine aq (R:=ab) (R':=ab) (a:=(ApiNode.mk 0 [] [] 0 0 0 0 0 [])) (y:=(ApiNode.mk 0 [] [] 0 0 0 0 0 [])) 0 Tryz.sizeOf24 (Upd.refl _) ?_
   refine rq (out:=Pr.i64 0) ae ?_
   refine aq (R:=ac) (R':=ac) (a:=(Ref12Wrong.mk 0 0)) (y:=x40) 1 Tryz.sizeOf59 (Upd.refl _) ?_
   obtain rfl:=Option.some.inj h
   exact a6 ⟨rfl,[(ab).val (ApiNode.mk 0 [] [] 0 0 0 0 0 []),Pr.i64 0,(ac).val x40],⟨yBox 0 ty24 aa,yT aa,yBox 1 ty59 aa,trivial⟩,aa⟩
  replace h:=iteF hc39 h
  refine au ?_
  refine a5 ?_
  refine W_rs ?_
  refine rq (out:=aj ah x1) ag ?_
  refine rq (out:=Pr.i64 x2) ag ?_
  refine rq (out:=Pr.i64 (w64 (x2+2))) qInt ?_
  obtain⟨x41,hx41,h⟩:=af h
  refine rq (out:=Pr.bool x41) (aw (a7 x1 (w64 (x2+2)) ([40]:List UInt8) _ hx41)) ?_
  refine rq (out:=Pr.bool (!x41)) qNot ?_
  refine ao (b:= !x41) rfl (fun hc42=> ?_) (fun hc42=> ?_)
  ·replace h:=iteT hc42 h
   refine W_rs ?_
   refine rq (out:=(ab).val (ApiNode.mk 0 [] [] 0 0 0 0 0 [])) (dc al st24 rfl) ?_
   refine rq (out:=Pr.i64 x2) ag ?_
   refine rq (out:=Pr.i64 (w64 (x2+2))) qInt ?_
   obtain⟨x43,hx43,h⟩:=af h
   refine rq (out:=(ac).val x43) (aw (bn (w64 (x2+2)) _ hx43)) ?_
   refine aq (R:=ab) (R':=ab) (a:=(ApiNode.mk 0 [] [] 0 0 0 0 0 [])) (y:=(ApiNode.mk 0 [] [] 0 0 0 0 0 [])) 0 Tryz.sizeOf24 (Upd.refl _) ?_
   refine rq (out:=Pr.i64 0) ae ?_
   refine aq (R:=ac) (R':=ac) (a:=(Ref12Wrong.mk 0 0)) (y:=x43) 1 Tryz.sizeOf59 (Upd.refl _) ?_
   obtain rfl:=Option.some.inj h
   exact a6 ⟨rfl,[(ab).val (ApiNode.mk 0 [] [] 0 0 0 0 0 []),Pr.i64 0,(ac).val x43],⟨yBox 0 ty24 aa,yT aa,yBox 1 ty59 aa,trivial⟩,aa⟩
  replace h:=iteF hc42 h
  refine au ?_
  refine a5 ?_
  refine W_rs ?_
  refine rq (out:=aj ah x1) ag ?_
  refine rq (out:=Pr.i64 x2) ag ?_
  refine rq (out:=Pr.i64 (w64 (x2+3))) qInt ?_
  obtain⟨x44,hx44,h⟩:=af h
  refine rq (out:=Pr.bool x44) (aw (a7 x1 (w64 (x2+3)) ([41]:List UInt8) _ hx44)) ?_
  refine rq (out:=Pr.bool (!x44)) qNot ?_
  refine ao (b:= !x44) rfl (fun hc45=> ?_) (fun hc45=> ?_)
  ·replace h:=iteT hc45 h
   refine W_rs ?_
   refine rq (out:=(ab).val (ApiNode.mk 0 [] [] 0 0 0 0 0 [])) (dc al st24 rfl) ?_
   refine rq (out:=Pr.i64 x2) ag ?_
   refine rq (out:=Pr.i64 (w64 (x2+3))) qInt ?_
   obtain⟨x46,hx46,h⟩:=af h
   refine rq (out:=(ac).val x46) (aw (bn (w64 (x2+3)) _ hx46)) ?_
   refine aq (R:=ab) (R':=ab) (a:=(ApiNode.mk 0 [] [] 0 0 0 0 0 [])) (y:=(ApiNode.mk 0 [] [] 0 0 0 0 0 [])) 0 Tryz.sizeOf24 (Upd.refl _) ?_
   refine rq (out:=Pr.i64 0) ae ?_
   refine aq (R:=ac) (R':=ac) (a:=(Ref12Wrong.mk 0 0)) (y:=x46) 1 Tryz.sizeOf59 (Upd.refl _) ?_
   obtain rfl:=Option.some.inj h
   exact a6 ⟨rfl,[(ab).val (ApiNode.mk 0 [] [] 0 0 0 0 0 []),Pr.i64 0,(ac).val x46],⟨yBox 0 ty24 aa,yT aa,yBox 1 ty59 aa,trivial⟩,aa⟩
  replace h:=iteF hc45 h
  refine au ?_
  refine W_rs ?_
  refine rq (out:=aj ah x1) ag ?_
  refine rq (out:=Pr.i64 x2) ag ?_
  refine rq (out:=Pr.i64 x2) ag ?_
  refine rq (out:=Pr.i64 (w64 (x2+4))) qInt ?_
  obtain⟨x47,hx47,h⟩:=af h
  refine rq (out:=(ab).val x47) (mc (cu x1 21 x2 (w64 (x2+4)) [] _ hx47) ⟨aa,aa,aa,aa,da _,trivial⟩) ?_
  refine cb (R:=ab) (z:=(ApiNode.mk 0 [] [] 0 0 0 0 0 [])) Tryz.zeroValue24 (fun _=>(by rw[al];exact⟨_,⟨_,_,rfl,rfl,⟨_,_,rfl,rfl,⟨_,_,rfl,rfl,⟨_,_,rfl,rfl,⟨_,_,rfl,rfl,⟨_,_,rfl,rfl,⟨_,_,rfl,rfl,⟨_,_,rfl,rfl,⟨_,_,rfl,⟨_,rfl,none,0,rfl,⟨Nat.le_refl _,fun _=>rfl⟩,.inl rfl⟩,rfl⟩⟩⟩⟩⟩⟩⟩⟩⟩,rfl⟩)) (fun b48=> ?_)
  refine aq (R:=ab) (R':=ab) (a:=(ApiNode.mk 0 [] [] 0 0 0 0 0 [])) (y:=x47) 2 Tryz.sizeOf24 (Upd.refl _) ?_
  refine W_rs ?_
  refine rq (out:=aj ah x1) ag ?_
  refine rq (out:=Pr.i64 x2) ag ?_
  refine rq (out:=Pr.i64 (w64 (x2+1))) qInt ?_
  obtain⟨x49,hx49,h⟩:=af h
  refine rq (out:=bj ah x49) (ef (R:=ah) (l:=x1) Tryz.underlying52 Tryz.sizeOf56 hx49) ?_
  refine rq (out:=bj am x49.Text) (e7 (R:=ah) (a:=x49) fld56_1 dp) ?_
  refine rq (out:=ai x49.Text) (c5 (R:=am) (a:=x49.Text) ty9) ?_
  refine rq (out:=ap b48 1) (a4 gl) ?_
  refine aq (R:=ab) (R':=am) (a:=x47) (y:=x49.Text) 2 Tryz.sizeOf9 ia ?_
  refine W_rs ?_
  refine rq (out:=aj ah x1) ag ?_
  refine rq (out:=Pr.i64 x2) ag ?_
  refine rq (out:=Pr.i64 (w64 (x2+1))) qInt ?_
  obtain⟨x50,hx50,h⟩:=af h
  refine rq (out:=bj ah x50) (ef (R:=ah) (l:=x1) Tryz.underlying52 Tryz.sizeOf56 hx50) ?_
  refine rq (out:=bj (Rp.int .i64) x50.At) (e7 (R:=ah) (a:=x50) fld56_2 fw) ?_
  refine rq (out:=Pr.i64 x50.At) (c5 (R:=Rp.int .i64) (a:=x50.At) ty3) ?_
  refine rq (out:=ap b48 6) (a4 fld24_6) ?_
  refine aq (R:=ab) (R':=Rp.int .i64) (a:={x47 with Text:=x49.Text}) (y:=x50.At) 2 Tryz.sizeOf3 updApiNode_At ?_
  refine bc (fun e C=>∃(x51:Ref12Wrong),m0 R x47 x49 x50 x2 x51=some r/\At [(6,ap b4 0),(7,Pr.i64 (w64 (x2+4))),(8,ap b5 0)] [Own.box b4 ab ({{x47 with Text:=x49.Text} with At:=x50.At}),Own.box b5 ac x51,Own.box b48 ab ({{x47 with Text:=x49.Text} with At:=x50.At})] e C) ?_ ?_
  ·rintro e C ⟨x51,h,hat5⟩
   refine W_at hat5 ?_
   clear hat5
   unfold m0 at h
   obtain rfl:=Option.some.inj h
   exact a6 ⟨rfl,[(ab).val ({{x47 with Text:=x49.Text} with At:=x50.At}),Pr.i64 (w64 (x2+4)),(ac).val x51],⟨yBox 0 ty24 aa,yT aa,yBox 1 ty59 aa,trivial⟩,aa⟩
  obtain⟨x51,hx51,h⟩:=af h
  refine dx [(4,0,Own.box b4 ab ({{x47 with Text:=x49.Text} with At:=x50.At})),(6,1,Own.box b5 ac x51)] [Own.box b4 ab ({{x47 with Text:=x49.Text} with At:=x50.At}),Own.box b5 ac x51,Own.box b48 ab ({{x47 with Text:=x49.Text} with At:=x50.At})] hmx (by kernel_rfl) (by kernel_rfl) (show([4,6]:List Nat).Nodup by decide) (show([0,1]:List Nat).Nodup by decide) rfl rfl ?_
  refine eq1 (out:=(ab).val ({{x47 with Text:=x49.Text} with At:=x50.At})) (fun C2 hC=>(a8 (R:=ab) (a:={{x47 with Text:=x49.Text} with At:=x50.At}) (R':=ab) 2 ty24 (Sub.refl _) (hi:=(hC 2 (by kernel_rfl)).trans rfl))) ?_
  refine eq1 (out:=Pr.i64 x2) (fun C2 hC=>ag) ?_
  refine eq1 (out:=Pr.i64 (w64 (x2+4))) (fun C2 hC=>qInt) ?_
  refine eq1 (out:=(ac).val x51) (fun C2 hC=>(aw (cd _ hx51))) ?_
  refine eqS (fun C2 hC=>de (R:=ab) (R':=ab) (a:=(ApiNode.mk 0 [] [] 0 0 0 0 0 [])) (y:={{x47 with Text:=x49.Text} with At:=x50.At}) 0 Tryz.sizeOf24 (Upd.refl _) ((hC 0 (by kernel_rfl)).trans rfl)) ?_
  refine eq1 (out:=Pr.i64 (w64 (x2+4))) (fun C2 hC=>ae) ?_
  refine eqS (fun C2 hC=>de (R:=ac) (R':=ac) (a:=(Ref12Wrong.mk 0 0)) (y:=x51) 1 Tryz.sizeOf59 (Upd.refl _) ((hC 1 (by kernel_rfl)).trans rfl)) ?_
  exact⟨x51,h,⟨⟨aa,aa,aa,trivial⟩,Pick.refl _⟩⟩
 replace h:=iteF hc37 h
 refine W_rs ?_
 refine rq (out:=aj ah x1) ag ?_
 refine rq (out:=Pr.i64 x2) ag ?_
 obtain⟨x52,hx52,h⟩:=af h
 refine rq (out:=Pr.bool x52) (aw (a7 x1 x2 ([40]:List UInt8) _ hx52)) ?_
 refine rq (out:=Pr.bool x52) ae ?_
 refine ao (b:=x52) rfl (fun hc53=> ?_) (fun hc53=> ?_)
 ·replace h:=iteT hc53 h
  refine W_rs ?_
  refine rq (out:=aj ah x1) ag ?_
  refine rq (out:=Pr.i64 x2) ag ?_
  refine rq (out:=Pr.i64 (w64 (x2+1))) qInt ?_
  refine rq (out:=Pr.i64 x3) ag ?_
  obtain⟨⟨x54,x55,x56⟩,hx54,h⟩:=af h
  refine rq (out:=bh [(ab).val x54,Pr.i64 x55,(ac).val x56]) (aw (ih.1 x1 (w64 (x2+1)) x3 _ hx54)) ?_
  refine rq (out:=bh [(ab).val x54,Pr.i64 x55,(ac).val x56]) ag ?_
  refine rq (out:=(ab).val x54) ar ?_
  refine rq (out:=Pr.i64 x55) ar ?_
  refine rq (out:=(ac).val x56) ar ?_
  refine cb (R:=ab) (z:=(ApiNode.mk 0 [] [] 0 0 0 0 0 [])) Tryz.zeroValue24 (fun _=>(by rw[al];exact⟨_,⟨_,_,rfl,rfl,⟨_,_,rfl,rfl,⟨_,_,rfl,rfl,⟨_,_,rfl,rfl,⟨_,_,rfl,rfl,⟨_,_,rfl,rfl,⟨_,_,rfl,rfl,⟨_,_,rfl,rfl,⟨_,_,rfl,⟨_,rfl,none,0,rfl,⟨Nat.le_refl _,fun _=>rfl⟩,.inl rfl⟩,rfl⟩⟩⟩⟩⟩⟩⟩⟩⟩,rfl⟩)) (fun b57=> ?_)
  refine cb (R:=ac) (z:=(Ref12Wrong.mk 0 0)) Tryz.zeroValue59 (fun _=>⟨_,⟨_,_,rfl,rfl,⟨_,_,rfl,rfl,rfl⟩⟩,rfl⟩) (fun b58=> ?_)
  refine aq (R:=ab) (R':=ab) (a:=(ApiNode.mk 0 [] [] 0 0 0 0 0 [])) (y:=x54) 2 Tryz.sizeOf24 (Upd.refl _) ?_
  refine rq (out:=Pr.i64 x55) ae ?_
  refine aq (R:=ac) (R':=ac) (a:=(Ref12Wrong.mk 0 0)) (y:=x56) 3 Tryz.sizeOf59 (Upd.refl _) ?_
  refine a5 ?_
  refine W_rs ?_
  refine rq (out:=ap b58 0) (a4 gy) ?_
  refine rq (out:=Pr.i64 x56.Place) (a8 (R:=ac) (a:=x56) (R':=Rp.int .i64) 3 ty3 bb) ?_
  refine rq (out:=Pr.bool (decide (x56.Place≥0))) qInt ?_
  refine ao (b:=decide (x56.Place≥0)) rfl (fun hc59=> ?_) (fun hc59=> ?_)
  ·replace h:=iteT hc59 h
   refine bc (fun e C=>ref12_primary_j6 R x56=some r/\At [(6,ap b4 0),(7,Pr.i64 0),(8,ap b5 0)] [Own.box b4 ab (ApiNode.mk 0 [] [] 0 0 0 0 0 []),Own.box b5 ac x56,Own.box b57 ab x54,Own.box b58 ac x56] e C) ?_ ?_
   ·rintro e C ⟨h,hat6⟩
    refine W_at hat6 ?_
    clear hat6
    unfold ref12_primary_j6 at h
    obtain rfl:=Option.some.inj h
    exact a6 ⟨rfl,[(ab).val (ApiNode.mk 0 [] [] 0 0 0 0 0 []),Pr.i64 0,(ac).val x56],⟨yBox 0 ty24 aa,yT aa,yBox 1 ty59 aa,trivial⟩,aa⟩
   refine dx [(2,0,Own.box b4 ab (ApiNode.mk 0 [] [] 0 0 0 0 0 [])),(4,1,Own.box b5 ac x56)] [Own.box b4 ab (ApiNode.mk 0 [] [] 0 0 0 0 0 []),Own.box b5 ac x56,Own.box b57 ab x54,Own.box b58 ac x56] hmx (by kernel_rfl) (by kernel_rfl) (show([2,4]:List Nat).Nodup by decide) (show([0,1]:List Nat).Nodup by decide) rfl rfl ?_
   refine eq1 (out:=(ab).val (ApiNode.mk 0 [] [] 0 0 0 0 0 [])) (fun C2 hC=>(dc al st24 rfl)) ?_
   refine eq1 (out:=(ac).val x56) (fun C2 hC=>(a8 (R:=ac) (a:=x56) (R':=ac) 3 ty59 (Sub.refl _) (hi:=(hC 3 (by kernel_rfl)).trans rfl))) ?_
   refine eqS (fun C2 hC=>de (R:=ab) (R':=ab) (a:=(ApiNode.mk 0 [] [] 0 0 0 0 0 [])) (y:=(ApiNode.mk 0 [] [] 0 0 0 0 0 [])) 0 Tryz.sizeOf24 (Upd.refl _) ((hC 0 (by kernel_rfl)).trans rfl)) ?_
   refine eq1 (out:=Pr.i64 0) (fun C2 hC=>ae) ?_
   refine eqS (fun C2 hC=>de (R:=ac) (R':=ac) (a:=(Ref12Wrong.mk 0 0)) (y:=x56) 1 Tryz.sizeOf59 (Upd.refl _) ((hC 1 (by kernel_rfl)).trans rfl)) ?_
   exact⟨h,⟨⟨aa,aa,aa,trivial⟩,Pick.refl _⟩⟩
  replace h:=iteF hc59 h
  refine au ?_
  refine a5 ?_
  refine W_rs ?_
  refine rq (out:=aj ah x1) ag ?_
  refine rq (out:=Pr.i64 x55) ag ?_
  obtain⟨x60,hx60,h⟩:=af h
  refine rq (out:=Pr.bool x60) (aw (a7 x1 x55 ([41]:List UInt8) _ hx60)) ?_
  refine rq (out:=Pr.bool (!x60)) qNot ?_
  refine ao (b:= !x60) rfl (fun hc61=> ?_) (fun hc61=> ?_)
  ·replace h:=iteT hc61 h
   refine W_rs ?_
   refine rq (out:=(ab).val (ApiNode.mk 0 [] [] 0 0 0 0 0 [])) (dc al st24 rfl) ?_
   refine rq (out:=Pr.i64 x55) ag ?_
   obtain⟨x62,hx62,h⟩:=af h
   refine rq (out:=(ac).val x62) (aw (bn x55 _ hx62)) ?_
   refine aq (R:=ab) (R':=ab) (a:=(ApiNode.mk 0 [] [] 0 0 0 0 0 [])) (y:=(ApiNode.mk 0 [] [] 0 0 0 0 0 [])) 0 Tryz.sizeOf24 (Upd.refl _) ?_
   refine rq (out:=Pr.i64 0) ae ?_
   refine aq (R:=ac) (R':=ac) (a:=(Ref12Wrong.mk 0 0)) (y:=x62) 1 Tryz.sizeOf59 (Upd.refl _) ?_
   obtain rfl:=Option.some.inj h
   exact a6 ⟨rfl,[(ab).val (ApiNode.mk 0 [] [] 0 0 0 0 0 []),Pr.i64 0,(ac).val x62],⟨yBox 0 ty24 aa,yT aa,yBox 1 ty59 aa,trivial⟩,aa⟩
  replace h:=iteF hc61 h
  refine au ?_
  refine bc (fun e C=>∃(x63:Ref12Wrong),mz R x54 x55 x63=some r/\At [(6,ap b4 0),(7,Pr.i64 (w64 (x55+1))),(8,ap b5 0)] [Own.box b4 ab x54,Own.box b5 ac x63,Own.box b57 ab x54,Own.box b58 ac x56] e C) ?_ ?_
  ·rintro e C ⟨x63,h,hat7⟩
   refine W_at hat7 ?_
   clear hat7
   unfold mz at h
   obtain rfl:=Option.some.inj h
   exact a6 ⟨rfl,[(ab).val x54,Pr.i64 (w64 (x55+1)),(ac).val x63],⟨yBox 0 ty24 aa,yT aa,yBox 1 ty59 aa,trivial⟩,aa⟩
  obtain⟨x63,hx63,h⟩:=af h
  refine dx [(4,0,Own.box b4 ab x54),(6,1,Own.box b5 ac x63)] [Own.box b4 ab x54,Own.box b5 ac x63,Own.box b57 ab x54,Own.box b58 ac x56] hmx (by kernel_rfl) (by kernel_rfl) (show([4,6]:List Nat).Nodup by decide) (show([0,1]:List Nat).Nodup by decide) rfl rfl ?_
  refine eq1 (out:=(ab).val x54) (fun C2 hC=>(a8 (R:=ab) (a:=x54) (R':=ab) 2 ty24 (Sub.refl _) (hi:=(hC 2 (by kernel_rfl)).trans rfl))) ?_
  refine eq1 (out:=Pr.i64 x55) (fun C2 hC=>ag) ?_
  refine eq1 (out:=Pr.i64 (w64 (x55+1))) (fun C2 hC=>qInt) ?_
  refine eq1 (out:=(ac).val x63) (fun C2 hC=>(aw (cd _ hx63))) ?_
  refine eqS (fun C2 hC=>de (R:=ab) (R':=ab) (a:=(ApiNode.mk 0 [] [] 0 0 0 0 0 [])) (y:=x54) 0 Tryz.sizeOf24 (Upd.refl _) ((hC 0 (by kernel_rfl)).trans rfl)) ?_
  refine eq1 (out:=Pr.i64 (w64 (x55+1))) (fun C2 hC=>ae) ?_
  refine eqS (fun C2 hC=>de (R:=ac) (R':=ac) (a:=(Ref12Wrong.mk 0 0)) (y:=x63) 1 Tryz.sizeOf59 (Upd.refl _) ((hC 1 (by kernel_rfl)).trans rfl)) ?_
  exact⟨x63,h,⟨⟨aa,aa,aa,trivial⟩,Pick.refl _⟩⟩
 replace h:=iteF hc53 h
 refine W_rs ?_
 refine rq (out:=aj ah x1) ag ?_
 refine rq (out:=Pr.i64 x2) ag ?_
 obtain⟨x64,hx64,h⟩:=af h
 refine rq (out:=Pr.bool x64) (aw (gm x1 x2 _ hx64)) ?_
 refine rq (out:=Pr.bool x64) ae ?_
 refine ao (b:=x64) rfl (fun hc65=> ?_) (fun hc65=> ?_)
 ·replace h:=iteT hc65 h
  refine W_rs ?_
  refine rq (out:=aj ah x1) ag ?_
  refine rq (out:=Pr.i64 x2) ag ?_
  refine rq (out:=Pr.i64 x2) ag ?_
  refine rq (out:=Pr.i64 (w64 (x2+1))) qInt ?_
  obtain⟨x66,hx66,h⟩:=af h
  refine rq (out:=(ab).val x66) (mc (cu x1 17 x2 (w64 (x2+1)) [] _ hx66) ⟨aa,aa,aa,aa,da _,trivial⟩) ?_
  refine cb (R:=ab) (z:=(ApiNode.mk 0 [] [] 0 0 0 0 0 [])) Tryz.zeroValue24 (fun _=>(by rw[al];exact⟨_,⟨_,_,rfl,rfl,⟨_,_,rfl,rfl,⟨_,_,rfl,rfl,⟨_,_,rfl,rfl,⟨_,_,rfl,rfl,⟨_,_,rfl,rfl,⟨_,_,rfl,rfl,⟨_,_,rfl,rfl,⟨_,_,rfl,⟨_,rfl,none,0,rfl,⟨Nat.le_refl _,fun _=>rfl⟩,.inl rfl⟩,rfl⟩⟩⟩⟩⟩⟩⟩⟩⟩,rfl⟩)) (fun b67=> ?_)
  refine aq (R:=ab) (R':=ab) (a:=(ApiNode.mk 0 [] [] 0 0 0 0 0 [])) (y:=x66) 2 Tryz.sizeOf24 (Upd.refl _) ?_
  refine W_rs ?_
  refine rq (out:=aj ah x1) ag ?_
  refine rq (out:=Pr.i64 x2) ag ?_
  obtain⟨x68,hx68,h⟩:=af h
  refine rq (out:=bj ah x68) (ef (R:=ah) (l:=x1) Tryz.underlying52 Tryz.sizeOf56 hx68) ?_
  refine rq (out:=bj am x68.Text) (e7 (R:=ah) (a:=x68) fld56_1 dp) ?_
  refine rq (out:=ai x68.Text) (c5 (R:=am) (a:=x68.Text) ty9) ?_
  refine rq (out:=ap b67 1) (a4 gl) ?_
  refine aq (R:=ab) (R':=am) (a:=x66) (y:=x68.Text) 2 Tryz.sizeOf9 ia ?_
  refine W_rs ?_
  refine rq (out:=aj ah x1) ag ?_
  refine rq (out:=Pr.i64 x2) ag ?_
  obtain⟨x69,hx69,h⟩:=af h
  refine rq (out:=bj ah x69) (ef (R:=ah) (l:=x1) Tryz.underlying52 Tryz.sizeOf56 hx69) ?_
  refine rq (out:=bj (Rp.int .i64) x69.At) (e7 (R:=ah) (a:=x69) fld56_2 fw) ?_
  refine rq (out:=Pr.i64 x69.At) (c5 (R:=Rp.int .i64) (a:=x69.At) ty3) ?_
  refine rq (out:=ap b67 6) (a4 fld24_6) ?_
  refine aq (R:=ab) (R':=Rp.int .i64) (a:={x66 with Text:=x68.Text}) (y:=x69.At) 2 Tryz.sizeOf3 updApiNode_At ?_
  refine a5 ?_
  refine W_rs ?_
  refine rq (out:=aj ah x1) ag ?_
  refine rq (out:=Pr.i64 x2) ag ?_
  refine rq (out:=Pr.i64 (w64 (x2+1))) qInt ?_
  obtain⟨x70,hx70,h⟩:=af h
  refine rq (out:=Pr.bool x70) (aw (a7 x1 (w64 (x2+1)) ([40]:List UInt8) _ hx70)) ?_
  refine rq (out:=Pr.bool (!x70)) qNot ?_
  refine ao (b:= !x70) rfl (fun hc71=> ?_) (fun hc71=> ?_)
  ·replace h:=iteT hc71 h
   refine bc (fun e C=>∃(x72:Ref12Wrong),my R x66 x68 x69 x2 x72=some r/\At [(6,ap b4 0),(7,Pr.i64 (w64 (x2+1))),(8,ap b5 0)] [Own.box b4 ab ({{x66 with Text:=x68.Text} with At:=x69.At}),Own.box b5 ac x72,Own.box b67 ab ({{x66 with Text:=x68.Text} with At:=x69.At})] e C) ?_ ?_
   ·rintro e C ⟨x72,h,hat8⟩
    refine W_at hat8 ?_
    clear hat8
    unfold my at h
    obtain rfl:=Option.some.inj h
    exact a6 ⟨rfl,[(ab).val ({{x66 with Text:=x68.Text} with At:=x69.At}),Pr.i64 (w64 (x2+1)),(ac).val x72],⟨yBox 0 ty24 aa,yT aa,yBox 1 ty59 aa,trivial⟩,aa⟩
   obtain⟨x72,hx72,h⟩:=af h
   refine dx [(4,0,Own.box b4 ab ({{x66 with Text:=x68.Text} with At:=x69.At})),(6,1,Own.box b5 ac x72)] [Own.box b4 ab ({{x66 with Text:=x68.Text} with At:=x69.At}),Own.box b5 ac x72,Own.box b67 ab ({{x66 with Text:=x68.Text} with At:=x69.At})] hmx (by kernel_rfl) (by kernel_rfl) (show([4,6]:List Nat).Nodup by decide) (show([0,1]:List Nat).Nodup by decide) rfl rfl ?_
   refine eq1 (out:=(ab).val ({{x66 with Text:=x68.Text} with At:=x69.At})) (fun C2 hC=>(a8 (R:=ab) (a:={{x66 with Text:=x68.Text} with At:=x69.At}) (R':=ab) 2 ty24 (Sub.refl _) (hi:=(hC 2 (by kernel_rfl)).trans rfl))) ?_
   refine eq1 (out:=Pr.i64 x2) (fun C2 hC=>ag) ?_
   refine eq1 (out:=Pr.i64 (w64 (x2+1))) (fun C2 hC=>qInt) ?_
   refine eq1 (out:=(ac).val x72) (fun C2 hC=>(aw (cd _ hx72))) ?_
   refine eqS (fun C2 hC=>de (R:=ab) (R':=ab) (a:=(ApiNode.mk 0 [] [] 0 0 0 0 0 [])) (y:={{x66 with Text:=x68.Text} with At:=x69.At}) 0 Tryz.sizeOf24 (Upd.refl _) ((hC 0 (by kernel_rfl)).trans rfl)) ?_
   refine eq1 (out:=Pr.i64 (w64 (x2+1))) (fun C2 hC=>ae) ?_
   refine eqS (fun C2 hC=>de (R:=ac) (R':=ac) (a:=(Ref12Wrong.mk 0 0)) (y:=x72) 1 Tryz.sizeOf59 (Upd.refl _) ((hC 1 (by kernel_rfl)).trans rfl)) ?_
   exact⟨x72,h,⟨⟨aa,aa,aa,trivial⟩,Pick.refl _⟩⟩
  replace h:=iteF hc71 h
  refine au ?_
  refine W_rs ?_
  refine rq (out:=aj ah x1) ag ?_
  refine rq (out:=Pr.i64 x2) ag ?_
  refine rq (out:=Pr.i64 (w64 (x2+2))) qInt ?_
  refine rq (out:=Pr.i64 x3) ag ?_
  obtain⟨⟨x73,x74,x75⟩,hx73,h⟩:=af h
  refine rq (out:=bh [aj ab x73,Pr.i64 x74,(ac).val x75]) (aw (ih.2.2.2.2 x1 (w64 (x2+2)) x3 _ hx73)) ?_
  refine rq (out:=bh [aj ab x73,Pr.i64 x74,(ac).val x75]) ag ?_
  refine rq (out:=aj ab x73) ar ?_
  refine rq (out:=Pr.i64 x74) ar ?_
  refine rq (out:=(ac).val x75) ar ?_
  refine cb (R:=ac) (z:=(Ref12Wrong.mk 0 0)) Tryz.zeroValue59 (fun _=>⟨_,⟨_,_,rfl,rfl,⟨_,_,rfl,rfl,rfl⟩⟩,rfl⟩) (fun b76=> ?_)
  refine rq (out:=aj ab x73) ae ?_
  refine rq (out:=Pr.i64 x74) ae ?_
  refine aq (R:=ac) (R':=ac) (a:=(Ref12Wrong.mk 0 0)) (y:=x75) 3 Tryz.sizeOf59 (Upd.refl _) ?_
  refine a5 ?_
  refine W_rs ?_
  refine rq (out:=ap b76 0) (a4 gy) ?_
  refine rq (out:=Pr.i64 x75.Place) (a8 (R:=ac) (a:=x75) (R':=Rp.int .i64) 3 ty3 bb) ?_
  refine rq (out:=Pr.bool (decide (x75.Place≥0))) qInt ?_
  refine ao (b:=decide (x75.Place≥0)) rfl (fun hc77=> ?_) (fun hc77=> ?_)
  ·replace h:=iteT hc77 h
   refine bc (fun e C=>ref12_primary_j9 R x75=some r/\At [(6,ap b4 0),(7,Pr.i64 0),(8,ap b5 0)] [Own.box b4 ab (ApiNode.mk 0 [] [] 0 0 0 0 0 []),Own.box b5 ac x75,Own.box b67 ab ({{x66 with Text:=x68.Text} with At:=x69.At}),Own.box b76 ac x75] e C) ?_ ?_
   ·rintro e C ⟨h,hat9⟩
    refine W_at hat9 ?_
    clear hat9
    unfold ref12_primary_j9 at h
    obtain rfl:=Option.some.inj h
    exact a6 ⟨rfl,[(ab).val (ApiNode.mk 0 [] [] 0 0 0 0 0 []),Pr.i64 0,(ac).val x75],⟨yBox 0 ty24 aa,yT aa,yBox 1 ty59 aa,trivial⟩,aa⟩
   refine dx [(2,0,Own.box b4 ab (ApiNode.mk 0 [] [] 0 0 0 0 0 [])),(4,1,Own.box b5 ac x75)] [Own.box b4 ab (ApiNode.mk 0 [] [] 0 0 0 0 0 []),Own.box b5 ac x75,Own.box b67 ab ({{x66 with Text:=x68.Text} with At:=x69.At}),Own.box b76 ac x75] hmx (by kernel_rfl) (by kernel_rfl) (show([2,4]:List Nat).Nodup by decide) (show([0,1]:List Nat).Nodup by decide) rfl rfl ?_
   refine eq1 (out:=(ab).val (ApiNode.mk 0 [] [] 0 0 0 0 0 [])) (fun C2 hC=>(dc al st24 rfl)) ?_
   refine eq1 (out:=(ac).val x75) (fun C2 hC=>(a8 (R:=ac) (a:=x75) (R':=ac) 3 ty59 (Sub.refl _) (hi:=(hC 3 (by kernel_rfl)).trans rfl))) ?_
   refine eqS (fun C2 hC=>de (R:=ab) (R':=ab) (a:=(ApiNode.mk 0 [] [] 0 0 0 0 0 [])) (y:=(ApiNode.mk 0 [] [] 0 0 0 0 0 [])) 0 Tryz.sizeOf24 (Upd.refl _) ((hC 0 (by kernel_rfl)).trans rfl)) ?_
   refine eq1 (out:=Pr.i64 0) (fun C2 hC=>ae) ?_
   refine eqS (fun C2 hC=>de (R:=ac) (R':=ac) (a:=(Ref12Wrong.mk 0 0)) (y:=x75) 1 Tryz.sizeOf59 (Upd.refl _) ((hC 1 (by kernel_rfl)).trans rfl)) ?_
   exact⟨h,⟨⟨aa,aa,aa,trivial⟩,Pick.refl _⟩⟩
  replace h:=iteF hc77 h
  refine au ?_
  refine W_rs ?_
  refine rq (out:=ap b67 0) (a4 md) ?_
  refine aq (R:=ab) (R':=Rp.int .i64) (a:={{x66 with Text:=x68.Text} with At:=x69.At}) (y:=19) 2 Tryz.sizeOf3 updApiNode_Kind ?_
  refine W_rs ?_
  refine rq (out:=aj ab x73) ag ?_
  refine rq (out:=ap b67 8) (a4 e8) ?_
  refine aq (R:=ab) (R':=a9 ab) (a:={{{x66 with Text:=x68.Text} with At:=x69.At} with Kind:=19}) (y:=x73) 2 Tryz.sizeOf22 updApiNode_Kids ?_
  refine W_rs ?_
  refine rq (out:=aj ah x1) ag ?_
  refine rq (out:=Pr.i64 x74) ag ?_
  obtain⟨x78,hx78,h⟩:=af h
  refine rq (out:=Pr.i64 x78) (aw (ref12_end_ok x1 x74 _ hx78)) ?_
  refine rq (out:=ap b67 5) (a4 fld24_5) ?_
  refine aq (R:=ab) (R':=Rp.int .i64) (a:={{{{x66 with Text:=x68.Text} with At:=x69.At} with Kind:=19} with Kids:=x73}) (y:=x78) 2 Tryz.sizeOf3 updApiNode_To ?_
  refine bc (fun e C=>∃(x79:Ref12Wrong),mb R x66 x68 x69 x73 x78 x74 x79=some r/\At [(6,ap b4 0),(7,Pr.i64 x74),(8,ap b5 0)] [Own.box b4 ab ({{{{{x66 with Text:=x68.Text} with At:=x69.At} with Kind:=19} with Kids:=x73} with To:=x78}),Own.box b5 ac x79,Own.box b67 ab ({{{{{x66 with Text:=x68.Text} with At:=x69.At} with Kind:=19} with Kids:=x73} with To:=x78}),Own.box b76 ac x75] e C) ?_ ?_
  ·rintro e C ⟨x79,h,hat10⟩
   refine W_at hat10 ?_
   clear hat10
   unfold mb at h
   obtain rfl:=Option.some.inj h
   exact a6 ⟨rfl,[(ab).val ({{{{{x66 with Text:=x68.Text} with At:=x69.At} with Kind:=19} with Kids:=x73} with To:=x78}),Pr.i64 x74,(ac).val x79],⟨yBox 0 ty24 aa,yT aa,yBox 1 ty59 aa,trivial⟩,aa⟩
  obtain⟨x79,hx79,h⟩:=af h
  refine dx [(3,0,Own.box b4 ab ({{{{{x66 with Text:=x68.Text} with At:=x69.At} with Kind:=19} with Kids:=x73} with To:=x78})),(5,1,Own.box b5 ac x79)] [Own.box b4 ab ({{{{{x66 with Text:=x68.Text} with At:=x69.At} with Kind:=19} with Kids:=x73} with To:=x78}),Own.box b5 ac x79,Own.box b67 ab ({{{{{x66 with Text:=x68.Text} with At:=x69.At} with Kind:=19} with Kids:=x73} with To:=x78}),Own.box b76 ac x75] hmx (by kernel_rfl) (by kernel_rfl) (show([3,5]:List Nat).Nodup by decide) (show([0,1]:List Nat).Nodup by decide) rfl rfl ?_
  refine eq1 (out:=(ab).val ({{{{{x66 with Text:=x68.Text} with At:=x69.At} with Kind:=19} with Kids:=x73} with To:=x78})) (fun C2 hC=>(a8 (R:=ab) (a:={{{{{x66 with Text:=x68.Text} with At:=x69.At} with Kind:=19} with Kids:=x73} with To:=x78}) (R':=ab) 2 ty24 (Sub.refl _) (hi:=(hC 2 (by kernel_rfl)).trans rfl))) ?_
  refine eq1 (out:=Pr.i64 x74) (fun C2 hC=>ag) ?_
  refine eq1 (out:=(ac).val x79) (fun C2 hC=>(aw (cd _ hx79))) ?_
  refine eqS (fun C2 hC=>de (R:=ab) (R':=ab) (a:=(ApiNode.mk 0 [] [] 0 0 0 0 0 [])) (y:={{{{{x66 with Text:=x68.Text} with At:=x69.At} with Kind:=19} with Kids:=x73} with To:=x78}) 0 Tryz.sizeOf24 (Upd.refl _) ((hC 0 (by kernel_rfl)).trans rfl)) ?_
  refine eq1 (out:=Pr.i64 x74) (fun C2 hC=>ae) ?_
  refine eqS (fun C2 hC=>de (R:=ac) (R':=ac) (a:=(Ref12Wrong.mk 0 0)) (y:=x79) 1 Tryz.sizeOf59 (Upd.refl _) ((hC 1 (by kernel_rfl)).trans rfl)) ?_
  exact⟨x79,h,⟨⟨aa,aa,aa,trivial⟩,Pick.refl _⟩⟩
 replace h:=iteF hc65 h
 refine au ?_
 refine W_rs ?_
 refine rq (out:=(ab).val (ApiNode.mk 0 [] [] 0 0 0 0 0 [])) (dc al st24 rfl) ?_
 refine rq (out:=Pr.i64 x2) ag ?_
 obtain⟨x80,hx80,h⟩:=af h
 refine rq (out:=(ac).val x80) (aw (bn x2 _ hx80)) ?_
 refine aq (R:=ab) (R':=ab) (a:=(ApiNode.mk 0 [] [] 0 0 0 0 0 [])) (y:=(ApiNode.mk 0 [] [] 0 0 0 0 0 [])) 0 Tryz.sizeOf24 (Upd.refl _) ?_
 refine rq (out:=Pr.i64 0) ae ?_
 refine aq (R:=ac) (R':=ac) (a:=(Ref12Wrong.mk 0 0)) (y:=x80) 1 Tryz.sizeOf59 (Upd.refl _) ?_
 obtain rfl:=Option.some.inj h
 exact a6 ⟨rfl,[(ab).val (ApiNode.mk 0 [] [] 0 0 0 0 0 []),Pr.i64 0,(ac).val x80],⟨yBox 0 ty24 aa,yT aa,yBox 1 ty59 aa,trivial⟩,aa⟩
theorem F_ref12_arguments_step (R:ak) (ih:d3 R) (x1:List ApiToken) (x2 x3:Int) (r:(List ApiNode) × Int × Ref12Wrong) (h:jj R x1 x2 x3=some r):FnP Tryz.prog 107 [aj ah x1,Pr.i64 x2,Pr.i64 x3] (bh [aj ab r.1,Pr.i64 r.2.1,(ac).val r.2.2]):=by
 refine el (n:=51) (rs:=[.tmp 6,.tmp 7,.cell 8 59]) Tryz.func107 rfl Tryz.ntmps107 Tryz.results107 (by decide) (fun s0=> ?_)
 unfold jj at h
 refine W_rs ?_
 refine rq (out:=Pr.is (.slice none 0 0)) ae ?_
 refine rq (out:=Pr.i64 0) ae ?_
 refine cb (R:=ac) (z:=(Ref12Wrong.mk 0 0)) Tryz.zeroValue59 (fun _=>⟨_,⟨_,_,rfl,rfl,⟨_,_,rfl,rfl,rfl⟩⟩,rfl⟩) (fun b4=> ?_)
 refine W_rs ?_
 refine rq (out:=Pr.is (.slice none 0 0)) ae ?_
 refine a5 ?_
 refine W_rs ?_
 refine rq (out:=aj ah x1) ag ?_
 refine rq (out:=Pr.i64 x2) ag ?_
 obtain⟨x5,hx5,h⟩:=af h
 refine rq (out:=Pr.bool x5) (aw (a7 x1 x2 ([41]:List UInt8) _ hx5)) ?_
 refine ao (b:=x5) rfl (fun hc6=> ?_) (fun hc6=> ?_)
 ·replace h:=iteT hc6 h
  refine W_rs ?_
  refine rq (out:=Pr.is (.slice none 0 0)) ag ?_
  refine rq (out:=Pr.i64 x2) ag ?_
  refine rq (out:=Pr.i64 (w64 (x2+1))) qInt ?_
  obtain⟨x7,hx7,h⟩:=af h
  refine rq (out:=(ac).val x7) (aw (cd _ hx7)) ?_
  refine rq (out:=Pr.is (.slice none 0 0)) ae ?_
  refine rq (out:=Pr.i64 (w64 (x2+1))) ae ?_
  refine aq (R:=ac) (R':=ac) (a:=(Ref12Wrong.mk 0 0)) (y:=x7) 0 Tryz.sizeOf59 (Upd.refl _) ?_
  obtain rfl:=Option.some.inj h
  exact a6 ⟨rfl,[aj ab [],Pr.i64 (w64 (x2+1)),(ac).val x7],⟨yT (da _),yT aa,yBox 0 ty59 aa,trivial⟩,aa⟩
 replace h:=iteF hc6 h
 refine au ?_
 refine az ?_
 obtain⟨n1,hN1⟩:=cc h
 refine W_nil [9] ab 24 (fun v28=> ?_) ⟨rfl,trivial⟩
 refine eh (fun m e C=>∃(x8:Int),∃(x10:List ApiNode),∃(v9:Value),en (fun s=>gb R x1 x3 s.1 s.2) m (x8,x10)=some r/\At [(0,aj ah x1),(1,Pr.i64 x8),(2,Pr.i64 x3),(8,ap b4 0),(9,Pr.is v9)] [Own.box b4 ac (Ref12Wrong.mk 0 0),Own.vec v9 ab x10 24] e C) n1 ⟨x2,[],v28,hN1,⟨⟨aa,aa,aa,aa,aa,trivial⟩,Pick.refl _⟩⟩ ?_
 clear hN1
 rintro m e C ⟨x8,x10,v9,hN1,hatl1⟩
 refine W_at hatl1 ?_
 clear hatl1
 obtain⟨m1,w1l,rfl,h1l,hn1,ho1⟩:=bx hN1
 clear hN1
 replace h1l:gb R x1 x3 x8 x10=some w1l:=h1l
 unfold gb at h1l
 refine az ?_
 refine W_rs ?_
 refine rq (out:=aj ah x1) ag ?_
 refine rq (out:=Pr.i64 x8) ag ?_
 refine rq (out:=Pr.i64 x3) ag ?_
 obtain⟨⟨x14,x15,x16⟩,hx14,h1l⟩:=af h1l
 refine rq (out:=bh [(ab).val x14,Pr.i64 x15,(ac).val x16]) (aw (ih.1 x1 x8 x3 _ hx14)) ?_
 refine rq (out:=bh [(ab).val x14,Pr.i64 x15,(ac).val x16]) ag ?_
 refine rq (out:=(ab).val x14) ar ?_
 refine rq (out:=Pr.i64 x15) ar ?_
 refine rq (out:=(ac).val x16) ar ?_
 refine cb (R:=ab) (z:=(ApiNode.mk 0 [] [] 0 0 0 0 0 [])) Tryz.zeroValue24 (fun _=>(by rw[al];exact⟨_,⟨_,_,rfl,rfl,⟨_,_,rfl,rfl,⟨_,_,rfl,rfl,⟨_,_,rfl,rfl,⟨_,_,rfl,rfl,⟨_,_,rfl,rfl,⟨_,_,rfl,rfl,⟨_,_,rfl,rfl,⟨_,_,rfl,⟨_,rfl,none,0,rfl,⟨Nat.le_refl _,fun _=>rfl⟩,.inl rfl⟩,rfl⟩⟩⟩⟩⟩⟩⟩⟩⟩,rfl⟩)) (fun b17=> ?_)
 refine cb (R:=ac) (z:=(Ref12Wrong.mk 0 0)) Tryz.zeroValue59 (fun _=>⟨_,⟨_,_,rfl,rfl,⟨_,_,rfl,rfl,rfl⟩⟩,rfl⟩) (fun b18=> ?_)
 refine aq (R:=ab) (R':=ab) (a:=(ApiNode.mk 0 [] [] 0 0 0 0 0 [])) (y:=x14) 2 Tryz.sizeOf24 (Upd.refl _) ?_
 refine rq (out:=Pr.i64 x15) ae ?_
 refine aq (R:=ac) (R':=ac) (a:=(Ref12Wrong.mk 0 0)) (y:=x16) 3 Tryz.sizeOf59 (Upd.refl _) ?_
 refine a5 ?_
 refine W_rs ?_
 refine rq (out:=ap b18 0) (a4 gy) ?_
 refine rq (out:=Pr.i64 x16.Place) (a8 (R:=ac) (a:=x16) (R':=Rp.int .i64) 3 ty3 bb) ?_
 refine rq (out:=Pr.bool (decide (x16.Place≥0))) qInt ?_
 refine ao (b:=decide (x16.Place≥0)) rfl (fun hc19=> ?_) (fun hc19=> ?_)
 ·replace h1l:=iteT hc19 h1l
  refine bc (fun e C=>ref12_arguments_j2 R x16=some w1l/\At [(6,Pr.is (.slice none 0 0)),(7,Pr.i64 0),(8,ap b4 0)] [Own.box b4 ac x16,Own.box b17 ab x14,Own.box b18 ac x16] e C) ?_ ?_
  ·rintro e C ⟨h1l,hat2⟩
   refine W_at hat2 ?_
   clear hat2
   unfold ref12_arguments_j2 at h1l
   have h:some ([],0,x16)=some r:=congrArg some (ho1 _ (Option.some.inj h1l).symm)
   obtain rfl:=Option.some.inj h
   exact a6 ⟨rfl,[aj ab [],Pr.i64 0,(ac).val x16],⟨yT (da _),yT aa,yBox 0 ty59 aa,trivial⟩,aa⟩
  refine jm 3 hmx (by kernel_rfl) (by kernel_rfl) ?_
  refine qq (out:=(ac).val x16) (a8 (R:=ac) (a:=x16) (R':=ac) 3 ty59 (Sub.refl _)) ?_
  refine qq (out:=Pr.is (.slice none 0 0)) ae ?_
  refine qq (out:=Pr.i64 0) ae ?_
  refine aq (R:=ac) (R':=ac) (a:=(Ref12Wrong.mk 0 0)) (y:=x16) 0 Tryz.sizeOf59 (Upd.refl _) ?_
  exact⟨h1l,⟨⟨aa,aa,aa,trivial⟩,Pick.of [0,2,3] rfl⟩⟩
 replace h1l:=iteF hc19 h1l
 refine au ?_
 refine W_rs ?_
 refine rq (out:=Pr.is v9) ag ?_
 refine rq (out:=(ab).val x14) (a8 (R:=ab) (a:=x14) (R':=ab) 2 ty24 (Sub.refl _)) ?_
 refine rq (out:=aj ab ([x14]:List ApiNode)) (cr (R:=ab) (a:=x14) el22 (Nat.le_of_ble_eq_true rfl)) ?_
 obtain⟨x20,hx20,h1l⟩:=af h1l
 refine ip 1 el22 hx20 (fun v21=> ?_)
 refine rq (out:=Pr.is v21) ae ?_
 refine a5 ?_
 refine W_rs ?_
 refine rq (out:=aj ah x1) ag ?_
 refine rq (out:=Pr.i64 x15) ag ?_
 obtain⟨x22,hx22,h1l⟩:=af h1l
 refine rq (out:=Pr.bool x22) (aw (a7 x1 x15 ([41]:List UInt8) _ hx22)) ?_
 refine ao (b:=x22) rfl (fun hc23=> ?_) (fun hc23=> ?_)
 ·replace h1l:=iteT hc23 h1l
  refine W_rs ?_
  refine rq (out:=Pr.is v21) ag ?_
  refine rq (out:=Pr.i64 x15) ag ?_
  refine rq (out:=Pr.i64 (w64 (x15+1))) qInt ?_
  obtain⟨x24,hx24,h1l⟩:=af h1l
  refine rq (out:=(ac).val x24) (aw (cd _ hx24)) ?_
  refine rq (out:=Pr.is v21) ae ?_
  refine rq (out:=Pr.i64 (w64 (x15+1))) ae ?_
  refine aq (R:=ac) (R':=ac) (a:=(Ref12Wrong.mk 0 0)) (y:=x24) 0 Tryz.sizeOf59 (Upd.refl _) ?_
  have h:some (x20,w64 (x15+1),x24)=some r:=congrArg some (ho1 _ (Option.some.inj h1l).symm)
  refine W_rel 1 [6] ?_ rfl ⟨rfl,trivial⟩
  obtain rfl:=Option.some.inj h
  exact a6 ⟨rfl,[aj ab x20,Pr.i64 (w64 (x15+1)),(ac).val x24],⟨yT aa,yT aa,yBox 0 ty59 aa,trivial⟩,aa⟩
 replace h1l:=iteF hc23 h1l
 refine au ?_
 refine a5 ?_
 refine W_rs ?_
 refine rq (out:=aj ah x1) ag ?_
 refine rq (out:=Pr.i64 x15) ag ?_
 obtain⟨x25,hx25,h1l⟩:=af h1l
 refine rq (out:=Pr.bool x25) (aw (a7 x1 x15 ([44]:List UInt8) _ hx25)) ?_
 refine rq (out:=Pr.bool (!x25)) qNot ?_
 refine ao (b:= !x25) rfl (fun hc26=> ?_) (fun hc26=> ?_)
 ·replace h1l:=iteT hc26 h1l
  refine W_rs ?_
  refine rq (out:=Pr.i64 x15) ag ?_
  obtain⟨x27,hx27,h1l⟩:=af h1l
  refine rq (out:=(ac).val x27) (aw (bn x15 _ hx27)) ?_
  refine rq (out:=Pr.is (.slice none 0 0)) ae ?_
  refine rq (out:=Pr.i64 0) ae ?_
  refine aq (R:=ac) (R':=ac) (a:=(Ref12Wrong.mk 0 0)) (y:=x27) 0 Tryz.sizeOf59 (Upd.refl _) ?_
  have h:some ([],0,x27)=some r:=congrArg some (ho1 _ (Option.some.inj h1l).symm)
  obtain rfl:=Option.some.inj h
  exact a6 ⟨rfl,[aj ab [],Pr.i64 0,(ac).val x27],⟨yT (da _),yT aa,yBox 0 ty59 aa,trivial⟩,aa⟩
 replace h1l:=iteF hc26 h1l
 refine au ?_
 refine W_r ?_
 refine rq (out:=Pr.i64 x15) ag ?_
 refine rq (out:=Pr.i64 (w64 (x15+1))) qInt ?_
 refine rq (out:=Pr.i64 (w64 (x15+1))) ae ?_
 exact⟨m1,Nat.lt_succ_self _,w64 (x15+1),x20,v21,hn1 _ (Option.some.inj h1l).symm,⟨⟨aa,aa,aa,aa,aa,trivial⟩,Pick.of [0,1] rfl⟩⟩
theorem rec_ref12_expression_ok :∀n,d3 (dm n):=by
 intro n
 induction n with
 |zero=>exact⟨(fun x1 x2 x3 r h=>nomatch (show none=some r from h)),(fun x1 x2 x3 x4 r h=>nomatch (show none=some r from h)),(fun x1 x2 x3 r h=>nomatch (show none=some r from h)),(fun x1 x2 x3 r h=>nomatch (show none=some r from h)),(fun x1 x2 x3 r h=>nomatch (show none=some r from h))⟩
 |succ n ih=>exact⟨(fun x1 x2 x3 r h=>F_ref12_expression_step (dm n) ih x1 x2 x3 r h),(fun x1 x2 x3 x4 r h=>F_ref12_level_step (dm n) ih x1 x2 x3 x4 r h),(fun x1 x2 x3 r h=>F_ref12_unary_step (dm n) ih x1 x2 x3 r h),(fun x1 x2 x3 r h=>F_ref12_primary_step (dm n) ih x1 x2 x3 r h),(fun x1 x2 x3 r h=>F_ref12_arguments_step (dm n) ih x1 x2 x3 r h)⟩
theorem fp (x1:List ApiToken) (x2 x3:Int) (r:ApiNode × Int × Ref12Wrong) (h:ff x1 x2 x3=some r):FnP Tryz.prog 40 [aj ah x1,Pr.i64 x2,Pr.i64 x3] (bh [(ab).val r.1,Pr.i64 r.2.1,(ac).val r.2.2]):=(rec_ref12_expression_ok 1048576).1 x1 x2 x3 r h
theorem ref12_bracketed_ok (x1:List ApiToken) (x2 x3:Int) (r:ApiNode × Int × Ref12Wrong) (h:jd x1 x2 x3=some r):FnP Tryz.prog 90 [aj ah x1,Pr.i64 x2,Pr.i64 x3] (bh [(ab).val r.1,Pr.i64 r.2.1,(ac).val r.2.2]):=by
 refine el (n:=44) (rs:=[.cell 6 24,.tmp 7,.cell 8 59]) Tryz.func90 rfl Tryz.ntmps90 Tryz.results90 (by decide) (fun s0=> ?_)
 unfold jd at h
 refine W_rs ?_
 refine cb (R:=ab) (z:=(ApiNode.mk 0 [] [] 0 0 0 0 0 [])) Tryz.zeroValue24 (fun _=>(by rw[al];exact⟨_,⟨_,_,rfl,rfl,⟨_,_,rfl,rfl,⟨_,_,rfl,rfl,⟨_,_,rfl,rfl,⟨_,_,rfl,rfl,⟨_,_,rfl,rfl,⟨_,_,rfl,rfl,⟨_,_,rfl,rfl,⟨_,_,rfl,⟨_,rfl,none,0,rfl,⟨Nat.le_refl _,fun _=>rfl⟩,.inl rfl⟩,rfl⟩⟩⟩⟩⟩⟩⟩⟩⟩,rfl⟩)) (fun b4=> ?_)
 refine rq (out:=Pr.i64 0) ae ?_
 refine cb (R:=ac) (z:=(Ref12Wrong.mk 0 0)) Tryz.zeroValue59 (fun _=>⟨_,⟨_,_,rfl,rfl,⟨_,_,rfl,rfl,rfl⟩⟩,rfl⟩) (fun b5=> ?_)
 refine a5 ?_
 refine W_rs ?_
 refine rq (out:=aj ah x1) ag ?_
 refine rq (out:=Pr.i64 x2) ag ?_
 obtain⟨x6,hx6,h⟩:=af h
 refine rq (out:=Pr.bool x6) (aw (a7 x1 x2 ([40]:List UInt8) _ hx6)) ?_
 refine rq (out:=Pr.bool (!x6)) qNot ?_
 refine ao (b:= !x6) rfl (fun hc7=> ?_) (fun hc7=> ?_)
 ·replace h:=iteT hc7 h
  refine W_rs ?_
  refine rq (out:=(ab).val (ApiNode.mk 0 [] [] 0 0 0 0 0 [])) (dc al st24 rfl) ?_
  refine rq (out:=Pr.i64 x2) ag ?_
  obtain⟨x8,hx8,h⟩:=af h
  refine rq (out:=(ac).val x8) (aw (bn x2 _ hx8)) ?_
  refine aq (R:=ab) (R':=ab) (a:=(ApiNode.mk 0 [] [] 0 0 0 0 0 [])) (y:=(ApiNode.mk 0 [] [] 0 0 0 0 0 [])) 0 Tryz.sizeOf24 (Upd.refl _) ?_
  refine rq (out:=Pr.i64 0) ae ?_
  refine aq (R:=ac) (R':=ac) (a:=(Ref12Wrong.mk 0 0)) (y:=x8) 1 Tryz.sizeOf59 (Upd.refl _) ?_
  obtain rfl:=Option.some.inj h
  exact a6 ⟨rfl,[(ab).val (ApiNode.mk 0 [] [] 0 0 0 0 0 []),Pr.i64 0,(ac).val x8],⟨yBox 0 ty24 aa,yT aa,yBox 1 ty59 aa,trivial⟩,aa⟩
 replace h:=iteF hc7 h
 refine au ?_
 refine W_rs ?_
 refine rq (out:=aj ah x1) ag ?_
 refine rq (out:=Pr.i64 x2) ag ?_
 refine rq (out:=Pr.i64 (w64 (x2+1))) qInt ?_
 refine rq (out:=Pr.i64 x3) ag ?_
 obtain⟨⟨x9,x10,x11⟩,hx9,h⟩:=af h
 refine rq (out:=bh [(ab).val x9,Pr.i64 x10,(ac).val x11]) (aw (fp x1 (w64 (x2+1)) x3 _ hx9)) ?_
 refine rq (out:=bh [(ab).val x9,Pr.i64 x10,(ac).val x11]) ag ?_
 refine rq (out:=(ab).val x9) ar ?_
 refine rq (out:=Pr.i64 x10) ar ?_
 refine rq (out:=(ac).val x11) ar ?_
 refine cb (R:=ab) (z:=(ApiNode.mk 0 [] [] 0 0 0 0 0 [])) Tryz.zeroValue24 (fun _=>(by rw[al];exact⟨_,⟨_,_,rfl,rfl,⟨_,_,rfl,rfl,⟨_,_,rfl,rfl,⟨_,_,rfl,rfl,⟨_,_,rfl,rfl,⟨_,_,rfl,rfl,⟨_,_,rfl,rfl,⟨_,_,rfl,rfl,⟨_,_,rfl,⟨_,rfl,none,0,rfl,⟨Nat.le_refl _,fun _=>rfl⟩,.inl rfl⟩,rfl⟩⟩⟩⟩⟩⟩⟩⟩⟩,rfl⟩)) (fun b12=> ?_)
 refine cb (R:=ac) (z:=(Ref12Wrong.mk 0 0)) Tryz.zeroValue59 (fun _=>⟨_,⟨_,_,rfl,rfl,⟨_,_,rfl,rfl,rfl⟩⟩,rfl⟩) (fun b13=> ?_)
 refine aq (R:=ab) (R':=ab) (a:=(ApiNode.mk 0 [] [] 0 0 0 0 0 [])) (y:=x9) 2 Tryz.sizeOf24 (Upd.refl _) ?_
 refine rq (out:=Pr.i64 x10) ae ?_
 refine aq (R:=ac) (R':=ac) (a:=(Ref12Wrong.mk 0 0)) (y:=x11) 3 Tryz.sizeOf59 (Upd.refl _) ?_
 refine a5 ?_
 refine W_rs ?_
 refine rq (out:=ap b13 0) (a4 gy) ?_
 refine rq (out:=Pr.i64 x11.Place) (a8 (R:=ac) (a:=x11) (R':=Rp.int .i64) 3 ty3 bb) ?_
 refine rq (out:=Pr.bool (decide (x11.Place≥0))) qInt ?_
 refine ao (b:=decide (x11.Place≥0)) rfl (fun hc14=> ?_) (fun hc14=> ?_)
 ·replace h:=iteT hc14 h
  refine bc (fun e C=>ref12_bracketed_j1 x11=some r/\At [(6,ap b4 0),(7,Pr.i64 0),(8,ap b5 0)] [Own.box b4 ab (ApiNode.mk 0 [] [] 0 0 0 0 0 []),Own.box b5 ac x11,Own.box b12 ab x9,Own.box b13 ac x11] e C) ?_ ?_
  ·rintro e C ⟨h,hat1⟩
   refine W_at hat1 ?_
   clear hat1
   unfold ref12_bracketed_j1 at h
   obtain rfl:=Option.some.inj h
   exact a6 ⟨rfl,[(ab).val (ApiNode.mk 0 [] [] 0 0 0 0 0 []),Pr.i64 0,(ac).val x11],⟨yBox 0 ty24 aa,yT aa,yBox 1 ty59 aa,trivial⟩,aa⟩
  refine dx [(2,0,Own.box b4 ab (ApiNode.mk 0 [] [] 0 0 0 0 0 [])),(4,1,Own.box b5 ac x11)] [Own.box b4 ab (ApiNode.mk 0 [] [] 0 0 0 0 0 []),Own.box b5 ac x11,Own.box b12 ab x9,Own.box b13 ac x11] hmx (by kernel_rfl) (by kernel_rfl) (show([2,4]:List Nat).Nodup by decide) (show([0,1]:List Nat).Nodup by decide) rfl rfl ?_
  refine eq1 (out:=(ab).val (ApiNode.mk 0 [] [] 0 0 0 0 0 [])) (fun C2 hC=>(dc al st24 rfl)) ?_
  refine eq1 (out:=(ac).val x11) (fun C2 hC=>(a8 (R:=ac) (a:=x11) (R':=ac) 3 ty59 (Sub.refl _) (hi:=(hC 3 (by kernel_rfl)).trans rfl))) ?_
  refine eqS (fun C2 hC=>de (R:=ab) (R':=ab) (a:=(ApiNode.mk 0 [] [] 0 0 0 0 0 [])) (y:=(ApiNode.mk 0 [] [] 0 0 0 0 0 [])) 0 Tryz.sizeOf24 (Upd.refl _) ((hC 0 (by kernel_rfl)).trans rfl)) ?_
  refine eq1 (out:=Pr.i64 0) (fun C2 hC=>ae) ?_
  refine eqS (fun C2 hC=>de (R:=ac) (R':=ac) (a:=(Ref12Wrong.mk 0 0)) (y:=x11) 1 Tryz.sizeOf59 (Upd.refl _) ((hC 1 (by kernel_rfl)).trans rfl)) ?_
  exact⟨h,⟨⟨aa,aa,aa,trivial⟩,Pick.refl _⟩⟩
 replace h:=iteF hc14 h
 refine au ?_
 refine a5 ?_
 refine W_rs ?_
 refine rq (out:=aj ah x1) ag ?_
 refine rq (out:=Pr.i64 x10) ag ?_
 obtain⟨x15,hx15,h⟩:=af h
 refine rq (out:=Pr.bool x15) (aw (a7 x1 x10 ([41]:List UInt8) _ hx15)) ?_
 refine rq (out:=Pr.bool (!x15)) qNot ?_
 refine ao (b:= !x15) rfl (fun hc16=> ?_) (fun hc16=> ?_)
 ·replace h:=iteT hc16 h
  refine W_rs ?_
  refine rq (out:=(ab).val (ApiNode.mk 0 [] [] 0 0 0 0 0 [])) (dc al st24 rfl) ?_
  refine rq (out:=Pr.i64 x10) ag ?_
  obtain⟨x17,hx17,h⟩:=af h
  refine rq (out:=(ac).val x17) (aw (bn x10 _ hx17)) ?_
  refine aq (R:=ab) (R':=ab) (a:=(ApiNode.mk 0 [] [] 0 0 0 0 0 [])) (y:=(ApiNode.mk 0 [] [] 0 0 0 0 0 [])) 0 Tryz.sizeOf24 (Upd.refl _) ?_
  refine rq (out:=Pr.i64 0) ae ?_
  refine aq (R:=ac) (R':=ac) (a:=(Ref12Wrong.mk 0 0)) (y:=x17) 1 Tryz.sizeOf59 (Upd.refl _) ?_
  obtain rfl:=Option.some.inj h
  exact a6 ⟨rfl,[(ab).val (ApiNode.mk 0 [] [] 0 0 0 0 0 []),Pr.i64 0,(ac).val x17],⟨yBox 0 ty24 aa,yT aa,yBox 1 ty59 aa,trivial⟩,aa⟩
 replace h:=iteF hc16 h
 refine au ?_
 refine bc (fun e C=>∃(x18:Ref12Wrong),k8 x9 x10 x18=some r/\At [(6,ap b4 0),(7,Pr.i64 (w64 (x10+1))),(8,ap b5 0)] [Own.box b4 ab x9,Own.box b5 ac x18,Own.box b12 ab x9,Own.box b13 ac x11] e C) ?_ ?_
 ·rintro e C ⟨x18,h,hat2⟩
  refine W_at hat2 ?_
  clear hat2
  unfold k8 at h
  obtain rfl:=Option.some.inj h
  exact a6 ⟨rfl,[(ab).val x9,Pr.i64 (w64 (x10+1)),(ac).val x18],⟨yBox 0 ty24 aa,yT aa,yBox 1 ty59 aa,trivial⟩,aa⟩
 obtain⟨x18,hx18,h⟩:=af h
 refine dx [(4,0,Own.box b4 ab x9),(6,1,Own.box b5 ac x18)] [Own.box b4 ab x9,Own.box b5 ac x18,Own.box b12 ab x9,Own.box b13 ac x11] hmx (by kernel_rfl) (by kernel_rfl) (show([4,6]:List Nat).Nodup by decide) (show([0,1]:List Nat).Nodup by decide) rfl rfl ?_
 refine eq1 (out:=(ab).val x9) (fun C2 hC=>(a8 (R:=ab) (a:=x9) (R':=ab) 2 ty24 (Sub.refl _) (hi:=(hC 2 (by kernel_rfl)).trans rfl))) ?_
 refine eq1 (out:=Pr.i64 x10) (fun C2 hC=>ag) ?_
 refine eq1 (out:=Pr.i64 (w64 (x10+1))) (fun C2 hC=>qInt) ?_
 refine eq1 (out:=(ac).val x18) (fun C2 hC=>(aw (cd _ hx18))) ?_
 refine eqS (fun C2 hC=>de (R:=ab) (R':=ab) (a:=(ApiNode.mk 0 [] [] 0 0 0 0 0 [])) (y:=x9) 0 Tryz.sizeOf24 (Upd.refl _) ((hC 0 (by kernel_rfl)).trans rfl)) ?_
 refine eq1 (out:=Pr.i64 (w64 (x10+1))) (fun C2 hC=>ae) ?_
 refine eqS (fun C2 hC=>de (R:=ac) (R':=ac) (a:=(Ref12Wrong.mk 0 0)) (y:=x18) 1 Tryz.sizeOf59 (Upd.refl _) ((hC 1 (by kernel_rfl)).trans rfl)) ?_
 exact⟨x18,h,⟨⟨aa,aa,aa,trivial⟩,Pick.refl _⟩⟩
end Go.Proofs.YtgkcoicaopilhaaGreatDoor
