/- The code comes to what these functions say (printed by wip/gen/gen.py). -/
import Derived.Test.YteablckbgpogiaaGreatDoorZX
import Derived.Test.YteablckbgpogiaaGreatDoorZP8
import Derived.Test.YteablckbgpogiaaGreatDoorZT
set_option linter.unusedSimpArgs false
set_option linter.unusedVariables false
set_option linter.unusedSectionVars false
set_option linter.unusedSectionVars false
set_option maxRecDepth 100000
set_option maxHeartbeats 4000000
namespace Go.Proofs.YteablckbgpogiaaGreatDoor
open Go Go.Cn
variable [Known]
attribute [local irreducible] f5 ap
theorem bg (x1:List ApiToken) (x2:Int) (x3:List UInt8) (r:Bool) (h:bw x1 x2 x3=some r):FnP Tryz.prog 52 [ap ah x1,Pr.i64 x2,ba x3] (Pr.bool r):=by
 refine cm (rs:=[6]) Tryz.func52 rfl Tryz.ntmps52 ⟨by decide,Tryz.results52⟩ (by decide) (fun s0=> ?_)
 unfold bw at h
 refine W_rs (kAs rfl ?_)
 refine bj (fun e C=>∃(x18:Bool),q3 x18=some r/\At [(6,Pr.bool x18)] [] e C) ?_ ?_
 ·rintro e C ⟨x18,h,hat1⟩
  refine W_at hat1 ?_
  unfold q3 at h
  obtain rfl:=osj h
  exact ax ⟨rfl,aa⟩
 refine W_r (kMv rfl (kMvL rfl (kUn (mt rfl Tryz.underlying70) ?_)))
 refine kIn rfl rfl rfl (kMv rfl ?_)
 rcases bd h with⟨hc4,h⟩|⟨hc4,h⟩
 ·refine kGd rfl aa hc4 (hMvL rfl) (kGd rfl aa hc4 (hMvA rfl) ?_)
  obtain⟨x5,hx5,h⟩:=af h
  refine kGd rfl aa hc4 (fi Tryz.underlying70 Tryz.sizeOf74 hx5) ?_
  refine kGd rfl aa hc4 (de fld74_1 subApiToken_Text) ?_
  refine kGd rfl aa hc4 (cw ty9) ?_
  refine kGd rfl aa hc4 (hMvA rfl) (kGd rfl aa hc4 (qStr rfl rfl rfl) (kPt rfl hc4 rfl (kMv rfl ?_)))
  rcases bd h with⟨hc6,h⟩|⟨hc6,h⟩
  ·refine kGd rfl aa hc6 (hMvL rfl) (kGd rfl aa hc6 (hMvA rfl) ?_)
   obtain⟨x7,hx7,h⟩:=af h
   refine kGd rfl aa hc6 (fi Tryz.underlying70 Tryz.sizeOf74 hx7) ?_
   refine kGd rfl aa hc6 (de qc dn) ?_
   refine kGd rfl aa hc6 (cw ty3) ?_
   refine kGd rfl aa hc6 (qInt rfl rfl rfl) (kPt rfl hc6 rfl (kMv rfl ?_))
   rcases bd h with⟨hc8,h⟩|⟨hc8,h⟩
   ·refine kGd rfl aa hc8 (hMvL rfl) (kGd rfl aa hc8 (hMvA rfl) ?_)
    obtain⟨x9,hx9,h⟩:=af h
    refine kGd rfl aa hc8 (fi Tryz.underlying70 Tryz.sizeOf74 hx9) ?_
    refine kGd rfl aa hc8 (de qc dn) ?_
    refine kGd rfl aa hc8 (cw ty3) ?_
    refine kGd rfl aa hc8 (qInt rfl rfl rfl) (kPt rfl hc8 rfl (kAs rfl ?_))
    exact⟨x9.Kind != 5,h,atOk⟩
   refine kSkT rfl aa hc8 (kSkT rfl aa hc8 (kSkT rfl aa hc8 (kSkT rfl aa hc8 (kSkT rfl aa hc8 (kSkT rfl aa hc8 (kPf rfl hc8 rfl (kAs rfl ?_)))))))
   exact⟨false,h,atOk⟩
  refine kSkT rfl aa hc6 (kSkT rfl aa hc6 (kSkT rfl aa hc6 (kSkT rfl aa hc6 (kSkT rfl aa hc6 (kSkT rfl aa hc6 (kPf rfl hc6 rfl (kMv rfl ?_)))))))
  have hc10:false=false:=rfl
  refine kSkT rfl aa hc10 (kSkT rfl aa hc10 (kSkT rfl aa hc10 (kSkT rfl aa hc10 (kSkT rfl aa hc10 (kSkT rfl aa hc10 (kPf rfl hc10 rfl (kAs rfl ?_)))))))
  exact⟨false,h,atOk⟩
 refine kSkT rfl aa hc4 (kSkT rfl aa hc4 (kSkT rfl aa hc4 (kSkT rfl aa hc4 (kSkT rfl aa hc4 (kSkT rfl aa hc4 (kSkT rfl aa hc4 (kPf rfl hc4 rfl (kMv rfl ?_))))))))
 have hc12:false=false:=rfl
 refine kSkT rfl aa hc12 (kSkT rfl aa hc12 (kSkT rfl aa hc12 (kSkT rfl aa hc12 (kSkT rfl aa hc12 (kSkT rfl aa hc12 (kPf rfl hc12 rfl (kMv rfl ?_)))))))
 have hc16:false=false:=rfl
 refine kSkT rfl aa hc16 (kSkT rfl aa hc16 (kSkT rfl aa hc16 (kSkT rfl aa hc16 (kSkT rfl aa hc16 (kSkT rfl aa hc16 (kPf rfl hc16 rfl (kAs rfl ?_)))))))
 exact⟨false,h,atOk⟩
theorem cb (x1:Int) (r:Ref12Wrong) (h:cf x1=some r):FnP Tryz.prog 53 [Pr.i64 x1] ((ac).val r):=by
 refine ep (rs:=[.cell 2 76]) Tryz.func53 rfl Tryz.ntmps53 Tryz.results53 (by decide) (fun s0=> ?_)
 unfold cf at h
 refine W_rs (a8 al76 fun b2=>W_rs (kMv rfl (kUn (j8 st76 ⟨(Ref12Wrong.mk x1 0),⟨_,rfl,rfl,fun j fd hj hf=>by match j,hj with| 0,h=>exact absurd rfl h| 1,_=>cases hf;rfl|_+2,_=>cases hf⟩,⟨(Ref12Wrong.mk x1 120),⟨_,rfl,rfl,fun j fd hj hf=>by match j,hj with| 0,_=>cases hf;rfl| 1,h=>exact absurd rfl h|_+2,_=>cases hf⟩,rfl⟩⟩) ?_)))
 refine ak 0 rfl rfl (Upd.refl _) rfl Tryz.sizeOf76 ?_
 obtain rfl:=osj h
 exact ax ⟨rfl,[(ac).val (Ref12Wrong.mk x1 120)],⟨yBox 0 ty76 aa,trivial⟩,aa⟩
theorem i5 (x1:List ApiToken) (x2:Int) (r:Bool) (h:gm x1 x2=some r):FnP Tryz.prog 54 [ap ah x1,Pr.i64 x2] (Pr.bool r):=by
 refine cm (rs:=[4]) Tryz.func54 rfl Tryz.ntmps54 ⟨by decide,Tryz.results54⟩ (by decide) (fun s0=> ?_)
 unfold gm at h
 refine W_rs (kAs rfl ?_)
 refine bj (fun e C=>∃(x5:Bool),ref12_name_j1 x5=some r/\At [(4,Pr.bool x5)] [] e C) ?_ ?_
 ·rintro e C ⟨x5,h,hat1⟩
  refine W_at hat1 ?_
  unfold ref12_name_j1 at h
  obtain rfl:=osj h
  exact ax ⟨rfl,aa⟩
 refine W_r (kMv rfl (kMvL rfl (kUn (mt rfl Tryz.underlying70) ?_)))
 refine kIn rfl rfl rfl (kMv rfl ?_)
 rcases bd h with⟨hc3,h⟩|⟨hc3,h⟩
 ·refine kGd rfl aa hc3 (hMvL rfl) (kGd rfl aa hc3 (hMvA rfl) ?_)
  obtain⟨x4,hx4,h⟩:=af h
  refine kGd rfl aa hc3 (fi Tryz.underlying70 Tryz.sizeOf74 hx4) ?_
  refine kGd rfl aa hc3 (de qc dn) ?_
  refine kGd rfl aa hc3 (cw ty3) ?_
  refine kGd rfl aa hc3 (qInt rfl rfl rfl) (kPt rfl hc3 rfl (kAs rfl ?_))
  exact⟨x4.Kind==1,h,atOk⟩
 refine kSkT rfl aa hc3 (kSkT rfl aa hc3 (kSkT rfl aa hc3 (kSkT rfl aa hc3 (kSkT rfl aa hc3 (kSkT rfl aa hc3 (kPf rfl hc3 rfl (kAs rfl ?_)))))))
 exact⟨false,h,atOk⟩
theorem ref12_end_ok (x1:List ApiToken) (x2 r:Int) (h:ref12_end x1 x2=some r):FnP Tryz.prog 85 [ap ah x1,Pr.i64 x2] (Pr.i64 r):=by
 refine cm (rs:=[4]) Tryz.func85 rfl Tryz.ntmps85 ⟨by decide,Tryz.results85⟩ (by decide) (fun s0=> ?_)
 unfold ref12_end at h
 refine W_rs (kAs rfl ?_)
 refine bj (fun e C=>∃(x3:ApiToken),∃(x4:ApiToken),ref12_end_j1 x3 x4=some r/\At [(4,Pr.i64 (w64 (x3.At+(x4.Text.length:Int))))] [] e C) ?_ ?_
 ·rintro e C ⟨x3,x4,h,hat1⟩
  refine W_at hat1 ?_
  unfold ref12_end_j1 at h
  obtain rfl:=osj h
  exact ax ⟨rfl,aa⟩
 refine ib 15 hmx (by kernel_rfl) (by kernel_rfl) ?_
 refine lUn (hMvL rfl) (lUn (hMvA rfl) (lUn (qInt rfl rfl rfl) ?_))
 obtain⟨x3,hx3,h⟩:=af h
 refine lUn (fi Tryz.underlying70 Tryz.sizeOf74 hx3) ?_
 refine lUn (de fld74_2 subApiToken_At) ?_
 refine lUn (cw ty3) ?_
 refine lUn (hMvL rfl) (lUn (hMvA rfl) (lUn (qInt rfl rfl rfl) ?_))
 obtain⟨x4,hx4,h⟩:=af h
 refine lUn (fi Tryz.underlying70 Tryz.sizeOf74 hx4) ?_
 refine lUn (de fld74_1 subApiToken_Text) ?_
 refine lUn (cw ty9) ?_
 refine lUn (ol rfl Tryz.underlying9) ?_
 refine lUn (qInt rfl rfl rfl) (lUn (hAsA rfl) ?_)
 exact⟨x3,x4,h,atOk⟩
theorem dq (x1:List ApiToken) (x2 x3 x4:Int) (x5:List ApiNode) (r:ApiNode) (h:dv x1 x2 x3 x4 x5=some r):FnP Tryz.prog 56 [ap ah x1,Pr.i64 x2,Pr.i64 x3,Pr.i64 x4,ap rApiNode x5] ((rApiNode).val r):=by
 refine ep (rs:=[.cell 10 48]) Tryz.func56 rfl Tryz.ntmps56 Tryz.results56 (by decide) (fun s0=> ?_)
 unfold dv at h
 refine W_rs (a8 al48 fun b6=> ?_)
 refine bj (fun e C=>∃(x7:ApiToken),∃(x8:Int),ref12_made_j1 x2 x5 x7 x8=some r/\At [(10,aj b6 0)] [Own.box b6 rApiNode (ApiNode.mk x2 [] [] 0 x7.At x8 (-1) (-1) x5)] e C) ?_ ?_
 ·rintro e C ⟨x7,x8,h,hat1⟩
  refine W_at hat1 ?_
  unfold ref12_made_j1 at h
  obtain rfl:=osj h
  exact ax ⟨rfl,[(rApiNode).val (ApiNode.mk x2 [] [] 0 x7.At x8 (-1) (-1) x5)],⟨yBox 0 ty48 aa,trivial⟩,aa⟩
 refine ib 11 hmx (by kernel_rfl) (by kernel_rfl) ?_
 refine lUn (hMvA rfl) (lUn (hMvL rfl) (lUn (hMvA rfl) ?_))
 obtain⟨x7,hx7,h⟩:=af h
 refine lUn (fi Tryz.underlying70 Tryz.sizeOf74 hx7) ?_
 refine lUn (de fld74_2 subApiToken_At) ?_
 refine lUn (cw ty3) ?_
 refine lUn (hMvL rfl) (lUn (hMvA rfl) ?_)
 obtain⟨x8,hx8,h⟩:=af h
 refine lUn (dl (ref12_end_ok x1 x4 _ hx8)) ?_
 refine lUn (hMvL rfl) (lUn (du au st48 ⟨(ApiNode.mk x2 [] [] 0 0 0 0 0 []),⟨_,rfl,rfl,fun j fd hj hf=>by match j,hj with| 0,h=>exact absurd rfl h| 1,_=>cases hf;rfl| 2,_=>cases hf;rfl| 3,_=>cases hf;rfl| 4,_=>cases hf;rfl| 5,_=>cases hf;rfl| 6,_=>cases hf;rfl| 7,_=>cases hf;rfl| 8,_=>cases hf;rfl|_+9,_=>cases hf⟩,⟨(ApiNode.mk x2 [] [] 0 x7.At 0 0 0 []),⟨_,rfl,rfl,fun j fd hj hf=>by match j,hj with| 0,_=>cases hf;rfl| 1,_=>cases hf;rfl| 2,_=>cases hf;rfl| 3,_=>cases hf;rfl| 4,h=>exact absurd rfl h| 5,_=>cases hf;rfl| 6,_=>cases hf;rfl| 7,_=>cases hf;rfl| 8,_=>cases hf;rfl|_+9,_=>cases hf⟩,⟨(ApiNode.mk x2 [] [] 0 x7.At x8 0 0 []),⟨_,rfl,rfl,fun j fd hj hf=>by match j,hj with| 0,_=>cases hf;rfl| 1,_=>cases hf;rfl| 2,_=>cases hf;rfl| 3,_=>cases hf;rfl| 4,_=>cases hf;rfl| 5,h=>exact absurd rfl h| 6,_=>cases hf;rfl| 7,_=>cases hf;rfl| 8,_=>cases hf;rfl|_+9,_=>cases hf⟩,⟨(ApiNode.mk x2 [] [] 0 x7.At x8 (-1) 0 []),⟨_,rfl,rfl,fun j fd hj hf=>by match j,hj with| 0,_=>cases hf;rfl| 1,_=>cases hf;rfl| 2,_=>cases hf;rfl| 3,_=>cases hf;rfl| 4,_=>cases hf;rfl| 5,_=>cases hf;rfl| 6,h=>exact absurd rfl h| 7,_=>cases hf;rfl| 8,_=>cases hf;rfl|_+9,_=>cases hf⟩,⟨(ApiNode.mk x2 [] [] 0 x7.At x8 (-1) (-1) []),⟨_,rfl,rfl,fun j fd hj hf=>by match j,hj with| 0,_=>cases hf;rfl| 1,_=>cases hf;rfl| 2,_=>cases hf;rfl| 3,_=>cases hf;rfl| 4,_=>cases hf;rfl| 5,_=>cases hf;rfl| 6,_=>cases hf;rfl| 7,h=>exact absurd rfl h| 8,_=>cases hf;rfl|_+9,_=>cases hf⟩,⟨(ApiNode.mk x2 [] [] 0 x7.At x8 (-1) (-1) x5),⟨_,rfl,rfl,fun j fd hj hf=>by match j,hj with| 0,_=>cases hf;rfl| 1,_=>cases hf;rfl| 2,_=>cases hf;rfl| 3,_=>cases hf;rfl| 4,_=>cases hf;rfl| 5,_=>cases hf;rfl| 6,_=>cases hf;rfl| 7,_=>cases hf;rfl| 8,h=>exact absurd rfl h|_+9,_=>cases hf⟩,rfl⟩⟩⟩⟩⟩⟩) ?_)
 refine ak 0 rfl rfl (Upd.refl _) rfl Tryz.sizeOf48 ?_
 exact⟨x7,x8,h,atOk⟩
theorem cu (r:Ref12Wrong) (h:da=some r):FnP Tryz.prog 57 [] ((ac).val r):=by
 refine ep (rs:=[.cell 0 76]) Tryz.func57 rfl Tryz.ntmps57 Tryz.results57 (by decide) (fun s0=> ?_)
 unfold da at h
 refine W_rs (a8 al76 fun b1=>W_rs (kUn (j8 st76 ⟨(Ref12Wrong.mk (-1) 0),⟨_,rfl,rfl,fun j fd hj hf=>by match j,hj with| 0,h=>exact absurd rfl h| 1,_=>cases hf;rfl|_+2,_=>cases hf⟩,rfl⟩) ?_))
 refine ak 0 rfl rfl (Upd.refl _) rfl Tryz.sizeOf76 ?_
 obtain rfl:=osj h
 exact ax ⟨rfl,[(ac).val (Ref12Wrong.mk (-1) 0)],⟨yBox 0 ty76 aa,trivial⟩,aa⟩
theorem ref12_kind_ok (x1:List ApiToken) (x2:Int) (r:Bool) (h:ref12_kind x1 x2=some r):FnP Tryz.prog 81 [ap ah x1,Pr.i64 x2] (Pr.bool r):=by
 refine cm (rs:=[4]) Tryz.func81 rfl Tryz.ntmps81 ⟨by decide,Tryz.results81⟩ (by decide) (fun s0=> ?_)
 unfold ref12_kind at h
 refine W_rs (kAs rfl ?_)
 refine bj (fun e C=>∃(x18:Bool),nc x18=some r/\At [(4,Pr.bool x18)] [] e C) ?_ ?_
 ·rintro e C ⟨x18,h,hat1⟩
  refine W_at hat1 ?_
  unfold nc at h
  obtain rfl:=osj h
  exact ax ⟨rfl,aa⟩
 refine W_r (kMvL rfl (kMv rfl (cg h (i5 x1 x2) rfl fun x3 _ h=>kMv rfl ?_)))
 rcases bd h with⟨hc4,h⟩|⟨hc4,h⟩
 ·refine kSkF rfl aa hc4 (kSkF rfl aa hc4 (kSkF rfl aa hc4 (kPt rfl hc4 rfl (kMv rfl ?_))))
  have hc12:true=true:=rfl
  refine kSkF rfl aa hc12 (kSkF rfl aa hc12 (kSkF rfl aa hc12 (kPt rfl hc12 rfl (kMv rfl ?_))))
  have hc16:true=true:=rfl
  refine kSkF rfl aa hc16 (kSkF rfl aa hc16 (kSkF rfl aa hc16 (kPt rfl hc16 rfl (kAs rfl ?_))))
  exact⟨true,h,atOk⟩
 refine kGd rfl aa hc4 (hMvL rfl) (kGd rfl aa hc4 (hMvA rfl) ?_)
 obtain⟨x5,hx5,h⟩:=af h
 refine kGd rfl aa hc4 (dl (bg x1 x2 ([105,110,116]:List UInt8) _ hx5)) ?_
 refine kPf rfl hc4 rfl (kMv rfl ?_)
 rcases bd h with⟨hc6,h⟩|⟨hc6,h⟩
 ·refine kSkF rfl aa hc6 (kSkF rfl aa hc6 (kSkF rfl aa hc6 (kPt rfl hc6 rfl (kMv rfl ?_))))
  have hc10:true=true:=rfl
  refine kSkF rfl aa hc10 (kSkF rfl aa hc10 (kSkF rfl aa hc10 (kPt rfl hc10 rfl (kAs rfl ?_))))
  exact⟨true,h,atOk⟩
 refine kGd rfl aa hc6 (hMvL rfl) (kGd rfl aa hc6 (hMvA rfl) ?_)
 obtain⟨x7,hx7,h⟩:=af h
 refine kGd rfl aa hc6 (dl (bg x1 x2 ([98,111,111,108,101,97,110]:List UInt8) _ hx7)) ?_
 refine kPf rfl hc6 rfl (kMv rfl ?_)
 rcases bd h with⟨hc8,h⟩|⟨hc8,h⟩
 ·refine kSkF rfl aa hc8 (kSkF rfl aa hc8 (kSkF rfl aa hc8 (kPt rfl hc8 rfl (kAs rfl ?_))))
  exact⟨true,h,atOk⟩
 refine kGd rfl aa hc8 (hMvL rfl) (kGd rfl aa hc8 (hMvA rfl) ?_)
 obtain⟨x9,hx9,h⟩:=af h
 refine kGd rfl aa hc8 (dl (bg x1 x2 ([118,111,105,100]:List UInt8) _ hx9)) ?_
 refine kPf rfl hc8 rfl (kAs rfl ?_)
 exact⟨x9,h,atOk⟩
theorem ref12_typed_ok (x1:List ApiToken) (x2:ApiNode) (x3:Int) (r:ApiNode) (h:o5 x1 x2 x3=some r):FnP Tryz.prog 84 [ap ah x1,(rApiNode).val x2,Pr.i64 x3] ((rApiNode).val r):=by
 refine ep (rs:=[.cell 6 48]) Tryz.func84 rfl Tryz.ntmps84 Tryz.results84 (by decide) (fun s0=> ?_)
 unfold o5 at h
 refine W_rs ?_
 refine rBox (R:=rApiNode) (a:=x2) rfl (fun b4=> ?_)
 refine a8 al48 fun b5=>W_rs (kMvL rfl (kMv rfl ?_))
 obtain⟨x6,hx6,h⟩:=af h
 refine kUn (fi Tryz.underlying70 Tryz.sizeOf74 hx6) ?_
 refine kUn (de fld74_1 subApiToken_Text) ?_
 refine kUn (cw ty9) ?_
 refine kUn (av fld48_2) ?_
 refine ak 0 rfl rfl updApiNode_Type rfl Tryz.sizeOf9 (W_rs (kMvL rfl (kMv rfl ?_)))
 obtain⟨x7,hx7,h⟩:=af h
 refine kUn (fi Tryz.underlying70 Tryz.sizeOf74 hx7) ?_
 refine kUn (de fld74_2 subApiToken_At) ?_
 refine kUn (cw ty3) ?_
 refine kUn (av fld48_7) ?_
 refine ak 0 rfl rfl updApiNode_TypeAt rfl Tryz.sizeOf3 (W_rs (kMvL rfl (kMv rfl (kIn rfl rfl rfl ?_))))
 obtain⟨x8,hx8,h⟩:=af h
 refine kUn (fi Tryz.underlying70 Tryz.sizeOf74 hx8) ?_
 refine kUn (de fld74_1 subApiToken_Text) ?_
 refine kUn (cw ty9) ?_
 refine kUn (av oo) ?_
 refine ak 0 rfl rfl jt rfl Tryz.sizeOf9 (W_rs (kMvL rfl (kMv rfl (kIn rfl rfl rfl ?_))))
 obtain⟨x9,hx9,h⟩:=af h
 refine kUn (fi Tryz.underlying70 Tryz.sizeOf74 hx9) ?_
 refine kUn (de fld74_2 subApiToken_At) ?_
 refine kUn (cw ty3) ?_
 refine kUn (av fld48_6) ?_
 refine ak 0 rfl rfl pl rfl Tryz.sizeOf3 (W_rs (kUn (bb 0 ty48 (Sub.refl _)) ?_))
 refine ak 1 rfl rfl (Upd.refl _) rfl Tryz.sizeOf48 ?_
 obtain rfl:=osj h
 exact ax ⟨rfl,[(rApiNode).val ({{{{x2 with Type_:=x6.Text} with TypeAt:=x7.At} with Text:=x8.Text} with At:=x9.At})],⟨yBox 1 ty48 aa,trivial⟩,aa⟩
theorem ref12_params_ok (x1:List ApiToken) (x2:Int) (r:(List ApiNode) × Int × Ref12Wrong) (h:ref12_params x1 x2=some r):FnC Tryz.prog 82 [ap ah x1,Pr.i64 x2] [] (fun q C'=>∃u0,q=ce [Pr.is u0,Pr.i64 r.2.1,(ac).val r.2.2]/\C'=[Own.vec u0 rApiNode r.1 48]):=by
 refine fnc_introR (rs:=[.tmp 4,.tmp 5,.cell 6 76]) Tryz.func82 rfl Tryz.ntmps82 Tryz.results82 (by decide) (fun s0=> ?_)
 unfold ref12_params at h
 refine W_rs (kAs rfl (kAs rfl (a8 al76 fun b3=>W_rs (kAs rfl (az (W_rs (kMvL rfl (kMv rfl (cg h (bg x1 x2 ([41]:List UInt8)) rfl fun x4 _ h=> ?_)))))))))
 refine a7 h rfl (fun _ h=> ?_) (fun _ h=> ?_)
 ·refine W_rs (kMv rfl (kMv rfl (kIn rfl rfl rfl (cg h (cu) rfl fun x6 _ h=>kAs rfl (kAs rfl (ak 0 rfl rfl (Upd.refl _) rfl Tryz.sizeOf76 ?_))))))
  refine W_nil [4] rApiNode 48 (fun v7=> ?_) ⟨rfl,trivial⟩
  obtain rfl:=osj h
  exact ax ⟨.inl rfl,[Pr.is v7,Pr.i64 (w64 (x2+1)),(ac).val x6],⟨yT aa,yT aa,yBox 0 ty76 aa,trivial⟩,_,Pick.of [1] rfl,v7,rfl,rfl⟩
 refine ar (a4 ?_)
 obtain⟨n1,hN1⟩:=bp h
 refine W_nil [7] rApiNode 48 (fun v36=> ?_) ⟨rfl,trivial⟩
 refine ew (fun m e C=>∃(x8:Int),∃(x10:List ApiNode),∃(v9:Value),ff (fun s=>pc x1 s.1 s.2) m (x8,x10)=some r/\At [(0,ap ah x1),(1,Pr.i64 x8),(6,aj b3 0),(7,Pr.is v9)] [Own.box b3 ac (Ref12Wrong.mk 0 0),Own.vec v9 rApiNode x10 48] e C) n1 ⟨x2,[],v36,hN1,⟨⟨aa,aa,aa,aa,trivial⟩,Pick.refl _⟩⟩ ?_
 rintro m e C ⟨x8,x10,v9,hN1,hatl1⟩
 refine W_at hatl1 ?_
 obtain⟨m1,w1l,rfl,h1l,hn1,ho1⟩:=bk hN1
 replace h1l:pc x1 x8 x10=some w1l:=h1l
 unfold pc at h1l
 refine a4 (az ?_)
 refine bj (fun e C=>∃(x17:Bool),k5 x8 x1 x10 x17=some w1l/\At [(0,ap ah x1),(1,Pr.i64 x8),(6,aj b3 0),(7,Pr.is v9),(23,Pr.bool x17)] [Own.box b3 ac (Ref12Wrong.mk 0 0),Own.vec v9 rApiNode x10 48] e C) ?_ ?_
 ·rintro e C ⟨x17,h1l,hat2⟩
  refine W_at hat2 ?_
  unfold k5 at h1l
  refine a7 h1l rfl (fun _ h1l=> ?_) (fun _ h1l=> ?_)
  ·refine W_rs (kMv rfl (cg h1l (cb x8) rfl fun x19 _ h1l=>kAs rfl (kAs rfl (ak 0 rfl rfl (Upd.refl _) rfl Tryz.sizeOf76 ?_))))
   have h:some ([],0,x19)=some r:=congrArg some (ho1 _ (Option.some.inj h1l).symm)
   refine W_nil [4] rApiNode 48 (fun v20=> ?_) ⟨rfl,trivial⟩
   obtain rfl:=osj h
   exact ax ⟨.inl rfl,[Pr.is v20,Pr.i64 0,(ac).val x19],⟨yT aa,yT aa,yBox 0 ty76 aa,trivial⟩,_,Pick.of [2] rfl,v20,rfl,rfl⟩
  refine ar (az (W_rs (kMvL rfl (kMv rfl (kIn rfl rfl rfl (cg h1l (i5 x1 (w64 (x8+1))) rfl fun x21 _ h1l=>kNo rfl ?_))))))
  refine a7 h1l rfl (fun _ h1l=> ?_) (fun _ h1l=> ?_)
  ·refine W_rs (kMv rfl (kIn rfl rfl rfl (cg h1l (cb (w64 (x8+1))) rfl fun x23 _ h1l=>kAs rfl (kAs rfl (ak 0 rfl rfl (Upd.refl _) rfl Tryz.sizeOf76 ?_)))))
   have h:some ([],0,x23)=some r:=congrArg some (ho1 _ (Option.some.inj h1l).symm)
   refine W_nil [4] rApiNode 48 (fun v24=> ?_) ⟨rfl,trivial⟩
   obtain rfl:=osj h
   exact ax ⟨.inl rfl,[Pr.is v24,Pr.i64 0,(ac).val x23],⟨yT aa,yT aa,yBox 0 ty76 aa,trivial⟩,_,Pick.of [2] rfl,v24,rfl,rfl⟩
  refine ar (W_rs (kMv rfl (kMvL rfl (kMvL rfl (kMv rfl (kMv rfl (kIn rfl rfl rfl ?_)))))))
  obtain⟨x25,hx25,h1l⟩:=af h1l
  refine kUn (qCall' (dq x1 4 x8 (w64 (x8+2)) [] _ hx25) ⟨aa,aa,aa,aa,cv _,trivial⟩) ?_
  refine kMv rfl (cg h1l (ref12_typed_ok x1 x25 x8) rfl fun x26 _ h1l=> ?_)
  refine kUn (bt (R:=rApiNode) (a:=x26) el44 (Nat.le_of_ble_eq_true rfl)) ?_
  obtain⟨x27,hx27,h1l⟩:=af h1l
  refine fg 1 el44 hx27 (fun v28=> ?_)
  refine kAs rfl (az (W_rs (kMvL rfl (kMv rfl (kIn rfl rfl rfl (cg h1l (bg x1 (w64 (x8+2)) ([41]:List UInt8)) rfl fun x29 _ h1l=> ?_))))))
  refine a7 h1l rfl (fun _ h1l=> ?_) (fun _ h1l=> ?_)
  ·refine W_rs (kMv rfl (kMv rfl (kIn rfl rfl rfl (cg h1l (cu) rfl fun x31 _ h1l=>kAs rfl (kAs rfl (ak 0 rfl rfl (Upd.refl _) rfl Tryz.sizeOf76 ?_))))))
   have h:some (x27,w64 (x8+3),x31)=some r:=congrArg some (ho1 _ (Option.some.inj h1l).symm)
   obtain rfl:=osj h
   exact ax ⟨.inl rfl,[Pr.is v28,Pr.i64 (w64 (x8+3)),(ac).val x31],⟨yT aa,yT aa,yBox 0 ty76 aa,trivial⟩,_,Pick.of [1] rfl,v28,rfl,rfl⟩
  refine ar (az (W_rs (kMvL rfl (kMv rfl (kIn rfl rfl rfl (cg h1l (bg x1 (w64 (x8+2)) ([44]:List UInt8)) rfl fun x32 _ h1l=>kNo rfl ?_))))))
  refine a7 h1l rfl (fun _ h1l=> ?_) (fun _ h1l=> ?_)
  ·refine W_rs (kMv rfl (kIn rfl rfl rfl (cg h1l (cb (w64 (x8+2))) rfl fun x34 _ h1l=>kAs rfl (kAs rfl (ak 0 rfl rfl (Upd.refl _) rfl Tryz.sizeOf76 ?_)))))
   have h:some ([],0,x34)=some r:=congrArg some (ho1 _ (Option.some.inj h1l).symm)
   refine W_nil [4] rApiNode 48 (fun v35=> ?_) ⟨rfl,trivial⟩
   obtain rfl:=osj h
   exact ax ⟨.inl rfl,[Pr.is v35,Pr.i64 0,(ac).val x34],⟨yT aa,yT aa,yBox 0 ty76 aa,trivial⟩,_,Pick.of [2] rfl,v35,rfl,rfl⟩
  refine ar (W_r (kMv rfl (kIn rfl rfl rfl (kAs rfl ?_))))
  exact⟨m1,Nat.lt_succ_self _,w64 (x8+3),x27,v28,hn1 _ (Option.some.inj h1l).symm,atOk⟩
 refine W_r (kMvL rfl (kMv rfl (cg h1l (ref12_kind_ok x1 x8) rfl fun x14 _ h1l=>kNo rfl (kMv rfl ?_))))
 rcases bd h1l with⟨hc15,h1l⟩|⟨hc15,h1l⟩
 ·refine kSkF rfl aa hc15 (kSkF rfl aa hc15 (kSkF rfl aa hc15 (kPt rfl hc15 rfl ?_)))
  exact⟨true,h1l,atOk⟩
 refine kGd rfl aa hc15 (hMvL rfl) (kGd rfl aa hc15 (hMvA rfl) ?_)
 obtain⟨x16,hx16,h1l⟩:=af h1l
 refine kGd rfl aa hc15 (dl (bg x1 x8 ([118,111,105,100]:List UInt8) _ hx16)) ?_
 refine kPf rfl hc15 rfl ?_
 exact⟨x16,h1l,atOk⟩
theorem ref12_local_ok (x1:List ApiToken) (x2:Int) (r:Bool) (h:ref12_local x1 x2=some r):FnP Tryz.prog 97 [ap ah x1,Pr.i64 x2] (Pr.bool r):=by
 refine cm (rs:=[4]) Tryz.func97 rfl Tryz.ntmps97 ⟨by decide,Tryz.results97⟩ (by decide) (fun s0=> ?_)
 unfold ref12_local at h
 refine W_rs (kAs rfl ?_)
 refine bj (fun e C=>∃(x26:Bool),kj x26=some r/\At [(4,Pr.bool x26)] [] e C) ?_ ?_
 ·rintro e C ⟨x26,h,hat1⟩
  refine W_at hat1 ?_
  unfold kj at h
  obtain rfl:=osj h
  exact ax ⟨rfl,aa⟩
 refine W_r (kMvL rfl (kMv rfl (cg h (bg x1 x2 ([105,110,116]:List UInt8)) rfl fun x3 _ h=>kMv rfl ?_)))
 rcases bd h with⟨hc4,h⟩|⟨hc4,h⟩
 ·refine kSkF rfl aa hc4 (kSkF rfl aa hc4 (kSkF rfl aa hc4 (kPt rfl hc4 rfl (kMv rfl ?_))))
  have hc16:true=true:=rfl
  refine kSkF rfl aa hc16 (kSkF rfl aa hc16 (kSkF rfl aa hc16 (kPt rfl hc16 rfl (kMv rfl ?_))))
  have hc22:true=true:=rfl
  refine kSkF rfl aa hc22 (kSkF rfl aa hc22 (kSkF rfl aa hc22 (kSkF rfl aa hc22 (kSkU rfl aa (kSkU rfl aa (kSkU rfl aa (kSkU rfl aa (kSkF rfl aa hc22 (kPt rfl hc22 rfl (kAs rfl ?_))))))))))
  exact⟨true,h,atOk⟩
 refine kGd rfl aa hc4 (hMvL rfl) (kGd rfl aa hc4 (hMvA rfl) ?_)
 obtain⟨x5,hx5,h⟩:=af h
 refine kGd rfl aa hc4 (dl (bg x1 x2 ([98,111,111,108,101,97,110]:List UInt8) _ hx5)) ?_
 refine kPf rfl hc4 rfl (kMv rfl ?_)
 rcases bd h with⟨hc6,h⟩|⟨hc6,h⟩
 ·refine kSkF rfl aa hc6 (kSkF rfl aa hc6 (kSkF rfl aa hc6 (kPt rfl hc6 rfl (kMv rfl ?_))))
  have hc12:true=true:=rfl
  refine kSkF rfl aa hc12 (kSkF rfl aa hc12 (kSkF rfl aa hc12 (kSkF rfl aa hc12 (kSkU rfl aa (kSkU rfl aa (kSkU rfl aa (kSkU rfl aa (kSkF rfl aa hc12 (kPt rfl hc12 rfl (kAs rfl ?_))))))))))
  exact⟨true,h,atOk⟩
 refine kGd rfl aa hc6 (hMvL rfl) (kGd rfl aa hc6 (hMvA rfl) ?_)
 obtain⟨x7,hx7,h⟩:=af h
 refine kGd rfl aa hc6 (dl (bg x1 x2 ([118,111,105,100]:List UInt8) _ hx7)) ?_
 refine kPf rfl hc6 rfl (kMv rfl ?_)
 rcases bd h with⟨hc8,h⟩|⟨hc8,h⟩
 ·refine kSkF rfl aa hc8 (kSkF rfl aa hc8 (kSkF rfl aa hc8 (kSkF rfl aa hc8 (kSkU rfl aa (kSkU rfl aa (kSkU rfl aa (kSkU rfl aa (kSkF rfl aa hc8 (kPt rfl hc8 rfl (kAs rfl ?_))))))))))
  exact⟨true,h,atOk⟩
 refine kGd rfl aa hc8 (hMvL rfl) (kGd rfl aa hc8 (hMvA rfl) ?_)
 obtain⟨x9,hx9,h⟩:=af h
 refine kGd rfl aa hc8 (dl (i5 x1 x2 _ hx9)) ?_
 refine kGd rfl aa hc8 (hMvA rfl) ?_
 rcases bd h with⟨hc10,h⟩|⟨hc10,h⟩
 ·refine kGd rfl aa hc10 (hMvL rfl) (kGd rfl aa hc10 (hMvA rfl) (kGd rfl aa hc10 (qInt rfl rfl rfl) ?_))
  obtain⟨x11,hx11,h⟩:=af h
  refine kGd rfl aa hc10 (dl (i5 x1 (w64 (x2+1)) _ hx11)) ?_
  refine kGd rfl aa hc8 (hPt rfl hc10 rfl) (kPf rfl hc8 rfl (kAs rfl ?_))
  exact⟨x11,h,atOk⟩
 refine kSkT rfl aa hc10 (kSkT rfl aa hc10 (kSkT rfl aa hc10 (kSkT rfl aa hc10 (kGd rfl aa hc8 (hPf rfl hc10 rfl) (kPf rfl hc8 rfl (kAs rfl ?_))))))
 exact⟨false,h,atOk⟩
end Go.Proofs.YteablckbgpogiaaGreatDoor
