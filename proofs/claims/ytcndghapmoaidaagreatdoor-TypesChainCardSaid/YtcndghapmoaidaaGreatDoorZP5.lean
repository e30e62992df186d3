/- The code comes to what these functions say (printed by wip/gen/gen.py). -/
import Derived.Test.YtcndghapmoaidaaGreatDoorZX
import Derived.Test.YtcndghapmoaidaaGreatDoorZP4
import Derived.Test.YtcndghapmoaidaaGreatDoorZT
set_option linter.unusedSimpArgs false
set_option linter.unusedVariables false
set_option linter.unusedSectionVars false
set_option linter.unusedSectionVars false
set_option maxRecDepth 100000
set_option maxHeartbeats 4000000
namespace Go.Proofs.YtcndghapmoaidaaGreatDoor
open Go Go.Cn
attribute [local irreducible] ec aq
theorem ref15_Table_ok (x1:List (List ApiNode)) (r:(List ApiEntity) × ApiMistake) (h:ref15_Table x1=some r):FnP Tryz.prog 20 [aq (ba ab) x1] (bk [aq af r.1,(ak).val r.2]):=by
  refine c4 (rs:=[.tmp 2,.cell 3 30]) Tryz.func20 rfl Tryz.ntmps20 Tryz.results20 (by decide) (fun s0=> ?_)
  unfold ref15_Table at h
  refine W_rs (kAs rfl (bq al30 fun b2=>W_rs (kAs rfl (a8 (W_rs (kAs rfl (az ?_)))))))
  obtain⟨z2l,hz2,h⟩:=ah h
  obtain⟨n2,hN2⟩:=bp hz2
  refine cq 0 (fun e C=>∃(x5:List ApiEntity),∃(v3:Value),ref15_Table_k1 x5=some r/\At [(3,am b2 0),(4,Pr.is v3)] [Own.box b2 ak (ApiMistake.mk 0 0 0),Own.vec v3 af x5 49] e C) ?_ ?_
  · rintro e C ⟨x5,v3,h,hat1⟩
    refine W_at hat1 ?_
    unfold ref15_Table_k1 at h
    refine W_rs (kMv rfl (kUn (fv st30 rfl) ?_))
    refine kAs rfl (av 0 rfl rfl (Upd.refl _) rfl Tryz.sizeOf30 ?_)
    refine W_rel 1 [2] ?_ rfl ⟨rfl,trivial⟩
    obtain rfl:=osj h
    exact bc ⟨rfl,[aq af x5,(ak).val (ApiMistake.mk 0 0 0)],⟨yT aa,yBox 0 ty30 aa,trivial⟩,aa⟩
  refine W_nil [4] af 49 (fun v56=> ?_) ⟨rfl,trivial⟩
  refine c8 (fun m e C=>∃(x4:Int),∃(x5:List ApiEntity),∃(v3:Value),dj (fun s=>pg x1 s.1 s.2) m (x4,x5)=some z2l/\At [(0,aq (ba ab) x1),(3,am b2 0),(4,Pr.is v3),(5,Pr.i64 x4)] [Own.box b2 ak (ApiMistake.mk 0 0 0),Own.vec v3 af x5 49] e C) n2 ⟨0,[],v56,hN2,⟨⟨aa,aa,aa,aa,trivial⟩,Pick.refl _⟩⟩ ?_
  rintro m e C ⟨x4,x5,v3,hN2,hatl2⟩
  refine W_at hatl2 ?_
  obtain⟨m2,w2l,rfl,h2l,hn2,ho2⟩:=bj hN2
  replace h2l:pg x1 x4 x5=some w2l:=h2l
  unfold pg at h2l
  refine a8 (W_rs (kMv rfl (kMvL rfl (kUn (iz rfl Tryz.underlying24) ?_))))
  refine kIn rfl rfl rfl ?_
  refine a5 h2l rfl (fun _ h2l=> ?_) (fun _ h2l=> ?_)
  · refine ax (a8 (az (W_rs (kAs rfl (az ?_)))))
    obtain⟨z4l,hz4,h2l⟩:=ah h2l
    obtain⟨n4,hN4⟩:=bp hz4
    refine cq 2 (fun e C=>∃(x12:List ApiEntity),∃(v10:Value),ref15_Table_k3 x4 x12=some w2l/\At [(0,aq (ba ab) x1),(3,am b2 0),(4,Pr.is v10),(5,Pr.i64 x4)] [Own.box b2 ak (ApiMistake.mk 0 0 0),Own.vec v10 af x12 49] e C) ?_ ?_
    · rintro e C ⟨x12,v10,h2l,hat3⟩
      refine W_at hat3 ?_
      unfold ref15_Table_k3 at h2l
      refine W_r (kMv rfl (kIn rfl rfl rfl (kAs rfl ?_)))
      exact⟨m2,Nat.lt_succ_self _,w64 (x4+1),x12,v10,hn2 _ (Option.some.inj h2l).symm,atOk⟩
    refine c8 (fun m e C=>∃(x11:Int),∃(x12:List ApiEntity),∃(v10:Value),dj (fun s=>mf x1 x4 s.1 s.2) m (x11,x12)=some z4l/\At [(0,aq (ba ab) x1),(3,am b2 0),(4,Pr.is v10),(5,Pr.i64 x4),(6,Pr.i64 x11)] [Own.box b2 ak (ApiMistake.mk 0 0 0),Own.vec v10 af x12 49] e C) n4 ⟨0,x5,v3,hN4,⟨⟨aa,aa,aa,aa,aa,trivial⟩,Pick.refl _⟩⟩ ?_
    rintro m e C ⟨x11,x12,v10,hN4,hatl4⟩
    refine W_at hatl4 ?_
    obtain⟨m4,w4l,rfl,h4l,hn4,ho4⟩:=bj hN4
    replace h4l:mf x1 x4 x11 x12=some w4l:=h4l
    unfold mf at h4l
    refine a8 (W_rs (kMv rfl (kMvL rfl (kMv rfl ?_))))
    obtain⟨x16,hx16,h4l⟩:=ah h4l
    refine kUn (dg Tryz.underlying24 Tryz.sizeOf53 hx16) ?_
    refine kUn (cf ty53) ?_
    refine kUn (iz rfl Tryz.underlying53) ?_
    refine kIn rfl rfl rfl ?_
    refine a5 h4l rfl (fun _ h4l=> ?_) (fun _ h4l=> ?_)
    · refine ax ?_
      refine bh (fun e C=>∃(x55:List ApiEntity),∃(x19:ApiNode),∃(v54:Value),∃(b20:Nat),ph x11 x55 x19=some w4l/\At [(0,aq (ba ab) x1),(3,am b2 0),(4,Pr.is v54),(5,Pr.i64 x4),(6,Pr.i64 x11)] [Own.box b2 ak (ApiMistake.mk 0 0 0),Own.vec v54 af x55 49,Own.box b20 ab x19] e C) ?_ ?_
      · rintro e C ⟨x55,x19,v54,b20,h4l,hat5⟩
        refine W_at hat5 ?_
        unfold ph at h4l
        refine W_r (kMv rfl (kIn rfl rfl rfl (kAs rfl ?_)))
        exact⟨m4,Nat.lt_succ_self _,w64 (x11+1),x55,v54,hn4 _ (Option.some.inj h4l).symm,⟨⟨aa,aa,aa,aa,aa,trivial⟩,Pick.of [0,1] rfl⟩⟩
      refine az (W_rs (kMvL rfl (kMv rfl ?_)))
      obtain⟨x18,hx18,h4l⟩:=ah h4l
      refine kUn (dg Tryz.underlying24 Tryz.sizeOf53 hx18) ?_
      refine kUn (cf ty53) ?_
      refine kMv rfl ?_
      obtain⟨x19,hx19,h4l⟩:=ah h4l
      refine kUn (dg Tryz.underlying53 Tryz.sizeOf64 hx19) ?_
      refine kUn (cf ty64) ?_
      refine bq al64 fun b20=>av 2 rfl rfl (Upd.refl _) rfl Tryz.sizeOf64 (a8 (W_rs (kUn (ai dr) ?_)))
      refine kUn (ap 2 ty3 bg) ?_
      refine kIn rfl rfl rfl ?_
      refine a5 h4l rfl (fun _ h4l=> ?_) (fun _ h4l=> ?_)
      · refine c6 ?_
        exact⟨x12,x19,v10,b20,h4l,atOk⟩
      refine ax (W_rs (kMv rfl (kUn (ai ef) ?_)))
      refine kUn (ap 2 ty9 bw) ?_
      refine kUn (ai ef) ?_
      refine kUn (ap 2 ty9 bw) ?_
      refine kUn (ai r4) ?_
      refine kUn (ap 2 ty9 dz) ?_
      refine kMv rfl (kUn (ai my) ?_)
      refine kUn (ap 2 ty3 ek) ?_
      refine kUn (fv st49 ⟨(ApiEntity.mk 1 [] [] [] [] false [] 0 0),⟨_,rfl,rfl,fun j fd hj hf=>by match j,hj with| 0,h=>exact absurd rfl h| 1,_=>cases hf;rfl| 2,_=>cases hf;rfl| 3,_=>cases hf;rfl| 4,_=>cases hf;rfl| 5,_=>cases hf;rfl| 6,_=>cases hf;rfl| 7,_=>cases hf;rfl| 8,_=>cases hf;rfl|_+9,_=>cases hf⟩,⟨(ApiEntity.mk 1 x19.Text [] [] [] false [] 0 0),⟨_,rfl,rfl,fun j fd hj hf=>by match j,hj with| 0,_=>cases hf;rfl| 1,h=>exact absurd rfl h| 2,_=>cases hf;rfl| 3,_=>cases hf;rfl| 4,_=>cases hf;rfl| 5,_=>cases hf;rfl| 6,_=>cases hf;rfl| 7,_=>cases hf;rfl| 8,_=>cases hf;rfl|_+9,_=>cases hf⟩,⟨(ApiEntity.mk 1 x19.Text x19.Text [] [] false [] 0 0),⟨_,rfl,rfl,fun j fd hj hf=>by match j,hj with| 0,_=>cases hf;rfl| 1,_=>cases hf;rfl| 2,h=>exact absurd rfl h| 3,_=>cases hf;rfl| 4,_=>cases hf;rfl| 5,_=>cases hf;rfl| 6,_=>cases hf;rfl| 7,_=>cases hf;rfl| 8,_=>cases hf;rfl|_+9,_=>cases hf⟩,⟨(ApiEntity.mk 1 x19.Text x19.Text [] x19.Type_ false [] 0 0),⟨_,rfl,rfl,fun j fd hj hf=>by match j,hj with| 0,_=>cases hf;rfl| 1,_=>cases hf;rfl| 2,_=>cases hf;rfl| 3,_=>cases hf;rfl| 4,h=>exact absurd rfl h| 5,_=>cases hf;rfl| 6,_=>cases hf;rfl| 7,_=>cases hf;rfl| 8,_=>cases hf;rfl|_+9,_=>cases hf⟩,⟨(ApiEntity.mk 1 x19.Text x19.Text [] x19.Type_ false [] x4 0),⟨_,rfl,rfl,fun j fd hj hf=>by match j,hj with| 0,_=>cases hf;rfl| 1,_=>cases hf;rfl| 2,_=>cases hf;rfl| 3,_=>cases hf;rfl| 4,_=>cases hf;rfl| 5,_=>cases hf;rfl| 6,_=>cases hf;rfl| 7,h=>exact absurd rfl h| 8,_=>cases hf;rfl|_+9,_=>cases hf⟩,⟨(ApiEntity.mk 1 x19.Text x19.Text [] x19.Type_ false [] x4 x19.At),⟨_,rfl,rfl,fun j fd hj hf=>by match j,hj with| 0,_=>cases hf;rfl| 1,_=>cases hf;rfl| 2,_=>cases hf;rfl| 3,_=>cases hf;rfl| 4,_=>cases hf;rfl| 5,_=>cases hf;rfl| 6,_=>cases hf;rfl| 7,_=>cases hf;rfl| 8,h=>exact absurd rfl h|_+9,_=>cases hf⟩,rfl⟩⟩⟩⟩⟩⟩) ?_
      refine kUn (cl (R:=af) (a:=(ApiEntity.mk 1 x19.Text x19.Text [] x19.Type_ false [] x4 x19.At)) el38 (Nat.le_of_ble_eq_true rfl)) ?_
      obtain⟨x22,hx22,h4l⟩:=ah h4l
      refine ev 1 el38 hx22 (fun v23=> ?_)
      refine kAs rfl (a8 (W_rs (kAs rfl (az ?_))))
      obtain⟨z8l,hz8,h4l⟩:=ah h4l
      obtain⟨n8,hN8⟩:=bp hz8
      refine cq 4 (fun e C=>∃(x26:List ApiEntity),∃(v24:Value),ref15_Table_k7 x11 x19 x26=some w4l/\At [(0,aq (ba ab) x1),(3,am b2 0),(4,Pr.is v24),(5,Pr.i64 x4),(6,Pr.i64 x11)] [Own.box b2 ak (ApiMistake.mk 0 0 0),Own.vec v24 af x26 49,Own.box b20 ab x19] e C) ?_ ?_
      · rintro e C ⟨x26,v24,h4l,hat7⟩
        refine W_at hat7 ?_
        unfold ref15_Table_k7 at h4l
        refine W_rs (kMv rfl ?_)
        obtain⟨x50,hx50,h4l⟩:=ah h4l
        refine kUn (qCallB 1 (ref15_twice_ok x26 _ hx50) ⟨.inr ⟨aa,rfl⟩,trivial⟩ (fun _ _ _ h=>h)) ?_
        refine kAs rfl (W_rs (kMv rfl (kIn rfl rfl rfl ?_)))
        refine a5 h4l rfl (fun _ h4l=> ?_) (fun _ h4l=> ?_)
        · refine bh (fun e C=>∃(x52:ApiEntity),∃(x53:ApiEntity),ref15_Table_j6 x52 x53=some w4l/\At [(2,Pr.is (.slice none 0 0)),(3,am b2 0)] [Own.box b2 ak (ApiMistake.mk 150 x52.File x53.At),Own.box b20 ab x19] e C) ?_ ?_
          · rintro e C ⟨x52,x53,h4l,hat6⟩
            refine W_at hat6 ?_
            unfold ref15_Table_j6 at h4l
            obtain rfl:=ho4 _ (Option.some.inj h4l).symm
            replace h2l:some (.inr (.done ([],(ApiMistake.mk 150 x52.File x53.At))))=some w2l:=h2l
            obtain rfl:=ho2 _ (Option.some.inj h2l).symm
            replace h:some ([],(ApiMistake.mk 150 x52.File x53.At))=some r:=h
            obtain rfl:=osj h
            exact bc ⟨rfl,[aq af [],(ak).val (ApiMistake.mk 150 x52.File x53.At)],⟨yT (c7 _),yBox 0 ty30 aa,trivial⟩,aa⟩
          refine eo 12 hmx (by kernel_rfl) (by kernel_rfl) ?_
          refine lUn (hMvA rfl) (lUn (hMvA rfl) ?_)
          obtain⟨x52,hx52,h4l⟩:=ah h4l
          refine lUn (u1 1 (R:=af) (l:=x26) Tryz.underlying38 Tryz.sizeOf49 hx52) ?_
          refine lUn (qFieldV fld49_7) ?_
          refine lUn (un (R:=af) (R':=Rp.int .i64) (l:=x26) (a:=x52) (o:=7) 1 ty3 subApiEntity_File (Nat.le_of_ble_eq_true rfl) hx52 rfl) ?_
          refine lUn (hMvA rfl) (lUn (hMvA rfl) ?_)
          obtain⟨x53,hx53,h4l⟩:=ah h4l
          refine lUn (u1 1 (R:=af) (l:=x26) Tryz.underlying38 Tryz.sizeOf49 hx53) ?_
          refine lUn (qFieldV fld49_8) ?_
          refine lUn (un (R:=af) (R':=Rp.int .i64) (l:=x26) (a:=x53) (o:=8) 1 ty3 subApiEntity_At (Nat.le_of_ble_eq_true rfl) hx53 rfl) ?_
          refine lUn (fv st30 ⟨(ApiMistake.mk 150 0 0),⟨_,rfl,rfl,fun j fd hj hf=>by match j,hj with| 0,h=>exact absurd rfl h| 1,_=>cases hf;rfl| 2,_=>cases hf;rfl|_+3,_=>cases hf⟩,⟨(ApiMistake.mk 150 x52.File 0),⟨_,rfl,rfl,fun j fd hj hf=>by match j,hj with| 0,_=>cases hf;rfl| 1,h=>exact absurd rfl h| 2,_=>cases hf;rfl|_+3,_=>cases hf⟩,⟨(ApiMistake.mk 150 x52.File x53.At),⟨_,rfl,rfl,fun j fd hj hf=>by match j,hj with| 0,_=>cases hf;rfl| 1,_=>cases hf;rfl| 2,h=>exact absurd rfl h|_+3,_=>cases hf⟩,rfl⟩⟩⟩) ?_
          refine lUn (hAsA rfl) (av 0 rfl rfl (Upd.refl _) rfl Tryz.sizeOf30 ?_)
          exact⟨x52,x53,h4l,⟨⟨aa,aa,trivial⟩,Pick.of [0,2] rfl⟩⟩
        refine ax ?_
        exact⟨x26,x19,v24,b20,h4l,atOk⟩
      refine c8 (fun m e C=>∃(x25:Int),∃(x26:List ApiEntity),∃(v24:Value),dj (fun s=>md x19 x4 s.1 s.2) m (x25,x26)=some z8l/\At [(0,aq (ba ab) x1),(3,am b2 0),(4,Pr.is v24),(5,Pr.i64 x4),(6,Pr.i64 x11),(7,am b20 0),(8,Pr.i64 x25)] [Own.box b2 ak (ApiMistake.mk 0 0 0),Own.vec v24 af x26 49,Own.box b20 ab x19] e C) n8 ⟨0,x22,v23,hN8,⟨⟨aa,aa,aa,aa,aa,aa,aa,trivial⟩,Pick.refl _⟩⟩ ?_
      rintro m e C ⟨x25,x26,v24,hN8,hatl8⟩
      refine W_at hatl8 ?_
      obtain⟨m8,w8l,rfl,h8l,hn8,ho8⟩:=bj hN8
      replace h8l:md x19 x4 x25 x26=some w8l:=h8l
      unfold md at h8l
      refine a8 (W_rs (kMv rfl (kUn (ai ee) ?_)))
      refine kUn (ap 2 ty53 bl) ?_
      refine kUn (iz rfl Tryz.underlying53) ?_
      refine kIn rfl rfl rfl ?_
      refine a5 h8l rfl (fun _ h8l=> ?_) (fun _ h8l=> ?_)
      · refine ax ?_
        refine bh (fun e C=>∃(x49:List ApiEntity),∃(x31:ApiNode),∃(v48:Value),∃(b32:Nat),mg x25 x49 x31=some w8l/\At [(0,aq (ba ab) x1),(3,am b2 0),(4,Pr.is v48),(5,Pr.i64 x4),(6,Pr.i64 x11),(7,am b20 0),(8,Pr.i64 x25)] [Own.box b2 ak (ApiMistake.mk 0 0 0),Own.vec v48 af x49 49,Own.box b20 ab x19,Own.box b32 ab x31] e C) ?_ ?_
        · rintro e C ⟨x49,x31,v48,b32,h8l,hat9⟩
          refine W_at hat9 ?_
          unfold mg at h8l
          refine W_r (kMv rfl (kIn rfl rfl rfl (kAs rfl ?_)))
          exact⟨m8,Nat.lt_succ_self _,w64 (x25+1),x49,v48,hn8 _ (Option.some.inj h8l).symm,⟨⟨aa,aa,aa,aa,aa,aa,aa,trivial⟩,Pick.of [0,1,2] rfl⟩⟩
        refine az (W_rs (kUn (ai ee) ?_))
        refine kUn (ap 2 ty53 bl) ?_
        refine kMv rfl ?_
        obtain⟨x31,hx31,h8l⟩:=ah h8l
        refine kUn (dg Tryz.underlying53 Tryz.sizeOf64 hx31) ?_
        refine kUn (cf ty64) ?_
        refine bq al64 fun b32=>av 3 rfl rfl (Upd.refl _) rfl Tryz.sizeOf64 (a8 ?_)
        refine bh (fun e C=>∃(x34:Bool),ng x25 x26 x31 x19 x4 x34=some w8l/\At [(0,aq (ba ab) x1),(3,am b2 0),(4,Pr.is v24),(5,Pr.i64 x4),(6,Pr.i64 x11),(7,am b20 0),(8,Pr.i64 x25),(9,am b32 0),(71,Pr.bool x34)] [Own.box b2 ak (ApiMistake.mk 0 0 0),Own.vec v24 af x26 49,Own.box b20 ab x19,Own.box b32 ab x31] e C) ?_ ?_
        · rintro e C ⟨x34,h8l,hat12⟩
          refine W_at hat12 ?_
          unfold ng at h8l
          refine a5 h8l rfl (fun _ h8l=> ?_) (fun _ h8l=> ?_)
          · refine c6 ?_
            exact⟨x26,x31,v24,b32,h8l,atOk⟩
          refine ax (W_rs (kMv rfl (kUn (ai ef) ?_)))
          refine kUn (ap 2 ty9 bw) ?_
          refine kMv rfl (kUn (ap 3 ty64 (Sub.refl _)) ?_)
          refine cm h8l (ref15_member_ok x19.Text x4 x31) rfl fun x36 _ h8l=> ?_
          obtain⟨x37,hx37,h8l⟩:=ah h8l
          refine ev 1 el38 hx37 (fun v38=> ?_)
          refine kAs rfl (a8 (W_rs (kMv rfl ?_)))
          obtain⟨x39,hx39,h8l⟩:=ah h8l
          refine kUn (qCallB 1 (ref15_twice_ok x37 _ hx39) ⟨.inr ⟨aa,rfl⟩,trivial⟩ (fun _ _ _ h=>h)) ?_
          refine kIn rfl rfl rfl ?_
          refine a5 h8l rfl (fun _ h8l=> ?_) (fun _ h8l=> ?_)
          · refine c6 ?_
            exact⟨x37,x31,v38,b32,h8l,atOk⟩
          refine ax (W_rs (kUn (ap 3 ty64 (Sub.refl _)) ?_))
          obtain⟨⟨x41,x42,x43⟩,hx41,h8l⟩:=ah h8l
          refine kUn (qCall' (ref15_again_ok x31 [] _ hx41) ⟨aa,c7 _,trivial⟩) ?_
          refine kUn (hMv (out:=bk [(ab).val x41,Pr.bool x42,aq a6 x43]) rfl) (kUn au ?_)
          refine kUn au ?_
          refine kUn au ?_
          refine bq al64 fun b44=>av 4 rfl rfl (Upd.refl _) rfl Tryz.sizeOf64 (kAs rfl (kAsL rfl ?_))
          refine bh (fun e C=>∃(x46:Bool),qu x4 x41 x25 x37 x31 x46=some w8l/\At [(0,aq (ba ab) x1),(3,am b2 0),(4,Pr.is v38),(5,Pr.i64 x4),(6,Pr.i64 x11),(7,am b20 0),(8,Pr.i64 x25),(10,am b44 0),(93,Pr.bool x46)] [Own.box b2 ak (ApiMistake.mk 0 0 0),Own.vec v38 af x37 49,Own.box b20 ab x19,Own.box b32 ab x31,Own.box b44 ab x41] e C) ?_ ?_
          · rintro e C ⟨x46,h8l,hat11⟩
            refine W_at hat11 ?_
            unfold qu at h8l
            refine a5 h8l rfl (fun _ h8l=> ?_) (fun _ h8l=> ?_)
            · refine bh (fun e C=>ref15_Table_j10 x4 x41=some w8l/\At [(2,Pr.is (.slice none 0 0)),(3,am b2 0)] [Own.box b2 ak (ApiMistake.mk 150 x4 x41.At),Own.box b20 ab x19,Own.box b32 ab x31,Own.box b44 ab x41] e C) ?_ ?_
              · rintro e C ⟨h8l,hat10⟩
                refine W_at hat10 ?_
                unfold ref15_Table_j10 at h8l
                obtain rfl:=ho8 _ (Option.some.inj h8l).symm
                replace h4l:some (.inr (.done (.inr (.done ([],(ApiMistake.mk 150 x4 x41.At))))))=some w4l:=h4l
                obtain rfl:=ho4 _ (Option.some.inj h4l).symm
                replace h2l:some (.inr (.done ([],(ApiMistake.mk 150 x4 x41.At))))=some w2l:=h2l
                obtain rfl:=ho2 _ (Option.some.inj h2l).symm
                replace h:some ([],(ApiMistake.mk 150 x4 x41.At))=some r:=h
                obtain rfl:=osj h
                exact bc ⟨rfl,[aq af [],(ak).val (ApiMistake.mk 150 x4 x41.At)],⟨yT (c7 _),yBox 0 ty30 aa,trivial⟩,aa⟩
              refine eo 5 hmx (by kernel_rfl) (by kernel_rfl) ?_
              refine lUn (hMvA rfl) (lUn (ai my) ?_)
              refine lUn (ap 4 ty3 ek) ?_
              refine lUn (fv st30 ⟨(ApiMistake.mk 150 0 0),⟨_,rfl,rfl,fun j fd hj hf=>by match j,hj with| 0,h=>exact absurd rfl h| 1,_=>cases hf;rfl| 2,_=>cases hf;rfl|_+3,_=>cases hf⟩,⟨(ApiMistake.mk 150 x4 0),⟨_,rfl,rfl,fun j fd hj hf=>by match j,hj with| 0,_=>cases hf;rfl| 1,h=>exact absurd rfl h| 2,_=>cases hf;rfl|_+3,_=>cases hf⟩,⟨(ApiMistake.mk 150 x4 x41.At),⟨_,rfl,rfl,fun j fd hj hf=>by match j,hj with| 0,_=>cases hf;rfl| 1,_=>cases hf;rfl| 2,h=>exact absurd rfl h|_+3,_=>cases hf⟩,rfl⟩⟩⟩) ?_
              refine lUn (hAsA rfl) (av 0 rfl rfl (Upd.refl _) rfl Tryz.sizeOf30 ?_)
              exact⟨h8l,⟨⟨aa,aa,trivial⟩,Pick.of [0,2,3,4] rfl⟩⟩
            refine ax ?_
            exact⟨x37,x31,v38,b32,h8l,⟨⟨aa,aa,aa,aa,aa,aa,aa,trivial⟩,Pick.of [0,1,2,3] rfl⟩⟩
          refine W_r (kUn (ai dr) ?_)
          refine kUn (ap 3 ty3 bg) ?_
          refine kIn rfl rfl rfl (kMv rfl ?_)
          rcases bo h8l with⟨hc45,h8l⟩|⟨hc45,h8l⟩
          · refine kGd rfl aa hc45 (hMvA rfl) (kPt rfl hc45 rfl ?_)
            exact⟨x42,h8l,atOk⟩
          refine kSkT rfl aa hc45 (kPf rfl hc45 rfl ?_)
          exact⟨false,h8l,atOk⟩
        refine W_r (kUn (ai dr) ?_)
        refine kUn (ap 3 ty3 bg) ?_
        refine kIn rfl rfl rfl (kMv rfl ?_)
        rcases bo h8l with⟨hc33,h8l⟩|⟨hc33,h8l⟩
        · refine kGd rfl aa hc33 (ai dr) ?_
          refine kGd rfl aa hc33 (ap 3 ty3 bg) ?_
          refine kGd rfl aa hc33 (qInt rfl rfl rfl) (kPt rfl hc33 rfl ?_)
          exact⟨x31.Kind != 3,h8l,atOk⟩
        refine kSkT rfl aa hc33 (kSkT rfl aa hc33 (kSkT rfl aa hc33 (kPf rfl hc33 rfl ?_)))
        exact⟨false,h8l,atOk⟩
      refine c6 ?_
      obtain rfl:=ho8 _ (Option.some.inj h8l).symm
      exact⟨x26,v24,h4l,atOk⟩
    refine c6 ?_
    obtain rfl:=ho4 _ (Option.some.inj h4l).symm
    exact⟨x12,v10,h2l,atOk⟩
  refine c6 ?_
  obtain rfl:=ho2 _ (Option.some.inj h2l).symm
  exact⟨x5,v3,h,atOk⟩
theorem ref03_between_ok (x1:List UInt8) (x2:Int) (r:Int × Bool) (h:ref03_between x1 x2=some r):FnP Tryz.prog 49 [bv x1,Pr.i64 x2] (bk [Pr.i64 r.1,Pr.bool r.2]):=by
 refine cu (rs:=[4,5]) Tryz.func49 rfl Tryz.ntmps49 ⟨by decide,Tryz.results49⟩ (by decide) (fun s0=> ?_)
 unfold ref03_between at h
 refine W_rs (kAs rfl (kAs rfl (a8 (az ?_))))
 obtain⟨z2l,hz2,h⟩:=ah h
 obtain⟨n2,hN2⟩:=bp hz2
 refine cq 0 (fun e C=>∃(x3:Int),tx x3=some r/\At [(1,Pr.i64 x3)] [] e C) ?_ ?_
 ·rintro e C ⟨x3,h,hat1⟩
  refine W_at hat1 ?_
  unfold tx at h
  refine W_rs (kMv rfl (kAs rfl (kAs rfl ?_)))
  obtain rfl:=osj h
  exact bc ⟨rfl,aa⟩
 refine c8 (fun m e C=>∃(x3:Int),dj (fun s=>o7 x1 s) m x3=some z2l/\At [(0,bv x1),(1,Pr.i64 x3)] [] e C) n2 ⟨x2,hN2,⟨⟨aa,aa,trivial⟩,Pick.refl _⟩⟩ ?_
 rintro m e C ⟨x3,hN2,hatl2⟩
 refine W_at hatl2 ?_
 obtain⟨m2,w2l,rfl,h2l,hn2,ho2⟩:=bj hN2
 replace h2l:o7 x1 x3=some w2l:=h2l
 unfold o7 at h2l
 refine a8 (W_rs (kMv rfl (kMv rfl (kUn (qLenS rfl Tryz.underlying9) ?_))))
 refine kIn rfl rfl rfl ?_
 refine a5 h2l rfl (fun _ h2l=> ?_) (fun _ h2l=> ?_)
 ·refine ax (az (W_rs (kMv rfl (kMv rfl ?_))))
  obtain⟨x6,hx6,h2l⟩:=ah h2l
  refine kUn (qIdxS Tryz.underlying9 hx6) ?_
  refine kAs rfl (a8 ?_)
  refine bh (fun e C=>∃(x14:Bool),f5 x3 x1 x6 x14=some w2l/\At [(0,bv x1),(1,Pr.i64 x3),(6,Pr.u8 x6),(28,Pr.bool x14)] [] e C) ?_ ?_
  ·rintro e C ⟨x14,h2l,hat10⟩
   refine W_at hat10 ?_
   unfold f5 at h2l
   refine a5 h2l rfl (fun _ h2l=> ?_) (fun _ h2l=> ?_)
   ·refine W_rs (kMv rfl (kIn rfl rfl rfl (kAs rfl ?_)))
    refine c6 ?_
    exact⟨m2,Nat.lt_succ_self _,w64 (x3+1),hn2 _ (Option.some.inj h2l).symm,atOk⟩
   refine ax (a8 ?_)
   refine bh (fun e C=>∃(x25:Bool),f2 x3 x1 x25=some w2l/\At [(0,bv x1),(1,Pr.i64 x3),(53,Pr.bool x25)] [] e C) ?_ ?_
   ·rintro e C ⟨x25,h2l,hat9⟩
    refine W_at hat9 ?_
    unfold f2 at h2l
    refine a5 h2l rfl (fun _ h2l=> ?_) (fun _ h2l=> ?_)
    ·refine W_rs (kMv rfl (kAs rfl (kAs rfl ?_)))
     obtain rfl:=ho2 _ (Option.some.inj h2l).symm
     replace h:some (x3,true)=some r:=h
     obtain rfl:=osj h
     exact bc ⟨rfl,aa⟩
    refine ax (a8 (W_rs (kMv rfl (kMv rfl (kIn rfl rfl rfl ?_)))))
    obtain⟨x27,hx27,h2l⟩:=ah h2l
    refine kUn (qIdxS Tryz.underlying9 hx27) ?_
    refine kIn rfl rfl rfl ?_
    refine a5 h2l rfl (fun _ h2l=> ?_) (fun _ h2l=> ?_)
    ·refine a8 (az ?_)
     obtain⟨z4l,hz4,h2l⟩:=ah h2l
     obtain⟨n4,hN4⟩:=bp hz4
     refine cq 2 (fun e C=>∃(x29:Int),ref03_between_k3 x29=some w2l/\At [(0,bv x1),(1,Pr.i64 x29)] [] e C) ?_ ?_
     ·rintro e C ⟨x29,h2l,hat3⟩
      refine W_at hat3 ?_
      unfold ref03_between_k3 at h2l
      refine c6 ?_
      exact⟨m2,Nat.lt_succ_self _,x29,hn2 _ (Option.some.inj h2l).symm,atOk⟩
     refine c8 (fun m e C=>∃(x29:Int),dj (fun s=>o6 x1 s) m x29=some z4l/\At [(0,bv x1),(1,Pr.i64 x29)] [] e C) n4 ⟨x3,hN4,⟨⟨aa,aa,trivial⟩,Pick.refl _⟩⟩ ?_
     rintro m e C ⟨x29,hN4,hatl4⟩
     refine W_at hatl4 ?_
     obtain⟨m4,w4l,rfl,h4l,hn4,ho4⟩:=bj hN4
     replace h4l:o6 x1 x29=some w4l:=h4l
     unfold o6 at h4l
     refine a8 ?_
     refine bh (fun e C=>∃(x33:Bool),o8 x29 x33=some w4l/\At [(0,bv x1),(1,Pr.i64 x29),(69,Pr.bool x33)] [] e C) ?_ ?_
     ·rintro e C ⟨x33,h4l,hat5⟩
      refine W_at hat5 ?_
      unfold o8 at h4l
      refine a5 h4l rfl (fun _ h4l=> ?_) (fun _ h4l=> ?_)
      ·refine ax (az (W_r (kMv rfl (kIn rfl rfl rfl (kAs rfl ?_)))))
       exact⟨m4,Nat.lt_succ_self _,w64 (x29+1),hn4 _ (Option.some.inj h4l).symm,atOk⟩
      refine c6 ?_
      obtain rfl:=ho4 _ (Option.some.inj h4l).symm
      exact⟨x29,h2l,atOk⟩
     refine W_r (kMv rfl (kMv rfl (kUn (qLenS rfl Tryz.underlying9) ?_)))
     refine kIn rfl rfl rfl (kMv rfl ?_)
     rcases bo h4l with⟨hc31,h4l⟩|⟨hc31,h4l⟩
     ·refine kGd rfl aa hc31 (hMvA rfl) (kGd rfl aa hc31 (hMvA rfl) ?_)
      obtain⟨x32,hx32,h4l⟩:=ah h4l
      refine kGd rfl aa hc31 (qIdxS Tryz.underlying9 hx32) ?_
      refine kGd rfl aa hc31 (qInt rfl rfl rfl) (kPt rfl hc31 rfl ?_)
      exact⟨x32 != 10,h4l,atOk⟩
     refine kSkT rfl aa hc31 (kSkT rfl aa hc31 (kSkT rfl aa hc31 (kSkT rfl aa hc31 (kPf rfl hc31 rfl ?_))))
     exact⟨false,h4l,atOk⟩
    refine ax (W_rs (kMv rfl (kIn rfl rfl rfl (kAs rfl (a8 (az ?_))))))
    obtain⟨z7l,hz7,h2l⟩:=ah h2l
    obtain⟨n7,hN7⟩:=bp hz7
    refine cq 4 (fun e C=>∃(x35:Int),tw x1 x3 x35=some w2l/\At [(0,bv x1),(1,Pr.i64 x3),(7,Pr.i64 x35)] [] e C) ?_ ?_
    ·rintro e C ⟨x35,h2l,hat6⟩
     refine W_at hat6 ?_
     unfold tw at h2l
     refine a8 (W_rs (kMv rfl (kIn rfl rfl rfl (kMv rfl (kUn (qLenS rfl Tryz.underlying9) ?_)))))
     refine kIn rfl rfl rfl ?_
     refine a5 h2l rfl (fun _ h2l=> ?_) (fun _ h2l=> ?_)
     ·refine W_rs (kMv rfl (kAs rfl (kAs rfl ?_)))
      obtain rfl:=ho2 _ (Option.some.inj h2l).symm
      replace h:some (x3,false)=some r:=h
      obtain rfl:=osj h
      exact bc ⟨rfl,aa⟩
     refine ax (W_r (kMv rfl (kIn rfl rfl rfl (kAs rfl ?_))))
     exact⟨m2,Nat.lt_succ_self _,w64 (x35+2),hn2 _ (Option.some.inj h2l).symm,atOk⟩
    refine c8 (fun m e C=>∃(x35:Int),dj (fun s=>o5 x1 s) m x35=some z7l/\At [(0,bv x1),(1,Pr.i64 x3),(7,Pr.i64 x35)] [] e C) n7 ⟨w64 (x3+2),hN7,⟨⟨aa,aa,aa,trivial⟩,Pick.refl _⟩⟩ ?_
    rintro m e C ⟨x35,hN7,hatl7⟩
    refine W_at hatl7 ?_
    obtain⟨m7,w7l,rfl,h7l,hn7,ho7⟩:=bj hN7
    replace h7l:o5 x1 x35=some w7l:=h7l
    unfold o5 at h7l
    refine a8 ?_
    refine bh (fun e C=>∃(x41:Bool),lh x35 x41=some w7l/\At [(0,bv x1),(1,Pr.i64 x3),(7,Pr.i64 x35),(91,Pr.bool x41)] [] e C) ?_ ?_
    ·rintro e C ⟨x41,h7l,hat8⟩
     refine W_at hat8 ?_
     unfold lh at h7l
     refine a5 h7l rfl (fun _ h7l=> ?_) (fun _ h7l=> ?_)
     ·refine ax (az (W_r (kMv rfl (kIn rfl rfl rfl (kAs rfl ?_)))))
      exact⟨m7,Nat.lt_succ_self _,w64 (x35+1),hn7 _ (Option.some.inj h7l).symm,atOk⟩
     refine c6 ?_
     obtain rfl:=ho7 _ (Option.some.inj h7l).symm
     exact⟨x35,h2l,atOk⟩
    refine W_r (kMv rfl (kIn rfl rfl rfl (kMv rfl (kUn (qLenS rfl Tryz.underlying9) ?_))))
    refine kIn rfl rfl rfl (kMv rfl ?_)
    rcases bo h7l with⟨hc37,h7l⟩|⟨hc37,h7l⟩
    ·refine kGd rfl aa hc37 (hMvA rfl) (kGd rfl aa hc37 (hMvA rfl) ?_)
     obtain⟨x38,hx38,h7l⟩:=ah h7l
     refine kGd rfl aa hc37 (qIdxS Tryz.underlying9 hx38) ?_
     refine kGd rfl aa hc37 (qInt rfl rfl rfl) (kGd rfl aa hc37 (hMvA rfl) ?_)
     rcases bo h7l with⟨hc39,h7l⟩|⟨hc39,h7l⟩
     ·refine kSkF rfl aa hc39 (kSkF rfl aa hc39 (kSkF rfl aa hc39 (kSkF rfl aa hc39 (kSkF rfl aa hc39 (kGd rfl aa hc37 (hPt rfl hc39 rfl) (kPt rfl hc37 rfl ?_))))))
      exact⟨true,h7l,atOk⟩
     refine kGd rfl aa hc39 (hMvA rfl) (kGd rfl aa hc39 (hMvA rfl) (kGd rfl aa hc39 (qInt rfl rfl rfl) ?_))
     obtain⟨x40,hx40,h7l⟩:=ah h7l
     refine kGd rfl aa hc39 (qIdxS Tryz.underlying9 hx40) ?_
     refine kGd rfl aa hc39 (qInt rfl rfl rfl) (kGd rfl aa hc37 (hPf rfl hc39 rfl) (kPt rfl hc37 rfl ?_))
     exact⟨x40 != 47,h7l,atOk⟩
    refine kSkT rfl aa hc37 (kSkT rfl aa hc37 (kSkT rfl aa hc37 (kSkT rfl aa hc37 (kSkT rfl aa hc37 (kSkU rfl aa (kSkU rfl aa (kSkU rfl aa (kSkU rfl aa (kSkU rfl aa (kSkT rfl aa hc37 (kPf rfl hc37 rfl ?_)))))))))))
    exact⟨false,h7l,atOk⟩
   refine W_r (kMv rfl (kIn rfl rfl rfl (kMv rfl (kUn (qLenS rfl Tryz.underlying9) ?_))))
   refine kIn rfl rfl rfl (kMv rfl ?_)
   rcases bo h2l with⟨hc16,h2l⟩|⟨hc16,h2l⟩
   ·refine kSkF rfl aa hc16 (kSkF rfl aa hc16 (kPt rfl hc16 rfl (kMv rfl ?_)))
    have hc21:true=true:=rfl
    refine kSkF rfl aa hc21 (kSkF rfl aa hc21 (kSkF rfl aa hc21 (kSkF rfl aa hc21 (kSkF rfl aa hc21 (kSkF rfl aa hc21 (kSkU rfl aa (kSkU rfl aa (kSkU rfl aa (kSkU rfl aa (kSkU rfl aa (kSkF rfl aa hc21 ?_)))))))))))
    refine kPt rfl hc21 rfl ?_
    exact⟨true,h2l,atOk⟩
   refine kGd rfl aa hc16 (hMvA rfl) (kGd rfl aa hc16 (qInt rfl rfl rfl) (kPf rfl hc16 rfl (kMv rfl ?_)))
   rcases bo h2l with⟨hc17,h2l⟩|⟨hc17,h2l⟩
   ·refine kSkF rfl aa hc17 (kSkF rfl aa hc17 (kSkF rfl aa hc17 (kSkF rfl aa hc17 (kSkF rfl aa hc17 (kSkF rfl aa hc17 (kSkU rfl aa (kSkU rfl aa (kSkU rfl aa (kSkU rfl aa (kSkU rfl aa (kSkF rfl aa hc17 ?_)))))))))))
    refine kPt rfl hc17 rfl ?_
    exact⟨true,h2l,atOk⟩
   refine kGd rfl aa hc17 (hMvA rfl) (kGd rfl aa hc17 (hMvA rfl) (kGd rfl aa hc17 (qInt rfl rfl rfl) ?_))
   obtain⟨x18,hx18,h2l⟩:=ah h2l
   refine kGd rfl aa hc17 (qIdxS Tryz.underlying9 hx18) ?_
   refine kGd rfl aa hc17 (qInt rfl rfl rfl) (kGd rfl aa hc17 (hMvA rfl) ?_)
   rcases bo h2l with⟨hc19,h2l⟩|⟨hc19,h2l⟩
   ·refine kGd rfl aa hc19 (hMvA rfl) (kGd rfl aa hc19 (hMvA rfl) (kGd rfl aa hc19 (qInt rfl rfl rfl) ?_))
    obtain⟨x20,hx20,h2l⟩:=ah h2l
    refine kGd rfl aa hc19 (qIdxS Tryz.underlying9 hx20) ?_
    refine kGd rfl aa hc19 (qInt rfl rfl rfl) (kGd rfl aa hc17 (hPt rfl hc19 rfl) (kPf rfl hc17 rfl ?_))
    exact⟨x20 != 42,h2l,atOk⟩
   refine kSkT rfl aa hc19 (kSkT rfl aa hc19 (kSkT rfl aa hc19 (kSkT rfl aa hc19 (kSkT rfl aa hc19 (kGd rfl aa hc17 (hPf rfl hc19 rfl) (kPf rfl hc17 rfl ?_))))))
   exact⟨false,h2l,atOk⟩
  refine W_r (kMv rfl (kIn rfl rfl rfl (kMv rfl ?_)))
  rcases bo h2l with⟨hc7,h2l⟩|⟨hc7,h2l⟩
  ·refine kSkF rfl aa hc7 (kSkF rfl aa hc7 (kPt rfl hc7 rfl (kMv rfl ?_)))
   have hc11:true=true:=rfl
   refine kSkF rfl aa hc11 (kSkF rfl aa hc11 (kPt rfl hc11 rfl (kMv rfl ?_)))
   have hc13:true=true:=rfl
   refine kSkF rfl aa hc13 (kSkF rfl aa hc13 (kPt rfl hc13 rfl ?_))
   exact⟨true,h2l,atOk⟩
  refine kGd rfl aa hc7 (hMvA rfl) (kGd rfl aa hc7 (qInt rfl rfl rfl) (kPf rfl hc7 rfl (kMv rfl ?_)))
  rcases bo h2l with⟨hc8,h2l⟩|⟨hc8,h2l⟩
  ·refine kSkF rfl aa hc8 (kSkF rfl aa hc8 (kPt rfl hc8 rfl (kMv rfl ?_)))
   have hc10:true=true:=rfl
   refine kSkF rfl aa hc10 (kSkF rfl aa hc10 (kPt rfl hc10 rfl ?_))
   exact⟨true,h2l,atOk⟩
  refine kGd rfl aa hc8 (hMvA rfl) (kGd rfl aa hc8 (qInt rfl rfl rfl) (kPf rfl hc8 rfl (kMv rfl ?_)))
  rcases bo h2l with⟨hc9,h2l⟩|⟨hc9,h2l⟩
  ·refine kSkF rfl aa hc9 (kSkF rfl aa hc9 (kPt rfl hc9 rfl ?_))
   exact⟨true,h2l,atOk⟩
  refine kGd rfl aa hc9 (hMvA rfl) (kGd rfl aa hc9 (qInt rfl rfl rfl) (kPf rfl hc9 rfl ?_))
  exact⟨x6==13,h2l,atOk⟩
 refine c6 ?_
 obtain rfl:=ho2 _ (Option.some.inj h2l).symm
 exact⟨x3,h,atOk⟩
theorem ref03_digit_ok (x1:Int) (r:Bool) (h:ny x1=some r):FnP Tryz.prog 87 [Pr.u8 x1] (Pr.bool r):=by
 refine cu (rs:=[2]) Tryz.func87 rfl Tryz.ntmps87 ⟨by decide,Tryz.results87⟩ (by decide) (fun s0=> ?_)
 unfold ny at h
 refine W_rs (kAs rfl ?_)
 refine bh (fun e C=>∃(x3:Bool),te x3=some r/\At [(2,Pr.bool x3)] [] e C) ?_ ?_
 ·rintro e C ⟨x3,h,hat1⟩
  refine W_at hat1 ?_
  unfold te at h
  obtain rfl:=osj h
  exact bc ⟨rfl,aa⟩
 refine W_r (kMv rfl (kIn rfl rfl rfl (kMv rfl ?_)))
 rcases bo h with⟨hc2,h⟩|⟨hc2,h⟩
 ·refine kGd rfl aa hc2 (hMvA rfl) (kGd rfl aa hc2 (qInt rfl rfl rfl) (kPt rfl hc2 rfl (kAs rfl ?_)))
  exact⟨decide (x1<=57),h,atOk⟩
 refine kSkT rfl aa hc2 (kSkT rfl aa hc2 (kPf rfl hc2 rfl (kAs rfl ?_)))
 exact⟨false,h,atOk⟩
theorem ref03_great_ok (x1:List UInt8) (r:Bool) (h:ref03_great x1=some r):FnP Tryz.prog 88 [bv x1] (Pr.bool r):=by
 refine cu (rs:=[2]) Tryz.func88 rfl Tryz.ntmps88 ⟨by decide,Tryz.results88⟩ (by decide) (fun s0=> ?_)
 unfold ref03_great at h
 refine W_rs (kAs rfl (a8 (W_rs (kMv rfl (kUn (qLenS rfl Tryz.underlying9) ?_)))))
 refine kIn rfl rfl rfl ?_
 refine a5 h rfl (fun _ h=> ?_) (fun _ h=> ?_)
 ·refine W_rs (kAs rfl ?_)
  obtain rfl:=osj h
  exact bc ⟨rfl,aa⟩
 refine ax (W_rs (kAs rfl (a8 (W_rs (kAs rfl (az ?_))))))
 obtain⟨z2l,hz2,h⟩:=ah h
 obtain⟨n2,hN2⟩:=bp hz2
 refine cq 0 (fun e C=>∃(x3:Int),ref03_great_k1 x3=some r/\At [(3,Pr.i64 x3)] [] e C) ?_ ?_
 ·rintro e C ⟨x3,h,hat1⟩
  refine W_at hat1 ?_
  unfold ref03_great_k1 at h
  refine W_rs (kMv rfl (kIn rfl rfl rfl (kAs rfl ?_)))
  obtain rfl:=osj h
  exact bc ⟨rfl,aa⟩
 refine c8 (fun m e C=>∃(x3:Int),∃(x4:Int),dj (fun s=>tc x1 s.1 s.2) m (x3,x4)=some z2l/\At [(0,bv x1),(3,Pr.i64 x3),(4,Pr.i64 x4)] [] e C) n2 ⟨0,0,hN2,⟨⟨aa,aa,aa,trivial⟩,Pick.refl _⟩⟩ ?_
 rintro m e C ⟨x3,x4,hN2,hatl2⟩
 refine W_at hatl2 ?_
 obtain⟨m2,w2l,rfl,h2l,hn2,ho2⟩:=bj hN2
 replace h2l:tc x1 x3 x4=some w2l:=h2l
 unfold tc at h2l
 refine a8 (W_rs (kMv rfl (kMv rfl (kUn (qLenS rfl Tryz.underlying9) ?_))))
 refine kIn rfl rfl rfl ?_
 refine a5 h2l rfl (fun _ h2l=> ?_) (fun _ h2l=> ?_)
 ·refine ax (a8 (az (W_r (kMv rfl (kIn rfl rfl rfl (kMv rfl (kMv rfl ?_)))))))
  obtain⟨x8,hx8,h2l⟩:=ah h2l
  refine kUn (qIdxS Tryz.underlying9 hx8) ?_
  refine kIn rfl rfl rfl (kUn (qConv Tryz.underlying5 Tryz.underlying3) ?_)
  refine kIn rfl rfl rfl (kAs rfl (W_r (kMv rfl (kIn rfl rfl rfl (kAs rfl ?_)))))
  exact⟨m2,Nat.lt_succ_self _,w64 ((w64 (10 * x3))+(w64 (IntKind.wrap .u8 (x8 - 48)))),w64 (x4+1),hn2 _ (Option.some.inj h2l).symm,atOk⟩
 refine c6 ?_
 obtain rfl:=ho2 _ (Option.some.inj h2l).symm
 exact⟨x3,h,atOk⟩
theorem ref03_letter_ok (x1:Int) (r:Bool) (h:nw x1=some r):FnP Tryz.prog 89 [Pr.u8 x1] (Pr.bool r):=by
 refine cu (rs:=[2]) Tryz.func89 rfl Tryz.ntmps89 ⟨by decide,Tryz.results89⟩ (by decide) (fun s0=> ?_)
 unfold nw at h
 refine W_rs (kAs rfl ?_)
 refine bh (fun e C=>∃(x13:Bool),gp x13=some r/\At [(2,Pr.bool x13)] [] e C) ?_ ?_
 ·rintro e C ⟨x13,h,hat1⟩
  refine W_at hat1 ?_
  unfold gp at h
  obtain rfl:=osj h
  exact bc ⟨rfl,aa⟩
 refine W_r (kMv rfl (kIn rfl rfl rfl (kMv rfl ?_)))
 rcases bo h with⟨hc2,h⟩|⟨hc2,h⟩
 ·refine kGd rfl aa hc2 (hMvA rfl) (kGd rfl aa hc2 (qInt rfl rfl rfl) (kPt rfl hc2 rfl (kMv rfl ?_)))
  rcases bo h with⟨hc3,h⟩|⟨hc3,h⟩
  ·refine kSkF rfl aa hc3 (kSkF rfl aa hc3 (kSkF rfl aa hc3 (kSkU rfl aa (kSkU rfl aa (kSkF rfl aa hc3 (kPt rfl hc3 rfl (kMv rfl ?_)))))))
   have hc7:true=true:=rfl
   refine kSkF rfl aa hc7 (kSkF rfl aa hc7 (kPt rfl hc7 rfl (kAs rfl ?_)))
   exact⟨true,h,atOk⟩
  refine kGd rfl aa hc3 (hMvA rfl) (kGd rfl aa hc3 (qInt rfl rfl rfl) (kGd rfl aa hc3 (hMvA rfl) ?_))
  rcases bo h with⟨hc4,h⟩|⟨hc4,h⟩
  ·refine kGd rfl aa hc4 (hMvA rfl) (kGd rfl aa hc4 (qInt rfl rfl rfl) (kGd rfl aa hc3 (hPt rfl hc4 rfl) (kPf rfl hc3 rfl (kMv rfl ?_))))
   rcases bo h with⟨hc5,h⟩|⟨hc5,h⟩
   ·refine kSkF rfl aa hc5 (kSkF rfl aa hc5 (kPt rfl hc5 rfl (kAs rfl ?_)))
    exact⟨true,h,atOk⟩
   refine kGd rfl aa hc5 (hMvA rfl) (kGd rfl aa hc5 (qInt rfl rfl rfl) (kPf rfl hc5 rfl (kAs rfl ?_)))
   exact⟨x1==95,h,atOk⟩
  refine kSkT rfl aa hc4 (kSkT rfl aa hc4 (kGd rfl aa hc3 (hPf rfl hc4 rfl) (kPf rfl hc3 rfl (kMv rfl ?_))))
  have hc6:false=false:=rfl
  refine kGd rfl aa hc6 (hMvA rfl) (kGd rfl aa hc6 (qInt rfl rfl rfl) (kPf rfl hc6 rfl (kAs rfl ?_)))
  exact⟨x1==95,h,atOk⟩
 refine kSkT rfl aa hc2 (kSkT rfl aa hc2 (kPf rfl hc2 rfl (kMv rfl ?_)))
 have hc8:false=false:=rfl
 refine kGd rfl aa hc8 (hMvA rfl) (kGd rfl aa hc8 (qInt rfl rfl rfl) (kGd rfl aa hc8 (hMvA rfl) ?_))
 rcases bo h with⟨hc9,h⟩|⟨hc9,h⟩
 ·refine kGd rfl aa hc9 (hMvA rfl) (kGd rfl aa hc9 (qInt rfl rfl rfl) (kGd rfl aa hc8 (hPt rfl hc9 rfl) (kPf rfl hc8 rfl (kMv rfl ?_))))
  rcases bo h with⟨hc10,h⟩|⟨hc10,h⟩
  ·refine kSkF rfl aa hc10 (kSkF rfl aa hc10 (kPt rfl hc10 rfl (kAs rfl ?_)))
   exact⟨true,h,atOk⟩
  refine kGd rfl aa hc10 (hMvA rfl) (kGd rfl aa hc10 (qInt rfl rfl rfl) (kPf rfl hc10 rfl (kAs rfl ?_)))
  exact⟨x1==95,h,atOk⟩
 refine kSkT rfl aa hc9 (kSkT rfl aa hc9 (kGd rfl aa hc8 (hPf rfl hc9 rfl) (kPf rfl hc8 rfl (kMv rfl ?_))))
 have hc11:false=false:=rfl
 refine kGd rfl aa hc11 (hMvA rfl) (kGd rfl aa hc11 (qInt rfl rfl rfl) (kPf rfl hc11 rfl (kAs rfl ?_)))
 exact⟨x1==95,h,atOk⟩
theorem ref03_Kept_ok (x1:List UInt8) (r:Bool) (h:ix x1=some r):FnP Tryz.prog 90 [bv x1] (Pr.bool r):=by
 refine cu (rs:=[2]) Tryz.func90 rfl Tryz.ntmps90 ⟨by decide,Tryz.results90⟩ (by decide) (fun s0=> ?_)
 unfold ix at h
 refine W_rs (kAs rfl (W_rs (kUn (ju (R:=a6) (ls:=([([99,108,97,115,115]:List UInt8),([101,120,116,101,110,100,115]:List UInt8),([115,116,97,116,105,99]:List UInt8),([118,111,105,100]:List UInt8),([105,110,116]:List UInt8),([98,111,111,108,101,97,110]:List UInt8),([105,102]:List UInt8),([101,108,115,101]:List UInt8),([119,104,105,108,101]:List UInt8),([114,101,116,117,114,110]:List UInt8),([112,114,105,110,116]:List UInt8),([116,114,117,101]:List UInt8),([102,97,108,115,101]:List UInt8),([110,117,108,108]:List UInt8),([116,104,105,115]:List UInt8),([110,101,119]:List UInt8)]:List (List UInt8))) el22 (Nat.le_of_ble_eq_true rfl) ⟨rfl,rfl⟩ ⟨rfl,rfl,rfl,rfl,rfl,rfl,rfl,rfl,rfl,rfl,rfl,rfl,rfl,rfl,rfl,rfl,trivial⟩) ?_)))
 refine kAsL rfl (a8 (W_rs (kAs rfl (az ?_))))
 obtain⟨z2l,hz2,h⟩:=ah h
 obtain⟨n2,hN2⟩:=bp hz2
 refine cq 0 (fun e C=>ref03_Kept_k1=some r/\At [] [] e C) ?_ ?_
 ·rintro e C ⟨h,hat1⟩
  refine W_at hat1 ?_
  unfold ref03_Kept_k1 at h
  refine W_rs (kAs rfl ?_)
  obtain rfl:=osj h
  exact bc ⟨rfl,aa⟩
 refine c8 (fun m e C=>∃(x2:Int),dj (fun s=>ref03_Kept_l2 x1 s) m x2=some z2l/\At [(0,bv x1),(3,aq a6 ([([99,108,97,115,115]:List UInt8),([101,120,116,101,110,100,115]:List UInt8),([115,116,97,116,105,99]:List UInt8),([118,111,105,100]:List UInt8),([105,110,116]:List UInt8),([98,111,111,108,101,97,110]:List UInt8),([105,102]:List UInt8),([101,108,115,101]:List UInt8),([119,104,105,108,101]:List UInt8),([114,101,116,117,114,110]:List UInt8),([112,114,105,110,116]:List UInt8),([116,114,117,101]:List UInt8),([102,97,108,115,101]:List UInt8),([110,117,108,108]:List UInt8),([116,104,105,115]:List UInt8),([110,101,119]:List UInt8)]:List (List UInt8))),(4,Pr.i64 x2)] [] e C) n2 ⟨0,hN2,⟨⟨aa,aa,aa,trivial⟩,Pick.refl _⟩⟩ ?_
 rintro m e C ⟨x2,hN2,hatl2⟩
 refine W_at hatl2 ?_
 obtain⟨m2,w2l,rfl,h2l,hn2,ho2⟩:=bj hN2
 replace h2l:ref03_Kept_l2 x1 x2=some w2l:=h2l
 unfold ref03_Kept_l2 at h2l
 refine a8 (W_rs (kMv rfl (kMvL rfl (kUn (iz rfl Tryz.underlying22) ?_))))
 refine kIn rfl rfl rfl ?_
 refine a5 h2l rfl (fun _ h2l=> ?_) (fun _ h2l=> ?_)
 ·refine ax (a8 (az (W_rs (kMvL rfl (kMv rfl ?_)))))
  obtain⟨x5,hx5,h2l⟩:=ah h2l
  refine kUn (dg Tryz.underlying22 Tryz.sizeOf9 hx5) ?_
  refine kUn (cf ty9) ?_
  refine kMv rfl (kSt rfl rfl rfl ?_)
  refine a5 h2l rfl (fun _ h2l=> ?_) (fun _ h2l=> ?_)
  ·refine W_rs (kAs rfl ?_)
   obtain rfl:=ho2 _ (Option.some.inj h2l).symm
   replace h:some true=some r:=h
   obtain rfl:=osj h
   exact bc ⟨rfl,aa⟩
  refine ax (W_r (kMv rfl (kIn rfl rfl rfl (kAs rfl ?_))))
  exact⟨m2,Nat.lt_succ_self _,w64 (x2+1),hn2 _ (Option.some.inj h2l).symm,atOk⟩
 refine c6 ?_
 obtain rfl:=ho2 _ (Option.some.inj h2l).symm
 exact⟨h,atOk⟩
theorem ref03_mark_ok (x1:List UInt8) (x2 r:Int) (h:ref03_mark x1 x2=some r):FnP Tryz.prog 91 [bv x1,Pr.i64 x2] (Pr.i64 r):=by
 refine cu (rs:=[4]) Tryz.func91 rfl Tryz.ntmps91 ⟨by decide,Tryz.results91⟩ (by decide) (fun s0=> ?_)
 unfold ref03_mark at h
 refine W_rs (kAs rfl (W_rs (kUn (ju (R:=a6) (ls:=([([61,61]:List UInt8),([33,61]:List UInt8),([60,61]:List UInt8),([62,61]:List UInt8),([38,38]:List UInt8),([124,124]:List UInt8)]:List (List UInt8))) el22 (Nat.le_of_ble_eq_true rfl) ⟨rfl,rfl⟩ ⟨rfl,rfl,rfl,rfl,rfl,rfl,trivial⟩) ?_)))
 refine kAsL rfl (a8 (W_rs (kAs rfl (az ?_))))
 obtain⟨z5l,hz5,h⟩:=ah h
 obtain⟨n5,hN5⟩:=bp hz5
 refine cq 0 (fun e C=>ref03_mark_k4 x1 x2=some r/\At [(0,bv x1),(1,Pr.i64 x2)] [] e C) ?_ ?_
 ·rintro e C ⟨h,hat4⟩
  refine W_at hat4 ?_
  unfold ref03_mark_k4 at h
  refine W_rs (kAs rfl (a8 (W_rs (kAs rfl (az ?_)))))
  obtain⟨z2l,hz2,h⟩:=ah h
  obtain⟨n2,hN2⟩:=bp hz2
  refine cq 2 (fun e C=>ref03_mark_k1=some r/\At [] [] e C) ?_ ?_
  ·rintro e C ⟨h,hat1⟩
   refine W_at hat1 ?_
   unfold ref03_mark_k1 at h
   refine W_rs (kAs rfl ?_)
   obtain rfl:=osj h
   exact bc ⟨rfl,aa⟩
  refine c8 (fun m e C=>∃(x11:Int),dj (fun s=>ref03_mark_l2 x1 x2 s) m x11=some z2l/\At [(0,bv x1),(1,Pr.i64 x2),(7,bv ([43,45,42,47,37,60,62,61,33,40,41,123,125,59,44,46]:List UInt8)),(8,Pr.i64 x11)] [] e C) n2 ⟨0,hN2,⟨⟨aa,aa,aa,aa,trivial⟩,Pick.refl _⟩⟩ ?_
  rintro m e C ⟨x11,hN2,hatl2⟩
  refine W_at hatl2 ?_
  obtain⟨m2,w2l,rfl,h2l,hn2,ho2⟩:=bj hN2
  replace h2l:ref03_mark_l2 x1 x2 x11=some w2l:=h2l
  unfold ref03_mark_l2 at h2l
  refine a8 (W_rs (kMv rfl (kMv rfl (kUn (qLenS rfl Tryz.underlying9) ?_))))
  refine kIn rfl rfl rfl ?_
  refine a5 h2l rfl (fun _ h2l=> ?_) (fun _ h2l=> ?_)
  ·refine ax (a8 (az ?_))
   refine bh (fun e C=>∃(x14:Int),∃(x15:Int),ref03_mark_j3 x11 x14 x15=some w2l/\At [(0,bv x1),(1,Pr.i64 x2),(7,bv ([43,45,42,47,37,60,62,61,33,40,41,123,125,59,44,46]:List UInt8)),(8,Pr.i64 x11),(45,Pr.bool (x14==x15))] [] e C) ?_ ?_
   ·rintro e C ⟨x14,x15,h2l,hat3⟩
    refine W_at hat3 ?_
    unfold ref03_mark_j3 at h2l
    refine a5 h2l rfl (fun _ h2l=> ?_) (fun _ h2l=> ?_)
    ·refine W_rs (kAs rfl ?_)
     obtain rfl:=ho2 _ (Option.some.inj h2l).symm
     replace h:some 1=some r:=h
     obtain rfl:=osj h
     exact bc ⟨rfl,aa⟩
    refine ax (W_r (kMv rfl (kIn rfl rfl rfl (kAs rfl ?_))))
    exact⟨m2,Nat.lt_succ_self _,w64 (x11+1),hn2 _ (Option.some.inj h2l).symm,atOk⟩
   refine eo 7 hmx (by kernel_rfl) (by kernel_rfl) ?_
   refine lUn (hMvA rfl) (lUn (hMvA rfl) ?_)
   obtain⟨x14,hx14,h2l⟩:=ah h2l
   refine lUn (qIdxS Tryz.underlying9 hx14) ?_
   refine lUn (hMvA rfl) (lUn (hMvA rfl) ?_)
   obtain⟨x15,hx15,h2l⟩:=ah h2l
   refine lUn (qIdxS Tryz.underlying9 hx15) ?_
   refine lUn (qInt rfl rfl rfl) ?_
   exact⟨x14,x15,h2l,atOk⟩
  refine c6 ?_
  obtain rfl:=ho2 _ (Option.some.inj h2l).symm
  exact⟨h,atOk⟩
 refine c8 (fun m e C=>∃(x3:Int),dj (fun s=>ref03_mark_l5 x1 x2 s) m x3=some z5l/\At [(0,bv x1),(1,Pr.i64 x2),(5,aq a6 ([([61,61]:List UInt8),([33,61]:List UInt8),([60,61]:List UInt8),([62,61]:List UInt8),([38,38]:List UInt8),([124,124]:List UInt8)]:List (List UInt8))),(6,Pr.i64 x3)] [] e C) n5 ⟨0,hN5,⟨⟨aa,aa,aa,aa,trivial⟩,Pick.refl _⟩⟩ ?_
 rintro m e C ⟨x3,hN5,hatl5⟩
 refine W_at hatl5 ?_
 obtain⟨m5,w5l,rfl,h5l,hn5,ho5⟩:=bj hN5
 replace h5l:ref03_mark_l5 x1 x2 x3=some w5l:=h5l
 unfold ref03_mark_l5 at h5l
 refine a8 ?_
 refine bh (fun e C=>∃(x6:Bool),ref03_mark_j7 x1 x2 x3 x6=some w5l/\At [(0,bv x1),(1,Pr.i64 x2),(5,aq a6 ([([61,61]:List UInt8),([33,61]:List UInt8),([60,61]:List UInt8),([62,61]:List UInt8),([38,38]:List UInt8),([124,124]:List UInt8)]:List (List UInt8))),(6,Pr.i64 x3),(20,Pr.bool x6)] [] e C) ?_ ?_
 ·rintro e C ⟨x6,h5l,hat7⟩
  refine W_at hat7 ?_
  unfold ref03_mark_j7 at h5l
  refine a5 h5l rfl (fun _ h5l=> ?_) (fun _ h5l=> ?_)
  ·refine ax (a8 (az ?_))
   refine bh (fun e C=>∃(x8:List UInt8),∃(x9:List UInt8),ref03_mark_j6 x3 x8 x9=some w5l/\At [(0,bv x1),(1,Pr.i64 x2),(5,aq a6 ([([61,61]:List UInt8),([33,61]:List UInt8),([60,61]:List UInt8),([62,61]:List UInt8),([38,38]:List UInt8),([124,124]:List UInt8)]:List (List UInt8))),(6,Pr.i64 x3),(32,Pr.bool (x8==x9))] [] e C) ?_ ?_
   ·rintro e C ⟨x8,x9,h5l,hat6⟩
    refine W_at hat6 ?_
    unfold ref03_mark_j6 at h5l
    refine a5 h5l rfl (fun _ h5l=> ?_) (fun _ h5l=> ?_)
    ·refine W_rs (kAs rfl ?_)
     obtain rfl:=ho5 _ (Option.some.inj h5l).symm
     replace h:some 2=some r:=h
     obtain rfl:=osj h
     exact bc ⟨rfl,aa⟩
    refine ax (W_r (kMv rfl (kIn rfl rfl rfl (kAs rfl ?_))))
    exact⟨m5,Nat.lt_succ_self _,w64 (x3+1),hn5 _ (Option.some.inj h5l).symm,atOk⟩
   refine eo 10 hmx (by kernel_rfl) (by kernel_rfl) ?_
   refine lUn (hMvA rfl) (lUn (hMvA rfl) (lUn (hMvA rfl) (lUn (qInt rfl rfl rfl) ?_)))
   obtain⟨x8,hx8,h5l⟩:=ah h5l
   refine lUn (qSubLH Tryz.underlying9 hx8) ?_
   refine lUn (hMvL rfl) (lUn (hMvA rfl) ?_)
   obtain⟨x9,hx9,h5l⟩:=ah h5l
   refine lUn (dg Tryz.underlying22 Tryz.sizeOf9 hx9) ?_
   refine lUn (cf ty9) ?_
   refine lUn (qStr rfl rfl rfl) ?_
   exact⟨x8,x9,h5l,atOk⟩
  refine c6 ?_
  obtain rfl:=ho5 _ (Option.some.inj h5l).symm
  exact⟨h,atOk⟩
 refine W_r (kMv rfl (kMvL rfl (kUn (iz rfl Tryz.underlying22) ?_)))
 refine kIn rfl rfl rfl (kMv rfl ?_)
 rcases bo h5l with⟨hc5,h5l⟩|⟨hc5,h5l⟩
 ·refine kGd rfl aa hc5 (hMvA rfl) (kGd rfl aa hc5 (qInt rfl rfl rfl) (kGd rfl aa hc5 (hMvA rfl) (kGd rfl aa hc5 (qLenS rfl Tryz.underlying9) ?_)))
  refine kGd rfl aa hc5 (qInt rfl rfl rfl) (kPt rfl hc5 rfl ?_)
  exact⟨decide ((w64 (x2+2))<=(x1.length:Int)),h5l,atOk⟩
 refine kSkT rfl aa hc5 (kSkT rfl aa hc5 (kSkT rfl aa hc5 (kSkT rfl aa hc5 (kSkT rfl aa hc5 (kPf rfl hc5 rfl ?_)))))
 exact⟨false,h5l,atOk⟩
theorem ref03_token_ok (x1:List UInt8) (x2:Int) (r:Int × Int × Int) (h:ref03_token x1 x2=some r):FnP Tryz.prog 50 [bv x1,Pr.i64 x2] (bk [Pr.i64 r.1,Pr.i64 r.2.1,Pr.i64 r.2.2]):=by
 refine cu (rs:=[4,5,6]) Tryz.func50 rfl Tryz.ntmps50 ⟨by decide,Tryz.results50⟩ (by decide) (fun s0=> ?_)
 unfold ref03_token at h
 refine W_rs (kAs rfl (kAs rfl (kAs rfl (W_rs (kAs rfl (a8 (W_rs (kMv rfl (kMv rfl ?_)))))))))
 obtain⟨x3,hx3,h⟩:=ah h
 refine kUn (qIdxS Tryz.underlying9 hx3) ?_
 refine cm h (ref03_digit_ok x3) rfl fun x4 _ h=> ?_
 refine a5 h rfl (fun _ h=> ?_) (fun _ h=> ?_)
 ·refine a8 (az ?_)
  obtain⟨z3l,hz3,h⟩:=ah h
  obtain⟨n3,hN3⟩:=bp hz3
  refine cq 0 (fun e C=>∃(x6:Int),ref03_token_k2 x1 x2 x6=some r/\At [(0,bv x1),(1,Pr.i64 x2),(7,Pr.i64 x6)] [] e C) ?_ ?_
  ·rintro e C ⟨x6,h,hat2⟩
   refine W_at hat2 ?_
   unfold ref03_token_k2 at h
   refine W_rs (kMv rfl (kMv rfl (kMv rfl (kMv rfl (kIn rfl rfl rfl ?_)))))
   obtain⟨x13,hx13,h⟩:=ah h
   refine kUn (qSubLH Tryz.underlying9 hx13) ?_
   refine cm h (ref03_great_ok x13) rfl fun x14 _ h=>kAs rfl (a8 ?_)
   refine bh (fun e C=>∃(x18:Bool),mi x6 x18=some r/\At [(7,Pr.i64 x6),(47,Pr.bool x18)] [] e C) ?_ ?_
   ·rintro e C ⟨x18,h,hat1⟩
    refine W_at hat1 ?_
    unfold mi at h
    refine a5 h rfl (fun _ h=> ?_) (fun _ h=> ?_)
    ·refine W_rs (kAs rfl (kAs rfl (kAs rfl ?_)))
     obtain rfl:=osj h
     exact bc ⟨rfl,aa⟩
    refine ax (W_rs (kMv rfl (kAs rfl (kAs rfl (kAs rfl ?_)))))
    obtain rfl:=osj h
    exact bc ⟨rfl,aa⟩
   refine W_r (kMv rfl (kMv rfl ?_))
   rcases bo h with⟨hc15,h⟩|⟨hc15,h⟩
   ·refine kSkF rfl aa hc15 (kSkF rfl aa hc15 (kSkF rfl aa hc15 (kSkU rfl aa (kSkU rfl aa (kSkU rfl aa (kSkU rfl aa (kSkF rfl aa hc15 (kPt rfl hc15 rfl ?_))))))))
    exact⟨true,h,atOk⟩
   refine kGd rfl aa hc15 (hMvA rfl) (kGd rfl aa hc15 (qInt rfl rfl rfl) (kGd rfl aa hc15 (hMvA rfl) ?_))
   rcases bo h with⟨hc16,h⟩|⟨hc16,h⟩
   ·refine kGd rfl aa hc16 (hMvA rfl) (kGd rfl aa hc16 (hMvA rfl) ?_)
    obtain⟨x17,hx17,h⟩:=ah h
    refine kGd rfl aa hc16 (qIdxS Tryz.underlying9 hx17) ?_
    refine kGd rfl aa hc16 (qInt rfl rfl rfl) (kGd rfl aa hc15 (hPt rfl hc16 rfl) (kPf rfl hc15 rfl ?_))
    exact⟨x17==48,h,atOk⟩
   refine kSkT rfl aa hc16 (kSkT rfl aa hc16 (kSkT rfl aa hc16 (kSkT rfl aa hc16 (kGd rfl aa hc15 (hPf rfl hc16 rfl) (kPf rfl hc15 rfl ?_)))))
   exact⟨false,h,atOk⟩
  refine c8 (fun m e C=>∃(x6:Int),dj (fun s=>pn x2 x1 s) m x6=some z3l/\At [(0,bv x1),(1,Pr.i64 x2),(7,Pr.i64 x6)] [] e C) n3 ⟨0,hN3,⟨⟨aa,aa,aa,trivial⟩,Pick.refl _⟩⟩ ?_
  rintro m e C ⟨x6,hN3,hatl3⟩
  refine W_at hatl3 ?_
  obtain⟨m3,w3l,rfl,h3l,hn3,ho3⟩:=bj hN3
  replace h3l:pn x2 x1 x6=some w3l:=h3l
  unfold pn at h3l
  refine a8 ?_
  refine bh (fun e C=>∃(x11:Bool),po x6 x11=some w3l/\At [(0,bv x1),(1,Pr.i64 x2),(7,Pr.i64 x6),(27,Pr.bool x11)] [] e C) ?_ ?_
  ·rintro e C ⟨x11,h3l,hat4⟩
   refine W_at hat4 ?_
   unfold po at h3l
   refine a5 h3l rfl (fun _ h3l=> ?_) (fun _ h3l=> ?_)
   ·refine ax (az (W_r (kMv rfl (kIn rfl rfl rfl (kAs rfl ?_)))))
    exact⟨m3,Nat.lt_succ_self _,w64 (x6+1),hn3 _ (Option.some.inj h3l).symm,atOk⟩
   refine c6 ?_
   obtain rfl:=ho3 _ (Option.some.inj h3l).symm
   exact⟨x6,h,atOk⟩
  refine W_r (kMv rfl (kMv rfl (kIn rfl rfl rfl (kMv rfl (kUn (qLenS rfl Tryz.underlying9) ?_)))))
  refine kIn rfl rfl rfl (kMv rfl ?_)
  rcases bo h3l with⟨hc8,h3l⟩|⟨hc8,h3l⟩
  ·refine kGd rfl aa hc8 (hMvA rfl) (kGd rfl aa hc8 (hMvA rfl) (kGd rfl aa hc8 (hMvA rfl) (kGd rfl aa hc8 (qInt rfl rfl rfl) ?_)))
   obtain⟨x9,hx9,h3l⟩:=ah h3l
   refine kGd rfl aa hc8 (qIdxS Tryz.underlying9 hx9) ?_
   obtain⟨x10,hx10,h3l⟩:=ah h3l
   refine kGd rfl aa hc8 (ct (ref03_digit_ok x9 _ hx10)) ?_
   refine kPt rfl hc8 rfl ?_
   exact⟨x10,h3l,atOk⟩
  refine kSkT rfl aa hc8 (kSkT rfl aa hc8 (kSkT rfl aa hc8 (kSkT rfl aa hc8 (kSkT rfl aa hc8 (kSkT rfl aa hc8 (kPf rfl hc8 rfl ?_))))))
  exact⟨false,h3l,atOk⟩
 refine ax (a8 (W_rs (kMv rfl (kMv rfl ?_))))
 obtain⟨x20,hx20,h⟩:=ah h
 refine kUn (qIdxS Tryz.underlying9 hx20) ?_
 refine cm h (ref03_letter_ok x20) rfl fun x21 _ h=> ?_
 refine a5 h rfl (fun _ h=> ?_) (fun _ h=> ?_)
 ·refine a8 (az ?_)
  obtain⟨z6l,hz6,h⟩:=ah h
  obtain⟨n6,hN6⟩:=bp hz6
  refine cq 2 (fun e C=>∃(x23:Int),ref03_token_k5 x1 x2 x23=some r/\At [(0,bv x1),(1,Pr.i64 x2),(7,Pr.i64 x23)] [] e C) ?_ ?_
  ·rintro e C ⟨x23,h,hat5⟩
   refine W_at hat5 ?_
   unfold ref03_token_k5 at h
   refine a8 (W_rs (kMv rfl (kIn rfl rfl rfl ?_)))
   refine a5 h rfl (fun _ h=> ?_) (fun _ h=> ?_)
   ·refine W_rs (kAs rfl (kAs rfl (kAs rfl ?_)))
    obtain rfl:=osj h
    exact bc ⟨rfl,aa⟩
   refine ax (W_rs (kMv rfl (kMv rfl (kMv rfl (kMv rfl (kIn rfl rfl rfl ?_))))))
   obtain⟨x34,hx34,h⟩:=ah h
   refine kUn (qSubLH Tryz.underlying9 hx34) ?_
   refine cm h (ref03_Kept_ok x34) rfl fun x35 _ h=>kAs rfl (a8 (W_rs (kMv rfl ?_)))
   refine a5 h rfl (fun _ h=> ?_) (fun _ h=> ?_)
   ·refine W_rs (kMv rfl (kAs rfl (kAs rfl (kAs rfl ?_))))
    obtain rfl:=osj h
    exact bc ⟨rfl,aa⟩
   refine ax (W_rs (kMv rfl (kAs rfl (kAs rfl (kAs rfl ?_)))))
   obtain rfl:=osj h
   exact bc ⟨rfl,aa⟩
  refine c8 (fun m e C=>∃(x23:Int),dj (fun s=>pm x2 x1 s) m x23=some z6l/\At [(0,bv x1),(1,Pr.i64 x2),(7,Pr.i64 x23)] [] e C) n6 ⟨0,hN6,⟨⟨aa,aa,aa,trivial⟩,Pick.refl _⟩⟩ ?_
  rintro m e C ⟨x23,hN6,hatl6⟩
  refine W_at hatl6 ?_
  obtain⟨m6,w6l,rfl,h6l,hn6,ho6⟩:=bj hN6
  replace h6l:pm x2 x1 x23=some w6l:=h6l
  unfold pm at h6l
  refine a8 ?_
  refine bh (fun e C=>∃(x31:Bool),mh x23 x31=some w6l/\At [(0,bv x1),(1,Pr.i64 x2),(7,Pr.i64 x23),(74,Pr.bool x31)] [] e C) ?_ ?_
  ·rintro e C ⟨x31,h6l,hat7⟩
   refine W_at hat7 ?_
   unfold mh at h6l
   refine a5 h6l rfl (fun _ h6l=> ?_) (fun _ h6l=> ?_)
   ·refine ax (az (W_r (kMv rfl (kIn rfl rfl rfl (kAs rfl ?_)))))
    exact⟨m6,Nat.lt_succ_self _,w64 (x23+1),hn6 _ (Option.some.inj h6l).symm,atOk⟩
   refine c6 ?_
   obtain rfl:=ho6 _ (Option.some.inj h6l).symm
   exact⟨x23,h,atOk⟩
  refine W_r (kMv rfl (kMv rfl (kIn rfl rfl rfl (kMv rfl (kUn (qLenS rfl Tryz.underlying9) ?_)))))
  refine kIn rfl rfl rfl (kMv rfl ?_)
  rcases bo h6l with⟨hc25,h6l⟩|⟨hc25,h6l⟩
  ·refine kGd rfl aa hc25 (hMvA rfl) (kGd rfl aa hc25 (hMvA rfl) (kGd rfl aa hc25 (hMvA rfl) (kGd rfl aa hc25 (qInt rfl rfl rfl) ?_)))
   obtain⟨x26,hx26,h6l⟩:=ah h6l
   refine kGd rfl aa hc25 (qIdxS Tryz.underlying9 hx26) ?_
   obtain⟨x27,hx27,h6l⟩:=ah h6l
   refine kGd rfl aa hc25 (ct (ref03_letter_ok x26 _ hx27)) ?_
   refine kGd rfl aa hc25 (hMvA rfl) ?_
   rcases bo h6l with⟨hc28,h6l⟩|⟨hc28,h6l⟩
   ·refine kSkF rfl aa hc28 (kSkF rfl aa hc28 (kSkF rfl aa hc28 (kSkF rfl aa hc28 (kSkF rfl aa hc28 (kSkF rfl aa hc28 (kGd rfl aa hc25 (hPt rfl hc28 rfl) (kPt rfl hc25 rfl ?_)))))))
    exact⟨true,h6l,atOk⟩
   refine kGd rfl aa hc28 (hMvA rfl) (kGd rfl aa hc28 (hMvA rfl) (kGd rfl aa hc28 (hMvA rfl) (kGd rfl aa hc28 (qInt rfl rfl rfl) ?_)))
   obtain⟨x29,hx29,h6l⟩:=ah h6l
   refine kGd rfl aa hc28 (qIdxS Tryz.underlying9 hx29) ?_
   obtain⟨x30,hx30,h6l⟩:=ah h6l
   refine kGd rfl aa hc28 (ct (ref03_digit_ok x29 _ hx30)) ?_
   refine kGd rfl aa hc25 (hPf rfl hc28 rfl) (kPt rfl hc25 rfl ?_)
   exact⟨x30,h6l,atOk⟩
  refine kSkT rfl aa hc25 (kSkT rfl aa hc25 (kSkT rfl aa hc25 (kSkT rfl aa hc25 (kSkT rfl aa hc25 (kSkT rfl aa hc25 (kSkT rfl aa hc25 (kSkU rfl aa (kSkU rfl aa (kSkU rfl aa (kSkU rfl aa (kSkU rfl aa ?_)))))))))))
  refine kSkU rfl aa (kSkT rfl aa hc25 (kPf rfl hc25 rfl ?_))
  exact⟨false,h6l,atOk⟩
 refine ax (W_rs (kMv rfl (kMv rfl (cm h (ref03_mark_ok x1 x2) rfl fun x37 _ h=>kAs rfl (a8 (W_rs (kMv rfl (kIn rfl rfl rfl ?_))))))))
 refine a5 h rfl (fun _ h=> ?_) (fun _ h=> ?_)
 ·refine W_rs (kAs rfl (kAs rfl (kAs rfl ?_)))
  obtain rfl:=osj h
  exact bc ⟨rfl,aa⟩
 refine ax (W_rs (kMv rfl (kAs rfl (kAs rfl (kAs rfl ?_)))))
 obtain rfl:=osj h
 exact bc ⟨rfl,aa⟩
theorem ref03_Lex_ok (x1:List UInt8) (r:(List ApiToken) × Int × Int) (h:ref03_Lex x1=some r):FnP Tryz.prog 21 [bv x1] (bk [aq bz r.1,Pr.i64 r.2.1,Pr.i64 r.2.2]):=by
 refine cu (rs:=[2,3,4]) Tryz.func21 rfl Tryz.ntmps21 ⟨by decide,Tryz.results21⟩ (by decide) (fun s0=> ?_)
 unfold ref03_Lex at h
 refine W_rs (kAs rfl (kAs rfl (kAs rfl (a8 (W_rs (kMv rfl (kUn (qLenS rfl Tryz.underlying9) ?_)))))))
 refine kIn rfl rfl rfl ?_
 refine a5 h rfl (fun _ h=> ?_) (fun _ h=> ?_)
 ·refine W_rs (kAs rfl (kAs rfl (kAs rfl ?_)))
  obtain rfl:=osj h
  exact bc ⟨rfl,tup_le ⟨c7 _,aa,aa,trivial⟩⟩
 refine ax (W_rs (kAs rfl (W_rs (kAs rfl (az ?_)))))
 obtain⟨n1,hN1⟩:=bp h
 refine W_nil [5] bz 45 (fun v24=> ?_) ⟨rfl,trivial⟩
 refine c8 (fun m e C=>∃(x4:Int),∃(x5:List ApiToken),∃(v3:Value),dj (fun s=>ref03_Lex_l1 x1 s.1 s.2) m (x4,x5)=some r/\At [(0,bv x1),(5,Pr.is v3),(6,Pr.i64 x4)] [Own.vec v3 bz x5 45] e C) n1 ⟨0,[],v24,hN1,⟨⟨aa,aa,aa,trivial⟩,Pick.refl _⟩⟩ ?_
 rintro m e C ⟨x4,x5,v3,hN1,hatl1⟩
 refine W_at hatl1 ?_
 obtain⟨m1,w1l,rfl,h1l,hn1,ho1⟩:=bj hN1
 replace h1l:ref03_Lex_l1 x1 x4 x5=some w1l:=h1l
 unfold ref03_Lex_l1 at h1l
 refine az (W_rs (kMv rfl (kMv rfl ?_)))
 obtain⟨⟨x9,x10⟩,hx9,h1l⟩:=ah h1l
 refine kUn (ct (ref03_between_ok x1 x4 _ hx9)) ?_
 refine kUn (hMv (out:=bk [Pr.i64 x9,Pr.bool x10]) rfl) (kUn au ?_)
 refine kUn au ?_
 refine kAs rfl (kAs rfl (a8 (W_rs (kMv rfl (kNo rfl ?_)))))
 refine a5 h1l rfl (fun _ h1l=> ?_) (fun _ h1l=> ?_)
 ·refine W_rs (kMv rfl (kAs rfl (kAs rfl (kAs rfl ?_))))
  have h:some ([],x9,32)=some r:=congrArg some (ho1 _ (Option.some.inj h1l).symm)
  obtain rfl:=osj h
  exact bc ⟨rfl,tup_le ⟨c7 _,aa,aa,trivial⟩⟩
 refine ax (a8 (W_rs (kMv rfl (kMv rfl (kUn (qLenS rfl Tryz.underlying9) ?_)))))
 refine kIn rfl rfl rfl ?_
 refine a5 h1l rfl (fun _ h1l=> ?_) (fun _ h1l=> ?_)
 ·refine W_rs (kMv rfl (kMv rfl (kMv rfl (kMv rfl ?_))))
  obtain⟨x13,hx13,h1l⟩:=ah h1l
  refine kUn (qSubL Tryz.underlying9 hx13) ?_
  refine kUn (fv st45 ⟨(ApiToken.mk 5 [] 0 []),⟨_,rfl,rfl,fun j fd hj hf=>by match j,hj with| 0,h=>exact absurd rfl h| 1,_=>cases hf;rfl| 2,_=>cases hf;rfl| 3,_=>cases hf;rfl|_+4,_=>cases hf⟩,⟨(ApiToken.mk 5 [] x9 []),⟨_,rfl,rfl,fun j fd hj hf=>by match j,hj with| 0,_=>cases hf;rfl| 1,_=>cases hf;rfl| 2,h=>exact absurd rfl h| 3,_=>cases hf;rfl|_+4,_=>cases hf⟩,⟨(ApiToken.mk 5 [] x9 x13),⟨_,rfl,rfl,fun j fd hj hf=>by match j,hj with| 0,_=>cases hf;rfl| 1,_=>cases hf;rfl| 2,_=>cases hf;rfl| 3,h=>exact absurd rfl h|_+4,_=>cases hf⟩,rfl⟩⟩⟩) ?_
  refine kUn (cl (R:=bz) (a:=(ApiToken.mk 5 [] x9 x13)) el41 (Nat.le_of_ble_eq_true rfl)) ?_
  obtain⟨x14,hx14,h1l⟩:=ah h1l
  refine ev 0 el41 hx14 (fun v15=> ?_)
  refine kAs rfl (kAs rfl (kAs rfl ?_))
  have h:some (x14,0,0)=some r:=congrArg some (ho1 _ (Option.some.inj h1l).symm)
  refine W_rel 0 [2] ?_ rfl ⟨rfl,trivial⟩
  obtain rfl:=osj h
  exact bc ⟨rfl,aa⟩
 refine ax (W_rs (kMv rfl (kMv rfl ?_)))
 obtain⟨⟨x16,x17,x18⟩,hx16,h1l⟩:=ah h1l
 refine kUn (ct (ref03_token_ok x1 x9 _ hx16)) ?_
 refine kUn (hMv (out:=bk [Pr.i64 x16,Pr.i64 x17,Pr.i64 x18]) rfl) (kUn au ?_)
 refine kUn au ?_
 refine kUn au ?_
 refine kAs rfl (kAs rfl (kAs rfl (a8 (W_rs (kMv rfl (kIn rfl rfl rfl ?_))))))
 refine a5 h1l rfl (fun _ h1l=> ?_) (fun _ h1l=> ?_)
 ·refine W_rs (kMv rfl (kMv rfl (kAs rfl (kAs rfl (kAs rfl ?_)))))
  have h:some ([],x9,x18)=some r:=congrArg some (ho1 _ (Option.some.inj h1l).symm)
  obtain rfl:=osj h
  exact bc ⟨rfl,tup_le ⟨c7 _,aa,aa,trivial⟩⟩
 refine ax ?_
 refine bh (fun e C=>∃(x22:List ApiToken),∃(v23:Value),ref03_Lex_j2 x9 x17 x22=some w1l/\At [(0,bv x1),(5,Pr.is v23),(7,Pr.i64 x9),(10,Pr.i64 x17)] [Own.vec v23 bz x22 45] e C) ?_ ?_
 ·rintro e C ⟨x22,v23,h1l,hat2⟩
  refine W_at hat2 ?_
  unfold ref03_Lex_j2 at h1l
  refine W_r (kMv rfl (kMv rfl (kIn rfl rfl rfl (kAs rfl ?_))))
  exact⟨m1,Nat.lt_succ_self _,w64 (x9+x17),x22,v23,hn1 _ (Option.some.inj h1l).symm,atOk⟩
 refine eo 15 hmx (by kernel_rfl) (by kernel_rfl) ?_
 refine lUn (hMvA rfl) (lUn (hMvA rfl) (lUn (hMvA rfl) (lUn (hMvA rfl) (lUn (hMvA rfl) (lUn (hMvA rfl) (lUn (qInt rfl rfl rfl) ?_))))))
 obtain⟨x20,hx20,h1l⟩:=ah h1l
 refine lUn (qSubLH Tryz.underlying9 hx20) ?_
 refine lUn (hMvA rfl) (lUn (hMvA rfl) (lUn (hMvA rfl) (lUn (hMvA rfl) ?_)))
 obtain⟨x21,hx21,h1l⟩:=ah h1l
 refine lUn (qSubLH Tryz.underlying9 hx21) ?_
 refine lUn (fv st45 ⟨(ApiToken.mk x16 [] 0 []),⟨_,rfl,rfl,fun j fd hj hf=>by match j,hj with| 0,h=>exact absurd rfl h| 1,_=>cases hf;rfl| 2,_=>cases hf;rfl| 3,_=>cases hf;rfl|_+4,_=>cases hf⟩,⟨(ApiToken.mk x16 x20 0 []),⟨_,rfl,rfl,fun j fd hj hf=>by match j,hj with| 0,_=>cases hf;rfl| 1,h=>exact absurd rfl h| 2,_=>cases hf;rfl| 3,_=>cases hf;rfl|_+4,_=>cases hf⟩,⟨(ApiToken.mk x16 x20 x9 []),⟨_,rfl,rfl,fun j fd hj hf=>by match j,hj with| 0,_=>cases hf;rfl| 1,_=>cases hf;rfl| 2,h=>exact absurd rfl h| 3,_=>cases hf;rfl|_+4,_=>cases hf⟩,⟨(ApiToken.mk x16 x20 x9 x21),⟨_,rfl,rfl,fun j fd hj hf=>by match j,hj with| 0,_=>cases hf;rfl| 1,_=>cases hf;rfl| 2,_=>cases hf;rfl| 3,h=>exact absurd rfl h|_+4,_=>cases hf⟩,rfl⟩⟩⟩⟩) ?_
 refine lUn (cl (R:=bz) (a:=(ApiToken.mk x16 x20 x9 x21)) el41 (Nat.le_of_ble_eq_true rfl)) ?_
 obtain⟨x22,hx22,h1l⟩:=ah h1l
 refine ev 0 el41 hx22 (fun v23=> ?_)
 refine kAs rfl ?_
 exact⟨x22,v23,h1l,atOk⟩
theorem bu (x1:List ApiToken) (x2:Int) (x3:List UInt8) (r:Bool) (h:cn x1 x2 x3=some r):FnP Tryz.prog 92 [aq bz x1,Pr.i64 x2,bv x3] (Pr.bool r):=by
 refine cu (rs:=[6]) Tryz.func92 rfl Tryz.ntmps92 ⟨by decide,Tryz.results92⟩ (by decide) (fun s0=> ?_)
 unfold cn at h
 refine W_rs (kAs rfl ?_)
 refine bh (fun e C=>∃(x18:Bool),ub x18=some r/\At [(6,Pr.bool x18)] [] e C) ?_ ?_
 ·rintro e C ⟨x18,h,hat1⟩
  refine W_at hat1 ?_
  unfold ub at h
  obtain rfl:=osj h
  exact bc ⟨rfl,aa⟩
 refine W_r (kMv rfl (kMvL rfl (kUn (iz rfl Tryz.underlying41) ?_)))
 refine kIn rfl rfl rfl (kMv rfl ?_)
 rcases bo h with⟨hc4,h⟩|⟨hc4,h⟩
 ·refine kGd rfl aa hc4 (hMvL rfl) (kGd rfl aa hc4 (hMvA rfl) ?_)
  obtain⟨x5,hx5,h⟩:=ah h
  refine kGd rfl aa hc4 (dg Tryz.underlying41 Tryz.sizeOf45 hx5) ?_
  refine kGd rfl aa hc4 (d5 fld45_1 dw) ?_
  refine kGd rfl aa hc4 (cf ty9) ?_
  refine kGd rfl aa hc4 (hMvA rfl) (kGd rfl aa hc4 (qStr rfl rfl rfl) (kPt rfl hc4 rfl (kMv rfl ?_)))
  rcases bo h with⟨hc6,h⟩|⟨hc6,h⟩
  ·refine kGd rfl aa hc6 (hMvL rfl) (kGd rfl aa hc6 (hMvA rfl) ?_)
   obtain⟨x7,hx7,h⟩:=ah h
   refine kGd rfl aa hc6 (dg Tryz.underlying41 Tryz.sizeOf45 hx7) ?_
   refine kGd rfl aa hc6 (d5 fld45_0 o0) ?_
   refine kGd rfl aa hc6 (cf ty3) ?_
   refine kGd rfl aa hc6 (qInt rfl rfl rfl) (kPt rfl hc6 rfl (kMv rfl ?_))
   rcases bo h with⟨hc8,h⟩|⟨hc8,h⟩
   ·refine kGd rfl aa hc8 (hMvL rfl) (kGd rfl aa hc8 (hMvA rfl) ?_)
    obtain⟨x9,hx9,h⟩:=ah h
    refine kGd rfl aa hc8 (dg Tryz.underlying41 Tryz.sizeOf45 hx9) ?_
    refine kGd rfl aa hc8 (d5 fld45_0 o0) ?_
    refine kGd rfl aa hc8 (cf ty3) ?_
    refine kGd rfl aa hc8 (qInt rfl rfl rfl) (kPt rfl hc8 rfl (kAs rfl ?_))
    exact⟨x9.Kind != 5,h,atOk⟩
   refine kSkT rfl aa hc8 (kSkT rfl aa hc8 (kSkT rfl aa hc8 (kSkT rfl aa hc8 (kSkT rfl aa hc8 (kSkT rfl aa hc8 (kPf rfl hc8 rfl (kAs rfl ?_)))))))
   exact⟨false,h,atOk⟩
  refine kSkT rfl aa hc6 (kSkT rfl aa hc6 (kSkT rfl aa hc6 (kSkT rfl aa hc6 (kSkT rfl aa hc6 (kSkT rfl aa hc6 (kPf rfl hc6 rfl (kMv rfl ?_)))))))
  have hc10:false=false:=rfl
  refine kSkT rfl aa hc10 (kSkT rfl aa hc10 (kSkT rfl aa hc10 (kSkT rfl aa hc10 (kSkT rfl aa hc10 (kSkT rfl aa hc10 (kPf rfl hc10 rfl (kAs rfl ?_)))))))
  exact⟨false,h,atOk⟩
 refine kSkT rfl aa hc4 (kSkT rfl aa hc4 (kSkT rfl aa hc4 (kSkT rfl aa hc4 (kSkT rfl aa hc4 (kSkT rfl aa hc4 (kSkT rfl aa hc4 (kPf rfl hc4 rfl (kMv rfl ?_))))))))
 have hc12:false=false:=rfl
 refine kSkT rfl aa hc12 (kSkT rfl aa hc12 (kSkT rfl aa hc12 (kSkT rfl aa hc12 (kSkT rfl aa hc12 (kSkT rfl aa hc12 (kPf rfl hc12 rfl (kMv rfl ?_)))))))
 have hc16:false=false:=rfl
 refine kSkT rfl aa hc16 (kSkT rfl aa hc16 (kSkT rfl aa hc16 (kSkT rfl aa hc16 (kSkT rfl aa hc16 (kSkT rfl aa hc16 (kPf rfl hc16 rfl (kAs rfl ?_)))))))
 exact⟨false,h,atOk⟩
theorem cg (x1:Int) (r:Ref12Wrong) (h:cp x1=some r):FnP Tryz.prog 93 [Pr.i64 x1] ((ag).val r):=by
 refine c4 (rs:=[.cell 2 97]) Tryz.func93 rfl Tryz.ntmps93 Tryz.results93 (by decide) (fun s0=> ?_)
 unfold cp at h
 refine W_rs (bq al97 fun b2=>W_rs (kMv rfl (kUn (fv st97 ⟨(Ref12Wrong.mk x1 0),⟨_,rfl,rfl,fun j fd hj hf=>by match j,hj with| 0,h=>exact absurd rfl h| 1,_=>cases hf;rfl|_+2,_=>cases hf⟩,⟨(Ref12Wrong.mk x1 120),⟨_,rfl,rfl,fun j fd hj hf=>by match j,hj with| 0,_=>cases hf;rfl| 1,h=>exact absurd rfl h|_+2,_=>cases hf⟩,rfl⟩⟩) ?_)))
 refine av 0 rfl rfl (Upd.refl _) rfl Tryz.sizeOf97 ?_
 obtain rfl:=osj h
 exact bc ⟨rfl,[(ag).val (Ref12Wrong.mk x1 120)],⟨yBox 0 ty97 aa,trivial⟩,aa⟩
theorem il (x1:List ApiToken) (x2:Int) (r:Bool) (h:gx x1 x2=some r):FnP Tryz.prog 94 [aq bz x1,Pr.i64 x2] (Pr.bool r):=by
 refine cu (rs:=[4]) Tryz.func94 rfl Tryz.ntmps94 ⟨by decide,Tryz.results94⟩ (by decide) (fun s0=> ?_)
 unfold gx at h
 refine W_rs (kAs rfl ?_)
 refine bh (fun e C=>∃(x5:Bool),rl x5=some r/\At [(4,Pr.bool x5)] [] e C) ?_ ?_
 ·rintro e C ⟨x5,h,hat1⟩
  refine W_at hat1 ?_
  unfold rl at h
  obtain rfl:=osj h
  exact bc ⟨rfl,aa⟩
 refine W_r (kMv rfl (kMvL rfl (kUn (iz rfl Tryz.underlying41) ?_)))
 refine kIn rfl rfl rfl (kMv rfl ?_)
 rcases bo h with⟨hc3,h⟩|⟨hc3,h⟩
 ·refine kGd rfl aa hc3 (hMvL rfl) (kGd rfl aa hc3 (hMvA rfl) ?_)
  obtain⟨x4,hx4,h⟩:=ah h
  refine kGd rfl aa hc3 (dg Tryz.underlying41 Tryz.sizeOf45 hx4) ?_
  refine kGd rfl aa hc3 (d5 fld45_0 o0) ?_
  refine kGd rfl aa hc3 (cf ty3) ?_
  refine kGd rfl aa hc3 (qInt rfl rfl rfl) (kPt rfl hc3 rfl (kAs rfl ?_))
  exact⟨x4.Kind==1,h,atOk⟩
 refine kSkT rfl aa hc3 (kSkT rfl aa hc3 (kSkT rfl aa hc3 (kSkT rfl aa hc3 (kSkT rfl aa hc3 (kSkT rfl aa hc3 (kPf rfl hc3 rfl (kAs rfl ?_)))))))
 exact⟨false,h,atOk⟩
theorem ref12_end_ok (x1:List ApiToken) (x2 r:Int) (h:ref12_end x1 x2=some r):FnP Tryz.prog 142 [aq bz x1,Pr.i64 x2] (Pr.i64 r):=by
 refine cu (rs:=[4]) Tryz.func142 rfl Tryz.ntmps142 ⟨by decide,Tryz.results142⟩ (by decide) (fun s0=> ?_)
 unfold ref12_end at h
 refine W_rs (kAs rfl ?_)
 refine bh (fun e C=>∃(x3:ApiToken),∃(x4:ApiToken),ref12_end_j1 x3 x4=some r/\At [(4,Pr.i64 (w64 (x3.At+(x4.Text.length:Int))))] [] e C) ?_ ?_
 ·rintro e C ⟨x3,x4,h,hat1⟩
  refine W_at hat1 ?_
  unfold ref12_end_j1 at h
  obtain rfl:=osj h
  exact bc ⟨rfl,aa⟩
 refine eo 15 hmx (by kernel_rfl) (by kernel_rfl) ?_
 refine lUn (hMvL rfl) (lUn (hMvA rfl) (lUn (qInt rfl rfl rfl) ?_))
 obtain⟨x3,hx3,h⟩:=ah h
 refine lUn (dg Tryz.underlying41 Tryz.sizeOf45 hx3) ?_
 refine lUn (d5 fld45_2 ii) ?_
 refine lUn (cf ty3) ?_
 refine lUn (hMvL rfl) (lUn (hMvA rfl) (lUn (qInt rfl rfl rfl) ?_))
 obtain⟨x4,hx4,h⟩:=ah h
 refine lUn (dg Tryz.underlying41 Tryz.sizeOf45 hx4) ?_
 refine lUn (d5 fld45_1 dw) ?_
 refine lUn (cf ty9) ?_
 refine lUn (qLenS rfl Tryz.underlying9) ?_
 refine lUn (qInt rfl rfl rfl) (lUn (hAsA rfl) ?_)
 exact⟨x3,x4,h,atOk⟩
theorem db (x1:List ApiToken) (x2 x3 x4:Int) (x5:List ApiNode) (r:ApiNode) (h:dv x1 x2 x3 x4 x5=some r):FnP Tryz.prog 96 [aq bz x1,Pr.i64 x2,Pr.i64 x3,Pr.i64 x4,aq ab x5] ((ab).val r):=by
 refine c4 (rs:=[.cell 10 64]) Tryz.func96 rfl Tryz.ntmps96 Tryz.results96 (by decide) (fun s0=> ?_)
 unfold dv at h
 refine W_rs (bq al64 fun b6=> ?_)
 refine bh (fun e C=>∃(x7:ApiToken),∃(x8:Int),ref12_made_j1 x2 x5 x7 x8=some r/\At [(10,am b6 0)] [Own.box b6 ab (ApiNode.mk x2 [] [] 0 x7.At x8 (-1) (-1) x5)] e C) ?_ ?_
 ·rintro e C ⟨x7,x8,h,hat1⟩
  refine W_at hat1 ?_
  unfold ref12_made_j1 at h
  obtain rfl:=osj h
  exact bc ⟨rfl,[(ab).val (ApiNode.mk x2 [] [] 0 x7.At x8 (-1) (-1) x5)],⟨yBox 0 ty64 aa,trivial⟩,aa⟩
 refine eo 11 hmx (by kernel_rfl) (by kernel_rfl) ?_
 refine lUn (hMvA rfl) (lUn (hMvL rfl) (lUn (hMvA rfl) ?_))
 obtain⟨x7,hx7,h⟩:=ah h
 refine lUn (dg Tryz.underlying41 Tryz.sizeOf45 hx7) ?_
 refine lUn (d5 fld45_2 ii) ?_
 refine lUn (cf ty3) ?_
 refine lUn (hMvL rfl) (lUn (hMvA rfl) ?_)
 obtain⟨x8,hx8,h⟩:=ah h
 refine lUn (ct (ref12_end_ok x1 x4 _ hx8)) ?_
 refine lUn (hMvL rfl) (lUn (di bb st64 ⟨(ApiNode.mk x2 [] [] 0 0 0 0 0 []),⟨_,rfl,rfl,fun j fd hj hf=>by match j,hj with| 0,h=>exact absurd rfl h| 1,_=>cases hf;rfl| 2,_=>cases hf;rfl| 3,_=>cases hf;rfl| 4,_=>cases hf;rfl| 5,_=>cases hf;rfl| 6,_=>cases hf;rfl| 7,_=>cases hf;rfl| 8,_=>cases hf;rfl|_+9,_=>cases hf⟩,⟨(ApiNode.mk x2 [] [] 0 x7.At 0 0 0 []),⟨_,rfl,rfl,fun j fd hj hf=>by match j,hj with| 0,_=>cases hf;rfl| 1,_=>cases hf;rfl| 2,_=>cases hf;rfl| 3,_=>cases hf;rfl| 4,h=>exact absurd rfl h| 5,_=>cases hf;rfl| 6,_=>cases hf;rfl| 7,_=>cases hf;rfl| 8,_=>cases hf;rfl|_+9,_=>cases hf⟩,⟨(ApiNode.mk x2 [] [] 0 x7.At x8 0 0 []),⟨_,rfl,rfl,fun j fd hj hf=>by match j,hj with| 0,_=>cases hf;rfl| 1,_=>cases hf;rfl| 2,_=>cases hf;rfl| 3,_=>cases hf;rfl| 4,_=>cases hf;rfl| 5,h=>exact absurd rfl h| 6,_=>cases hf;rfl| 7,_=>cases hf;rfl| 8,_=>cases hf;rfl|_+9,_=>cases hf⟩,⟨(ApiNode.mk x2 [] [] 0 x7.At x8 (-1) 0 []),⟨_,rfl,rfl,fun j fd hj hf=>by match j,hj with| 0,_=>cases hf;rfl| 1,_=>cases hf;rfl| 2,_=>cases hf;rfl| 3,_=>cases hf;rfl| 4,_=>cases hf;rfl| 5,_=>cases hf;rfl| 6,h=>exact absurd rfl h| 7,_=>cases hf;rfl| 8,_=>cases hf;rfl|_+9,_=>cases hf⟩,⟨(ApiNode.mk x2 [] [] 0 x7.At x8 (-1) (-1) []),⟨_,rfl,rfl,fun j fd hj hf=>by match j,hj with| 0,_=>cases hf;rfl| 1,_=>cases hf;rfl| 2,_=>cases hf;rfl| 3,_=>cases hf;rfl| 4,_=>cases hf;rfl| 5,_=>cases hf;rfl| 6,_=>cases hf;rfl| 7,h=>exact absurd rfl h| 8,_=>cases hf;rfl|_+9,_=>cases hf⟩,⟨(ApiNode.mk x2 [] [] 0 x7.At x8 (-1) (-1) x5),⟨_,rfl,rfl,fun j fd hj hf=>by match j,hj with| 0,_=>cases hf;rfl| 1,_=>cases hf;rfl| 2,_=>cases hf;rfl| 3,_=>cases hf;rfl| 4,_=>cases hf;rfl| 5,_=>cases hf;rfl| 6,_=>cases hf;rfl| 7,_=>cases hf;rfl| 8,h=>exact absurd rfl h|_+9,_=>cases hf⟩,rfl⟩⟩⟩⟩⟩⟩) ?_)
 refine av 0 rfl rfl (Upd.refl _) rfl Tryz.sizeOf64 ?_
 exact⟨x7,x8,h,atOk⟩
end Go.Proofs.YtcndghapmoaidaaGreatDoor
