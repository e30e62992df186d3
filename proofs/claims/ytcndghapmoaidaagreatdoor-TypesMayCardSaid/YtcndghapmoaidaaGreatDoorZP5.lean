/- The code comes to what these functions say (printed by wip/gen/gen.py). -/
import Derived.Test.YtcndghapmoaidaaGreatDoorZX
import Derived.Test.YtcndghapmoaidaaGreatDoorZP4
import Derived.Test.YtcndghapmoaidaaGreatDoorZT
set_option linter.unusedSimpArgs false
set_option linter.unusedVariables false
set_option linter.unusedSectionVars false
set_option linter.unusedSectionVars false
set_option maxRecDepth 100000
set_option maxHeartbeats 4000000
namespace Go.Proofs.YtcndghapmoaidaaGreatDoor
open Go Go.Cn
attribute [local irreducible] eg ar
theorem ref15_Table_ok (x1:List (List ApiNode)) (r:(List ApiEntity) × ApiMistake) (h:ref15_Table x1=some r):FnP Tryz.prog 20 [ar (bl af) x1] (br [ar ag r.1,(am).val r.2]):=by
  refine c7 (rs:=[.tmp 2,.cell 3 30]) Tryz.func20 rfl Tryz.ntmps20 Tryz.results20 (by decide) (fun s0=> ?_)
  unfold ref15_Table at h
  refine W_rs (kAs rfl (bw al30 fun b2=>W_rs (kAs rfl (ba (W_rs (kAs rfl (a5 ?_)))))))
  obtain⟨z2l,hz2,h⟩:=aj h
  obtain⟨n2,hN2⟩:=bt hz2
  refine cv 0 (fun e C=>∃(x5:List ApiEntity),∃(v3:Value),ref15_Table_k1 x5=some r/\At [(3,ao b2 0),(4,Pr.is v3)] [Own.box b2 am (ApiMistake.mk 0 0 0),Own.vec v3 ag x5 49] e C) ?_ ?_
  · rintro e C ⟨x5,v3,h,hat1⟩
    refine W_at hat1 ?_
    unfold ref15_Table_k1 at h
    refine W_rs (kMv rfl (kUn (fu st30 rfl) ?_))
    refine kAs rfl (ax 0 rfl rfl (Upd.refl _) rfl Tryz.sizeOf30 ?_)
    refine W_rel 1 [2] ?_ rfl ⟨rfl,trivial⟩
    obtain rfl:=osj h
    exact bh ⟨rfl,[ar ag x5,(am).val (ApiMistake.mk 0 0 0)],⟨yT aa,yBox 0 ty30 aa,trivial⟩,aa⟩
  refine W_nil [4] ag 49 (fun v56=> ?_) ⟨rfl,trivial⟩
  refine da (fun m e C=>∃(x4:Int),∃(x5:List ApiEntity),∃(v3:Value),dn (fun s=>ref15_Table_l2 x1 s.1 s.2) m (x4,x5)=some z2l/\At [(0,ar (bl af) x1),(3,ao b2 0),(4,Pr.is v3),(5,Pr.i64 x4)] [Own.box b2 am (ApiMistake.mk 0 0 0),Own.vec v3 ag x5 49] e C) n2 ⟨0,[],v56,hN2,⟨⟨aa,aa,aa,aa,trivial⟩,Pick.refl _⟩⟩ ?_
  rintro m e C ⟨x4,x5,v3,hN2,hatl2⟩
  refine W_at hatl2 ?_
  obtain⟨m2,w2l,rfl,h2l,hn2,ho2⟩:=bk hN2
  replace h2l:ref15_Table_l2 x1 x4 x5=some w2l:=h2l
  unfold ref15_Table_l2 at h2l
  refine ba (W_rs (kMv rfl (kMvL rfl (kUn (gy rfl Tryz.underlying24) ?_))))
  refine kIn rfl rfl rfl ?_
  refine a8 h2l rfl (fun _ h2l=> ?_) (fun _ h2l=> ?_)
  · refine az (ba (a5 (W_rs (kAs rfl (a5 ?_)))))
    obtain⟨z4l,hz4,h2l⟩:=aj h2l
    obtain⟨n4,hN4⟩:=bt hz4
    refine cv 2 (fun e C=>∃(x12:List ApiEntity),∃(v10:Value),ref15_Table_k3 x4 x12=some w2l/\At [(0,ar (bl af) x1),(3,ao b2 0),(4,Pr.is v10),(5,Pr.i64 x4)] [Own.box b2 am (ApiMistake.mk 0 0 0),Own.vec v10 ag x12 49] e C) ?_ ?_
    · rintro e C ⟨x12,v10,h2l,hat3⟩
      refine W_at hat3 ?_
      unfold ref15_Table_k3 at h2l
      refine W_r (kMv rfl (kIn rfl rfl rfl (kAs rfl ?_)))
      exact⟨m2,Nat.lt_succ_self _,w64 (x4+1),x12,v10,hn2 _ (Option.some.inj h2l).symm,atOk⟩
    refine da (fun m e C=>∃(x11:Int),∃(x12:List ApiEntity),∃(v10:Value),dn (fun s=>ref15_Table_l4 x1 x4 s.1 s.2) m (x11,x12)=some z4l/\At [(0,ar (bl af) x1),(3,ao b2 0),(4,Pr.is v10),(5,Pr.i64 x4),(6,Pr.i64 x11)] [Own.box b2 am (ApiMistake.mk 0 0 0),Own.vec v10 ag x12 49] e C) n4 ⟨0,x5,v3,hN4,⟨⟨aa,aa,aa,aa,aa,trivial⟩,Pick.refl _⟩⟩ ?_
    rintro m e C ⟨x11,x12,v10,hN4,hatl4⟩
    refine W_at hatl4 ?_
    obtain⟨m4,w4l,rfl,h4l,hn4,ho4⟩:=bk hN4
    replace h4l:ref15_Table_l4 x1 x4 x11 x12=some w4l:=h4l
    unfold ref15_Table_l4 at h4l
    refine ba (W_rs (kMv rfl (kMvL rfl (kMv rfl ?_))))
    obtain⟨x16,hx16,h4l⟩:=aj h4l
    refine kUn (dh Tryz.underlying24 Tryz.sizeOf53 hx16) ?_
    refine kUn (cl ty53) ?_
    refine kUn (gy rfl Tryz.underlying53) ?_
    refine kIn rfl rfl rfl ?_
    refine a8 h4l rfl (fun _ h4l=> ?_) (fun _ h4l=> ?_)
    · refine az ?_
      refine bj (fun e C=>∃(x55:List ApiEntity),∃(x19:ApiNode),∃(v54:Value),∃(b20:Nat),ref15_Table_j5 x11 x55 x19=some w4l/\At [(0,ar (bl af) x1),(3,ao b2 0),(4,Pr.is v54),(5,Pr.i64 x4),(6,Pr.i64 x11)] [Own.box b2 am (ApiMistake.mk 0 0 0),Own.vec v54 ag x55 49,Own.box b20 af x19] e C) ?_ ?_
      · rintro e C ⟨x55,x19,v54,b20,h4l,hat5⟩
        refine W_at hat5 ?_
        unfold ref15_Table_j5 at h4l
        refine W_r (kMv rfl (kIn rfl rfl rfl (kAs rfl ?_)))
        exact⟨m4,Nat.lt_succ_self _,w64 (x11+1),x55,v54,hn4 _ (Option.some.inj h4l).symm,⟨⟨aa,aa,aa,aa,aa,trivial⟩,Pick.of [0,1] rfl⟩⟩
      refine a5 (W_rs (kMvL rfl (kMv rfl ?_)))
      obtain⟨x18,hx18,h4l⟩:=aj h4l
      refine kUn (dh Tryz.underlying24 Tryz.sizeOf53 hx18) ?_
      refine kUn (cl ty53) ?_
      refine kMv rfl ?_
      obtain⟨x19,hx19,h4l⟩:=aj h4l
      refine kUn (dh Tryz.underlying53 Tryz.sizeOf64 hx19) ?_
      refine kUn (cl ty64) ?_
      refine bw al64 fun b20=>ax 2 rfl rfl (Upd.refl _) rfl Tryz.sizeOf64 (ba (W_rs (kUn (ak dx) ?_)))
      refine kUn (au 2 ty3 bo) ?_
      refine kIn rfl rfl rfl ?_
      refine a8 h4l rfl (fun _ h4l=> ?_) (fun _ h4l=> ?_)
      · refine db ?_
        exact⟨x12,x19,v10,b20,h4l,atOk⟩
      refine az (W_rs (kMv rfl (kUn (ak ej) ?_)))
      refine kUn (au 2 ty9 cd) ?_
      refine kUn (ak ej) ?_
      refine kUn (au 2 ty9 cd) ?_
      refine kUn (ak pz) ?_
      refine kUn (au 2 ty9 d8) ?_
      refine kMv rfl (kUn (ak mb) ?_)
      refine kUn (au 2 ty3 eu) ?_
      refine kUn (fu st49 ⟨(ApiEntity.mk 1 [] [] [] [] false [] 0 0),⟨_,rfl,rfl,fun j fd hj hf=>by match j,hj with| 0,h=>exact absurd rfl h| 1,_=>cases hf;rfl| 2,_=>cases hf;rfl| 3,_=>cases hf;rfl| 4,_=>cases hf;rfl| 5,_=>cases hf;rfl| 6,_=>cases hf;rfl| 7,_=>cases hf;rfl| 8,_=>cases hf;rfl|_+9,_=>cases hf⟩,⟨(ApiEntity.mk 1 x19.Text [] [] [] false [] 0 0),⟨_,rfl,rfl,fun j fd hj hf=>by match j,hj with| 0,_=>cases hf;rfl| 1,h=>exact absurd rfl h| 2,_=>cases hf;rfl| 3,_=>cases hf;rfl| 4,_=>cases hf;rfl| 5,_=>cases hf;rfl| 6,_=>cases hf;rfl| 7,_=>cases hf;rfl| 8,_=>cases hf;rfl|_+9,_=>cases hf⟩,⟨(ApiEntity.mk 1 x19.Text x19.Text [] [] false [] 0 0),⟨_,rfl,rfl,fun j fd hj hf=>by match j,hj with| 0,_=>cases hf;rfl| 1,_=>cases hf;rfl| 2,h=>exact absurd rfl h| 3,_=>cases hf;rfl| 4,_=>cases hf;rfl| 5,_=>cases hf;rfl| 6,_=>cases hf;rfl| 7,_=>cases hf;rfl| 8,_=>cases hf;rfl|_+9,_=>cases hf⟩,⟨(ApiEntity.mk 1 x19.Text x19.Text [] x19.Type_ false [] 0 0),⟨_,rfl,rfl,fun j fd hj hf=>by match j,hj with| 0,_=>cases hf;rfl| 1,_=>cases hf;rfl| 2,_=>cases hf;rfl| 3,_=>cases hf;rfl| 4,h=>exact absurd rfl h| 5,_=>cases hf;rfl| 6,_=>cases hf;rfl| 7,_=>cases hf;rfl| 8,_=>cases hf;rfl|_+9,_=>cases hf⟩,⟨(ApiEntity.mk 1 x19.Text x19.Text [] x19.Type_ false [] x4 0),⟨_,rfl,rfl,fun j fd hj hf=>by match j,hj with| 0,_=>cases hf;rfl| 1,_=>cases hf;rfl| 2,_=>cases hf;rfl| 3,_=>cases hf;rfl| 4,_=>cases hf;rfl| 5,_=>cases hf;rfl| 6,_=>cases hf;rfl| 7,h=>exact absurd rfl h| 8,_=>cases hf;rfl|_+9,_=>cases hf⟩,⟨(ApiEntity.mk 1 x19.Text x19.Text [] x19.Type_ false [] x4 x19.At),⟨_,rfl,rfl,fun j fd hj hf=>by match j,hj with| 0,_=>cases hf;rfl| 1,_=>cases hf;rfl| 2,_=>cases hf;rfl| 3,_=>cases hf;rfl| 4,_=>cases hf;rfl| 5,_=>cases hf;rfl| 6,_=>cases hf;rfl| 7,_=>cases hf;rfl| 8,h=>exact absurd rfl h|_+9,_=>cases hf⟩,rfl⟩⟩⟩⟩⟩⟩) ?_
      refine kUn (cr (R:=ag) (a:=(ApiEntity.mk 1 x19.Text x19.Text [] x19.Type_ false [] x4 x19.At)) el38 (Nat.le_of_ble_eq_true rfl)) ?_
      obtain⟨x22,hx22,h4l⟩:=aj h4l
      refine ff 1 el38 hx22 (fun v23=> ?_)
      refine kAs rfl (ba (W_rs (kAs rfl (a5 ?_))))
      obtain⟨z8l,hz8,h4l⟩:=aj h4l
      obtain⟨n8,hN8⟩:=bt hz8
      refine cv 4 (fun e C=>∃(x26:List ApiEntity),∃(v24:Value),ref15_Table_k7 x11 x19 x26=some w4l/\At [(0,ar (bl af) x1),(3,ao b2 0),(4,Pr.is v24),(5,Pr.i64 x4),(6,Pr.i64 x11)] [Own.box b2 am (ApiMistake.mk 0 0 0),Own.vec v24 ag x26 49,Own.box b20 af x19] e C) ?_ ?_
      · rintro e C ⟨x26,v24,h4l,hat7⟩
        refine W_at hat7 ?_
        unfold ref15_Table_k7 at h4l
        refine W_rs (kMv rfl ?_)
        obtain⟨x50,hx50,h4l⟩:=aj h4l
        refine kUn (qCallB 1 (ref15_twice_ok x26 _ hx50) ⟨.inr ⟨aa,rfl⟩,trivial⟩ (fun _ _ _ h=>h)) ?_
        refine kAs rfl (W_rs (kMv rfl (kIn rfl rfl rfl ?_)))
        refine a8 h4l rfl (fun _ h4l=> ?_) (fun _ h4l=> ?_)
        · refine bj (fun e C=>∃(x52:ApiEntity),∃(x53:ApiEntity),ref15_Table_j6 x52 x53=some w4l/\At [(2,Pr.is (.slice none 0 0)),(3,ao b2 0)] [Own.box b2 am (ApiMistake.mk 150 x52.File x53.At),Own.box b20 af x19] e C) ?_ ?_
          · rintro e C ⟨x52,x53,h4l,hat6⟩
            refine W_at hat6 ?_
            unfold ref15_Table_j6 at h4l
            obtain rfl:=ho4 _ (Option.some.inj h4l).symm
            replace h2l:some (.inr (.done ([],(ApiMistake.mk 150 x52.File x53.At))))=some w2l:=h2l
            obtain rfl:=ho2 _ (Option.some.inj h2l).symm
            replace h:some ([],(ApiMistake.mk 150 x52.File x53.At))=some r:=h
            obtain rfl:=osj h
            exact bh ⟨rfl,[ar ag [],(am).val (ApiMistake.mk 150 x52.File x53.At)],⟨yT (dm _),yBox 0 ty30 aa,trivial⟩,aa⟩
          refine e7 12 hmx (by kernel_rfl) (by kernel_rfl) ?_
          refine lUn (hMvA rfl) (lUn (hMvA rfl) ?_)
          obtain⟨x52,hx52,h4l⟩:=aj h4l
          refine lUn (sb 1 (R:=ag) (l:=x26) Tryz.underlying38 Tryz.sizeOf49 hx52) ?_
          refine lUn (qFieldV fld49_7) ?_
          refine lUn (ru (R:=ag) (R':=Rp.int .i64) (l:=x26) (a:=x52) (o:=7) 1 ty3 subApiEntity_File (Nat.le_of_ble_eq_true rfl) hx52 rfl) ?_
          refine lUn (hMvA rfl) (lUn (hMvA rfl) ?_)
          obtain⟨x53,hx53,h4l⟩:=aj h4l
          refine lUn (sb 1 (R:=ag) (l:=x26) Tryz.underlying38 Tryz.sizeOf49 hx53) ?_
          refine lUn (qFieldV fld49_8) ?_
          refine lUn (ru (R:=ag) (R':=Rp.int .i64) (l:=x26) (a:=x53) (o:=8) 1 ty3 subApiEntity_At (Nat.le_of_ble_eq_true rfl) hx53 rfl) ?_
          refine lUn (fu st30 ⟨(ApiMistake.mk 150 0 0),⟨_,rfl,rfl,fun j fd hj hf=>by match j,hj with| 0,h=>exact absurd rfl h| 1,_=>cases hf;rfl| 2,_=>cases hf;rfl|_+3,_=>cases hf⟩,⟨(ApiMistake.mk 150 x52.File 0),⟨_,rfl,rfl,fun j fd hj hf=>by match j,hj with| 0,_=>cases hf;rfl| 1,h=>exact absurd rfl h| 2,_=>cases hf;rfl|_+3,_=>cases hf⟩,⟨(ApiMistake.mk 150 x52.File x53.At),⟨_,rfl,rfl,fun j fd hj hf=>by match j,hj with| 0,_=>cases hf;rfl| 1,_=>cases hf;rfl| 2,h=>exact absurd rfl h|_+3,_=>cases hf⟩,rfl⟩⟩⟩) ?_
          refine lUn (hAsA rfl) (ax 0 rfl rfl (Upd.refl _) rfl Tryz.sizeOf30 ?_)
          exact⟨x52,x53,h4l,⟨⟨aa,aa,trivial⟩,Pick.of [0,2] rfl⟩⟩
        refine az ?_
        exact⟨x26,x19,v24,b20,h4l,atOk⟩
      refine da (fun m e C=>∃(x25:Int),∃(x26:List ApiEntity),∃(v24:Value),dn (fun s=>ref15_Table_l8 x19 x4 s.1 s.2) m (x25,x26)=some z8l/\At [(0,ar (bl af) x1),(3,ao b2 0),(4,Pr.is v24),(5,Pr.i64 x4),(6,Pr.i64 x11),(7,ao b20 0),(8,Pr.i64 x25)] [Own.box b2 am (ApiMistake.mk 0 0 0),Own.vec v24 ag x26 49,Own.box b20 af x19] e C) n8 ⟨0,x22,v23,hN8,⟨⟨aa,aa,aa,aa,aa,aa,aa,trivial⟩,Pick.refl _⟩⟩ ?_
      rintro m e C ⟨x25,x26,v24,hN8,hatl8⟩
      refine W_at hatl8 ?_
      obtain⟨m8,w8l,rfl,h8l,hn8,ho8⟩:=bk hN8
      replace h8l:ref15_Table_l8 x19 x4 x25 x26=some w8l:=h8l
      unfold ref15_Table_l8 at h8l
      refine ba (W_rs (kMv rfl (kUn (ak ei) ?_)))
      refine kUn (au 2 ty53 bu) ?_
      refine kUn (gy rfl Tryz.underlying53) ?_
      refine kIn rfl rfl rfl ?_
      refine a8 h8l rfl (fun _ h8l=> ?_) (fun _ h8l=> ?_)
      · refine az ?_
        refine bj (fun e C=>∃(x49:List ApiEntity),∃(x31:ApiNode),∃(v48:Value),∃(b32:Nat),qu x25 x49 x31=some w8l/\At [(0,ar (bl af) x1),(3,ao b2 0),(4,Pr.is v48),(5,Pr.i64 x4),(6,Pr.i64 x11),(7,ao b20 0),(8,Pr.i64 x25)] [Own.box b2 am (ApiMistake.mk 0 0 0),Own.vec v48 ag x49 49,Own.box b20 af x19,Own.box b32 af x31] e C) ?_ ?_
        · rintro e C ⟨x49,x31,v48,b32,h8l,hat9⟩
          refine W_at hat9 ?_
          unfold qu at h8l
          refine W_r (kMv rfl (kIn rfl rfl rfl (kAs rfl ?_)))
          exact⟨m8,Nat.lt_succ_self _,w64 (x25+1),x49,v48,hn8 _ (Option.some.inj h8l).symm,⟨⟨aa,aa,aa,aa,aa,aa,aa,trivial⟩,Pick.of [0,1,2] rfl⟩⟩
        refine a5 (W_rs (kUn (ak ei) ?_))
        refine kUn (au 2 ty53 bu) ?_
        refine kMv rfl ?_
        obtain⟨x31,hx31,h8l⟩:=aj h8l
        refine kUn (dh Tryz.underlying53 Tryz.sizeOf64 hx31) ?_
        refine kUn (cl ty64) ?_
        refine bw al64 fun b32=>ax 3 rfl rfl (Upd.refl _) rfl Tryz.sizeOf64 (ba ?_)
        refine bj (fun e C=>∃(x34:Bool),ref15_Table_j12 x25 x26 x31 x19 x4 x34=some w8l/\At [(0,ar (bl af) x1),(3,ao b2 0),(4,Pr.is v24),(5,Pr.i64 x4),(6,Pr.i64 x11),(7,ao b20 0),(8,Pr.i64 x25),(9,ao b32 0),(71,Pr.bool x34)] [Own.box b2 am (ApiMistake.mk 0 0 0),Own.vec v24 ag x26 49,Own.box b20 af x19,Own.box b32 af x31] e C) ?_ ?_
        · rintro e C ⟨x34,h8l,hat12⟩
          refine W_at hat12 ?_
          unfold ref15_Table_j12 at h8l
          refine a8 h8l rfl (fun _ h8l=> ?_) (fun _ h8l=> ?_)
          · refine db ?_
            exact⟨x26,x31,v24,b32,h8l,atOk⟩
          refine az (W_rs (kMv rfl (kUn (ak ej) ?_)))
          refine kUn (au 2 ty9 cd) ?_
          refine kMv rfl (kUn (au 3 ty64 (Sub.refl _)) ?_)
          refine ct h8l (ref15_member_ok x19.Text x4 x31) rfl fun x36 _ h8l=> ?_
          obtain⟨x37,hx37,h8l⟩:=aj h8l
          refine ff 1 el38 hx37 (fun v38=> ?_)
          refine kAs rfl (ba (W_rs (kMv rfl ?_)))
          obtain⟨x39,hx39,h8l⟩:=aj h8l
          refine kUn (qCallB 1 (ref15_twice_ok x37 _ hx39) ⟨.inr ⟨aa,rfl⟩,trivial⟩ (fun _ _ _ h=>h)) ?_
          refine kIn rfl rfl rfl ?_
          refine a8 h8l rfl (fun _ h8l=> ?_) (fun _ h8l=> ?_)
          · refine db ?_
            exact⟨x37,x31,v38,b32,h8l,atOk⟩
          refine az (W_rs (kUn (au 3 ty64 (Sub.refl _)) ?_))
          obtain⟨⟨x41,x42,x43⟩,hx41,h8l⟩:=aj h8l
          refine kUn (qCall' (ref15_again_ok x31 [] _ hx41) ⟨aa,dm _,trivial⟩) ?_
          refine kUn (hMv (out:=br [(af).val x41,Pr.bool x42,ar a7 x43]) rfl) (kUn aw ?_)
          refine kUn aw ?_
          refine kUn aw ?_
          refine bw al64 fun b44=>ax 4 rfl rfl (Upd.refl _) rfl Tryz.sizeOf64 (kAs rfl (kAsL rfl ?_))
          refine bj (fun e C=>∃(x46:Bool),ref15_Table_j11 x4 x41 x25 x37 x31 x46=some w8l/\At [(0,ar (bl af) x1),(3,ao b2 0),(4,Pr.is v38),(5,Pr.i64 x4),(6,Pr.i64 x11),(7,ao b20 0),(8,Pr.i64 x25),(10,ao b44 0),(93,Pr.bool x46)] [Own.box b2 am (ApiMistake.mk 0 0 0),Own.vec v38 ag x37 49,Own.box b20 af x19,Own.box b32 af x31,Own.box b44 af x41] e C) ?_ ?_
          · rintro e C ⟨x46,h8l,hat11⟩
            refine W_at hat11 ?_
            unfold ref15_Table_j11 at h8l
            refine a8 h8l rfl (fun _ h8l=> ?_) (fun _ h8l=> ?_)
            · refine bj (fun e C=>ref15_Table_j10 x4 x41=some w8l/\At [(2,Pr.is (.slice none 0 0)),(3,ao b2 0)] [Own.box b2 am (ApiMistake.mk 150 x4 x41.At),Own.box b20 af x19,Own.box b32 af x31,Own.box b44 af x41] e C) ?_ ?_
              · rintro e C ⟨h8l,hat10⟩
                refine W_at hat10 ?_
                unfold ref15_Table_j10 at h8l
                obtain rfl:=ho8 _ (Option.some.inj h8l).symm
                replace h4l:some (.inr (.done (.inr (.done ([],(ApiMistake.mk 150 x4 x41.At))))))=some w4l:=h4l
                obtain rfl:=ho4 _ (Option.some.inj h4l).symm
                replace h2l:some (.inr (.done ([],(ApiMistake.mk 150 x4 x41.At))))=some w2l:=h2l
                obtain rfl:=ho2 _ (Option.some.inj h2l).symm
                replace h:some ([],(ApiMistake.mk 150 x4 x41.At))=some r:=h
                obtain rfl:=osj h
                exact bh ⟨rfl,[ar ag [],(am).val (ApiMistake.mk 150 x4 x41.At)],⟨yT (dm _),yBox 0 ty30 aa,trivial⟩,aa⟩
              refine e7 5 hmx (by kernel_rfl) (by kernel_rfl) ?_
              refine lUn (hMvA rfl) (lUn (ak mb) ?_)
              refine lUn (au 4 ty3 eu) ?_
              refine lUn (fu st30 ⟨(ApiMistake.mk 150 0 0),⟨_,rfl,rfl,fun j fd hj hf=>by match j,hj with| 0,h=>exact absurd rfl h| 1,_=>cases hf;rfl| 2,_=>cases hf;rfl|_+3,_=>cases hf⟩,⟨(ApiMistake.mk 150 x4 0),⟨_,rfl,rfl,fun j fd hj hf=>by match j,hj with| 0,_=>cases hf;rfl| 1,h=>exact absurd rfl h| 2,_=>cases hf;rfl|_+3,_=>cases hf⟩,⟨(ApiMistake.mk 150 x4 x41.At),⟨_,rfl,rfl,fun j fd hj hf=>by match j,hj with| 0,_=>cases hf;rfl| 1,_=>cases hf;rfl| 2,h=>exact absurd rfl h|_+3,_=>cases hf⟩,rfl⟩⟩⟩) ?_
              refine lUn (hAsA rfl) (ax 0 rfl rfl (Upd.refl _) rfl Tryz.sizeOf30 ?_)
              exact⟨h8l,⟨⟨aa,aa,trivial⟩,Pick.of [0,2,3,4] rfl⟩⟩
            refine az ?_
            exact⟨x37,x31,v38,b32,h8l,⟨⟨aa,aa,aa,aa,aa,aa,aa,trivial⟩,Pick.of [0,1,2,3] rfl⟩⟩
          refine W_r (kUn (ak dx) ?_)
          refine kUn (au 3 ty3 bo) ?_
          refine kIn rfl rfl rfl (kMv rfl ?_)
          rcases bg h8l with⟨hc45,h8l⟩|⟨hc45,h8l⟩
          · refine kGd rfl aa hc45 (hMvA rfl) (kPt rfl hc45 rfl ?_)
            exact⟨x42,h8l,atOk⟩
          refine kSkT rfl aa hc45 (kPf rfl hc45 rfl ?_)
          exact⟨false,h8l,atOk⟩
        refine W_r (kUn (ak dx) ?_)
        refine kUn (au 3 ty3 bo) ?_
        refine kIn rfl rfl rfl (kMv rfl ?_)
        rcases bg h8l with⟨hc33,h8l⟩|⟨hc33,h8l⟩
        · refine kGd rfl aa hc33 (ak dx) ?_
          refine kGd rfl aa hc33 (au 3 ty3 bo) ?_
          refine kGd rfl aa hc33 (qInt rfl rfl rfl) (kPt rfl hc33 rfl ?_)
          exact⟨x31.Kind != 3,h8l,atOk⟩
        refine kSkT rfl aa hc33 (kSkT rfl aa hc33 (kSkT rfl aa hc33 (kPf rfl hc33 rfl ?_)))
        exact⟨false,h8l,atOk⟩
      refine db ?_
      obtain rfl:=ho8 _ (Option.some.inj h8l).symm
      exact⟨x26,v24,h4l,atOk⟩
    refine db ?_
    obtain rfl:=ho4 _ (Option.some.inj h4l).symm
    exact⟨x12,v10,h2l,atOk⟩
  refine db ?_
  obtain rfl:=ho2 _ (Option.some.inj h2l).symm
  exact⟨x5,v3,h,atOk⟩
theorem ref03_between_ok (x1:List UInt8) (x2:Int) (r:Int × Bool) (h:ref03_between x1 x2=some r):FnP Tryz.prog 49 [bq x1,Pr.i64 x2] (br [Pr.i64 r.1,Pr.bool r.2]):=by
 refine cz (rs:=[4,5]) Tryz.func49 rfl Tryz.ntmps49 ⟨by decide,Tryz.results49⟩ (by decide) (fun s0=> ?_)
 unfold ref03_between at h
 refine W_rs (kAs rfl (kAs rfl (ba (a5 ?_))))
 obtain⟨z2l,hz2,h⟩:=aj h
 obtain⟨n2,hN2⟩:=bt hz2
 refine cv 0 (fun e C=>∃(x3:Int),ref03_between_k1 x3=some r/\At [(1,Pr.i64 x3)] [] e C) ?_ ?_
 ·rintro e C ⟨x3,h,hat1⟩
  refine W_at hat1 ?_
  unfold ref03_between_k1 at h
  refine W_rs (kMv rfl (kAs rfl (kAs rfl ?_)))
  obtain rfl:=osj h
  exact bh ⟨rfl,aa⟩
 refine da (fun m e C=>∃(x3:Int),dn (fun s=>q6 x1 s) m x3=some z2l/\At [(0,bq x1),(1,Pr.i64 x3)] [] e C) n2 ⟨x2,hN2,⟨⟨aa,aa,trivial⟩,Pick.refl _⟩⟩ ?_
 rintro m e C ⟨x3,hN2,hatl2⟩
 refine W_at hatl2 ?_
 obtain⟨m2,w2l,rfl,h2l,hn2,ho2⟩:=bk hN2
 replace h2l:q6 x1 x3=some w2l:=h2l
 unfold q6 at h2l
 refine ba (W_rs (kMv rfl (kMv rfl (kUn (qLenS rfl Tryz.underlying9) ?_))))
 refine kIn rfl rfl rfl ?_
 refine a8 h2l rfl (fun _ h2l=> ?_) (fun _ h2l=> ?_)
 ·refine az (a5 (W_rs (kMv rfl (kMv rfl ?_))))
  obtain⟨x6,hx6,h2l⟩:=aj h2l
  refine kUn (qIdxS Tryz.underlying9 hx6) ?_
  refine kAs rfl (ba ?_)
  refine bj (fun e C=>∃(x14:Bool),j0 x3 x1 x6 x14=some w2l/\At [(0,bq x1),(1,Pr.i64 x3),(6,Pr.u8 x6),(28,Pr.bool x14)] [] e C) ?_ ?_
  ·rintro e C ⟨x14,h2l,hat10⟩
   refine W_at hat10 ?_
   unfold j0 at h2l
   refine a8 h2l rfl (fun _ h2l=> ?_) (fun _ h2l=> ?_)
   ·refine W_rs (kMv rfl (kIn rfl rfl rfl (kAs rfl ?_)))
    refine db ?_
    exact⟨m2,Nat.lt_succ_self _,w64 (x3+1),hn2 _ (Option.some.inj h2l).symm,atOk⟩
   refine az (ba ?_)
   refine bj (fun e C=>∃(x25:Bool),kw x3 x1 x25=some w2l/\At [(0,bq x1),(1,Pr.i64 x3),(53,Pr.bool x25)] [] e C) ?_ ?_
   ·rintro e C ⟨x25,h2l,hat9⟩
    refine W_at hat9 ?_
    unfold kw at h2l
    refine a8 h2l rfl (fun _ h2l=> ?_) (fun _ h2l=> ?_)
    ·refine W_rs (kMv rfl (kAs rfl (kAs rfl ?_)))
     obtain rfl:=ho2 _ (Option.some.inj h2l).symm
     replace h:some (x3,true)=some r:=h
     obtain rfl:=osj h
     exact bh ⟨rfl,aa⟩
    refine az (ba (W_rs (kMv rfl (kMv rfl (kIn rfl rfl rfl ?_)))))
    obtain⟨x27,hx27,h2l⟩:=aj h2l
    refine kUn (qIdxS Tryz.underlying9 hx27) ?_
    refine kIn rfl rfl rfl ?_
    refine a8 h2l rfl (fun _ h2l=> ?_) (fun _ h2l=> ?_)
    ·refine ba (a5 ?_)
     obtain⟨z4l,hz4,h2l⟩:=aj h2l
     obtain⟨n4,hN4⟩:=bt hz4
     refine cv 2 (fun e C=>∃(x29:Int),ref03_between_k3 x29=some w2l/\At [(0,bq x1),(1,Pr.i64 x29)] [] e C) ?_ ?_
     ·rintro e C ⟨x29,h2l,hat3⟩
      refine W_at hat3 ?_
      unfold ref03_between_k3 at h2l
      refine db ?_
      exact⟨m2,Nat.lt_succ_self _,x29,hn2 _ (Option.some.inj h2l).symm,atOk⟩
     refine da (fun m e C=>∃(x29:Int),dn (fun s=>q5 x1 s) m x29=some z4l/\At [(0,bq x1),(1,Pr.i64 x29)] [] e C) n4 ⟨x3,hN4,⟨⟨aa,aa,trivial⟩,Pick.refl _⟩⟩ ?_
     rintro m e C ⟨x29,hN4,hatl4⟩
     refine W_at hatl4 ?_
     obtain⟨m4,w4l,rfl,h4l,hn4,ho4⟩:=bk hN4
     replace h4l:q5 x1 x29=some w4l:=h4l
     unfold q5 at h4l
     refine ba ?_
     refine bj (fun e C=>∃(x33:Bool),q7 x29 x33=some w4l/\At [(0,bq x1),(1,Pr.i64 x29),(69,Pr.bool x33)] [] e C) ?_ ?_
     ·rintro e C ⟨x33,h4l,hat5⟩
      refine W_at hat5 ?_
      unfold q7 at h4l
      refine a8 h4l rfl (fun _ h4l=> ?_) (fun _ h4l=> ?_)
      ·refine az (a5 (W_r (kMv rfl (kIn rfl rfl rfl (kAs rfl ?_)))))
       exact⟨m4,Nat.lt_succ_self _,w64 (x29+1),hn4 _ (Option.some.inj h4l).symm,atOk⟩
      refine db ?_
      obtain rfl:=ho4 _ (Option.some.inj h4l).symm
      exact⟨x29,h2l,atOk⟩
     refine W_r (kMv rfl (kMv rfl (kUn (qLenS rfl Tryz.underlying9) ?_)))
     refine kIn rfl rfl rfl (kMv rfl ?_)
     rcases bg h4l with⟨hc31,h4l⟩|⟨hc31,h4l⟩
     ·refine kGd rfl aa hc31 (hMvA rfl) (kGd rfl aa hc31 (hMvA rfl) ?_)
      obtain⟨x32,hx32,h4l⟩:=aj h4l
      refine kGd rfl aa hc31 (qIdxS Tryz.underlying9 hx32) ?_
      refine kGd rfl aa hc31 (qInt rfl rfl rfl) (kPt rfl hc31 rfl ?_)
      exact⟨x32 != 10,h4l,atOk⟩
     refine kSkT rfl aa hc31 (kSkT rfl aa hc31 (kSkT rfl aa hc31 (kSkT rfl aa hc31 (kPf rfl hc31 rfl ?_))))
     exact⟨false,h4l,atOk⟩
    refine az (W_rs (kMv rfl (kIn rfl rfl rfl (kAs rfl (ba (a5 ?_))))))
    obtain⟨z7l,hz7,h2l⟩:=aj h2l
    obtain⟨n7,hN7⟩:=bt hz7
    refine cv 4 (fun e C=>∃(x35:Int),ref03_between_k6 x1 x3 x35=some w2l/\At [(0,bq x1),(1,Pr.i64 x3),(7,Pr.i64 x35)] [] e C) ?_ ?_
    ·rintro e C ⟨x35,h2l,hat6⟩
     refine W_at hat6 ?_
     unfold ref03_between_k6 at h2l
     refine ba (W_rs (kMv rfl (kIn rfl rfl rfl (kMv rfl (kUn (qLenS rfl Tryz.underlying9) ?_)))))
     refine kIn rfl rfl rfl ?_
     refine a8 h2l rfl (fun _ h2l=> ?_) (fun _ h2l=> ?_)
     ·refine W_rs (kMv rfl (kAs rfl (kAs rfl ?_)))
      obtain rfl:=ho2 _ (Option.some.inj h2l).symm
      replace h:some (x3,false)=some r:=h
      obtain rfl:=osj h
      exact bh ⟨rfl,aa⟩
     refine az (W_r (kMv rfl (kIn rfl rfl rfl (kAs rfl ?_))))
     exact⟨m2,Nat.lt_succ_self _,w64 (x35+2),hn2 _ (Option.some.inj h2l).symm,atOk⟩
    refine da (fun m e C=>∃(x35:Int),dn (fun s=>q4 x1 s) m x35=some z7l/\At [(0,bq x1),(1,Pr.i64 x3),(7,Pr.i64 x35)] [] e C) n7 ⟨w64 (x3+2),hN7,⟨⟨aa,aa,aa,trivial⟩,Pick.refl _⟩⟩ ?_
    rintro m e C ⟨x35,hN7,hatl7⟩
    refine W_at hatl7 ?_
    obtain⟨m7,w7l,rfl,h7l,hn7,ho7⟩:=bk hN7
    replace h7l:q4 x1 x35=some w7l:=h7l
    unfold q4 at h7l
    refine ba ?_
    refine bj (fun e C=>∃(x41:Bool),nr x35 x41=some w7l/\At [(0,bq x1),(1,Pr.i64 x3),(7,Pr.i64 x35),(91,Pr.bool x41)] [] e C) ?_ ?_
    ·rintro e C ⟨x41,h7l,hat8⟩
     refine W_at hat8 ?_
     unfold nr at h7l
     refine a8 h7l rfl (fun _ h7l=> ?_) (fun _ h7l=> ?_)
     ·refine az (a5 (W_r (kMv rfl (kIn rfl rfl rfl (kAs rfl ?_)))))
      exact⟨m7,Nat.lt_succ_self _,w64 (x35+1),hn7 _ (Option.some.inj h7l).symm,atOk⟩
     refine db ?_
     obtain rfl:=ho7 _ (Option.some.inj h7l).symm
     exact⟨x35,h2l,atOk⟩
    refine W_r (kMv rfl (kIn rfl rfl rfl (kMv rfl (kUn (qLenS rfl Tryz.underlying9) ?_))))
    refine kIn rfl rfl rfl (kMv rfl ?_)
    rcases bg h7l with⟨hc37,h7l⟩|⟨hc37,h7l⟩
    ·refine kGd rfl aa hc37 (hMvA rfl) (kGd rfl aa hc37 (hMvA rfl) ?_)
     obtain⟨x38,hx38,h7l⟩:=aj h7l
     refine kGd rfl aa hc37 (qIdxS Tryz.underlying9 hx38) ?_
     refine kGd rfl aa hc37 (qInt rfl rfl rfl) (kGd rfl aa hc37 (hMvA rfl) ?_)
     rcases bg h7l with⟨hc39,h7l⟩|⟨hc39,h7l⟩
     ·refine kSkF rfl aa hc39 (kSkF rfl aa hc39 (kSkF rfl aa hc39 (kSkF rfl aa hc39 (kSkF rfl aa hc39 (kGd rfl aa hc37 (hPt rfl hc39 rfl) (kPt rfl hc37 rfl ?_))))))
      exact⟨true,h7l,atOk⟩
     refine kGd rfl aa hc39 (hMvA rfl) (kGd rfl aa hc39 (hMvA rfl) (kGd rfl aa hc39 (qInt rfl rfl rfl) ?_))
     obtain⟨x40,hx40,h7l⟩:=aj h7l
     refine kGd rfl aa hc39 (qIdxS Tryz.underlying9 hx40) ?_
     refine kGd rfl aa hc39 (qInt rfl rfl rfl) (kGd rfl aa hc37 (hPf rfl hc39 rfl) (kPt rfl hc37 rfl ?_))
     exact⟨x40 != 47,h7l,atOk⟩
    refine kSkT rfl aa hc37 (kSkT rfl aa hc37 (kSkT rfl aa hc37 (kSkT rfl aa hc37 (kSkT rfl aa hc37 (kSkU rfl aa (kSkU rfl aa (kSkU rfl aa (kSkU rfl aa (kSkU rfl aa (kSkT rfl aa hc37 (kPf rfl hc37 rfl ?_)))))))))))
    exact⟨false,h7l,atOk⟩
   refine W_r (kMv rfl (kIn rfl rfl rfl (kMv rfl (kUn (qLenS rfl Tryz.underlying9) ?_))))
   refine kIn rfl rfl rfl (kMv rfl ?_)
   rcases bg h2l with⟨hc16,h2l⟩|⟨hc16,h2l⟩
   ·refine kSkF rfl aa hc16 (kSkF rfl aa hc16 (kPt rfl hc16 rfl (kMv rfl ?_)))
    have hc21:true=true:=rfl
    refine kSkF rfl aa hc21 (kSkF rfl aa hc21 (kSkF rfl aa hc21 (kSkF rfl aa hc21 (kSkF rfl aa hc21 (kSkF rfl aa hc21 (kSkU rfl aa (kSkU rfl aa (kSkU rfl aa (kSkU rfl aa (kSkU rfl aa (kSkF rfl aa hc21 ?_)))))))))))
    refine kPt rfl hc21 rfl ?_
    exact⟨true,h2l,atOk⟩
   refine kGd rfl aa hc16 (hMvA rfl) (kGd rfl aa hc16 (qInt rfl rfl rfl) (kPf rfl hc16 rfl (kMv rfl ?_)))
   rcases bg h2l with⟨hc17,h2l⟩|⟨hc17,h2l⟩
   ·refine kSkF rfl aa hc17 (kSkF rfl aa hc17 (kSkF rfl aa hc17 (kSkF rfl aa hc17 (kSkF rfl aa hc17 (kSkF rfl aa hc17 (kSkU rfl aa (kSkU rfl aa (kSkU rfl aa (kSkU rfl aa (kSkU rfl aa (kSkF rfl aa hc17 ?_)))))))))))
    refine kPt rfl hc17 rfl ?_
    exact⟨true,h2l,atOk⟩
   refine kGd rfl aa hc17 (hMvA rfl) (kGd rfl aa hc17 (hMvA rfl) (kGd rfl aa hc17 (qInt rfl rfl rfl) ?_))
   obtain⟨x18,hx18,h2l⟩:=aj h2l
   refine kGd rfl aa hc17 (qIdxS Tryz.underlying9 hx18) ?_
   refine kGd rfl aa hc17 (qInt rfl rfl rfl) (kGd rfl aa hc17 (hMvA rfl) ?_)
   rcases bg h2l with⟨hc19,h2l⟩|⟨hc19,h2l⟩
   ·refine kGd rfl aa hc19 (hMvA rfl) (kGd rfl aa hc19 (hMvA rfl) (kGd rfl aa hc19 (qInt rfl rfl rfl) ?_))
    obtain⟨x20,hx20,h2l⟩:=aj h2l
    refine kGd rfl aa hc19 (qIdxS Tryz.underlying9 hx20) ?_
    refine kGd rfl aa hc19 (qInt rfl rfl rfl) (kGd rfl aa hc17 (hPt rfl hc19 rfl) (kPf rfl hc17 rfl ?_))
    exact⟨x20 != 42,h2l,atOk⟩
   refine kSkT rfl aa hc19 (kSkT rfl aa hc19 (kSkT rfl aa hc19 (kSkT rfl aa hc19 (kSkT rfl aa hc19 (kGd rfl aa hc17 (hPf rfl hc19 rfl) (kPf rfl hc17 rfl ?_))))))
   exact⟨false,h2l,atOk⟩
  refine W_r (kMv rfl (kIn rfl rfl rfl (kMv rfl ?_)))
  rcases bg h2l with⟨hc7,h2l⟩|⟨hc7,h2l⟩
  ·refine kSkF rfl aa hc7 (kSkF rfl aa hc7 (kPt rfl hc7 rfl (kMv rfl ?_)))
   have hc11:true=true:=rfl
   refine kSkF rfl aa hc11 (kSkF rfl aa hc11 (kPt rfl hc11 rfl (kMv rfl ?_)))
   have hc13:true=true:=rfl
   refine kSkF rfl aa hc13 (kSkF rfl aa hc13 (kPt rfl hc13 rfl ?_))
   exact⟨true,h2l,atOk⟩
  refine kGd rfl aa hc7 (hMvA rfl) (kGd rfl aa hc7 (qInt rfl rfl rfl) (kPf rfl hc7 rfl (kMv rfl ?_)))
  rcases bg h2l with⟨hc8,h2l⟩|⟨hc8,h2l⟩
  ·refine kSkF rfl aa hc8 (kSkF rfl aa hc8 (kPt rfl hc8 rfl (kMv rfl ?_)))
   have hc10:true=true:=rfl
   refine kSkF rfl aa hc10 (kSkF rfl aa hc10 (kPt rfl hc10 rfl ?_))
   exact⟨true,h2l,atOk⟩
  refine kGd rfl aa hc8 (hMvA rfl) (kGd rfl aa hc8 (qInt rfl rfl rfl) (kPf rfl hc8 rfl (kMv rfl ?_)))
  rcases bg h2l with⟨hc9,h2l⟩|⟨hc9,h2l⟩
  ·refine kSkF rfl aa hc9 (kSkF rfl aa hc9 (kPt rfl hc9 rfl ?_))
   exact⟨true,h2l,atOk⟩
  refine kGd rfl aa hc9 (hMvA rfl) (kGd rfl aa hc9 (qInt rfl rfl rfl) (kPf rfl hc9 rfl ?_))
  exact⟨x6==13,h2l,atOk⟩
 refine db ?_
 obtain rfl:=ho2 _ (Option.some.inj h2l).symm
 exact⟨x3,h,atOk⟩
theorem ref03_digit_ok (x1:Int) (r:Bool) (h:ref03_digit x1=some r):FnP Tryz.prog 87 [Pr.u8 x1] (Pr.bool r):=by
 refine cz (rs:=[2]) Tryz.func87 rfl Tryz.ntmps87 ⟨by decide,Tryz.results87⟩ (by decide) (fun s0=> ?_)
 unfold ref03_digit at h
 refine W_rs (kAs rfl ?_)
 refine bj (fun e C=>∃(x3:Bool),ref03_digit_j1 x3=some r/\At [(2,Pr.bool x3)] [] e C) ?_ ?_
 ·rintro e C ⟨x3,h,hat1⟩
  refine W_at hat1 ?_
  unfold ref03_digit_j1 at h
  obtain rfl:=osj h
  exact bh ⟨rfl,aa⟩
 refine W_r (kMv rfl (kIn rfl rfl rfl (kMv rfl ?_)))
 rcases bg h with⟨hc2,h⟩|⟨hc2,h⟩
 ·refine kGd rfl aa hc2 (hMvA rfl) (kGd rfl aa hc2 (qInt rfl rfl rfl) (kPt rfl hc2 rfl (kAs rfl ?_)))
  exact⟨decide (x1<=57),h,atOk⟩
 refine kSkT rfl aa hc2 (kSkT rfl aa hc2 (kPf rfl hc2 rfl (kAs rfl ?_)))
 exact⟨false,h,atOk⟩
theorem ref03_great_ok (x1:List UInt8) (r:Bool) (h:ref03_great x1=some r):FnP Tryz.prog 88 [bq x1] (Pr.bool r):=by
 refine cz (rs:=[2]) Tryz.func88 rfl Tryz.ntmps88 ⟨by decide,Tryz.results88⟩ (by decide) (fun s0=> ?_)
 unfold ref03_great at h
 refine W_rs (kAs rfl (ba (W_rs (kMv rfl (kUn (qLenS rfl Tryz.underlying9) ?_)))))
 refine kIn rfl rfl rfl ?_
 refine a8 h rfl (fun _ h=> ?_) (fun _ h=> ?_)
 ·refine W_rs (kAs rfl ?_)
  obtain rfl:=osj h
  exact bh ⟨rfl,aa⟩
 refine az (W_rs (kAs rfl (ba (W_rs (kAs rfl (a5 ?_))))))
 obtain⟨z2l,hz2,h⟩:=aj h
 obtain⟨n2,hN2⟩:=bt hz2
 refine cv 0 (fun e C=>∃(x3:Int),ref03_great_k1 x3=some r/\At [(3,Pr.i64 x3)] [] e C) ?_ ?_
 ·rintro e C ⟨x3,h,hat1⟩
  refine W_at hat1 ?_
  unfold ref03_great_k1 at h
  refine W_rs (kMv rfl (kIn rfl rfl rfl (kAs rfl ?_)))
  obtain rfl:=osj h
  exact bh ⟨rfl,aa⟩
 refine da (fun m e C=>∃(x3:Int),∃(x4:Int),dn (fun s=>ref03_great_l2 x1 s.1 s.2) m (x3,x4)=some z2l/\At [(0,bq x1),(3,Pr.i64 x3),(4,Pr.i64 x4)] [] e C) n2 ⟨0,0,hN2,⟨⟨aa,aa,aa,trivial⟩,Pick.refl _⟩⟩ ?_
 rintro m e C ⟨x3,x4,hN2,hatl2⟩
 refine W_at hatl2 ?_
 obtain⟨m2,w2l,rfl,h2l,hn2,ho2⟩:=bk hN2
 replace h2l:ref03_great_l2 x1 x3 x4=some w2l:=h2l
 unfold ref03_great_l2 at h2l
 refine ba (W_rs (kMv rfl (kMv rfl (kUn (qLenS rfl Tryz.underlying9) ?_))))
 refine kIn rfl rfl rfl ?_
 refine a8 h2l rfl (fun _ h2l=> ?_) (fun _ h2l=> ?_)
 ·refine az (ba (a5 (W_r (kMv rfl (kIn rfl rfl rfl (kMv rfl (kMv rfl ?_)))))))
  obtain⟨x8,hx8,h2l⟩:=aj h2l
  refine kUn (qIdxS Tryz.underlying9 hx8) ?_
  refine kIn rfl rfl rfl (kUn (qConv Tryz.underlying5 Tryz.underlying3) ?_)
  refine kIn rfl rfl rfl (kAs rfl (W_r (kMv rfl (kIn rfl rfl rfl (kAs rfl ?_)))))
  exact⟨m2,Nat.lt_succ_self _,w64 ((w64 (10 * x3))+(w64 (IntKind.wrap .u8 (x8 - 48)))),w64 (x4+1),hn2 _ (Option.some.inj h2l).symm,atOk⟩
 refine db ?_
 obtain rfl:=ho2 _ (Option.some.inj h2l).symm
 exact⟨x3,h,atOk⟩
theorem ref03_letter_ok (x1:Int) (r:Bool) (h:ref03_letter x1=some r):FnP Tryz.prog 89 [Pr.u8 x1] (Pr.bool r):=by
 refine cz (rs:=[2]) Tryz.func89 rfl Tryz.ntmps89 ⟨by decide,Tryz.results89⟩ (by decide) (fun s0=> ?_)
 unfold ref03_letter at h
 refine W_rs (kAs rfl ?_)
 refine bj (fun e C=>∃(x13:Bool),ii x13=some r/\At [(2,Pr.bool x13)] [] e C) ?_ ?_
 ·rintro e C ⟨x13,h,hat1⟩
  refine W_at hat1 ?_
  unfold ii at h
  obtain rfl:=osj h
  exact bh ⟨rfl,aa⟩
 refine W_r (kMv rfl (kIn rfl rfl rfl (kMv rfl ?_)))
 rcases bg h with⟨hc2,h⟩|⟨hc2,h⟩
 ·refine kGd rfl aa hc2 (hMvA rfl) (kGd rfl aa hc2 (qInt rfl rfl rfl) (kPt rfl hc2 rfl (kMv rfl ?_)))
  rcases bg h with⟨hc3,h⟩|⟨hc3,h⟩
  ·refine kSkF rfl aa hc3 (kSkF rfl aa hc3 (kSkF rfl aa hc3 (kSkU rfl aa (kSkU rfl aa (kSkF rfl aa hc3 (kPt rfl hc3 rfl (kMv rfl ?_)))))))
   have hc7:true=true:=rfl
   refine kSkF rfl aa hc7 (kSkF rfl aa hc7 (kPt rfl hc7 rfl (kAs rfl ?_)))
   exact⟨true,h,atOk⟩
  refine kGd rfl aa hc3 (hMvA rfl) (kGd rfl aa hc3 (qInt rfl rfl rfl) (kGd rfl aa hc3 (hMvA rfl) ?_))
  rcases bg h with⟨hc4,h⟩|⟨hc4,h⟩
  ·refine kGd rfl aa hc4 (hMvA rfl) (kGd rfl aa hc4 (qInt rfl rfl rfl) (kGd rfl aa hc3 (hPt rfl hc4 rfl) (kPf rfl hc3 rfl (kMv rfl ?_))))
   rcases bg h with⟨hc5,h⟩|⟨hc5,h⟩
   ·refine kSkF rfl aa hc5 (kSkF rfl aa hc5 (kPt rfl hc5 rfl (kAs rfl ?_)))
    exact⟨true,h,atOk⟩
   refine kGd rfl aa hc5 (hMvA rfl) (kGd rfl aa hc5 (qInt rfl rfl rfl) (kPf rfl hc5 rfl (kAs rfl ?_)))
   exact⟨x1==95,h,atOk⟩
  refine kSkT rfl aa hc4 (kSkT rfl aa hc4 (kGd rfl aa hc3 (hPf rfl hc4 rfl) (kPf rfl hc3 rfl (kMv rfl ?_))))
  have hc6:false=false:=rfl
  refine kGd rfl aa hc6 (hMvA rfl) (kGd rfl aa hc6 (qInt rfl rfl rfl) (kPf rfl hc6 rfl (kAs rfl ?_)))
  exact⟨x1==95,h,atOk⟩
 refine kSkT rfl aa hc2 (kSkT rfl aa hc2 (kPf rfl hc2 rfl (kMv rfl ?_)))
 have hc8:false=false:=rfl
 refine kGd rfl aa hc8 (hMvA rfl) (kGd rfl aa hc8 (qInt rfl rfl rfl) (kGd rfl aa hc8 (hMvA rfl) ?_))
 rcases bg h with⟨hc9,h⟩|⟨hc9,h⟩
 ·refine kGd rfl aa hc9 (hMvA rfl) (kGd rfl aa hc9 (qInt rfl rfl rfl) (kGd rfl aa hc8 (hPt rfl hc9 rfl) (kPf rfl hc8 rfl (kMv rfl ?_))))
  rcases bg h with⟨hc10,h⟩|⟨hc10,h⟩
  ·refine kSkF rfl aa hc10 (kSkF rfl aa hc10 (kPt rfl hc10 rfl (kAs rfl ?_)))
   exact⟨true,h,atOk⟩
  refine kGd rfl aa hc10 (hMvA rfl) (kGd rfl aa hc10 (qInt rfl rfl rfl) (kPf rfl hc10 rfl (kAs rfl ?_)))
  exact⟨x1==95,h,atOk⟩
 refine kSkT rfl aa hc9 (kSkT rfl aa hc9 (kGd rfl aa hc8 (hPf rfl hc9 rfl) (kPf rfl hc8 rfl (kMv rfl ?_))))
 have hc11:false=false:=rfl
 refine kGd rfl aa hc11 (hMvA rfl) (kGd rfl aa hc11 (qInt rfl rfl rfl) (kPf rfl hc11 rfl (kAs rfl ?_)))
 exact⟨x1==95,h,atOk⟩
theorem ref03_Kept_ok (x1:List UInt8) (r:Bool) (h:ref03_Kept x1=some r):FnP Tryz.prog 90 [bq x1] (Pr.bool r):=by
 refine cz (rs:=[2]) Tryz.func90 rfl Tryz.ntmps90 ⟨by decide,Tryz.results90⟩ (by decide) (fun s0=> ?_)
 unfold ref03_Kept at h
 refine W_rs (kAs rfl (W_rs (kUn (gh (R:=a7) (ls:=([([99,108,97,115,115]:List UInt8),([101,120,116,101,110,100,115]:List UInt8),([115,116,97,116,105,99]:List UInt8),([118,111,105,100]:List UInt8),([105,110,116]:List UInt8),([98,111,111,108,101,97,110]:List UInt8),([105,102]:List UInt8),([101,108,115,101]:List UInt8),([119,104,105,108,101]:List UInt8),([114,101,116,117,114,110]:List UInt8),([112,114,105,110,116]:List UInt8),([116,114,117,101]:List UInt8),([102,97,108,115,101]:List UInt8),([110,117,108,108]:List UInt8),([116,104,105,115]:List UInt8),([110,101,119]:List UInt8)]:List (List UInt8))) el22 (Nat.le_of_ble_eq_true rfl) ⟨rfl,rfl⟩ ⟨rfl,rfl,rfl,rfl,rfl,rfl,rfl,rfl,rfl,rfl,rfl,rfl,rfl,rfl,rfl,rfl,trivial⟩) ?_)))
 refine kAsL rfl (ba (W_rs (kAs rfl (a5 ?_))))
 obtain⟨z2l,hz2,h⟩:=aj h
 obtain⟨n2,hN2⟩:=bt hz2
 refine cv 0 (fun e C=>ref03_Kept_k1=some r/\At [] [] e C) ?_ ?_
 ·rintro e C ⟨h,hat1⟩
  refine W_at hat1 ?_
  unfold ref03_Kept_k1 at h
  refine W_rs (kAs rfl ?_)
  obtain rfl:=osj h
  exact bh ⟨rfl,aa⟩
 refine da (fun m e C=>∃(x2:Int),dn (fun s=>ref03_Kept_l2 x1 s) m x2=some z2l/\At [(0,bq x1),(3,ar a7 ([([99,108,97,115,115]:List UInt8),([101,120,116,101,110,100,115]:List UInt8),([115,116,97,116,105,99]:List UInt8),([118,111,105,100]:List UInt8),([105,110,116]:List UInt8),([98,111,111,108,101,97,110]:List UInt8),([105,102]:List UInt8),([101,108,115,101]:List UInt8),([119,104,105,108,101]:List UInt8),([114,101,116,117,114,110]:List UInt8),([112,114,105,110,116]:List UInt8),([116,114,117,101]:List UInt8),([102,97,108,115,101]:List UInt8),([110,117,108,108]:List UInt8),([116,104,105,115]:List UInt8),([110,101,119]:List UInt8)]:List (List UInt8))),(4,Pr.i64 x2)] [] e C) n2 ⟨0,hN2,⟨⟨aa,aa,aa,trivial⟩,Pick.refl _⟩⟩ ?_
 rintro m e C ⟨x2,hN2,hatl2⟩
 refine W_at hatl2 ?_
 obtain⟨m2,w2l,rfl,h2l,hn2,ho2⟩:=bk hN2
 replace h2l:ref03_Kept_l2 x1 x2=some w2l:=h2l
 unfold ref03_Kept_l2 at h2l
 refine ba (W_rs (kMv rfl (kMvL rfl (kUn (gy rfl Tryz.underlying22) ?_))))
 refine kIn rfl rfl rfl ?_
 refine a8 h2l rfl (fun _ h2l=> ?_) (fun _ h2l=> ?_)
 ·refine az (ba (a5 (W_rs (kMvL rfl (kMv rfl ?_)))))
  obtain⟨x5,hx5,h2l⟩:=aj h2l
  refine kUn (dh Tryz.underlying22 Tryz.sizeOf9 hx5) ?_
  refine kUn (cl ty9) ?_
  refine kMv rfl (kSt rfl rfl rfl ?_)
  refine a8 h2l rfl (fun _ h2l=> ?_) (fun _ h2l=> ?_)
  ·refine W_rs (kAs rfl ?_)
   obtain rfl:=ho2 _ (Option.some.inj h2l).symm
   replace h:some true=some r:=h
   obtain rfl:=osj h
   exact bh ⟨rfl,aa⟩
  refine az (W_r (kMv rfl (kIn rfl rfl rfl (kAs rfl ?_))))
  exact⟨m2,Nat.lt_succ_self _,w64 (x2+1),hn2 _ (Option.some.inj h2l).symm,atOk⟩
 refine db ?_
 obtain rfl:=ho2 _ (Option.some.inj h2l).symm
 exact⟨h,atOk⟩
theorem ref03_mark_ok (x1:List UInt8) (x2 r:Int) (h:ref03_mark x1 x2=some r):FnP Tryz.prog 91 [bq x1,Pr.i64 x2] (Pr.i64 r):=by
 refine cz (rs:=[4]) Tryz.func91 rfl Tryz.ntmps91 ⟨by decide,Tryz.results91⟩ (by decide) (fun s0=> ?_)
 unfold ref03_mark at h
 refine W_rs (kAs rfl (W_rs (kUn (gh (R:=a7) (ls:=([([61,61]:List UInt8),([33,61]:List UInt8),([60,61]:List UInt8),([62,61]:List UInt8),([38,38]:List UInt8),([124,124]:List UInt8)]:List (List UInt8))) el22 (Nat.le_of_ble_eq_true rfl) ⟨rfl,rfl⟩ ⟨rfl,rfl,rfl,rfl,rfl,rfl,trivial⟩) ?_)))
 refine kAsL rfl (ba (W_rs (kAs rfl (a5 ?_))))
 obtain⟨z5l,hz5,h⟩:=aj h
 obtain⟨n5,hN5⟩:=bt hz5
 refine cv 0 (fun e C=>ref03_mark_k4 x1 x2=some r/\At [(0,bq x1),(1,Pr.i64 x2)] [] e C) ?_ ?_
 ·rintro e C ⟨h,hat4⟩
  refine W_at hat4 ?_
  unfold ref03_mark_k4 at h
  refine W_rs (kAs rfl (ba (W_rs (kAs rfl (a5 ?_)))))
  obtain⟨z2l,hz2,h⟩:=aj h
  obtain⟨n2,hN2⟩:=bt hz2
  refine cv 2 (fun e C=>ref03_mark_k1=some r/\At [] [] e C) ?_ ?_
  ·rintro e C ⟨h,hat1⟩
   refine W_at hat1 ?_
   unfold ref03_mark_k1 at h
   refine W_rs (kAs rfl ?_)
   obtain rfl:=osj h
   exact bh ⟨rfl,aa⟩
  refine da (fun m e C=>∃(x11:Int),dn (fun s=>ref03_mark_l2 x1 x2 s) m x11=some z2l/\At [(0,bq x1),(1,Pr.i64 x2),(7,bq ([43,45,42,47,37,60,62,61,33,40,41,123,125,59,44,46]:List UInt8)),(8,Pr.i64 x11)] [] e C) n2 ⟨0,hN2,⟨⟨aa,aa,aa,aa,trivial⟩,Pick.refl _⟩⟩ ?_
  rintro m e C ⟨x11,hN2,hatl2⟩
  refine W_at hatl2 ?_
  obtain⟨m2,w2l,rfl,h2l,hn2,ho2⟩:=bk hN2
  replace h2l:ref03_mark_l2 x1 x2 x11=some w2l:=h2l
  unfold ref03_mark_l2 at h2l
  refine ba (W_rs (kMv rfl (kMv rfl (kUn (qLenS rfl Tryz.underlying9) ?_))))
  refine kIn rfl rfl rfl ?_
  refine a8 h2l rfl (fun _ h2l=> ?_) (fun _ h2l=> ?_)
  ·refine az (ba (a5 ?_))
   refine bj (fun e C=>∃(x14:Int),∃(x15:Int),ref03_mark_j3 x11 x14 x15=some w2l/\At [(0,bq x1),(1,Pr.i64 x2),(7,bq ([43,45,42,47,37,60,62,61,33,40,41,123,125,59,44,46]:List UInt8)),(8,Pr.i64 x11),(45,Pr.bool (x14==x15))] [] e C) ?_ ?_
   ·rintro e C ⟨x14,x15,h2l,hat3⟩
    refine W_at hat3 ?_
    unfold ref03_mark_j3 at h2l
    refine a8 h2l rfl (fun _ h2l=> ?_) (fun _ h2l=> ?_)
    ·refine W_rs (kAs rfl ?_)
     obtain rfl:=ho2 _ (Option.some.inj h2l).symm
     replace h:some 1=some r:=h
     obtain rfl:=osj h
     exact bh ⟨rfl,aa⟩
    refine az (W_r (kMv rfl (kIn rfl rfl rfl (kAs rfl ?_))))
    exact⟨m2,Nat.lt_succ_self _,w64 (x11+1),hn2 _ (Option.some.inj h2l).symm,atOk⟩
   refine e7 7 hmx (by kernel_rfl) (by kernel_rfl) ?_
   refine lUn (hMvA rfl) (lUn (hMvA rfl) ?_)
   obtain⟨x14,hx14,h2l⟩:=aj h2l
   refine lUn (qIdxS Tryz.underlying9 hx14) ?_
   refine lUn (hMvA rfl) (lUn (hMvA rfl) ?_)
   obtain⟨x15,hx15,h2l⟩:=aj h2l
   refine lUn (qIdxS Tryz.underlying9 hx15) ?_
   refine lUn (qInt rfl rfl rfl) ?_
   exact⟨x14,x15,h2l,atOk⟩
  refine db ?_
  obtain rfl:=ho2 _ (Option.some.inj h2l).symm
  exact⟨h,atOk⟩
 refine da (fun m e C=>∃(x3:Int),dn (fun s=>ref03_mark_l5 x1 x2 s) m x3=some z5l/\At [(0,bq x1),(1,Pr.i64 x2),(5,ar a7 ([([61,61]:List UInt8),([33,61]:List UInt8),([60,61]:List UInt8),([62,61]:List UInt8),([38,38]:List UInt8),([124,124]:List UInt8)]:List (List UInt8))),(6,Pr.i64 x3)] [] e C) n5 ⟨0,hN5,⟨⟨aa,aa,aa,aa,trivial⟩,Pick.refl _⟩⟩ ?_
 rintro m e C ⟨x3,hN5,hatl5⟩
 refine W_at hatl5 ?_
 obtain⟨m5,w5l,rfl,h5l,hn5,ho5⟩:=bk hN5
 replace h5l:ref03_mark_l5 x1 x2 x3=some w5l:=h5l
 unfold ref03_mark_l5 at h5l
 refine ba ?_
 refine bj (fun e C=>∃(x6:Bool),ref03_mark_j7 x1 x2 x3 x6=some w5l/\At [(0,bq x1),(1,Pr.i64 x2),(5,ar a7 ([([61,61]:List UInt8),([33,61]:List UInt8),([60,61]:List UInt8),([62,61]:List UInt8),([38,38]:List UInt8),([124,124]:List UInt8)]:List (List UInt8))),(6,Pr.i64 x3),(20,Pr.bool x6)] [] e C) ?_ ?_
 ·rintro e C ⟨x6,h5l,hat7⟩
  refine W_at hat7 ?_
  unfold ref03_mark_j7 at h5l
  refine a8 h5l rfl (fun _ h5l=> ?_) (fun _ h5l=> ?_)
  ·refine az (ba (a5 ?_))
   refine bj (fun e C=>∃(x8:List UInt8),∃(x9:List UInt8),ref03_mark_j6 x3 x8 x9=some w5l/\At [(0,bq x1),(1,Pr.i64 x2),(5,ar a7 ([([61,61]:List UInt8),([33,61]:List UInt8),([60,61]:List UInt8),([62,61]:List UInt8),([38,38]:List UInt8),([124,124]:List UInt8)]:List (List UInt8))),(6,Pr.i64 x3),(32,Pr.bool (x8==x9))] [] e C) ?_ ?_
   ·rintro e C ⟨x8,x9,h5l,hat6⟩
    refine W_at hat6 ?_
    unfold ref03_mark_j6 at h5l
    refine a8 h5l rfl (fun _ h5l=> ?_) (fun _ h5l=> ?_)
    ·refine W_rs (kAs rfl ?_)
     obtain rfl:=ho5 _ (Option.some.inj h5l).symm
     replace h:some 2=some r:=h
     obtain rfl:=osj h
     exact bh ⟨rfl,aa⟩
    refine az (W_r (kMv rfl (kIn rfl rfl rfl (kAs rfl ?_))))
    exact⟨m5,Nat.lt_succ_self _,w64 (x3+1),hn5 _ (Option.some.inj h5l).symm,atOk⟩
   refine e7 10 hmx (by kernel_rfl) (by kernel_rfl) ?_
   refine lUn (hMvA rfl) (lUn (hMvA rfl) (lUn (hMvA rfl) (lUn (qInt rfl rfl rfl) ?_)))
   obtain⟨x8,hx8,h5l⟩:=aj h5l
   refine lUn (qSubLH Tryz.underlying9 hx8) ?_
   refine lUn (hMvL rfl) (lUn (hMvA rfl) ?_)
   obtain⟨x9,hx9,h5l⟩:=aj h5l
   refine lUn (dh Tryz.underlying22 Tryz.sizeOf9 hx9) ?_
   refine lUn (cl ty9) ?_
   refine lUn (qStr rfl rfl rfl) ?_
   exact⟨x8,x9,h5l,atOk⟩
  refine db ?_
  obtain rfl:=ho5 _ (Option.some.inj h5l).symm
  exact⟨h,atOk⟩
 refine W_r (kMv rfl (kMvL rfl (kUn (gy rfl Tryz.underlying22) ?_)))
 refine kIn rfl rfl rfl (kMv rfl ?_)
 rcases bg h5l with⟨hc5,h5l⟩|⟨hc5,h5l⟩
 ·refine kGd rfl aa hc5 (hMvA rfl) (kGd rfl aa hc5 (qInt rfl rfl rfl) (kGd rfl aa hc5 (hMvA rfl) (kGd rfl aa hc5 (qLenS rfl Tryz.underlying9) ?_)))
  refine kGd rfl aa hc5 (qInt rfl rfl rfl) (kPt rfl hc5 rfl ?_)
  exact⟨decide ((w64 (x2+2))<=(x1.length:Int)),h5l,atOk⟩
 refine kSkT rfl aa hc5 (kSkT rfl aa hc5 (kSkT rfl aa hc5 (kSkT rfl aa hc5 (kSkT rfl aa hc5 (kPf rfl hc5 rfl ?_)))))
 exact⟨false,h5l,atOk⟩
theorem ref03_token_ok (x1:List UInt8) (x2:Int) (r:Int × Int × Int) (h:ref03_token x1 x2=some r):FnP Tryz.prog 50 [bq x1,Pr.i64 x2] (br [Pr.i64 r.1,Pr.i64 r.2.1,Pr.i64 r.2.2]):=by
 refine cz (rs:=[4,5,6]) Tryz.func50 rfl Tryz.ntmps50 ⟨by decide,Tryz.results50⟩ (by decide) (fun s0=> ?_)
 unfold ref03_token at h
 refine W_rs (kAs rfl (kAs rfl (kAs rfl (W_rs (kAs rfl (ba (W_rs (kMv rfl (kMv rfl ?_)))))))))
 obtain⟨x3,hx3,h⟩:=aj h
 refine kUn (qIdxS Tryz.underlying9 hx3) ?_
 refine ct h (ref03_digit_ok x3) rfl fun x4 _ h=> ?_
 refine a8 h rfl (fun _ h=> ?_) (fun _ h=> ?_)
 ·refine ba (a5 ?_)
  obtain⟨z3l,hz3,h⟩:=aj h
  obtain⟨n3,hN3⟩:=bt hz3
  refine cv 0 (fun e C=>∃(x6:Int),ref03_token_k2 x1 x2 x6=some r/\At [(0,bq x1),(1,Pr.i64 x2),(7,Pr.i64 x6)] [] e C) ?_ ?_
  ·rintro e C ⟨x6,h,hat2⟩
   refine W_at hat2 ?_
   unfold ref03_token_k2 at h
   refine W_rs (kMv rfl (kMv rfl (kMv rfl (kMv rfl (kIn rfl rfl rfl ?_)))))
   obtain⟨x13,hx13,h⟩:=aj h
   refine kUn (qSubLH Tryz.underlying9 hx13) ?_
   refine ct h (ref03_great_ok x13) rfl fun x14 _ h=>kAs rfl (ba ?_)
   refine bj (fun e C=>∃(x18:Bool),qx x6 x18=some r/\At [(7,Pr.i64 x6),(47,Pr.bool x18)] [] e C) ?_ ?_
   ·rintro e C ⟨x18,h,hat1⟩
    refine W_at hat1 ?_
    unfold qx at h
    refine a8 h rfl (fun _ h=> ?_) (fun _ h=> ?_)
    ·refine W_rs (kAs rfl (kAs rfl (kAs rfl ?_)))
     obtain rfl:=osj h
     exact bh ⟨rfl,aa⟩
    refine az (W_rs (kMv rfl (kAs rfl (kAs rfl (kAs rfl ?_)))))
    obtain rfl:=osj h
    exact bh ⟨rfl,aa⟩
   refine W_r (kMv rfl (kMv rfl ?_))
   rcases bg h with⟨hc15,h⟩|⟨hc15,h⟩
   ·refine kSkF rfl aa hc15 (kSkF rfl aa hc15 (kSkF rfl aa hc15 (kSkU rfl aa (kSkU rfl aa (kSkU rfl aa (kSkU rfl aa (kSkF rfl aa hc15 (kPt rfl hc15 rfl ?_))))))))
    exact⟨true,h,atOk⟩
   refine kGd rfl aa hc15 (hMvA rfl) (kGd rfl aa hc15 (qInt rfl rfl rfl) (kGd rfl aa hc15 (hMvA rfl) ?_))
   rcases bg h with⟨hc16,h⟩|⟨hc16,h⟩
   ·refine kGd rfl aa hc16 (hMvA rfl) (kGd rfl aa hc16 (hMvA rfl) ?_)
    obtain⟨x17,hx17,h⟩:=aj h
    refine kGd rfl aa hc16 (qIdxS Tryz.underlying9 hx17) ?_
    refine kGd rfl aa hc16 (qInt rfl rfl rfl) (kGd rfl aa hc15 (hPt rfl hc16 rfl) (kPf rfl hc15 rfl ?_))
    exact⟨x17==48,h,atOk⟩
   refine kSkT rfl aa hc16 (kSkT rfl aa hc16 (kSkT rfl aa hc16 (kSkT rfl aa hc16 (kGd rfl aa hc15 (hPf rfl hc16 rfl) (kPf rfl hc15 rfl ?_)))))
   exact⟨false,h,atOk⟩
  refine da (fun m e C=>∃(x6:Int),dn (fun s=>ref03_token_l3 x2 x1 s) m x6=some z3l/\At [(0,bq x1),(1,Pr.i64 x2),(7,Pr.i64 x6)] [] e C) n3 ⟨0,hN3,⟨⟨aa,aa,aa,trivial⟩,Pick.refl _⟩⟩ ?_
  rintro m e C ⟨x6,hN3,hatl3⟩
  refine W_at hatl3 ?_
  obtain⟨m3,w3l,rfl,h3l,hn3,ho3⟩:=bk hN3
  replace h3l:ref03_token_l3 x2 x1 x6=some w3l:=h3l
  unfold ref03_token_l3 at h3l
  refine ba ?_
  refine bj (fun e C=>∃(x11:Bool),ref03_token_j4 x6 x11=some w3l/\At [(0,bq x1),(1,Pr.i64 x2),(7,Pr.i64 x6),(27,Pr.bool x11)] [] e C) ?_ ?_
  ·rintro e C ⟨x11,h3l,hat4⟩
   refine W_at hat4 ?_
   unfold ref03_token_j4 at h3l
   refine a8 h3l rfl (fun _ h3l=> ?_) (fun _ h3l=> ?_)
   ·refine az (a5 (W_r (kMv rfl (kIn rfl rfl rfl (kAs rfl ?_)))))
    exact⟨m3,Nat.lt_succ_self _,w64 (x6+1),hn3 _ (Option.some.inj h3l).symm,atOk⟩
   refine db ?_
   obtain rfl:=ho3 _ (Option.some.inj h3l).symm
   exact⟨x6,h,atOk⟩
  refine W_r (kMv rfl (kMv rfl (kIn rfl rfl rfl (kMv rfl (kUn (qLenS rfl Tryz.underlying9) ?_)))))
  refine kIn rfl rfl rfl (kMv rfl ?_)
  rcases bg h3l with⟨hc8,h3l⟩|⟨hc8,h3l⟩
  ·refine kGd rfl aa hc8 (hMvA rfl) (kGd rfl aa hc8 (hMvA rfl) (kGd rfl aa hc8 (hMvA rfl) (kGd rfl aa hc8 (qInt rfl rfl rfl) ?_)))
   obtain⟨x9,hx9,h3l⟩:=aj h3l
   refine kGd rfl aa hc8 (qIdxS Tryz.underlying9 hx9) ?_
   obtain⟨x10,hx10,h3l⟩:=aj h3l
   refine kGd rfl aa hc8 (c5 (ref03_digit_ok x9 _ hx10)) ?_
   refine kPt rfl hc8 rfl ?_
   exact⟨x10,h3l,atOk⟩
  refine kSkT rfl aa hc8 (kSkT rfl aa hc8 (kSkT rfl aa hc8 (kSkT rfl aa hc8 (kSkT rfl aa hc8 (kSkT rfl aa hc8 (kPf rfl hc8 rfl ?_))))))
  exact⟨false,h3l,atOk⟩
 refine az (ba (W_rs (kMv rfl (kMv rfl ?_))))
 obtain⟨x20,hx20,h⟩:=aj h
 refine kUn (qIdxS Tryz.underlying9 hx20) ?_
 refine ct h (ref03_letter_ok x20) rfl fun x21 _ h=> ?_
 refine a8 h rfl (fun _ h=> ?_) (fun _ h=> ?_)
 ·refine ba (a5 ?_)
  obtain⟨z6l,hz6,h⟩:=aj h
  obtain⟨n6,hN6⟩:=bt hz6
  refine cv 2 (fun e C=>∃(x23:Int),ref03_token_k5 x1 x2 x23=some r/\At [(0,bq x1),(1,Pr.i64 x2),(7,Pr.i64 x23)] [] e C) ?_ ?_
  ·rintro e C ⟨x23,h,hat5⟩
   refine W_at hat5 ?_
   unfold ref03_token_k5 at h
   refine ba (W_rs (kMv rfl (kIn rfl rfl rfl ?_)))
   refine a8 h rfl (fun _ h=> ?_) (fun _ h=> ?_)
   ·refine W_rs (kAs rfl (kAs rfl (kAs rfl ?_)))
    obtain rfl:=osj h
    exact bh ⟨rfl,aa⟩
   refine az (W_rs (kMv rfl (kMv rfl (kMv rfl (kMv rfl (kIn rfl rfl rfl ?_))))))
   obtain⟨x34,hx34,h⟩:=aj h
   refine kUn (qSubLH Tryz.underlying9 hx34) ?_
   refine ct h (ref03_Kept_ok x34) rfl fun x35 _ h=>kAs rfl (ba (W_rs (kMv rfl ?_)))
   refine a8 h rfl (fun _ h=> ?_) (fun _ h=> ?_)
   ·refine W_rs (kMv rfl (kAs rfl (kAs rfl (kAs rfl ?_))))
    obtain rfl:=osj h
    exact bh ⟨rfl,aa⟩
   refine az (W_rs (kMv rfl (kAs rfl (kAs rfl (kAs rfl ?_)))))
   obtain rfl:=osj h
   exact bh ⟨rfl,aa⟩
  refine da (fun m e C=>∃(x23:Int),dn (fun s=>ref03_token_l6 x2 x1 s) m x23=some z6l/\At [(0,bq x1),(1,Pr.i64 x2),(7,Pr.i64 x23)] [] e C) n6 ⟨0,hN6,⟨⟨aa,aa,aa,trivial⟩,Pick.refl _⟩⟩ ?_
  rintro m e C ⟨x23,hN6,hatl6⟩
  refine W_at hatl6 ?_
  obtain⟨m6,w6l,rfl,h6l,hn6,ho6⟩:=bk hN6
  replace h6l:ref03_token_l6 x2 x1 x23=some w6l:=h6l
  unfold ref03_token_l6 at h6l
  refine ba ?_
  refine bj (fun e C=>∃(x31:Bool),qw x23 x31=some w6l/\At [(0,bq x1),(1,Pr.i64 x2),(7,Pr.i64 x23),(74,Pr.bool x31)] [] e C) ?_ ?_
  ·rintro e C ⟨x31,h6l,hat7⟩
   refine W_at hat7 ?_
   unfold qw at h6l
   refine a8 h6l rfl (fun _ h6l=> ?_) (fun _ h6l=> ?_)
   ·refine az (a5 (W_r (kMv rfl (kIn rfl rfl rfl (kAs rfl ?_)))))
    exact⟨m6,Nat.lt_succ_self _,w64 (x23+1),hn6 _ (Option.some.inj h6l).symm,atOk⟩
   refine db ?_
   obtain rfl:=ho6 _ (Option.some.inj h6l).symm
   exact⟨x23,h,atOk⟩
  refine W_r (kMv rfl (kMv rfl (kIn rfl rfl rfl (kMv rfl (kUn (qLenS rfl Tryz.underlying9) ?_)))))
  refine kIn rfl rfl rfl (kMv rfl ?_)
  rcases bg h6l with⟨hc25,h6l⟩|⟨hc25,h6l⟩
  ·refine kGd rfl aa hc25 (hMvA rfl) (kGd rfl aa hc25 (hMvA rfl) (kGd rfl aa hc25 (hMvA rfl) (kGd rfl aa hc25 (qInt rfl rfl rfl) ?_)))
   obtain⟨x26,hx26,h6l⟩:=aj h6l
   refine kGd rfl aa hc25 (qIdxS Tryz.underlying9 hx26) ?_
   obtain⟨x27,hx27,h6l⟩:=aj h6l
   refine kGd rfl aa hc25 (c5 (ref03_letter_ok x26 _ hx27)) ?_
   refine kGd rfl aa hc25 (hMvA rfl) ?_
   rcases bg h6l with⟨hc28,h6l⟩|⟨hc28,h6l⟩
   ·refine kSkF rfl aa hc28 (kSkF rfl aa hc28 (kSkF rfl aa hc28 (kSkF rfl aa hc28 (kSkF rfl aa hc28 (kSkF rfl aa hc28 (kGd rfl aa hc25 (hPt rfl hc28 rfl) (kPt rfl hc25 rfl ?_)))))))
    exact⟨true,h6l,atOk⟩
   refine kGd rfl aa hc28 (hMvA rfl) (kGd rfl aa hc28 (hMvA rfl) (kGd rfl aa hc28 (hMvA rfl) (kGd rfl aa hc28 (qInt rfl rfl rfl) ?_)))
   obtain⟨x29,hx29,h6l⟩:=aj h6l
   refine kGd rfl aa hc28 (qIdxS Tryz.underlying9 hx29) ?_
   obtain⟨x30,hx30,h6l⟩:=aj h6l
   refine kGd rfl aa hc28 (c5 (ref03_digit_ok x29 _ hx30)) ?_
   refine kGd rfl aa hc25 (hPf rfl hc28 rfl) (kPt rfl hc25 rfl ?_)
   exact⟨x30,h6l,atOk⟩
  refine kSkT rfl aa hc25 (kSkT rfl aa hc25 (kSkT rfl aa hc25 (kSkT rfl aa hc25 (kSkT rfl aa hc25 (kSkT rfl aa hc25 (kSkT rfl aa hc25 (kSkU rfl aa (kSkU rfl aa (kSkU rfl aa (kSkU rfl aa (kSkU rfl aa ?_)))))))))))
  refine kSkU rfl aa (kSkT rfl aa hc25 (kPf rfl hc25 rfl ?_))
  exact⟨false,h6l,atOk⟩
 refine az (W_rs (kMv rfl (kMv rfl (ct h (ref03_mark_ok x1 x2) rfl fun x37 _ h=>kAs rfl (ba (W_rs (kMv rfl (kIn rfl rfl rfl ?_))))))))
 refine a8 h rfl (fun _ h=> ?_) (fun _ h=> ?_)
 ·refine W_rs (kAs rfl (kAs rfl (kAs rfl ?_)))
  obtain rfl:=osj h
  exact bh ⟨rfl,aa⟩
 refine az (W_rs (kMv rfl (kAs rfl (kAs rfl (kAs rfl ?_)))))
 obtain rfl:=osj h
 exact bh ⟨rfl,aa⟩
theorem ref03_Lex_ok (x1:List UInt8) (r:(List ApiToken) × Int × Int) (h:ref03_Lex x1=some r):FnP Tryz.prog 21 [bq x1] (br [ar cf r.1,Pr.i64 r.2.1,Pr.i64 r.2.2]):=by
 refine cz (rs:=[2,3,4]) Tryz.func21 rfl Tryz.ntmps21 ⟨by decide,Tryz.results21⟩ (by decide) (fun s0=> ?_)
 unfold ref03_Lex at h
 refine W_rs (kAs rfl (kAs rfl (kAs rfl (ba (W_rs (kMv rfl (kUn (qLenS rfl Tryz.underlying9) ?_)))))))
 refine kIn rfl rfl rfl ?_
 refine a8 h rfl (fun _ h=> ?_) (fun _ h=> ?_)
 ·refine W_rs (kAs rfl (kAs rfl (kAs rfl ?_)))
  obtain rfl:=osj h
  exact bh ⟨rfl,tup_le ⟨dm _,aa,aa,trivial⟩⟩
 refine az (W_rs (kAs rfl (W_rs (kAs rfl (a5 ?_)))))
 obtain⟨n1,hN1⟩:=bt h
 refine W_nil [5] cf 45 (fun v24=> ?_) ⟨rfl,trivial⟩
 refine da (fun m e C=>∃(x4:Int),∃(x5:List ApiToken),∃(v3:Value),dn (fun s=>ref03_Lex_l1 x1 s.1 s.2) m (x4,x5)=some r/\At [(0,bq x1),(5,Pr.is v3),(6,Pr.i64 x4)] [Own.vec v3 cf x5 45] e C) n1 ⟨0,[],v24,hN1,⟨⟨aa,aa,aa,trivial⟩,Pick.refl _⟩⟩ ?_
 rintro m e C ⟨x4,x5,v3,hN1,hatl1⟩
 refine W_at hatl1 ?_
 obtain⟨m1,w1l,rfl,h1l,hn1,ho1⟩:=bk hN1
 replace h1l:ref03_Lex_l1 x1 x4 x5=some w1l:=h1l
 unfold ref03_Lex_l1 at h1l
 refine a5 (W_rs (kMv rfl (kMv rfl ?_)))
 obtain⟨⟨x9,x10⟩,hx9,h1l⟩:=aj h1l
 refine kUn (c5 (ref03_between_ok x1 x4 _ hx9)) ?_
 refine kUn (hMv (out:=br [Pr.i64 x9,Pr.bool x10]) rfl) (kUn aw ?_)
 refine kUn aw ?_
 refine kAs rfl (kAs rfl (ba (W_rs (kMv rfl (kNo rfl ?_)))))
 refine a8 h1l rfl (fun _ h1l=> ?_) (fun _ h1l=> ?_)
 ·refine W_rs (kMv rfl (kAs rfl (kAs rfl (kAs rfl ?_))))
  have h:some ([],x9,32)=some r:=congrArg some (ho1 _ (Option.some.inj h1l).symm)
  obtain rfl:=osj h
  exact bh ⟨rfl,tup_le ⟨dm _,aa,aa,trivial⟩⟩
 refine az (ba (W_rs (kMv rfl (kMv rfl (kUn (qLenS rfl Tryz.underlying9) ?_)))))
 refine kIn rfl rfl rfl ?_
 refine a8 h1l rfl (fun _ h1l=> ?_) (fun _ h1l=> ?_)
 ·refine W_rs (kMv rfl (kMv rfl (kMv rfl (kMv rfl ?_))))
  obtain⟨x13,hx13,h1l⟩:=aj h1l
  refine kUn (qSubL Tryz.underlying9 hx13) ?_
  refine kUn (fu st45 ⟨(ApiToken.mk 5 [] 0 []),⟨_,rfl,rfl,fun j fd hj hf=>by match j,hj with| 0,h=>exact absurd rfl h| 1,_=>cases hf;rfl| 2,_=>cases hf;rfl| 3,_=>cases hf;rfl|_+4,_=>cases hf⟩,⟨(ApiToken.mk 5 [] x9 []),⟨_,rfl,rfl,fun j fd hj hf=>by match j,hj with| 0,_=>cases hf;rfl| 1,_=>cases hf;rfl| 2,h=>exact absurd rfl h| 3,_=>cases hf;rfl|_+4,_=>cases hf⟩,⟨(ApiToken.mk 5 [] x9 x13),⟨_,rfl,rfl,fun j fd hj hf=>by match j,hj with| 0,_=>cases hf;rfl| 1,_=>cases hf;rfl| 2,_=>cases hf;rfl| 3,h=>exact absurd rfl h|_+4,_=>cases hf⟩,rfl⟩⟩⟩) ?_
  refine kUn (cr (R:=cf) (a:=(ApiToken.mk 5 [] x9 x13)) el41 (Nat.le_of_ble_eq_true rfl)) ?_
  obtain⟨x14,hx14,h1l⟩:=aj h1l
  refine ff 0 el41 hx14 (fun v15=> ?_)
  refine kAs rfl (kAs rfl (kAs rfl ?_))
  have h:some (x14,0,0)=some r:=congrArg some (ho1 _ (Option.some.inj h1l).symm)
  refine W_rel 0 [2] ?_ rfl ⟨rfl,trivial⟩
  obtain rfl:=osj h
  exact bh ⟨rfl,aa⟩
 refine az (W_rs (kMv rfl (kMv rfl ?_)))
 obtain⟨⟨x16,x17,x18⟩,hx16,h1l⟩:=aj h1l
 refine kUn (c5 (ref03_token_ok x1 x9 _ hx16)) ?_
 refine kUn (hMv (out:=br [Pr.i64 x16,Pr.i64 x17,Pr.i64 x18]) rfl) (kUn aw ?_)
 refine kUn aw ?_
 refine kUn aw ?_
 refine kAs rfl (kAs rfl (kAs rfl (ba (W_rs (kMv rfl (kIn rfl rfl rfl ?_))))))
 refine a8 h1l rfl (fun _ h1l=> ?_) (fun _ h1l=> ?_)
 ·refine W_rs (kMv rfl (kMv rfl (kAs rfl (kAs rfl (kAs rfl ?_)))))
  have h:some ([],x9,x18)=some r:=congrArg some (ho1 _ (Option.some.inj h1l).symm)
  obtain rfl:=osj h
  exact bh ⟨rfl,tup_le ⟨dm _,aa,aa,trivial⟩⟩
 refine az ?_
 refine bj (fun e C=>∃(x22:List ApiToken),∃(v23:Value),ref03_Lex_j2 x9 x17 x22=some w1l/\At [(0,bq x1),(5,Pr.is v23),(7,Pr.i64 x9),(10,Pr.i64 x17)] [Own.vec v23 cf x22 45] e C) ?_ ?_
 ·rintro e C ⟨x22,v23,h1l,hat2⟩
  refine W_at hat2 ?_
  unfold ref03_Lex_j2 at h1l
  refine W_r (kMv rfl (kMv rfl (kIn rfl rfl rfl (kAs rfl ?_))))
  exact⟨m1,Nat.lt_succ_self _,w64 (x9+x17),x22,v23,hn1 _ (Option.some.inj h1l).symm,atOk⟩
 refine e7 15 hmx (by kernel_rfl) (by kernel_rfl) ?_
 refine lUn (hMvA rfl) (lUn (hMvA rfl) (lUn (hMvA rfl) (lUn (hMvA rfl) (lUn (hMvA rfl) (lUn (hMvA rfl) (lUn (qInt rfl rfl rfl) ?_))))))
 obtain⟨x20,hx20,h1l⟩:=aj h1l
 refine lUn (qSubLH Tryz.underlying9 hx20) ?_
 refine lUn (hMvA rfl) (lUn (hMvA rfl) (lUn (hMvA rfl) (lUn (hMvA rfl) ?_)))
 obtain⟨x21,hx21,h1l⟩:=aj h1l
 refine lUn (qSubLH Tryz.underlying9 hx21) ?_
 refine lUn (fu st45 ⟨(ApiToken.mk x16 [] 0 []),⟨_,rfl,rfl,fun j fd hj hf=>by match j,hj with| 0,h=>exact absurd rfl h| 1,_=>cases hf;rfl| 2,_=>cases hf;rfl| 3,_=>cases hf;rfl|_+4,_=>cases hf⟩,⟨(ApiToken.mk x16 x20 0 []),⟨_,rfl,rfl,fun j fd hj hf=>by match j,hj with| 0,_=>cases hf;rfl| 1,h=>exact absurd rfl h| 2,_=>cases hf;rfl| 3,_=>cases hf;rfl|_+4,_=>cases hf⟩,⟨(ApiToken.mk x16 x20 x9 []),⟨_,rfl,rfl,fun j fd hj hf=>by match j,hj with| 0,_=>cases hf;rfl| 1,_=>cases hf;rfl| 2,h=>exact absurd rfl h| 3,_=>cases hf;rfl|_+4,_=>cases hf⟩,⟨(ApiToken.mk x16 x20 x9 x21),⟨_,rfl,rfl,fun j fd hj hf=>by match j,hj with| 0,_=>cases hf;rfl| 1,_=>cases hf;rfl| 2,_=>cases hf;rfl| 3,h=>exact absurd rfl h|_+4,_=>cases hf⟩,rfl⟩⟩⟩⟩) ?_
 refine lUn (cr (R:=cf) (a:=(ApiToken.mk x16 x20 x9 x21)) el41 (Nat.le_of_ble_eq_true rfl)) ?_
 obtain⟨x22,hx22,h1l⟩:=aj h1l
 refine ff 0 el41 hx22 (fun v23=> ?_)
 refine kAs rfl ?_
 exact⟨x22,v23,h1l,atOk⟩
theorem cc (x1:List ApiToken) (x2:Int) (x3:List UInt8) (r:Bool) (h:cw x1 x2 x3=some r):FnP Tryz.prog 92 [ar cf x1,Pr.i64 x2,bq x3] (Pr.bool r):=by
 refine cz (rs:=[6]) Tryz.func92 rfl Tryz.ntmps92 ⟨by decide,Tryz.results92⟩ (by decide) (fun s0=> ?_)
 unfold cw at h
 refine W_rs (kAs rfl ?_)
 refine bj (fun e C=>∃(x18:Bool),ref12_is_j1 x18=some r/\At [(6,Pr.bool x18)] [] e C) ?_ ?_
 ·rintro e C ⟨x18,h,hat1⟩
  refine W_at hat1 ?_
  unfold ref12_is_j1 at h
  obtain rfl:=osj h
  exact bh ⟨rfl,aa⟩
 refine W_r (kMv rfl (kMvL rfl (kUn (gy rfl Tryz.underlying41) ?_)))
 refine kIn rfl rfl rfl (kMv rfl ?_)
 rcases bg h with⟨hc4,h⟩|⟨hc4,h⟩
 ·refine kGd rfl aa hc4 (hMvL rfl) (kGd rfl aa hc4 (hMvA rfl) ?_)
  obtain⟨x5,hx5,h⟩:=aj h
  refine kGd rfl aa hc4 (dh Tryz.underlying41 Tryz.sizeOf45 hx5) ?_
  refine kGd rfl aa hc4 (eh fld45_1 d4) ?_
  refine kGd rfl aa hc4 (cl ty9) ?_
  refine kGd rfl aa hc4 (hMvA rfl) (kGd rfl aa hc4 (qStr rfl rfl rfl) (kPt rfl hc4 rfl (kMv rfl ?_)))
  rcases bg h with⟨hc6,h⟩|⟨hc6,h⟩
  ·refine kGd rfl aa hc6 (hMvL rfl) (kGd rfl aa hc6 (hMvA rfl) ?_)
   obtain⟨x7,hx7,h⟩:=aj h
   refine kGd rfl aa hc6 (dh Tryz.underlying41 Tryz.sizeOf45 hx7) ?_
   refine kGd rfl aa hc6 (eh fld45_0 np) ?_
   refine kGd rfl aa hc6 (cl ty3) ?_
   refine kGd rfl aa hc6 (qInt rfl rfl rfl) (kPt rfl hc6 rfl (kMv rfl ?_))
   rcases bg h with⟨hc8,h⟩|⟨hc8,h⟩
   ·refine kGd rfl aa hc8 (hMvL rfl) (kGd rfl aa hc8 (hMvA rfl) ?_)
    obtain⟨x9,hx9,h⟩:=aj h
    refine kGd rfl aa hc8 (dh Tryz.underlying41 Tryz.sizeOf45 hx9) ?_
    refine kGd rfl aa hc8 (eh fld45_0 np) ?_
    refine kGd rfl aa hc8 (cl ty3) ?_
    refine kGd rfl aa hc8 (qInt rfl rfl rfl) (kPt rfl hc8 rfl (kAs rfl ?_))
    exact⟨x9.Kind != 5,h,atOk⟩
   refine kSkT rfl aa hc8 (kSkT rfl aa hc8 (kSkT rfl aa hc8 (kSkT rfl aa hc8 (kSkT rfl aa hc8 (kSkT rfl aa hc8 (kPf rfl hc8 rfl (kAs rfl ?_)))))))
   exact⟨false,h,atOk⟩
  refine kSkT rfl aa hc6 (kSkT rfl aa hc6 (kSkT rfl aa hc6 (kSkT rfl aa hc6 (kSkT rfl aa hc6 (kSkT rfl aa hc6 (kPf rfl hc6 rfl (kMv rfl ?_)))))))
  have hc10:false=false:=rfl
  refine kSkT rfl aa hc10 (kSkT rfl aa hc10 (kSkT rfl aa hc10 (kSkT rfl aa hc10 (kSkT rfl aa hc10 (kSkT rfl aa hc10 (kPf rfl hc10 rfl (kAs rfl ?_)))))))
  exact⟨false,h,atOk⟩
 refine kSkT rfl aa hc4 (kSkT rfl aa hc4 (kSkT rfl aa hc4 (kSkT rfl aa hc4 (kSkT rfl aa hc4 (kSkT rfl aa hc4 (kSkT rfl aa hc4 (kPf rfl hc4 rfl (kMv rfl ?_))))))))
 have hc12:false=false:=rfl
 refine kSkT rfl aa hc12 (kSkT rfl aa hc12 (kSkT rfl aa hc12 (kSkT rfl aa hc12 (kSkT rfl aa hc12 (kSkT rfl aa hc12 (kPf rfl hc12 rfl (kMv rfl ?_)))))))
 have hc16:false=false:=rfl
 refine kSkT rfl aa hc16 (kSkT rfl aa hc16 (kSkT rfl aa hc16 (kSkT rfl aa hc16 (kSkT rfl aa hc16 (kSkT rfl aa hc16 (kPf rfl hc16 rfl (kAs rfl ?_)))))))
 exact⟨false,h,atOk⟩
theorem cp (x1:Int) (r:Ref12Wrong) (h:c4 x1=some r):FnP Tryz.prog 93 [Pr.i64 x1] ((ah).val r):=by
 refine c7 (rs:=[.cell 2 97]) Tryz.func93 rfl Tryz.ntmps93 Tryz.results93 (by decide) (fun s0=> ?_)
 unfold c4 at h
 refine W_rs (bw al97 fun b2=>W_rs (kMv rfl (kUn (fu st97 ⟨(Ref12Wrong.mk x1 0),⟨_,rfl,rfl,fun j fd hj hf=>by match j,hj with| 0,h=>exact absurd rfl h| 1,_=>cases hf;rfl|_+2,_=>cases hf⟩,⟨(Ref12Wrong.mk x1 120),⟨_,rfl,rfl,fun j fd hj hf=>by match j,hj with| 0,_=>cases hf;rfl| 1,h=>exact absurd rfl h|_+2,_=>cases hf⟩,rfl⟩⟩) ?_)))
 refine ax 0 rfl rfl (Upd.refl _) rfl Tryz.sizeOf97 ?_
 obtain rfl:=osj h
 exact bh ⟨rfl,[(ah).val (Ref12Wrong.mk x1 120)],⟨yBox 0 ty97 aa,trivial⟩,aa⟩
theorem ig (x1:List ApiToken) (x2:Int) (r:Bool) (h:jy x1 x2=some r):FnP Tryz.prog 94 [ar cf x1,Pr.i64 x2] (Pr.bool r):=by
 refine cz (rs:=[4]) Tryz.func94 rfl Tryz.ntmps94 ⟨by decide,Tryz.results94⟩ (by decide) (fun s0=> ?_)
 unfold jy at h
 refine W_rs (kAs rfl ?_)
 refine bj (fun e C=>∃(x5:Bool),ref12_name_j1 x5=some r/\At [(4,Pr.bool x5)] [] e C) ?_ ?_
 ·rintro e C ⟨x5,h,hat1⟩
  refine W_at hat1 ?_
  unfold ref12_name_j1 at h
  obtain rfl:=osj h
  exact bh ⟨rfl,aa⟩
 refine W_r (kMv rfl (kMvL rfl (kUn (gy rfl Tryz.underlying41) ?_)))
 refine kIn rfl rfl rfl (kMv rfl ?_)
 rcases bg h with⟨hc3,h⟩|⟨hc3,h⟩
 ·refine kGd rfl aa hc3 (hMvL rfl) (kGd rfl aa hc3 (hMvA rfl) ?_)
  obtain⟨x4,hx4,h⟩:=aj h
  refine kGd rfl aa hc3 (dh Tryz.underlying41 Tryz.sizeOf45 hx4) ?_
  refine kGd rfl aa hc3 (eh fld45_0 np) ?_
  refine kGd rfl aa hc3 (cl ty3) ?_
  refine kGd rfl aa hc3 (qInt rfl rfl rfl) (kPt rfl hc3 rfl (kAs rfl ?_))
  exact⟨x4.Kind==1,h,atOk⟩
 refine kSkT rfl aa hc3 (kSkT rfl aa hc3 (kSkT rfl aa hc3 (kSkT rfl aa hc3 (kSkT rfl aa hc3 (kSkT rfl aa hc3 (kPf rfl hc3 rfl (kAs rfl ?_)))))))
 exact⟨false,h,atOk⟩
theorem ref12_end_ok (x1:List ApiToken) (x2 r:Int) (h:ref12_end x1 x2=some r):FnP Tryz.prog 142 [ar cf x1,Pr.i64 x2] (Pr.i64 r):=by
 refine cz (rs:=[4]) Tryz.func142 rfl Tryz.ntmps142 ⟨by decide,Tryz.results142⟩ (by decide) (fun s0=> ?_)
 unfold ref12_end at h
 refine W_rs (kAs rfl ?_)
 refine bj (fun e C=>∃(x3:ApiToken),∃(x4:ApiToken),ref12_end_j1 x3 x4=some r/\At [(4,Pr.i64 (w64 (x3.At+(x4.Text.length:Int))))] [] e C) ?_ ?_
 ·rintro e C ⟨x3,x4,h,hat1⟩
  refine W_at hat1 ?_
  unfold ref12_end_j1 at h
  obtain rfl:=osj h
  exact bh ⟨rfl,aa⟩
 refine e7 15 hmx (by kernel_rfl) (by kernel_rfl) ?_
 refine lUn (hMvL rfl) (lUn (hMvA rfl) (lUn (qInt rfl rfl rfl) ?_))
 obtain⟨x3,hx3,h⟩:=aj h
 refine lUn (dh Tryz.underlying41 Tryz.sizeOf45 hx3) ?_
 refine lUn (eh fld45_2 ib) ?_
 refine lUn (cl ty3) ?_
 refine lUn (hMvL rfl) (lUn (hMvA rfl) (lUn (qInt rfl rfl rfl) ?_))
 obtain⟨x4,hx4,h⟩:=aj h
 refine lUn (dh Tryz.underlying41 Tryz.sizeOf45 hx4) ?_
 refine lUn (eh fld45_1 d4) ?_
 refine lUn (cl ty9) ?_
 refine lUn (qLenS rfl Tryz.underlying9) ?_
 refine lUn (qInt rfl rfl rfl) (lUn (hAsA rfl) ?_)
 exact⟨x3,x4,h,atOk⟩
theorem dj (x1:List ApiToken) (x2 x3 x4:Int) (x5:List ApiNode) (r:ApiNode) (h:ek x1 x2 x3 x4 x5=some r):FnP Tryz.prog 96 [ar cf x1,Pr.i64 x2,Pr.i64 x3,Pr.i64 x4,ar af x5] ((af).val r):=by
 refine c7 (rs:=[.cell 10 64]) Tryz.func96 rfl Tryz.ntmps96 Tryz.results96 (by decide) (fun s0=> ?_)
 unfold ek at h
 refine W_rs (bw al64 fun b6=> ?_)
 refine bj (fun e C=>∃(x7:ApiToken),∃(x8:Int),ref12_made_j1 x2 x5 x7 x8=some r/\At [(10,ao b6 0)] [Own.box b6 af (ApiNode.mk x2 [] [] 0 x7.At x8 (-1) (-1) x5)] e C) ?_ ?_
 ·rintro e C ⟨x7,x8,h,hat1⟩
  refine W_at hat1 ?_
  unfold ref12_made_j1 at h
  obtain rfl:=osj h
  exact bh ⟨rfl,[(af).val (ApiNode.mk x2 [] [] 0 x7.At x8 (-1) (-1) x5)],⟨yBox 0 ty64 aa,trivial⟩,aa⟩
 refine e7 11 hmx (by kernel_rfl) (by kernel_rfl) ?_
 refine lUn (hMvA rfl) (lUn (hMvL rfl) (lUn (hMvA rfl) ?_))
 obtain⟨x7,hx7,h⟩:=aj h
 refine lUn (dh Tryz.underlying41 Tryz.sizeOf45 hx7) ?_
 refine lUn (eh fld45_2 ib) ?_
 refine lUn (cl ty3) ?_
 refine lUn (hMvL rfl) (lUn (hMvA rfl) ?_)
 obtain⟨x8,hx8,h⟩:=aj h
 refine lUn (c5 (ref12_end_ok x1 x4 _ hx8)) ?_
 refine lUn (hMvL rfl) (lUn (dp bm st64 ⟨(ApiNode.mk x2 [] [] 0 0 0 0 0 []),⟨_,rfl,rfl,fun j fd hj hf=>by match j,hj with| 0,h=>exact absurd rfl h| 1,_=>cases hf;rfl| 2,_=>cases hf;rfl| 3,_=>cases hf;rfl| 4,_=>cases hf;rfl| 5,_=>cases hf;rfl| 6,_=>cases hf;rfl| 7,_=>cases hf;rfl| 8,_=>cases hf;rfl|_+9,_=>cases hf⟩,⟨(ApiNode.mk x2 [] [] 0 x7.At 0 0 0 []),⟨_,rfl,rfl,fun j fd hj hf=>by match j,hj with| 0,_=>cases hf;rfl| 1,_=>cases hf;rfl| 2,_=>cases hf;rfl| 3,_=>cases hf;rfl| 4,h=>exact absurd rfl h| 5,_=>cases hf;rfl| 6,_=>cases hf;rfl| 7,_=>cases hf;rfl| 8,_=>cases hf;rfl|_+9,_=>cases hf⟩,⟨(ApiNode.mk x2 [] [] 0 x7.At x8 0 0 []),⟨_,rfl,rfl,fun j fd hj hf=>by match j,hj with| 0,_=>cases hf;rfl| 1,_=>cases hf;rfl| 2,_=>cases hf;rfl| 3,_=>cases hf;rfl| 4,_=>cases hf;rfl| 5,h=>exact absurd rfl h| 6,_=>cases hf;rfl| 7,_=>cases hf;rfl| 8,_=>cases hf;rfl|_+9,_=>cases hf⟩,⟨(ApiNode.mk x2 [] [] 0 x7.At x8 (-1) 0 []),⟨_,rfl,rfl,fun j fd hj hf=>by match j,hj with| 0,_=>cases hf;rfl| 1,_=>cases hf;rfl| 2,_=>cases hf;rfl| 3,_=>cases hf;rfl| 4,_=>cases hf;rfl| 5,_=>cases hf;rfl| 6,h=>exact absurd rfl h| 7,_=>cases hf;rfl| 8,_=>cases hf;rfl|_+9,_=>cases hf⟩,⟨(ApiNode.mk x2 [] [] 0 x7.At x8 (-1) (-1) []),⟨_,rfl,rfl,fun j fd hj hf=>by match j,hj with| 0,_=>cases hf;rfl| 1,_=>cases hf;rfl| 2,_=>cases hf;rfl| 3,_=>cases hf;rfl| 4,_=>cases hf;rfl| 5,_=>cases hf;rfl| 6,_=>cases hf;rfl| 7,h=>exact absurd rfl h| 8,_=>cases hf;rfl|_+9,_=>cases hf⟩,⟨(ApiNode.mk x2 [] [] 0 x7.At x8 (-1) (-1) x5),⟨_,rfl,rfl,fun j fd hj hf=>by match j,hj with| 0,_=>cases hf;rfl| 1,_=>cases hf;rfl| 2,_=>cases hf;rfl| 3,_=>cases hf;rfl| 4,_=>cases hf;rfl| 5,_=>cases hf;rfl| 6,_=>cases hf;rfl| 7,_=>cases hf;rfl| 8,h=>exact absurd rfl h|_+9,_=>cases hf⟩,rfl⟩⟩⟩⟩⟩⟩) ?_)
 refine ax 0 rfl rfl (Upd.refl _) rfl Tryz.sizeOf64 ?_
 exact⟨x7,x8,h,atOk⟩
end Go.Proofs.YtcndghapmoaidaaGreatDoor
