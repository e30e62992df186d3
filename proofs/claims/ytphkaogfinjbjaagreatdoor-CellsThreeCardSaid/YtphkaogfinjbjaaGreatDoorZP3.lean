/- The code comes to what these functions say (printed by wip/gen/gen.py). -/
import Derived.Test.YtphkaogfinjbjaaGreatDoorZP2
import Derived.Test.YtphkaogfinjbjaaGreatDoorZT
set_option linter.unusedSimpArgs false
set_option linter.unusedVariables false
set_option linter.unusedSectionVars false
set_option linter.unusedSectionVars false
set_option maxRecDepth 100000
set_option maxHeartbeats 4000000
namespace Go.Proofs.YtphkaogfinjbjaaGreatDoor
open Go Go.Cn
variable [Known]
theorem ref08_Units_ok (x1:List UInt8) (r:(List (List UInt8)) × Bool) (h:nt x1=some r):FnP Tryz.prog 61 [aj x1] (bn [af ab r.1,Pr.bool r.2]):=by
 refine a7 (n:=38) (rs:=[2,3]) Tryz.func61 rfl Tryz.ntmps61 ⟨by decide,Tryz.results61⟩ (by decide) (fun s0=> ?_)
 unfold nt at h
 refine W_rs ?_
 refine rq (out:=Pr.is (.slice none 0 0)) ae ?_
 refine rq (out:=Pr.bool false) ae ?_
 refine W_rs ?_
 refine rq (out:=aj x1) ag ?_
 obtain⟨⟨x2,x3,x4⟩,hx2,h⟩:=ah h
 refine rq (out:=bn [af bi x2,Pr.i64 x3,Pr.i64 x4]) (br (ref03_Lex_ok x1 _ hx2)) ?_
 refine rq (out:=bn [af bi x2,Pr.i64 x3,Pr.i64 x4]) ag ?_
 refine rq (out:=af bi x2) a6 ?_
 refine rq (out:=Pr.i64 x3) a6 ?_
 refine rq (out:=Pr.i64 x4) a6 ?_
 refine rq (out:=af bi x2) ae ?_
 refine rq (out:=Pr.i64 x3) ae ?_
 refine rq (out:=Pr.i64 x4) ae ?_
 refine aw ?_
 refine W_rs ?_
 refine rq (out:=Pr.i64 x4) ag ?_
 refine rq (out:=Pr.bool (x4 != 0)) qInt ?_
 refine au (b:=x4 != 0) rfl (fun hc5=> ?_) (fun hc5=> ?_)
 ·replace h:=iteT hc5 h
  refine W_rs ?_
  refine rq (out:=Pr.is (.slice none 0 0)) ae ?_
  refine rq (out:=Pr.bool false) ae ?_
  obtain rfl:=Option.some.inj h
  exact bb ⟨rfl,tup_le ⟨fk _,aa,trivial⟩⟩
 replace h:=iteF hc5 h
 refine av ?_
 refine W_rs ?_
 refine rq (out:=Pr.is (.slice none 0 0)) ae ?_
 refine aw ?_
 refine W_rs ?_
 refine rq (out:=Pr.i64 0) ae ?_
 refine ar ?_
 obtain⟨z2l,hz2,h⟩:=ah h
 obtain⟨n2,hN2⟩:=a4 hz2
 clear hz2
 refine bp 0 (fun e C=>∃(x8:List (List UInt8)),∃(v6:Value),ref08_Units_k1 x8=some r/\At [(7,Pr.is v6)] [Own.vec v6 ab x8 9] e C) ?_ ?_
 ·rintro e C ⟨x8,v6,h,hat1⟩
  refine W_at hat1 ?_
  clear hat1
  unfold ref08_Units_k1 at h
  refine W_rs ?_
  refine rq (out:=Pr.is v6) ag ?_
  refine rq (out:=Pr.is v6) ae ?_
  refine rq (out:=Pr.bool true) ae ?_
  refine W_rel 0 [2] ?_ rfl ⟨rfl,trivial⟩
  obtain rfl:=Option.some.inj h
  exact bb ⟨rfl,aa⟩
 refine W_nil [7] ab 9 (fun v18=> ?_) ⟨rfl,trivial⟩
 refine cd (fun m e C=>∃(x7:Int),∃(x8:List (List UInt8)),∃(v6:Value),cz (fun s=>kl x2 s.1 s.2) m (x7,x8)=some z2l/\At [(4,af bi x2),(7,Pr.is v6),(8,Pr.i64 x7)] [Own.vec v6 ab x8 9] e C) n2 ⟨0,[],v18,hN2,⟨⟨aa,aa,aa,trivial⟩,Pick.refl _⟩⟩ ?_
 clear hN2
 rintro m e C ⟨x7,x8,v6,hN2,hatl2⟩
 refine W_at hatl2 ?_
 clear hatl2
 obtain⟨m2,w2l,rfl,h2l,hn2,ho2⟩:=ay hN2
 clear hN2
 replace h2l:kl x2 x7 x8=some w2l:=h2l
 unfold kl at h2l
 refine aw ?_
 refine W_rs ?_
 refine rq (out:=Pr.i64 x7) ag ?_
 refine rq (out:=af bi x2) ag ?_
 refine rq (out:=Pr.i64 (x2.length:Int)) (cl rfl Tryz.underlying104) ?_
 refine rq (out:=Pr.bool (decide (x7<(x2.length:Int)))) qInt ?_
 refine au (b:=decide (x7<(x2.length:Int))) rfl (fun hc12=> ?_) (fun hc12=> ?_)
 ·replace h2l:=iteT hc12 h2l
  refine av ?_
  refine aw ?_
  refine ar ?_
  refine ei 13 hmx (by kernel_rfl) (by kernel_rfl) ?_
  refine qq (out:=Pr.is v6) ag ?_
  refine qq (out:=af bi x2) ag ?_
  refine qq (out:=Pr.i64 x7) ag ?_
  obtain⟨x13,hx13,h2l⟩:=ah h2l
  refine qq (out:=a5 bi x13) (cr (R:=bi) (l:=x2) Tryz.underlying104 Tryz.sizeOf109 hx13) ?_
  refine qq (out:=a5 ab x13.Lead) (qFieldC (R:=bi) (a:=x13) fld109_3 subApiToken_Lead) ?_
  refine qq (out:=aj x13.Lead) (bl (R:=ab) (a:=x13.Lead) ty9) ?_
  refine qq (out:=af bi x2) ag ?_
  refine qq (out:=Pr.i64 x7) ag ?_
  obtain⟨x14,hx14,h2l⟩:=ah h2l
  refine qq (out:=a5 bi x14) (cr (R:=bi) (l:=x2) Tryz.underlying104 Tryz.sizeOf109 hx14) ?_
  refine qq (out:=a5 ab x14.Text) (qFieldC (R:=bi) (a:=x14) fld109_1 subApiToken_Text) ?_
  refine qq (out:=aj x14.Text) (bl (R:=ab) (a:=x14.Text) ty9) ?_
  obtain⟨x15,hx15,h2l⟩:=ah h2l
  refine qq (out:=aj x15) (qCat' hx15) ?_
  refine qq (out:=af ab ([x15]:List (List UInt8))) (bh (R:=ab) (a:=x15) el33 (Nat.le_of_ble_eq_true rfl)) ?_
  obtain⟨x16,hx16,h2l⟩:=ah h2l
  refine cu 0 el33 hx16 (fun v17=> ?_)
  refine rq (out:=Pr.is v17) ae ?_
  refine W_r ?_
  refine rq (out:=Pr.i64 x7) ag ?_
  refine rq (out:=Pr.i64 (w64 (x7+1))) qInt ?_
  refine rq (out:=Pr.i64 (w64 (x7+1))) ae ?_
  exact⟨m2,Nat.lt_succ_self _,w64 (x7+1),x16,v17,hn2 _ (Option.some.inj h2l).symm,⟨⟨aa,aa,aa,trivial⟩,Pick.refl _⟩⟩
 replace h2l:=iteF hc12 h2l
 refine bw ?_
 obtain rfl:=ho2 _ (Option.some.inj h2l).symm
 exact⟨x8,v6,h,⟨⟨aa,trivial⟩,Pick.refl _⟩⟩
theorem ref05_Numbers_ok (x1:List (List (List UInt8))) (r:(List (List Int))) (h:ref05_Numbers x1=some r):FnP Tryz.prog 55 [af (ai ab) x1] (af (ai (Rp.int .i64)) r):=by
 refine a7 (n:=67) (rs:=[2]) Tryz.func55 rfl Tryz.ntmps55 ⟨by decide,Tryz.results55⟩ (by decide) (fun s0=> ?_)
 unfold ref05_Numbers at h
 refine W_rs ?_
 refine rq (out:=Pr.is (.slice none 0 0)) ae ?_
 refine W_rs ?_
 refine rq (out:=Pr.is (.slice none 0 0)) ae ?_
 refine W_rs ?_
 refine rq (out:=Pr.is (.slice none 0 0)) ae ?_
 refine aw ?_
 refine W_rs ?_
 refine rq (out:=Pr.i64 0) ae ?_
 refine ar ?_
 obtain⟨z2l,hz2,h⟩:=ah h
 obtain⟨n2,hN2⟩:=a4 hz2
 clear hz2
 refine bp 0 (fun e C=>∃(x6:List (List Int)),∃(v3:Value),nh x6=some r/\At [(4,Pr.is v3)] [Own.vec v3 (ai (Rp.int .i64)) x6 90] e C) ?_ ?_
 ·rintro e C ⟨x6,v3,h,hat1⟩
  refine W_at hat1 ?_
  clear hat1
  unfold nh at h
  refine W_rs ?_
  refine rq (out:=Pr.is v3) ag ?_
  refine rq (out:=Pr.is v3) ae ?_
  refine W_rel 0 [2] ?_ rfl ⟨rfl,trivial⟩
  obtain rfl:=Option.some.inj h
  exact bb ⟨rfl,aa⟩
 refine W_nil [3] ab 9 (fun v45=> ?_) ⟨rfl,trivial⟩
 refine W_nil [4] (ai (Rp.int .i64)) 90 (fun v46=> ?_) ⟨rfl,trivial⟩
 refine cd (fun m e C=>∃(x4:Int),∃(x5:List (List UInt8)),∃(x6:List (List Int)),∃(v2:Value),∃(v3:Value),cz (fun s=>fe x1 s.1 s.2.1 s.2.2) m (x4,x5,x6)=some z2l/\At [(0,af (ai ab) x1),(3,Pr.is v2),(4,Pr.is v3),(5,Pr.i64 x4)] [Own.vec v2 ab x5 9,Own.vec v3 (ai (Rp.int .i64)) x6 90] e C) n2 ⟨0,[],[],v45,v46,hN2,⟨⟨aa,aa,aa,aa,trivial⟩,Pick.refl _⟩⟩ ?_
 clear hN2
 rintro m e C ⟨x4,x5,x6,v2,v3,hN2,hatl2⟩
 refine W_at hatl2 ?_
 clear hatl2
 obtain⟨m2,w2l,rfl,h2l,hn2,ho2⟩:=ay hN2
 clear hN2
 replace h2l:fe x1 x4 x5 x6=some w2l:=h2l
 unfold fe at h2l
 refine aw ?_
 refine W_rs ?_
 refine rq (out:=Pr.i64 x4) ag ?_
 refine rq (out:=af (ai ab) x1) ag ?_
 refine rq (out:=Pr.i64 (x1.length:Int)) (cl rfl Tryz.underlying78) ?_
 refine rq (out:=Pr.bool (decide (x4<(x1.length:Int)))) qInt ?_
 refine au (b:=decide (x4<(x1.length:Int))) rfl (fun hc12=> ?_) (fun hc12=> ?_)
 ·replace h2l:=iteT hc12 h2l
  refine av ?_
  refine aw ?_
  refine ar ?_
  refine W_rs ?_
  refine rq (out:=Pr.is (.slice none 0 0)) ae ?_
  refine aw ?_
  refine W_rs ?_
  refine rq (out:=Pr.i64 0) ae ?_
  refine ar ?_
  obtain⟨z4l,hz4,h2l⟩:=ah h2l
  obtain⟨n4,hN4⟩:=a4 hz4
  clear hz4
  refine bp 2 (fun e C=>∃(x16:List (List UInt8)),∃(x17:List Int),∃(v13:Value),∃(v14:Value),ng x6 x4 x16 x17=some w2l/\At [(0,af (ai ab) x1),(3,Pr.is v13),(4,Pr.is v3),(5,Pr.i64 x4),(6,Pr.is v14)] [Own.vec v13 ab x16 9,Own.vec v3 (ai (Rp.int .i64)) x6 90,Own.vec v14 (Rp.int .i64) x17 3] e C) ?_ ?_
  ·rintro e C ⟨x16,x17,v13,v14,h2l,hat3⟩
   refine W_at hat3 ?_
   clear hat3
   unfold ng at h2l
   refine W_r ?_
   refine rq (out:=Pr.is v3) ag ?_
   refine rq (out:=Pr.is v14) ag ?_
   refine rRel 2 [6,63] ?_ rfl ⟨rfl,rfl,trivial⟩
   refine rq (out:=af (ai (Rp.int .i64)) ([x17]:List (List Int))) (bh (R:=ai (Rp.int .i64)) (a:=x17) el87 (Nat.le_of_ble_eq_true rfl)) ?_
   obtain⟨x42,hx42,h2l⟩:=ah h2l
   refine cu 1 el87 hx42 (fun v43=> ?_)
   refine rq (out:=Pr.is v43) ae ?_
   refine W_r ?_
   refine rq (out:=Pr.i64 x4) ag ?_
   refine rq (out:=Pr.i64 (w64 (x4+1))) qInt ?_
   refine rq (out:=Pr.i64 (w64 (x4+1))) ae ?_
   exact⟨m2,Nat.lt_succ_self _,w64 (x4+1),x16,x42,v13,v43,hn2 _ (Option.some.inj h2l).symm,⟨⟨aa,aa,aa,aa,trivial⟩,Pick.refl _⟩⟩
  refine W_nil [6] (Rp.int .i64) 3 (fun v44=> ?_) ⟨rfl,trivial⟩
  refine cd (fun m e C=>∃(x15:Int),∃(x16:List (List UInt8)),∃(x17:List Int),∃(v13:Value),∃(v14:Value),cz (fun s=>ed x1 x4 s.1 s.2.1 s.2.2) m (x15,x16,x17)=some z4l/\At [(0,af (ai ab) x1),(3,Pr.is v13),(4,Pr.is v3),(5,Pr.i64 x4),(6,Pr.is v14),(7,Pr.i64 x15)] [Own.vec v13 ab x16 9,Own.vec v3 (ai (Rp.int .i64)) x6 90,Own.vec v14 (Rp.int .i64) x17 3] e C) n4 ⟨0,x5,[],v2,v44,hN4,⟨⟨aa,aa,aa,aa,aa,aa,trivial⟩,Pick.refl _⟩⟩ ?_
  clear hN4
  rintro m e C ⟨x15,x16,x17,v13,v14,hN4,hatl4⟩
  refine W_at hatl4 ?_
  clear hatl4
  obtain⟨m4,w4l,rfl,h4l,hn4,ho4⟩:=ay hN4
  clear hN4
  replace h4l:ed x1 x4 x15 x16 x17=some w4l:=h4l
  unfold ed at h4l
  refine aw ?_
  refine W_rs ?_
  refine rq (out:=Pr.i64 x15) ag ?_
  refine rq (out:=af (ai ab) x1) ag ?_
  refine rq (out:=Pr.i64 x4) ag ?_
  obtain⟨x23,hx23,h4l⟩:=ah h4l
  refine rq (out:=a5 (ai ab) x23) (cr (R:=ai ab) (l:=x1) Tryz.underlying78 Tryz.sizeOf33 hx23) ?_
  refine rq (out:=af ab x23) (bl (R:=ai ab) (a:=x23) ty33) ?_
  refine rq (out:=Pr.i64 (x23.length:Int)) (cl rfl Tryz.underlying33) ?_
  refine rq (out:=Pr.bool (decide (x15<(x23.length:Int)))) qInt ?_
  refine au (b:=decide (x15<(x23.length:Int))) rfl (fun hc24=> ?_) (fun hc24=> ?_)
  ·replace h4l:=iteT hc24 h4l
   refine av ?_
   refine aw ?_
   refine ar ?_
   refine W_rs ?_
   refine rq (out:=Pr.i64 0) ae ?_
   refine aw ?_
   refine ar ?_
   obtain⟨z7l,hz7,h4l⟩:=ah h4l
   obtain⟨n7,hN7⟩:=a4 hz7
   clear hz7
   refine bp 4 (fun e C=>∃(x25:Int),nf x16 x1 x4 x15 x17 x25=some w4l/\At [(0,af (ai ab) x1),(3,Pr.is v13),(4,Pr.is v3),(5,Pr.i64 x4),(6,Pr.is v14),(7,Pr.i64 x15),(8,Pr.i64 x25)] [Own.vec v13 ab x16 9,Own.vec v3 (ai (Rp.int .i64)) x6 90,Own.vec v14 (Rp.int .i64) x17 3] e C) ?_ ?_
   ·rintro e C ⟨x25,h4l,hat6⟩
    refine W_at hat6 ?_
    clear hat6
    unfold nf at h4l
    refine bg (fun e C=>∃(x39:List (List UInt8)),∃(v38:Value),jy x17 x25 x15 x39=some w4l/\At [(0,af (ai ab) x1),(3,Pr.is v38),(4,Pr.is v3),(5,Pr.i64 x4),(6,Pr.is v14),(7,Pr.i64 x15),(8,Pr.i64 x25)] [Own.vec v38 ab x39 9,Own.vec v3 (ai (Rp.int .i64)) x6 90,Own.vec v14 (Rp.int .i64) x17 3] e C) ?_ ?_
    ·rintro e C ⟨x39,v38,h4l,hat5⟩
     refine W_at hat5 ?_
     clear hat5
     unfold jy at h4l
     refine W_r ?_
     refine rq (out:=Pr.is v14) ag ?_
     refine rq (out:=Pr.i64 x25) ag ?_
     refine rq (out:=af (Rp.int .i64) ([x25]:List Int)) (bh (R:=Rp.int .i64) (a:=x25) el90 (Nat.le_of_ble_eq_true rfl)) ?_
     obtain⟨x40,hx40,h4l⟩:=ah h4l
     refine cu 2 el90 hx40 (fun v41=> ?_)
     refine rq (out:=Pr.is v41) ae ?_
     refine W_r ?_
     refine rq (out:=Pr.i64 x15) ag ?_
     refine rq (out:=Pr.i64 (w64 (x15+1))) qInt ?_
     refine rq (out:=Pr.i64 (w64 (x15+1))) ae ?_
     exact⟨m4,Nat.lt_succ_self _,w64 (x15+1),x39,x40,v38,v41,hn4 _ (Option.some.inj h4l).symm,⟨⟨aa,aa,aa,aa,aa,aa,trivial⟩,Pick.refl _⟩⟩
    refine W_rs ?_
    refine rq (out:=Pr.i64 x25) ag ?_
    refine rq (out:=Pr.is v13) ag ?_
    refine rq (out:=Pr.i64 (x16.length:Int)) (qLenV 0 rfl Tryz.underlying33) ?_
    refine rq (out:=Pr.bool (x25==(x16.length:Int))) qInt ?_
    refine au (b:=x25==(x16.length:Int)) rfl (fun hc33=> ?_) (fun hc33=> ?_)
    ·replace h4l:=iteT hc33 h4l
     refine W_r ?_
     refine rq (out:=Pr.is v13) ag ?_
     refine rq (out:=af (ai ab) x1) ag ?_
     refine rq (out:=Pr.i64 x4) ag ?_
     obtain⟨x34,hx34,h4l⟩:=ah h4l
     refine rq (out:=a5 (ai ab) x34) (cr (R:=ai ab) (l:=x1) Tryz.underlying78 Tryz.sizeOf33 hx34) ?_
     refine rq (out:=af ab x34) (bl (R:=ai ab) (a:=x34) ty33) ?_
     refine rq (out:=Pr.i64 x15) ag ?_
     obtain⟨x35,hx35,h4l⟩:=ah h4l
     refine rq (out:=a5 ab x35) (cr (R:=ab) (l:=x34) Tryz.underlying33 Tryz.sizeOf9 hx35) ?_
     refine rq (out:=aj x35) (bl (R:=ab) (a:=x35) ty9) ?_
     refine rq (out:=af ab ([x35]:List (List UInt8))) (bh (R:=ab) (a:=x35) el33 (Nat.le_of_ble_eq_true rfl)) ?_
     obtain⟨x36,hx36,h4l⟩:=ah h4l
     refine cu 0 el33 hx36 (fun v37=> ?_)
     refine rq (out:=Pr.is v37) ae ?_
     exact⟨x36,v37,h4l,⟨⟨aa,aa,aa,aa,aa,aa,aa,trivial⟩,Pick.refl _⟩⟩
    replace h4l:=iteF hc33 h4l
    refine av ?_
    exact⟨x16,v13,h4l,⟨⟨aa,aa,aa,aa,aa,aa,aa,trivial⟩,Pick.refl _⟩⟩
   refine cd (fun m e C=>∃(x25:Int),cz (fun s=>dv x16 x1 x4 x15 s) m x25=some z7l/\At [(0,af (ai ab) x1),(3,Pr.is v13),(4,Pr.is v3),(5,Pr.i64 x4),(6,Pr.is v14),(7,Pr.i64 x15),(8,Pr.i64 x25)] [Own.vec v13 ab x16 9,Own.vec v3 (ai (Rp.int .i64)) x6 90,Own.vec v14 (Rp.int .i64) x17 3] e C) n7 ⟨0,hN7,⟨⟨aa,aa,aa,aa,aa,aa,aa,trivial⟩,Pick.refl _⟩⟩ ?_
   clear hN7
   rintro m e C ⟨x25,hN7,hatl7⟩
   refine W_at hatl7 ?_
   clear hatl7
   obtain⟨m7,w7l,rfl,h7l,hn7,ho7⟩:=ay hN7
   clear hN7
   replace h7l:dv x16 x1 x4 x15 x25=some w7l:=h7l
   unfold dv at h7l
   refine aw ?_
   refine bg (fun e C=>∃(x31:Bool),ga x25 x31=some w7l/\At [(0,af (ai ab) x1),(3,Pr.is v13),(4,Pr.is v3),(5,Pr.i64 x4),(6,Pr.is v14),(7,Pr.i64 x15),(8,Pr.i64 x25),(41,Pr.bool x31)] [Own.vec v13 ab x16 9,Own.vec v3 (ai (Rp.int .i64)) x6 90,Own.vec v14 (Rp.int .i64) x17 3] e C) ?_ ?_
   ·rintro e C ⟨x31,h7l,hat8⟩
    refine W_at hat8 ?_
    clear hat8
    unfold ga at h7l
    refine au (b:=x31) rfl (fun hc32=> ?_) (fun hc32=> ?_)
    ·replace h7l:=iteT hc32 h7l
     refine av ?_
     refine ar ?_
     refine W_r ?_
     refine rq (out:=Pr.i64 x25) ag ?_
     refine rq (out:=Pr.i64 (w64 (x25+1))) qInt ?_
     refine rq (out:=Pr.i64 (w64 (x25+1))) ae ?_
     exact⟨m7,Nat.lt_succ_self _,w64 (x25+1),hn7 _ (Option.some.inj h7l).symm,⟨⟨aa,aa,aa,aa,aa,aa,aa,trivial⟩,Pick.refl _⟩⟩
    replace h7l:=iteF hc32 h7l
    refine bw ?_
    obtain rfl:=ho7 _ (Option.some.inj h7l).symm
    exact⟨x25,h4l,⟨⟨aa,aa,aa,aa,aa,aa,aa,trivial⟩,Pick.refl _⟩⟩
   refine ei 18 hmx (by kernel_rfl) (by kernel_rfl) ?_
   refine qq (out:=Pr.i64 x25) ag ?_
   refine qq (out:=Pr.is v13) ag ?_
   refine qq (out:=Pr.i64 (x16.length:Int)) (qLenV 0 rfl Tryz.underlying33) ?_
   refine qq (out:=Pr.bool (decide (x25<(x16.length:Int)))) qInt ?_
   refine qq (out:=Pr.bool (decide (x25<(x16.length:Int)))) ag ?_
   rcases bc h7l with⟨hc27,h7l⟩|⟨hc27,h7l⟩
   ·refine qqg hc27 (out:=Pr.is v13) ag ?_
    refine qqg hc27 (out:=Pr.i64 x25) ag ?_
    obtain⟨x28,hx28,h7l⟩:=ah h7l
    refine qqg hc27 (out:=cb v13 (Int.toNat x25 * (ab).size)) (jb 0 (R:=ab) (l:=x16) Tryz.underlying33 Tryz.sizeOf9 hx28) ?_
    refine qqg hc27 (out:=aj x28) (jg (R:=ab) (R':=ab) (l:=x16) (a:=x28) (o:=0) 0 ty9 (Sub.refl _) (Nat.le_of_ble_eq_true rfl) hx28 rfl) ?_
    refine qqg hc27 (out:=af (ai ab) x1) ag ?_
    refine qqg hc27 (out:=Pr.i64 x4) ag ?_
    obtain⟨x29,hx29,h7l⟩:=ah h7l
    refine qqg hc27 (out:=a5 (ai ab) x29) (cr (R:=ai ab) (l:=x1) Tryz.underlying78 Tryz.sizeOf33 hx29) ?_
    refine qqg hc27 (out:=af ab x29) (bl (R:=ai ab) (a:=x29) ty33) ?_
    refine qqg hc27 (out:=Pr.i64 x15) ag ?_
    obtain⟨x30,hx30,h7l⟩:=ah h7l
    refine qqg hc27 (out:=a5 ab x30) (cr (R:=ab) (l:=x29) Tryz.underlying33 Tryz.sizeOf9 hx30) ?_
    refine qqg hc27 (out:=aj x30) (bl (R:=ab) (a:=x30) ty9) ?_
    refine qqg hc27 (out:=Pr.bool (!(x28==x30))) qStr ?_
    refine qq (out:=Pr.bool (!(x28==x30))) (bo hc27) ?_
    exact⟨!(x28==x30),h7l,⟨⟨aa,aa,aa,aa,aa,aa,aa,aa,trivial⟩,Pick.refl _⟩⟩
   refine qqno (neT hc27) ?_
   refine qqno (neT hc27) ?_
   refine qqno (neT hc27) ?_
   refine qqno (neT hc27) ?_
   refine qqno (neT hc27) ?_
   refine qqno (neT hc27) ?_
   refine qqno (neT hc27) ?_
   refine qqno (neT hc27) ?_
   refine qqno (neT hc27) ?_
   refine qqno (neT hc27) ?_
   refine qqno (neT hc27) ?_
   refine qqno (neT hc27) ?_
   refine qq (out:=Pr.bool false) (az hc27) ?_
   exact⟨false,h7l,⟨⟨aa,aa,aa,aa,aa,aa,aa,aa,trivial⟩,Pick.refl _⟩⟩
  replace h4l:=iteF hc24 h4l
  refine bw ?_
  obtain rfl:=ho4 _ (Option.some.inj h4l).symm
  exact⟨x16,x17,v13,v14,h2l,⟨⟨aa,aa,aa,aa,aa,trivial⟩,Pick.refl _⟩⟩
 replace h2l:=iteF hc12 h2l
 refine bw ?_
 obtain rfl:=ho2 _ (Option.some.inj h2l).symm
 exact⟨x6,v3,h,⟨⟨aa,trivial⟩,Pick.of [1] rfl⟩⟩
theorem ref05_Match_ok (x1 x2:List Int) (r:(List Int)) (h:ref05_Match x1 x2=some r):FnP Tryz.prog 66 [af (Rp.int .i64) x1,af (Rp.int .i64) x2] (af (Rp.int .i64) r):=by
 refine a7 (n:=158) (rs:=[4]) Tryz.func66 rfl Tryz.ntmps66 ⟨by decide,Tryz.results66⟩ (by decide) (fun s0=> ?_)
 unfold ref05_Match at h
 refine W_rs ?_
 refine rq (out:=Pr.is (.slice none 0 0)) ae ?_
 refine W_rs ?_
 refine rq (out:=Pr.is (.slice none 0 0)) ae ?_
 refine aw ?_
 refine W_rs ?_
 refine rq (out:=Pr.i64 0) ae ?_
 refine ar ?_
 obtain⟨z14l,hz14,h⟩:=ah h
 obtain⟨n14,hN14⟩:=a4 hz14
 clear hz14
 refine bp 0 (fun e C=>∃(x5:List Int),∃(v3:Value),ref05_Match_k13 x1 x2 x5=some r/\At [(0,af (Rp.int .i64) x1),(1,af (Rp.int .i64) x2),(5,Pr.is v3)] [Own.vec v3 (Rp.int .i64) x5 3] e C) ?_ ?_
 ·rintro e C ⟨x5,v3,h,hat13⟩
  refine W_at hat13 ?_
  clear hat13
  unfold ref05_Match_k13 at h
  refine aw ?_
  refine bg (fun e C=>∃(x13:Bool),ln x1 x2 x5 x13=some r/\At [(0,af (Rp.int .i64) x1),(1,af (Rp.int .i64) x2),(5,Pr.is v3),(28,Pr.bool x13)] [Own.vec v3 (Rp.int .i64) x5 3] e C) ?_ ?_
  ·rintro e C ⟨x13,h,hat12⟩
   refine W_at hat12 ?_
   clear hat12
   unfold ln at h
   refine au (b:=x13) rfl (fun hc14=> ?_) (fun hc14=> ?_)
   ·replace h:=iteT hc14 h
    refine W_rs ?_
    refine rq (out:=Pr.i64 0) ae ?_
    refine aw ?_
    refine ar ?_
    obtain⟨z5l,hz5,h⟩:=ah h
    obtain⟨n5,hN5⟩:=a4 hz5
    clear hz5
    refine bp 2 (fun e C=>∃(x15:Int),∃(x16:List Int),ref05_Match_k4 x1 x2 x15 x16=some r/\At [(0,af (Rp.int .i64) x1),(1,af (Rp.int .i64) x2),(5,Pr.is v3),(7,Pr.i64 x15)] [Own.vec v3 (Rp.int .i64) x16 3] e C) ?_ ?_
    ·rintro e C ⟨x15,x16,h,hat4⟩
     refine W_at hat4 ?_
     clear hat4
     unfold ref05_Match_k4 at h
     refine W_rs ?_
     refine rq (out:=Pr.i64 0) ae ?_
     refine aw ?_
     refine ar ?_
     obtain⟨z2l,hz2,h⟩:=ah h
     obtain⟨n2,hN2⟩:=a4 hz2
     clear hz2
     refine bp 4 (fun e C=>∃(x30:List Int),ref05_Match_k1 x30=some r/\At [(5,Pr.is v3)] [Own.vec v3 (Rp.int .i64) x30 3] e C) ?_ ?_
     ·rintro e C ⟨x30,h,hat1⟩
      refine W_at hat1 ?_
      clear hat1
      unfold ref05_Match_k1 at h
      refine W_rs ?_
      refine rq (out:=Pr.is v3) ag ?_
      refine rq (out:=Pr.is v3) ae ?_
      refine W_rel 0 [4] ?_ rfl ⟨rfl,trivial⟩
      obtain rfl:=Option.some.inj h
      exact bb ⟨rfl,aa⟩
     refine cd (fun m e C=>∃(x29:Int),∃(x30:List Int),cz (fun s=>ref05_Match_l2 x1 x15 x2 s.1 s.2) m (x29,x30)=some z2l/\At [(0,af (Rp.int .i64) x1),(1,af (Rp.int .i64) x2),(5,Pr.is v3),(7,Pr.i64 x15),(8,Pr.i64 x29)] [Own.vec v3 (Rp.int .i64) x30 3] e C) n2 ⟨0,x16,hN2,⟨⟨aa,aa,aa,aa,aa,trivial⟩,Pick.refl _⟩⟩ ?_
     clear hN2
     rintro m e C ⟨x29,x30,hN2,hatl2⟩
     refine W_at hatl2 ?_
     clear hatl2
     obtain⟨m2,w2l,rfl,h2l,hn2,ho2⟩:=ay hN2
     clear hN2
     replace h2l:ref05_Match_l2 x1 x15 x2 x29 x30=some w2l:=h2l
     unfold ref05_Match_l2 at h2l
     refine aw ?_
     refine bg (fun e C=>∃(x40:Bool),mx x30 x1 x29 x2 x40=some w2l/\At [(0,af (Rp.int .i64) x1),(1,af (Rp.int .i64) x2),(5,Pr.is v3),(7,Pr.i64 x15),(8,Pr.i64 x29),(88,Pr.bool x40)] [Own.vec v3 (Rp.int .i64) x30 3] e C) ?_ ?_
     ·rintro e C ⟨x40,h2l,hat3⟩
      refine W_at hat3 ?_
      clear hat3
      unfold mx at h2l
      refine au (b:=x40) rfl (fun hc41=> ?_) (fun hc41=> ?_)
      ·replace h2l:=iteT hc41 h2l
       refine av ?_
       refine ar ?_
       refine W_rs ?_
       refine rq (out:=Pr.is v3) ag ?_
       refine rq (out:=af (Rp.int .i64) x1) ag ?_
       refine rq (out:=Pr.i64 (x1.length:Int)) (cl rfl Tryz.underlying90) ?_
       refine rq (out:=Pr.i64 (w64 ((x1.length:Int) - 1))) qInt ?_
       refine rq (out:=Pr.i64 x29) ag ?_
       refine rq (out:=Pr.i64 (w64 ((w64 ((x1.length:Int) - 1)) - x29))) qInt ?_
       refine rq (out:=af (Rp.int .i64) x2) ag ?_
       refine rq (out:=Pr.i64 (x2.length:Int)) (cl rfl Tryz.underlying90) ?_
       refine rq (out:=Pr.i64 (w64 ((x2.length:Int) - 1))) qInt ?_
       refine rq (out:=Pr.i64 x29) ag ?_
       refine rq (out:=Pr.i64 (w64 ((w64 ((x2.length:Int) - 1)) - x29))) qInt ?_
       obtain⟨x42,hx42,h2l⟩:=ah h2l
       refine rq (out:=cb v3 (Int.toNat (w64 ((w64 ((x1.length:Int) - 1)) - x29)) * (Rp.int .i64).size)) (jb 0 (R:=Rp.int .i64) (l:=x30) Tryz.underlying90 Tryz.sizeOf3 hx42) ?_
       refine k5 (R:=Rp.int .i64) (R':=Rp.int .i64) (l:=x30) (a:=x42) (y:=w64 ((w64 ((x2.length:Int) - 1)) - x29)) (o:=0) 0 Tryz.sizeOf3 (Upd.refl _) hx42 rfl ?_
       refine W_r ?_
       refine rq (out:=Pr.i64 x29) ag ?_
       refine rq (out:=Pr.i64 (w64 (x29+1))) qInt ?_
       refine rq (out:=Pr.i64 (w64 (x29+1))) ae ?_
       exact⟨m2,Nat.lt_succ_self _,w64 (x29+1),(List.set x30 (Int.toNat (w64 ((w64 ((x1.length:Int) - 1)) - x29))) (w64 ((w64 ((x2.length:Int) - 1)) - x29))),hn2 _ (Option.some.inj h2l).symm,⟨⟨aa,aa,aa,aa,aa,trivial⟩,Pick.refl _⟩⟩
      replace h2l:=iteF hc41 h2l
      refine bw ?_
      obtain rfl:=ho2 _ (Option.some.inj h2l).symm
      exact⟨x30,h,⟨⟨aa,trivial⟩,Pick.refl _⟩⟩
     refine ei 33 hmx (by kernel_rfl) (by kernel_rfl) ?_
     refine qq (out:=Pr.i64 x29) ag ?_
     refine qq (out:=af (Rp.int .i64) x1) ag ?_
     refine qq (out:=Pr.i64 (x1.length:Int)) (cl rfl Tryz.underlying90) ?_
     refine qq (out:=Pr.i64 x15) ag ?_
     refine qq (out:=Pr.i64 (w64 ((x1.length:Int) - x15))) qInt ?_
     refine qq (out:=Pr.bool (decide (x29<(w64 ((x1.length:Int) - x15))))) qInt ?_
     refine qq (out:=Pr.bool (decide (x29<(w64 ((x1.length:Int) - x15))))) ag ?_
     rcases bc h2l with⟨hc33,h2l⟩|⟨hc33,h2l⟩
     ·refine qqg hc33 (out:=Pr.i64 x29) ag ?_
      refine qqg hc33 (out:=af (Rp.int .i64) x2) ag ?_
      refine qqg hc33 (out:=Pr.i64 (x2.length:Int)) (cl rfl Tryz.underlying90) ?_
      refine qqg hc33 (out:=Pr.i64 x15) ag ?_
      refine qqg hc33 (out:=Pr.i64 (w64 ((x2.length:Int) - x15))) qInt ?_
      refine qqg hc33 (out:=Pr.bool (decide (x29<(w64 ((x2.length:Int) - x15))))) qInt ?_
      refine qq (out:=Pr.bool (decide (x29<(w64 ((x2.length:Int) - x15))))) (bo hc33) ?_
      refine qq (out:=Pr.bool (decide (x29<(w64 ((x2.length:Int) - x15))))) ag ?_
      rcases bc h2l with⟨hc34,h2l⟩|⟨hc34,h2l⟩
      ·refine qqg hc34 (out:=af (Rp.int .i64) x1) ag ?_
       refine qqg hc34 (out:=af (Rp.int .i64) x1) ag ?_
       refine qqg hc34 (out:=Pr.i64 (x1.length:Int)) (cl rfl Tryz.underlying90) ?_
       refine qqg hc34 (out:=Pr.i64 (w64 ((x1.length:Int) - 1))) qInt ?_
       refine qqg hc34 (out:=Pr.i64 x29) ag ?_
       refine qqg hc34 (out:=Pr.i64 (w64 ((w64 ((x1.length:Int) - 1)) - x29))) qInt ?_
       obtain⟨x35,hx35,h2l⟩:=ah h2l
       refine qqg hc34 (out:=a5 (Rp.int .i64) x35) (cr (R:=Rp.int .i64) (l:=x1) Tryz.underlying90 Tryz.sizeOf3 hx35) ?_
       refine qqg hc34 (out:=Pr.i64 x35) (bl (R:=Rp.int .i64) (a:=x35) ty3) ?_
       refine qqg hc34 (out:=af (Rp.int .i64) x2) ag ?_
       refine qqg hc34 (out:=af (Rp.int .i64) x2) ag ?_
       refine qqg hc34 (out:=Pr.i64 (x2.length:Int)) (cl rfl Tryz.underlying90) ?_
       refine qqg hc34 (out:=Pr.i64 (w64 ((x2.length:Int) - 1))) qInt ?_
       refine qqg hc34 (out:=Pr.i64 x29) ag ?_
       refine qqg hc34 (out:=Pr.i64 (w64 ((w64 ((x2.length:Int) - 1)) - x29))) qInt ?_
       obtain⟨x36,hx36,h2l⟩:=ah h2l
       refine qqg hc34 (out:=a5 (Rp.int .i64) x36) (cr (R:=Rp.int .i64) (l:=x2) Tryz.underlying90 Tryz.sizeOf3 hx36) ?_
       refine qqg hc34 (out:=Pr.i64 x36) (bl (R:=Rp.int .i64) (a:=x36) ty3) ?_
       refine qqg hc34 (out:=Pr.bool (x35==x36)) qInt ?_
       refine qq (out:=Pr.bool (x35==x36)) (bo hc34) ?_
       exact⟨x35==x36,h2l,⟨⟨aa,aa,aa,aa,aa,aa,trivial⟩,Pick.refl _⟩⟩
      refine qqno (neT hc34) ?_
      refine qqno (neT hc34) ?_
      refine qqno (neT hc34) ?_
      refine qqno (neT hc34) ?_
      refine qqno (neT hc34) ?_
      refine qqno (neT hc34) ?_
      refine qqno (neT hc34) ?_
      refine qqno (neT hc34) ?_
      refine qqno (neT hc34) ?_
      refine qqno (neT hc34) ?_
      refine qqno (neT hc34) ?_
      refine qqno (neT hc34) ?_
      refine qqno (neT hc34) ?_
      refine qqno (neT hc34) ?_
      refine qqno (neT hc34) ?_
      refine qqno (neT hc34) ?_
      refine qqno (neT hc34) ?_
      refine qq (out:=Pr.bool false) (az hc34) ?_
      exact⟨false,h2l,⟨⟨aa,aa,aa,aa,aa,aa,trivial⟩,Pick.refl _⟩⟩
     refine qqno (neT hc33) ?_
     refine qqno (neT hc33) ?_
     refine qqno (neT hc33) ?_
     refine qqno (neT hc33) ?_
     refine qqno (neT hc33) ?_
     refine qqno (neT hc33) ?_
     refine qq (out:=Pr.bool false) (az hc33) ?_
     refine qq (out:=Pr.bool false) ag ?_
     have hc37:false=false:=rfl
     refine qqno (neT hc37) ?_
     refine qqno (neT hc37) ?_
     refine qqno (neT hc37) ?_
     refine qqno (neT hc37) ?_
     refine qqno (neT hc37) ?_
     refine qqno (neT hc37) ?_
     refine qqno (neT hc37) ?_
     refine qqno (neT hc37) ?_
     refine qqno (neT hc37) ?_
     refine qqno (neT hc37) ?_
     refine qqno (neT hc37) ?_
     refine qqno (neT hc37) ?_
     refine qqno (neT hc37) ?_
     refine qqno (neT hc37) ?_
     refine qqno (neT hc37) ?_
     refine qqno (neT hc37) ?_
     refine qqno (neT hc37) ?_
     refine qq (out:=Pr.bool false) (az hc37) ?_
     exact⟨false,h2l,⟨⟨aa,aa,aa,aa,aa,aa,trivial⟩,Pick.refl _⟩⟩
    refine cd (fun m e C=>∃(x15:Int),∃(x16:List Int),cz (fun s=>ref05_Match_l5 x1 x2 s.1 s.2) m (x15,x16)=some z5l/\At [(0,af (Rp.int .i64) x1),(1,af (Rp.int .i64) x2),(5,Pr.is v3),(7,Pr.i64 x15)] [Own.vec v3 (Rp.int .i64) x16 3] e C) n5 ⟨0,x5,hN5,⟨⟨aa,aa,aa,aa,trivial⟩,Pick.refl _⟩⟩ ?_
    clear hN5
    rintro m e C ⟨x15,x16,hN5,hatl5⟩
    refine W_at hatl5 ?_
    clear hatl5
    obtain⟨m5,w5l,rfl,h5l,hn5,ho5⟩:=ay hN5
    clear hN5
    replace h5l:ref05_Match_l5 x1 x2 x15 x16=some w5l:=h5l
    unfold ref05_Match_l5 at h5l
    refine aw ?_
    refine bg (fun e C=>∃(x26:Bool),mw x16 x15 x26=some w5l/\At [(0,af (Rp.int .i64) x1),(1,af (Rp.int .i64) x2),(5,Pr.is v3),(7,Pr.i64 x15),(49,Pr.bool x26)] [Own.vec v3 (Rp.int .i64) x16 3] e C) ?_ ?_
    ·rintro e C ⟨x26,h5l,hat6⟩
     refine W_at hat6 ?_
     clear hat6
     unfold mw at h5l
     refine au (b:=x26) rfl (fun hc27=> ?_) (fun hc27=> ?_)
     ·replace h5l:=iteT hc27 h5l
      refine av ?_
      refine ar ?_
      refine W_rs ?_
      refine rq (out:=Pr.is v3) ag ?_
      refine rq (out:=Pr.i64 x15) ag ?_
      refine rq (out:=Pr.i64 x15) ag ?_
      obtain⟨x28,hx28,h5l⟩:=ah h5l
      refine rq (out:=cb v3 (Int.toNat x15 * (Rp.int .i64).size)) (jb 0 (R:=Rp.int .i64) (l:=x16) Tryz.underlying90 Tryz.sizeOf3 hx28) ?_
      refine k5 (R:=Rp.int .i64) (R':=Rp.int .i64) (l:=x16) (a:=x28) (y:=x15) (o:=0) 0 Tryz.sizeOf3 (Upd.refl _) hx28 rfl ?_
      refine W_r ?_
      refine rq (out:=Pr.i64 x15) ag ?_
      refine rq (out:=Pr.i64 (w64 (x15+1))) qInt ?_
      refine rq (out:=Pr.i64 (w64 (x15+1))) ae ?_
      exact⟨m5,Nat.lt_succ_self _,w64 (x15+1),(List.set x16 (Int.toNat x15) x15),hn5 _ (Option.some.inj h5l).symm,⟨⟨aa,aa,aa,aa,trivial⟩,Pick.refl _⟩⟩
     replace h5l:=iteF hc27 h5l
     refine bw ?_
     obtain rfl:=ho5 _ (Option.some.inj h5l).symm
     exact⟨x15,x16,h,⟨⟨aa,aa,aa,aa,trivial⟩,Pick.refl _⟩⟩
    refine ei 21 hmx (by kernel_rfl) (by kernel_rfl) ?_
    refine qq (out:=Pr.i64 x15) ag ?_
    refine qq (out:=af (Rp.int .i64) x1) ag ?_
    refine qq (out:=Pr.i64 (x1.length:Int)) (cl rfl Tryz.underlying90) ?_
    refine qq (out:=Pr.bool (decide (x15<(x1.length:Int)))) qInt ?_
    refine qq (out:=Pr.bool (decide (x15<(x1.length:Int)))) ag ?_
    rcases bc h5l with⟨hc19,h5l⟩|⟨hc19,h5l⟩
    ·refine qqg hc19 (out:=Pr.i64 x15) ag ?_
     refine qqg hc19 (out:=af (Rp.int .i64) x2) ag ?_
     refine qqg hc19 (out:=Pr.i64 (x2.length:Int)) (cl rfl Tryz.underlying90) ?_
     refine qqg hc19 (out:=Pr.bool (decide (x15<(x2.length:Int)))) qInt ?_
     refine qq (out:=Pr.bool (decide (x15<(x2.length:Int)))) (bo hc19) ?_
     refine qq (out:=Pr.bool (decide (x15<(x2.length:Int)))) ag ?_
     rcases bc h5l with⟨hc20,h5l⟩|⟨hc20,h5l⟩
     ·refine qqg hc20 (out:=af (Rp.int .i64) x1) ag ?_
      refine qqg hc20 (out:=Pr.i64 x15) ag ?_
      obtain⟨x21,hx21,h5l⟩:=ah h5l
      refine qqg hc20 (out:=a5 (Rp.int .i64) x21) (cr (R:=Rp.int .i64) (l:=x1) Tryz.underlying90 Tryz.sizeOf3 hx21) ?_
      refine qqg hc20 (out:=Pr.i64 x21) (bl (R:=Rp.int .i64) (a:=x21) ty3) ?_
      refine qqg hc20 (out:=af (Rp.int .i64) x2) ag ?_
      refine qqg hc20 (out:=Pr.i64 x15) ag ?_
      obtain⟨x22,hx22,h5l⟩:=ah h5l
      refine qqg hc20 (out:=a5 (Rp.int .i64) x22) (cr (R:=Rp.int .i64) (l:=x2) Tryz.underlying90 Tryz.sizeOf3 hx22) ?_
      refine qqg hc20 (out:=Pr.i64 x22) (bl (R:=Rp.int .i64) (a:=x22) ty3) ?_
      refine qqg hc20 (out:=Pr.bool (x21==x22)) qInt ?_
      refine qq (out:=Pr.bool (x21==x22)) (bo hc20) ?_
      exact⟨x21==x22,h5l,⟨⟨aa,aa,aa,aa,aa,trivial⟩,Pick.refl _⟩⟩
     refine qqno (neT hc20) ?_
     refine qqno (neT hc20) ?_
     refine qqno (neT hc20) ?_
     refine qqno (neT hc20) ?_
     refine qqno (neT hc20) ?_
     refine qqno (neT hc20) ?_
     refine qqno (neT hc20) ?_
     refine qqno (neT hc20) ?_
     refine qqno (neT hc20) ?_
     refine qq (out:=Pr.bool false) (az hc20) ?_
     exact⟨false,h5l,⟨⟨aa,aa,aa,aa,aa,trivial⟩,Pick.refl _⟩⟩
    refine qqno (neT hc19) ?_
    refine qqno (neT hc19) ?_
    refine qqno (neT hc19) ?_
    refine qqno (neT hc19) ?_
    refine qq (out:=Pr.bool false) (az hc19) ?_
    refine qq (out:=Pr.bool false) ag ?_
    have hc23:false=false:=rfl
    refine qqno (neT hc23) ?_
    refine qqno (neT hc23) ?_
    refine qqno (neT hc23) ?_
    refine qqno (neT hc23) ?_
    refine qqno (neT hc23) ?_
    refine qqno (neT hc23) ?_
    refine qqno (neT hc23) ?_
    refine qqno (neT hc23) ?_
    refine qqno (neT hc23) ?_
    refine qq (out:=Pr.bool false) (az hc23) ?_
    exact⟨false,h5l,⟨⟨aa,aa,aa,aa,aa,trivial⟩,Pick.refl _⟩⟩
   replace h:=iteF hc14 h
   refine av ?_
   refine W_rs ?_
   refine rq (out:=af (Rp.int .i64) x1) ag ?_
   refine rq (out:=af (Rp.int .i64) x2) ag ?_
   obtain⟨x43,hx43,h⟩:=ah h
   refine rq (out:=af (ai (Rp.int .i64)) x43) (br (ref05_table_ok x1 x2 _ hx43)) ?_
   refine rq (out:=af (ai (Rp.int .i64)) x43) ae ?_
   refine W_rs ?_
   refine rq (out:=Pr.i64 0) ae ?_
   refine W_rs ?_
   refine rq (out:=Pr.i64 0) ae ?_
   refine aw ?_
   refine ar ?_
   obtain⟨z8l,hz8,h⟩:=ah h
   obtain⟨n8,hN8⟩:=a4 hz8
   clear hz8
   refine bp 6 (fun e C=>∃(x46:List Int),ref05_Match_k7 x46=some r/\At [(5,Pr.is v3)] [Own.vec v3 (Rp.int .i64) x46 3] e C) ?_ ?_
   ·rintro e C ⟨x46,h,hat7⟩
    refine W_at hat7 ?_
    clear hat7
    unfold ref05_Match_k7 at h
    refine W_rs ?_
    refine rq (out:=Pr.is v3) ag ?_
    refine rq (out:=Pr.is v3) ae ?_
    refine W_rel 0 [4] ?_ rfl ⟨rfl,trivial⟩
    obtain rfl:=Option.some.inj h
    exact bb ⟨rfl,aa⟩
   refine cd (fun m e C=>∃(x44:Int),∃(x45:Int),∃(x46:List Int),cz (fun s=>ref05_Match_l8 x1 x2 x43 s.1 s.2.1 s.2.2) m (x44,x45,x46)=some z8l/\At [(0,af (Rp.int .i64) x1),(1,af (Rp.int .i64) x2),(5,Pr.is v3),(9,af (ai (Rp.int .i64)) x43),(10,Pr.i64 x44),(11,Pr.i64 x45)] [Own.vec v3 (Rp.int .i64) x46 3] e C) n8 ⟨0,0,x5,hN8,⟨⟨aa,aa,aa,aa,aa,aa,trivial⟩,Pick.refl _⟩⟩ ?_
   clear hN8
   rintro m e C ⟨x44,x45,x46,hN8,hatl8⟩
   refine W_at hatl8 ?_
   clear hatl8
   obtain⟨m8,w8l,rfl,h8l,hn8,ho8⟩:=ay hN8
   clear hN8
   replace h8l:ref05_Match_l8 x1 x2 x43 x44 x45 x46=some w8l:=h8l
   unfold ref05_Match_l8 at h8l
   refine aw ?_
   refine bg (fun e C=>∃(x51:Bool),ref05_Match_j11 x1 x44 x2 x45 x46 x43 x51=some w8l/\At [(0,af (Rp.int .i64) x1),(1,af (Rp.int .i64) x2),(5,Pr.is v3),(9,af (ai (Rp.int .i64)) x43),(10,Pr.i64 x44),(11,Pr.i64 x45),(116,Pr.bool x51)] [Own.vec v3 (Rp.int .i64) x46 3] e C) ?_ ?_
   ·rintro e C ⟨x51,h8l,hat11⟩
    refine W_at hat11 ?_
    clear hat11
    unfold ref05_Match_j11 at h8l
    refine au (b:=x51) rfl (fun hc52=> ?_) (fun hc52=> ?_)
    ·replace h8l:=iteT hc52 h8l
     refine av ?_
     refine ar ?_
     refine ar ?_
     refine bg (fun e C=>∃(x53:Int),∃(x54:Int),ref05_Match_j10 x46 x44 x45 x43 x53 x54=some w8l/\At [(0,af (Rp.int .i64) x1),(1,af (Rp.int .i64) x2),(5,Pr.is v3),(9,af (ai (Rp.int .i64)) x43),(10,Pr.i64 x44),(11,Pr.i64 x45),(119,Pr.bool (x53==x54))] [Own.vec v3 (Rp.int .i64) x46 3] e C) ?_ ?_
     ·rintro e C ⟨x53,x54,h8l,hat10⟩
      refine W_at hat10 ?_
      clear hat10
      unfold ref05_Match_j10 at h8l
      refine au (b:=x53==x54) rfl (fun hc55=> ?_) (fun hc55=> ?_)
      ·replace h8l:=iteT hc55 h8l
       refine W_rs ?_
       refine rq (out:=Pr.is v3) ag ?_
       refine rq (out:=Pr.i64 x44) ag ?_
       refine rq (out:=Pr.i64 x45) ag ?_
       obtain⟨x56,hx56,h8l⟩:=ah h8l
       refine rq (out:=cb v3 (Int.toNat x44 * (Rp.int .i64).size)) (jb 0 (R:=Rp.int .i64) (l:=x46) Tryz.underlying90 Tryz.sizeOf3 hx56) ?_
       refine k5 (R:=Rp.int .i64) (R':=Rp.int .i64) (l:=x46) (a:=x56) (y:=x45) (o:=0) 0 Tryz.sizeOf3 (Upd.refl _) hx56 rfl ?_
       refine W_rs ?_
       refine rq (out:=Pr.i64 x44) ag ?_
       refine rq (out:=Pr.i64 (w64 (x44+1))) qInt ?_
       refine rq (out:=Pr.i64 (w64 (x44+1))) ae ?_
       refine W_r ?_
       refine rq (out:=Pr.i64 x45) ag ?_
       refine rq (out:=Pr.i64 (w64 (x45+1))) qInt ?_
       refine rq (out:=Pr.i64 (w64 (x45+1))) ae ?_
       exact⟨m8,Nat.lt_succ_self _,w64 (x44+1),w64 (x45+1),(List.set x46 (Int.toNat x44) x45),hn8 _ (Option.some.inj h8l).symm,⟨⟨aa,aa,aa,aa,aa,aa,trivial⟩,Pick.refl _⟩⟩
      replace h8l:=iteF hc55 h8l
      refine bg (fun e C=>∃(x58:Int),∃(x60:Int),ref05_Match_j9 x44 x45 x46 x58 x60=some w8l/\At [(0,af (Rp.int .i64) x1),(1,af (Rp.int .i64) x2),(5,Pr.is v3),(9,af (ai (Rp.int .i64)) x43),(10,Pr.i64 x44),(11,Pr.i64 x45),(137,Pr.bool (decide (x58≥x60)))] [Own.vec v3 (Rp.int .i64) x46 3] e C) ?_ ?_
      ·rintro e C ⟨x58,x60,h8l,hat9⟩
       refine W_at hat9 ?_
       clear hat9
       unfold ref05_Match_j9 at h8l
       refine au (b:=decide (x58≥x60)) rfl (fun hc61=> ?_) (fun hc61=> ?_)
       ·replace h8l:=iteT hc61 h8l
        refine W_r ?_
        refine rq (out:=Pr.i64 x44) ag ?_
        refine rq (out:=Pr.i64 (w64 (x44+1))) qInt ?_
        refine rq (out:=Pr.i64 (w64 (x44+1))) ae ?_
        exact⟨m8,Nat.lt_succ_self _,w64 (x44+1),x45,x46,hn8 _ (Option.some.inj h8l).symm,⟨⟨aa,aa,aa,aa,aa,aa,trivial⟩,Pick.refl _⟩⟩
       replace h8l:=iteF hc61 h8l
       refine W_r ?_
       refine rq (out:=Pr.i64 x45) ag ?_
       refine rq (out:=Pr.i64 (w64 (x45+1))) qInt ?_
       refine rq (out:=Pr.i64 (w64 (x45+1))) ae ?_
       exact⟨m8,Nat.lt_succ_self _,x44,w64 (x45+1),x46,hn8 _ (Option.some.inj h8l).symm,⟨⟨aa,aa,aa,aa,aa,aa,trivial⟩,Pick.refl _⟩⟩
      refine ei 18 hmx (by kernel_rfl) (by kernel_rfl) ?_
      refine qq (out:=af (ai (Rp.int .i64)) x43) ag ?_
      refine qq (out:=Pr.i64 x44) ag ?_
      refine qq (out:=Pr.i64 (w64 (x44+1))) qInt ?_
      obtain⟨x57,hx57,h8l⟩:=ah h8l
      refine qq (out:=a5 (ai (Rp.int .i64)) x57) (cr (R:=ai (Rp.int .i64)) (l:=x43) Tryz.underlying87 Tryz.sizeOf90 hx57) ?_
      refine qq (out:=af (Rp.int .i64) x57) (bl (R:=ai (Rp.int .i64)) (a:=x57) ty90) ?_
      refine qq (out:=Pr.i64 x45) ag ?_
      obtain⟨x58,hx58,h8l⟩:=ah h8l
      refine qq (out:=a5 (Rp.int .i64) x58) (cr (R:=Rp.int .i64) (l:=x57) Tryz.underlying90 Tryz.sizeOf3 hx58) ?_
      refine qq (out:=Pr.i64 x58) (bl (R:=Rp.int .i64) (a:=x58) ty3) ?_
      refine qq (out:=af (ai (Rp.int .i64)) x43) ag ?_
      refine qq (out:=Pr.i64 x44) ag ?_
      obtain⟨x59,hx59,h8l⟩:=ah h8l
      refine qq (out:=a5 (ai (Rp.int .i64)) x59) (cr (R:=ai (Rp.int .i64)) (l:=x43) Tryz.underlying87 Tryz.sizeOf90 hx59) ?_
      refine qq (out:=af (Rp.int .i64) x59) (bl (R:=ai (Rp.int .i64)) (a:=x59) ty90) ?_
      refine qq (out:=Pr.i64 x45) ag ?_
      refine qq (out:=Pr.i64 (w64 (x45+1))) qInt ?_
      obtain⟨x60,hx60,h8l⟩:=ah h8l
      refine qq (out:=a5 (Rp.int .i64) x60) (cr (R:=Rp.int .i64) (l:=x59) Tryz.underlying90 Tryz.sizeOf3 hx60) ?_
      refine qq (out:=Pr.i64 x60) (bl (R:=Rp.int .i64) (a:=x60) ty3) ?_
      refine qq (out:=Pr.bool (decide (x58≥x60))) qInt ?_
      refine qq (out:=Pr.bool (decide (x58≥x60))) ae ?_
      exact⟨x58,x60,h8l,⟨⟨aa,aa,aa,aa,aa,aa,aa,trivial⟩,Pick.refl _⟩⟩
     refine ei 10 hmx (by kernel_rfl) (by kernel_rfl) ?_
     refine qq (out:=af (Rp.int .i64) x1) ag ?_
     refine qq (out:=Pr.i64 x44) ag ?_
     obtain⟨x53,hx53,h8l⟩:=ah h8l
     refine qq (out:=a5 (Rp.int .i64) x53) (cr (R:=Rp.int .i64) (l:=x1) Tryz.underlying90 Tryz.sizeOf3 hx53) ?_
     refine qq (out:=Pr.i64 x53) (bl (R:=Rp.int .i64) (a:=x53) ty3) ?_
     refine qq (out:=af (Rp.int .i64) x2) ag ?_
     refine qq (out:=Pr.i64 x45) ag ?_
     obtain⟨x54,hx54,h8l⟩:=ah h8l
     refine qq (out:=a5 (Rp.int .i64) x54) (cr (R:=Rp.int .i64) (l:=x2) Tryz.underlying90 Tryz.sizeOf3 hx54) ?_
     refine qq (out:=Pr.i64 x54) (bl (R:=Rp.int .i64) (a:=x54) ty3) ?_
     refine qq (out:=Pr.bool (x53==x54)) qInt ?_
     refine qq (out:=Pr.bool (x53==x54)) ae ?_
     exact⟨x53,x54,h8l,⟨⟨aa,aa,aa,aa,aa,aa,aa,trivial⟩,Pick.refl _⟩⟩
    replace h8l:=iteF hc52 h8l
    refine bw ?_
    obtain rfl:=ho8 _ (Option.some.inj h8l).symm
    exact⟨x46,h,⟨⟨aa,trivial⟩,Pick.refl _⟩⟩
   refine W_r ?_
   refine rq (out:=Pr.i64 x44) ag ?_
   refine rq (out:=af (Rp.int .i64) x1) ag ?_
   refine rq (out:=Pr.i64 (x1.length:Int)) (cl rfl Tryz.underlying90) ?_
   refine rq (out:=Pr.bool (decide (x44<(x1.length:Int)))) qInt ?_
   refine rq (out:=Pr.bool (decide (x44<(x1.length:Int)))) ag ?_
   rcases bc h8l with⟨hc50,h8l⟩|⟨hc50,h8l⟩
   ·refine rqg hc50 (out:=Pr.i64 x45) ag ?_
    refine rqg hc50 (out:=af (Rp.int .i64) x2) ag ?_
    refine rqg hc50 (out:=Pr.i64 (x2.length:Int)) (cl rfl Tryz.underlying90) ?_
    refine rqg hc50 (out:=Pr.bool (decide (x45<(x2.length:Int)))) qInt ?_
    refine rq (out:=Pr.bool (decide (x45<(x2.length:Int)))) (bo hc50) ?_
    exact⟨decide (x45<(x2.length:Int)),h8l,⟨⟨aa,aa,aa,aa,aa,aa,aa,trivial⟩,Pick.refl _⟩⟩
   refine rno (neT hc50) ?_
   refine rno (neT hc50) ?_
   refine rno (neT hc50) ?_
   refine rno (neT hc50) ?_
   refine rq (out:=Pr.bool false) (az hc50) ?_
   exact⟨false,h8l,⟨⟨aa,aa,aa,aa,aa,aa,aa,trivial⟩,Pick.refl _⟩⟩
  refine W_r ?_
  refine rq (out:=af (Rp.int .i64) x1) ag ?_
  refine rq (out:=Pr.i64 (x1.length:Int)) (cl rfl Tryz.underlying90) ?_
  refine rq (out:=Pr.bool (decide ((x1.length:Int)>2000))) qInt ?_
  refine rq (out:=Pr.bool (decide ((x1.length:Int)>2000))) ag ?_
  rcases bc h with⟨hc12,h⟩|⟨hc12,h⟩
  ·refine rno (neF hc12) ?_
   refine rno (neF hc12) ?_
   refine rno (neF hc12) ?_
   refine rq (out:=Pr.bool true) (bo hc12) ?_
   exact⟨true,h,⟨⟨aa,aa,aa,aa,trivial⟩,Pick.refl _⟩⟩
  refine rqg hc12 (out:=af (Rp.int .i64) x2) ag ?_
  refine rqg hc12 (out:=Pr.i64 (x2.length:Int)) (cl rfl Tryz.underlying90) ?_
  refine rqg hc12 (out:=Pr.bool (decide ((x2.length:Int)>2000))) qInt ?_
  refine rq (out:=Pr.bool (decide ((x2.length:Int)>2000))) (az hc12) ?_
  exact⟨decide ((x2.length:Int)>2000),h,⟨⟨aa,aa,aa,aa,trivial⟩,Pick.refl _⟩⟩
 refine W_nil [5] (Rp.int .i64) 3 (fun v62=> ?_) ⟨rfl,trivial⟩
 refine cd (fun m e C=>∃(x4:Int),∃(x5:List Int),∃(v3:Value),cz (fun s=>ew x1 s.1 s.2) m (x4,x5)=some z14l/\At [(0,af (Rp.int .i64) x1),(1,af (Rp.int .i64) x2),(5,Pr.is v3),(6,Pr.i64 x4)] [Own.vec v3 (Rp.int .i64) x5 3] e C) n14 ⟨0,[],v62,hN14,⟨⟨aa,aa,aa,aa,trivial⟩,Pick.refl _⟩⟩ ?_
 clear hN14
 rintro m e C ⟨x4,x5,v3,hN14,hatl14⟩
 refine W_at hatl14 ?_
 clear hatl14
 obtain⟨m14,w14l,rfl,h14l,hn14,ho14⟩:=ay hN14
 clear hN14
 replace h14l:ew x1 x4 x5=some w14l:=h14l
 unfold ew at h14l
 refine aw ?_
 refine W_rs ?_
 refine rq (out:=Pr.i64 x4) ag ?_
 refine rq (out:=af (Rp.int .i64) x1) ag ?_
 refine rq (out:=Pr.i64 (x1.length:Int)) (cl rfl Tryz.underlying90) ?_
 refine rq (out:=Pr.bool (decide (x4<(x1.length:Int)))) qInt ?_
 refine au (b:=decide (x4<(x1.length:Int))) rfl (fun hc9=> ?_) (fun hc9=> ?_)
 ·replace h14l:=iteT hc9 h14l
  refine av ?_
  refine aw ?_
  refine ar ?_
  refine W_r ?_
  refine rq (out:=Pr.is v3) ag ?_
  refine rq (out:=af (Rp.int .i64) ([(-1)]:List Int)) (bh (R:=Rp.int .i64) (a:=(-1)) el90 (Nat.le_of_ble_eq_true rfl)) ?_
  obtain⟨x10,hx10,h14l⟩:=ah h14l
  refine cu 0 el90 hx10 (fun v11=> ?_)
  refine rq (out:=Pr.is v11) ae ?_
  refine W_r ?_
  refine rq (out:=Pr.i64 x4) ag ?_
  refine rq (out:=Pr.i64 (w64 (x4+1))) qInt ?_
  refine rq (out:=Pr.i64 (w64 (x4+1))) ae ?_
  exact⟨m14,Nat.lt_succ_self _,w64 (x4+1),x10,v11,hn14 _ (Option.some.inj h14l).symm,⟨⟨aa,aa,aa,aa,trivial⟩,Pick.refl _⟩⟩
 replace h14l:=iteF hc9 h14l
 refine bw ?_
 obtain rfl:=ho14 _ (Option.some.inj h14l).symm
 exact⟨x5,v3,h,⟨⟨aa,aa,aa,trivial⟩,Pick.refl _⟩⟩
theorem ref05_Same_ok (x1 x2:List Int) (r:Bool) (h:ref05_Same x1 x2=some r):FnP Tryz.prog 77 [af (Rp.int .i64) x1,af (Rp.int .i64) x2] (Pr.bool r):=by
 refine a7 (n:=26) (rs:=[4]) Tryz.func77 rfl Tryz.ntmps77 ⟨by decide,Tryz.results77⟩ (by decide) (fun s0=> ?_)
 unfold ref05_Same at h
 refine W_rs ?_
 refine rq (out:=Pr.bool false) ae ?_
 refine aw ?_
 refine W_rs ?_
 refine rq (out:=af (Rp.int .i64) x1) ag ?_
 refine rq (out:=Pr.i64 (x1.length:Int)) (cl rfl Tryz.underlying90) ?_
 refine rq (out:=af (Rp.int .i64) x2) ag ?_
 refine rq (out:=Pr.i64 (x2.length:Int)) (cl rfl Tryz.underlying90) ?_
 refine rq (out:=Pr.bool ((x1.length:Int) != (x2.length:Int))) qInt ?_
 refine au (b:=(x1.length:Int) != (x2.length:Int)) rfl (fun hc3=> ?_) (fun hc3=> ?_)
 ·replace h:=iteT hc3 h
  refine W_rs ?_
  refine rq (out:=Pr.bool false) ae ?_
  obtain rfl:=Option.some.inj h
  exact bb ⟨rfl,aa⟩
 replace h:=iteF hc3 h
 refine av ?_
 refine aw ?_
 refine W_rs ?_
 refine rq (out:=Pr.i64 0) ae ?_
 refine ar ?_
 obtain⟨z2l,hz2,h⟩:=ah h
 obtain⟨n2,hN2⟩:=a4 hz2
 clear hz2
 refine bp 0 (fun e C=>ref05_Same_k1=some r/\At [] [] e C) ?_ ?_
 ·rintro e C ⟨h,hat1⟩
  refine W_at hat1 ?_
  clear hat1
  unfold ref05_Same_k1 at h
  refine W_rs ?_
  refine rq (out:=Pr.bool true) ae ?_
  obtain rfl:=Option.some.inj h
  exact bb ⟨rfl,aa⟩
 refine cd (fun m e C=>∃(x4:Int),cz (fun s=>ref05_Same_l2 x1 x2 s) m x4=some z2l/\At [(0,af (Rp.int .i64) x1),(1,af (Rp.int .i64) x2),(5,Pr.i64 x4)] [] e C) n2 ⟨0,hN2,⟨⟨aa,aa,aa,trivial⟩,Pick.refl _⟩⟩ ?_
 clear hN2
 rintro m e C ⟨x4,hN2,hatl2⟩
 refine W_at hatl2 ?_
 clear hatl2
 obtain⟨m2,w2l,rfl,h2l,hn2,ho2⟩:=ay hN2
 clear hN2
 replace h2l:ref05_Same_l2 x1 x2 x4=some w2l:=h2l
 unfold ref05_Same_l2 at h2l
 refine aw ?_
 refine W_rs ?_
 refine rq (out:=Pr.i64 x4) ag ?_
 refine rq (out:=af (Rp.int .i64) x1) ag ?_
 refine rq (out:=Pr.i64 (x1.length:Int)) (cl rfl Tryz.underlying90) ?_
 refine rq (out:=Pr.bool (decide (x4<(x1.length:Int)))) qInt ?_
 refine au (b:=decide (x4<(x1.length:Int))) rfl (fun hc6=> ?_) (fun hc6=> ?_)
 ·replace h2l:=iteT hc6 h2l
  refine av ?_
  refine aw ?_
  refine ar ?_
  refine bg (fun e C=>∃(x7:Int),∃(x8:Int),ref05_Same_j3 x4 x7 x8=some w2l/\At [(0,af (Rp.int .i64) x1),(1,af (Rp.int .i64) x2),(5,Pr.i64 x4),(25,Pr.bool (x7 != x8))] [] e C) ?_ ?_
  ·rintro e C ⟨x7,x8,h2l,hat3⟩
   refine W_at hat3 ?_
   clear hat3
   unfold ref05_Same_j3 at h2l
   refine au (b:=x7 != x8) rfl (fun hc9=> ?_) (fun hc9=> ?_)
   ·replace h2l:=iteT hc9 h2l
    refine W_rs ?_
    refine rq (out:=Pr.bool false) ae ?_
    obtain rfl:=ho2 _ (Option.some.inj h2l).symm
    replace h:some false=some r:=h
    obtain rfl:=Option.some.inj h
    exact bb ⟨rfl,aa⟩
   replace h2l:=iteF hc9 h2l
   refine av ?_
   refine W_r ?_
   refine rq (out:=Pr.i64 x4) ag ?_
   refine rq (out:=Pr.i64 (w64 (x4+1))) qInt ?_
   refine rq (out:=Pr.i64 (w64 (x4+1))) ae ?_
   exact⟨m2,Nat.lt_succ_self _,w64 (x4+1),hn2 _ (Option.some.inj h2l).symm,⟨⟨aa,aa,aa,trivial⟩,Pick.refl _⟩⟩
  refine ei 9 hmx (by kernel_rfl) (by kernel_rfl) ?_
  refine qq (out:=af (Rp.int .i64) x1) ag ?_
  refine qq (out:=Pr.i64 x4) ag ?_
  obtain⟨x7,hx7,h2l⟩:=ah h2l
  refine qq (out:=a5 (Rp.int .i64) x7) (cr (R:=Rp.int .i64) (l:=x1) Tryz.underlying90 Tryz.sizeOf3 hx7) ?_
  refine qq (out:=Pr.i64 x7) (bl (R:=Rp.int .i64) (a:=x7) ty3) ?_
  refine qq (out:=af (Rp.int .i64) x2) ag ?_
  refine qq (out:=Pr.i64 x4) ag ?_
  obtain⟨x8,hx8,h2l⟩:=ah h2l
  refine qq (out:=a5 (Rp.int .i64) x8) (cr (R:=Rp.int .i64) (l:=x2) Tryz.underlying90 Tryz.sizeOf3 hx8) ?_
  refine qq (out:=Pr.i64 x8) (bl (R:=Rp.int .i64) (a:=x8) ty3) ?_
  refine qq (out:=Pr.bool (x7 != x8)) qInt ?_
  exact⟨x7,x8,h2l,⟨⟨aa,aa,aa,aa,trivial⟩,Pick.refl _⟩⟩
 replace h2l:=iteF hc6 h2l
 refine bw ?_
 obtain rfl:=ho2 _ (Option.some.inj h2l).symm
 exact⟨h,⟨trivial,Pick.refl _⟩⟩
theorem ref07_kind_ok (x1 x2 x3:List Int) (r:Int) (h:ref07_kind x1 x2 x3=some r):FnP Tryz.prog 67 [af (Rp.int .i64) x1,af (Rp.int .i64) x2,af (Rp.int .i64) x3] (Pr.i64 r):=by
 refine a7 (n:=32) (rs:=[6]) Tryz.func67 rfl Tryz.ntmps67 ⟨by decide,Tryz.results67⟩ (by decide) (fun s0=> ?_)
 unfold ref07_kind at h
 refine W_rs ?_
 refine rq (out:=Pr.i64 0) ae ?_
 refine W_rs ?_
 refine rq (out:=af (Rp.int .i64) x1) ag ?_
 refine rq (out:=af (Rp.int .i64) x2) ag ?_
 obtain⟨x4,hx4,h⟩:=ah h
 refine rq (out:=Pr.bool x4) (br (ref05_Same_ok x1 x2 _ hx4)) ?_
 refine rq (out:=Pr.bool (!x4)) qNot ?_
 refine rq (out:=Pr.bool (!x4)) ae ?_
 refine W_rs ?_
 refine rq (out:=af (Rp.int .i64) x1) ag ?_
 refine rq (out:=af (Rp.int .i64) x3) ag ?_
 obtain⟨x5,hx5,h⟩:=ah h
 refine rq (out:=Pr.bool x5) (br (ref05_Same_ok x1 x3 _ hx5)) ?_
 refine rq (out:=Pr.bool (!x5)) qNot ?_
 refine rq (out:=Pr.bool (!x5)) ae ?_
 refine aw ?_
 refine bg (fun e C=>∃(x7:Bool),ref07_kind_j1 x4 x5 x2 x3 x7=some r/\At [(1,af (Rp.int .i64) x2),(2,af (Rp.int .i64) x3),(7,Pr.bool (!x4)),(8,Pr.bool (!x5)),(23,Pr.bool x7)] [] e C) ?_ ?_
 ·rintro e C ⟨x7,h,hat1⟩
  refine W_at hat1 ?_
  clear hat1
  unfold ref07_kind_j1 at h
  refine au (b:=x7) rfl (fun hc8=> ?_) (fun hc8=> ?_)
  ·replace h:=iteT hc8 h
   refine W_rs ?_
   refine rq (out:=Pr.i64 0) ae ?_
   obtain rfl:=Option.some.inj h
   exact bb ⟨rfl,aa⟩
  replace h:=iteF hc8 h
  refine av ?_
  refine aw ?_
  refine W_rs ?_
  refine rq (out:=Pr.bool (!x4)) ag ?_
  refine rq (out:=Pr.bool (!(!x4))) qNot ?_
  refine au (b:= !(!x4)) rfl (fun hc9=> ?_) (fun hc9=> ?_)
  ·replace h:=iteT hc9 h
   refine W_rs ?_
   refine rq (out:=Pr.i64 2) ae ?_
   obtain rfl:=Option.some.inj h
   exact bb ⟨rfl,aa⟩
  replace h:=iteF hc9 h
  refine av ?_
  refine aw ?_
  refine W_rs ?_
  refine rq (out:=Pr.bool (!x5)) ag ?_
  refine rq (out:=Pr.bool (!(!x5))) qNot ?_
  refine au (b:= !(!x5)) rfl (fun hc10=> ?_) (fun hc10=> ?_)
  ·replace h:=iteT hc10 h
   refine W_rs ?_
   refine rq (out:=Pr.i64 1) ae ?_
   obtain rfl:=Option.some.inj h
   exact bb ⟨rfl,aa⟩
  replace h:=iteF hc10 h
  refine av ?_
  refine W_rs ?_
  refine rq (out:=af (Rp.int .i64) x2) ag ?_
  refine rq (out:=af (Rp.int .i64) x3) ag ?_
  obtain⟨x11,hx11,h⟩:=ah h
  refine rq (out:=Pr.bool x11) (br (ref05_Same_ok x2 x3 _ hx11)) ?_
  refine rq (out:=Pr.bool x11) ae ?_
  refine aw ?_
  refine W_rs ?_
  refine rq (out:=Pr.bool x11) ag ?_
  refine au (b:=x11) rfl (fun hc12=> ?_) (fun hc12=> ?_)
  ·replace h:=iteT hc12 h
   refine W_rs ?_
   refine rq (out:=Pr.i64 3) ae ?_
   obtain rfl:=Option.some.inj h
   exact bb ⟨rfl,aa⟩
  replace h:=iteF hc12 h
  refine av ?_
  refine W_rs ?_
  refine rq (out:=Pr.i64 4) ae ?_
  obtain rfl:=Option.some.inj h
  exact bb ⟨rfl,aa⟩
 refine W_r ?_
 refine rq (out:=Pr.bool (!x4)) ag ?_
 refine rq (out:=Pr.bool (!(!x4))) qNot ?_
 refine rq (out:=Pr.bool (!(!x4))) ag ?_
 rcases bc h with⟨hc6,h⟩|⟨hc6,h⟩
 ·refine rqg hc6 (out:=Pr.bool (!x5)) ag ?_
  refine rqg hc6 (out:=Pr.bool (!(!x5))) qNot ?_
  refine rq (out:=Pr.bool (!(!x5))) (bo hc6) ?_
  exact⟨!(!x5),h,⟨⟨aa,aa,aa,aa,aa,trivial⟩,Pick.refl _⟩⟩
 refine rno (neT hc6) ?_
 refine rno (neT hc6) ?_
 refine rq (out:=Pr.bool false) (az hc6) ?_
 exact⟨false,h,⟨⟨aa,aa,aa,aa,aa,trivial⟩,Pick.refl _⟩⟩
theorem ref07_Chunks_ok (x1 x2 x3:List Int) (r:(List ApiChunk)) (h:ref07_Chunks x1 x2 x3=some r):FnP Tryz.prog 56 [af (Rp.int .i64) x1,af (Rp.int .i64) x2,af (Rp.int .i64) x3] (af ao r):=by
 refine a7 (n:=148) (rs:=[6]) Tryz.func56 rfl Tryz.ntmps56 ⟨by decide,Tryz.results56⟩ (by decide) (fun s0=> ?_)
 unfold ref07_Chunks at h
 refine W_rs ?_
 refine rq (out:=Pr.is (.slice none 0 0)) ae ?_
 refine W_rs ?_
 refine rq (out:=af (Rp.int .i64) x1) ag ?_
 refine rq (out:=af (Rp.int .i64) x2) ag ?_
 obtain⟨x4,hx4,h⟩:=ah h
 refine rq (out:=af (Rp.int .i64) x4) (br (ref05_Match_ok x1 x2 _ hx4)) ?_
 refine rq (out:=af (Rp.int .i64) x4) ae ?_
 refine W_rs ?_
 refine rq (out:=af (Rp.int .i64) x1) ag ?_
 refine rq (out:=af (Rp.int .i64) x3) ag ?_
 obtain⟨x5,hx5,h⟩:=ah h
 refine rq (out:=af (Rp.int .i64) x5) (br (ref05_Match_ok x1 x3 _ hx5)) ?_
 refine rq (out:=af (Rp.int .i64) x5) ae ?_
 refine W_rs ?_
 refine rq (out:=Pr.is (.slice none 0 0)) ae ?_
 refine W_rs ?_
 refine rq (out:=Pr.i64 0) ae ?_
 refine W_rs ?_
 refine rq (out:=Pr.i64 0) ae ?_
 refine W_rs ?_
 refine rq (out:=Pr.i64 0) ae ?_
 refine aw ?_
 refine ar ?_
 obtain⟨z2l,hz2,h⟩:=ah h
 obtain⟨n2,hN2⟩:=a4 hz2
 clear hz2
 refine bp 0 (fun e C=>∃(x10:List ApiChunk),∃(v6:Value),ref07_Chunks_k1 x10=some r/\At [(9,Pr.is v6)] [Own.vec v6 ao x10 71] e C) ?_ ?_
 ·rintro e C ⟨x10,v6,h,hat1⟩
  refine W_at hat1 ?_
  clear hat1
  unfold ref07_Chunks_k1 at h
  refine W_rs ?_
  refine rq (out:=Pr.is v6) ag ?_
  refine rq (out:=Pr.is v6) ae ?_
  refine W_rel 0 [6] ?_ rfl ⟨rfl,trivial⟩
  obtain rfl:=Option.some.inj h
  exact bb ⟨rfl,aa⟩
 refine W_nil [9] ao 71 (fun v52=> ?_) ⟨rfl,trivial⟩
 refine cd (fun m e C=>∃(x7:Int),∃(x8:Int),∃(x9:Int),∃(x10:List ApiChunk),∃(v6:Value),cz (fun s=>ev x1 x4 x5 x2 x3 s.1 s.2.1 s.2.2.1 s.2.2.2) m (x7,x8,x9,x10)=some z2l/\At [(0,af (Rp.int .i64) x1),(1,af (Rp.int .i64) x2),(2,af (Rp.int .i64) x3),(7,af (Rp.int .i64) x4),(8,af (Rp.int .i64) x5),(9,Pr.is v6),(10,Pr.i64 x7),(11,Pr.i64 x8),(12,Pr.i64 x9)] [Own.vec v6 ao x10 71] e C) n2 ⟨0,0,0,[],v52,hN2,⟨⟨aa,aa,aa,aa,aa,aa,aa,aa,aa,trivial⟩,Pick.refl _⟩⟩ ?_
 clear hN2
 rintro m e C ⟨x7,x8,x9,x10,v6,hN2,hatl2⟩
 refine W_at hatl2 ?_
 clear hatl2
 obtain⟨m2,w2l,rfl,h2l,hn2,ho2⟩:=ay hN2
 clear hN2
 replace h2l:ev x1 x4 x5 x2 x3 x7 x8 x9 x10=some w2l:=h2l
 unfold ev at h2l
 refine aw ?_
 refine bg (fun e C=>∃(x19:Bool),fc x7 x1 x4 x8 x5 x9 x2 x3 x10 x19=some w2l/\At [(0,af (Rp.int .i64) x1),(1,af (Rp.int .i64) x2),(2,af (Rp.int .i64) x3),(7,af (Rp.int .i64) x4),(8,af (Rp.int .i64) x5),(9,Pr.is v6),(10,Pr.i64 x7),(11,Pr.i64 x8),(12,Pr.i64 x9),(38,Pr.bool x19)] [Own.vec v6 ao x10 71] e C) ?_ ?_
 ·rintro e C ⟨x19,h2l,hat11⟩
  refine W_at hat11 ?_
  clear hat11
  unfold fc at h2l
  refine au (b:=x19) rfl (fun hc20=> ?_) (fun hc20=> ?_)
  ·replace h2l:=iteT hc20 h2l
   refine av ?_
   refine ar ?_
   refine W_rs ?_
   refine rq (out:=Pr.i64 0) ae ?_
   refine aw ?_
   refine ar ?_
   obtain⟨z9l,hz9,h2l⟩:=ah h2l
   obtain⟨n9,hN9⟩:=a4 hz9
   clear hz9
   refine bp 2 (fun e C=>∃(x21:Int),ref07_Chunks_k8 x1 x4 x5 x7 x2 x8 x3 x9 x10 x21=some w2l/\At [(0,af (Rp.int .i64) x1),(1,af (Rp.int .i64) x2),(2,af (Rp.int .i64) x3),(7,af (Rp.int .i64) x4),(8,af (Rp.int .i64) x5),(9,Pr.is v6),(10,Pr.i64 x7),(11,Pr.i64 x8),(12,Pr.i64 x9),(13,Pr.i64 x21)] [Own.vec v6 ao x10 71] e C) ?_ ?_
   ·rintro e C ⟨x21,h2l,hat8⟩
    refine W_at hat8 ?_
    clear hat8
    unfold ref07_Chunks_k8 at h2l
    refine W_rs ?_
    refine rq (out:=Pr.i64 x7) ag ?_
    refine rq (out:=Pr.i64 x21) ag ?_
    refine rq (out:=Pr.i64 (w64 (x7+x21))) qInt ?_
    refine rq (out:=Pr.i64 (w64 (x7+x21))) ae ?_
    refine W_rs ?_
    refine rq (out:=Pr.i64 x8) ag ?_
    refine rq (out:=Pr.i64 x21) ag ?_
    refine rq (out:=Pr.i64 (w64 (x8+x21))) qInt ?_
    refine rq (out:=Pr.i64 (w64 (x8+x21))) ae ?_
    refine W_rs ?_
    refine rq (out:=Pr.i64 x9) ag ?_
    refine rq (out:=Pr.i64 x21) ag ?_
    refine rq (out:=Pr.i64 (w64 (x9+x21))) qInt ?_
    refine rq (out:=Pr.i64 (w64 (x9+x21))) ae ?_
    refine bg (fun e C=>∃(x43:Int),∃(x44:Int),∃(x45:Int),gw x1 x7 x2 x8 x3 x9 x10 x43 x44 x45=some w2l/\At [(0,af (Rp.int .i64) x1),(1,af (Rp.int .i64) x2),(2,af (Rp.int .i64) x3),(7,af (Rp.int .i64) x4),(8,af (Rp.int .i64) x5),(9,Pr.is v6),(10,Pr.i64 x7),(11,Pr.i64 x8),(12,Pr.i64 x9),(14,Pr.i64 x43),(15,Pr.i64 x44),(16,Pr.i64 x45)] [Own.vec v6 ao x10 71] e C) ?_ ?_
    ·rintro e C ⟨x43,x44,x45,h2l,hat4⟩
     refine W_at hat4 ?_
     clear hat4
     unfold gw at h2l
     refine bg (fun e C=>∃(x50:List ApiChunk),∃(v51:Value),ref07_Chunks_j3 x43 x44 x45 x50=some w2l/\At [(0,af (Rp.int .i64) x1),(1,af (Rp.int .i64) x2),(2,af (Rp.int .i64) x3),(7,af (Rp.int .i64) x4),(8,af (Rp.int .i64) x5),(9,Pr.is v51),(14,Pr.i64 x43),(15,Pr.i64 x44),(16,Pr.i64 x45)] [Own.vec v51 ao x50 71] e C) ?_ ?_
     ·rintro e C ⟨x50,v51,h2l,hat3⟩
      refine W_at hat3 ?_
      clear hat3
      unfold ref07_Chunks_j3 at h2l
      refine W_rs ?_
      refine rq (out:=Pr.i64 x43) ag ?_
      refine rq (out:=Pr.i64 x43) ae ?_
      refine W_rs ?_
      refine rq (out:=Pr.i64 x44) ag ?_
      refine rq (out:=Pr.i64 x44) ae ?_
      refine W_r ?_
      refine rq (out:=Pr.i64 x45) ag ?_
      refine rq (out:=Pr.i64 x45) ae ?_
      exact⟨m2,Nat.lt_succ_self _,x43,x44,x45,x50,v51,hn2 _ (Option.some.inj h2l).symm,⟨⟨aa,aa,aa,aa,aa,aa,aa,aa,aa,trivial⟩,Pick.refl _⟩⟩
     refine ei 25 hmx (by kernel_rfl) (by kernel_rfl) ?_
     refine qq (out:=Pr.is v6) ag ?_
     refine qq (out:=af (Rp.int .i64) x1) ag ?_
     refine qq (out:=Pr.i64 x7) ag ?_
     refine qq (out:=Pr.i64 x43) ag ?_
     obtain⟨x46,hx46,h2l⟩:=ah h2l
     refine qq (out:=af (Rp.int .i64) x46) (k6 Tryz.underlying90 Tryz.sizeOf3 hx46) ?_
     refine qq (out:=af (Rp.int .i64) x2) ag ?_
     refine qq (out:=Pr.i64 x8) ag ?_
     refine qq (out:=Pr.i64 x44) ag ?_
     obtain⟨x47,hx47,h2l⟩:=ah h2l
     refine qq (out:=af (Rp.int .i64) x47) (k6 Tryz.underlying90 Tryz.sizeOf3 hx47) ?_
     refine qq (out:=af (Rp.int .i64) x3) ag ?_
     refine qq (out:=Pr.i64 x9) ag ?_
     refine qq (out:=Pr.i64 x45) ag ?_
     obtain⟨x48,hx48,h2l⟩:=ah h2l
     refine qq (out:=af (Rp.int .i64) x48) (k6 Tryz.underlying90 Tryz.sizeOf3 hx48) ?_
     obtain⟨x49,hx49,h2l⟩:=ah h2l
     refine qq (out:=Pr.i64 x49) (br (ref07_kind_ok x46 x47 x48 _ hx49)) ?_
     refine qq (out:=Pr.i64 x7) ag ?_
     refine qq (out:=Pr.i64 x43) ag ?_
     refine qq (out:=(k8).val (ApiSpan.mk x7 x43)) (ja st69 ⟨(ApiSpan.mk x7 0),⟨_,rfl,rfl,fun j fd hj hf=>by match j,hj with| 0,h=>exact absurd rfl h| 1,_=>cases hf;rfl|_+2,_=>cases hf⟩,⟨(ApiSpan.mk x7 x43),⟨_,rfl,rfl,fun j fd hj hf=>by match j,hj with| 0,_=>cases hf;rfl| 1,h=>exact absurd rfl h|_+2,_=>cases hf⟩,rfl⟩⟩) ?_
     refine qq (out:=Pr.i64 x8) ag ?_
     refine qq (out:=Pr.i64 x44) ag ?_
     refine qq (out:=(k8).val (ApiSpan.mk x8 x44)) (ja st69 ⟨(ApiSpan.mk x8 0),⟨_,rfl,rfl,fun j fd hj hf=>by match j,hj with| 0,h=>exact absurd rfl h| 1,_=>cases hf;rfl|_+2,_=>cases hf⟩,⟨(ApiSpan.mk x8 x44),⟨_,rfl,rfl,fun j fd hj hf=>by match j,hj with| 0,_=>cases hf;rfl| 1,h=>exact absurd rfl h|_+2,_=>cases hf⟩,rfl⟩⟩) ?_
     refine qq (out:=Pr.i64 x9) ag ?_
     refine qq (out:=Pr.i64 x45) ag ?_
     refine qq (out:=(k8).val (ApiSpan.mk x9 x45)) (ja st69 ⟨(ApiSpan.mk x9 0),⟨_,rfl,rfl,fun j fd hj hf=>by match j,hj with| 0,h=>exact absurd rfl h| 1,_=>cases hf;rfl|_+2,_=>cases hf⟩,⟨(ApiSpan.mk x9 x45),⟨_,rfl,rfl,fun j fd hj hf=>by match j,hj with| 0,_=>cases hf;rfl| 1,h=>exact absurd rfl h|_+2,_=>cases hf⟩,rfl⟩⟩) ?_
     refine qq (out:=(ao).val (ApiChunk.mk x49 (ApiSpan.mk x7 x43) (ApiSpan.mk x8 x44) (ApiSpan.mk x9 x45))) (ja st71 ⟨(ApiChunk.mk x49 (ApiSpan.mk 0 0) (ApiSpan.mk 0 0) (ApiSpan.mk 0 0)),⟨_,rfl,rfl,fun j fd hj hf=>by match j,hj with| 0,h=>exact absurd rfl h| 1,_=>cases hf;rfl| 2,_=>cases hf;rfl| 3,_=>cases hf;rfl|_+4,_=>cases hf⟩,⟨(ApiChunk.mk x49 (ApiSpan.mk x7 x43) (ApiSpan.mk 0 0) (ApiSpan.mk 0 0)),⟨_,rfl,rfl,fun j fd hj hf=>by match j,hj with| 0,_=>cases hf;rfl| 1,h=>exact absurd rfl h| 2,_=>cases hf;rfl| 3,_=>cases hf;rfl|_+4,_=>cases hf⟩,⟨(ApiChunk.mk x49 (ApiSpan.mk x7 x43) (ApiSpan.mk x8 x44) (ApiSpan.mk 0 0)),⟨_,rfl,rfl,fun j fd hj hf=>by match j,hj with| 0,_=>cases hf;rfl| 1,_=>cases hf;rfl| 2,h=>exact absurd rfl h| 3,_=>cases hf;rfl|_+4,_=>cases hf⟩,⟨(ApiChunk.mk x49 (ApiSpan.mk x7 x43) (ApiSpan.mk x8 x44) (ApiSpan.mk x9 x45)),⟨_,rfl,rfl,fun j fd hj hf=>by match j,hj with| 0,_=>cases hf;rfl| 1,_=>cases hf;rfl| 2,_=>cases hf;rfl| 3,h=>exact absurd rfl h|_+4,_=>cases hf⟩,rfl⟩⟩⟩⟩) ?_
     refine qq (out:=af ao ([(ApiChunk.mk x49 (ApiSpan.mk x7 x43) (ApiSpan.mk x8 x44) (ApiSpan.mk x9 x45))]:List ApiChunk)) (bh (R:=ao) (a:=(ApiChunk.mk x49 (ApiSpan.mk x7 x43) (ApiSpan.mk x8 x44) (ApiSpan.mk x9 x45))) el66 (Nat.le_of_ble_eq_true rfl)) ?_
     obtain⟨x50,hx50,h2l⟩:=ah h2l
     refine cu 0 el66 hx50 (fun v51=> ?_)
     refine rq (out:=Pr.is v51) ae ?_
     exact⟨x50,v51,h2l,⟨⟨aa,aa,aa,aa,aa,aa,aa,aa,aa,trivial⟩,Pick.refl _⟩⟩
    refine W_rs ?_
    refine rq (out:=Pr.i64 x21) ag ?_
    refine rq (out:=Pr.bool (x21==0)) qInt ?_
    refine au (b:=x21==0) rfl (fun hc31=> ?_) (fun hc31=> ?_)
    ·replace h2l:=iteT hc31 h2l
     refine aw ?_
     refine ar ?_
     obtain⟨z6l,hz6,h2l⟩:=ah h2l
     obtain⟨n6,hN6⟩:=a4 hz6
     clear hz6
     refine bp 4 (fun e C=>∃(x32:Int),ref07_Chunks_k5 x1 x4 x5 x7 x2 x8 x3 x9 x10 x32=some w2l/\At [(0,af (Rp.int .i64) x1),(1,af (Rp.int .i64) x2),(2,af (Rp.int .i64) x3),(7,af (Rp.int .i64) x4),(8,af (Rp.int .i64) x5),(9,Pr.is v6),(10,Pr.i64 x7),(11,Pr.i64 x8),(12,Pr.i64 x9),(14,Pr.i64 x32)] [Own.vec v6 ao x10 71] e C) ?_ ?_
     ·rintro e C ⟨x32,h2l,hat5⟩
      refine W_at hat5 ?_
      clear hat5
      unfold ref07_Chunks_k5 at h2l
      refine W_rs ?_
      refine rq (out:=af (Rp.int .i64) x2) ag ?_
      refine rq (out:=Pr.i64 (x2.length:Int)) (cl rfl Tryz.underlying90) ?_
      refine rq (out:=Pr.i64 (x2.length:Int)) ae ?_
      refine W_rs ?_
      refine rq (out:=af (Rp.int .i64) x3) ag ?_
      refine rq (out:=Pr.i64 (x3.length:Int)) (cl rfl Tryz.underlying90) ?_
      refine rq (out:=Pr.i64 (x3.length:Int)) ae ?_
      refine W_rs ?_
      refine rq (out:=Pr.i64 x32) ag ?_
      refine rq (out:=af (Rp.int .i64) x1) ag ?_
      refine rq (out:=Pr.i64 (x1.length:Int)) (cl rfl Tryz.underlying90) ?_
      refine rq (out:=Pr.bool (decide (x32<(x1.length:Int)))) qInt ?_
      refine au (b:=decide (x32<(x1.length:Int))) rfl (fun hc40=> ?_) (fun hc40=> ?_)
      ·replace h2l:=iteT hc40 h2l
       refine W_rs ?_
       refine rq (out:=af (Rp.int .i64) x4) ag ?_
       refine rq (out:=Pr.i64 x32) ag ?_
       obtain⟨x41,hx41,h2l⟩:=ah h2l
       refine rq (out:=a5 (Rp.int .i64) x41) (cr (R:=Rp.int .i64) (l:=x4) Tryz.underlying90 Tryz.sizeOf3 hx41) ?_
       refine rq (out:=Pr.i64 x41) (bl (R:=Rp.int .i64) (a:=x41) ty3) ?_
       refine rq (out:=Pr.i64 x41) ae ?_
       refine W_r ?_
       refine rq (out:=af (Rp.int .i64) x5) ag ?_
       refine rq (out:=Pr.i64 x32) ag ?_
       obtain⟨x42,hx42,h2l⟩:=ah h2l
       refine rq (out:=a5 (Rp.int .i64) x42) (cr (R:=Rp.int .i64) (l:=x5) Tryz.underlying90 Tryz.sizeOf3 hx42) ?_
       refine rq (out:=Pr.i64 x42) (bl (R:=Rp.int .i64) (a:=x42) ty3) ?_
       refine rq (out:=Pr.i64 x42) ae ?_
       exact⟨x32,x41,x42,h2l,⟨⟨aa,aa,aa,aa,aa,aa,aa,aa,aa,aa,aa,aa,trivial⟩,Pick.refl _⟩⟩
      replace h2l:=iteF hc40 h2l
      refine av ?_
      exact⟨x32,(x2.length:Int),(x3.length:Int),h2l,⟨⟨aa,aa,aa,aa,aa,aa,aa,aa,aa,aa,aa,aa,trivial⟩,Pick.refl _⟩⟩
     refine cd (fun m e C=>∃(x32:Int),cz (fun s=>eu x1 x4 x5 s) m x32=some z6l/\At [(0,af (Rp.int .i64) x1),(1,af (Rp.int .i64) x2),(2,af (Rp.int .i64) x3),(7,af (Rp.int .i64) x4),(8,af (Rp.int .i64) x5),(9,Pr.is v6),(10,Pr.i64 x7),(11,Pr.i64 x8),(12,Pr.i64 x9),(14,Pr.i64 x32)] [Own.vec v6 ao x10 71] e C) n6 ⟨w64 (x7+x21),hN6,⟨⟨aa,aa,aa,aa,aa,aa,aa,aa,aa,aa,trivial⟩,Pick.refl _⟩⟩ ?_
     clear hN6
     rintro m e C ⟨x32,hN6,hatl6⟩
     refine W_at hatl6 ?_
     clear hatl6
     obtain⟨m6,w6l,rfl,h6l,hn6,ho6⟩:=ay hN6
     clear hN6
     replace h6l:eu x1 x4 x5 x32=some w6l:=h6l
     unfold eu at h6l
     refine aw ?_
     refine bg (fun e C=>∃(x38:Bool),f0 x32 x38=some w6l/\At [(0,af (Rp.int .i64) x1),(1,af (Rp.int .i64) x2),(2,af (Rp.int .i64) x3),(7,af (Rp.int .i64) x4),(8,af (Rp.int .i64) x5),(9,Pr.is v6),(10,Pr.i64 x7),(11,Pr.i64 x8),(12,Pr.i64 x9),(14,Pr.i64 x32),(99,Pr.bool x38)] [Own.vec v6 ao x10 71] e C) ?_ ?_
     ·rintro e C ⟨x38,h6l,hat7⟩
      refine W_at hat7 ?_
      clear hat7
      unfold f0 at h6l
      refine au (b:=x38) rfl (fun hc39=> ?_) (fun hc39=> ?_)
      ·replace h6l:=iteT hc39 h6l
       refine av ?_
       refine ar ?_
       refine W_r ?_
       refine rq (out:=Pr.i64 x32) ag ?_
       refine rq (out:=Pr.i64 (w64 (x32+1))) qInt ?_
       refine rq (out:=Pr.i64 (w64 (x32+1))) ae ?_
       exact⟨m6,Nat.lt_succ_self _,w64 (x32+1),hn6 _ (Option.some.inj h6l).symm,⟨⟨aa,aa,aa,aa,aa,aa,aa,aa,aa,aa,trivial⟩,Pick.refl _⟩⟩
      replace h6l:=iteF hc39 h6l
      refine bw ?_
      obtain rfl:=ho6 _ (Option.some.inj h6l).symm
      exact⟨x32,h2l,⟨⟨aa,aa,aa,aa,aa,aa,aa,aa,aa,aa,trivial⟩,Pick.refl _⟩⟩
     refine W_r ?_
     refine rq (out:=Pr.i64 x32) ag ?_
     refine rq (out:=af (Rp.int .i64) x1) ag ?_
     refine rq (out:=Pr.i64 (x1.length:Int)) (cl rfl Tryz.underlying90) ?_
     refine rq (out:=Pr.bool (decide (x32<(x1.length:Int)))) qInt ?_
     refine rq (out:=Pr.bool (decide (x32<(x1.length:Int)))) ag ?_
     rcases bc h6l with⟨hc34,h6l⟩|⟨hc34,h6l⟩
     ·refine rqg hc34 (out:=af (Rp.int .i64) x4) ag ?_
      refine rqg hc34 (out:=Pr.i64 x32) ag ?_
      obtain⟨x35,hx35,h6l⟩:=ah h6l
      refine rqg hc34 (out:=a5 (Rp.int .i64) x35) (cr (R:=Rp.int .i64) (l:=x4) Tryz.underlying90 Tryz.sizeOf3 hx35) ?_
      refine rqg hc34 (out:=Pr.i64 x35) (bl (R:=Rp.int .i64) (a:=x35) ty3) ?_
      refine rqg hc34 (out:=Pr.bool (decide (x35<0))) qInt ?_
      refine rqg hc34 (out:=Pr.bool (decide (x35<0))) ag ?_
      rcases bc h6l with⟨hc36,h6l⟩|⟨hc36,h6l⟩
      ·refine rno (neF hc36) ?_
       refine rno (neF hc36) ?_
       refine rno (neF hc36) ?_
       refine rno (neF hc36) ?_
       refine rno (neF hc36) ?_
       refine rqg hc34 (out:=Pr.bool true) (bo hc36) ?_
       refine rq (out:=Pr.bool true) (bo hc34) ?_
       exact⟨true,h6l,⟨⟨aa,aa,aa,aa,aa,aa,aa,aa,aa,aa,aa,trivial⟩,Pick.refl _⟩⟩
      refine rqg hc36 (out:=af (Rp.int .i64) x5) ag ?_
      refine rqg hc36 (out:=Pr.i64 x32) ag ?_
      obtain⟨x37,hx37,h6l⟩:=ah h6l
      refine rqg hc36 (out:=a5 (Rp.int .i64) x37) (cr (R:=Rp.int .i64) (l:=x5) Tryz.underlying90 Tryz.sizeOf3 hx37) ?_
      refine rqg hc36 (out:=Pr.i64 x37) (bl (R:=Rp.int .i64) (a:=x37) ty3) ?_
      refine rqg hc36 (out:=Pr.bool (decide (x37<0))) qInt ?_
      refine rqg hc34 (out:=Pr.bool (decide (x37<0))) (az hc36) ?_
      refine rq (out:=Pr.bool (decide (x37<0))) (bo hc34) ?_
      exact⟨decide (x37<0),h6l,⟨⟨aa,aa,aa,aa,aa,aa,aa,aa,aa,aa,aa,trivial⟩,Pick.refl _⟩⟩
     refine rno (neT hc34) ?_
     refine rno (neT hc34) ?_
     refine rno (neT hc34) ?_
     refine rno (neT hc34) ?_
     refine rno (neT hc34) ?_
     refine rno (neT hc34) ?_
     refine rnoU ?_
     refine rnoU ?_
     refine rnoU ?_
     refine rnoU ?_
     refine rnoU ?_
     refine rno (neT hc34) ?_
     refine rq (out:=Pr.bool false) (az hc34) ?_
     exact⟨false,h6l,⟨⟨aa,aa,aa,aa,aa,aa,aa,aa,aa,aa,aa,trivial⟩,Pick.refl _⟩⟩
    replace h2l:=iteF hc31 h2l
    refine av ?_
    exact⟨w64 (x7+x21),w64 (x8+x21),w64 (x9+x21),h2l,⟨⟨aa,aa,aa,aa,aa,aa,aa,aa,aa,aa,aa,aa,trivial⟩,Pick.refl _⟩⟩
   refine cd (fun m e C=>∃(x21:Int),cz (fun s=>ea x7 x1 x4 x8 x5 x9 s) m x21=some z9l/\At [(0,af (Rp.int .i64) x1),(1,af (Rp.int .i64) x2),(2,af (Rp.int .i64) x3),(7,af (Rp.int .i64) x4),(8,af (Rp.int .i64) x5),(9,Pr.is v6),(10,Pr.i64 x7),(11,Pr.i64 x8),(12,Pr.i64 x9),(13,Pr.i64 x21)] [Own.vec v6 ao x10 71] e C) n9 ⟨0,hN9,⟨⟨aa,aa,aa,aa,aa,aa,aa,aa,aa,aa,trivial⟩,Pick.refl _⟩⟩ ?_
   clear hN9
   rintro m e C ⟨x21,hN9,hatl9⟩
   refine W_at hatl9 ?_
   clear hatl9
   obtain⟨m9,w9l,rfl,h9l,hn9,ho9⟩:=ay hN9
   clear hN9
   replace h9l:ea x7 x1 x4 x8 x5 x9 x21=some w9l:=h9l
   unfold ea at h9l
   refine aw ?_
   refine bg (fun e C=>∃(x29:Bool),ec x21 x29=some w9l/\At [(0,af (Rp.int .i64) x1),(1,af (Rp.int .i64) x2),(2,af (Rp.int .i64) x3),(7,af (Rp.int .i64) x4),(8,af (Rp.int .i64) x5),(9,Pr.is v6),(10,Pr.i64 x7),(11,Pr.i64 x8),(12,Pr.i64 x9),(13,Pr.i64 x21),(68,Pr.bool x29)] [Own.vec v6 ao x10 71] e C) ?_ ?_
   ·rintro e C ⟨x29,h9l,hat10⟩
    refine W_at hat10 ?_
    clear hat10
    unfold ec at h9l
    refine au (b:=x29) rfl (fun hc30=> ?_) (fun hc30=> ?_)
    ·replace h9l:=iteT hc30 h9l
     refine av ?_
     refine ar ?_
     refine W_r ?_
     refine rq (out:=Pr.i64 x21) ag ?_
     refine rq (out:=Pr.i64 (w64 (x21+1))) qInt ?_
     refine rq (out:=Pr.i64 (w64 (x21+1))) ae ?_
     exact⟨m9,Nat.lt_succ_self _,w64 (x21+1),hn9 _ (Option.some.inj h9l).symm,⟨⟨aa,aa,aa,aa,aa,aa,aa,aa,aa,aa,trivial⟩,Pick.refl _⟩⟩
    replace h9l:=iteF hc30 h9l
    refine bw ?_
    obtain rfl:=ho9 _ (Option.some.inj h9l).symm
    exact⟨x21,h2l,⟨⟨aa,aa,aa,aa,aa,aa,aa,aa,aa,aa,trivial⟩,Pick.refl _⟩⟩
   refine W_r ?_
   refine rq (out:=Pr.i64 x7) ag ?_
   refine rq (out:=Pr.i64 x21) ag ?_
   refine rq (out:=Pr.i64 (w64 (x7+x21))) qInt ?_
   refine rq (out:=af (Rp.int .i64) x1) ag ?_
   refine rq (out:=Pr.i64 (x1.length:Int)) (cl rfl Tryz.underlying90) ?_
   refine rq (out:=Pr.bool (decide ((w64 (x7+x21))<(x1.length:Int)))) qInt ?_
   refine rq (out:=Pr.bool (decide ((w64 (x7+x21))<(x1.length:Int)))) ag ?_
   rcases bc h9l with⟨hc23,h9l⟩|⟨hc23,h9l⟩
   ·refine rqg hc23 (out:=af (Rp.int .i64) x4) ag ?_
    refine rqg hc23 (out:=Pr.i64 x7) ag ?_
    refine rqg hc23 (out:=Pr.i64 x21) ag ?_
    refine rqg hc23 (out:=Pr.i64 (w64 (x7+x21))) qInt ?_
    obtain⟨x24,hx24,h9l⟩:=ah h9l
    refine rqg hc23 (out:=a5 (Rp.int .i64) x24) (cr (R:=Rp.int .i64) (l:=x4) Tryz.underlying90 Tryz.sizeOf3 hx24) ?_
    refine rqg hc23 (out:=Pr.i64 x24) (bl (R:=Rp.int .i64) (a:=x24) ty3) ?_
    refine rqg hc23 (out:=Pr.i64 x8) ag ?_
    refine rqg hc23 (out:=Pr.i64 x21) ag ?_
    refine rqg hc23 (out:=Pr.i64 (w64 (x8+x21))) qInt ?_
    refine rqg hc23 (out:=Pr.bool (x24==(w64 (x8+x21)))) qInt ?_
    refine rq (out:=Pr.bool (x24==(w64 (x8+x21)))) (bo hc23) ?_
    refine rq (out:=Pr.bool (x24==(w64 (x8+x21)))) ag ?_
    rcases bc h9l with⟨hc25,h9l⟩|⟨hc25,h9l⟩
    ·refine rqg hc25 (out:=af (Rp.int .i64) x5) ag ?_
     refine rqg hc25 (out:=Pr.i64 x7) ag ?_
     refine rqg hc25 (out:=Pr.i64 x21) ag ?_
     refine rqg hc25 (out:=Pr.i64 (w64 (x7+x21))) qInt ?_
     obtain⟨x26,hx26,h9l⟩:=ah h9l
     refine rqg hc25 (out:=a5 (Rp.int .i64) x26) (cr (R:=Rp.int .i64) (l:=x5) Tryz.underlying90 Tryz.sizeOf3 hx26) ?_
     refine rqg hc25 (out:=Pr.i64 x26) (bl (R:=Rp.int .i64) (a:=x26) ty3) ?_
     refine rqg hc25 (out:=Pr.i64 x9) ag ?_
     refine rqg hc25 (out:=Pr.i64 x21) ag ?_
     refine rqg hc25 (out:=Pr.i64 (w64 (x9+x21))) qInt ?_
     refine rqg hc25 (out:=Pr.bool (x26==(w64 (x9+x21)))) qInt ?_
     refine rq (out:=Pr.bool (x26==(w64 (x9+x21)))) (bo hc25) ?_
     exact⟨x26==(w64 (x9+x21)),h9l,⟨⟨aa,aa,aa,aa,aa,aa,aa,aa,aa,aa,aa,trivial⟩,Pick.refl _⟩⟩
    refine rno (neT hc25) ?_
    refine rno (neT hc25) ?_
    refine rno (neT hc25) ?_
    refine rno (neT hc25) ?_
    refine rno (neT hc25) ?_
    refine rno (neT hc25) ?_
    refine rno (neT hc25) ?_
    refine rno (neT hc25) ?_
    refine rno (neT hc25) ?_
    refine rno (neT hc25) ?_
    refine rq (out:=Pr.bool false) (az hc25) ?_
    exact⟨false,h9l,⟨⟨aa,aa,aa,aa,aa,aa,aa,aa,aa,aa,aa,trivial⟩,Pick.refl _⟩⟩
   refine rno (neT hc23) ?_
   refine rno (neT hc23) ?_
   refine rno (neT hc23) ?_
   refine rno (neT hc23) ?_
   refine rno (neT hc23) ?_
   refine rno (neT hc23) ?_
   refine rno (neT hc23) ?_
   refine rno (neT hc23) ?_
   refine rno (neT hc23) ?_
   refine rno (neT hc23) ?_
   refine rq (out:=Pr.bool false) (az hc23) ?_
   refine rq (out:=Pr.bool false) ag ?_
   have hc27:false=false:=rfl
   refine rno (neT hc27) ?_
   refine rno (neT hc27) ?_
   refine rno (neT hc27) ?_
   refine rno (neT hc27) ?_
   refine rno (neT hc27) ?_
   refine rno (neT hc27) ?_
   refine rno (neT hc27) ?_
   refine rno (neT hc27) ?_
   refine rno (neT hc27) ?_
   refine rno (neT hc27) ?_
   refine rq (out:=Pr.bool false) (az hc27) ?_
   exact⟨false,h9l,⟨⟨aa,aa,aa,aa,aa,aa,aa,aa,aa,aa,aa,trivial⟩,Pick.refl _⟩⟩
  replace h2l:=iteF hc20 h2l
  refine bw ?_
  obtain rfl:=ho2 _ (Option.some.inj h2l).symm
  exact⟨x10,v6,h,⟨⟨aa,trivial⟩,Pick.refl _⟩⟩
 refine W_r ?_
 refine rq (out:=Pr.i64 x7) ag ?_
 refine rq (out:=af (Rp.int .i64) x1) ag ?_
 refine rq (out:=Pr.i64 (x1.length:Int)) (cl rfl Tryz.underlying90) ?_
 refine rq (out:=Pr.bool (decide (x7<(x1.length:Int)))) qInt ?_
 refine rq (out:=Pr.bool (decide (x7<(x1.length:Int)))) ag ?_
 rcases bc h2l with⟨hc16,h2l⟩|⟨hc16,h2l⟩
 ·refine rno (neF hc16) ?_
  refine rno (neF hc16) ?_
  refine rno (neF hc16) ?_
  refine rno (neF hc16) ?_
  refine rq (out:=Pr.bool true) (bo hc16) ?_
  refine rq (out:=Pr.bool true) ag ?_
  have hc18:true=true:=rfl
  refine rno (neF hc18) ?_
  refine rno (neF hc18) ?_
  refine rno (neF hc18) ?_
  refine rno (neF hc18) ?_
  refine rq (out:=Pr.bool true) (bo hc18) ?_
  exact⟨true,h2l,⟨⟨aa,aa,aa,aa,aa,aa,aa,aa,aa,aa,trivial⟩,Pick.refl _⟩⟩
 refine rqg hc16 (out:=Pr.i64 x8) ag ?_
 refine rqg hc16 (out:=af (Rp.int .i64) x2) ag ?_
 refine rqg hc16 (out:=Pr.i64 (x2.length:Int)) (cl rfl Tryz.underlying90) ?_
 refine rqg hc16 (out:=Pr.bool (decide (x8<(x2.length:Int)))) qInt ?_
 refine rq (out:=Pr.bool (decide (x8<(x2.length:Int)))) (az hc16) ?_
 refine rq (out:=Pr.bool (decide (x8<(x2.length:Int)))) ag ?_
 rcases bc h2l with⟨hc17,h2l⟩|⟨hc17,h2l⟩
 ·refine rno (neF hc17) ?_
  refine rno (neF hc17) ?_
  refine rno (neF hc17) ?_
  refine rno (neF hc17) ?_
  refine rq (out:=Pr.bool true) (bo hc17) ?_
  exact⟨true,h2l,⟨⟨aa,aa,aa,aa,aa,aa,aa,aa,aa,aa,trivial⟩,Pick.refl _⟩⟩
 refine rqg hc17 (out:=Pr.i64 x9) ag ?_
 refine rqg hc17 (out:=af (Rp.int .i64) x3) ag ?_
 refine rqg hc17 (out:=Pr.i64 (x3.length:Int)) (cl rfl Tryz.underlying90) ?_
 refine rqg hc17 (out:=Pr.bool (decide (x9<(x3.length:Int)))) qInt ?_
 refine rq (out:=Pr.bool (decide (x9<(x3.length:Int)))) (az hc17) ?_
 exact⟨decide (x9<(x3.length:Int)),h2l,⟨⟨aa,aa,aa,aa,aa,aa,aa,aa,aa,aa,trivial⟩,Pick.refl _⟩⟩
theorem ref07_Parts_ok (x1 x2 x3:List (List UInt8)) (r:(List ApiChunk)) (h:ref07_Parts x1 x2 x3=some r):FnP Tryz.prog 43 [af ab x1,af ab x2,af ab x3] (af ao r):=by
 refine a7 (n:=23) (rs:=[6]) Tryz.func43 rfl Tryz.ntmps43 ⟨by decide,Tryz.results43⟩ (by decide) (fun s0=> ?_)
 unfold ref07_Parts at h
 refine W_rs ?_
 refine rq (out:=Pr.is (.slice none 0 0)) ae ?_
 refine W_rs ?_
 refine rq (out:=af ab x1) ag ?_
 refine rq (out:=af ab x2) ag ?_
 refine rq (out:=af ab x3) ag ?_
 refine rq (out:=af (ai ab) ([x1,x2,x3]:List (List (List UInt8)))) (fm (R:=ai ab) (ls:=([x1,x2,x3]:List (List (List UInt8)))) el78 (Nat.le_of_ble_eq_true rfl) ⟨rfl,rfl⟩ ⟨rfl,rfl,rfl,trivial⟩) ?_
 obtain⟨x4,hx4,h⟩:=ah h
 refine rq (out:=af (ai (Rp.int .i64)) x4) (br (ref05_Numbers_ok ([x1,x2,x3]:List (List (List UInt8))) _ hx4)) ?_
 refine rq (out:=af (ai (Rp.int .i64)) x4) ae ?_
 refine bg (fun e C=>∃(x8:List ApiChunk),ref07_Parts_j1 x8=some r/\At [(6,af ao x8)] [] e C) ?_ ?_
 ·rintro e C ⟨x8,h,hat1⟩
  refine W_at hat1 ?_
  clear hat1
  unfold ref07_Parts_j1 at h
  obtain rfl:=Option.some.inj h
  exact bb ⟨rfl,aa⟩
 refine ei 11 hmx (by kernel_rfl) (by kernel_rfl) ?_
 refine qq (out:=af (ai (Rp.int .i64)) x4) ag ?_
 obtain⟨x5,hx5,h⟩:=ah h
 refine qq (out:=a5 (ai (Rp.int .i64)) x5) (cr (R:=ai (Rp.int .i64)) (l:=x4) Tryz.underlying87 Tryz.sizeOf90 hx5) ?_
 refine qq (out:=af (Rp.int .i64) x5) (bl (R:=ai (Rp.int .i64)) (a:=x5) ty90) ?_
 refine qq (out:=af (ai (Rp.int .i64)) x4) ag ?_
 obtain⟨x6,hx6,h⟩:=ah h
 refine qq (out:=a5 (ai (Rp.int .i64)) x6) (cr (R:=ai (Rp.int .i64)) (l:=x4) Tryz.underlying87 Tryz.sizeOf90 hx6) ?_
 refine qq (out:=af (Rp.int .i64) x6) (bl (R:=ai (Rp.int .i64)) (a:=x6) ty90) ?_
 refine qq (out:=af (ai (Rp.int .i64)) x4) ag ?_
 obtain⟨x7,hx7,h⟩:=ah h
 refine qq (out:=a5 (ai (Rp.int .i64)) x7) (cr (R:=ai (Rp.int .i64)) (l:=x4) Tryz.underlying87 Tryz.sizeOf90 hx7) ?_
 refine qq (out:=af (Rp.int .i64) x7) (bl (R:=ai (Rp.int .i64)) (a:=x7) ty90) ?_
 obtain⟨x8,hx8,h⟩:=ah h
 refine qq (out:=af ao x8) (br (ref07_Chunks_ok x5 x6 x7 _ hx8)) ?_
 refine qq (out:=af ao x8) ae ?_
 exact⟨x8,h,⟨⟨aa,trivial⟩,Pick.refl _⟩⟩
theorem ref01_Join_ok (x1:List (List UInt8)) (r:(List UInt8)) (h:ref01_Join x1=some r):FnP Tryz.prog 73 [af ab x1] (aj r):=by
 refine a7 (n:=18) (rs:=[2]) Tryz.func73 rfl Tryz.ntmps73 ⟨by decide,Tryz.results73⟩ (by decide) (fun s0=> ?_)
 unfold ref01_Join at h
 refine W_rs ?_
 refine rq (out:=aj []) ae ?_
 refine W_rs ?_
 refine rq (out:=aj []) ae ?_
 refine aw ?_
 refine W_rs ?_
 refine rq (out:=Pr.i64 0) ae ?_
 refine ar ?_
 obtain⟨z2l,hz2,h⟩:=ah h
 obtain⟨n2,hN2⟩:=a4 hz2
 clear hz2
 refine bp 0 (fun e C=>∃(x2:List UInt8),ref01_Join_k1 x2=some r/\At [(3,aj x2)] [] e C) ?_ ?_
 ·rintro e C ⟨x2,h,hat1⟩
  refine W_at hat1 ?_
  clear hat1
  unfold ref01_Join_k1 at h
  refine W_rs ?_
  refine rq (out:=aj x2) ag ?_
  refine rq (out:=aj x2) ae ?_
  obtain rfl:=Option.some.inj h
  exact bb ⟨rfl,aa⟩
 refine cd (fun m e C=>∃(x2:List UInt8),∃(x3:Int),cz (fun s=>iw x1 s.1 s.2) m (x2,x3)=some z2l/\At [(0,af ab x1),(3,aj x2),(4,Pr.i64 x3)] [] e C) n2 ⟨[],0,hN2,⟨⟨aa,aa,aa,trivial⟩,Pick.refl _⟩⟩ ?_
 clear hN2
 rintro m e C ⟨x2,x3,hN2,hatl2⟩
 refine W_at hatl2 ?_
 clear hatl2
 obtain⟨m2,w2l,rfl,h2l,hn2,ho2⟩:=ay hN2
 clear hN2
 replace h2l:iw x1 x2 x3=some w2l:=h2l
 unfold iw at h2l
 refine aw ?_
 refine W_rs ?_
 refine rq (out:=Pr.i64 x3) ag ?_
 refine rq (out:=af ab x1) ag ?_
 refine rq (out:=Pr.i64 (x1.length:Int)) (cl rfl Tryz.underlying33) ?_
 refine rq (out:=Pr.bool (decide (x3<(x1.length:Int)))) qInt ?_
 refine au (b:=decide (x3<(x1.length:Int))) rfl (fun hc6=> ?_) (fun hc6=> ?_)
 ·replace h2l:=iteT hc6 h2l
  refine av ?_
  refine aw ?_
  refine ar ?_
  refine W_r ?_
  refine rq (out:=aj x2) ag ?_
  refine rq (out:=af ab x1) ag ?_
  refine rq (out:=Pr.i64 x3) ag ?_
  obtain⟨x7,hx7,h2l⟩:=ah h2l
  refine rq (out:=a5 ab x7) (cr (R:=ab) (l:=x1) Tryz.underlying33 Tryz.sizeOf9 hx7) ?_
  refine rq (out:=aj x7) (bl (R:=ab) (a:=x7) ty9) ?_
  obtain⟨x8,hx8,h2l⟩:=ah h2l
  refine rq (out:=aj x8) (qCat' hx8) ?_
  refine rq (out:=aj x8) ae ?_
  refine W_r ?_
  refine rq (out:=Pr.i64 x3) ag ?_
  refine rq (out:=Pr.i64 (w64 (x3+1))) qInt ?_
  refine rq (out:=Pr.i64 (w64 (x3+1))) ae ?_
  exact⟨m2,Nat.lt_succ_self _,x8,w64 (x3+1),hn2 _ (Option.some.inj h2l).symm,⟨⟨aa,aa,aa,trivial⟩,Pick.refl _⟩⟩
 replace h2l:=iteF hc6 h2l
 refine bw ?_
 obtain rfl:=ho2 _ (Option.some.inj h2l).symm
 exact⟨x2,h,⟨⟨aa,trivial⟩,Pick.refl _⟩⟩
theorem ref08_parts_ok (x1 x2 x3:List (List UInt8)) (r:(List ApiPart)) (h:nr x1 x2 x3=some r):FnP Tryz.prog 62 [af ab x1,af ab x2,af ab x3] (af al r):=by
 refine a7 (n:=133) (rs:=[6]) Tryz.func62 rfl Tryz.ntmps62 ⟨by decide,Tryz.results62⟩ (by decide) (fun s0=> ?_)
 unfold nr at h
 refine W_rs ?_
 refine rq (out:=Pr.is (.slice none 0 0)) ae ?_
 refine W_rs ?_
 refine rq (out:=Pr.is (.slice none 0 0)) ae ?_
 refine W_rs ?_
 refine rq (out:=af ab x1) ag ?_
 refine rq (out:=af ab x2) ag ?_
 refine rq (out:=af ab x3) ag ?_
 obtain⟨x4,hx4,h⟩:=ah h
 refine rq (out:=af ao x4) (br (ref07_Parts_ok x1 x2 x3 _ hx4)) ?_
 refine rq (out:=af ao x4) ae ?_
 refine aw ?_
 refine W_rs ?_
 refine rq (out:=Pr.i64 0) ae ?_
 refine ar ?_
 obtain⟨z2l,hz2,h⟩:=ah h
 obtain⟨n2,hN2⟩:=a4 hz2
 clear hz2
 refine bp 0 (fun e C=>∃(x7:List ApiPart),∃(v5:Value),ref08_parts_k1 x7=some r/\At [(7,Pr.is v5)] [Own.vec v5 al x7 95] e C) ?_ ?_
 ·rintro e C ⟨x7,v5,h,hat1⟩
  refine W_at hat1 ?_
  clear hat1
  unfold ref08_parts_k1 at h
  refine W_rs ?_
  refine rq (out:=Pr.is v5) ag ?_
  refine rq (out:=Pr.is v5) ae ?_
  refine W_rel 0 [6] ?_ rfl ⟨rfl,trivial⟩
  obtain rfl:=Option.some.inj h
  exact bb ⟨rfl,aa⟩
 refine W_nil [7] al 95 (fun v43=> ?_) ⟨rfl,trivial⟩
 refine cd (fun m e C=>∃(x6:Int),∃(x7:List ApiPart),∃(v5:Value),cz (fun s=>gq x4 x1 x2 x3 s.1 s.2) m (x6,x7)=some z2l/\At [(0,af ab x1),(1,af ab x2),(2,af ab x3),(7,Pr.is v5),(8,af ao x4),(9,Pr.i64 x6)] [Own.vec v5 al x7 95] e C) n2 ⟨0,[],v43,hN2,⟨⟨aa,aa,aa,aa,aa,aa,trivial⟩,Pick.refl _⟩⟩ ?_
 clear hN2
 rintro m e C ⟨x6,x7,v5,hN2,hatl2⟩
 refine W_at hatl2 ?_
 clear hatl2
 obtain⟨m2,w2l,rfl,h2l,hn2,ho2⟩:=ay hN2
 clear hN2
 replace h2l:gq x4 x1 x2 x3 x6 x7=some w2l:=h2l
 unfold gq at h2l
 refine aw ?_
 refine W_rs ?_
 refine rq (out:=Pr.i64 x6) ag ?_
 refine rq (out:=af ao x4) ag ?_
 refine rq (out:=Pr.i64 (x4.length:Int)) (cl rfl Tryz.underlying66) ?_
 refine rq (out:=Pr.bool (decide (x6<(x4.length:Int)))) qInt ?_
 refine au (b:=decide (x6<(x4.length:Int))) rfl (fun hc11=> ?_) (fun hc11=> ?_)
 ·replace h2l:=iteT hc11 h2l
  refine av ?_
  refine bg (fun e C=>∃(x41:ApiPart),∃(x42:List ApiPart),∃(x12:ApiChunk),∃(v40:Value),∃(b13:Nat),∃(b14:Nat),kj x6 x41 x42 x12=some w2l/\At [(0,af ab x1),(1,af ab x2),(2,af ab x3),(7,Pr.is v40),(8,af ao x4),(9,Pr.i64 x6)] [Own.vec v40 al x42 95,Own.box b13 ao x12,Own.box b14 al x41] e C) ?_ ?_
  ·rintro e C ⟨x41,x42,x12,v40,b13,b14,h2l,hat3⟩
   refine W_at hat3 ?_
   clear hat3
   unfold kj at h2l
   refine W_r ?_
   refine rq (out:=Pr.i64 x6) ag ?_
   refine rq (out:=Pr.i64 (w64 (x6+1))) qInt ?_
   refine rq (out:=Pr.i64 (w64 (x6+1))) ae ?_
   exact⟨m2,Nat.lt_succ_self _,w64 (x6+1),x42,v40,hn2 _ (Option.some.inj h2l).symm,⟨⟨aa,aa,aa,aa,aa,aa,trivial⟩,Pick.of [0] rfl⟩⟩
  refine ar ?_
  refine W_rs ?_
  refine rq (out:=af ao x4) ag ?_
  refine rq (out:=Pr.i64 x6) ag ?_
  obtain⟨x12,hx12,h2l⟩:=ah h2l
  refine rq (out:=a5 ao x12) (cr (R:=ao) (l:=x4) Tryz.underlying66 Tryz.sizeOf71 hx12) ?_
  refine rq (out:=(ao).val x12) (bl (R:=ao) (a:=x12) ty71) ?_
  refine ml (R:=ao) (z:=(ApiChunk.mk 0 (ApiSpan.mk 0 0) (ApiSpan.mk 0 0) (ApiSpan.mk 0 0))) Tryz.zeroValue71 (fun _=>⟨_,⟨_,_,rfl,rfl,⟨_,_,rfl,⟨_,_,rfl,rfl,⟨_,_,rfl,rfl,rfl⟩⟩,⟨_,_,rfl,⟨_,_,rfl,rfl,⟨_,_,rfl,rfl,rfl⟩⟩,⟨_,_,rfl,⟨_,_,rfl,rfl,⟨_,_,rfl,rfl,rfl⟩⟩,rfl⟩⟩⟩⟩,rfl⟩) (fun b13=> ?_)
  refine ek (R:=ao) (R':=ao) (a:=(ApiChunk.mk 0 (ApiSpan.mk 0 0) (ApiSpan.mk 0 0) (ApiSpan.mk 0 0))) (y:=x12) 1 Tryz.sizeOf71 (Upd.refl _) ?_
  refine W_rs ?_
  refine rq (out:=ap b13 0) (ax fld71_0) ?_
  refine rq (out:=Pr.i64 x12.Kind) (a9 (R:=ao) (a:=x12) (R':=Rp.int .i64) 1 ty3 eb) ?_
  refine rq (out:=Pr.bool (x12.Kind==4)) qInt ?_
  refine rq (out:=(al).val (ApiPart.mk (x12.Kind==4) [] [] [])) (ja st95 ⟨(ApiPart.mk (x12.Kind==4) [] [] []),⟨_,rfl,rfl,fun j fd hj hf=>by match j,hj with| 0,h=>exact absurd rfl h| 1,_=>cases hf;rfl| 2,_=>cases hf;rfl| 3,_=>cases hf;rfl|_+4,_=>cases hf⟩,rfl⟩) ?_
  refine ml (R:=al) (z:=(ApiPart.mk false [] [] [])) Tryz.zeroValue95 (fun _=>⟨_,⟨_,_,rfl,rfl,⟨_,_,rfl,rfl,⟨_,_,rfl,rfl,⟨_,_,rfl,rfl,rfl⟩⟩⟩⟩,rfl⟩) (fun b14=> ?_)
  refine ek (R:=al) (R':=al) (a:=(ApiPart.mk false [] [] [])) (y:=(ApiPart.mk (x12.Kind==4) [] [] [])) 2 Tryz.sizeOf95 (Upd.refl _) ?_
  refine W_rs ?_
  refine rq (out:=af ab x1) ag ?_
  refine rq (out:=ap b13 1) (ax fld71_1) ?_
  refine rq (out:=ap b13 1) (ax fld69_0) ?_
  refine rq (out:=Pr.i64 x12.O.From) (a9 (R:=ao) (a:=x12) (R':=Rp.int .i64) 1 ty3 (iq.trans c5 (Nat.le_of_ble_eq_true rfl))) ?_
  refine rq (out:=ap b13 1) (ax fld71_1) ?_
  refine rq (out:=ap b13 2) (ax fld69_1) ?_
  refine rq (out:=Pr.i64 x12.O.To) (a9 (R:=ao) (a:=x12) (R':=Rp.int .i64) 1 ty3 (iq.trans dp (Nat.le_of_ble_eq_true rfl))) ?_
  obtain⟨x15,hx15,h2l⟩:=ah h2l
  refine rq (out:=af ab x15) (k6 Tryz.underlying33 Tryz.sizeOf9 hx15) ?_
  obtain⟨x16,hx16,h2l⟩:=ah h2l
  refine rq (out:=aj x16) (br (ref01_Join_ok x15 _ hx16)) ?_
  refine rq (out:=ap b14 1) (ax fld95_1) ?_
  refine ek (R:=al) (R':=ab) (a:=(ApiPart.mk (x12.Kind==4) [] [] [])) (y:=x16) 2 Tryz.sizeOf9 updApiPart_O ?_
  refine W_rs ?_
  refine rq (out:=af ab x2) ag ?_
  refine rq (out:=ap b13 3) (ax fld71_2) ?_
  refine rq (out:=ap b13 3) (ax fld69_0) ?_
  refine rq (out:=Pr.i64 x12.A.From) (a9 (R:=ao) (a:=x12) (R':=Rp.int .i64) 1 ty3 (fr.trans c5 (Nat.le_of_ble_eq_true rfl))) ?_
  refine rq (out:=ap b13 3) (ax fld71_2) ?_
  refine rq (out:=ap b13 4) (ax fld69_1) ?_
  refine rq (out:=Pr.i64 x12.A.To) (a9 (R:=ao) (a:=x12) (R':=Rp.int .i64) 1 ty3 (fr.trans dp (Nat.le_of_ble_eq_true rfl))) ?_
  obtain⟨x17,hx17,h2l⟩:=ah h2l
  refine rq (out:=af ab x17) (k6 Tryz.underlying33 Tryz.sizeOf9 hx17) ?_
  obtain⟨x18,hx18,h2l⟩:=ah h2l
  refine rq (out:=aj x18) (br (ref01_Join_ok x17 _ hx18)) ?_
  refine rq (out:=ap b14 2) (ax fld95_2) ?_
  refine ek (R:=al) (R':=ab) (a:={(ApiPart.mk (x12.Kind==4) [] [] [])with O:=x16}) (y:=x18) 2 Tryz.sizeOf9 updApiPart_A ?_
  refine W_rs ?_
  refine rq (out:=af ab x3) ag ?_
  refine rq (out:=ap b13 5) (ax fld71_3) ?_
  refine rq (out:=ap b13 5) (ax fld69_0) ?_
  refine rq (out:=Pr.i64 x12.B.From) (a9 (R:=ao) (a:=x12) (R':=Rp.int .i64) 1 ty3 (fq.trans c5 (Nat.le_of_ble_eq_true rfl))) ?_
  refine rq (out:=ap b13 5) (ax fld71_3) ?_
  refine rq (out:=ap b13 6) (ax fld69_1) ?_
  refine rq (out:=Pr.i64 x12.B.To) (a9 (R:=ao) (a:=x12) (R':=Rp.int .i64) 1 ty3 (fq.trans dp (Nat.le_of_ble_eq_true rfl))) ?_
  obtain⟨x19,hx19,h2l⟩:=ah h2l
  refine rq (out:=af ab x19) (k6 Tryz.underlying33 Tryz.sizeOf9 hx19) ?_
  obtain⟨x20,hx20,h2l⟩:=ah h2l
  refine rq (out:=aj x20) (br (ref01_Join_ok x19 _ hx20)) ?_
  refine rq (out:=ap b14 3) (ax fld95_3) ?_
  refine ek (R:=al) (R':=ab) (a:={{(ApiPart.mk (x12.Kind==4) [] [] [])with O:=x16} with A:=x18}) (y:=x20) 2 Tryz.sizeOf9 updApiPart_B ?_
  refine bg (fun e C=>∃(x22:ApiPart),kh x7 x6 x12 x22=some w2l/\At [(0,af ab x1),(1,af ab x2),(2,af ab x3),(7,Pr.is v5),(8,af ao x4),(9,Pr.i64 x6),(11,ap b14 0)] [Own.vec v5 al x7 95,Own.box b13 ao x12,Own.box b14 al x22] e C) ?_ ?_
  ·rintro e C ⟨x22,h2l,hat9⟩
   refine W_at hat9 ?_
   clear hat9
   unfold kh at h2l
   refine W_rs ?_
   refine rq (out:=Pr.is v5) ag ?_
   refine rq (out:=Pr.i64 (x7.length:Int)) (qLenV 0 rfl Tryz.underlying80) ?_
   refine rq (out:=Pr.i64 (x7.length:Int)) ae ?_
   refine bg (fun e C=>∃(x37:ApiPart),ki x7 x6 x12 x37=some w2l/\At [(0,af ab x1),(1,af ab x2),(2,af ab x3),(7,Pr.is v5),(8,af ao x4),(9,Pr.i64 x6),(11,ap b14 0)] [Own.vec v5 al x7 95,Own.box b13 ao x12,Own.box b14 al x37] e C) ?_ ?_
   ·rintro e C ⟨x37,h2l,hat4⟩
    refine W_at hat4 ?_
    clear hat4
    unfold ki at h2l
    refine W_r ?_
    refine rq (out:=Pr.is v5) ag ?_
    refine rq (out:=(al).val x37) (a9 (R:=al) (a:=x37) (R':=al) 2 ty95 (Sub.refl _)) ?_
    refine rq (out:=af al ([x37]:List ApiPart)) (bh (R:=al) (a:=x37) el80 (Nat.le_of_ble_eq_true rfl)) ?_
    obtain⟨x38,hx38,h2l⟩:=ah h2l
    refine cu 0 el80 hx38 (fun v39=> ?_)
    refine rq (out:=Pr.is v39) ae ?_
    exact⟨x37,x38,x12,v39,b13,b14,h2l,⟨⟨aa,aa,aa,aa,aa,aa,trivial⟩,Pick.refl _⟩⟩
   refine W_rs ?_
   refine rq (out:=ap b14 0) (ax fld95_0) ?_
   refine rq (out:=Pr.bool x22.Clash) (a9 (R:=al) (a:=x22) (R':=Rp.bool) 2 ty4 ig) ?_
   refine rq (out:=Pr.bool (!x22.Clash)) qNot ?_
   refine au (b:= !x22.Clash) rfl (fun hc23=> ?_) (fun hc23=> ?_)
   ·replace h2l:=iteT hc23 h2l
    refine W_rs ?_
    refine rq (out:=ap b14 2) (ax fld95_2) ?_
    refine rq (out:=aj x22.A) (a9 (R:=al) (a:=x22) (R':=ab) 2 ty9 jh) ?_
    refine rq (out:=ap b14 3) (ax fld95_3) ?_
    refine ek (R:=al) (R':=ab) (a:=x22) (y:=x22.A) 2 Tryz.sizeOf9 updApiPart_B ?_
    refine bg (fun e C=>∃(x26:Bool),mv x7 x22 x6 x12 x26=some w2l/\At [(0,af ab x1),(1,af ab x2),(2,af ab x3),(7,Pr.is v5),(8,af ao x4),(9,Pr.i64 x6),(11,ap b14 0),(12,Pr.i64 (x7.length:Int)),(85,Pr.bool x26)] [Own.vec v5 al x7 95,Own.box b13 ao x12,Own.box b14 al ({x22 with B:=x22.A})] e C) ?_ ?_
    ·rintro e C ⟨x26,h2l,hat8⟩
     refine W_at hat8 ?_
     clear hat8
     unfold mv at h2l
     refine au (b:=x26) rfl (fun hc27=> ?_) (fun hc27=> ?_)
     ·replace h2l:=iteT hc27 h2l
      refine bg (fun e C=>∃(x30:ApiPart),∃(x29:List UInt8),ref08_parts_j7 x7 x22 x6 x12 x30 x29=some w2l/\At [(0,af ab x1),(1,af ab x2),(2,af ab x3),(7,Pr.is v5),(8,af ao x4),(9,Pr.i64 x6),(11,ap b14 0),(12,Pr.i64 (x7.length:Int))] [Own.vec v5 al (List.set x7 (Int.toNat (w64 ((x7.length:Int) - 1))) ({x30 with O:=x29})) 95,Own.box b13 ao x12,Own.box b14 al ({x22 with B:=x22.A})] e C) ?_ ?_
      ·rintro e C ⟨x30,x29,h2l,hat7⟩
       refine W_at hat7 ?_
       clear hat7
       unfold ref08_parts_j7 at h2l
       refine bg (fun e C=>∃(x33:ApiPart),∃(x32:List UInt8),ref08_parts_j6 x7 x30 x29 x22 x6 x12 x33 x32=some w2l/\At [(0,af ab x1),(1,af ab x2),(2,af ab x3),(7,Pr.is v5),(8,af ao x4),(9,Pr.i64 x6),(11,ap b14 0),(12,Pr.i64 (x7.length:Int))] [Own.vec v5 al (List.set (List.set x7 (Int.toNat (w64 ((x7.length:Int) - 1))) ({x30 with O:=x29})) (Int.toNat (w64 ((x7.length:Int) - 1))) ({x33 with A:=x32})) 95,Own.box b13 ao x12,Own.box b14 al ({x22 with B:=x22.A})] e C) ?_ ?_
       ·rintro e C ⟨x33,x32,h2l,hat6⟩
        refine W_at hat6 ?_
        clear hat6
        unfold ref08_parts_j6 at h2l
        refine bg (fun e C=>∃(x36:ApiPart),∃(x35:List UInt8),ref08_parts_j5 x6 x22 x7 x30 x29 x33 x32 x12 x36 x35=some w2l/\At [(0,af ab x1),(1,af ab x2),(2,af ab x3),(7,Pr.is v5),(8,af ao x4),(9,Pr.i64 x6)] [Own.vec v5 al (List.set (List.set (List.set x7 (Int.toNat (w64 ((x7.length:Int) - 1))) ({x30 with O:=x29})) (Int.toNat (w64 ((x7.length:Int) - 1))) ({x33 with A:=x32})) (Int.toNat (w64 ((x7.length:Int) - 1))) ({x36 with B:=x35})) 95,Own.box b13 ao x12,Own.box b14 al ({x22 with B:=x22.A})] e C) ?_ ?_
        ·rintro e C ⟨x36,x35,h2l,hat5⟩
         refine W_at hat5 ?_
         clear hat5
         unfold ref08_parts_j5 at h2l
         refine bw ?_
         exact⟨{x22 with B:=x22.A},(List.set (List.set (List.set x7 (Int.toNat (w64 ((x7.length:Int) - 1))) ({x30 with O:=x29})) (Int.toNat (w64 ((x7.length:Int) - 1))) ({x33 with A:=x32})) (Int.toNat (w64 ((x7.length:Int) - 1))) ({x36 with B:=x35})),x12,v5,b13,b14,h2l,⟨⟨aa,aa,aa,aa,aa,aa,trivial⟩,Pick.refl _⟩⟩
        refine ei 14 hmx (by kernel_rfl) (by kernel_rfl) ?_
        refine qq (out:=Pr.is v5) ag ?_
        refine qq (out:=Pr.i64 (x7.length:Int)) ag ?_
        refine qq (out:=Pr.i64 (w64 ((x7.length:Int) - 1))) qInt ?_
        refine qq (out:=Pr.is v5) ag ?_
        refine qq (out:=Pr.i64 (x7.length:Int)) ag ?_
        refine qq (out:=Pr.i64 (w64 ((x7.length:Int) - 1))) qInt ?_
        obtain⟨x34,hx34,h2l⟩:=ah h2l
        refine qq (out:=cb v5 (Int.toNat (w64 ((x7.length:Int) - 1)) * (al).size)) (jb 0 (R:=al) (l:=(List.set (List.set x7 (Int.toNat (w64 ((x7.length:Int) - 1))) ({x30 with O:=x29})) (Int.toNat (w64 ((x7.length:Int) - 1))) ({x33 with A:=x32}))) Tryz.underlying80 Tryz.sizeOf95 hx34) ?_
        refine qq (out:=cb v5 ((Int.toNat (w64 ((x7.length:Int) - 1)) * (al).size)+3)) (qFieldV fld95_3) ?_
        refine qq (out:=aj x34.B) (jg (R:=al) (R':=ab) (l:=(List.set (List.set x7 (Int.toNat (w64 ((x7.length:Int) - 1))) ({x30 with O:=x29})) (Int.toNat (w64 ((x7.length:Int) - 1))) ({x33 with A:=x32}))) (a:=x34) (o:=3) 0 ty9 lh (Nat.le_of_ble_eq_true rfl) hx34 rfl) ?_
        refine qq (out:=ap b14 3) (ax fld95_3) ?_
        refine qq (out:=aj (({x22 with B:=x22.A}).B)) (a9 (R:=al) (a:={x22 with B:=x22.A}) (R':=ab) 2 ty9 lh) ?_
        obtain⟨x35,hx35,h2l⟩:=ah h2l
        refine qq (out:=aj x35) (qCat' hx35) ?_
        obtain⟨x36,hx36,h2l⟩:=ah h2l
        refine qq (out:=cb v5 (Int.toNat (w64 ((x7.length:Int) - 1)) * (al).size)) (jb 0 (R:=al) (l:=(List.set (List.set x7 (Int.toNat (w64 ((x7.length:Int) - 1))) ({x30 with O:=x29})) (Int.toNat (w64 ((x7.length:Int) - 1))) ({x33 with A:=x32}))) Tryz.underlying80 Tryz.sizeOf95 hx36) ?_
        refine qq (out:=cb v5 ((Int.toNat (w64 ((x7.length:Int) - 1)) * (al).size)+3)) (qFieldV fld95_3) ?_
        refine k5 (R:=al) (R':=ab) (l:=(List.set (List.set x7 (Int.toNat (w64 ((x7.length:Int) - 1))) ({x30 with O:=x29})) (Int.toNat (w64 ((x7.length:Int) - 1))) ({x33 with A:=x32}))) (a:=x36) (y:=x35) (o:=3) 0 Tryz.sizeOf9 updApiPart_B hx36 rfl ?_
        exact⟨x36,x35,h2l,⟨⟨aa,aa,aa,aa,aa,aa,trivial⟩,Pick.refl _⟩⟩
       refine ei 14 hmx (by kernel_rfl) (by kernel_rfl) ?_
       refine qq (out:=Pr.is v5) ag ?_
       refine qq (out:=Pr.i64 (x7.length:Int)) ag ?_
       refine qq (out:=Pr.i64 (w64 ((x7.length:Int) - 1))) qInt ?_
       refine qq (out:=Pr.is v5) ag ?_
       refine qq (out:=Pr.i64 (x7.length:Int)) ag ?_
       refine qq (out:=Pr.i64 (w64 ((x7.length:Int) - 1))) qInt ?_
       obtain⟨x31,hx31,h2l⟩:=ah h2l
       refine qq (out:=cb v5 (Int.toNat (w64 ((x7.length:Int) - 1)) * (al).size)) (jb 0 (R:=al) (l:=(List.set x7 (Int.toNat (w64 ((x7.length:Int) - 1))) ({x30 with O:=x29}))) Tryz.underlying80 Tryz.sizeOf95 hx31) ?_
       refine qq (out:=cb v5 ((Int.toNat (w64 ((x7.length:Int) - 1)) * (al).size)+2)) (qFieldV fld95_2) ?_
       refine qq (out:=aj x31.A) (jg (R:=al) (R':=ab) (l:=(List.set x7 (Int.toNat (w64 ((x7.length:Int) - 1))) ({x30 with O:=x29}))) (a:=x31) (o:=2) 0 ty9 jh (Nat.le_of_ble_eq_true rfl) hx31 rfl) ?_
       refine qq (out:=ap b14 2) (ax fld95_2) ?_
       refine qq (out:=aj (({x22 with B:=x22.A}).A)) (a9 (R:=al) (a:={x22 with B:=x22.A}) (R':=ab) 2 ty9 jh) ?_
       obtain⟨x32,hx32,h2l⟩:=ah h2l
       refine qq (out:=aj x32) (qCat' hx32) ?_
       obtain⟨x33,hx33,h2l⟩:=ah h2l
       refine qq (out:=cb v5 (Int.toNat (w64 ((x7.length:Int) - 1)) * (al).size)) (jb 0 (R:=al) (l:=(List.set x7 (Int.toNat (w64 ((x7.length:Int) - 1))) ({x30 with O:=x29}))) Tryz.underlying80 Tryz.sizeOf95 hx33) ?_
       refine qq (out:=cb v5 ((Int.toNat (w64 ((x7.length:Int) - 1)) * (al).size)+2)) (qFieldV fld95_2) ?_
       refine k5 (R:=al) (R':=ab) (l:=(List.set x7 (Int.toNat (w64 ((x7.length:Int) - 1))) ({x30 with O:=x29}))) (a:=x33) (y:=x32) (o:=2) 0 Tryz.sizeOf9 updApiPart_A hx33 rfl ?_
       exact⟨x33,x32,h2l,⟨⟨aa,aa,aa,aa,aa,aa,aa,aa,trivial⟩,Pick.refl _⟩⟩
      refine ei 14 hmx (by kernel_rfl) (by kernel_rfl) ?_
      refine qq (out:=Pr.is v5) ag ?_
      refine qq (out:=Pr.i64 (x7.length:Int)) ag ?_
      refine qq (out:=Pr.i64 (w64 ((x7.length:Int) - 1))) qInt ?_
      refine qq (out:=Pr.is v5) ag ?_
      refine qq (out:=Pr.i64 (x7.length:Int)) ag ?_
      refine qq (out:=Pr.i64 (w64 ((x7.length:Int) - 1))) qInt ?_
      obtain⟨x28,hx28,h2l⟩:=ah h2l
      refine qq (out:=cb v5 (Int.toNat (w64 ((x7.length:Int) - 1)) * (al).size)) (jb 0 (R:=al) (l:=x7) Tryz.underlying80 Tryz.sizeOf95 hx28) ?_
      refine qq (out:=cb v5 ((Int.toNat (w64 ((x7.length:Int) - 1)) * (al).size)+1)) (qFieldV fld95_1) ?_
      refine qq (out:=aj x28.O) (jg (R:=al) (R':=ab) (l:=x7) (a:=x28) (o:=1) 0 ty9 subApiPart_O (Nat.le_of_ble_eq_true rfl) hx28 rfl) ?_
      refine qq (out:=ap b14 1) (ax fld95_1) ?_
      refine qq (out:=aj (({x22 with B:=x22.A}).O)) (a9 (R:=al) (a:={x22 with B:=x22.A}) (R':=ab) 2 ty9 subApiPart_O) ?_
      obtain⟨x29,hx29,h2l⟩:=ah h2l
      refine qq (out:=aj x29) (qCat' hx29) ?_
      obtain⟨x30,hx30,h2l⟩:=ah h2l
      refine qq (out:=cb v5 (Int.toNat (w64 ((x7.length:Int) - 1)) * (al).size)) (jb 0 (R:=al) (l:=x7) Tryz.underlying80 Tryz.sizeOf95 hx30) ?_
      refine qq (out:=cb v5 ((Int.toNat (w64 ((x7.length:Int) - 1)) * (al).size)+1)) (qFieldV fld95_1) ?_
      refine k5 (R:=al) (R':=ab) (l:=x7) (a:=x30) (y:=x29) (o:=1) 0 Tryz.sizeOf9 updApiPart_O hx30 rfl ?_
      exact⟨x30,x29,h2l,⟨⟨aa,aa,aa,aa,aa,aa,aa,aa,trivial⟩,Pick.refl _⟩⟩
     replace h2l:=iteF hc27 h2l
     refine av ?_
     exact⟨{x22 with B:=x22.A},h2l,⟨⟨aa,aa,aa,aa,aa,aa,aa,trivial⟩,Pick.refl _⟩⟩
    refine W_r ?_
    refine rq (out:=Pr.i64 (x7.length:Int)) ag ?_
    refine rq (out:=Pr.bool (decide ((x7.length:Int)>0))) qInt ?_
    refine rq (out:=Pr.bool (decide ((x7.length:Int)>0))) ag ?_
    rcases bc h2l with⟨hc24,h2l⟩|⟨hc24,h2l⟩
    ·refine rqg hc24 (out:=Pr.is v5) ag ?_
     refine rqg hc24 (out:=Pr.i64 (x7.length:Int)) ag ?_
     refine rqg hc24 (out:=Pr.i64 (w64 ((x7.length:Int) - 1))) qInt ?_
     obtain⟨x25,hx25,h2l⟩:=ah h2l
     refine rqg hc24 (out:=cb v5 (Int.toNat (w64 ((x7.length:Int) - 1)) * (al).size)) (jb 0 (R:=al) (l:=x7) Tryz.underlying80 Tryz.sizeOf95 hx25) ?_
     refine rqg hc24 (out:=cb v5 ((Int.toNat (w64 ((x7.length:Int) - 1)) * (al).size)+0)) (qFieldV fld95_0) ?_
     refine rqg hc24 (out:=Pr.bool x25.Clash) (jg (R:=al) (R':=Rp.bool) (l:=x7) (a:=x25) (o:=0) 0 ty4 ig (Nat.le_of_ble_eq_true rfl) hx25 rfl) ?_
     refine rqg hc24 (out:=Pr.bool (!x25.Clash)) qNot ?_
     refine rq (out:=Pr.bool (!x25.Clash)) (bo hc24) ?_
     exact⟨!x25.Clash,h2l,⟨⟨aa,aa,aa,aa,aa,aa,aa,aa,aa,trivial⟩,Pick.refl _⟩⟩
    refine rno (neT hc24) ?_
    refine rno (neT hc24) ?_
    refine rno (neT hc24) ?_
    refine rno (neT hc24) ?_
    refine rno (neT hc24) ?_
    refine rno (neT hc24) ?_
    refine rno (neT hc24) ?_
    refine rq (out:=Pr.bool false) (az hc24) ?_
    exact⟨false,h2l,⟨⟨aa,aa,aa,aa,aa,aa,aa,aa,aa,trivial⟩,Pick.refl _⟩⟩
   replace h2l:=iteF hc23 h2l
   refine av ?_
   exact⟨x22,h2l,⟨⟨aa,aa,aa,aa,aa,aa,aa,trivial⟩,Pick.refl _⟩⟩
  refine W_rs ?_
  refine rq (out:=ap b13 0) (ax fld71_0) ?_
  refine rq (out:=Pr.i64 x12.Kind) (a9 (R:=ao) (a:=x12) (R':=Rp.int .i64) 1 ty3 eb) ?_
  refine rq (out:=Pr.bool (x12.Kind==2)) qInt ?_
  refine au (b:=x12.Kind==2) rfl (fun hc21=> ?_) (fun hc21=> ?_)
  ·replace h2l:=iteT hc21 h2l
   refine W_r ?_
   refine rq (out:=ap b14 3) (ax fld95_3) ?_
   refine rq (out:=aj (({{{(ApiPart.mk (x12.Kind==4) [] [] [])with O:=x16} with A:=x18} with B:=x20}).B)) (a9 (R:=al) (a:={{{(ApiPart.mk (x12.Kind==4) [] [] [])with O:=x16} with A:=x18} with B:=x20}) (R':=ab) 2 ty9 lh) ?_
   refine rq (out:=ap b14 2) (ax fld95_2) ?_
   refine ek (R:=al) (R':=ab) (a:={{{(ApiPart.mk (x12.Kind==4) [] [] [])with O:=x16} with A:=x18} with B:=x20}) (y:=({{{(ApiPart.mk (x12.Kind==4) [] [] [])with O:=x16} with A:=x18} with B:=x20}).B) 2 Tryz.sizeOf9 updApiPart_A ?_
   exact⟨{{{{(ApiPart.mk (x12.Kind==4) [] [] [])with O:=x16} with A:=x18} with B:=x20} with A:=({{{(ApiPart.mk (x12.Kind==4) [] [] [])with O:=x16} with A:=x18} with B:=x20}).B},h2l,⟨⟨aa,aa,aa,aa,aa,aa,aa,trivial⟩,Pick.refl _⟩⟩
  replace h2l:=iteF hc21 h2l
  refine av ?_
  exact⟨{{{(ApiPart.mk (x12.Kind==4) [] [] [])with O:=x16} with A:=x18} with B:=x20},h2l,⟨⟨aa,aa,aa,aa,aa,aa,aa,trivial⟩,Pick.refl _⟩⟩
 replace h2l:=iteF hc11 h2l
 refine bw ?_
 obtain rfl:=ho2 _ (Option.some.inj h2l).symm
 exact⟨x7,v5,h,⟨⟨aa,trivial⟩,Pick.refl _⟩⟩
theorem ref08_Tokens_ok (x1 x2 x3:List UInt8) (r:(List ApiPart) × Bool) (h:ref08_Tokens x1 x2 x3=some r):FnP Tryz.prog 48 [aj x1,aj x2,aj x3] (bn [af al r.1,Pr.bool r.2]):=by
 refine a7 (n:=43) (rs:=[6,7]) Tryz.func48 rfl Tryz.ntmps48 ⟨by decide,Tryz.results48⟩ (by decide) (fun s0=> ?_)
 unfold ref08_Tokens at h
 refine W_rs ?_
 refine rq (out:=Pr.is (.slice none 0 0)) ae ?_
 refine rq (out:=Pr.bool false) ae ?_
 refine W_rs ?_
 refine rq (out:=aj x1) ag ?_
 obtain⟨⟨x4,x5⟩,hx4,h⟩:=ah h
 refine rq (out:=bn [af ab x4,Pr.bool x5]) (br (ref08_Units_ok x1 _ hx4)) ?_
 refine rq (out:=bn [af ab x4,Pr.bool x5]) ag ?_
 refine rq (out:=af ab x4) a6 ?_
 refine rq (out:=Pr.bool x5) a6 ?_
 refine rq (out:=af ab x4) ae ?_
 refine rq (out:=Pr.bool x5) ae ?_
 refine W_rs ?_
 refine rq (out:=aj x2) ag ?_
 obtain⟨⟨x6,x7⟩,hx6,h⟩:=ah h
 refine rq (out:=bn [af ab x6,Pr.bool x7]) (br (ref08_Units_ok x2 _ hx6)) ?_
 refine rq (out:=bn [af ab x6,Pr.bool x7]) ag ?_
 refine rq (out:=af ab x6) a6 ?_
 refine rq (out:=Pr.bool x7) a6 ?_
 refine rq (out:=af ab x6) ae ?_
 refine rq (out:=Pr.bool x7) ae ?_
 refine W_rs ?_
 refine rq (out:=aj x3) ag ?_
 obtain⟨⟨x8,x9⟩,hx8,h⟩:=ah h
 refine rq (out:=bn [af ab x8,Pr.bool x9]) (br (ref08_Units_ok x3 _ hx8)) ?_
 refine rq (out:=bn [af ab x8,Pr.bool x9]) ag ?_
 refine rq (out:=af ab x8) a6 ?_
 refine rq (out:=Pr.bool x9) a6 ?_
 refine rq (out:=af ab x8) ae ?_
 refine rq (out:=Pr.bool x9) ae ?_
 refine aw ?_
 refine bg (fun e C=>∃(x13:Bool),jc x4 x6 x8 x13=some r/\At [(8,af ab x4),(10,af ab x6),(12,af ab x8),(38,Pr.bool x13)] [] e C) ?_ ?_
 ·rintro e C ⟨x13,h,hat1⟩
  refine W_at hat1 ?_
  clear hat1
  unfold jc at h
  refine au (b:=x13) rfl (fun hc14=> ?_) (fun hc14=> ?_)
  ·replace h:=iteT hc14 h
   refine W_rs ?_
   refine rq (out:=Pr.is (.slice none 0 0)) ae ?_
   refine rq (out:=Pr.bool false) ae ?_
   obtain rfl:=Option.some.inj h
   exact bb ⟨rfl,tup_le ⟨fk _,aa,trivial⟩⟩
  replace h:=iteF hc14 h
  refine av ?_
  refine W_rs ?_
  refine rq (out:=af ab x4) ag ?_
  refine rq (out:=af ab x6) ag ?_
  refine rq (out:=af ab x8) ag ?_
  obtain⟨x15,hx15,h⟩:=ah h
  refine rq (out:=af al x15) (br (ref08_parts_ok x4 x6 x8 _ hx15)) ?_
  refine rq (out:=af al x15) ae ?_
  refine rq (out:=Pr.bool true) ae ?_
  obtain rfl:=Option.some.inj h
  exact bb ⟨rfl,aa⟩
 refine W_r ?_
 refine rq (out:=Pr.bool x5) ag ?_
 refine rq (out:=Pr.bool (!x5)) qNot ?_
 refine rq (out:=Pr.bool (!x5)) ag ?_
 rcases bc h with⟨hc10,h⟩|⟨hc10,h⟩
 ·refine rno (neF hc10) ?_
  refine rno (neF hc10) ?_
  refine rq (out:=Pr.bool true) (bo hc10) ?_
  refine rq (out:=Pr.bool true) ag ?_
  have hc12:true=true:=rfl
  refine rno (neF hc12) ?_
  refine rno (neF hc12) ?_
  refine rq (out:=Pr.bool true) (bo hc12) ?_
  exact⟨true,h,⟨⟨aa,aa,aa,aa,trivial⟩,Pick.refl _⟩⟩
 refine rqg hc10 (out:=Pr.bool x7) ag ?_
 refine rqg hc10 (out:=Pr.bool (!x7)) qNot ?_
 refine rq (out:=Pr.bool (!x7)) (az hc10) ?_
 refine rq (out:=Pr.bool (!x7)) ag ?_
 rcases bc h with⟨hc11,h⟩|⟨hc11,h⟩
 ·refine rno (neF hc11) ?_
  refine rno (neF hc11) ?_
  refine rq (out:=Pr.bool true) (bo hc11) ?_
  exact⟨true,h,⟨⟨aa,aa,aa,aa,trivial⟩,Pick.refl _⟩⟩
 refine rqg hc11 (out:=Pr.bool x9) ag ?_
 refine rqg hc11 (out:=Pr.bool (!x9)) qNot ?_
 refine rq (out:=Pr.bool (!x9)) (az hc11) ?_
 exact⟨!x9,h,⟨⟨aa,aa,aa,aa,trivial⟩,Pick.refl _⟩⟩
theorem ref08_Join_ok (x1:List ApiPart) (r:(List UInt8) × Bool) (h:ref08_Join x1=some r):FnP Tryz.prog 49 [af al x1] (bn [aj r.1,Pr.bool r.2]):=by
 refine a7 (n:=25) (rs:=[2,3]) Tryz.func49 rfl Tryz.ntmps49 ⟨by decide,Tryz.results49⟩ (by decide) (fun s0=> ?_)
 unfold ref08_Join at h
 refine W_rs ?_
 refine rq (out:=aj []) ae ?_
 refine rq (out:=Pr.bool false) ae ?_
 refine W_rs ?_
 refine rq (out:=aj []) ae ?_
 refine aw ?_
 refine W_rs ?_
 refine rq (out:=Pr.i64 0) ae ?_
 refine ar ?_
 obtain⟨z2l,hz2,h⟩:=ah h
 obtain⟨n2,hN2⟩:=a4 hz2
 clear hz2
 refine bp 0 (fun e C=>∃(x2:List UInt8),ref08_Join_k1 x2=some r/\At [(4,aj x2)] [] e C) ?_ ?_
 ·rintro e C ⟨x2,h,hat1⟩
  refine W_at hat1 ?_
  clear hat1
  unfold ref08_Join_k1 at h
  refine W_rs ?_
  refine rq (out:=aj x2) ag ?_
  refine rq (out:=aj x2) ae ?_
  refine rq (out:=Pr.bool true) ae ?_
  obtain rfl:=Option.some.inj h
  exact bb ⟨rfl,aa⟩
 refine cd (fun m e C=>∃(x2:List UInt8),∃(x3:Int),cz (fun s=>gi x1 s.1 s.2) m (x2,x3)=some z2l/\At [(0,af al x1),(4,aj x2),(5,Pr.i64 x3)] [] e C) n2 ⟨[],0,hN2,⟨⟨aa,aa,aa,trivial⟩,Pick.refl _⟩⟩ ?_
 clear hN2
 rintro m e C ⟨x2,x3,hN2,hatl2⟩
 refine W_at hatl2 ?_
 clear hatl2
 obtain⟨m2,w2l,rfl,h2l,hn2,ho2⟩:=ay hN2
 clear hN2
 replace h2l:gi x1 x2 x3=some w2l:=h2l
 unfold gi at h2l
 refine aw ?_
 refine W_rs ?_
 refine rq (out:=Pr.i64 x3) ag ?_
 refine rq (out:=af al x1) ag ?_
 refine rq (out:=Pr.i64 (x1.length:Int)) (cl rfl Tryz.underlying80) ?_
 refine rq (out:=Pr.bool (decide (x3<(x1.length:Int)))) qInt ?_
 refine au (b:=decide (x3<(x1.length:Int))) rfl (fun hc6=> ?_) (fun hc6=> ?_)
 ·replace h2l:=iteT hc6 h2l
  refine av ?_
  refine aw ?_
  refine ar ?_
  refine aw ?_
  refine W_rs ?_
  refine rq (out:=af al x1) ag ?_
  refine rq (out:=Pr.i64 x3) ag ?_
  obtain⟨x7,hx7,h2l⟩:=ah h2l
  refine rq (out:=a5 al x7) (cr (R:=al) (l:=x1) Tryz.underlying80 Tryz.sizeOf95 hx7) ?_
  refine rq (out:=a5 Rp.bool x7.Clash) (qFieldC (R:=al) (a:=x7) fld95_0 ig) ?_
  refine rq (out:=Pr.bool x7.Clash) (bl (R:=Rp.bool) (a:=x7.Clash) ty4) ?_
  refine au (b:=x7.Clash) rfl (fun hc8=> ?_) (fun hc8=> ?_)
  ·replace h2l:=iteT hc8 h2l
   refine W_rs ?_
   refine rq (out:=aj []) ae ?_
   refine rq (out:=Pr.bool false) ae ?_
   obtain rfl:=ho2 _ (Option.some.inj h2l).symm
   replace h:some ([],false)=some r:=h
   obtain rfl:=Option.some.inj h
   exact bb ⟨rfl,aa⟩
  replace h2l:=iteF hc8 h2l
  refine av ?_
  refine W_r ?_
  refine rq (out:=aj x2) ag ?_
  refine rq (out:=af al x1) ag ?_
  refine rq (out:=Pr.i64 x3) ag ?_
  obtain⟨x9,hx9,h2l⟩:=ah h2l
  refine rq (out:=a5 al x9) (cr (R:=al) (l:=x1) Tryz.underlying80 Tryz.sizeOf95 hx9) ?_
  refine rq (out:=a5 ab x9.A) (qFieldC (R:=al) (a:=x9) fld95_2 jh) ?_
  refine rq (out:=aj x9.A) (bl (R:=ab) (a:=x9.A) ty9) ?_
  obtain⟨x10,hx10,h2l⟩:=ah h2l
  refine rq (out:=aj x10) (qCat' hx10) ?_
  refine rq (out:=aj x10) ae ?_
  refine W_r ?_
  refine rq (out:=Pr.i64 x3) ag ?_
  refine rq (out:=Pr.i64 (w64 (x3+1))) qInt ?_
  refine rq (out:=Pr.i64 (w64 (x3+1))) ae ?_
  exact⟨m2,Nat.lt_succ_self _,x10,w64 (x3+1),hn2 _ (Option.some.inj h2l).symm,⟨⟨aa,aa,aa,trivial⟩,Pick.refl _⟩⟩
 replace h2l:=iteF hc6 h2l
 refine bw ?_
 obtain rfl:=ho2 _ (Option.some.inj h2l).symm
 exact⟨x2,h,⟨⟨aa,trivial⟩,Pick.refl _⟩⟩
theorem ref01_Split_ok (x1:List UInt8) (r:(List (List UInt8))) (h:nu x1=some r):FnP Tryz.prog 63 [aj x1] (af ab r):=by
 refine a7 (n:=37) (rs:=[2]) Tryz.func63 rfl Tryz.ntmps63 ⟨by decide,Tryz.results63⟩ (by decide) (fun s0=> ?_)
 unfold nu at h
 refine W_rs ?_
 refine rq (out:=Pr.is (.slice none 0 0)) ae ?_
 refine W_rs ?_
 refine rq (out:=Pr.is (.slice none 0 0)) ae ?_
 refine W_rs ?_
 refine rq (out:=Pr.i64 0) ae ?_
 refine aw ?_
 refine W_rs ?_
 refine rq (out:=Pr.i64 0) ae ?_
 refine ar ?_
 obtain⟨z3l,hz3,h⟩:=ah h
 obtain⟨n3,hN3⟩:=a4 hz3
 clear hz3
 refine bp 0 (fun e C=>∃(x3:Int),∃(x5:List (List UInt8)),∃(v2:Value),mz x1 x3 x5=some r/\At [(0,aj x1),(3,Pr.is v2),(4,Pr.i64 x3)] [Own.vec v2 ab x5 9] e C) ?_ ?_
 ·rintro e C ⟨x3,x5,v2,h,hat2⟩
  refine W_at hat2 ?_
  clear hat2
  unfold mz at h
  refine bg (fun e C=>∃(x24:List (List UInt8)),∃(v23:Value),m0 x24=some r/\At [(3,Pr.is v23)] [Own.vec v23 ab x24 9] e C) ?_ ?_
  ·rintro e C ⟨x24,v23,h,hat1⟩
   refine W_at hat1 ?_
   clear hat1
   unfold m0 at h
   refine W_rs ?_
   refine rq (out:=Pr.is v23) ag ?_
   refine rq (out:=Pr.is v23) ae ?_
   refine W_rel 0 [2] ?_ rfl ⟨rfl,trivial⟩
   obtain rfl:=Option.some.inj h
   exact bb ⟨rfl,aa⟩
  refine W_rs ?_
  refine rq (out:=Pr.i64 x3) ag ?_
  refine rq (out:=aj x1) ag ?_
  refine rq (out:=Pr.i64 (x1.length:Int)) (qLenS rfl Tryz.underlying9) ?_
  refine rq (out:=Pr.bool (decide (x3<(x1.length:Int)))) qInt ?_
  refine au (b:=decide (x3<(x1.length:Int))) rfl (fun hc19=> ?_) (fun hc19=> ?_)
  ·replace h:=iteT hc19 h
   refine W_r ?_
   refine rq (out:=Pr.is v2) ag ?_
   refine rq (out:=aj x1) ag ?_
   refine rq (out:=Pr.i64 x3) ag ?_
   obtain⟨x20,hx20,h⟩:=ah h
   refine rq (out:=aj x20) (qSubL Tryz.underlying9 hx20) ?_
   refine rq (out:=af ab ([x20]:List (List UInt8))) (bh (R:=ab) (a:=x20) el33 (Nat.le_of_ble_eq_true rfl)) ?_
   obtain⟨x21,hx21,h⟩:=ah h
   refine cu 0 el33 hx21 (fun v22=> ?_)
   refine rq (out:=Pr.is v22) ae ?_
   exact⟨x21,v22,h,⟨⟨aa,trivial⟩,Pick.refl _⟩⟩
  replace h:=iteF hc19 h
  refine av ?_
  exact⟨x5,v2,h,⟨⟨aa,trivial⟩,Pick.refl _⟩⟩
 refine W_nil [3] ab 9 (fun v25=> ?_) ⟨rfl,trivial⟩
 refine cd (fun m e C=>∃(x3:Int),∃(x4:Int),∃(x5:List (List UInt8)),∃(v2:Value),cz (fun s=>d9 x1 s.1 s.2.1 s.2.2) m (x3,x4,x5)=some z3l/\At [(0,aj x1),(3,Pr.is v2),(4,Pr.i64 x3),(5,Pr.i64 x4)] [Own.vec v2 ab x5 9] e C) n3 ⟨0,0,[],v25,hN3,⟨⟨aa,aa,aa,aa,trivial⟩,Pick.refl _⟩⟩ ?_
 clear hN3
 rintro m e C ⟨x3,x4,x5,v2,hN3,hatl3⟩
 refine W_at hatl3 ?_
 clear hatl3
 obtain⟨m3,w3l,rfl,h3l,hn3,ho3⟩:=ay hN3
 clear hN3
 replace h3l:d9 x1 x3 x4 x5=some w3l:=h3l
 unfold d9 at h3l
 refine aw ?_
 refine W_rs ?_
 refine rq (out:=Pr.i64 x4) ag ?_
 refine rq (out:=aj x1) ag ?_
 refine rq (out:=Pr.i64 (x1.length:Int)) (qLenS rfl Tryz.underlying9) ?_
 refine rq (out:=Pr.bool (decide (x4<(x1.length:Int)))) qInt ?_
 refine au (b:=decide (x4<(x1.length:Int))) rfl (fun hc10=> ?_) (fun hc10=> ?_)
 ·replace h3l:=iteT hc10 h3l
  refine av ?_
  refine bg (fun e C=>∃(x17:Int),∃(x18:List (List UInt8)),∃(v16:Value),kq x4 x17 x18=some w3l/\At [(0,aj x1),(3,Pr.is v16),(4,Pr.i64 x17),(5,Pr.i64 x4)] [Own.vec v16 ab x18 9] e C) ?_ ?_
  ·rintro e C ⟨x17,x18,v16,h3l,hat4⟩
   refine W_at hat4 ?_
   clear hat4
   unfold kq at h3l
   refine W_r ?_
   refine rq (out:=Pr.i64 x4) ag ?_
   refine rq (out:=Pr.i64 (w64 (x4+1))) qInt ?_
   refine rq (out:=Pr.i64 (w64 (x4+1))) ae ?_
   exact⟨m3,Nat.lt_succ_self _,x17,w64 (x4+1),x18,v16,hn3 _ (Option.some.inj h3l).symm,⟨⟨aa,aa,aa,aa,trivial⟩,Pick.refl _⟩⟩
  refine ar ?_
  refine W_rs ?_
  refine rq (out:=aj x1) ag ?_
  refine rq (out:=Pr.i64 x4) ag ?_
  obtain⟨x11,hx11,h3l⟩:=ah h3l
  refine rq (out:=Pr.u8 x11) (qIdxS Tryz.underlying9 hx11) ?_
  refine rq (out:=Pr.bool (x11==10)) qInt ?_
  refine au (b:=x11==10) rfl (fun hc12=> ?_) (fun hc12=> ?_)
  ·replace h3l:=iteT hc12 h3l
   refine W_rs ?_
   refine rq (out:=Pr.is v2) ag ?_
   refine rq (out:=aj x1) ag ?_
   refine rq (out:=Pr.i64 x3) ag ?_
   refine rq (out:=Pr.i64 x4) ag ?_
   refine rq (out:=Pr.i64 (w64 (x4+1))) qInt ?_
   obtain⟨x13,hx13,h3l⟩:=ah h3l
   refine rq (out:=aj x13) (qSubLH Tryz.underlying9 hx13) ?_
   refine rq (out:=af ab ([x13]:List (List UInt8))) (bh (R:=ab) (a:=x13) el33 (Nat.le_of_ble_eq_true rfl)) ?_
   obtain⟨x14,hx14,h3l⟩:=ah h3l
   refine cu 0 el33 hx14 (fun v15=> ?_)
   refine rq (out:=Pr.is v15) ae ?_
   refine W_r ?_
   refine rq (out:=Pr.i64 x4) ag ?_
   refine rq (out:=Pr.i64 (w64 (x4+1))) qInt ?_
   refine rq (out:=Pr.i64 (w64 (x4+1))) ae ?_
   exact⟨w64 (x4+1),x14,v15,h3l,⟨⟨aa,aa,aa,aa,trivial⟩,Pick.refl _⟩⟩
  replace h3l:=iteF hc12 h3l
  refine av ?_
  exact⟨x3,x5,v2,h3l,⟨⟨aa,aa,aa,aa,trivial⟩,Pick.refl _⟩⟩
 replace h3l:=iteF hc10 h3l
 refine bw ?_
 obtain rfl:=ho3 _ (Option.some.inj h3l).symm
 exact⟨x3,x5,v2,h,⟨⟨aa,aa,aa,trivial⟩,Pick.refl _⟩⟩
theorem ref08_Lines_ok (x1 x2 x3:List UInt8) (r:(List ApiPart)) (h:ref08_Lines x1 x2 x3=some r):FnP Tryz.prog 50 [aj x1,aj x2,aj x3] (af al r):=by
 refine a7 (n:=14) (rs:=[6]) Tryz.func50 rfl Tryz.ntmps50 ⟨by decide,Tryz.results50⟩ (by decide) (fun s0=> ?_)
 unfold ref08_Lines at h
 refine W_rs ?_
 refine rq (out:=Pr.is (.slice none 0 0)) ae ?_
 refine W_rs ?_
 refine rq (out:=aj x1) ag ?_
 obtain⟨x4,hx4,h⟩:=ah h
 refine rq (out:=af ab x4) (br (ref01_Split_ok x1 _ hx4)) ?_
 refine rq (out:=aj x2) ag ?_
 obtain⟨x5,hx5,h⟩:=ah h
 refine rq (out:=af ab x5) (br (ref01_Split_ok x2 _ hx5)) ?_
 refine rq (out:=aj x3) ag ?_
 obtain⟨x6,hx6,h⟩:=ah h
 refine rq (out:=af ab x6) (br (ref01_Split_ok x3 _ hx6)) ?_
 obtain⟨x7,hx7,h⟩:=ah h
 refine rq (out:=af al x7) (br (ref08_parts_ok x4 x5 x6 _ hx7)) ?_
 refine rq (out:=af al x7) ae ?_
 obtain rfl:=Option.some.inj h
 exact bb ⟨rfl,aa⟩
theorem ref08_Text_ok (x1 x2 x3:List UInt8) (r:(List UInt8) × Bool) (h:ref08_Text x1 x2 x3=some r):FnP Tryz.prog 34 [aj x1,aj x2,aj x3] (bn [aj r.1,Pr.bool r.2]):=by
 refine a7 (n:=47) (rs:=[6,7]) Tryz.func34 rfl Tryz.ntmps34 ⟨by decide,Tryz.results34⟩ (by decide) (fun s0=> ?_)
 unfold ref08_Text at h
 refine W_rs ?_
 refine rq (out:=aj []) ae ?_
 refine rq (out:=Pr.bool false) ae ?_
 refine aw ?_
 refine W_rs ?_
 refine rq (out:=aj x2) ag ?_
 refine rq (out:=aj x1) ag ?_
 refine rq (out:=Pr.bool (x2==x1)) qStr ?_
 refine au (b:=x2==x1) rfl (fun hc4=> ?_) (fun hc4=> ?_)
 ·replace h:=iteT hc4 h
  refine W_rs ?_
  refine rq (out:=aj x3) ag ?_
  refine rq (out:=aj x3) ae ?_
  refine rq (out:=Pr.bool true) ae ?_
  obtain rfl:=Option.some.inj h
  exact bb ⟨rfl,aa⟩
 replace h:=iteF hc4 h
 refine av ?_
 refine aw ?_
 refine bg (fun e C=>∃(x6:Bool),iv x2 x1 x3 x6=some r/\At [(0,aj x1),(1,aj x2),(2,aj x3),(23,Pr.bool x6)] [] e C) ?_ ?_
 ·rintro e C ⟨x6,h,hat2⟩
  refine W_at hat2 ?_
  clear hat2
  unfold iv at h
  refine au (b:=x6) rfl (fun hc7=> ?_) (fun hc7=> ?_)
  ·replace h:=iteT hc7 h
   refine W_rs ?_
   refine rq (out:=aj x2) ag ?_
   refine rq (out:=aj x2) ae ?_
   refine rq (out:=Pr.bool true) ae ?_
   obtain rfl:=Option.some.inj h
   exact bb ⟨rfl,aa⟩
  replace h:=iteF hc7 h
  refine av ?_
  refine W_rs ?_
  refine rq (out:=aj x1) ag ?_
  refine rq (out:=aj x2) ag ?_
  refine rq (out:=aj x3) ag ?_
  obtain⟨⟨x8,x9⟩,hx8,h⟩:=ah h
  refine rq (out:=bn [af al x8,Pr.bool x9]) (br (ref08_Tokens_ok x1 x2 x3 _ hx8)) ?_
  refine rq (out:=bn [af al x8,Pr.bool x9]) ag ?_
  refine rq (out:=af al x8) a6 ?_
  refine rq (out:=Pr.bool x9) a6 ?_
  refine rq (out:=af al x8) ae ?_
  refine rq (out:=Pr.bool x9) ae ?_
  refine bg (fun e C=>l4 x1 x2 x3=some r/\At [(0,aj x1),(1,aj x2),(2,aj x3)] [] e C) ?_ ?_
  ·rintro e C ⟨h,hat1⟩
   refine W_at hat1 ?_
   clear hat1
   unfold l4 at h
   refine W_rs ?_
   refine rq (out:=aj x1) ag ?_
   refine rq (out:=aj x2) ag ?_
   refine rq (out:=aj x3) ag ?_
   obtain⟨x14,hx14,h⟩:=ah h
   refine rq (out:=af al x14) (br (ref08_Lines_ok x1 x2 x3 _ hx14)) ?_
   obtain⟨⟨x15,x16⟩,hx15,h⟩:=ah h
   refine rq (out:=bn [aj x15,Pr.bool x16]) (br (ref08_Join_ok x14 _ hx15)) ?_
   refine rq (out:=aj x15) a6 ?_
   refine rq (out:=Pr.bool x16) a6 ?_
   refine rq (out:=aj x15) ae ?_
   refine rq (out:=Pr.bool x16) ae ?_
   obtain rfl:=Option.some.inj h
   exact bb ⟨rfl,aa⟩
  refine W_rs ?_
  refine rq (out:=Pr.bool x9) ag ?_
  refine au (b:=x9) rfl (fun hc10=> ?_) (fun hc10=> ?_)
  ·replace h:=iteT hc10 h
   refine W_rs ?_
   refine rq (out:=af al x8) ag ?_
   obtain⟨⟨x11,x12⟩,hx11,h⟩:=ah h
   refine rq (out:=bn [aj x11,Pr.bool x12]) (br (ref08_Join_ok x8 _ hx11)) ?_
   refine rq (out:=bn [aj x11,Pr.bool x12]) ag ?_
   refine rq (out:=aj x11) a6 ?_
   refine rq (out:=Pr.bool x12) a6 ?_
   refine rq (out:=aj x11) ae ?_
   refine rq (out:=Pr.bool x12) ae ?_
   refine W_rs ?_
   refine rq (out:=Pr.bool x12) ag ?_
   refine au (b:=x12) rfl (fun hc13=> ?_) (fun hc13=> ?_)
   ·replace h:=iteT hc13 h
    refine W_rs ?_
    refine rq (out:=aj x11) ag ?_
    refine rq (out:=aj x11) ae ?_
    refine rq (out:=Pr.bool true) ae ?_
    obtain rfl:=Option.some.inj h
    exact bb ⟨rfl,aa⟩
   replace h:=iteF hc13 h
   refine av ?_
   exact⟨h,⟨⟨aa,aa,aa,trivial⟩,Pick.refl _⟩⟩
  replace h:=iteF hc10 h
  refine av ?_
  exact⟨h,⟨⟨aa,aa,aa,trivial⟩,Pick.refl _⟩⟩
 refine W_r ?_
 refine rq (out:=aj x3) ag ?_
 refine rq (out:=aj x1) ag ?_
 refine rq (out:=Pr.bool (x3==x1)) qStr ?_
 refine rq (out:=Pr.bool (x3==x1)) ag ?_
 rcases bc h with⟨hc5,h⟩|⟨hc5,h⟩
 ·refine rno (neF hc5) ?_
  refine rno (neF hc5) ?_
  refine rno (neF hc5) ?_
  refine rq (out:=Pr.bool true) (bo hc5) ?_
  exact⟨true,h,⟨⟨aa,aa,aa,aa,trivial⟩,Pick.refl _⟩⟩
 refine rqg hc5 (out:=aj x2) ag ?_
 refine rqg hc5 (out:=aj x3) ag ?_
 refine rqg hc5 (out:=Pr.bool (x2==x3)) qStr ?_
 refine rq (out:=Pr.bool (x2==x3)) (az hc5) ?_
 exact⟨x2==x3,h,⟨⟨aa,aa,aa,aa,trivial⟩,Pick.refl _⟩⟩
end Go.Proofs.YtphkaogfinjbjaaGreatDoor
