/- The code comes to what these functions say (printed by wip/gen/gen.py). -/
import Derived.Test.YtphkaogfinjbjaaGreatDoorZP4
import Derived.Test.YtphkaogfinjbjaaGreatDoorZT
set_option linter.unusedSimpArgs false
set_option linter.unusedVariables false
set_option linter.unusedSectionVars false
set_option linter.unusedSectionVars false
set_option maxRecDepth 100000
set_option maxHeartbeats 4000000
namespace Go.Proofs.YtphkaogfinjbjaaGreatDoor
open Go Go.Cn
variable [Known]
theorem ref30_Three_ok (x1 x2 x3:List UInt8) (x4 x5 x6:Bool) (r:(List UInt8) × Bool × Int) (h:ref30_Three x1 x2 x3 x4 x5 x6=some r):FnP Tryz.prog 17 [aj x1,aj x2,aj x3,Pr.bool x4,Pr.bool x5,Pr.bool x6] (bn [aj r.1,Pr.bool r.2.1,Pr.i64 r.2.2]):=by
 refine a7 (n:=69) (rs:=[12,13,14]) Tryz.func17 rfl Tryz.ntmps17 ⟨by decide,Tryz.results17⟩ (by decide) (fun s0=> ?_)
 unfold ref30_Three at h
 refine W_rs ?_
 refine rq (out:=aj []) ae ?_
 refine rq (out:=Pr.bool false) ae ?_
 refine rq (out:=Pr.i64 0) ae ?_
 refine bg (fun e C=>∃(x8:List UInt8),ref30_Three_j7 x5 x6 x4 x3 x2 x8=some r/\At [(0,aj x8),(1,aj x2),(2,aj x3),(3,Pr.bool x4),(4,Pr.bool x5),(5,Pr.bool x6)] [] e C) ?_ ?_
 ·rintro e C ⟨x8,h,hat7⟩
  refine W_at hat7 ?_
  clear hat7
  unfold ref30_Three_j7 at h
  refine bg (fun e C=>∃(x10:List UInt8),ref30_Three_j6 x6 x5 x4 x8 x3 x10=some r/\At [(0,aj x8),(1,aj x10),(2,aj x3),(3,Pr.bool x4),(4,Pr.bool x5),(5,Pr.bool x6)] [] e C) ?_ ?_
  ·rintro e C ⟨x10,h,hat6⟩
   refine W_at hat6 ?_
   clear hat6
   unfold ref30_Three_j6 at h
   refine bg (fun e C=>∃(x12:List UInt8),i5 x5 x6 x10 x4 x8 x12=some r/\At [(0,aj x8),(1,aj x10),(2,aj x12),(3,Pr.bool x4),(4,Pr.bool x5),(5,Pr.bool x6)] [] e C) ?_ ?_
   ·rintro e C ⟨x12,h,hat5⟩
    refine W_at hat5 ?_
    clear hat5
    unfold i5 at h
    refine aw ?_
    refine bg (fun e C=>∃(x14:Bool),gn x10 x5 x4 x12 x6 x8 x14=some r/\At [(0,aj x8),(1,aj x10),(2,aj x12),(3,Pr.bool x4),(4,Pr.bool x5),(5,Pr.bool x6),(30,Pr.bool x14)] [] e C) ?_ ?_
    ·rintro e C ⟨x14,h,hat4⟩
     refine W_at hat4 ?_
     clear hat4
     unfold gn at h
     refine au (b:=x14) rfl (fun hc15=> ?_) (fun hc15=> ?_)
     ·replace h:=iteT hc15 h
      refine W_rs ?_
      refine rq (out:=aj x10) ag ?_
      refine rq (out:=Pr.bool x5) ag ?_
      refine rq (out:=aj x10) ae ?_
      refine rq (out:=Pr.bool x5) ae ?_
      refine rq (out:=Pr.i64 0) ae ?_
      obtain rfl:=Option.some.inj h
      exact bb ⟨rfl,aa⟩
     replace h:=iteF hc15 h
     refine av ?_
     refine aw ?_
     refine bg (fun e C=>∃(x17:Bool),gp x12 x6 x4 x10 x5 x8 x17=some r/\At [(0,aj x8),(1,aj x10),(2,aj x12),(3,Pr.bool x4),(4,Pr.bool x5),(5,Pr.bool x6),(40,Pr.bool x17)] [] e C) ?_ ?_
     ·rintro e C ⟨x17,h,hat3⟩
      refine W_at hat3 ?_
      clear hat3
      unfold gp at h
      refine au (b:=x17) rfl (fun hc18=> ?_) (fun hc18=> ?_)
      ·replace h:=iteT hc18 h
       refine W_rs ?_
       refine rq (out:=aj x12) ag ?_
       refine rq (out:=Pr.bool x6) ag ?_
       refine rq (out:=aj x12) ae ?_
       refine rq (out:=Pr.bool x6) ae ?_
       refine rq (out:=Pr.i64 0) ae ?_
       obtain rfl:=Option.some.inj h
       exact bb ⟨rfl,aa⟩
      replace h:=iteF hc18 h
      refine av ?_
      refine aw ?_
      refine bg (fun e C=>∃(x20:Bool),i6 x10 x5 x8 x12 x6 x20=some r/\At [(0,aj x8),(1,aj x10),(2,aj x12),(4,Pr.bool x5),(5,Pr.bool x6),(50,Pr.bool x20)] [] e C) ?_ ?_
      ·rintro e C ⟨x20,h,hat2⟩
       refine W_at hat2 ?_
       clear hat2
       unfold i6 at h
       refine au (b:=x20) rfl (fun hc21=> ?_) (fun hc21=> ?_)
       ·replace h:=iteT hc21 h
        refine W_rs ?_
        refine rq (out:=aj x10) ag ?_
        refine rq (out:=Pr.bool x5) ag ?_
        refine rq (out:=aj x10) ae ?_
        refine rq (out:=Pr.bool x5) ae ?_
        refine rq (out:=Pr.i64 0) ae ?_
        obtain rfl:=Option.some.inj h
        exact bb ⟨rfl,aa⟩
       replace h:=iteF hc21 h
       refine av ?_
       refine aw ?_
       refine bg (fun e C=>∃(x23:Bool),mo x8 x10 x12 x23=some r/\At [(0,aj x8),(1,aj x10),(2,aj x12),(58,Pr.bool x23)] [] e C) ?_ ?_
       ·rintro e C ⟨x23,h,hat1⟩
        refine W_at hat1 ?_
        clear hat1
        unfold mo at h
        refine au (b:=x23) rfl (fun hc24=> ?_) (fun hc24=> ?_)
        ·replace h:=iteT hc24 h
         refine W_rs ?_
         refine rq (out:=aj []) ae ?_
         refine rq (out:=Pr.bool false) ae ?_
         refine rq (out:=Pr.i64 3) ae ?_
         obtain rfl:=Option.some.inj h
         exact bb ⟨rfl,aa⟩
        replace h:=iteF hc24 h
        refine av ?_
        refine W_rs ?_
        refine rq (out:=aj x8) ag ?_
        refine rq (out:=aj x10) ag ?_
        refine rq (out:=aj x12) ag ?_
        obtain⟨⟨x25,x26⟩,hx25,h⟩:=ah h
        refine rq (out:=bn [aj x25,Pr.bool x26]) (br (ref08_Text_ok x8 x10 x12 _ hx25)) ?_
        refine rq (out:=bn [aj x25,Pr.bool x26]) ag ?_
        refine rq (out:=aj x25) a6 ?_
        refine rq (out:=Pr.bool x26) a6 ?_
        refine rq (out:=aj x25) ae ?_
        refine rq (out:=Pr.bool x26) ae ?_
        refine aw ?_
        refine W_rs ?_
        refine rq (out:=Pr.bool x26) ag ?_
        refine rq (out:=Pr.bool (!x26)) qNot ?_
        refine au (b:= !x26) rfl (fun hc27=> ?_) (fun hc27=> ?_)
        ·replace h:=iteT hc27 h
         refine W_rs ?_
         refine rq (out:=aj []) ae ?_
         refine rq (out:=Pr.bool false) ae ?_
         refine rq (out:=Pr.i64 1) ae ?_
         obtain rfl:=Option.some.inj h
         exact bb ⟨rfl,aa⟩
        replace h:=iteF hc27 h
        refine av ?_
        refine W_rs ?_
        refine rq (out:=aj x25) ag ?_
        refine rq (out:=aj x25) ae ?_
        refine rq (out:=Pr.bool true) ae ?_
        refine rq (out:=Pr.i64 0) ae ?_
        obtain rfl:=Option.some.inj h
        exact bb ⟨rfl,aa⟩
       refine W_r ?_
       refine rq (out:=Pr.bool x5) ag ?_
       refine rq (out:=Pr.bool (!x5)) qNot ?_
       refine rq (out:=Pr.bool (!x5)) ag ?_
       rcases bc h with⟨hc22,h⟩|⟨hc22,h⟩
       ·refine rno (neF hc22) ?_
        refine rno (neF hc22) ?_
        refine rq (out:=Pr.bool true) (bo hc22) ?_
        exact⟨true,h,⟨⟨aa,aa,aa,aa,trivial⟩,Pick.refl _⟩⟩
       refine rqg hc22 (out:=Pr.bool x6) ag ?_
       refine rqg hc22 (out:=Pr.bool (!x6)) qNot ?_
       refine rq (out:=Pr.bool (!x6)) (az hc22) ?_
       exact⟨!x6,h,⟨⟨aa,aa,aa,aa,trivial⟩,Pick.refl _⟩⟩
      refine W_r ?_
      refine rq (out:=Pr.bool x6) ag ?_
      refine rq (out:=Pr.bool x4) ag ?_
      refine rq (out:=Pr.bool (x6==x4)) (qBoolEq Tryz.underlying4) ?_
      refine rq (out:=Pr.bool (x6==x4)) ag ?_
      rcases bc h with⟨hc19,h⟩|⟨hc19,h⟩
      ·refine rqg hc19 (out:=aj x12) ag ?_
       refine rqg hc19 (out:=aj x8) ag ?_
       refine rqg hc19 (out:=Pr.bool (x12==x8)) qStr ?_
       refine rq (out:=Pr.bool (x12==x8)) (bo hc19) ?_
       exact⟨x12==x8,h,⟨⟨aa,aa,aa,aa,aa,aa,trivial⟩,Pick.refl _⟩⟩
      refine rno (neT hc19) ?_
      refine rno (neT hc19) ?_
      refine rno (neT hc19) ?_
      refine rq (out:=Pr.bool false) (az hc19) ?_
      exact⟨false,h,⟨⟨aa,aa,aa,aa,aa,aa,trivial⟩,Pick.refl _⟩⟩
     refine W_r ?_
     refine rq (out:=Pr.bool x5) ag ?_
     refine rq (out:=Pr.bool x4) ag ?_
     refine rq (out:=Pr.bool (x5==x4)) (qBoolEq Tryz.underlying4) ?_
     refine rq (out:=Pr.bool (x5==x4)) ag ?_
     rcases bc h with⟨hc16,h⟩|⟨hc16,h⟩
     ·refine rqg hc16 (out:=aj x10) ag ?_
      refine rqg hc16 (out:=aj x8) ag ?_
      refine rqg hc16 (out:=Pr.bool (x10==x8)) qStr ?_
      refine rq (out:=Pr.bool (x10==x8)) (bo hc16) ?_
      exact⟨x10==x8,h,⟨⟨aa,aa,aa,aa,aa,aa,aa,trivial⟩,Pick.refl _⟩⟩
     refine rno (neT hc16) ?_
     refine rno (neT hc16) ?_
     refine rno (neT hc16) ?_
     refine rq (out:=Pr.bool false) (az hc16) ?_
     exact⟨false,h,⟨⟨aa,aa,aa,aa,aa,aa,aa,trivial⟩,Pick.refl _⟩⟩
    refine W_r ?_
    refine rq (out:=Pr.bool x5) ag ?_
    refine rq (out:=Pr.bool x6) ag ?_
    refine rq (out:=Pr.bool (x5==x6)) (qBoolEq Tryz.underlying4) ?_
    refine rq (out:=Pr.bool (x5==x6)) ag ?_
    rcases bc h with⟨hc13,h⟩|⟨hc13,h⟩
    ·refine rqg hc13 (out:=aj x10) ag ?_
     refine rqg hc13 (out:=aj x12) ag ?_
     refine rqg hc13 (out:=Pr.bool (x10==x12)) qStr ?_
     refine rq (out:=Pr.bool (x10==x12)) (bo hc13) ?_
     exact⟨x10==x12,h,⟨⟨aa,aa,aa,aa,aa,aa,aa,trivial⟩,Pick.refl _⟩⟩
    refine rno (neT hc13) ?_
    refine rno (neT hc13) ?_
    refine rno (neT hc13) ?_
    refine rq (out:=Pr.bool false) (az hc13) ?_
    exact⟨false,h,⟨⟨aa,aa,aa,aa,aa,aa,aa,trivial⟩,Pick.refl _⟩⟩
   refine W_rs ?_
   refine rq (out:=Pr.bool x6) ag ?_
   refine rq (out:=Pr.bool (!x6)) qNot ?_
   refine au (b:= !x6) rfl (fun hc11=> ?_) (fun hc11=> ?_)
   ·replace h:=iteT hc11 h
    refine W_r ?_
    refine rq (out:=aj []) ae ?_
    exact⟨[],h,⟨⟨aa,aa,aa,aa,aa,aa,trivial⟩,Pick.refl _⟩⟩
   replace h:=iteF hc11 h
   refine av ?_
   exact⟨x3,h,⟨⟨aa,aa,aa,aa,aa,aa,trivial⟩,Pick.refl _⟩⟩
  refine W_rs ?_
  refine rq (out:=Pr.bool x5) ag ?_
  refine rq (out:=Pr.bool (!x5)) qNot ?_
  refine au (b:= !x5) rfl (fun hc9=> ?_) (fun hc9=> ?_)
  ·replace h:=iteT hc9 h
   refine W_r ?_
   refine rq (out:=aj []) ae ?_
   exact⟨[],h,⟨⟨aa,aa,aa,aa,aa,aa,trivial⟩,Pick.refl _⟩⟩
  replace h:=iteF hc9 h
  refine av ?_
  exact⟨x2,h,⟨⟨aa,aa,aa,aa,aa,aa,trivial⟩,Pick.refl _⟩⟩
 refine W_rs ?_
 refine rq (out:=Pr.bool x4) ag ?_
 refine rq (out:=Pr.bool (!x4)) qNot ?_
 refine au (b:= !x4) rfl (fun hc7=> ?_) (fun hc7=> ?_)
 ·replace h:=iteT hc7 h
  refine W_r ?_
  refine rq (out:=aj []) ae ?_
  exact⟨[],h,⟨⟨aa,aa,aa,aa,aa,aa,trivial⟩,Pick.refl _⟩⟩
 replace h:=iteF hc7 h
 refine av ?_
 exact⟨x1,h,⟨⟨aa,aa,aa,aa,aa,aa,trivial⟩,Pick.refl _⟩⟩
theorem ref30_has_ok (x1:List (List UInt8)) (x2:List UInt8) (r:Bool) (h:ref30_has x1 x2=some r):FnP Tryz.prog 30 [af ab x1,aj x2] (Pr.bool r):=by
 refine a7 (n:=18) (rs:=[4]) Tryz.func30 rfl Tryz.ntmps30 ⟨by decide,Tryz.results30⟩ (by decide) (fun s0=> ?_)
 unfold ref30_has at h
 refine W_rs ?_
 refine rq (out:=Pr.bool false) ae ?_
 refine aw ?_
 refine W_rs ?_
 refine rq (out:=Pr.i64 0) ae ?_
 refine ar ?_
 obtain⟨z2l,hz2,h⟩:=ah h
 obtain⟨n2,hN2⟩:=a4 hz2
 clear hz2
 refine bp 0 (fun e C=>ref30_has_k1=some r/\At [] [] e C) ?_ ?_
 ·rintro e C ⟨h,hat1⟩
  refine W_at hat1 ?_
  clear hat1
  unfold ref30_has_k1 at h
  refine W_rs ?_
  refine rq (out:=Pr.bool false) ae ?_
  obtain rfl:=Option.some.inj h
  exact bb ⟨rfl,aa⟩
 refine cd (fun m e C=>∃(x3:Int),cz (fun s=>il x1 x2 s) m x3=some z2l/\At [(0,af ab x1),(1,aj x2),(5,Pr.i64 x3)] [] e C) n2 ⟨0,hN2,⟨⟨aa,aa,aa,trivial⟩,Pick.refl _⟩⟩ ?_
 clear hN2
 rintro m e C ⟨x3,hN2,hatl2⟩
 refine W_at hatl2 ?_
 clear hatl2
 obtain⟨m2,w2l,rfl,h2l,hn2,ho2⟩:=ay hN2
 clear hN2
 replace h2l:il x1 x2 x3=some w2l:=h2l
 unfold il at h2l
 refine aw ?_
 refine W_rs ?_
 refine rq (out:=Pr.i64 x3) ag ?_
 refine rq (out:=af ab x1) ag ?_
 refine rq (out:=Pr.i64 (x1.length:Int)) (cl rfl Tryz.underlying33) ?_
 refine rq (out:=Pr.bool (decide (x3<(x1.length:Int)))) qInt ?_
 refine au (b:=decide (x3<(x1.length:Int))) rfl (fun hc5=> ?_) (fun hc5=> ?_)
 ·replace h2l:=iteT hc5 h2l
  refine av ?_
  refine aw ?_
  refine ar ?_
  refine W_rs ?_
  refine rq (out:=af ab x1) ag ?_
  refine rq (out:=Pr.i64 x3) ag ?_
  obtain⟨x6,hx6,h2l⟩:=ah h2l
  refine rq (out:=a5 ab x6) (cr (R:=ab) (l:=x1) Tryz.underlying33 Tryz.sizeOf9 hx6) ?_
  refine rq (out:=aj x6) (bl (R:=ab) (a:=x6) ty9) ?_
  refine rq (out:=aj x2) ag ?_
  refine rq (out:=Pr.bool (x6==x2)) qStr ?_
  refine au (b:=x6==x2) rfl (fun hc7=> ?_) (fun hc7=> ?_)
  ·replace h2l:=iteT hc7 h2l
   refine W_rs ?_
   refine rq (out:=Pr.bool true) ae ?_
   obtain rfl:=ho2 _ (Option.some.inj h2l).symm
   replace h:some true=some r:=h
   obtain rfl:=Option.some.inj h
   exact bb ⟨rfl,aa⟩
  replace h2l:=iteF hc7 h2l
  refine av ?_
  refine W_r ?_
  refine rq (out:=Pr.i64 x3) ag ?_
  refine rq (out:=Pr.i64 (w64 (x3+1))) qInt ?_
  refine rq (out:=Pr.i64 (w64 (x3+1))) ae ?_
  exact⟨m2,Nat.lt_succ_self _,w64 (x3+1),hn2 _ (Option.some.inj h2l).symm,⟨⟨aa,aa,aa,trivial⟩,Pick.refl _⟩⟩
 replace h2l:=iteF hc5 h2l
 refine bw ?_
 obtain rfl:=ho2 _ (Option.some.inj h2l).symm
 exact⟨h,⟨trivial,Pick.refl _⟩⟩
theorem ref30_once_ok (x1:List (List UInt8)) (r:(List (List UInt8))) (h:ob x1=some r):FnC Tryz.prog 32 [af ab x1] [] (fun q C'=>∃u0,q=Pr.is u0/\C'=[Own.vec u0 ab r 9]):=by
 refine fj (n:=28) (rs:=[2]) Tryz.func32 rfl Tryz.ntmps32 ⟨by decide,Tryz.results32⟩ (by decide) (fun s0=> ?_)
 unfold ob at h
 refine W_rs ?_
 refine rq (out:=Pr.is (.slice none 0 0)) ae ?_
 refine W_rs ?_
 refine rq (out:=Pr.is (.slice none 0 0)) ae ?_
 refine aw ?_
 refine W_rs ?_
 refine rq (out:=Pr.i64 0) ae ?_
 refine ar ?_
 obtain⟨z2l,hz2,h⟩:=ah h
 obtain⟨n2,hN2⟩:=a4 hz2
 clear hz2
 refine bp 0 (fun e C=>∃(x4:List (List UInt8)),∃(v2:Value),ref30_once_k1 x4=some r/\At [(3,Pr.is v2)] [Own.vec v2 ab x4 9] e C) ?_ ?_
 ·rintro e C ⟨x4,v2,h,hat1⟩
  refine W_at hat1 ?_
  clear hat1
  unfold ref30_once_k1 at h
  refine W_rs ?_
  refine rq (out:=Pr.is v2) ag ?_
  refine rq (out:=Pr.is v2) ae ?_
  obtain rfl:=Option.some.inj h
  exact bb ⟨.inl rfl,_,Pick.refl _,_,(aa),v2,rfl,rfl⟩
 refine W_nil [3] ab 9 (fun v17=> ?_) ⟨rfl,trivial⟩
 refine cd (fun m e C=>∃(x3:Int),∃(x4:List (List UInt8)),∃(v2:Value),cz (fun s=>ir x1 s.1 s.2) m (x3,x4)=some z2l/\At [(0,af ab x1),(3,Pr.is v2),(4,Pr.i64 x3)] [Own.vec v2 ab x4 9] e C) n2 ⟨0,[],v17,hN2,⟨⟨aa,aa,aa,trivial⟩,Pick.refl _⟩⟩ ?_
 clear hN2
 rintro m e C ⟨x3,x4,v2,hN2,hatl2⟩
 refine W_at hatl2 ?_
 clear hatl2
 obtain⟨m2,w2l,rfl,h2l,hn2,ho2⟩:=ay hN2
 clear hN2
 replace h2l:ir x1 x3 x4=some w2l:=h2l
 unfold ir at h2l
 refine aw ?_
 refine W_rs ?_
 refine rq (out:=Pr.i64 x3) ag ?_
 refine rq (out:=af ab x1) ag ?_
 refine rq (out:=Pr.i64 (x1.length:Int)) (cl rfl Tryz.underlying33) ?_
 refine rq (out:=Pr.bool (decide (x3<(x1.length:Int)))) qInt ?_
 refine au (b:=decide (x3<(x1.length:Int))) rfl (fun hc8=> ?_) (fun hc8=> ?_)
 ·replace h2l:=iteT hc8 h2l
  refine av ?_
  refine bg (fun e C=>∃(x16:List (List UInt8)),∃(v15:Value),ref30_once_j3 x3 x16=some w2l/\At [(0,af ab x1),(3,Pr.is v15),(4,Pr.i64 x3)] [Own.vec v15 ab x16 9] e C) ?_ ?_
  ·rintro e C ⟨x16,v15,h2l,hat3⟩
   refine W_at hat3 ?_
   clear hat3
   unfold ref30_once_j3 at h2l
   refine W_r ?_
   refine rq (out:=Pr.i64 x3) ag ?_
   refine rq (out:=Pr.i64 (w64 (x3+1))) qInt ?_
   refine rq (out:=Pr.i64 (w64 (x3+1))) ae ?_
   exact⟨m2,Nat.lt_succ_self _,w64 (x3+1),x16,v15,hn2 _ (Option.some.inj h2l).symm,⟨⟨aa,aa,aa,trivial⟩,Pick.refl _⟩⟩
  refine ar ?_
  refine W_rs ?_
  refine rq (out:=Pr.is v2) ag ?_
  refine rq (out:=af ab x1) ag ?_
  refine rq (out:=Pr.i64 x3) ag ?_
  obtain⟨x9,hx9,h2l⟩:=ah h2l
  refine rq (out:=a5 ab x9) (cr (R:=ab) (l:=x1) Tryz.underlying33 Tryz.sizeOf9 hx9) ?_
  refine rq (out:=aj x9) (bl (R:=ab) (a:=x9) ty9) ?_
  obtain⟨x10,hx10,h2l⟩:=ah h2l
  refine rq (out:=Pr.bool x10) (qCallB 0 (ref30_has_ok x4 x9 _ hx10) ⟨.inr ⟨aa,rfl⟩,.inl aa,trivial⟩ (fun _ _ _ h=>h)) ?_
  refine rq (out:=Pr.bool x10) ae ?_
  refine W_rs ?_
  refine rq (out:=Pr.bool x10) ag ?_
  refine rq (out:=Pr.bool (!x10)) qNot ?_
  refine au (b:= !x10) rfl (fun hc11=> ?_) (fun hc11=> ?_)
  ·replace h2l:=iteT hc11 h2l
   refine W_r ?_
   refine rq (out:=Pr.is v2) ag ?_
   refine rq (out:=af ab x1) ag ?_
   refine rq (out:=Pr.i64 x3) ag ?_
   obtain⟨x12,hx12,h2l⟩:=ah h2l
   refine rq (out:=a5 ab x12) (cr (R:=ab) (l:=x1) Tryz.underlying33 Tryz.sizeOf9 hx12) ?_
   refine rq (out:=aj x12) (bl (R:=ab) (a:=x12) ty9) ?_
   refine rq (out:=af ab ([x12]:List (List UInt8))) (bh (R:=ab) (a:=x12) el33 (Nat.le_of_ble_eq_true rfl)) ?_
   obtain⟨x13,hx13,h2l⟩:=ah h2l
   refine cu 0 el33 hx13 (fun v14=> ?_)
   refine rq (out:=Pr.is v14) ae ?_
   exact⟨x13,v14,h2l,⟨⟨aa,aa,aa,trivial⟩,Pick.refl _⟩⟩
  replace h2l:=iteF hc11 h2l
  refine av ?_
  exact⟨x4,v2,h2l,⟨⟨aa,aa,aa,trivial⟩,Pick.refl _⟩⟩
 replace h2l:=iteF hc8 h2l
 refine bw ?_
 obtain rfl:=ho2 _ (Option.some.inj h2l).symm
 exact⟨x4,v2,h,⟨⟨aa,trivial⟩,Pick.refl _⟩⟩
theorem ref30_kept_ok (x1 x2 x3 x4:List (List UInt8)) (r:(List (List UInt8))) (h:ref30_kept x1 x2 x3 x4=some r):FnP Tryz.prog 42 [af ab x1,af ab x2,af ab x3,af ab x4] (af ab r):=by
 refine a7 (n:=54) (rs:=[8]) Tryz.func42 rfl Tryz.ntmps42 ⟨by decide,Tryz.results42⟩ (by decide) (fun s0=> ?_)
 unfold ref30_kept at h
 refine W_rs ?_
 refine rq (out:=Pr.is (.slice none 0 0)) ae ?_
 refine W_rs ?_
 refine rq (out:=Pr.is (.slice none 0 0)) ae ?_
 refine aw ?_
 refine W_rs ?_
 refine rq (out:=Pr.i64 0) ae ?_
 refine ar ?_
 obtain⟨z2l,hz2,h⟩:=ah h
 obtain⟨n2,hN2⟩:=a4 hz2
 clear hz2
 refine bp 0 (fun e C=>∃(x7:List (List UInt8)),∃(v5:Value),ref30_kept_k1 x7=some r/\At [(9,Pr.is v5)] [Own.vec v5 ab x7 9] e C) ?_ ?_
 ·rintro e C ⟨x7,v5,h,hat1⟩
  refine W_at hat1 ?_
  clear hat1
  unfold ref30_kept_k1 at h
  refine W_rs ?_
  refine rq (out:=Pr.is v5) ag ?_
  refine rq (out:=Pr.is v5) ae ?_
  refine W_rel 0 [8] ?_ rfl ⟨rfl,trivial⟩
  obtain rfl:=Option.some.inj h
  exact bb ⟨rfl,aa⟩
 refine W_nil [9] ab 9 (fun v27=> ?_) ⟨rfl,trivial⟩
 refine cd (fun m e C=>∃(x6:Int),∃(x7:List (List UInt8)),∃(v5:Value),cz (fun s=>iu x1 x2 x3 x4 s.1 s.2) m (x6,x7)=some z2l/\At [(0,af ab x1),(1,af ab x2),(2,af ab x3),(3,af ab x4),(9,Pr.is v5),(10,Pr.i64 x6)] [Own.vec v5 ab x7 9] e C) n2 ⟨0,[],v27,hN2,⟨⟨aa,aa,aa,aa,aa,aa,trivial⟩,Pick.refl _⟩⟩ ?_
 clear hN2
 rintro m e C ⟨x6,x7,v5,hN2,hatl2⟩
 refine W_at hatl2 ?_
 clear hatl2
 obtain⟨m2,w2l,rfl,h2l,hn2,ho2⟩:=ay hN2
 clear hN2
 replace h2l:iu x1 x2 x3 x4 x6 x7=some w2l:=h2l
 unfold iu at h2l
 refine aw ?_
 refine W_rs ?_
 refine rq (out:=Pr.i64 x6) ag ?_
 refine rq (out:=af ab x1) ag ?_
 refine rq (out:=Pr.i64 (x1.length:Int)) (cl rfl Tryz.underlying33) ?_
 refine rq (out:=Pr.bool (decide (x6<(x1.length:Int)))) qInt ?_
 refine au (b:=decide (x6<(x1.length:Int))) rfl (fun hc11=> ?_) (fun hc11=> ?_)
 ·replace h2l:=iteT hc11 h2l
  refine av ?_
  refine bg (fun e C=>∃(x26:List (List UInt8)),∃(v25:Value),ref30_kept_j3 x6 x26=some w2l/\At [(0,af ab x1),(1,af ab x2),(2,af ab x3),(3,af ab x4),(9,Pr.is v25),(10,Pr.i64 x6)] [Own.vec v25 ab x26 9] e C) ?_ ?_
  ·rintro e C ⟨x26,v25,h2l,hat3⟩
   refine W_at hat3 ?_
   clear hat3
   unfold ref30_kept_j3 at h2l
   refine W_r ?_
   refine rq (out:=Pr.i64 x6) ag ?_
   refine rq (out:=Pr.i64 (w64 (x6+1))) qInt ?_
   refine rq (out:=Pr.i64 (w64 (x6+1))) ae ?_
   exact⟨m2,Nat.lt_succ_self _,w64 (x6+1),x26,v25,hn2 _ (Option.some.inj h2l).symm,⟨⟨aa,aa,aa,aa,aa,aa,trivial⟩,Pick.refl _⟩⟩
  refine ar ?_
  refine W_rs ?_
  refine rq (out:=af ab x2) ag ?_
  refine rq (out:=af ab x1) ag ?_
  refine rq (out:=Pr.i64 x6) ag ?_
  obtain⟨x12,hx12,h2l⟩:=ah h2l
  refine rq (out:=a5 ab x12) (cr (R:=ab) (l:=x1) Tryz.underlying33 Tryz.sizeOf9 hx12) ?_
  refine rq (out:=aj x12) (bl (R:=ab) (a:=x12) ty9) ?_
  obtain⟨x13,hx13,h2l⟩:=ah h2l
  refine rq (out:=Pr.bool x13) (br (ref30_has_ok x2 x12 _ hx13)) ?_
  refine rq (out:=Pr.bool x13) ae ?_
  refine W_rs ?_
  refine rq (out:=af ab x3) ag ?_
  refine rq (out:=af ab x1) ag ?_
  refine rq (out:=Pr.i64 x6) ag ?_
  obtain⟨x14,hx14,h2l⟩:=ah h2l
  refine rq (out:=a5 ab x14) (cr (R:=ab) (l:=x1) Tryz.underlying33 Tryz.sizeOf9 hx14) ?_
  refine rq (out:=aj x14) (bl (R:=ab) (a:=x14) ty9) ?_
  obtain⟨x15,hx15,h2l⟩:=ah h2l
  refine rq (out:=Pr.bool x15) (br (ref30_has_ok x3 x14 _ hx15)) ?_
  refine rq (out:=Pr.bool x15) ae ?_
  refine W_rs ?_
  refine rq (out:=af ab x4) ag ?_
  refine rq (out:=af ab x1) ag ?_
  refine rq (out:=Pr.i64 x6) ag ?_
  obtain⟨x16,hx16,h2l⟩:=ah h2l
  refine rq (out:=a5 ab x16) (cr (R:=ab) (l:=x1) Tryz.underlying33 Tryz.sizeOf9 hx16) ?_
  refine rq (out:=aj x16) (bl (R:=ab) (a:=x16) ty9) ?_
  obtain⟨x17,hx17,h2l⟩:=ah h2l
  refine rq (out:=Pr.bool x17) (br (ref30_has_ok x4 x16 _ hx17)) ?_
  refine rq (out:=Pr.bool x17) ae ?_
  refine bg (fun e C=>∃(x20:Bool),jn x1 x6 x7 x20=some w2l/\At [(0,af ab x1),(1,af ab x2),(2,af ab x3),(3,af ab x4),(9,Pr.is v5),(10,Pr.i64 x6),(45,Pr.bool x20)] [Own.vec v5 ab x7 9] e C) ?_ ?_
  ·rintro e C ⟨x20,h2l,hat4⟩
   refine W_at hat4 ?_
   clear hat4
   unfold jn at h2l
   refine au (b:=x20) rfl (fun hc21=> ?_) (fun hc21=> ?_)
   ·replace h2l:=iteT hc21 h2l
    refine W_r ?_
    refine rq (out:=Pr.is v5) ag ?_
    refine rq (out:=af ab x1) ag ?_
    refine rq (out:=Pr.i64 x6) ag ?_
    obtain⟨x22,hx22,h2l⟩:=ah h2l
    refine rq (out:=a5 ab x22) (cr (R:=ab) (l:=x1) Tryz.underlying33 Tryz.sizeOf9 hx22) ?_
    refine rq (out:=aj x22) (bl (R:=ab) (a:=x22) ty9) ?_
    refine rq (out:=af ab ([x22]:List (List UInt8))) (bh (R:=ab) (a:=x22) el33 (Nat.le_of_ble_eq_true rfl)) ?_
    obtain⟨x23,hx23,h2l⟩:=ah h2l
    refine cu 0 el33 hx23 (fun v24=> ?_)
    refine rq (out:=Pr.is v24) ae ?_
    exact⟨x23,v24,h2l,⟨⟨aa,aa,aa,aa,aa,aa,trivial⟩,Pick.refl _⟩⟩
   replace h2l:=iteF hc21 h2l
   refine av ?_
   exact⟨x7,v5,h2l,⟨⟨aa,aa,aa,aa,aa,aa,trivial⟩,Pick.refl _⟩⟩
  refine W_r ?_
  refine rq (out:=Pr.bool x13) ag ?_
  refine rq (out:=Pr.bool (!x13)) qNot ?_
  refine rq (out:=Pr.bool (!x13)) ag ?_
  rcases bc h2l with⟨hc18,h2l⟩|⟨hc18,h2l⟩
  ·refine rno (neF hc18) ?_
   refine rno (neF hc18) ?_
   refine rnoU ?_
   refine rno (neF hc18) ?_
   refine rq (out:=Pr.bool true) (bo hc18) ?_
   exact⟨true,h2l,⟨⟨aa,aa,aa,aa,aa,aa,aa,trivial⟩,Pick.refl _⟩⟩
  refine rqg hc18 (out:=Pr.bool x15) ag ?_
  refine rqg hc18 (out:=Pr.bool x15) ag ?_
  rcases bc h2l with⟨hc19,h2l⟩|⟨hc19,h2l⟩
  ·refine rqg hc19 (out:=Pr.bool x17) ag ?_
   refine rqg hc18 (out:=Pr.bool x17) (bo hc19) ?_
   refine rq (out:=Pr.bool x17) (az hc18) ?_
   exact⟨x17,h2l,⟨⟨aa,aa,aa,aa,aa,aa,aa,trivial⟩,Pick.refl _⟩⟩
  refine rno (neT hc19) ?_
  refine rqg hc18 (out:=Pr.bool false) (az hc19) ?_
  refine rq (out:=Pr.bool false) (az hc18) ?_
  exact⟨false,h2l,⟨⟨aa,aa,aa,aa,aa,aa,aa,trivial⟩,Pick.refl _⟩⟩
 replace h2l:=iteF hc11 h2l
 refine bw ?_
 obtain rfl:=ho2 _ (Option.some.inj h2l).symm
 exact⟨x7,v5,h,⟨⟨aa,trivial⟩,Pick.refl _⟩⟩
theorem ref30_without_ok (x1 x2:List (List UInt8)) (r:(List (List UInt8))) (h:ref30_without x1 x2=some r):FnP Tryz.prog 44 [af ab x1,af ab x2] (af ab r):=by
 refine a7 (n:=30) (rs:=[4]) Tryz.func44 rfl Tryz.ntmps44 ⟨by decide,Tryz.results44⟩ (by decide) (fun s0=> ?_)
 unfold ref30_without at h
 refine W_rs ?_
 refine rq (out:=Pr.is (.slice none 0 0)) ae ?_
 refine W_rs ?_
 refine rq (out:=Pr.is (.slice none 0 0)) ae ?_
 refine aw ?_
 refine W_rs ?_
 refine rq (out:=Pr.i64 0) ae ?_
 refine ar ?_
 obtain⟨z2l,hz2,h⟩:=ah h
 obtain⟨n2,hN2⟩:=a4 hz2
 clear hz2
 refine bp 0 (fun e C=>∃(x5:List (List UInt8)),∃(v3:Value),ne x5=some r/\At [(5,Pr.is v3)] [Own.vec v3 ab x5 9] e C) ?_ ?_
 ·rintro e C ⟨x5,v3,h,hat1⟩
  refine W_at hat1 ?_
  clear hat1
  unfold ne at h
  refine W_rs ?_
  refine rq (out:=Pr.is v3) ag ?_
  refine rq (out:=Pr.is v3) ae ?_
  refine W_rel 0 [4] ?_ rfl ⟨rfl,trivial⟩
  obtain rfl:=Option.some.inj h
  exact bb ⟨rfl,aa⟩
 refine W_nil [5] ab 9 (fun v18=> ?_) ⟨rfl,trivial⟩
 refine cd (fun m e C=>∃(x4:Int),∃(x5:List (List UInt8)),∃(v3:Value),cz (fun s=>e8 x1 x2 s.1 s.2) m (x4,x5)=some z2l/\At [(0,af ab x1),(1,af ab x2),(5,Pr.is v3),(6,Pr.i64 x4)] [Own.vec v3 ab x5 9] e C) n2 ⟨0,[],v18,hN2,⟨⟨aa,aa,aa,aa,trivial⟩,Pick.refl _⟩⟩ ?_
 clear hN2
 rintro m e C ⟨x4,x5,v3,hN2,hatl2⟩
 refine W_at hatl2 ?_
 clear hatl2
 obtain⟨m2,w2l,rfl,h2l,hn2,ho2⟩:=ay hN2
 clear hN2
 replace h2l:e8 x1 x2 x4 x5=some w2l:=h2l
 unfold e8 at h2l
 refine aw ?_
 refine W_rs ?_
 refine rq (out:=Pr.i64 x4) ag ?_
 refine rq (out:=af ab x1) ag ?_
 refine rq (out:=Pr.i64 (x1.length:Int)) (cl rfl Tryz.underlying33) ?_
 refine rq (out:=Pr.bool (decide (x4<(x1.length:Int)))) qInt ?_
 refine au (b:=decide (x4<(x1.length:Int))) rfl (fun hc9=> ?_) (fun hc9=> ?_)
 ·replace h2l:=iteT hc9 h2l
  refine av ?_
  refine bg (fun e C=>∃(x17:List (List UInt8)),∃(v16:Value),jx x4 x17=some w2l/\At [(0,af ab x1),(1,af ab x2),(5,Pr.is v16),(6,Pr.i64 x4)] [Own.vec v16 ab x17 9] e C) ?_ ?_
  ·rintro e C ⟨x17,v16,h2l,hat3⟩
   refine W_at hat3 ?_
   clear hat3
   unfold jx at h2l
   refine W_r ?_
   refine rq (out:=Pr.i64 x4) ag ?_
   refine rq (out:=Pr.i64 (w64 (x4+1))) qInt ?_
   refine rq (out:=Pr.i64 (w64 (x4+1))) ae ?_
   exact⟨m2,Nat.lt_succ_self _,w64 (x4+1),x17,v16,hn2 _ (Option.some.inj h2l).symm,⟨⟨aa,aa,aa,aa,trivial⟩,Pick.refl _⟩⟩
  refine ar ?_
  refine W_rs ?_
  refine rq (out:=af ab x2) ag ?_
  refine rq (out:=af ab x1) ag ?_
  refine rq (out:=Pr.i64 x4) ag ?_
  obtain⟨x10,hx10,h2l⟩:=ah h2l
  refine rq (out:=a5 ab x10) (cr (R:=ab) (l:=x1) Tryz.underlying33 Tryz.sizeOf9 hx10) ?_
  refine rq (out:=aj x10) (bl (R:=ab) (a:=x10) ty9) ?_
  obtain⟨x11,hx11,h2l⟩:=ah h2l
  refine rq (out:=Pr.bool x11) (br (ref30_has_ok x2 x10 _ hx11)) ?_
  refine rq (out:=Pr.bool x11) ae ?_
  refine W_rs ?_
  refine rq (out:=Pr.bool x11) ag ?_
  refine rq (out:=Pr.bool (!x11)) qNot ?_
  refine au (b:= !x11) rfl (fun hc12=> ?_) (fun hc12=> ?_)
  ·replace h2l:=iteT hc12 h2l
   refine W_r ?_
   refine rq (out:=Pr.is v3) ag ?_
   refine rq (out:=af ab x1) ag ?_
   refine rq (out:=Pr.i64 x4) ag ?_
   obtain⟨x13,hx13,h2l⟩:=ah h2l
   refine rq (out:=a5 ab x13) (cr (R:=ab) (l:=x1) Tryz.underlying33 Tryz.sizeOf9 hx13) ?_
   refine rq (out:=aj x13) (bl (R:=ab) (a:=x13) ty9) ?_
   refine rq (out:=af ab ([x13]:List (List UInt8))) (bh (R:=ab) (a:=x13) el33 (Nat.le_of_ble_eq_true rfl)) ?_
   obtain⟨x14,hx14,h2l⟩:=ah h2l
   refine cu 0 el33 hx14 (fun v15=> ?_)
   refine rq (out:=Pr.is v15) ae ?_
   exact⟨x14,v15,h2l,⟨⟨aa,aa,aa,aa,trivial⟩,Pick.refl _⟩⟩
  replace h2l:=iteF hc12 h2l
  refine av ?_
  exact⟨x5,v3,h2l,⟨⟨aa,aa,aa,aa,trivial⟩,Pick.refl _⟩⟩
 replace h2l:=iteF hc9 h2l
 refine bw ?_
 obtain rfl:=ho2 _ (Option.some.inj h2l).symm
 exact⟨x5,v3,h,⟨⟨aa,trivial⟩,Pick.refl _⟩⟩
theorem ref30_Order_ok (x1 x2 x3:List (List UInt8)) (r:(List (List UInt8)) × Bool) (h:ref30_Order x1 x2 x3=some r):FnP Tryz.prog 19 [af ab x1,af ab x2,af ab x3] (bn [af ab r.1,Pr.bool r.2]):=by
 refine a7 (n:=125) (rs:=[6,7]) Tryz.func19 rfl Tryz.ntmps19 ⟨by decide,Tryz.results19⟩ (by decide) (fun s0=> ?_)
 unfold ref30_Order at h
 refine W_rs ?_
 refine rq (out:=Pr.is (.slice none 0 0)) ae ?_
 refine rq (out:=Pr.bool false) ae ?_
 refine W_rs ?_
 refine rq (out:=af ab x1) ag ?_
 obtain⟨x4,hx4,h⟩:=ah h
 refine rCallC [] (ref30_once_ok x1 _ hx4) (fun q C' hq=> ?_)
 obtain⟨v5,rfl,rfl⟩:=hq
 refine rq (out:=Pr.is v5) ae ?_
 refine W_rs ?_
 refine rq (out:=af ab x2) ag ?_
 obtain⟨x6,hx6,h⟩:=ah h
 refine rCallC [] (ref30_once_ok x2 _ hx6) (fun q C' hq=> ?_)
 obtain⟨v7,rfl,rfl⟩:=hq
 refine rq (out:=Pr.is v7) ae ?_
 refine W_rs ?_
 refine rq (out:=af ab x3) ag ?_
 obtain⟨x8,hx8,h⟩:=ah h
 refine rCallC [] (ref30_once_ok x3 _ hx8) (fun q C' hq=> ?_)
 obtain⟨v9,rfl,rfl⟩:=hq
 refine rq (out:=Pr.is v9) ae ?_
 refine aw ?_
 refine W_rs ?_
 refine rq (out:=Pr.is v9) ag ?_
 refine rq (out:=Pr.is v5) ag ?_
 obtain⟨x10,hx10,h⟩:=ah h
 refine rRel 0 [2,21] ?_ rfl ⟨rfl,rfl,trivial⟩
 refine rRel 1 [0,22] ?_ rfl ⟨rfl,rfl,trivial⟩
 refine rq (out:=Pr.bool x10) (br (ref01_Same_ok x8 x4 _ hx10)) ?_
 refine au (b:=x10) rfl (fun hc11=> ?_) (fun hc11=> ?_)
 ·replace h:=iteT hc11 h
  refine W_rs ?_
  refine rq (out:=Pr.is v7) ag ?_
  refine rq (out:=Pr.is v7) ae ?_
  refine rq (out:=Pr.bool true) ae ?_
  refine W_rel 0 [6] ?_ rfl ⟨rfl,trivial⟩
  obtain rfl:=Option.some.inj h
  exact bb ⟨rfl,aa⟩
 replace h:=iteF hc11 h
 refine av ?_
 refine aw ?_
 refine W_rs ?_
 refine rq (out:=Pr.is v7) ag ?_
 refine rq (out:=af ab x4) ag ?_
 obtain⟨x12,hx12,h⟩:=ah h
 refine rq (out:=Pr.bool x12) (qCallB 0 (ref01_Same_ok x6 x4 _ hx12) ⟨.inr ⟨aa,rfl⟩,.inl aa,trivial⟩ (fun _ _ _ h=>h)) ?_
 refine au (b:=x12) rfl (fun hc13=> ?_) (fun hc13=> ?_)
 ·replace h:=iteT hc13 h
  refine W_rs ?_
  refine rq (out:=af ab x8) ag ?_
  refine rq (out:=af ab x8) ae ?_
  refine rq (out:=Pr.bool true) ae ?_
  obtain rfl:=Option.some.inj h
  exact bb ⟨rfl,aa⟩
 replace h:=iteF hc13 h
 refine av ?_
 refine W_rs ?_
 refine rq (out:=af ab x4) ag ?_
 refine rq (out:=af ab x4) ag ?_
 refine rq (out:=Pr.is v7) ag ?_
 refine rq (out:=af ab x8) ag ?_
 obtain⟨x14,hx14,h⟩:=ah h
 refine rRel 0 [1,31] ?_ rfl ⟨rfl,rfl,trivial⟩
 refine rq (out:=af ab x14) (br (ref30_kept_ok x4 x4 x6 x8 _ hx14)) ?_
 refine rq (out:=af ab x14) ae ?_
 refine W_rs ?_
 refine rq (out:=af ab x6) ag ?_
 refine rq (out:=af ab x4) ag ?_
 refine rq (out:=af ab x6) ag ?_
 refine rq (out:=af ab x8) ag ?_
 obtain⟨x15,hx15,h⟩:=ah h
 refine rq (out:=af ab x15) (br (ref30_kept_ok x6 x4 x6 x8 _ hx15)) ?_
 refine rq (out:=af ab x15) ae ?_
 refine W_rs ?_
 refine rq (out:=af ab x8) ag ?_
 refine rq (out:=af ab x4) ag ?_
 refine rq (out:=af ab x6) ag ?_
 refine rq (out:=af ab x8) ag ?_
 obtain⟨x16,hx16,h⟩:=ah h
 refine rq (out:=af ab x16) (br (ref30_kept_ok x8 x4 x6 x8 _ hx16)) ?_
 refine rq (out:=af ab x16) ae ?_
 refine W_rs ?_
 refine rq (out:=af ab x14) ag ?_
 refine rq (out:=af ab x15) ag ?_
 refine rq (out:=af ab x16) ag ?_
 obtain⟨x17,hx17,h⟩:=ah h
 refine rq (out:=af ao x17) (br (ref07_Parts_ok x14 x15 x16 _ hx17)) ?_
 refine rq (out:=af ao x17) ae ?_
 refine W_rs ?_
 refine rq (out:=Pr.is (.slice none 0 0)) ae ?_
 refine aw ?_
 refine W_rs ?_
 refine rq (out:=Pr.i64 0) ae ?_
 refine ar ?_
 obtain⟨z2l,hz2,h⟩:=ah h
 obtain⟨n2,hN2⟩:=a4 hz2
 clear hz2
 refine bp 0 (fun e C=>∃(x20:List (List UInt8)),∃(v18:Value),ref30_Order_k1 x20=some r/\At [(12,Pr.is v18)] [Own.vec v18 ab x20 9] e C) ?_ ?_
 ·rintro e C ⟨x20,v18,h,hat1⟩
  refine W_at hat1 ?_
  clear hat1
  unfold ref30_Order_k1 at h
  refine aw ?_
  refine W_rs ?_
  refine rq (out:=Pr.is v18) ag ?_
  obtain⟨x50,hx50,h⟩:=ah h
  refine rRel 0 [12,118] ?_ rfl ⟨rfl,rfl,trivial⟩
  refine rCallC [] (ref30_once_ok x20 _ hx50) (fun q C' hq=> ?_)
  obtain⟨v51,rfl,rfl⟩:=hq
  refine rq (out:=Pr.i64 (x50.length:Int)) (qLenV 0 rfl Tryz.underlying33) ?_
  refine rq (out:=af ab x20) ag ?_
  refine rq (out:=Pr.i64 (x20.length:Int)) (cl rfl Tryz.underlying33) ?_
  refine rq (out:=Pr.bool ((x50.length:Int) != (x20.length:Int))) qInt ?_
  refine au (b:=(x50.length:Int) != (x20.length:Int)) rfl (fun hc52=> ?_) (fun hc52=> ?_)
  ·replace h:=iteT hc52 h
   refine W_rs ?_
   refine rq (out:=Pr.is (.slice none 0 0)) ae ?_
   refine rq (out:=Pr.bool false) ae ?_
   obtain rfl:=Option.some.inj h
   exact bb ⟨rfl,tup_le ⟨fk _,aa,trivial⟩⟩
  replace h:=iteF hc52 h
  refine av ?_
  refine W_rs ?_
  refine rq (out:=af ab x20) ag ?_
  refine rq (out:=af ab x20) ae ?_
  refine rq (out:=Pr.bool true) ae ?_
  obtain rfl:=Option.some.inj h
  exact bb ⟨rfl,aa⟩
 refine W_nil [12] ab 9 (fun v53=> ?_) ⟨rfl,trivial⟩
 refine cd (fun m e C=>∃(x19:Int),∃(x20:List (List UInt8)),∃(v18:Value),cz (fun s=>eo x17 x15 x16 s.1 s.2) m (x19,x20)=some z2l/\At [(9,af ab x15),(10,af ab x16),(11,af ao x17),(12,Pr.is v18),(13,Pr.i64 x19)] [Own.vec v18 ab x20 9] e C) n2 ⟨0,[],v53,hN2,⟨⟨aa,aa,aa,aa,aa,trivial⟩,Pick.refl _⟩⟩ ?_
 clear hN2
 rintro m e C ⟨x19,x20,v18,hN2,hatl2⟩
 refine W_at hatl2 ?_
 clear hatl2
 obtain⟨m2,w2l,rfl,h2l,hn2,ho2⟩:=ay hN2
 clear hN2
 replace h2l:eo x17 x15 x16 x19 x20=some w2l:=h2l
 unfold eo at h2l
 refine aw ?_
 refine W_rs ?_
 refine rq (out:=Pr.i64 x19) ag ?_
 refine rq (out:=af ao x17) ag ?_
 refine rq (out:=Pr.i64 (x17.length:Int)) (cl rfl Tryz.underlying66) ?_
 refine rq (out:=Pr.bool (decide (x19<(x17.length:Int)))) qInt ?_
 refine au (b:=decide (x19<(x17.length:Int))) rfl (fun hc24=> ?_) (fun hc24=> ?_)
 ·replace h2l:=iteT hc24 h2l
  refine av ?_
  refine bg (fun e C=>∃(x49:List (List UInt8)),∃(x25:ApiChunk),∃(v48:Value),∃(b26:Nat),mu x19 x49 x25=some w2l/\At [(9,af ab x15),(10,af ab x16),(11,af ao x17),(12,Pr.is v48),(13,Pr.i64 x19)] [Own.vec v48 ab x49 9,Own.box b26 ao x25] e C) ?_ ?_
  ·rintro e C ⟨x49,x25,v48,b26,h2l,hat3⟩
   refine W_at hat3 ?_
   clear hat3
   unfold mu at h2l
   refine W_r ?_
   refine rq (out:=Pr.i64 x19) ag ?_
   refine rq (out:=Pr.i64 (w64 (x19+1))) qInt ?_
   refine rq (out:=Pr.i64 (w64 (x19+1))) ae ?_
   exact⟨m2,Nat.lt_succ_self _,w64 (x19+1),x49,v48,hn2 _ (Option.some.inj h2l).symm,⟨⟨aa,aa,aa,aa,aa,trivial⟩,Pick.of [0] rfl⟩⟩
  refine ar ?_
  refine W_rs ?_
  refine rq (out:=af ao x17) ag ?_
  refine rq (out:=Pr.i64 x19) ag ?_
  obtain⟨x25,hx25,h2l⟩:=ah h2l
  refine rq (out:=a5 ao x25) (cr (R:=ao) (l:=x17) Tryz.underlying66 Tryz.sizeOf71 hx25) ?_
  refine rq (out:=(ao).val x25) (bl (R:=ao) (a:=x25) ty71) ?_
  refine ml (R:=ao) (z:=(ApiChunk.mk 0 (ApiSpan.mk 0 0) (ApiSpan.mk 0 0) (ApiSpan.mk 0 0))) Tryz.zeroValue71 (fun _=>⟨_,⟨_,_,rfl,rfl,⟨_,_,rfl,⟨_,_,rfl,rfl,⟨_,_,rfl,rfl,rfl⟩⟩,⟨_,_,rfl,⟨_,_,rfl,rfl,⟨_,_,rfl,rfl,rfl⟩⟩,⟨_,_,rfl,⟨_,_,rfl,rfl,⟨_,_,rfl,rfl,rfl⟩⟩,rfl⟩⟩⟩⟩,rfl⟩) (fun b26=> ?_)
  refine ek (R:=ao) (R':=ao) (a:=(ApiChunk.mk 0 (ApiSpan.mk 0 0) (ApiSpan.mk 0 0) (ApiSpan.mk 0 0))) (y:=x25) 1 Tryz.sizeOf71 (Upd.refl _) ?_
  refine aw ?_
  refine bg (fun e C=>∃(x28:Bool),mq x25 x15 x20 x16 x19 x28=some w2l/\At [(9,af ab x15),(10,af ab x16),(11,af ao x17),(12,Pr.is v18),(13,Pr.i64 x19),(14,ap b26 0),(69,Pr.bool x28)] [Own.vec v18 ab x20 9,Own.box b26 ao x25] e C) ?_ ?_
  ·rintro e C ⟨x28,h2l,hat6⟩
   refine W_at hat6 ?_
   clear hat6
   unfold mq at h2l
   refine au (b:=x28) rfl (fun hc29=> ?_) (fun hc29=> ?_)
   ·replace h2l:=iteT hc29 h2l
    refine W_rs ?_
    refine rq (out:=Pr.is (.slice none 0 0)) ae ?_
    refine rq (out:=Pr.bool false) ae ?_
    obtain rfl:=ho2 _ (Option.some.inj h2l).symm
    replace h:some ([],false)=some r:=h
    obtain rfl:=Option.some.inj h
    exact bb ⟨rfl,tup_le ⟨fk _,aa,trivial⟩⟩
   replace h2l:=iteF hc29 h2l
   refine av ?_
   refine bg (fun e C=>∃(x35:List (List UInt8)),∃(v34:Value),mr x25 x16 x15 x19 x35=some w2l/\At [(9,af ab x15),(10,af ab x16),(11,af ao x17),(12,Pr.is v34),(13,Pr.i64 x19),(14,ap b26 0)] [Own.vec v34 ab x35 9,Own.box b26 ao x25] e C) ?_ ?_
   ·rintro e C ⟨x35,v34,h2l,hat5⟩
    refine W_at hat5 ?_
    clear hat5
    unfold mr at h2l
    refine bg (fun e C=>∃(x41:List (List UInt8)),∃(v40:Value),mt x25 x16 x15 x19 x41=some w2l/\At [(9,af ab x15),(10,af ab x16),(11,af ao x17),(12,Pr.is v40),(13,Pr.i64 x19),(14,ap b26 0)] [Own.vec v40 ab x41 9,Own.box b26 ao x25] e C) ?_ ?_
    ·rintro e C ⟨x41,v40,h2l,hat4⟩
     refine W_at hat4 ?_
     clear hat4
     unfold mt at h2l
     refine W_rs ?_
     refine rq (out:=ap b26 0) (ax fld71_0) ?_
     refine rq (out:=Pr.i64 x25.Kind) (a9 (R:=ao) (a:=x25) (R':=Rp.int .i64) 1 ty3 eb) ?_
     refine rq (out:=Pr.bool (x25.Kind==4)) qInt ?_
     refine au (b:=x25.Kind==4) rfl (fun hc42=> ?_) (fun hc42=> ?_)
     ·replace h2l:=iteT hc42 h2l
      refine ei 18 hmx (by kernel_rfl) (by kernel_rfl) ?_
      refine qq (out:=Pr.is v40) ag ?_
      refine qq (out:=af ab x16) ag ?_
      refine qq (out:=ap b26 5) (ax fld71_3) ?_
      refine qq (out:=ap b26 5) (ax fld69_0) ?_
      refine qq (out:=Pr.i64 x25.B.From) (a9 (R:=ao) (a:=x25) (R':=Rp.int .i64) 1 ty3 (fq.trans c5 (Nat.le_of_ble_eq_true rfl))) ?_
      refine qq (out:=ap b26 5) (ax fld71_3) ?_
      refine qq (out:=ap b26 6) (ax fld69_1) ?_
      refine qq (out:=Pr.i64 x25.B.To) (a9 (R:=ao) (a:=x25) (R':=Rp.int .i64) 1 ty3 (fq.trans dp (Nat.le_of_ble_eq_true rfl))) ?_
      obtain⟨x43,hx43,h2l⟩:=ah h2l
      refine qq (out:=af ab x43) (k6 Tryz.underlying33 Tryz.sizeOf9 hx43) ?_
      refine qq (out:=af ab x15) ag ?_
      refine qq (out:=ap b26 3) (ax fld71_2) ?_
      refine qq (out:=ap b26 3) (ax fld69_0) ?_
      refine qq (out:=Pr.i64 x25.A.From) (a9 (R:=ao) (a:=x25) (R':=Rp.int .i64) 1 ty3 (fr.trans c5 (Nat.le_of_ble_eq_true rfl))) ?_
      refine qq (out:=ap b26 3) (ax fld71_2) ?_
      refine qq (out:=ap b26 4) (ax fld69_1) ?_
      refine qq (out:=Pr.i64 x25.A.To) (a9 (R:=ao) (a:=x25) (R':=Rp.int .i64) 1 ty3 (fr.trans dp (Nat.le_of_ble_eq_true rfl))) ?_
      obtain⟨x44,hx44,h2l⟩:=ah h2l
      refine qq (out:=af ab x44) (k6 Tryz.underlying33 Tryz.sizeOf9 hx44) ?_
      obtain⟨x45,hx45,h2l⟩:=ah h2l
      refine qq (out:=af ab x45) (br (ref30_without_ok x43 x44 _ hx45)) ?_
      obtain⟨x46,hx46,h2l⟩:=ah h2l
      refine cu 0 el33 hx46 (fun v47=> ?_)
      refine rq (out:=Pr.is v47) ae ?_
      exact⟨x46,x25,v47,b26,h2l,⟨⟨aa,aa,aa,aa,aa,trivial⟩,Pick.refl _⟩⟩
     replace h2l:=iteF hc42 h2l
     refine av ?_
     exact⟨x41,x25,v40,b26,h2l,⟨⟨aa,aa,aa,aa,aa,trivial⟩,Pick.refl _⟩⟩
    refine W_rs ?_
    refine rq (out:=ap b26 0) (ax fld71_0) ?_
    refine rq (out:=Pr.i64 x25.Kind) (a9 (R:=ao) (a:=x25) (R':=Rp.int .i64) 1 ty3 eb) ?_
    refine rq (out:=Pr.bool (x25.Kind==2)) qInt ?_
    refine au (b:=x25.Kind==2) rfl (fun hc36=> ?_) (fun hc36=> ?_)
    ·replace h2l:=iteT hc36 h2l
     refine W_r ?_
     refine rq (out:=Pr.is v34) ag ?_
     refine rq (out:=af ab x16) ag ?_
     refine rq (out:=ap b26 5) (ax fld71_3) ?_
     refine rq (out:=ap b26 5) (ax fld69_0) ?_
     refine rq (out:=Pr.i64 x25.B.From) (a9 (R:=ao) (a:=x25) (R':=Rp.int .i64) 1 ty3 (fq.trans c5 (Nat.le_of_ble_eq_true rfl))) ?_
     refine rq (out:=ap b26 5) (ax fld71_3) ?_
     refine rq (out:=ap b26 6) (ax fld69_1) ?_
     refine rq (out:=Pr.i64 x25.B.To) (a9 (R:=ao) (a:=x25) (R':=Rp.int .i64) 1 ty3 (fq.trans dp (Nat.le_of_ble_eq_true rfl))) ?_
     obtain⟨x37,hx37,h2l⟩:=ah h2l
     refine rq (out:=af ab x37) (k6 Tryz.underlying33 Tryz.sizeOf9 hx37) ?_
     obtain⟨x38,hx38,h2l⟩:=ah h2l
     refine cu 0 el33 hx38 (fun v39=> ?_)
     refine rq (out:=Pr.is v39) ae ?_
     exact⟨x38,v39,h2l,⟨⟨aa,aa,aa,aa,aa,aa,trivial⟩,Pick.refl _⟩⟩
    replace h2l:=iteF hc36 h2l
    refine av ?_
    exact⟨x35,v34,h2l,⟨⟨aa,aa,aa,aa,aa,aa,trivial⟩,Pick.refl _⟩⟩
   refine W_rs ?_
   refine rq (out:=ap b26 0) (ax fld71_0) ?_
   refine rq (out:=Pr.i64 x25.Kind) (a9 (R:=ao) (a:=x25) (R':=Rp.int .i64) 1 ty3 eb) ?_
   refine rq (out:=Pr.bool (x25.Kind != 2)) qInt ?_
   refine au (b:=x25.Kind != 2) rfl (fun hc30=> ?_) (fun hc30=> ?_)
   ·replace h2l:=iteT hc30 h2l
    refine W_r ?_
    refine rq (out:=Pr.is v18) ag ?_
    refine rq (out:=af ab x15) ag ?_
    refine rq (out:=ap b26 3) (ax fld71_2) ?_
    refine rq (out:=ap b26 3) (ax fld69_0) ?_
    refine rq (out:=Pr.i64 x25.A.From) (a9 (R:=ao) (a:=x25) (R':=Rp.int .i64) 1 ty3 (fr.trans c5 (Nat.le_of_ble_eq_true rfl))) ?_
    refine rq (out:=ap b26 3) (ax fld71_2) ?_
    refine rq (out:=ap b26 4) (ax fld69_1) ?_
    refine rq (out:=Pr.i64 x25.A.To) (a9 (R:=ao) (a:=x25) (R':=Rp.int .i64) 1 ty3 (fr.trans dp (Nat.le_of_ble_eq_true rfl))) ?_
    obtain⟨x31,hx31,h2l⟩:=ah h2l
    refine rq (out:=af ab x31) (k6 Tryz.underlying33 Tryz.sizeOf9 hx31) ?_
    obtain⟨x32,hx32,h2l⟩:=ah h2l
    refine cu 0 el33 hx32 (fun v33=> ?_)
    refine rq (out:=Pr.is v33) ae ?_
    exact⟨x32,v33,h2l,⟨⟨aa,aa,aa,aa,aa,aa,trivial⟩,Pick.refl _⟩⟩
   replace h2l:=iteF hc30 h2l
   refine av ?_
   exact⟨x20,v18,h2l,⟨⟨aa,aa,aa,aa,aa,aa,trivial⟩,Pick.refl _⟩⟩
  refine W_r ?_
  refine rq (out:=ap b26 0) (ax fld71_0) ?_
  refine rq (out:=Pr.i64 x25.Kind) (a9 (R:=ao) (a:=x25) (R':=Rp.int .i64) 1 ty3 eb) ?_
  refine rq (out:=Pr.bool (x25.Kind==4)) qInt ?_
  refine rq (out:=Pr.bool (x25.Kind==4)) ag ?_
  rcases bc h2l with⟨hc27,h2l⟩|⟨hc27,h2l⟩
  ·refine rqg hc27 (out:=ap b26 1) (ax fld71_1) ?_
   refine rqg hc27 (out:=ap b26 1) (ax fld69_0) ?_
   refine rqg hc27 (out:=Pr.i64 x25.O.From) (a9 (R:=ao) (a:=x25) (R':=Rp.int .i64) 1 ty3 (iq.trans c5 (Nat.le_of_ble_eq_true rfl))) ?_
   refine rqg hc27 (out:=ap b26 1) (ax fld71_1) ?_
   refine rqg hc27 (out:=ap b26 2) (ax fld69_1) ?_
   refine rqg hc27 (out:=Pr.i64 x25.O.To) (a9 (R:=ao) (a:=x25) (R':=Rp.int .i64) 1 ty3 (iq.trans dp (Nat.le_of_ble_eq_true rfl))) ?_
   refine rqg hc27 (out:=Pr.bool (decide (x25.O.From<x25.O.To))) qInt ?_
   refine rq (out:=Pr.bool (decide (x25.O.From<x25.O.To))) (bo hc27) ?_
   exact⟨decide (x25.O.From<x25.O.To),h2l,⟨⟨aa,aa,aa,aa,aa,aa,aa,trivial⟩,Pick.refl _⟩⟩
  refine rno (neT hc27) ?_
  refine rno (neT hc27) ?_
  refine rno (neT hc27) ?_
  refine rno (neT hc27) ?_
  refine rno (neT hc27) ?_
  refine rno (neT hc27) ?_
  refine rno (neT hc27) ?_
  refine rq (out:=Pr.bool false) (az hc27) ?_
  exact⟨false,h2l,⟨⟨aa,aa,aa,aa,aa,aa,aa,trivial⟩,Pick.refl _⟩⟩
 replace h2l:=iteF hc24 h2l
 refine bw ?_
 obtain rfl:=ho2 _ (Option.some.inj h2l).symm
 exact⟨x20,v18,h,⟨⟨aa,trivial⟩,Pick.refl _⟩⟩
end Go.Proofs.YtphkaogfinjbjaaGreatDoor
