/- The code comes to what these functions say (printed by wip/gen/gen.py). -/
import Derived.Test.YtphkaogfinjbjaaGreatDoorZP4
import Derived.Test.YtphkaogfinjbjaaGreatDoorZT
set_option linter.unusedSimpArgs false
set_option linter.unusedVariables false
set_option linter.unusedSectionVars false
set_option linter.unusedSectionVars false
set_option maxRecDepth 100000
set_option maxHeartbeats 4000000
namespace Go.Proofs.YtphkaogfinjbjaaGreatDoor
open Go Go.Cn
variable [Known]
theorem ref30_Three_ok (x1 x2 x3:List UInt8) (x4 x5 x6:Bool) (r:(List UInt8) × Bool × Int) (h:ref30_Three x1 x2 x3 x4 x5 x6=some r):FnP Tryz.prog 17 [ak x1,ak x2,ak x3,Pr.bool x4,Pr.bool x5,Pr.bool x6] (bi [ak r.1,Pr.bool r.2.1,Pr.i64 r.2.2]):=by
 refine a8 (n:=69) (rs:=[12,13,14]) Tryz.func17 rfl Tryz.ntmps17 ⟨by decide,Tryz.results17⟩ (by decide) (fun s0=> ?_)
 unfold ref30_Three at h
 refine W_rs ?_
 refine rq (out:=ak []) ab ?_
 refine rq (out:=Pr.bool false) ab ?_
 refine rq (out:=Pr.i64 0) ab ?_
 refine bd (fun e C=>∃(x8:List UInt8),ref30_Three_j7 x5 x6 x4 x3 x2 x8=some r/\At [(0,ak x8),(1,ak x2),(2,ak x3),(3,Pr.bool x4),(4,Pr.bool x5),(5,Pr.bool x6)] [] e C) ?_ ?_
 ·rintro e C ⟨x8,h,hat7⟩
  refine W_at hat7 ?_
  clear hat7
  unfold ref30_Three_j7 at h
  refine bd (fun e C=>∃(x10:List UInt8),ref30_Three_j6 x6 x5 x4 x8 x3 x10=some r/\At [(0,ak x8),(1,ak x10),(2,ak x3),(3,Pr.bool x4),(4,Pr.bool x5),(5,Pr.bool x6)] [] e C) ?_ ?_
  ·rintro e C ⟨x10,h,hat6⟩
   refine W_at hat6 ?_
   clear hat6
   unfold ref30_Three_j6 at h
   refine bd (fun e C=>∃(x12:List UInt8),ji x5 x6 x10 x4 x8 x12=some r/\At [(0,ak x8),(1,ak x10),(2,ak x12),(3,Pr.bool x4),(4,Pr.bool x5),(5,Pr.bool x6)] [] e C) ?_ ?_
   ·rintro e C ⟨x12,h,hat5⟩
    refine W_at hat5 ?_
    clear hat5
    unfold ji at h
    refine ax ?_
    refine bd (fun e C=>∃(x14:Bool),gz x10 x5 x4 x12 x6 x8 x14=some r/\At [(0,ak x8),(1,ak x10),(2,ak x12),(3,Pr.bool x4),(4,Pr.bool x5),(5,Pr.bool x6),(30,Pr.bool x14)] [] e C) ?_ ?_
    ·rintro e C ⟨x14,h,hat4⟩
     refine W_at hat4 ?_
     clear hat4
     unfold gz at h
     refine ar (b:=x14) rfl (fun hc15=> ?_) (fun hc15=> ?_)
     ·replace h:=iteT hc15 h
      refine W_rs ?_
      refine rq (out:=ak x10) ag ?_
      refine rq (out:=Pr.bool x5) ag ?_
      refine rq (out:=ak x10) ab ?_
      refine rq (out:=Pr.bool x5) ab ?_
      refine rq (out:=Pr.i64 0) ab ?_
      obtain rfl:=Option.some.inj h
      exact a9 ⟨rfl,aa⟩
     replace h:=iteF hc15 h
     refine av ?_
     refine ax ?_
     refine bd (fun e C=>∃(x17:Bool),g7 x12 x6 x4 x10 x5 x8 x17=some r/\At [(0,ak x8),(1,ak x10),(2,ak x12),(3,Pr.bool x4),(4,Pr.bool x5),(5,Pr.bool x6),(40,Pr.bool x17)] [] e C) ?_ ?_
     ·rintro e C ⟨x17,h,hat3⟩
      refine W_at hat3 ?_
      clear hat3
      unfold g7 at h
      refine ar (b:=x17) rfl (fun hc18=> ?_) (fun hc18=> ?_)
      ·replace h:=iteT hc18 h
       refine W_rs ?_
       refine rq (out:=ak x12) ag ?_
       refine rq (out:=Pr.bool x6) ag ?_
       refine rq (out:=ak x12) ab ?_
       refine rq (out:=Pr.bool x6) ab ?_
       refine rq (out:=Pr.i64 0) ab ?_
       obtain rfl:=Option.some.inj h
       exact a9 ⟨rfl,aa⟩
      replace h:=iteF hc18 h
      refine av ?_
      refine ax ?_
      refine bd (fun e C=>∃(x20:Bool),jj x10 x5 x8 x12 x6 x20=some r/\At [(0,ak x8),(1,ak x10),(2,ak x12),(4,Pr.bool x5),(5,Pr.bool x6),(50,Pr.bool x20)] [] e C) ?_ ?_
      ·rintro e C ⟨x20,h,hat2⟩
       refine W_at hat2 ?_
       clear hat2
       unfold jj at h
       refine ar (b:=x20) rfl (fun hc21=> ?_) (fun hc21=> ?_)
       ·replace h:=iteT hc21 h
        refine W_rs ?_
        refine rq (out:=ak x10) ag ?_
        refine rq (out:=Pr.bool x5) ag ?_
        refine rq (out:=ak x10) ab ?_
        refine rq (out:=Pr.bool x5) ab ?_
        refine rq (out:=Pr.i64 0) ab ?_
        obtain rfl:=Option.some.inj h
        exact a9 ⟨rfl,aa⟩
       replace h:=iteF hc21 h
       refine av ?_
       refine ax ?_
       refine bd (fun e C=>∃(x23:Bool),nt x8 x10 x12 x23=some r/\At [(0,ak x8),(1,ak x10),(2,ak x12),(58,Pr.bool x23)] [] e C) ?_ ?_
       ·rintro e C ⟨x23,h,hat1⟩
        refine W_at hat1 ?_
        clear hat1
        unfold nt at h
        refine ar (b:=x23) rfl (fun hc24=> ?_) (fun hc24=> ?_)
        ·replace h:=iteT hc24 h
         refine W_rs ?_
         refine rq (out:=ak []) ab ?_
         refine rq (out:=Pr.bool false) ab ?_
         refine rq (out:=Pr.i64 3) ab ?_
         obtain rfl:=Option.some.inj h
         exact a9 ⟨rfl,aa⟩
        replace h:=iteF hc24 h
        refine av ?_
        refine W_rs ?_
        refine rq (out:=ak x8) ag ?_
        refine rq (out:=ak x10) ag ?_
        refine rq (out:=ak x12) ag ?_
        obtain⟨⟨x25,x26⟩,hx25,h⟩:=ah h
        refine rq (out:=bi [ak x25,Pr.bool x26]) (bq (ref08_Text_ok x8 x10 x12 _ hx25)) ?_
        refine rq (out:=bi [ak x25,Pr.bool x26]) ag ?_
        refine rq (out:=ak x25) a6 ?_
        refine rq (out:=Pr.bool x26) a6 ?_
        refine rq (out:=ak x25) ab ?_
        refine rq (out:=Pr.bool x26) ab ?_
        refine ax ?_
        refine W_rs ?_
        refine rq (out:=Pr.bool x26) ag ?_
        refine rq (out:=Pr.bool (!x26)) qNot ?_
        refine ar (b:= !x26) rfl (fun hc27=> ?_) (fun hc27=> ?_)
        ·replace h:=iteT hc27 h
         refine W_rs ?_
         refine rq (out:=ak []) ab ?_
         refine rq (out:=Pr.bool false) ab ?_
         refine rq (out:=Pr.i64 1) ab ?_
         obtain rfl:=Option.some.inj h
         exact a9 ⟨rfl,aa⟩
        replace h:=iteF hc27 h
        refine av ?_
        refine W_rs ?_
        refine rq (out:=ak x25) ag ?_
        refine rq (out:=ak x25) ab ?_
        refine rq (out:=Pr.bool true) ab ?_
        refine rq (out:=Pr.i64 0) ab ?_
        obtain rfl:=Option.some.inj h
        exact a9 ⟨rfl,aa⟩
       refine W_r ?_
       refine rq (out:=Pr.bool x5) ag ?_
       refine rq (out:=Pr.bool (!x5)) qNot ?_
       refine rq (out:=Pr.bool (!x5)) ag ?_
       rcases bj h with⟨hc22,h⟩|⟨hc22,h⟩
       ·refine rno (neF hc22) ?_
        refine rno (neF hc22) ?_
        refine rq (out:=Pr.bool true) (bv hc22) ?_
        exact⟨true,h,⟨⟨aa,aa,aa,aa,trivial⟩,Pick.refl _⟩⟩
       refine rqg hc22 (out:=Pr.bool x6) ag ?_
       refine rqg hc22 (out:=Pr.bool (!x6)) qNot ?_
       refine rq (out:=Pr.bool (!x6)) (a7 hc22) ?_
       exact⟨!x6,h,⟨⟨aa,aa,aa,aa,trivial⟩,Pick.refl _⟩⟩
      refine W_r ?_
      refine rq (out:=Pr.bool x6) ag ?_
      refine rq (out:=Pr.bool x4) ag ?_
      refine rq (out:=Pr.bool (x6==x4)) (qBoolEq Tryz.underlying4) ?_
      refine rq (out:=Pr.bool (x6==x4)) ag ?_
      rcases bj h with⟨hc19,h⟩|⟨hc19,h⟩
      ·refine rqg hc19 (out:=ak x12) ag ?_
       refine rqg hc19 (out:=ak x8) ag ?_
       refine rqg hc19 (out:=Pr.bool (x12==x8)) qStr ?_
       refine rq (out:=Pr.bool (x12==x8)) (bv hc19) ?_
       exact⟨x12==x8,h,⟨⟨aa,aa,aa,aa,aa,aa,trivial⟩,Pick.refl _⟩⟩
      refine rno (neT hc19) ?_
      refine rno (neT hc19) ?_
      refine rno (neT hc19) ?_
      refine rq (out:=Pr.bool false) (a7 hc19) ?_
      exact⟨false,h,⟨⟨aa,aa,aa,aa,aa,aa,trivial⟩,Pick.refl _⟩⟩
     refine W_r ?_
     refine rq (out:=Pr.bool x5) ag ?_
     refine rq (out:=Pr.bool x4) ag ?_
     refine rq (out:=Pr.bool (x5==x4)) (qBoolEq Tryz.underlying4) ?_
     refine rq (out:=Pr.bool (x5==x4)) ag ?_
     rcases bj h with⟨hc16,h⟩|⟨hc16,h⟩
     ·refine rqg hc16 (out:=ak x10) ag ?_
      refine rqg hc16 (out:=ak x8) ag ?_
      refine rqg hc16 (out:=Pr.bool (x10==x8)) qStr ?_
      refine rq (out:=Pr.bool (x10==x8)) (bv hc16) ?_
      exact⟨x10==x8,h,⟨⟨aa,aa,aa,aa,aa,aa,aa,trivial⟩,Pick.refl _⟩⟩
     refine rno (neT hc16) ?_
     refine rno (neT hc16) ?_
     refine rno (neT hc16) ?_
     refine rq (out:=Pr.bool false) (a7 hc16) ?_
     exact⟨false,h,⟨⟨aa,aa,aa,aa,aa,aa,aa,trivial⟩,Pick.refl _⟩⟩
    refine W_r ?_
    refine rq (out:=Pr.bool x5) ag ?_
    refine rq (out:=Pr.bool x6) ag ?_
    refine rq (out:=Pr.bool (x5==x6)) (qBoolEq Tryz.underlying4) ?_
    refine rq (out:=Pr.bool (x5==x6)) ag ?_
    rcases bj h with⟨hc13,h⟩|⟨hc13,h⟩
    ·refine rqg hc13 (out:=ak x10) ag ?_
     refine rqg hc13 (out:=ak x12) ag ?_
     refine rqg hc13 (out:=Pr.bool (x10==x12)) qStr ?_
     refine rq (out:=Pr.bool (x10==x12)) (bv hc13) ?_
     exact⟨x10==x12,h,⟨⟨aa,aa,aa,aa,aa,aa,aa,trivial⟩,Pick.refl _⟩⟩
    refine rno (neT hc13) ?_
    refine rno (neT hc13) ?_
    refine rno (neT hc13) ?_
    refine rq (out:=Pr.bool false) (a7 hc13) ?_
    exact⟨false,h,⟨⟨aa,aa,aa,aa,aa,aa,aa,trivial⟩,Pick.refl _⟩⟩
   refine W_rs ?_
   refine rq (out:=Pr.bool x6) ag ?_
   refine rq (out:=Pr.bool (!x6)) qNot ?_
   refine ar (b:= !x6) rfl (fun hc11=> ?_) (fun hc11=> ?_)
   ·replace h:=iteT hc11 h
    refine W_r ?_
    refine rq (out:=ak []) ab ?_
    exact⟨[],h,⟨⟨aa,aa,aa,aa,aa,aa,trivial⟩,Pick.refl _⟩⟩
   replace h:=iteF hc11 h
   refine av ?_
   exact⟨x3,h,⟨⟨aa,aa,aa,aa,aa,aa,trivial⟩,Pick.refl _⟩⟩
  refine W_rs ?_
  refine rq (out:=Pr.bool x5) ag ?_
  refine rq (out:=Pr.bool (!x5)) qNot ?_
  refine ar (b:= !x5) rfl (fun hc9=> ?_) (fun hc9=> ?_)
  ·replace h:=iteT hc9 h
   refine W_r ?_
   refine rq (out:=ak []) ab ?_
   exact⟨[],h,⟨⟨aa,aa,aa,aa,aa,aa,trivial⟩,Pick.refl _⟩⟩
  replace h:=iteF hc9 h
  refine av ?_
  exact⟨x2,h,⟨⟨aa,aa,aa,aa,aa,aa,trivial⟩,Pick.refl _⟩⟩
 refine W_rs ?_
 refine rq (out:=Pr.bool x4) ag ?_
 refine rq (out:=Pr.bool (!x4)) qNot ?_
 refine ar (b:= !x4) rfl (fun hc7=> ?_) (fun hc7=> ?_)
 ·replace h:=iteT hc7 h
  refine W_r ?_
  refine rq (out:=ak []) ab ?_
  exact⟨[],h,⟨⟨aa,aa,aa,aa,aa,aa,trivial⟩,Pick.refl _⟩⟩
 replace h:=iteF hc7 h
 refine av ?_
 exact⟨x1,h,⟨⟨aa,aa,aa,aa,aa,aa,trivial⟩,Pick.refl _⟩⟩
theorem ref28_Get_ok (x1:List ApiSegment) (x2:List UInt8) (r:(List UInt8) × Bool) (h:ref28_Get x1 x2=some r):FnP Tryz.prog 22 [ae ai x1,ak x2] (bi [ak r.1,Pr.bool r.2]):=by
 refine a8 (n:=25) (rs:=[4,5]) Tryz.func22 rfl Tryz.ntmps22 ⟨by decide,Tryz.results22⟩ (by decide) (fun s0=> ?_)
 unfold ref28_Get at h
 refine W_rs ?_
 refine rq (out:=ak []) ab ?_
 refine rq (out:=Pr.bool false) ab ?_
 refine ax ?_
 refine W_rs ?_
 refine rq (out:=Pr.i64 0) ab ?_
 refine aq ?_
 obtain⟨z2l,hz2,h⟩:=ah h
 obtain⟨n2,hN2⟩:=a4 hz2
 clear hz2
 refine bp 0 (fun e C=>ref28_Get_k1=some r/\At [] [] e C) ?_ ?_
 ·rintro e C ⟨h,hat1⟩
  refine W_at hat1 ?_
  clear hat1
  unfold ref28_Get_k1 at h
  refine W_rs ?_
  refine rq (out:=ak []) ab ?_
  refine rq (out:=Pr.bool false) ab ?_
  obtain rfl:=Option.some.inj h
  exact a9 ⟨rfl,aa⟩
 refine cg (fun m e C=>∃(x3:Int),cv (fun s=>iy x1 x2 s) m x3=some z2l/\At [(0,ae ai x1),(1,ak x2),(6,Pr.i64 x3)] [] e C) n2 ⟨0,hN2,⟨⟨aa,aa,aa,trivial⟩,Pick.refl _⟩⟩ ?_
 clear hN2
 rintro m e C ⟨x3,hN2,hatl2⟩
 refine W_at hatl2 ?_
 clear hatl2
 obtain⟨m2,w2l,rfl,h2l,hn2,ho2⟩:=ay hN2
 clear hN2
 replace h2l:iy x1 x2 x3=some w2l:=h2l
 unfold iy at h2l
 refine ax ?_
 refine W_rs ?_
 refine rq (out:=Pr.i64 x3) ag ?_
 refine rq (out:=ae ai x1) ag ?_
 refine rq (out:=Pr.i64 (x1.length:Int)) (cj rfl Tryz.underlying22) ?_
 refine rq (out:=Pr.bool (decide (x3<(x1.length:Int)))) qInt ?_
 refine ar (b:=decide (x3<(x1.length:Int))) rfl (fun hc5=> ?_) (fun hc5=> ?_)
 ·replace h2l:=iteT hc5 h2l
  refine av ?_
  refine ax ?_
  refine aq ?_
  refine W_rs ?_
  refine rq (out:=ae ai x1) ag ?_
  refine rq (out:=Pr.i64 x3) ag ?_
  obtain⟨x6,hx6,h2l⟩:=ah h2l
  refine rq (out:=a5 ai x6) (co (R:=ai) (l:=x1) Tryz.underlying22 Tryz.sizeOf38 hx6) ?_
  refine rq (out:=a5 af x6.Key) (qFieldC (R:=ai) (a:=x6) fld38_0 fv) ?_
  refine rq (out:=ak x6.Key) (bh (R:=af) (a:=x6.Key) ty9) ?_
  refine rq (out:=ak x2) ag ?_
  refine rq (out:=Pr.bool (x6.Key==x2)) qStr ?_
  refine ar (b:=x6.Key==x2) rfl (fun hc7=> ?_) (fun hc7=> ?_)
  ·replace h2l:=iteT hc7 h2l
   refine W_rs ?_
   refine rq (out:=ae ai x1) ag ?_
   refine rq (out:=Pr.i64 x3) ag ?_
   obtain⟨x8,hx8,h2l⟩:=ah h2l
   refine rq (out:=a5 ai x8) (co (R:=ai) (l:=x1) Tryz.underlying22 Tryz.sizeOf38 hx8) ?_
   refine rq (out:=a5 af x8.Text) (qFieldC (R:=ai) (a:=x8) fld38_1 gc) ?_
   refine rq (out:=ak x8.Text) (bh (R:=af) (a:=x8.Text) ty9) ?_
   refine rq (out:=ak x8.Text) ab ?_
   refine rq (out:=Pr.bool true) ab ?_
   obtain rfl:=ho2 _ (Option.some.inj h2l).symm
   replace h:some (x8.Text,true)=some r:=h
   obtain rfl:=Option.some.inj h
   exact a9 ⟨rfl,aa⟩
  replace h2l:=iteF hc7 h2l
  refine av ?_
  refine W_r ?_
  refine rq (out:=Pr.i64 x3) ag ?_
  refine rq (out:=Pr.i64 (w64 (x3+1))) qInt ?_
  refine rq (out:=Pr.i64 (w64 (x3+1))) ab ?_
  exact⟨m2,Nat.lt_succ_self _,w64 (x3+1),hn2 _ (Option.some.inj h2l).symm,⟨⟨aa,aa,aa,trivial⟩,Pick.refl _⟩⟩
 replace h2l:=iteF hc5 h2l
 refine cb ?_
 obtain rfl:=ho2 _ (Option.some.inj h2l).symm
 exact⟨h,⟨trivial,Pick.refl _⟩⟩
theorem m0 (x1:List ApiSegment) (r:(List (List UInt8))) (h:kr x1=some r):FnP Tryz.prog 29 [ae ai x1] (ae af r):=by
 refine a8 (n:=20) (rs:=[2]) Tryz.func29 rfl Tryz.ntmps29 ⟨by decide,Tryz.results29⟩ (by decide) (fun s0=> ?_)
 unfold kr at h
 refine W_rs ?_
 refine rq (out:=Pr.is (.slice none 0 0)) ab ?_
 refine W_rs ?_
 refine rq (out:=Pr.is (.slice none 0 0)) ab ?_
 refine ax ?_
 refine W_rs ?_
 refine rq (out:=Pr.i64 0) ab ?_
 refine aq ?_
 obtain⟨z2l,hz2,h⟩:=ah h
 obtain⟨n2,hN2⟩:=a4 hz2
 clear hz2
 refine bp 0 (fun e C=>∃(x4:List (List UInt8)),∃(v2:Value),ref28_Keys_k1 x4=some r/\At [(3,Pr.is v2)] [Own.vec v2 af x4 9] e C) ?_ ?_
 ·rintro e C ⟨x4,v2,h,hat1⟩
  refine W_at hat1 ?_
  clear hat1
  unfold ref28_Keys_k1 at h
  refine W_rs ?_
  refine rq (out:=Pr.is v2) ag ?_
  refine rq (out:=Pr.is v2) ab ?_
  refine mq 0 [2] ?_ rfl ⟨rfl,trivial⟩
  obtain rfl:=Option.some.inj h
  exact a9 ⟨rfl,aa⟩
 refine pk [3] af 9 (fun v12=> ?_) ⟨rfl,trivial⟩
 refine cg (fun m e C=>∃(x3:Int),∃(x4:List (List UInt8)),∃(v2:Value),cv (fun s=>ja x1 s.1 s.2) m (x3,x4)=some z2l/\At [(0,ae ai x1),(3,Pr.is v2),(4,Pr.i64 x3)] [Own.vec v2 af x4 9] e C) n2 ⟨0,[],v12,hN2,⟨⟨aa,aa,aa,trivial⟩,Pick.refl _⟩⟩ ?_
 clear hN2
 rintro m e C ⟨x3,x4,v2,hN2,hatl2⟩
 refine W_at hatl2 ?_
 clear hatl2
 obtain⟨m2,w2l,rfl,h2l,hn2,ho2⟩:=ay hN2
 clear hN2
 replace h2l:ja x1 x3 x4=some w2l:=h2l
 unfold ja at h2l
 refine ax ?_
 refine W_rs ?_
 refine rq (out:=Pr.i64 x3) ag ?_
 refine rq (out:=ae ai x1) ag ?_
 refine rq (out:=Pr.i64 (x1.length:Int)) (cj rfl Tryz.underlying22) ?_
 refine rq (out:=Pr.bool (decide (x3<(x1.length:Int)))) qInt ?_
 refine ar (b:=decide (x3<(x1.length:Int))) rfl (fun hc8=> ?_) (fun hc8=> ?_)
 ·replace h2l:=iteT hc8 h2l
  refine av ?_
  refine ax ?_
  refine aq ?_
  refine W_r ?_
  refine rq (out:=Pr.is v2) ag ?_
  refine rq (out:=ae ai x1) ag ?_
  refine rq (out:=Pr.i64 x3) ag ?_
  obtain⟨x9,hx9,h2l⟩:=ah h2l
  refine rq (out:=a5 ai x9) (co (R:=ai) (l:=x1) Tryz.underlying22 Tryz.sizeOf38 hx9) ?_
  refine rq (out:=a5 af x9.Key) (qFieldC (R:=ai) (a:=x9) fld38_0 fv) ?_
  refine rq (out:=ak x9.Key) (bh (R:=af) (a:=x9.Key) ty9) ?_
  refine rq (out:=ae af ([x9.Key]:List (List UInt8))) (bb (R:=af) (a:=x9.Key) el33 (Nat.le_of_ble_eq_true rfl)) ?_
  obtain⟨x10,hx10,h2l⟩:=ah h2l
  refine ci 0 el33 hx10 (fun v11=> ?_)
  refine rq (out:=Pr.is v11) ab ?_
  refine W_r ?_
  refine rq (out:=Pr.i64 x3) ag ?_
  refine rq (out:=Pr.i64 (w64 (x3+1))) qInt ?_
  refine rq (out:=Pr.i64 (w64 (x3+1))) ab ?_
  exact⟨m2,Nat.lt_succ_self _,w64 (x3+1),x10,v11,hn2 _ (Option.some.inj h2l).symm,⟨⟨aa,aa,aa,trivial⟩,Pick.refl _⟩⟩
 replace h2l:=iteF hc8 h2l
 refine cb ?_
 obtain rfl:=ho2 _ (Option.some.inj h2l).symm
 exact⟨x4,v2,h,⟨⟨aa,trivial⟩,Pick.refl _⟩⟩
theorem pf (x1:List (List UInt8)) (x2:List UInt8) (r:Bool) (h:nq x1 x2=some r):FnP Tryz.prog 30 [ae af x1,ak x2] (Pr.bool r):=by
 refine a8 (n:=18) (rs:=[4]) Tryz.func30 rfl Tryz.ntmps30 ⟨by decide,Tryz.results30⟩ (by decide) (fun s0=> ?_)
 unfold nq at h
 refine W_rs ?_
 refine rq (out:=Pr.bool false) ab ?_
 refine ax ?_
 refine W_rs ?_
 refine rq (out:=Pr.i64 0) ab ?_
 refine aq ?_
 obtain⟨z2l,hz2,h⟩:=ah h
 obtain⟨n2,hN2⟩:=a4 hz2
 clear hz2
 refine bp 0 (fun e C=>ref30_has_k1=some r/\At [] [] e C) ?_ ?_
 ·rintro e C ⟨h,hat1⟩
  refine W_at hat1 ?_
  clear hat1
  unfold ref30_has_k1 at h
  refine W_rs ?_
  refine rq (out:=Pr.bool false) ab ?_
  obtain rfl:=Option.some.inj h
  exact a9 ⟨rfl,aa⟩
 refine cg (fun m e C=>∃(x3:Int),cv (fun s=>ix x1 x2 s) m x3=some z2l/\At [(0,ae af x1),(1,ak x2),(5,Pr.i64 x3)] [] e C) n2 ⟨0,hN2,⟨⟨aa,aa,aa,trivial⟩,Pick.refl _⟩⟩ ?_
 clear hN2
 rintro m e C ⟨x3,hN2,hatl2⟩
 refine W_at hatl2 ?_
 clear hatl2
 obtain⟨m2,w2l,rfl,h2l,hn2,ho2⟩:=ay hN2
 clear hN2
 replace h2l:ix x1 x2 x3=some w2l:=h2l
 unfold ix at h2l
 refine ax ?_
 refine W_rs ?_
 refine rq (out:=Pr.i64 x3) ag ?_
 refine rq (out:=ae af x1) ag ?_
 refine rq (out:=Pr.i64 (x1.length:Int)) (cj rfl Tryz.underlying33) ?_
 refine rq (out:=Pr.bool (decide (x3<(x1.length:Int)))) qInt ?_
 refine ar (b:=decide (x3<(x1.length:Int))) rfl (fun hc5=> ?_) (fun hc5=> ?_)
 ·replace h2l:=iteT hc5 h2l
  refine av ?_
  refine ax ?_
  refine aq ?_
  refine W_rs ?_
  refine rq (out:=ae af x1) ag ?_
  refine rq (out:=Pr.i64 x3) ag ?_
  obtain⟨x6,hx6,h2l⟩:=ah h2l
  refine rq (out:=a5 af x6) (co (R:=af) (l:=x1) Tryz.underlying33 Tryz.sizeOf9 hx6) ?_
  refine rq (out:=ak x6) (bh (R:=af) (a:=x6) ty9) ?_
  refine rq (out:=ak x2) ag ?_
  refine rq (out:=Pr.bool (x6==x2)) qStr ?_
  refine ar (b:=x6==x2) rfl (fun hc7=> ?_) (fun hc7=> ?_)
  ·replace h2l:=iteT hc7 h2l
   refine W_rs ?_
   refine rq (out:=Pr.bool true) ab ?_
   obtain rfl:=ho2 _ (Option.some.inj h2l).symm
   replace h:some true=some r:=h
   obtain rfl:=Option.some.inj h
   exact a9 ⟨rfl,aa⟩
  replace h2l:=iteF hc7 h2l
  refine av ?_
  refine W_r ?_
  refine rq (out:=Pr.i64 x3) ag ?_
  refine rq (out:=Pr.i64 (w64 (x3+1))) qInt ?_
  refine rq (out:=Pr.i64 (w64 (x3+1))) ab ?_
  exact⟨m2,Nat.lt_succ_self _,w64 (x3+1),hn2 _ (Option.some.inj h2l).symm,⟨⟨aa,aa,aa,trivial⟩,Pick.refl _⟩⟩
 replace h2l:=iteF hc5 h2l
 refine cb ?_
 obtain rfl:=ho2 _ (Option.some.inj h2l).symm
 exact⟨h,⟨trivial,Pick.refl _⟩⟩
theorem ref30_once_ok (x1:List (List UInt8)) (r:(List (List UInt8))) (h:mu x1=some r):FnC Tryz.prog 32 [ae af x1] [] (fun q C'=>∃u0,q=Pr.is u0/\C'=[Own.vec u0 af r 9]):=by
 refine fj (n:=28) (rs:=[2]) Tryz.func32 rfl Tryz.ntmps32 ⟨by decide,Tryz.results32⟩ (by decide) (fun s0=> ?_)
 unfold mu at h
 refine W_rs ?_
 refine rq (out:=Pr.is (.slice none 0 0)) ab ?_
 refine W_rs ?_
 refine rq (out:=Pr.is (.slice none 0 0)) ab ?_
 refine ax ?_
 refine W_rs ?_
 refine rq (out:=Pr.i64 0) ab ?_
 refine aq ?_
 obtain⟨z2l,hz2,h⟩:=ah h
 obtain⟨n2,hN2⟩:=a4 hz2
 clear hz2
 refine bp 0 (fun e C=>∃(x4:List (List UInt8)),∃(v2:Value),ref30_once_k1 x4=some r/\At [(3,Pr.is v2)] [Own.vec v2 af x4 9] e C) ?_ ?_
 ·rintro e C ⟨x4,v2,h,hat1⟩
  refine W_at hat1 ?_
  clear hat1
  unfold ref30_once_k1 at h
  refine W_rs ?_
  refine rq (out:=Pr.is v2) ag ?_
  refine rq (out:=Pr.is v2) ab ?_
  obtain rfl:=Option.some.inj h
  exact a9 ⟨.inl rfl,_,Pick.refl _,_,(aa),v2,rfl,rfl⟩
 refine pk [3] af 9 (fun v17=> ?_) ⟨rfl,trivial⟩
 refine cg (fun m e C=>∃(x3:Int),∃(x4:List (List UInt8)),∃(v2:Value),cv (fun s=>i8 x1 s.1 s.2) m (x3,x4)=some z2l/\At [(0,ae af x1),(3,Pr.is v2),(4,Pr.i64 x3)] [Own.vec v2 af x4 9] e C) n2 ⟨0,[],v17,hN2,⟨⟨aa,aa,aa,trivial⟩,Pick.refl _⟩⟩ ?_
 clear hN2
 rintro m e C ⟨x3,x4,v2,hN2,hatl2⟩
 refine W_at hatl2 ?_
 clear hatl2
 obtain⟨m2,w2l,rfl,h2l,hn2,ho2⟩:=ay hN2
 clear hN2
 replace h2l:i8 x1 x3 x4=some w2l:=h2l
 unfold i8 at h2l
 refine ax ?_
 refine W_rs ?_
 refine rq (out:=Pr.i64 x3) ag ?_
 refine rq (out:=ae af x1) ag ?_
 refine rq (out:=Pr.i64 (x1.length:Int)) (cj rfl Tryz.underlying33) ?_
 refine rq (out:=Pr.bool (decide (x3<(x1.length:Int)))) qInt ?_
 refine ar (b:=decide (x3<(x1.length:Int))) rfl (fun hc8=> ?_) (fun hc8=> ?_)
 ·replace h2l:=iteT hc8 h2l
  refine av ?_
  refine bd (fun e C=>∃(x16:List (List UInt8)),∃(v15:Value),ref30_once_j3 x3 x16=some w2l/\At [(0,ae af x1),(3,Pr.is v15),(4,Pr.i64 x3)] [Own.vec v15 af x16 9] e C) ?_ ?_
  ·rintro e C ⟨x16,v15,h2l,hat3⟩
   refine W_at hat3 ?_
   clear hat3
   unfold ref30_once_j3 at h2l
   refine W_r ?_
   refine rq (out:=Pr.i64 x3) ag ?_
   refine rq (out:=Pr.i64 (w64 (x3+1))) qInt ?_
   refine rq (out:=Pr.i64 (w64 (x3+1))) ab ?_
   exact⟨m2,Nat.lt_succ_self _,w64 (x3+1),x16,v15,hn2 _ (Option.some.inj h2l).symm,⟨⟨aa,aa,aa,trivial⟩,Pick.refl _⟩⟩
  refine aq ?_
  refine W_rs ?_
  refine rq (out:=Pr.is v2) ag ?_
  refine rq (out:=ae af x1) ag ?_
  refine rq (out:=Pr.i64 x3) ag ?_
  obtain⟨x9,hx9,h2l⟩:=ah h2l
  refine rq (out:=a5 af x9) (co (R:=af) (l:=x1) Tryz.underlying33 Tryz.sizeOf9 hx9) ?_
  refine rq (out:=ak x9) (bh (R:=af) (a:=x9) ty9) ?_
  obtain⟨x10,hx10,h2l⟩:=ah h2l
  refine rq (out:=Pr.bool x10) (qCallB 0 (pf x4 x9 _ hx10) ⟨.inr ⟨aa,rfl⟩,.inl aa,trivial⟩ (fun _ _ _ h=>h)) ?_
  refine rq (out:=Pr.bool x10) ab ?_
  refine W_rs ?_
  refine rq (out:=Pr.bool x10) ag ?_
  refine rq (out:=Pr.bool (!x10)) qNot ?_
  refine ar (b:= !x10) rfl (fun hc11=> ?_) (fun hc11=> ?_)
  ·replace h2l:=iteT hc11 h2l
   refine W_r ?_
   refine rq (out:=Pr.is v2) ag ?_
   refine rq (out:=ae af x1) ag ?_
   refine rq (out:=Pr.i64 x3) ag ?_
   obtain⟨x12,hx12,h2l⟩:=ah h2l
   refine rq (out:=a5 af x12) (co (R:=af) (l:=x1) Tryz.underlying33 Tryz.sizeOf9 hx12) ?_
   refine rq (out:=ak x12) (bh (R:=af) (a:=x12) ty9) ?_
   refine rq (out:=ae af ([x12]:List (List UInt8))) (bb (R:=af) (a:=x12) el33 (Nat.le_of_ble_eq_true rfl)) ?_
   obtain⟨x13,hx13,h2l⟩:=ah h2l
   refine ci 0 el33 hx13 (fun v14=> ?_)
   refine rq (out:=Pr.is v14) ab ?_
   exact⟨x13,v14,h2l,⟨⟨aa,aa,aa,trivial⟩,Pick.refl _⟩⟩
  replace h2l:=iteF hc11 h2l
  refine av ?_
  exact⟨x4,v2,h2l,⟨⟨aa,aa,aa,trivial⟩,Pick.refl _⟩⟩
 replace h2l:=iteF hc8 h2l
 refine cb ?_
 obtain rfl:=ho2 _ (Option.some.inj h2l).symm
 exact⟨x4,v2,h,⟨⟨aa,trivial⟩,Pick.refl _⟩⟩
theorem ref30_Texts_ok (x1 x2 x3:List ApiSegment) (r:(List ApiSegment) × (List ApiConflict)) (h:ref30_Texts x1 x2 x3=some r):FnC Tryz.prog 13 [ae ai x1,ae ai x2,ae ai x3] [] (fun q C'=>∃u0,q=bi [ae ai r.1,Pr.is u0]/\C'=[Own.vec u0 au r.2 46]):=by
 refine fj (n:=102) (rs:=[6,7]) Tryz.func13 rfl Tryz.ntmps13 ⟨by decide,Tryz.results13⟩ (by decide) (fun s0=> ?_)
 unfold ref30_Texts at h
 refine W_rs ?_
 refine rq (out:=Pr.is (.slice none 0 0)) ab ?_
 refine rq (out:=Pr.is (.slice none 0 0)) ab ?_
 refine W_rs ?_
 refine rq (out:=Pr.is (.slice none 0 0)) ab ?_
 refine W_rs ?_
 refine rq (out:=Pr.is (.slice none 0 0)) ag ?_
 refine rq (out:=ae ai x2) ag ?_
 obtain⟨x4,hx4,h⟩:=ah h
 refine rq (out:=ae af x4) (bq (m0 x2 _ hx4)) ?_
 obtain⟨x6,hx6,h⟩:=ah h
 refine rNil [21] af 9 (fun v5=> ?_) ⟨rfl,trivial⟩
 refine ci 0 el33 hx6 (fun v7=> ?_)
 refine rq (out:=Pr.is v7) ab ?_
 refine W_rs ?_
 refine rq (out:=Pr.is v7) ag ?_
 refine rq (out:=ae ai x1) ag ?_
 obtain⟨x8,hx8,h⟩:=ah h
 refine rq (out:=ae af x8) (bq (m0 x1 _ hx8)) ?_
 obtain⟨x9,hx9,h⟩:=ah h
 refine ci 0 el33 hx9 (fun v10=> ?_)
 refine rq (out:=Pr.is v10) ab ?_
 refine W_rs ?_
 refine rq (out:=Pr.is v10) ag ?_
 refine rq (out:=ae ai x3) ag ?_
 obtain⟨x11,hx11,h⟩:=ah h
 refine rq (out:=ae af x11) (bq (m0 x3 _ hx11)) ?_
 obtain⟨x12,hx12,h⟩:=ah h
 refine ci 0 el33 hx12 (fun v13=> ?_)
 refine rq (out:=Pr.is v13) ab ?_
 refine W_rs ?_
 refine rq (out:=Pr.is v13) ag ?_
 obtain⟨x14,hx14,h⟩:=ah h
 refine rRel 0 [8,33] ?_ rfl ⟨rfl,rfl,trivial⟩
 refine pb [] (ref30_once_ok x12 _ hx14) (fun q C' hq=> ?_)
 obtain⟨v15,rfl,rfl⟩:=hq
 refine rq (out:=Pr.is v15) ab ?_
 refine W_rs ?_
 refine rq (out:=Pr.is (.slice none 0 0)) ab ?_
 refine W_rs ?_
 refine rq (out:=Pr.is (.slice none 0 0)) ab ?_
 refine ax ?_
 refine W_rs ?_
 refine rq (out:=Pr.i64 0) ab ?_
 refine aq ?_
 obtain⟨z2l,hz2,h⟩:=ah h
 obtain⟨n2,hN2⟩:=a4 hz2
 clear hz2
 refine bp 0 (fun e C=>∃(x19:List ApiSegment),∃(x20:List ApiConflict),∃(v16:Value),∃(v17:Value),ref30_Texts_k1 x19 x20=some r/\At [(9,Pr.is v16),(10,Pr.is v17)] [Own.vec v16 ai x19 38,Own.vec v17 au x20 46] e C) ?_ ?_
 ·rintro e C ⟨x19,x20,v16,v17,h,hat1⟩
  refine W_at hat1 ?_
  clear hat1
  unfold ref30_Texts_k1 at h
  refine W_rs ?_
  refine rq (out:=Pr.is v16) ag ?_
  refine rq (out:=Pr.is v17) ag ?_
  refine rq (out:=Pr.is v16) ab ?_
  refine rq (out:=Pr.is v17) ab ?_
  refine mq 0 [6] ?_ rfl ⟨rfl,trivial⟩
  obtain rfl:=Option.some.inj h
  exact a9 ⟨.inl rfl,_,Pick.refl _,_,(aa),v17,rfl,rfl⟩
 refine pk [9] ai 38 (fun v51=> ?_) ⟨rfl,trivial⟩
 refine pk [10] au 46 (fun v52=> ?_) ⟨rfl,trivial⟩
 refine cg (fun m e C=>∃(x18:Int),∃(x19:List ApiSegment),∃(x20:List ApiConflict),∃(v16:Value),∃(v17:Value),cv (fun s=>g8 x14 x1 x2 x3 s.1 s.2.1 s.2.2) m (x18,x19,x20)=some z2l/\At [(0,ae ai x1),(1,ae ai x2),(2,ae ai x3),(8,Pr.is v15),(9,Pr.is v16),(10,Pr.is v17),(11,Pr.i64 x18)] [Own.vec v15 af x14 9,Own.vec v16 ai x19 38,Own.vec v17 au x20 46] e C) n2 ⟨0,[],[],v51,v52,hN2,⟨⟨aa,aa,aa,aa,aa,aa,aa,trivial⟩,Pick.refl _⟩⟩ ?_
 clear hN2
 rintro m e C ⟨x18,x19,x20,v16,v17,hN2,hatl2⟩
 refine W_at hatl2 ?_
 clear hatl2
 obtain⟨m2,w2l,rfl,h2l,hn2,ho2⟩:=ay hN2
 clear hN2
 replace h2l:g8 x14 x1 x2 x3 x18 x19 x20=some w2l:=h2l
 unfold g8 at h2l
 refine ax ?_
 refine W_rs ?_
 refine rq (out:=Pr.i64 x18) ag ?_
 refine rq (out:=Pr.is v15) ag ?_
 refine rq (out:=Pr.i64 (x14.length:Int)) (qLenV 0 rfl Tryz.underlying33) ?_
 refine rq (out:=Pr.bool (decide (x18<(x14.length:Int)))) qInt ?_
 refine ar (b:=decide (x18<(x14.length:Int))) rfl (fun hc26=> ?_) (fun hc26=> ?_)
 ·replace h2l:=iteT hc26 h2l
  refine av ?_
  refine bd (fun e C=>∃(x50:List ApiSegment),∃(x44:List ApiConflict),∃(v49:Value),∃(v43:Value),nu x18 x50 x44=some w2l/\At [(0,ae ai x1),(1,ae ai x2),(2,ae ai x3),(8,Pr.is v15),(9,Pr.is v49),(10,Pr.is v43),(11,Pr.i64 x18)] [Own.vec v15 af x14 9,Own.vec v49 ai x50 38,Own.vec v43 au x44 46] e C) ?_ ?_
  ·rintro e C ⟨x50,x44,v49,v43,h2l,hat3⟩
   refine W_at hat3 ?_
   clear hat3
   unfold nu at h2l
   refine W_r ?_
   refine rq (out:=Pr.i64 x18) ag ?_
   refine rq (out:=Pr.i64 (w64 (x18+1))) qInt ?_
   refine rq (out:=Pr.i64 (w64 (x18+1))) ab ?_
   exact⟨m2,Nat.lt_succ_self _,w64 (x18+1),x50,x44,v49,v43,hn2 _ (Option.some.inj h2l).symm,⟨⟨aa,aa,aa,aa,aa,aa,aa,trivial⟩,Pick.refl _⟩⟩
  refine aq ?_
  refine W_rs ?_
  refine rq (out:=ae ai x1) ag ?_
  refine rq (out:=Pr.is v15) ag ?_
  refine rq (out:=Pr.i64 x18) ag ?_
  obtain⟨x27,hx27,h2l⟩:=ah h2l
  refine rq (out:=cf v15 (Int.toNat x18 * (af).size)) (ie 0 (R:=af) (l:=x14) Tryz.underlying33 Tryz.sizeOf9 hx27) ?_
  refine rq (out:=ak x27) (ig (R:=af) (R':=af) (l:=x14) (a:=x27) (o:=0) 0 ty9 (Sub.refl _) (Nat.le_of_ble_eq_true rfl) hx27 rfl) ?_
  obtain⟨⟨x28,x29⟩,hx28,h2l⟩:=ah h2l
  refine rq (out:=bi [ak x28,Pr.bool x29]) (bq (ref28_Get_ok x1 x27 _ hx28)) ?_
  refine rq (out:=bi [ak x28,Pr.bool x29]) ag ?_
  refine rq (out:=ak x28) a6 ?_
  refine rq (out:=Pr.bool x29) a6 ?_
  refine rq (out:=ak x28) ab ?_
  refine rq (out:=Pr.bool x29) ab ?_
  refine W_rs ?_
  refine rq (out:=ae ai x2) ag ?_
  refine rq (out:=Pr.is v15) ag ?_
  refine rq (out:=Pr.i64 x18) ag ?_
  obtain⟨x30,hx30,h2l⟩:=ah h2l
  refine rq (out:=cf v15 (Int.toNat x18 * (af).size)) (ie 0 (R:=af) (l:=x14) Tryz.underlying33 Tryz.sizeOf9 hx30) ?_
  refine rq (out:=ak x30) (ig (R:=af) (R':=af) (l:=x14) (a:=x30) (o:=0) 0 ty9 (Sub.refl _) (Nat.le_of_ble_eq_true rfl) hx30 rfl) ?_
  obtain⟨⟨x31,x32⟩,hx31,h2l⟩:=ah h2l
  refine rq (out:=bi [ak x31,Pr.bool x32]) (bq (ref28_Get_ok x2 x30 _ hx31)) ?_
  refine rq (out:=bi [ak x31,Pr.bool x32]) ag ?_
  refine rq (out:=ak x31) a6 ?_
  refine rq (out:=Pr.bool x32) a6 ?_
  refine rq (out:=ak x31) ab ?_
  refine rq (out:=Pr.bool x32) ab ?_
  refine W_rs ?_
  refine rq (out:=ae ai x3) ag ?_
  refine rq (out:=Pr.is v15) ag ?_
  refine rq (out:=Pr.i64 x18) ag ?_
  obtain⟨x33,hx33,h2l⟩:=ah h2l
  refine rq (out:=cf v15 (Int.toNat x18 * (af).size)) (ie 0 (R:=af) (l:=x14) Tryz.underlying33 Tryz.sizeOf9 hx33) ?_
  refine rq (out:=ak x33) (ig (R:=af) (R':=af) (l:=x14) (a:=x33) (o:=0) 0 ty9 (Sub.refl _) (Nat.le_of_ble_eq_true rfl) hx33 rfl) ?_
  obtain⟨⟨x34,x35⟩,hx34,h2l⟩:=ah h2l
  refine rq (out:=bi [ak x34,Pr.bool x35]) (bq (ref28_Get_ok x3 x33 _ hx34)) ?_
  refine rq (out:=bi [ak x34,Pr.bool x35]) ag ?_
  refine rq (out:=ak x34) a6 ?_
  refine rq (out:=Pr.bool x35) a6 ?_
  refine rq (out:=ak x34) ab ?_
  refine rq (out:=Pr.bool x35) ab ?_
  refine W_rs ?_
  refine rq (out:=ak x28) ag ?_
  refine rq (out:=ak x31) ag ?_
  refine rq (out:=ak x34) ag ?_
  refine rq (out:=Pr.bool x29) ag ?_
  refine rq (out:=Pr.bool x32) ag ?_
  refine rq (out:=Pr.bool x35) ag ?_
  obtain⟨⟨x36,x37,x38⟩,hx36,h2l⟩:=ah h2l
  refine rq (out:=bi [ak x36,Pr.bool x37,Pr.i64 x38]) (bq (ref30_Three_ok x28 x31 x34 x29 x32 x35 _ hx36)) ?_
  refine rq (out:=bi [ak x36,Pr.bool x37,Pr.i64 x38]) ag ?_
  refine rq (out:=ak x36) a6 ?_
  refine rq (out:=Pr.bool x37) a6 ?_
  refine rq (out:=Pr.i64 x38) a6 ?_
  refine rq (out:=ak x36) ab ?_
  refine rq (out:=Pr.bool x37) ab ?_
  refine rq (out:=Pr.i64 x38) ab ?_
  refine bd (fun e C=>∃(x44:List ApiConflict),∃(v43:Value),k5 x37 x14 x18 x19 x36 x44=some w2l/\At [(0,ae ai x1),(1,ae ai x2),(2,ae ai x3),(8,Pr.is v15),(9,Pr.is v16),(10,Pr.is v43),(11,Pr.i64 x18),(18,ak x36),(19,Pr.bool x37)] [Own.vec v15 af x14 9,Own.vec v16 ai x19 38,Own.vec v43 au x44 46] e C) ?_ ?_
  ·rintro e C ⟨x44,v43,h2l,hat4⟩
   refine W_at hat4 ?_
   clear hat4
   unfold k5 at h2l
   refine W_rs ?_
   refine rq (out:=Pr.bool x37) ag ?_
   refine ar (b:=x37) rfl (fun hc45=> ?_) (fun hc45=> ?_)
   ·replace h2l:=iteT hc45 h2l
    refine W_r ?_
    refine rq (out:=Pr.is v16) ag ?_
    refine rq (out:=Pr.is v15) ag ?_
    refine rq (out:=Pr.i64 x18) ag ?_
    obtain⟨x46,hx46,h2l⟩:=ah h2l
    refine rq (out:=cf v15 (Int.toNat x18 * (af).size)) (ie 0 (R:=af) (l:=x14) Tryz.underlying33 Tryz.sizeOf9 hx46) ?_
    refine rq (out:=ak x46) (ig (R:=af) (R':=af) (l:=x14) (a:=x46) (o:=0) 0 ty9 (Sub.refl _) (Nat.le_of_ble_eq_true rfl) hx46 rfl) ?_
    refine rq (out:=ak x36) ag ?_
    refine rq (out:=(ai).val (ApiSegment.mk x46 x36)) (iv st38 ⟨(ApiSegment.mk x46 []),⟨_,rfl,rfl,fun j fd hj hf=>by match j,hj with| 0,h=>exact absurd rfl h| 1,_=>cases hf;rfl|_+2,_=>cases hf⟩,⟨(ApiSegment.mk x46 x36),⟨_,rfl,rfl,fun j fd hj hf=>by match j,hj with| 0,_=>cases hf;rfl| 1,h=>exact absurd rfl h|_+2,_=>cases hf⟩,rfl⟩⟩) ?_
    refine rq (out:=ae ai ([(ApiSegment.mk x46 x36)]:List ApiSegment)) (bb (R:=ai) (a:=(ApiSegment.mk x46 x36)) el22 (Nat.le_of_ble_eq_true rfl)) ?_
    obtain⟨x47,hx47,h2l⟩:=ah h2l
    refine ci 1 el22 hx47 (fun v48=> ?_)
    refine rq (out:=Pr.is v48) ab ?_
    exact⟨x47,x44,v48,v43,h2l,⟨⟨aa,aa,aa,aa,aa,aa,aa,trivial⟩,Pick.refl _⟩⟩
   replace h2l:=iteF hc45 h2l
   refine av ?_
   exact⟨x19,x44,v16,v43,h2l,⟨⟨aa,aa,aa,aa,aa,aa,aa,trivial⟩,Pick.refl _⟩⟩
  refine W_rs ?_
  refine rq (out:=Pr.i64 x38) ag ?_
  refine rq (out:=Pr.bool (x38 != 0)) qInt ?_
  refine ar (b:=x38 != 0) rfl (fun hc39=> ?_) (fun hc39=> ?_)
  ·replace h2l:=iteT hc39 h2l
   refine W_r ?_
   refine rq (out:=Pr.is v17) ag ?_
   refine rq (out:=Pr.i64 x38) ag ?_
   refine rq (out:=Pr.is v15) ag ?_
   refine rq (out:=Pr.i64 x18) ag ?_
   obtain⟨x40,hx40,h2l⟩:=ah h2l
   refine rq (out:=cf v15 (Int.toNat x18 * (af).size)) (ie 0 (R:=af) (l:=x14) Tryz.underlying33 Tryz.sizeOf9 hx40) ?_
   refine rq (out:=ak x40) (ig (R:=af) (R':=af) (l:=x14) (a:=x40) (o:=0) 0 ty9 (Sub.refl _) (Nat.le_of_ble_eq_true rfl) hx40 rfl) ?_
   refine rq (out:=(au).val (ApiConflict.mk x38 x40)) (iv st46 ⟨(ApiConflict.mk x38 []),⟨_,rfl,rfl,fun j fd hj hf=>by match j,hj with| 0,h=>exact absurd rfl h| 1,_=>cases hf;rfl|_+2,_=>cases hf⟩,⟨(ApiConflict.mk x38 x40),⟨_,rfl,rfl,fun j fd hj hf=>by match j,hj with| 0,_=>cases hf;rfl| 1,h=>exact absurd rfl h|_+2,_=>cases hf⟩,rfl⟩⟩) ?_
   refine rq (out:=ae au ([(ApiConflict.mk x38 x40)]:List ApiConflict)) (bb (R:=au) (a:=(ApiConflict.mk x38 x40)) el25 (Nat.le_of_ble_eq_true rfl)) ?_
   obtain⟨x41,hx41,h2l⟩:=ah h2l
   refine ci 2 el25 hx41 (fun v42=> ?_)
   refine rq (out:=Pr.is v42) ab ?_
   exact⟨x41,v42,h2l,⟨⟨aa,aa,aa,aa,aa,aa,aa,aa,aa,trivial⟩,Pick.refl _⟩⟩
  replace h2l:=iteF hc39 h2l
  refine av ?_
  exact⟨x20,v17,h2l,⟨⟨aa,aa,aa,aa,aa,aa,aa,aa,aa,trivial⟩,Pick.refl _⟩⟩
 replace h2l:=iteF hc26 h2l
 refine cb ?_
 obtain rfl:=ho2 _ (Option.some.inj h2l).symm
 exact⟨x19,x20,v16,v17,h,⟨⟨aa,aa,trivial⟩,Pick.of [1,2] rfl⟩⟩
theorem ref30_kept_ok (x1 x2 x3 x4:List (List UInt8)) (r:(List (List UInt8))) (h:ref30_kept x1 x2 x3 x4=some r):FnP Tryz.prog 42 [ae af x1,ae af x2,ae af x3,ae af x4] (ae af r):=by
 refine a8 (n:=54) (rs:=[8]) Tryz.func42 rfl Tryz.ntmps42 ⟨by decide,Tryz.results42⟩ (by decide) (fun s0=> ?_)
 unfold ref30_kept at h
 refine W_rs ?_
 refine rq (out:=Pr.is (.slice none 0 0)) ab ?_
 refine W_rs ?_
 refine rq (out:=Pr.is (.slice none 0 0)) ab ?_
 refine ax ?_
 refine W_rs ?_
 refine rq (out:=Pr.i64 0) ab ?_
 refine aq ?_
 obtain⟨z2l,hz2,h⟩:=ah h
 obtain⟨n2,hN2⟩:=a4 hz2
 clear hz2
 refine bp 0 (fun e C=>∃(x7:List (List UInt8)),∃(v5:Value),ref30_kept_k1 x7=some r/\At [(9,Pr.is v5)] [Own.vec v5 af x7 9] e C) ?_ ?_
 ·rintro e C ⟨x7,v5,h,hat1⟩
  refine W_at hat1 ?_
  clear hat1
  unfold ref30_kept_k1 at h
  refine W_rs ?_
  refine rq (out:=Pr.is v5) ag ?_
  refine rq (out:=Pr.is v5) ab ?_
  refine mq 0 [8] ?_ rfl ⟨rfl,trivial⟩
  obtain rfl:=Option.some.inj h
  exact a9 ⟨rfl,aa⟩
 refine pk [9] af 9 (fun v27=> ?_) ⟨rfl,trivial⟩
 refine cg (fun m e C=>∃(x6:Int),∃(x7:List (List UInt8)),∃(v5:Value),cv (fun s=>i9 x1 x2 x3 x4 s.1 s.2) m (x6,x7)=some z2l/\At [(0,ae af x1),(1,ae af x2),(2,ae af x3),(3,ae af x4),(9,Pr.is v5),(10,Pr.i64 x6)] [Own.vec v5 af x7 9] e C) n2 ⟨0,[],v27,hN2,⟨⟨aa,aa,aa,aa,aa,aa,trivial⟩,Pick.refl _⟩⟩ ?_
 clear hN2
 rintro m e C ⟨x6,x7,v5,hN2,hatl2⟩
 refine W_at hatl2 ?_
 clear hatl2
 obtain⟨m2,w2l,rfl,h2l,hn2,ho2⟩:=ay hN2
 clear hN2
 replace h2l:i9 x1 x2 x3 x4 x6 x7=some w2l:=h2l
 unfold i9 at h2l
 refine ax ?_
 refine W_rs ?_
 refine rq (out:=Pr.i64 x6) ag ?_
 refine rq (out:=ae af x1) ag ?_
 refine rq (out:=Pr.i64 (x1.length:Int)) (cj rfl Tryz.underlying33) ?_
 refine rq (out:=Pr.bool (decide (x6<(x1.length:Int)))) qInt ?_
 refine ar (b:=decide (x6<(x1.length:Int))) rfl (fun hc11=> ?_) (fun hc11=> ?_)
 ·replace h2l:=iteT hc11 h2l
  refine av ?_
  refine bd (fun e C=>∃(x26:List (List UInt8)),∃(v25:Value),ref30_kept_j3 x6 x26=some w2l/\At [(0,ae af x1),(1,ae af x2),(2,ae af x3),(3,ae af x4),(9,Pr.is v25),(10,Pr.i64 x6)] [Own.vec v25 af x26 9] e C) ?_ ?_
  ·rintro e C ⟨x26,v25,h2l,hat3⟩
   refine W_at hat3 ?_
   clear hat3
   unfold ref30_kept_j3 at h2l
   refine W_r ?_
   refine rq (out:=Pr.i64 x6) ag ?_
   refine rq (out:=Pr.i64 (w64 (x6+1))) qInt ?_
   refine rq (out:=Pr.i64 (w64 (x6+1))) ab ?_
   exact⟨m2,Nat.lt_succ_self _,w64 (x6+1),x26,v25,hn2 _ (Option.some.inj h2l).symm,⟨⟨aa,aa,aa,aa,aa,aa,trivial⟩,Pick.refl _⟩⟩
  refine aq ?_
  refine W_rs ?_
  refine rq (out:=ae af x2) ag ?_
  refine rq (out:=ae af x1) ag ?_
  refine rq (out:=Pr.i64 x6) ag ?_
  obtain⟨x12,hx12,h2l⟩:=ah h2l
  refine rq (out:=a5 af x12) (co (R:=af) (l:=x1) Tryz.underlying33 Tryz.sizeOf9 hx12) ?_
  refine rq (out:=ak x12) (bh (R:=af) (a:=x12) ty9) ?_
  obtain⟨x13,hx13,h2l⟩:=ah h2l
  refine rq (out:=Pr.bool x13) (bq (pf x2 x12 _ hx13)) ?_
  refine rq (out:=Pr.bool x13) ab ?_
  refine W_rs ?_
  refine rq (out:=ae af x3) ag ?_
  refine rq (out:=ae af x1) ag ?_
  refine rq (out:=Pr.i64 x6) ag ?_
  obtain⟨x14,hx14,h2l⟩:=ah h2l
  refine rq (out:=a5 af x14) (co (R:=af) (l:=x1) Tryz.underlying33 Tryz.sizeOf9 hx14) ?_
  refine rq (out:=ak x14) (bh (R:=af) (a:=x14) ty9) ?_
  obtain⟨x15,hx15,h2l⟩:=ah h2l
  refine rq (out:=Pr.bool x15) (bq (pf x3 x14 _ hx15)) ?_
  refine rq (out:=Pr.bool x15) ab ?_
  refine W_rs ?_
  refine rq (out:=ae af x4) ag ?_
  refine rq (out:=ae af x1) ag ?_
  refine rq (out:=Pr.i64 x6) ag ?_
  obtain⟨x16,hx16,h2l⟩:=ah h2l
  refine rq (out:=a5 af x16) (co (R:=af) (l:=x1) Tryz.underlying33 Tryz.sizeOf9 hx16) ?_
  refine rq (out:=ak x16) (bh (R:=af) (a:=x16) ty9) ?_
  obtain⟨x17,hx17,h2l⟩:=ah h2l
  refine rq (out:=Pr.bool x17) (bq (pf x4 x16 _ hx17)) ?_
  refine rq (out:=Pr.bool x17) ab ?_
  refine bd (fun e C=>∃(x20:Bool),j6 x1 x6 x7 x20=some w2l/\At [(0,ae af x1),(1,ae af x2),(2,ae af x3),(3,ae af x4),(9,Pr.is v5),(10,Pr.i64 x6),(45,Pr.bool x20)] [Own.vec v5 af x7 9] e C) ?_ ?_
  ·rintro e C ⟨x20,h2l,hat4⟩
   refine W_at hat4 ?_
   clear hat4
   unfold j6 at h2l
   refine ar (b:=x20) rfl (fun hc21=> ?_) (fun hc21=> ?_)
   ·replace h2l:=iteT hc21 h2l
    refine W_r ?_
    refine rq (out:=Pr.is v5) ag ?_
    refine rq (out:=ae af x1) ag ?_
    refine rq (out:=Pr.i64 x6) ag ?_
    obtain⟨x22,hx22,h2l⟩:=ah h2l
    refine rq (out:=a5 af x22) (co (R:=af) (l:=x1) Tryz.underlying33 Tryz.sizeOf9 hx22) ?_
    refine rq (out:=ak x22) (bh (R:=af) (a:=x22) ty9) ?_
    refine rq (out:=ae af ([x22]:List (List UInt8))) (bb (R:=af) (a:=x22) el33 (Nat.le_of_ble_eq_true rfl)) ?_
    obtain⟨x23,hx23,h2l⟩:=ah h2l
    refine ci 0 el33 hx23 (fun v24=> ?_)
    refine rq (out:=Pr.is v24) ab ?_
    exact⟨x23,v24,h2l,⟨⟨aa,aa,aa,aa,aa,aa,trivial⟩,Pick.refl _⟩⟩
   replace h2l:=iteF hc21 h2l
   refine av ?_
   exact⟨x7,v5,h2l,⟨⟨aa,aa,aa,aa,aa,aa,trivial⟩,Pick.refl _⟩⟩
  refine W_r ?_
  refine rq (out:=Pr.bool x13) ag ?_
  refine rq (out:=Pr.bool (!x13)) qNot ?_
  refine rq (out:=Pr.bool (!x13)) ag ?_
  rcases bj h2l with⟨hc18,h2l⟩|⟨hc18,h2l⟩
  ·refine rno (neF hc18) ?_
   refine rno (neF hc18) ?_
   refine rnoU ?_
   refine rno (neF hc18) ?_
   refine rq (out:=Pr.bool true) (bv hc18) ?_
   exact⟨true,h2l,⟨⟨aa,aa,aa,aa,aa,aa,aa,trivial⟩,Pick.refl _⟩⟩
  refine rqg hc18 (out:=Pr.bool x15) ag ?_
  refine rqg hc18 (out:=Pr.bool x15) ag ?_
  rcases bj h2l with⟨hc19,h2l⟩|⟨hc19,h2l⟩
  ·refine rqg hc19 (out:=Pr.bool x17) ag ?_
   refine rqg hc18 (out:=Pr.bool x17) (bv hc19) ?_
   refine rq (out:=Pr.bool x17) (a7 hc18) ?_
   exact⟨x17,h2l,⟨⟨aa,aa,aa,aa,aa,aa,aa,trivial⟩,Pick.refl _⟩⟩
  refine rno (neT hc19) ?_
  refine rqg hc18 (out:=Pr.bool false) (a7 hc19) ?_
  refine rq (out:=Pr.bool false) (a7 hc18) ?_
  exact⟨false,h2l,⟨⟨aa,aa,aa,aa,aa,aa,aa,trivial⟩,Pick.refl _⟩⟩
 replace h2l:=iteF hc11 h2l
 refine cb ?_
 obtain rfl:=ho2 _ (Option.some.inj h2l).symm
 exact⟨x7,v5,h,⟨⟨aa,trivial⟩,Pick.refl _⟩⟩
theorem ref30_without_ok (x1 x2:List (List UInt8)) (r:(List (List UInt8))) (h:ref30_without x1 x2=some r):FnP Tryz.prog 44 [ae af x1,ae af x2] (ae af r):=by
 refine a8 (n:=30) (rs:=[4]) Tryz.func44 rfl Tryz.ntmps44 ⟨by decide,Tryz.results44⟩ (by decide) (fun s0=> ?_)
 unfold ref30_without at h
 refine W_rs ?_
 refine rq (out:=Pr.is (.slice none 0 0)) ab ?_
 refine W_rs ?_
 refine rq (out:=Pr.is (.slice none 0 0)) ab ?_
 refine ax ?_
 refine W_rs ?_
 refine rq (out:=Pr.i64 0) ab ?_
 refine aq ?_
 obtain⟨z2l,hz2,h⟩:=ah h
 obtain⟨n2,hN2⟩:=a4 hz2
 clear hz2
 refine bp 0 (fun e C=>∃(x5:List (List UInt8)),∃(v3:Value),oq x5=some r/\At [(5,Pr.is v3)] [Own.vec v3 af x5 9] e C) ?_ ?_
 ·rintro e C ⟨x5,v3,h,hat1⟩
  refine W_at hat1 ?_
  clear hat1
  unfold oq at h
  refine W_rs ?_
  refine rq (out:=Pr.is v3) ag ?_
  refine rq (out:=Pr.is v3) ab ?_
  refine mq 0 [4] ?_ rfl ⟨rfl,trivial⟩
  obtain rfl:=Option.some.inj h
  exact a9 ⟨rfl,aa⟩
 refine pk [5] af 9 (fun v18=> ?_) ⟨rfl,trivial⟩
 refine cg (fun m e C=>∃(x4:Int),∃(x5:List (List UInt8)),∃(v3:Value),cv (fun s=>fk x1 x2 s.1 s.2) m (x4,x5)=some z2l/\At [(0,ae af x1),(1,ae af x2),(5,Pr.is v3),(6,Pr.i64 x4)] [Own.vec v3 af x5 9] e C) n2 ⟨0,[],v18,hN2,⟨⟨aa,aa,aa,aa,trivial⟩,Pick.refl _⟩⟩ ?_
 clear hN2
 rintro m e C ⟨x4,x5,v3,hN2,hatl2⟩
 refine W_at hatl2 ?_
 clear hatl2
 obtain⟨m2,w2l,rfl,h2l,hn2,ho2⟩:=ay hN2
 clear hN2
 replace h2l:fk x1 x2 x4 x5=some w2l:=h2l
 unfold fk at h2l
 refine ax ?_
 refine W_rs ?_
 refine rq (out:=Pr.i64 x4) ag ?_
 refine rq (out:=ae af x1) ag ?_
 refine rq (out:=Pr.i64 (x1.length:Int)) (cj rfl Tryz.underlying33) ?_
 refine rq (out:=Pr.bool (decide (x4<(x1.length:Int)))) qInt ?_
 refine ar (b:=decide (x4<(x1.length:Int))) rfl (fun hc9=> ?_) (fun hc9=> ?_)
 ·replace h2l:=iteT hc9 h2l
  refine av ?_
  refine bd (fun e C=>∃(x17:List (List UInt8)),∃(v16:Value),kg x4 x17=some w2l/\At [(0,ae af x1),(1,ae af x2),(5,Pr.is v16),(6,Pr.i64 x4)] [Own.vec v16 af x17 9] e C) ?_ ?_
  ·rintro e C ⟨x17,v16,h2l,hat3⟩
   refine W_at hat3 ?_
   clear hat3
   unfold kg at h2l
   refine W_r ?_
   refine rq (out:=Pr.i64 x4) ag ?_
   refine rq (out:=Pr.i64 (w64 (x4+1))) qInt ?_
   refine rq (out:=Pr.i64 (w64 (x4+1))) ab ?_
   exact⟨m2,Nat.lt_succ_self _,w64 (x4+1),x17,v16,hn2 _ (Option.some.inj h2l).symm,⟨⟨aa,aa,aa,aa,trivial⟩,Pick.refl _⟩⟩
  refine aq ?_
  refine W_rs ?_
  refine rq (out:=ae af x2) ag ?_
  refine rq (out:=ae af x1) ag ?_
  refine rq (out:=Pr.i64 x4) ag ?_
  obtain⟨x10,hx10,h2l⟩:=ah h2l
  refine rq (out:=a5 af x10) (co (R:=af) (l:=x1) Tryz.underlying33 Tryz.sizeOf9 hx10) ?_
  refine rq (out:=ak x10) (bh (R:=af) (a:=x10) ty9) ?_
  obtain⟨x11,hx11,h2l⟩:=ah h2l
  refine rq (out:=Pr.bool x11) (bq (pf x2 x10 _ hx11)) ?_
  refine rq (out:=Pr.bool x11) ab ?_
  refine W_rs ?_
  refine rq (out:=Pr.bool x11) ag ?_
  refine rq (out:=Pr.bool (!x11)) qNot ?_
  refine ar (b:= !x11) rfl (fun hc12=> ?_) (fun hc12=> ?_)
  ·replace h2l:=iteT hc12 h2l
   refine W_r ?_
   refine rq (out:=Pr.is v3) ag ?_
   refine rq (out:=ae af x1) ag ?_
   refine rq (out:=Pr.i64 x4) ag ?_
   obtain⟨x13,hx13,h2l⟩:=ah h2l
   refine rq (out:=a5 af x13) (co (R:=af) (l:=x1) Tryz.underlying33 Tryz.sizeOf9 hx13) ?_
   refine rq (out:=ak x13) (bh (R:=af) (a:=x13) ty9) ?_
   refine rq (out:=ae af ([x13]:List (List UInt8))) (bb (R:=af) (a:=x13) el33 (Nat.le_of_ble_eq_true rfl)) ?_
   obtain⟨x14,hx14,h2l⟩:=ah h2l
   refine ci 0 el33 hx14 (fun v15=> ?_)
   refine rq (out:=Pr.is v15) ab ?_
   exact⟨x14,v15,h2l,⟨⟨aa,aa,aa,aa,trivial⟩,Pick.refl _⟩⟩
  replace h2l:=iteF hc12 h2l
  refine av ?_
  exact⟨x5,v3,h2l,⟨⟨aa,aa,aa,aa,trivial⟩,Pick.refl _⟩⟩
 replace h2l:=iteF hc9 h2l
 refine cb ?_
 obtain rfl:=ho2 _ (Option.some.inj h2l).symm
 exact⟨x5,v3,h,⟨⟨aa,trivial⟩,Pick.refl _⟩⟩
theorem ref30_Order_ok (x1 x2 x3:List (List UInt8)) (r:(List (List UInt8)) × Bool) (h:ref30_Order x1 x2 x3=some r):FnP Tryz.prog 19 [ae af x1,ae af x2,ae af x3] (bi [ae af r.1,Pr.bool r.2]):=by
 refine a8 (n:=125) (rs:=[6,7]) Tryz.func19 rfl Tryz.ntmps19 ⟨by decide,Tryz.results19⟩ (by decide) (fun s0=> ?_)
 unfold ref30_Order at h
 refine W_rs ?_
 refine rq (out:=Pr.is (.slice none 0 0)) ab ?_
 refine rq (out:=Pr.bool false) ab ?_
 refine W_rs ?_
 refine rq (out:=ae af x1) ag ?_
 obtain⟨x4,hx4,h⟩:=ah h
 refine pb [] (ref30_once_ok x1 _ hx4) (fun q C' hq=> ?_)
 obtain⟨v5,rfl,rfl⟩:=hq
 refine rq (out:=Pr.is v5) ab ?_
 refine W_rs ?_
 refine rq (out:=ae af x2) ag ?_
 obtain⟨x6,hx6,h⟩:=ah h
 refine pb [] (ref30_once_ok x2 _ hx6) (fun q C' hq=> ?_)
 obtain⟨v7,rfl,rfl⟩:=hq
 refine rq (out:=Pr.is v7) ab ?_
 refine W_rs ?_
 refine rq (out:=ae af x3) ag ?_
 obtain⟨x8,hx8,h⟩:=ah h
 refine pb [] (ref30_once_ok x3 _ hx8) (fun q C' hq=> ?_)
 obtain⟨v9,rfl,rfl⟩:=hq
 refine rq (out:=Pr.is v9) ab ?_
 refine ax ?_
 refine W_rs ?_
 refine rq (out:=Pr.is v9) ag ?_
 refine rq (out:=Pr.is v5) ag ?_
 obtain⟨x10,hx10,h⟩:=ah h
 refine rRel 0 [2,21] ?_ rfl ⟨rfl,rfl,trivial⟩
 refine rRel 1 [0,22] ?_ rfl ⟨rfl,rfl,trivial⟩
 refine rq (out:=Pr.bool x10) (bq (ref01_Same_ok x8 x4 _ hx10)) ?_
 refine ar (b:=x10) rfl (fun hc11=> ?_) (fun hc11=> ?_)
 ·replace h:=iteT hc11 h
  refine W_rs ?_
  refine rq (out:=Pr.is v7) ag ?_
  refine rq (out:=Pr.is v7) ab ?_
  refine rq (out:=Pr.bool true) ab ?_
  refine mq 0 [6] ?_ rfl ⟨rfl,trivial⟩
  obtain rfl:=Option.some.inj h
  exact a9 ⟨rfl,aa⟩
 replace h:=iteF hc11 h
 refine av ?_
 refine ax ?_
 refine W_rs ?_
 refine rq (out:=Pr.is v7) ag ?_
 refine rq (out:=ae af x4) ag ?_
 obtain⟨x12,hx12,h⟩:=ah h
 refine rq (out:=Pr.bool x12) (qCallB 0 (ref01_Same_ok x6 x4 _ hx12) ⟨.inr ⟨aa,rfl⟩,.inl aa,trivial⟩ (fun _ _ _ h=>h)) ?_
 refine ar (b:=x12) rfl (fun hc13=> ?_) (fun hc13=> ?_)
 ·replace h:=iteT hc13 h
  refine W_rs ?_
  refine rq (out:=ae af x8) ag ?_
  refine rq (out:=ae af x8) ab ?_
  refine rq (out:=Pr.bool true) ab ?_
  obtain rfl:=Option.some.inj h
  exact a9 ⟨rfl,aa⟩
 replace h:=iteF hc13 h
 refine av ?_
 refine W_rs ?_
 refine rq (out:=ae af x4) ag ?_
 refine rq (out:=ae af x4) ag ?_
 refine rq (out:=Pr.is v7) ag ?_
 refine rq (out:=ae af x8) ag ?_
 obtain⟨x14,hx14,h⟩:=ah h
 refine rRel 0 [1,31] ?_ rfl ⟨rfl,rfl,trivial⟩
 refine rq (out:=ae af x14) (bq (ref30_kept_ok x4 x4 x6 x8 _ hx14)) ?_
 refine rq (out:=ae af x14) ab ?_
 refine W_rs ?_
 refine rq (out:=ae af x6) ag ?_
 refine rq (out:=ae af x4) ag ?_
 refine rq (out:=ae af x6) ag ?_
 refine rq (out:=ae af x8) ag ?_
 obtain⟨x15,hx15,h⟩:=ah h
 refine rq (out:=ae af x15) (bq (ref30_kept_ok x6 x4 x6 x8 _ hx15)) ?_
 refine rq (out:=ae af x15) ab ?_
 refine W_rs ?_
 refine rq (out:=ae af x8) ag ?_
 refine rq (out:=ae af x4) ag ?_
 refine rq (out:=ae af x6) ag ?_
 refine rq (out:=ae af x8) ag ?_
 obtain⟨x16,hx16,h⟩:=ah h
 refine rq (out:=ae af x16) (bq (ref30_kept_ok x8 x4 x6 x8 _ hx16)) ?_
 refine rq (out:=ae af x16) ab ?_
 refine W_rs ?_
 refine rq (out:=ae af x14) ag ?_
 refine rq (out:=ae af x15) ag ?_
 refine rq (out:=ae af x16) ag ?_
 obtain⟨x17,hx17,h⟩:=ah h
 refine rq (out:=ae ao x17) (bq (ref07_Parts_ok x14 x15 x16 _ hx17)) ?_
 refine rq (out:=ae ao x17) ab ?_
 refine W_rs ?_
 refine rq (out:=Pr.is (.slice none 0 0)) ab ?_
 refine ax ?_
 refine W_rs ?_
 refine rq (out:=Pr.i64 0) ab ?_
 refine aq ?_
 obtain⟨z2l,hz2,h⟩:=ah h
 obtain⟨n2,hN2⟩:=a4 hz2
 clear hz2
 refine bp 0 (fun e C=>∃(x20:List (List UInt8)),∃(v18:Value),ref30_Order_k1 x20=some r/\At [(12,Pr.is v18)] [Own.vec v18 af x20 9] e C) ?_ ?_
 ·rintro e C ⟨x20,v18,h,hat1⟩
  refine W_at hat1 ?_
  clear hat1
  unfold ref30_Order_k1 at h
  refine ax ?_
  refine W_rs ?_
  refine rq (out:=Pr.is v18) ag ?_
  obtain⟨x50,hx50,h⟩:=ah h
  refine rRel 0 [12,118] ?_ rfl ⟨rfl,rfl,trivial⟩
  refine pb [] (ref30_once_ok x20 _ hx50) (fun q C' hq=> ?_)
  obtain⟨v51,rfl,rfl⟩:=hq
  refine rq (out:=Pr.i64 (x50.length:Int)) (qLenV 0 rfl Tryz.underlying33) ?_
  refine rq (out:=ae af x20) ag ?_
  refine rq (out:=Pr.i64 (x20.length:Int)) (cj rfl Tryz.underlying33) ?_
  refine rq (out:=Pr.bool ((x50.length:Int) != (x20.length:Int))) qInt ?_
  refine ar (b:=(x50.length:Int) != (x20.length:Int)) rfl (fun hc52=> ?_) (fun hc52=> ?_)
  ·replace h:=iteT hc52 h
   refine W_rs ?_
   refine rq (out:=Pr.is (.slice none 0 0)) ab ?_
   refine rq (out:=Pr.bool false) ab ?_
   obtain rfl:=Option.some.inj h
   exact a9 ⟨rfl,tup_le ⟨ft _,aa,trivial⟩⟩
  replace h:=iteF hc52 h
  refine av ?_
  refine W_rs ?_
  refine rq (out:=ae af x20) ag ?_
  refine rq (out:=ae af x20) ab ?_
  refine rq (out:=Pr.bool true) ab ?_
  obtain rfl:=Option.some.inj h
  exact a9 ⟨rfl,aa⟩
 refine pk [12] af 9 (fun v53=> ?_) ⟨rfl,trivial⟩
 refine cg (fun m e C=>∃(x19:Int),∃(x20:List (List UInt8)),∃(v18:Value),cv (fun s=>eu x17 x15 x16 s.1 s.2) m (x19,x20)=some z2l/\At [(9,ae af x15),(10,ae af x16),(11,ae ao x17),(12,Pr.is v18),(13,Pr.i64 x19)] [Own.vec v18 af x20 9] e C) n2 ⟨0,[],v53,hN2,⟨⟨aa,aa,aa,aa,aa,trivial⟩,Pick.refl _⟩⟩ ?_
 clear hN2
 rintro m e C ⟨x19,x20,v18,hN2,hatl2⟩
 refine W_at hatl2 ?_
 clear hatl2
 obtain⟨m2,w2l,rfl,h2l,hn2,ho2⟩:=ay hN2
 clear hN2
 replace h2l:eu x17 x15 x16 x19 x20=some w2l:=h2l
 unfold eu at h2l
 refine ax ?_
 refine W_rs ?_
 refine rq (out:=Pr.i64 x19) ag ?_
 refine rq (out:=ae ao x17) ag ?_
 refine rq (out:=Pr.i64 (x17.length:Int)) (cj rfl Tryz.underlying66) ?_
 refine rq (out:=Pr.bool (decide (x19<(x17.length:Int)))) qInt ?_
 refine ar (b:=decide (x19<(x17.length:Int))) rfl (fun hc24=> ?_) (fun hc24=> ?_)
 ·replace h2l:=iteT hc24 h2l
  refine av ?_
  refine bd (fun e C=>∃(x49:List (List UInt8)),∃(x25:ApiChunk),∃(v48:Value),∃(b26:Nat),nz x19 x49 x25=some w2l/\At [(9,ae af x15),(10,ae af x16),(11,ae ao x17),(12,Pr.is v48),(13,Pr.i64 x19)] [Own.vec v48 af x49 9,Own.box b26 ao x25] e C) ?_ ?_
  ·rintro e C ⟨x49,x25,v48,b26,h2l,hat3⟩
   refine W_at hat3 ?_
   clear hat3
   unfold nz at h2l
   refine W_r ?_
   refine rq (out:=Pr.i64 x19) ag ?_
   refine rq (out:=Pr.i64 (w64 (x19+1))) qInt ?_
   refine rq (out:=Pr.i64 (w64 (x19+1))) ab ?_
   exact⟨m2,Nat.lt_succ_self _,w64 (x19+1),x49,v48,hn2 _ (Option.some.inj h2l).symm,⟨⟨aa,aa,aa,aa,aa,trivial⟩,Pick.of [0] rfl⟩⟩
  refine aq ?_
  refine W_rs ?_
  refine rq (out:=ae ao x17) ag ?_
  refine rq (out:=Pr.i64 x19) ag ?_
  obtain⟨x25,hx25,h2l⟩:=ah h2l
  refine rq (out:=a5 ao x25) (co (R:=ao) (l:=x17) Tryz.underlying66 Tryz.sizeOf71 hx25) ?_
  refine rq (out:=(ao).val x25) (bh (R:=ao) (a:=x25) ty71) ?_
  refine np (R:=ao) (z:=(ApiChunk.mk 0 (ApiSpan.mk 0 0) (ApiSpan.mk 0 0) (ApiSpan.mk 0 0))) Tryz.zeroValue71 (fun _=>⟨_,⟨_,_,rfl,rfl,⟨_,_,rfl,⟨_,_,rfl,rfl,⟨_,_,rfl,rfl,rfl⟩⟩,⟨_,_,rfl,⟨_,_,rfl,rfl,⟨_,_,rfl,rfl,rfl⟩⟩,⟨_,_,rfl,⟨_,_,rfl,rfl,⟨_,_,rfl,rfl,rfl⟩⟩,rfl⟩⟩⟩⟩,rfl⟩) (fun b26=> ?_)
  refine en (R:=ao) (R':=ao) (a:=(ApiChunk.mk 0 (ApiSpan.mk 0 0) (ApiSpan.mk 0 0) (ApiSpan.mk 0 0))) (y:=x25) 1 Tryz.sizeOf71 (Upd.refl _) ?_
  refine ax ?_
  refine bd (fun e C=>∃(x28:Bool),nv x25 x15 x20 x16 x19 x28=some w2l/\At [(9,ae af x15),(10,ae af x16),(11,ae ao x17),(12,Pr.is v18),(13,Pr.i64 x19),(14,ap b26 0),(69,Pr.bool x28)] [Own.vec v18 af x20 9,Own.box b26 ao x25] e C) ?_ ?_
  ·rintro e C ⟨x28,h2l,hat6⟩
   refine W_at hat6 ?_
   clear hat6
   unfold nv at h2l
   refine ar (b:=x28) rfl (fun hc29=> ?_) (fun hc29=> ?_)
   ·replace h2l:=iteT hc29 h2l
    refine W_rs ?_
    refine rq (out:=Pr.is (.slice none 0 0)) ab ?_
    refine rq (out:=Pr.bool false) ab ?_
    obtain rfl:=ho2 _ (Option.some.inj h2l).symm
    replace h:some ([],false)=some r:=h
    obtain rfl:=Option.some.inj h
    exact a9 ⟨rfl,tup_le ⟨ft _,aa,trivial⟩⟩
   replace h2l:=iteF hc29 h2l
   refine av ?_
   refine bd (fun e C=>∃(x35:List (List UInt8)),∃(v34:Value),nw x25 x16 x15 x19 x35=some w2l/\At [(9,ae af x15),(10,ae af x16),(11,ae ao x17),(12,Pr.is v34),(13,Pr.i64 x19),(14,ap b26 0)] [Own.vec v34 af x35 9,Own.box b26 ao x25] e C) ?_ ?_
   ·rintro e C ⟨x35,v34,h2l,hat5⟩
    refine W_at hat5 ?_
    clear hat5
    unfold nw at h2l
    refine bd (fun e C=>∃(x41:List (List UInt8)),∃(v40:Value),ny x25 x16 x15 x19 x41=some w2l/\At [(9,ae af x15),(10,ae af x16),(11,ae ao x17),(12,Pr.is v40),(13,Pr.i64 x19),(14,ap b26 0)] [Own.vec v40 af x41 9,Own.box b26 ao x25] e C) ?_ ?_
    ·rintro e C ⟨x41,v40,h2l,hat4⟩
     refine W_at hat4 ?_
     clear hat4
     unfold ny at h2l
     refine W_rs ?_
     refine rq (out:=ap b26 0) (az fld71_0) ?_
     refine rq (out:=Pr.i64 x25.Kind) (bg (R:=ao) (a:=x25) (R':=Rp.int .i64) 1 ty3 eg) ?_
     refine rq (out:=Pr.bool (x25.Kind==4)) qInt ?_
     refine ar (b:=x25.Kind==4) rfl (fun hc42=> ?_) (fun hc42=> ?_)
     ·replace h2l:=iteT hc42 h2l
      refine ea 18 hmx (by kernel_rfl) (by kernel_rfl) ?_
      refine qq (out:=Pr.is v40) ag ?_
      refine qq (out:=ae af x16) ag ?_
      refine qq (out:=ap b26 5) (az fld71_3) ?_
      refine qq (out:=ap b26 5) (az fld69_0) ?_
      refine qq (out:=Pr.i64 x25.B.From) (bg (R:=ao) (a:=x25) (R':=Rp.int .i64) 1 ty3 (fy.trans c8 (Nat.le_of_ble_eq_true rfl))) ?_
      refine qq (out:=ap b26 5) (az fld71_3) ?_
      refine qq (out:=ap b26 6) (az fld69_1) ?_
      refine qq (out:=Pr.i64 x25.B.To) (bg (R:=ao) (a:=x25) (R':=Rp.int .i64) 1 ty3 (fy.trans dq (Nat.le_of_ble_eq_true rfl))) ?_
      obtain⟨x43,hx43,h2l⟩:=ah h2l
      refine qq (out:=ae af x43) (lw Tryz.underlying33 Tryz.sizeOf9 hx43) ?_
      refine qq (out:=ae af x15) ag ?_
      refine qq (out:=ap b26 3) (az fld71_2) ?_
      refine qq (out:=ap b26 3) (az fld69_0) ?_
      refine qq (out:=Pr.i64 x25.A.From) (bg (R:=ao) (a:=x25) (R':=Rp.int .i64) 1 ty3 (f0.trans c8 (Nat.le_of_ble_eq_true rfl))) ?_
      refine qq (out:=ap b26 3) (az fld71_2) ?_
      refine qq (out:=ap b26 4) (az fld69_1) ?_
      refine qq (out:=Pr.i64 x25.A.To) (bg (R:=ao) (a:=x25) (R':=Rp.int .i64) 1 ty3 (f0.trans dq (Nat.le_of_ble_eq_true rfl))) ?_
      obtain⟨x44,hx44,h2l⟩:=ah h2l
      refine qq (out:=ae af x44) (lw Tryz.underlying33 Tryz.sizeOf9 hx44) ?_
      obtain⟨x45,hx45,h2l⟩:=ah h2l
      refine qq (out:=ae af x45) (bq (ref30_without_ok x43 x44 _ hx45)) ?_
      obtain⟨x46,hx46,h2l⟩:=ah h2l
      refine ci 0 el33 hx46 (fun v47=> ?_)
      refine rq (out:=Pr.is v47) ab ?_
      exact⟨x46,x25,v47,b26,h2l,⟨⟨aa,aa,aa,aa,aa,trivial⟩,Pick.refl _⟩⟩
     replace h2l:=iteF hc42 h2l
     refine av ?_
     exact⟨x41,x25,v40,b26,h2l,⟨⟨aa,aa,aa,aa,aa,trivial⟩,Pick.refl _⟩⟩
    refine W_rs ?_
    refine rq (out:=ap b26 0) (az fld71_0) ?_
    refine rq (out:=Pr.i64 x25.Kind) (bg (R:=ao) (a:=x25) (R':=Rp.int .i64) 1 ty3 eg) ?_
    refine rq (out:=Pr.bool (x25.Kind==2)) qInt ?_
    refine ar (b:=x25.Kind==2) rfl (fun hc36=> ?_) (fun hc36=> ?_)
    ·replace h2l:=iteT hc36 h2l
     refine W_r ?_
     refine rq (out:=Pr.is v34) ag ?_
     refine rq (out:=ae af x16) ag ?_
     refine rq (out:=ap b26 5) (az fld71_3) ?_
     refine rq (out:=ap b26 5) (az fld69_0) ?_
     refine rq (out:=Pr.i64 x25.B.From) (bg (R:=ao) (a:=x25) (R':=Rp.int .i64) 1 ty3 (fy.trans c8 (Nat.le_of_ble_eq_true rfl))) ?_
     refine rq (out:=ap b26 5) (az fld71_3) ?_
     refine rq (out:=ap b26 6) (az fld69_1) ?_
     refine rq (out:=Pr.i64 x25.B.To) (bg (R:=ao) (a:=x25) (R':=Rp.int .i64) 1 ty3 (fy.trans dq (Nat.le_of_ble_eq_true rfl))) ?_
     obtain⟨x37,hx37,h2l⟩:=ah h2l
     refine rq (out:=ae af x37) (lw Tryz.underlying33 Tryz.sizeOf9 hx37) ?_
     obtain⟨x38,hx38,h2l⟩:=ah h2l
     refine ci 0 el33 hx38 (fun v39=> ?_)
     refine rq (out:=Pr.is v39) ab ?_
     exact⟨x38,v39,h2l,⟨⟨aa,aa,aa,aa,aa,aa,trivial⟩,Pick.refl _⟩⟩
    replace h2l:=iteF hc36 h2l
    refine av ?_
    exact⟨x35,v34,h2l,⟨⟨aa,aa,aa,aa,aa,aa,trivial⟩,Pick.refl _⟩⟩
   refine W_rs ?_
   refine rq (out:=ap b26 0) (az fld71_0) ?_
   refine rq (out:=Pr.i64 x25.Kind) (bg (R:=ao) (a:=x25) (R':=Rp.int .i64) 1 ty3 eg) ?_
   refine rq (out:=Pr.bool (x25.Kind != 2)) qInt ?_
   refine ar (b:=x25.Kind != 2) rfl (fun hc30=> ?_) (fun hc30=> ?_)
   ·replace h2l:=iteT hc30 h2l
    refine W_r ?_
    refine rq (out:=Pr.is v18) ag ?_
    refine rq (out:=ae af x15) ag ?_
    refine rq (out:=ap b26 3) (az fld71_2) ?_
    refine rq (out:=ap b26 3) (az fld69_0) ?_
    refine rq (out:=Pr.i64 x25.A.From) (bg (R:=ao) (a:=x25) (R':=Rp.int .i64) 1 ty3 (f0.trans c8 (Nat.le_of_ble_eq_true rfl))) ?_
    refine rq (out:=ap b26 3) (az fld71_2) ?_
    refine rq (out:=ap b26 4) (az fld69_1) ?_
    refine rq (out:=Pr.i64 x25.A.To) (bg (R:=ao) (a:=x25) (R':=Rp.int .i64) 1 ty3 (f0.trans dq (Nat.le_of_ble_eq_true rfl))) ?_
    obtain⟨x31,hx31,h2l⟩:=ah h2l
    refine rq (out:=ae af x31) (lw Tryz.underlying33 Tryz.sizeOf9 hx31) ?_
    obtain⟨x32,hx32,h2l⟩:=ah h2l
    refine ci 0 el33 hx32 (fun v33=> ?_)
    refine rq (out:=Pr.is v33) ab ?_
    exact⟨x32,v33,h2l,⟨⟨aa,aa,aa,aa,aa,aa,trivial⟩,Pick.refl _⟩⟩
   replace h2l:=iteF hc30 h2l
   refine av ?_
   exact⟨x20,v18,h2l,⟨⟨aa,aa,aa,aa,aa,aa,trivial⟩,Pick.refl _⟩⟩
  refine W_r ?_
  refine rq (out:=ap b26 0) (az fld71_0) ?_
  refine rq (out:=Pr.i64 x25.Kind) (bg (R:=ao) (a:=x25) (R':=Rp.int .i64) 1 ty3 eg) ?_
  refine rq (out:=Pr.bool (x25.Kind==4)) qInt ?_
  refine rq (out:=Pr.bool (x25.Kind==4)) ag ?_
  rcases bj h2l with⟨hc27,h2l⟩|⟨hc27,h2l⟩
  ·refine rqg hc27 (out:=ap b26 1) (az fld71_1) ?_
   refine rqg hc27 (out:=ap b26 1) (az fld69_0) ?_
   refine rqg hc27 (out:=Pr.i64 x25.O.From) (bg (R:=ao) (a:=x25) (R':=Rp.int .i64) 1 ty3 (i7.trans c8 (Nat.le_of_ble_eq_true rfl))) ?_
   refine rqg hc27 (out:=ap b26 1) (az fld71_1) ?_
   refine rqg hc27 (out:=ap b26 2) (az fld69_1) ?_
   refine rqg hc27 (out:=Pr.i64 x25.O.To) (bg (R:=ao) (a:=x25) (R':=Rp.int .i64) 1 ty3 (i7.trans dq (Nat.le_of_ble_eq_true rfl))) ?_
   refine rqg hc27 (out:=Pr.bool (decide (x25.O.From<x25.O.To))) qInt ?_
   refine rq (out:=Pr.bool (decide (x25.O.From<x25.O.To))) (bv hc27) ?_
   exact⟨decide (x25.O.From<x25.O.To),h2l,⟨⟨aa,aa,aa,aa,aa,aa,aa,trivial⟩,Pick.refl _⟩⟩
  refine rno (neT hc27) ?_
  refine rno (neT hc27) ?_
  refine rno (neT hc27) ?_
  refine rno (neT hc27) ?_
  refine rno (neT hc27) ?_
  refine rno (neT hc27) ?_
  refine rno (neT hc27) ?_
  refine rq (out:=Pr.bool false) (a7 hc27) ?_
  exact⟨false,h2l,⟨⟨aa,aa,aa,aa,aa,aa,aa,trivial⟩,Pick.refl _⟩⟩
 replace h2l:=iteF hc24 h2l
 refine cb ?_
 obtain rfl:=ho2 _ (Option.some.inj h2l).symm
 exact⟨x20,v18,h,⟨⟨aa,trivial⟩,Pick.refl _⟩⟩
theorem ref30_Row_ok (x1 x2 x3:List ApiSegment) (r:(List ApiSegment) × (List ApiConflict)) (h:ref30_Row x1 x2 x3=some r):FnP Tryz.prog 11 [ae ai x1,ae ai x2,ae ai x3] (bi [ae ai r.1,ae au r.2]):=by
 refine a8 (n:=91) (rs:=[6,7]) Tryz.func11 rfl Tryz.ntmps11 ⟨by decide,Tryz.results11⟩ (by decide) (fun s0=> ?_)
 unfold ref30_Row at h
 refine W_rs ?_
 refine rq (out:=Pr.is (.slice none 0 0)) ab ?_
 refine rq (out:=Pr.is (.slice none 0 0)) ab ?_
 refine W_rs ?_
 refine rq (out:=ae ai x1) ag ?_
 refine rq (out:=ae ai x2) ag ?_
 refine rq (out:=ae ai x3) ag ?_
 obtain⟨⟨x4,x5⟩,hx4,h⟩:=ah h
 refine pb [] (ref30_Texts_ok x1 x2 x3 _ hx4) (fun q C' hq=> ?_)
 obtain⟨v6,rfl,rfl⟩:=hq
 refine rq (out:=bi [ae ai x4,Pr.is v6]) ag ?_
 refine rq (out:=ae ai x4) a6 ?_
 refine rq (out:=Pr.is v6) a6 ?_
 refine rq (out:=ae ai x4) ab ?_
 refine rq (out:=Pr.is v6) ab ?_
 refine W_rs ?_
 refine rq (out:=ae ai x1) ag ?_
 obtain⟨x7,hx7,h⟩:=ah h
 refine rq (out:=ae af x7) (bq (m0 x1 _ hx7)) ?_
 refine rq (out:=ae ai x2) ag ?_
 obtain⟨x8,hx8,h⟩:=ah h
 refine rq (out:=ae af x8) (bq (m0 x2 _ hx8)) ?_
 refine rq (out:=ae ai x3) ag ?_
 obtain⟨x9,hx9,h⟩:=ah h
 refine rq (out:=ae af x9) (bq (m0 x3 _ hx9)) ?_
 obtain⟨⟨x10,x11⟩,hx10,h⟩:=ah h
 refine rq (out:=bi [ae af x10,Pr.bool x11]) (bq (ref30_Order_ok x7 x8 x9 _ hx10)) ?_
 refine rq (out:=bi [ae af x10,Pr.bool x11]) ag ?_
 refine rq (out:=ae af x10) a6 ?_
 refine rq (out:=Pr.bool x11) a6 ?_
 refine rq (out:=ae af x10) ab ?_
 refine rq (out:=Pr.bool x11) ab ?_
 refine ax ?_
 refine W_rs ?_
 refine rq (out:=Pr.bool x11) ag ?_
 refine rq (out:=Pr.bool (!x11)) qNot ?_
 refine ar (b:= !x11) rfl (fun hc12=> ?_) (fun hc12=> ?_)
 ·replace h:=iteT hc12 h
  refine W_rs ?_
  refine rq (out:=ae ai x4) ag ?_
  refine rq (out:=Pr.is v6) ag ?_
  refine rq (out:=(au).val (ApiConflict.mk 2 [])) (iv st46 ⟨(ApiConflict.mk 2 []),⟨_,rfl,rfl,fun j fd hj hf=>by match j,hj with| 0,h=>exact absurd rfl h| 1,_=>cases hf;rfl|_+2,_=>cases hf⟩,rfl⟩) ?_
  refine rq (out:=ae au ([(ApiConflict.mk 2 [])]:List ApiConflict)) (bb (R:=au) (a:=(ApiConflict.mk 2 [])) el25 (Nat.le_of_ble_eq_true rfl)) ?_
  obtain⟨x13,hx13,h⟩:=ah h
  refine ci 0 el25 hx13 (fun v14=> ?_)
  refine rq (out:=ae ai x4) ab ?_
  refine rq (out:=Pr.is v14) ab ?_
  refine mq 0 [7] ?_ rfl ⟨rfl,trivial⟩
  obtain rfl:=Option.some.inj h
  exact a9 ⟨rfl,aa⟩
 replace h:=iteF hc12 h
 refine av ?_
 refine W_rs ?_
 refine rq (out:=Pr.is (.slice none 0 0)) ab ?_
 refine ax ?_
 refine W_rs ?_
 refine rq (out:=Pr.i64 0) ab ?_
 refine aq ?_
 obtain⟨z5l,hz5,h⟩:=ah h
 obtain⟨n5,hN5⟩:=a4 hz5
 clear hz5
 refine bp 0 (fun e C=>∃(x17:List ApiSegment),∃(v15:Value),ref30_Row_k4 x4 x10 x5 x17=some r/\At [(8,ae ai x4),(9,Pr.is v6),(10,ae af x10),(12,Pr.is v15)] [Own.vec v6 au x5 46,Own.vec v15 ai x17 38] e C) ?_ ?_
 ·rintro e C ⟨x17,v15,h,hat4⟩
  refine W_at hat4 ?_
  clear hat4
  unfold ref30_Row_k4 at h
  refine ax ?_
  refine W_rs ?_
  refine rq (out:=Pr.i64 0) ab ?_
  refine aq ?_
  obtain⟨z2l,hz2,h⟩:=ah h
  obtain⟨n2,hN2⟩:=a4 hz2
  clear hz2
  refine bp 2 (fun e C=>∃(x33:List ApiSegment),∃(v31:Value),ref30_Row_k1 x5 x33=some r/\At [(9,Pr.is v6),(12,Pr.is v31)] [Own.vec v6 au x5 46,Own.vec v31 ai x33 38] e C) ?_ ?_
  ·rintro e C ⟨x33,v31,h,hat1⟩
   refine W_at hat1 ?_
   clear hat1
   unfold ref30_Row_k1 at h
   refine W_rs ?_
   refine rq (out:=Pr.is v31) ag ?_
   refine rq (out:=Pr.is v6) ag ?_
   refine rq (out:=Pr.is v31) ab ?_
   refine rq (out:=Pr.is v6) ab ?_
   refine mq 1 [6] ?_ rfl ⟨rfl,trivial⟩
   refine mq 0 [7] ?_ rfl ⟨rfl,trivial⟩
   obtain rfl:=Option.some.inj h
   exact a9 ⟨rfl,aa⟩
  refine cg (fun m e C=>∃(x32:Int),∃(x33:List ApiSegment),∃(v31:Value),cv (fun s=>jv x4 x10 s.1 s.2) m (x32,x33)=some z2l/\At [(8,ae ai x4),(9,Pr.is v6),(10,ae af x10),(12,Pr.is v31),(16,Pr.i64 x32)] [Own.vec v6 au x5 46,Own.vec v31 ai x33 38] e C) n2 ⟨0,x17,v15,hN2,⟨⟨aa,aa,aa,aa,aa,trivial⟩,Pick.refl _⟩⟩ ?_
  clear hN2
  rintro m e C ⟨x32,x33,v31,hN2,hatl2⟩
  refine W_at hatl2 ?_
  clear hatl2
  obtain⟨m2,w2l,rfl,h2l,hn2,ho2⟩:=ay hN2
  clear hN2
  replace h2l:jv x4 x10 x32 x33=some w2l:=h2l
  unfold jv at h2l
  refine ax ?_
  refine W_rs ?_
  refine rq (out:=Pr.i64 x32) ag ?_
  refine rq (out:=ae ai x4) ag ?_
  refine rq (out:=Pr.i64 (x4.length:Int)) (cj rfl Tryz.underlying22) ?_
  refine rq (out:=Pr.bool (decide (x32<(x4.length:Int)))) qInt ?_
  refine ar (b:=decide (x32<(x4.length:Int))) rfl (fun hc37=> ?_) (fun hc37=> ?_)
  ·replace h2l:=iteT hc37 h2l
   refine av ?_
   refine bd (fun e C=>∃(x45:List ApiSegment),∃(v44:Value),ref30_Row_j3 x32 x45=some w2l/\At [(8,ae ai x4),(9,Pr.is v6),(10,ae af x10),(12,Pr.is v44),(16,Pr.i64 x32)] [Own.vec v6 au x5 46,Own.vec v44 ai x45 38] e C) ?_ ?_
   ·rintro e C ⟨x45,v44,h2l,hat3⟩
    refine W_at hat3 ?_
    clear hat3
    unfold ref30_Row_j3 at h2l
    refine W_r ?_
    refine rq (out:=Pr.i64 x32) ag ?_
    refine rq (out:=Pr.i64 (w64 (x32+1))) qInt ?_
    refine rq (out:=Pr.i64 (w64 (x32+1))) ab ?_
    exact⟨m2,Nat.lt_succ_self _,w64 (x32+1),x45,v44,hn2 _ (Option.some.inj h2l).symm,⟨⟨aa,aa,aa,aa,aa,trivial⟩,Pick.refl _⟩⟩
   refine aq ?_
   refine W_rs ?_
   refine rq (out:=ae af x10) ag ?_
   refine rq (out:=ae ai x4) ag ?_
   refine rq (out:=Pr.i64 x32) ag ?_
   obtain⟨x38,hx38,h2l⟩:=ah h2l
   refine rq (out:=a5 ai x38) (co (R:=ai) (l:=x4) Tryz.underlying22 Tryz.sizeOf38 hx38) ?_
   refine rq (out:=a5 af x38.Key) (qFieldC (R:=ai) (a:=x38) fld38_0 fv) ?_
   refine rq (out:=ak x38.Key) (bh (R:=af) (a:=x38.Key) ty9) ?_
   obtain⟨x39,hx39,h2l⟩:=ah h2l
   refine rq (out:=Pr.bool x39) (bq (pf x10 x38.Key _ hx39)) ?_
   refine rq (out:=Pr.bool x39) ab ?_
   refine W_rs ?_
   refine rq (out:=Pr.bool x39) ag ?_
   refine rq (out:=Pr.bool (!x39)) qNot ?_
   refine ar (b:= !x39) rfl (fun hc40=> ?_) (fun hc40=> ?_)
   ·replace h2l:=iteT hc40 h2l
    refine W_r ?_
    refine rq (out:=Pr.is v31) ag ?_
    refine rq (out:=ae ai x4) ag ?_
    refine rq (out:=Pr.i64 x32) ag ?_
    obtain⟨x41,hx41,h2l⟩:=ah h2l
    refine rq (out:=a5 ai x41) (co (R:=ai) (l:=x4) Tryz.underlying22 Tryz.sizeOf38 hx41) ?_
    refine rq (out:=(ai).val x41) (bh (R:=ai) (a:=x41) ty38) ?_
    refine rq (out:=ae ai ([x41]:List ApiSegment)) (bb (R:=ai) (a:=x41) el22 (Nat.le_of_ble_eq_true rfl)) ?_
    obtain⟨x42,hx42,h2l⟩:=ah h2l
    refine ci 1 el22 hx42 (fun v43=> ?_)
    refine rq (out:=Pr.is v43) ab ?_
    exact⟨x42,v43,h2l,⟨⟨aa,aa,aa,aa,aa,trivial⟩,Pick.refl _⟩⟩
   replace h2l:=iteF hc40 h2l
   refine av ?_
   exact⟨x33,v31,h2l,⟨⟨aa,aa,aa,aa,aa,trivial⟩,Pick.refl _⟩⟩
  replace h2l:=iteF hc37 h2l
  refine cb ?_
  obtain rfl:=ho2 _ (Option.some.inj h2l).symm
  exact⟨x33,v31,h,⟨⟨aa,aa,trivial⟩,Pick.refl _⟩⟩
 refine pk [12] ai 38 (fun v46=> ?_) ⟨rfl,trivial⟩
 refine cg (fun m e C=>∃(x16:Int),∃(x17:List ApiSegment),∃(v15:Value),cv (fun s=>ju x10 x4 s.1 s.2) m (x16,x17)=some z5l/\At [(8,ae ai x4),(9,Pr.is v6),(10,ae af x10),(12,Pr.is v15),(13,Pr.i64 x16)] [Own.vec v6 au x5 46,Own.vec v15 ai x17 38] e C) n5 ⟨0,[],v46,hN5,⟨⟨aa,aa,aa,aa,aa,trivial⟩,Pick.refl _⟩⟩ ?_
 clear hN5
 rintro m e C ⟨x16,x17,v15,hN5,hatl5⟩
 refine W_at hatl5 ?_
 clear hatl5
 obtain⟨m5,w5l,rfl,h5l,hn5,ho5⟩:=ay hN5
 clear hN5
 replace h5l:ju x10 x4 x16 x17=some w5l:=h5l
 unfold ju at h5l
 refine ax ?_
 refine W_rs ?_
 refine rq (out:=Pr.i64 x16) ag ?_
 refine rq (out:=ae af x10) ag ?_
 refine rq (out:=Pr.i64 (x10.length:Int)) (cj rfl Tryz.underlying33) ?_
 refine rq (out:=Pr.bool (decide (x16<(x10.length:Int)))) qInt ?_
 refine ar (b:=decide (x16<(x10.length:Int))) rfl (fun hc21=> ?_) (fun hc21=> ?_)
 ·replace h5l:=iteT hc21 h5l
  refine av ?_
  refine bd (fun e C=>∃(x30:List ApiSegment),∃(v29:Value),ref30_Row_j6 x16 x30=some w5l/\At [(8,ae ai x4),(9,Pr.is v6),(10,ae af x10),(12,Pr.is v29),(13,Pr.i64 x16)] [Own.vec v6 au x5 46,Own.vec v29 ai x30 38] e C) ?_ ?_
  ·rintro e C ⟨x30,v29,h5l,hat6⟩
   refine W_at hat6 ?_
   clear hat6
   unfold ref30_Row_j6 at h5l
   refine W_r ?_
   refine rq (out:=Pr.i64 x16) ag ?_
   refine rq (out:=Pr.i64 (w64 (x16+1))) qInt ?_
   refine rq (out:=Pr.i64 (w64 (x16+1))) ab ?_
   exact⟨m5,Nat.lt_succ_self _,w64 (x16+1),x30,v29,hn5 _ (Option.some.inj h5l).symm,⟨⟨aa,aa,aa,aa,aa,trivial⟩,Pick.refl _⟩⟩
  refine aq ?_
  refine W_rs ?_
  refine rq (out:=ae ai x4) ag ?_
  refine rq (out:=ae af x10) ag ?_
  refine rq (out:=Pr.i64 x16) ag ?_
  obtain⟨x22,hx22,h5l⟩:=ah h5l
  refine rq (out:=a5 af x22) (co (R:=af) (l:=x10) Tryz.underlying33 Tryz.sizeOf9 hx22) ?_
  refine rq (out:=ak x22) (bh (R:=af) (a:=x22) ty9) ?_
  obtain⟨⟨x23,x24⟩,hx23,h5l⟩:=ah h5l
  refine rq (out:=bi [ak x23,Pr.bool x24]) (bq (ref28_Get_ok x4 x22 _ hx23)) ?_
  refine rq (out:=bi [ak x23,Pr.bool x24]) ag ?_
  refine rq (out:=ak x23) a6 ?_
  refine rq (out:=Pr.bool x24) a6 ?_
  refine rq (out:=ak x23) ab ?_
  refine rq (out:=Pr.bool x24) ab ?_
  refine W_rs ?_
  refine rq (out:=Pr.bool x24) ag ?_
  refine ar (b:=x24) rfl (fun hc25=> ?_) (fun hc25=> ?_)
  ·replace h5l:=iteT hc25 h5l
   refine W_r ?_
   refine rq (out:=Pr.is v15) ag ?_
   refine rq (out:=ae af x10) ag ?_
   refine rq (out:=Pr.i64 x16) ag ?_
   obtain⟨x26,hx26,h5l⟩:=ah h5l
   refine rq (out:=a5 af x26) (co (R:=af) (l:=x10) Tryz.underlying33 Tryz.sizeOf9 hx26) ?_
   refine rq (out:=ak x26) (bh (R:=af) (a:=x26) ty9) ?_
   refine rq (out:=ak x23) ag ?_
   refine rq (out:=(ai).val (ApiSegment.mk x26 x23)) (iv st38 ⟨(ApiSegment.mk x26 []),⟨_,rfl,rfl,fun j fd hj hf=>by match j,hj with| 0,h=>exact absurd rfl h| 1,_=>cases hf;rfl|_+2,_=>cases hf⟩,⟨(ApiSegment.mk x26 x23),⟨_,rfl,rfl,fun j fd hj hf=>by match j,hj with| 0,_=>cases hf;rfl| 1,h=>exact absurd rfl h|_+2,_=>cases hf⟩,rfl⟩⟩) ?_
   refine rq (out:=ae ai ([(ApiSegment.mk x26 x23)]:List ApiSegment)) (bb (R:=ai) (a:=(ApiSegment.mk x26 x23)) el22 (Nat.le_of_ble_eq_true rfl)) ?_
   obtain⟨x27,hx27,h5l⟩:=ah h5l
   refine ci 1 el22 hx27 (fun v28=> ?_)
   refine rq (out:=Pr.is v28) ab ?_
   exact⟨x27,v28,h5l,⟨⟨aa,aa,aa,aa,aa,trivial⟩,Pick.refl _⟩⟩
  replace h5l:=iteF hc25 h5l
  refine av ?_
  exact⟨x17,v15,h5l,⟨⟨aa,aa,aa,aa,aa,trivial⟩,Pick.refl _⟩⟩
 replace h5l:=iteF hc21 h5l
 refine cb ?_
 obtain rfl:=ho5 _ (Option.some.inj h5l).symm
 exact⟨x17,v15,h,⟨⟨aa,aa,aa,aa,trivial⟩,Pick.refl _⟩⟩
theorem ref28_Same_ok (x1 x2:List ApiSegment) (r:Bool) (h:ref28_Same x1 x2=some r):FnP Tryz.prog 14 [ae ai x1,ae ai x2] (Pr.bool r):=by
 refine a8 (n:=26) (rs:=[4]) Tryz.func14 rfl Tryz.ntmps14 ⟨by decide,Tryz.results14⟩ (by decide) (fun s0=> ?_)
 unfold ref28_Same at h
 refine W_rs ?_
 refine rq (out:=Pr.bool false) ab ?_
 refine ax ?_
 refine W_rs ?_
 refine rq (out:=ae ai x1) ag ?_
 refine rq (out:=Pr.i64 (x1.length:Int)) (cj rfl Tryz.underlying22) ?_
 refine rq (out:=ae ai x2) ag ?_
 refine rq (out:=Pr.i64 (x2.length:Int)) (cj rfl Tryz.underlying22) ?_
 refine rq (out:=Pr.bool ((x1.length:Int) != (x2.length:Int))) qInt ?_
 refine ar (b:=(x1.length:Int) != (x2.length:Int)) rfl (fun hc3=> ?_) (fun hc3=> ?_)
 ·replace h:=iteT hc3 h
  refine W_rs ?_
  refine rq (out:=Pr.bool false) ab ?_
  obtain rfl:=Option.some.inj h
  exact a9 ⟨rfl,aa⟩
 replace h:=iteF hc3 h
 refine av ?_
 refine ax ?_
 refine W_rs ?_
 refine rq (out:=Pr.i64 0) ab ?_
 refine aq ?_
 obtain⟨z2l,hz2,h⟩:=ah h
 obtain⟨n2,hN2⟩:=a4 hz2
 clear hz2
 refine bp 0 (fun e C=>ref28_Same_k1=some r/\At [] [] e C) ?_ ?_
 ·rintro e C ⟨h,hat1⟩
  refine W_at hat1 ?_
  clear hat1
  unfold ref28_Same_k1 at h
  refine W_rs ?_
  refine rq (out:=Pr.bool true) ab ?_
  obtain rfl:=Option.some.inj h
  exact a9 ⟨rfl,aa⟩
 refine cg (fun m e C=>∃(x4:Int),cv (fun s=>mz x1 x2 s) m x4=some z2l/\At [(0,ae ai x1),(1,ae ai x2),(5,Pr.i64 x4)] [] e C) n2 ⟨0,hN2,⟨⟨aa,aa,aa,trivial⟩,Pick.refl _⟩⟩ ?_
 clear hN2
 rintro m e C ⟨x4,hN2,hatl2⟩
 refine W_at hatl2 ?_
 clear hatl2
 obtain⟨m2,w2l,rfl,h2l,hn2,ho2⟩:=ay hN2
 clear hN2
 replace h2l:mz x1 x2 x4=some w2l:=h2l
 unfold mz at h2l
 refine ax ?_
 refine W_rs ?_
 refine rq (out:=Pr.i64 x4) ag ?_
 refine rq (out:=ae ai x1) ag ?_
 refine rq (out:=Pr.i64 (x1.length:Int)) (cj rfl Tryz.underlying22) ?_
 refine rq (out:=Pr.bool (decide (x4<(x1.length:Int)))) qInt ?_
 refine ar (b:=decide (x4<(x1.length:Int))) rfl (fun hc6=> ?_) (fun hc6=> ?_)
 ·replace h2l:=iteT hc6 h2l
  refine av ?_
  refine ax ?_
  refine aq ?_
  refine bd (fun e C=>∃(x7:ApiSegment),∃(x8:ApiSegment),ref28_Same_j3 x4 x7 x8=some w2l/\At [(0,ae ai x1),(1,ae ai x2),(5,Pr.i64 x4),(25,Pr.bool (!decide (x7=x8)))] [] e C) ?_ ?_
  ·rintro e C ⟨x7,x8,h2l,hat3⟩
   refine W_at hat3 ?_
   clear hat3
   unfold ref28_Same_j3 at h2l
   refine ar (b:= !decide (x7=x8)) rfl (fun hc9=> ?_) (fun hc9=> ?_)
   ·replace h2l:=iteT hc9 h2l
    refine W_rs ?_
    refine rq (out:=Pr.bool false) ab ?_
    obtain rfl:=ho2 _ (Option.some.inj h2l).symm
    replace h:some false=some r:=h
    obtain rfl:=Option.some.inj h
    exact a9 ⟨rfl,aa⟩
   replace h2l:=iteF hc9 h2l
   refine av ?_
   refine W_r ?_
   refine rq (out:=Pr.i64 x4) ag ?_
   refine rq (out:=Pr.i64 (w64 (x4+1))) qInt ?_
   refine rq (out:=Pr.i64 (w64 (x4+1))) ab ?_
   exact⟨m2,Nat.lt_succ_self _,w64 (x4+1),hn2 _ (Option.some.inj h2l).symm,⟨⟨aa,aa,aa,trivial⟩,Pick.refl _⟩⟩
  refine ea 9 hmx (by kernel_rfl) (by kernel_rfl) ?_
  refine qq (out:=ae ai x1) ag ?_
  refine qq (out:=Pr.i64 x4) ag ?_
  obtain⟨x7,hx7,h2l⟩:=ah h2l
  refine qq (out:=a5 ai x7) (co (R:=ai) (l:=x1) Tryz.underlying22 Tryz.sizeOf38 hx7) ?_
  refine qq (out:=(ai).val x7) (bh (R:=ai) (a:=x7) ty38) ?_
  refine qq (out:=ae ai x2) ag ?_
  refine qq (out:=Pr.i64 x4) ag ?_
  obtain⟨x8,hx8,h2l⟩:=ah h2l
  refine qq (out:=a5 ai x8) (co (R:=ai) (l:=x2) Tryz.underlying22 Tryz.sizeOf38 hx8) ?_
  refine qq (out:=(ai).val x8) (bh (R:=ai) (a:=x8) ty38) ?_
  refine qq (out:=Pr.bool (!decide (x7=x8))) (qStNe (a:=x7) (b:=x8) eqApiSegment (by decide) rfl eqgApiSegment) ?_
  exact⟨x7,x8,h2l,⟨⟨aa,aa,aa,aa,trivial⟩,Pick.refl _⟩⟩
 replace h2l:=iteF hc6 h2l
 refine cb ?_
 obtain rfl:=ho2 _ (Option.some.inj h2l).symm
 exact⟨h,⟨trivial,Pick.refl _⟩⟩
theorem ref30_Conflicts_ok (x1 x2:List ApiConflict) (r:Bool) (h:jn x1 x2=some r):FnP Tryz.prog 15 [ae au x1,ae au x2] (Pr.bool r):=by
 refine a8 (n:=26) (rs:=[4]) Tryz.func15 rfl Tryz.ntmps15 ⟨by decide,Tryz.results15⟩ (by decide) (fun s0=> ?_)
 unfold jn at h
 refine W_rs ?_
 refine rq (out:=Pr.bool false) ab ?_
 refine ax ?_
 refine W_rs ?_
 refine rq (out:=ae au x1) ag ?_
 refine rq (out:=Pr.i64 (x1.length:Int)) (cj rfl Tryz.underlying25) ?_
 refine rq (out:=ae au x2) ag ?_
 refine rq (out:=Pr.i64 (x2.length:Int)) (cj rfl Tryz.underlying25) ?_
 refine rq (out:=Pr.bool ((x1.length:Int) != (x2.length:Int))) qInt ?_
 refine ar (b:=(x1.length:Int) != (x2.length:Int)) rfl (fun hc3=> ?_) (fun hc3=> ?_)
 ·replace h:=iteT hc3 h
  refine W_rs ?_
  refine rq (out:=Pr.bool false) ab ?_
  obtain rfl:=Option.some.inj h
  exact a9 ⟨rfl,aa⟩
 replace h:=iteF hc3 h
 refine av ?_
 refine ax ?_
 refine W_rs ?_
 refine rq (out:=Pr.i64 0) ab ?_
 refine aq ?_
 obtain⟨z2l,hz2,h⟩:=ah h
 obtain⟨n2,hN2⟩:=a4 hz2
 clear hz2
 refine bp 0 (fun e C=>ref30_Conflicts_k1=some r/\At [] [] e C) ?_ ?_
 ·rintro e C ⟨h,hat1⟩
  refine W_at hat1 ?_
  clear hat1
  unfold ref30_Conflicts_k1 at h
  refine W_rs ?_
  refine rq (out:=Pr.bool true) ab ?_
  obtain rfl:=Option.some.inj h
  exact a9 ⟨rfl,aa⟩
 refine cg (fun m e C=>∃(x4:Int),cv (fun s=>ge x1 x2 s) m x4=some z2l/\At [(0,ae au x1),(1,ae au x2),(5,Pr.i64 x4)] [] e C) n2 ⟨0,hN2,⟨⟨aa,aa,aa,trivial⟩,Pick.refl _⟩⟩ ?_
 clear hN2
 rintro m e C ⟨x4,hN2,hatl2⟩
 refine W_at hatl2 ?_
 clear hatl2
 obtain⟨m2,w2l,rfl,h2l,hn2,ho2⟩:=ay hN2
 clear hN2
 replace h2l:ge x1 x2 x4=some w2l:=h2l
 unfold ge at h2l
 refine ax ?_
 refine W_rs ?_
 refine rq (out:=Pr.i64 x4) ag ?_
 refine rq (out:=ae au x1) ag ?_
 refine rq (out:=Pr.i64 (x1.length:Int)) (cj rfl Tryz.underlying25) ?_
 refine rq (out:=Pr.bool (decide (x4<(x1.length:Int)))) qInt ?_
 refine ar (b:=decide (x4<(x1.length:Int))) rfl (fun hc6=> ?_) (fun hc6=> ?_)
 ·replace h2l:=iteT hc6 h2l
  refine av ?_
  refine ax ?_
  refine aq ?_
  refine bd (fun e C=>∃(x7:ApiConflict),∃(x8:ApiConflict),l6 x4 x7 x8=some w2l/\At [(0,ae au x1),(1,ae au x2),(5,Pr.i64 x4),(25,Pr.bool (!decide (x7=x8)))] [] e C) ?_ ?_
  ·rintro e C ⟨x7,x8,h2l,hat3⟩
   refine W_at hat3 ?_
   clear hat3
   unfold l6 at h2l
   refine ar (b:= !decide (x7=x8)) rfl (fun hc9=> ?_) (fun hc9=> ?_)
   ·replace h2l:=iteT hc9 h2l
    refine W_rs ?_
    refine rq (out:=Pr.bool false) ab ?_
    obtain rfl:=ho2 _ (Option.some.inj h2l).symm
    replace h:some false=some r:=h
    obtain rfl:=Option.some.inj h
    exact a9 ⟨rfl,aa⟩
   replace h2l:=iteF hc9 h2l
   refine av ?_
   refine W_r ?_
   refine rq (out:=Pr.i64 x4) ag ?_
   refine rq (out:=Pr.i64 (w64 (x4+1))) qInt ?_
   refine rq (out:=Pr.i64 (w64 (x4+1))) ab ?_
   exact⟨m2,Nat.lt_succ_self _,w64 (x4+1),hn2 _ (Option.some.inj h2l).symm,⟨⟨aa,aa,aa,trivial⟩,Pick.refl _⟩⟩
  refine ea 9 hmx (by kernel_rfl) (by kernel_rfl) ?_
  refine qq (out:=ae au x1) ag ?_
  refine qq (out:=Pr.i64 x4) ag ?_
  obtain⟨x7,hx7,h2l⟩:=ah h2l
  refine qq (out:=a5 au x7) (co (R:=au) (l:=x1) Tryz.underlying25 Tryz.sizeOf46 hx7) ?_
  refine qq (out:=(au).val x7) (bh (R:=au) (a:=x7) ty46) ?_
  refine qq (out:=ae au x2) ag ?_
  refine qq (out:=Pr.i64 x4) ag ?_
  obtain⟨x8,hx8,h2l⟩:=ah h2l
  refine qq (out:=a5 au x8) (co (R:=au) (l:=x2) Tryz.underlying25 Tryz.sizeOf46 hx8) ?_
  refine qq (out:=(au).val x8) (bh (R:=au) (a:=x8) ty46) ?_
  refine qq (out:=Pr.bool (!decide (x7=x8))) (qStNe (a:=x7) (b:=x8) eqApiConflict (by decide) rfl eqgApiConflict) ?_
  exact⟨x7,x8,h2l,⟨⟨aa,aa,aa,aa,trivial⟩,Pick.refl _⟩⟩
 replace h2l:=iteF hc6 h2l
 refine cb ?_
 obtain rfl:=ho2 _ (Option.some.inj h2l).symm
 exact⟨h,⟨trivial,Pick.refl _⟩⟩
end Go.Proofs.YtphkaogfinjbjaaGreatDoor
