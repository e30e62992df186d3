/- The code comes to what these functions say (printed by wip/gen/gen.py). -/
import Derived.Test.YtcndghapmoaidaaGreatDoorZX
import Derived.Test.YtcndghapmoaidaaGreatDoorZP1
import Derived.Test.YtcndghapmoaidaaGreatDoorZT
set_option linter.unusedSimpArgs false
set_option linter.unusedVariables false
set_option linter.unusedSectionVars false
set_option linter.unusedSectionVars false
set_option maxRecDepth 100000
set_option maxHeartbeats 4000000
namespace Go.Proofs.YtcndghapmoaidaaGreatDoor
open Go Go.Cn Tryz
attribute [local irreducible] qx ar
end Go.Proofs.YtcndghapmoaidaaGreatDoor
set_option linter.unusedSectionVars false
set_option maxRecDepth 100000
set_option maxHeartbeats 4000000
namespace Go.Proofs.YtcndghapmoaidaaGreatDoor
open Go Go.Cn Tryz
attribute [local irreducible] qx ar
end Go.Proofs.YtcndghapmoaidaaGreatDoor
set_option linter.unusedSectionVars false
set_option maxRecDepth 100000
set_option maxHeartbeats 4000000
namespace Go.Proofs.YtcndghapmoaidaaGreatDoor
open Go Go.Cn Tryz
attribute [local irreducible] qx ar
end Go.Proofs.YtcndghapmoaidaaGreatDoor
set_option linter.unusedSectionVars false
set_option maxRecDepth 100000
set_option maxHeartbeats 4000000
namespace Go.Proofs.YtcndghapmoaidaaGreatDoor
open Go Go.Cn Tryz
attribute [local irreducible] qx ar
end Go.Proofs.YtcndghapmoaidaaGreatDoor
set_option linter.unusedSectionVars false
set_option maxRecDepth 100000
set_option maxHeartbeats 4000000
namespace Go.Proofs.YtcndghapmoaidaaGreatDoor
open Go Go.Cn Tryz
attribute [local irreducible] qx ar
end Go.Proofs.YtcndghapmoaidaaGreatDoor
set_option linter.unusedSectionVars false
set_option maxRecDepth 100000
set_option maxHeartbeats 4000000
namespace Go.Proofs.YtcndghapmoaidaaGreatDoor
open Go Go.Cn Tryz
attribute [local irreducible] qx ar
section
variable {env:Env} {C:Ctx} {ty:TypeId} {pos:String} {after:Array Edge} {gd:Option (Nat × Bool)} {d:Option Nat}
theorem as8 {u:TypeId} {m:B9} {x:Operand} (hx:env.op x=Pi (abw m):=by exact rfl):Q Tryz.prog C ⟨d,.binOp .neq 20 x (.const .nilIface) u,ty,pos,after,gd⟩ env (Pb true):=by
 intro s ρ hs _ h
 have h0:ρ x=abw m:=by have:=h x af7;rw[hx]at this;exact this
 have h2:ρ (.const .nilIface)= .nilIface:=h (.const .nilIface) af6
 have he:∀d:Nat,(Op.equalIn (d+1) 20 (abw m) .nilIface).run Tryz.prog s.w= .ok false s.w:=fun d=>by simp[abw,Op.equalIn,ec underlying20]
 refine .of_run hs (v:= .bool true) ?_ rfl
 have h0':ρ x= .iface 72 (.agg #[.int .i64 m.m.Code,.int .i64 m.m.File,.int .i64 m.m.At]):=h0
 have he':=he 9999
 unfold abw at he'
 simp[execOp,h0',h2,eqGuard,binOp,Op.equal,Op.maxDepth,he']
theorem aqj {u:TypeId} {x:Operand} (hx:env.op x=Pi .nilIface:=by exact rfl):Q Tryz.prog C ⟨d,.binOp .neq 20 x (.const .nilIface) u,ty,pos,after,gd⟩ env (Pb false):=by
 intro s ρ hs _ h
 have h0:ρ x= .nilIface:=by have:=h x af7;rw[hx]at this;exact this
 have h2:ρ (.const .nilIface)= .nilIface:=h (.const .nilIface) af6
 have he:∀d:Nat,(Op.equalIn (d+1) 20 .nilIface .nilIface).run Tryz.prog s.w= .ok true s.w:=fun d=>by simp[Op.equalIn,ec underlying20]
 refine .of_run hs (v:= .bool false) ?_ rfl
 simp[execOp,h0,h2,eqGuard,binOp,Op.equal,Op.maxDepth,he 9999]
theorem as7 (m:B9) (s:St):((ku).val m).p s (.agg #[.int .i64 m.m.Code,.int .i64 m.m.File,.int .i64 m.m.At]):=
 (ku).spec.2 ⟨[.int .i64 m.m.Code,.int .i64 m.m.File,.int .i64 m.m.At],⟨_,_,rfl,⟨_,_,rfl,rfl,⟨_,_,rfl,rfl,⟨_,_,rfl,rfl,rfl⟩⟩⟩,rfl⟩,rfl⟩
theorem aut {xt:TypeId} {m:B9} {x:Operand} (hx:env.op x=Pi (abw m):=by exact rfl):Q Tryz.prog C ⟨d,.typeAssert x xt 72 true,ty,pos,after,gd⟩ env (bu [(ku).val m,Pb true]):=by
 intro s ρ hs _ h
 have h0:ρ x= .iface 72 (.agg #[.int .i64 m.m.Code,.int .i64 m.m.File,.int .i64 m.m.At]):=by have:=h x (by simp[Op.operands]);rw[hx]at this;exact this
 refine .of_run hs (v:= .tuple #[.agg #[.int .i64 m.m.Code,.int .i64 m.m.File,.int .i64 m.m.At],.bool true]) ?_ ⟨[_,_],rfl,as7 m s,rfl,tv⟩
 simp[execOp,Instr.typeAssert,h0,ec underlying72]
end
theorem aqk (b0 b1:Nat) (s:St) (hs:s.WF):CallsDIn Fence.wide 0 Tryz.prog 36 #[.pointer (some ⟨b0,0,none⟩),.pointer (some ⟨b1,0,none⟩)] .returning s.w (fun e u' w'=>(∃v,e= .returned v)/\u'= .returning/\∃F',A0 (fun _=>False) s ⟨w',F'⟩):=by
 refine callsDIn_of_wpSIn func36 rfl trivial (fun c₀ cs hu=>?_)
 have he:A3 ⟨18,none,[]⟩ (rb [Pr.pt b0 0,Pr.pt b1 0]) {tmps:= #[.pointer (some ⟨b0,0,none⟩),.pointer (some ⟨b1,0,none⟩)]++Array.replicate (Tryz.f36.ntmps - (#[.pointer (some ⟨b0,0,none⟩),.pointer (some ⟨b1,0,none⟩)]:Array Value).size) undef,defers:=[]} s:=
  ⟨fun t=>uv (show AllP s [Pr.pt b0 0,Pr.pt b1 0] [.pointer (some ⟨b0,0,none⟩),.pointer (some ⟨b1,0,none⟩)]from⟨rfl,rfl,tv⟩) _ t,by simp[ntmps36],rfl⟩
 refine aka (v:= .nilIface) (cs':=c₀::cs) (by simp[ntmps36]) (.inr ⟨by simp[recoverD,hu],rfl,rfl⟩) ?_
 have he2:=(he.putO (d:=some 5) (p:=Pi .nilIface) (v:= .nilIface) (fun d hd=>by cases hd;decide) rfl).putO (d:=some 2) (p:=Pi .nilIface) (v:= .nilIface) (fun d hd=>by cases hd;decide) rfl
 have hg:Cn.Good (fun _=>False) s s []:=⟨A0.refl hs,hs,⟨List.nodup_nil,fun x hx=>(by cases hx),fun b hb=>(by cases hb)⟩,fun b hb=>(by cases hb)⟩
 refine wpSIn_of_wpIn rfl ?_
 refine(?_:W2 Tryz.prog ⟨18,none,[]⟩ (fun _=>False) s _ _ [] _) _ s he2 hg
 refine auv ?_
 refine rq (out:=Pi .nilIface) gk ?_
 refine rq (out:=Pb false) aqj ?_
 refine And.intro rfl (W2_c (b:=false) rfl (fun h=>by cases h) (fun _=>avl (fun a s' he hg=>?_)))
 exact⟨he.nod,.returning,by rw[← hu],_,ac3 (rs:=[]) ⟨by decide,results36⟩ _ _,⟨_,rfl⟩,rfl,s'.F,hg.mod⟩
theorem aql (b0 b1:Nat) (l0:List B7) (l1:B3) (m:B9) (s:St) (hs:s.WF) (hh:Has s [E0 b0 (Rp.list al) l0,E0 b1 az l1]):CallsDIn Fence.wide 0 Tryz.prog 36 #[.pointer (some ⟨b0,0,none⟩),.pointer (some ⟨b1,0,none⟩)] (.panicking (one (abw m))) s.w
  (fun e u' w'=>(∃v,e= .returned v)/\u'= .panicking [{v:=abw m,recovered:=true}]/\∃F',A0 (fun b=>b∈bv [E0 b0 (Rp.list al) l0,E0 b1 az l1]) s ⟨w',F'⟩/\Has ⟨w',F'⟩ [E0 b0 (Rp.list al) [],E0 b1 az m.m]):=by
 refine callsDIn_of_wpSIn func36 rfl trivial (fun c₀ cs hu=>?_)
 have he:A3 ⟨18,none,[]⟩ (rb [Pr.pt b0 0,Pr.pt b1 0]) {tmps:= #[.pointer (some ⟨b0,0,none⟩),.pointer (some ⟨b1,0,none⟩)]++Array.replicate (Tryz.f36.ntmps - (#[.pointer (some ⟨b0,0,none⟩),.pointer (some ⟨b1,0,none⟩)]:Array Value).size) undef,defers:=[]} s:=
  ⟨fun t=>uv (show AllP s [Pr.pt b0 0,Pr.pt b1 0] [.pointer (some ⟨b0,0,none⟩),.pointer (some ⟨b1,0,none⟩)]from⟨rfl,rfl,tv⟩) _ t,by simp[ntmps36],rfl⟩
 refine aka (v:=abw m) (cs':={c₀ with mode:= .panicking [{v:=abw m,recovered:=true}]}::cs) (by simp[ntmps36]) (.inl (by simp[recoverD,hu])) ?_
 have he2:=(he.putO (d:=some 5) (p:=Pi (abw m)) (v:=abw m) (fun d hd=>by cases hd;decide) rfl).putO (d:=some 2) (p:=Pi (abw m)) (v:=abw m) (fun d hd=>by cases hd;decide) rfl
 have hg:Cn.Good (fun b=>b∈bv [E0 b0 (Rp.list al) l0,E0 b1 az l1]) s s [E0 b0 (Rp.list al) l0,E0 b1 az l1]:=⟨A0.refl hs,hs,hh,fun b hb=> .inr hb⟩
 refine wpSIn_of_wpIn rfl ?_
 refine(?_:W2 Tryz.prog ⟨18,none,[]⟩ (fun b=>b∈bv [E0 b0 (Rp.list al) l0,E0 b1 az l1]) s _ _ [E0 b0 (Rp.list al) l0,E0 b1 az l1] _) _ s he2 hg
 refine auv ?_
 refine rq (out:=Pi (abw m)) gk ?_
 refine rq (out:=Pb true) as8 ?_
 refine And.intro rfl (W2_c (b:=true) rfl (fun _=>?_) (fun h=>by cases h))
 refine ay7 (K:=fun e _ C=>e= .normal/\A8 C [E0 b0 (Rp.list al) [],E0 b1 az m.m]) ?_ ?_ (.inr (fun e _ _ h=>by rw[h.1];simp))
 ·refine W_rs ?_
  refine rq (out:=Pi (abw m)) gk ?_
  refine rq (out:=bu [(ku).val m,Pb true]) aut ?_
  refine rq (out:=bu [(ku).val m,Pb true]) gk ?_
  refine rq (out:=(ku).val m) aq ?_
  refine rq (out:=Pb true) aq ?_
  refine afh (R:=ku) (z:=(B9.mk (B3.mk 0 0 0))) zeroValue72 (fun _=>⟨_,⟨_,_,rfl,⟨_,_,rfl,rfl,⟨_,_,rfl,rfl,⟨_,_,rfl,rfl,rfl⟩⟩⟩,rfl⟩,rfl⟩) (fun b=>?_)
  refine zi (R:=ku) (R':=ku) (a:=(B9.mk (B3.mk 0 0 0))) (y:=m) 2 sizeOf72 (Upd.refl _) ?_
  refine rq (out:=Pb true) fw ?_
  refine ba ?_
  refine W_rs ?_
  refine rq (out:=Pb true) gk ?_
  refine rq (out:=Pb (!true)) qNot ?_
  refine amc (b:= !true) rfl (fun h=>by cases h) (fun _=>?_)
  refine aw ?_
  refine fo [(2,0,E0 b0 (Rp.list al) []),(3,1,E0 b1 az m.m)] [E0 b0 (Rp.list al) [],E0 b1 az m.m,E0 b ku m] hmx kr kr (show([2,3]:List Nat).Nodup by decide) (show([0,1]:List Nat).Nodup by decide) rfl rfl ?_
  refine eq1 (out:=Pr.pt b 0) (fun C2 hC=>(ak fld72_0)) ?_
  refine eq1 (out:=(az).val m.m) (fun C2 hC=>(ax (R:=ku) (a:=m) (R':=az) 2 ty30 aps (hi:=(hC 2 kr).trans rfl))) ?_
  refine eqS (fun C2 hC=>au2 (R:=Rp.list al) (R':=Rp.list al) (a:=l0) (y:=[]) 0 sizeOf27 (Upd.refl _) ((hC 0 kr).trans rfl) (du _)) ?_
  refine eqs 1 sizeOf30 (Upd.refl _) rfl rfl rfl kr ?_
  exact⟨rfl,A8.of [0,1] rfl⟩
 ·rintro e a s' env' C' he hg ⟨rfl,hp⟩
  have hg:=hg.pick hp
  exact⟨he.nod,_,rfl,_,ac3 (rs:=[]) ⟨by decide,results36⟩ _ _,⟨_,rfl⟩,rfl,s'.F,hg.mod,hg.has⟩
theorem aa9 {fn:Func} (hres:fn.results=[ResultVar.cell 2 27,.cell 3 30].toArray) {r:(List B7) × B3} {s0 s:St} {env:Env} {a:Act} {b0 b1:Nat} {l0:List B7} {l1:B3} {w:World} {F':Nat->Prop} (hr:r=(l0,l1)) (he:∀t,(env t).p s (a.tmps.getD t undef)) (h0:(env 2).le (Pr.pt b0 0)) (h1:(env 3).le (Pr.pt b1 0))
  (hh:Has ⟨w,F'⟩ [E0 b0 (Rp.list al) l0,E0 b1 az l1]) (hm:A0 (fun _=>False) s0 ⟨w,F'⟩):∃v,(results fn a.tmps).run Tryz.prog w= .ok v w/\∃v' F',Ending.returned v= .returned v'/\Cn.Calm s0 ⟨w,F'⟩/\(bu [ar al r.1,(az).val r.2]).p ⟨w,F'⟩ v':=by
 subst hr
 have he':∀t,((fun t=>if t=2 then Pr.pt b0 0 else if t=3 then Pr.pt b1 0 else Pr.any:Env) t).p ⟨w,F'⟩ (a.tmps.getD t undef):=by
  intro t
  by_cases hh0:t=2
  ·subst hh0;have h6:=h0 _ _ (he _);exact h6
  ·by_cases hh1:t=3
   ·subst hh1;have h6:=h1 _ _ (he _);exact h6
   ·simp only[hh0,hh1,if_false];trivial
 obtain⟨us,h7,h8⟩:=acv (P:=Tryz.prog) (rs:=[.cell 2 27,.cell 3 30]) (ps:=[ar al l0,(az).val l1]) (a:=a) he' hh ⟨yBox 0 ty27 aa,yBox 1 ty30 aa,tv⟩
 exact⟨_,ad1 hres h7,_,F',rfl,hm,art h8⟩
theorem ah1 (x1:List (List B5)) (r:(List B7) × B3) (h:afp x1=some r):Fp 13 [ar (Rp.list ag) x1] (bu [ar al r.1,(az).val r.2]):=by
 obtain⟨r0,h,hr0⟩:=aj h
 refine azx (n:=67) func13 rfl ntmps13 dcd (fun s=>?_)
 unfold al5 at h
 refine auv ?_
 refine br al27 fun b2=>?_
 let p1:=E0 b2 (Rp.list al) []
 refine br al30 fun b3=>?_
 refine And.intro rfl ?_
 refine auv ?_
 refine kMvL rfl ?_
 obtain⟨⟨x4,x5⟩,k,h⟩:=aj h
 refine kUn (dv (aqf x1 _ k)) ?_
 refine kUn (hMv (out:=bu [ar af x4,(az).val x5]) rfl) (kUn aq ?_)
 refine kUn aq ?_
 refine kAsL rfl (au 1 rfl rfl (Upd.refl _) rfl sizeOf30 ?_)
 refine And.intro rfl ?_
 refine W2_ss ?_
 refine auv ?_
 refine kUn (ak alq) ?_
 refine kUn (ax 1 ty28 lu) ?_
 refine kIn rfl rfl rfl ?_
 refine And.intro rfl ?_
 refine W2_c (b:=x5.Code != 0) rfl (fun hc6=>?_) (fun hc6=>?_)
 ·replace h:=iteT hc6 h
  refine ayh ?_
  refine fo [(1,0,E0 b2 (Rp.list al) []),(2,1,E0 b3 az x5)] [p1,E0 b3 az x5] hmx kr kr (show([1,2]:List Nat).Nodup by decide) (show([0,1]:List Nat).Nodup by decide) rfl rfl ?_
  refine eql 1 ty30 (Sub.refl _) rfl rfl kr ?_
  refine eqS (fun C2 hC=>au2 (R:=Rp.list al) (R':=Rp.list al) (a:=[]) (y:=[]) 0 sizeOf27 (Upd.refl _) ((hC 0 kr).trans rfl) (du _)) ?_
  refine eqs 1 sizeOf30 (Upd.refl _) rfl rfl rfl kr ?_
  refine And.intro rfl ?_
  obtain rfl:=osj h
  refine a13 (fun a s' he hg=>?_)
  have hg:=hg.pick (A8.refl _)
  show LeavesInM _ _ _ _ _ _ a.defers _ _
  rw[he.nod]
  exact aa9 results13 (ojs hr0) he.at_ aa aa hg.has hg.mod
 replace h:=iteF hc6 h
 refine avl (fun a s' he hg=>?_)
 refine(?_:W2 Tryz.prog ⟨67,none,[]⟩ (fun _=>False) s _ _ _ _) a s' he hg
 clear he hg a s'
 refine W2_ss ?_
 refine auv ?_
 refine kMvL rfl (c8 h (aui x4) rfl fun x7 _ h=>au 1 rfl rfl (Upd.refl _) rfl sizeOf30 ?_)
 let p2:=E0 b3 az x7
 refine And.intro rfl ?_
 refine auv ?_
 refine kUn (ak alq) ?_
 refine kUn (ax 1 ty28 lu) ?_
 refine kIn rfl rfl rfl ?_
 refine And.intro rfl ?_
 refine W2_c (b:=x7.Code != 0) rfl (fun hc8=>?_) (fun hc8=>?_)
 ·replace h:=iteT hc8 h
  refine ayh ?_
  refine fo [(1,0,E0 b2 (Rp.list al) []),(2,1,E0 b3 az x7)] [p1,p2] hmx kr kr (show([1,2]:List Nat).Nodup by decide) (show([0,1]:List Nat).Nodup by decide) rfl rfl ?_
  refine eql 1 ty30 (Sub.refl _) rfl rfl kr ?_
  refine eqS (fun C2 hC=>au2 (R:=Rp.list al) (R':=Rp.list al) (a:=[]) (y:=[]) 0 sizeOf27 (Upd.refl _) ((hC 0 kr).trans rfl) (du _)) ?_
  refine eqs 1 sizeOf30 (Upd.refl _) rfl rfl rfl kr ?_
  refine And.intro rfl ?_
  obtain rfl:=osj h
  refine a13 (fun a s' he hg=>?_)
  have hg:=hg.pick (A8.refl _)
  show LeavesInM _ _ _ _ _ _ a.defers _ _
  rw[he.nod]
  exact aa9 results13 (ojs hr0) he.at_ aa aa hg.has hg.mod
 replace h:=iteF hc8 h
 refine avl (fun a s' he hg=>?_)
 refine(?_:W2 Tryz.prog ⟨67,none,[]⟩ (fun _=>False) s _ _ _ _) a s' he hg
 clear he hg a s'
 refine a1o (b1:=b2) (b2:=b3) dcd rfl rfl ?_
 refine ay7 (K:=fun e env C=>∃l0 l1,A8 C [E0 b2 (Rp.list al) l0,E0 b3 az l1]/\(env 2).le (Pr.pt b2 0)/\(env 3).le (Pr.pt b3 0)/\((e= .ret/\r0= .ok (l0,l1))\/∃w,e= .panic (one (abw w))/\r0= .bad w)) ?_ ?_ (.inl sm)
 ·refine W_rs (kUn (jh ao3 rfl) ?_)
  refine rBox (R:=ap) (a:=(D4.mk (.slice none 0 0) 0 [] 0)) rfl (fun b9=>?_)
  refine kAs rfl (ba (W_rs (kMvL rfl (kUn (ma rfl underlying24) ?_))))
  refine kMv rfl (ay ?_)
  obtain⟨z2l,hz2,h⟩:=aj h
  obtain⟨n2,hN2⟩:=bt hz2
  refine dl 0 (fun e C=>∃x12,∃x13,∃x14,∃x15,∃v11,aed x12 x13 x14 x15=some r0/\At [(2,Pr.pt b2 0),(3,Pr.pt b3 0),(5,Pr.pt b9 0)] [p1,p2,E0 b9 ap (D4.mk v11 x12 x13 x14),E3 v11 al x15 47] e C) ?_ ?_
  ·rintro e C ⟨x12,x13,x14,x15,v11,h,a⟩
   let p3:=D4.mk v11 x12 x13 x14
   refine W_at a ?_
   unfold aed at h
   refine W_rs (kMv rfl (kNp rfl (kUn (ak ary) ?_)))
   refine kUn (aaa (R:=ap) (a:=p3) 2 ty27 uj) ?_
   obtain⟨x49,k,h⟩:=aj h
   refine ayq [3] (ta xh x15 v11 _ k) ⟨aa,(aye en39 (fun _ _ hs=>by obtain⟨a0,a1,r,rfl,rfl,hr⟩:=hs;exact aqm a0 a1 r hr)),tv⟩ (fun q C' hq=>?_)
   obtain⟨rfl,rfl⟩:=hq
   refine rCtx [E3 v11 al x49 47,p1,p2,E0 b9 ap p3] ?_
   refine W_rs (kMv rfl (kNp rfl (kUn (ak ary) ?_)))
   refine kUn (aaa (R:=ap) (a:=p3) 3 ty27 uj) ?_
   refine kUn (jh st30 rfl) ?_
   refine rRel 0 [65] ?_ rfl ⟨rfl,tv⟩
   refine au 0 rfl rfl (Upd.refl _) rfl sizeOf27 (au 1 rfl rfl (Upd.refl _) rfl sizeOf30 ?_)
   obtain rfl:=osj h
   exact bj ⟨_,_,A8.of [0,1] rfl,aa,aa,.inl ⟨rfl,rfl⟩⟩
  refine a0a al 47 ?_
  refine fb (fun m e C=>∃x10,∃x12,∃x13,∃x14,∃x15,∃v11,fp (fun s=>q8 x1 x4 s.1 s.2.1 s.2.2.1 s.2.2.2.1 s.2.2.2.2) m (x10,x12,x13,x14,x15)=some z2l/\At [(2,Pr.pt b2 0),(3,Pr.pt b3 0),(4,ar af x4),(5,Pr.pt b9 0),(28,ar (Rp.list ag) x1),(29,P6 (x1.length:Int)),(30,P6 x10)] [p1,p2,E0 b9 ap (D4.mk v11 x12 x13 x14),E3 v11 al x15 47] e C) n2 ⟨0,0,[],0,[],(.slice none 0 0),hN2,⟨⟨aa,aa,aa,aa,aa,aa,aa,tv⟩,A8.refl _⟩⟩ ?_
  rintro m e C ⟨x10,x12,x13,x14,x15,v11,hN2,a⟩
  refine W_at a ?_
  obtain⟨m2,w2l,rfl,h2l,hn2,ho2⟩:=bl hN2
  replace h2l:q8 x1 x4 x10 x12 x13 x14 x15=some w2l:=h2l
  unfold q8 at h2l
  refine W_rs (kIn rfl rfl rfl (ba ?_))
  refine bc h2l rfl (fun _ h2l=>?_) (fun _ h2l=>?_)
  ·refine aw (ba (ay (W_rs (kMv rfl ?_))))
   obtain⟨x23,k,h2l⟩:=aj h2l
   refine kUn (gu underlying24 sizeOf53 k) ?_
   refine kUn (dn ty53) ?_
   refine kAs rfl (kAsL rfl (W_rs (kMv rfl (kMv rfl (kNp rfl (kUn (ak arx) ?_))))))
   refine au 2 rfl rfl aia rfl sizeOf3 ?_
   refine rCtx [p1,p2,E0 b9 ap (D4.mk v11 x10 x13 x14),E3 v11 al x15 47] ?_
   refine W_rs (kMvL rfl (kUn (ma rfl underlying53) ?_))
   refine kMv rfl (ay ?_)
   obtain⟨z4l,hz4,h2l⟩:=aj h2l
   obtain⟨n4,hN4⟩:=bt hz4
   refine dl 2 (fun e C=>∃x26,∃x27,∃x28,∃x29,∃v25,aec x10 x26 x27 x28 x29=some w2l/\At [(2,Pr.pt b2 0),(3,Pr.pt b3 0),(4,ar af x4),(5,Pr.pt b9 0),(28,ar (Rp.list ag) x1),(29,P6 (x1.length:Int)),(30,P6 x10)] [p1,p2,E0 b9 ap (D4.mk v25 x26 x27 x28),E3 v25 al x29 47] e C) ?_ ?_
   ·rintro e C ⟨x26,x27,x28,x29,v25,h2l,a⟩
    refine W_at a ?_
    unfold aec at h2l
    refine W_r (kIn rfl rfl rfl (kMv rfl ?_))
    exact⟨m2,lsu,w64 (x10+1),x26,x27,x28,x29,v25,hn2 _ (ojs h2l),atOk⟩
   refine fb (fun m e C=>∃x24,∃x26,∃x27,∃x28,∃x29,∃v25,fp (fun s=>tw x23 x4 s.1 s.2.1 s.2.2.1 s.2.2.2.1 s.2.2.2.2) m (x24,x26,x27,x28,x29)=some z4l/\At [(2,Pr.pt b2 0),(3,Pr.pt b3 0),(4,ar af x4),(5,Pr.pt b9 0),(28,ar (Rp.list ag) x1),(29,P6 (x1.length:Int)),(30,P6 x10),(39,ar ag x23),(40,P6 (x23.length:Int)),(41,P6 x24)] [p1,p2,E0 b9 ap (D4.mk v25 x26 x27 x28),E3 v25 al x29 47] e C) n4 ⟨0,x10,x13,x14,x15,v11,hN4,⟨⟨aa,aa,aa,aa,aa,aa,aa,aa,aa,aa,tv⟩,A8.refl _⟩⟩ ?_
   rintro m e C ⟨x24,x26,x27,x28,x29,v25,hN4,a⟩
   refine W_at a ?_
   obtain⟨m4,w4l,rfl,h4l,hn4,ho4⟩:=bl hN4
   replace h4l:tw x23 x4 x24 x26 x27 x28 x29=some w4l:=h4l
   unfold tw at h4l
   refine W_rs (kIn rfl rfl rfl (ba ?_))
   refine bc h4l rfl (fun _ h4l=>?_) (fun _ h4l=>?_)
   ·refine aw ?_
    refine bm (fun e C=>∃x45,∃x46,∃x47,∃x48,∃x37,∃v44,∃b38,yd x24 x45 x46 x47 x48 x37=some w4l/\At [(2,Pr.pt b2 0),(3,Pr.pt b3 0),(4,ar af x4),(5,Pr.pt b9 0),(28,ar (Rp.list ag) x1),(29,P6 (x1.length:Int)),(30,P6 x10),(39,ar ag x23),(40,P6 (x23.length:Int)),(41,P6 x24)] [E0 b9 ap (D4.mk v44 x45 x46 x47),E3 v44 al x48 47,p1,p2,E0 b38 ag x37] e C) ?_ ?_
    ·rintro e C ⟨x45,x46,x47,x48,x37,v44,b38,h4l,a⟩
     refine W_at a ?_
     unfold yd at h4l
     refine W_r (kIn rfl rfl rfl (kMv rfl ?_))
     exact⟨m4,lsu,w64 (x24+1),x45,x46,x47,x48,v44,hn4 _ (ojs h4l),⟨⟨aa,aa,aa,aa,aa,aa,aa,aa,aa,aa,tv⟩,A8.of [2,3,0,1] rfl⟩⟩
    refine ay (W_rs ?_)
    obtain⟨x37,k,h4l⟩:=aj h4l
    let p4:=B6.mk x4 x37.Text false []
    refine kUn (gu underlying53 sizeOf64 k) ?_
    refine kUn (dn ty64) ?_
    refine br al64 fun b38=>au 4 rfl rfl (Upd.refl _) rfl sizeOf64 (W_rs (kUn (ak ig) ?_))
    refine kUn (ax 4 ty3 bq) ?_
    refine kIn rfl rfl rfl ?_
    refine bc h4l rfl (fun _ h4l=>?_) (fun _ h4l=>?_)
    ·refine W_r (kMv rfl (kMvL rfl (kUn (ak gz) ?_)))
     refine kUn (ax 4 ty9 cc) ?_
     refine kUn (jh st66 ⟨(B6.mk x4 [] false []),⟨_,rfl,rfl,qbj⟩,⟨p4,⟨_,rfl,rfl,qbj⟩,rfl⟩⟩) ?_
     refine kUn (ax 4 ty64 (Sub.refl _)) ?_
     rcases xz h4l with⟨m43,hm43,h4l⟩|⟨⟨x40,x41⟩,hx40,h4l⟩
     ·refine ab7 [2,3] (adr p4 x37 (B8.mk x29 x26 x27 x28) b9 v25 _ hm43) ⟨aa,aa,aa,tv⟩ (fun q C' hq=>?_) (fun v9 hv=>?_)
      ·obtain⟨_,h9,_⟩:=hq;cases h9
      obtain⟨_,h9,rfl⟩:=hv
      cases h9
      obtain rfl:=ho4 _ (ojs h4l)
      replace h2l:some (.inr (.done (.bad m43)))=some w2l:=h2l
      obtain rfl:=ho2 _ (ojs h2l)
      replace h:some (.bad m43)=some r0:=h
      obtain rfl:=osj h
      exact⟨_,_,A8.of [0,1] rfl,aa,aa,.inr ⟨_,rfl,rfl⟩⟩
     refine ab7 [2,3] (adr p4 x37 (B8.mk x29 x26 x27 x28) b9 v25 _ hx40) ⟨aa,aa,aa,tv⟩ (fun q C' hq=>?_) (fun v9 hv=>by obtain⟨_,h9,_⟩:=hv;cases h9)
     obtain⟨_,h9,v42,rfl,rfl⟩:=hq
     cases h9
     refine rCtx [E0 b9 ap (D4.mk v42 x41.file x41.method x41.many),E3 v42 al x41.uses 47,p1,p2,E0 b38 ag x37] ?_
     exact⟨x41.file,x41.method,x41.many,x41.uses,x37,v42,b38,h4l,atOk⟩
    refine aw ?_
    exact⟨x26,x27,x28,x29,x37,v25,b38,h4l,⟨⟨aa,aa,aa,aa,aa,aa,aa,aa,aa,aa,tv⟩,A8.of [2,3,0,1,4] rfl⟩⟩
   refine ep ?_
   obtain rfl:=ho4 _ (ojs h4l)
   exact⟨x26,x27,x28,x29,v25,h2l,atOk⟩
  refine ep ?_
  obtain rfl:=ho2 _ (ojs h2l)
  exact⟨x12,x13,x14,x15,v11,h,atOk⟩
 rintro e a s' env' C' he hg ⟨l0,l1,hp,h4,h5,hK⟩
 have hg:=hg.pick hp
 rcases hK with⟨rfl,rfl⟩|⟨w,rfl,rfl⟩
 ·show LeavesInM _ _ _ _ _ _ a.defers _ _
  rw[he.nod]
  refine⟨by simp,.inr ⟨by simp[Fence.wide],_,_,36, #[.pointer (some ⟨b2,0,none⟩),.pointer (some ⟨b3,0,none⟩)],rfl,by simp[invoke,tk en36],fun _ _=>trivial,(aqk b2 b3 s' hg.wf).mono ?_⟩⟩
  rintro e' u' w' ⟨⟨v,rfl⟩,rfl,F',hm⟩
  have hg2:=hg.calm (t:=⟨w',F'⟩) hm
  exact aa9 results13 (ojs hr0) he.at_ h4 h5 hg2.has hg2.mod
 show LeavesInM _ _ _ _ _ _ a.defers _ _
 rw[he.nod]
 refine⟨by simp,.inr ⟨by simp[Fence.wide],_,_,36, #[.pointer (some ⟨b2,0,none⟩),.pointer (some ⟨b3,0,none⟩)],rfl,by simp[invoke,tk en36],fun _ _=>trivial,(aql b2 b3 l0 l1 w s' hg.wf hg.has).mono ?_⟩⟩
 rintro e' u' w' ⟨⟨v,rfl⟩,rfl,F',hm,hh⟩
 obtain⟨h9,_⟩:=Cn.Good.call (C':=[p1,E0 b3 az w.m]) (C0:=[E0 b2 (Rp.list al) l0,E0 b3 az l1]) (Cr:=[]) (by simpa using hg) hm hh (fun b hb=> .inl hb)
 have h9:Cn.Good (fun _=>False) s ⟨w',F'⟩ [p1,E0 b3 az w.m]:=by simpa using h9
 exact aa9 results13 (ojs hr0) he.at_ h4 h5 h9.has h9.mod
section
variable {env:Env} {C:Ctx} {ty:TypeId} {pos:String} {after:Array Edge} {gd:Option (Nat × Bool)} {d:Option Nat}
end
end Go.Proofs.YtcndghapmoaidaaGreatDoor
set_option linter.unusedSectionVars false
set_option maxRecDepth 100000
set_option maxHeartbeats 4000000
namespace Go.Proofs.YtcndghapmoaidaaGreatDoor
open Go Go.Cn Tryz
attribute [local irreducible] qx ar
theorem aqc (r:Bool) (h:agh=some r):Fp 11 [] (Pb r):=by
  refine dr (rs:=[0]) func11 rfl ntmps11 ⟨by decide,results11⟩ dcd (fun s0=>?_)
  let p1:=B5.mk 17 ([102]:Bt) [] 0 0 0 0 0 []
  unfold agh at h
  refine W_rs (kAs rfl (W_rs ?_))
  obtain⟨⟨x1,x2⟩,k,h⟩:=aj h
  refine kUn (dv (ako ([99,108,97,115,115,32,65,123,105,110,116,32,102,59,105,110,116,32,109,40,65,32,97,41,123,114,101,116,117,114,110,32,97,46,102,59,125,125]:Bt) _ k)) ?_
  refine kUn (hMv (out:=bu [ar ag x1,(az).val x2]) rfl) (kUn aq ?_)
  refine kUn aq ?_
  refine br al30 fun b3=>kAsL rfl (au 0 rfl rfl (Upd.refl _) rfl sizeOf30 (W_rs (kMvL rfl (kUn (c5 (R:=Rp.list ag) (a:=x1) el24 nb) ?_))))
  obtain⟨⟨x4,x5⟩,k,h⟩:=aj h
  refine kUn (dv (ah1 ([x1]:List (List B5)) _ k)) ?_
  refine kUn (hMv (out:=bu [ar al x4,(az).val x5]) rfl) (kUn aq ?_)
  refine kUn aq ?_
  refine br al30 fun b6=>kAsL rfl (au 1 rfl rfl (Upd.refl _) rfl sizeOf30 (W_rs (kMvL rfl ?_)))
  obtain⟨⟨x7,x8⟩,k,h⟩:=aj h
  refine kUn (dv (axt x4 0 34 _ k)) ?_
  refine kUn (hMv (out:=bu [Pr.str x7,Pb x8]) rfl) (kUn aq ?_)
  refine kUn aq ?_
  refine kAs rfl (kAs rfl (W_rs (kMvL rfl (kUn (c5 (R:=Rp.list ag) (a:=x1) el24 nb) ?_))))
  obtain⟨⟨x9,x10⟩,k,h⟩:=aj h
  let p2:=B6.mk x9 ([65]:Bt) false []
  refine kUn (dv (ap1 ([x1]:List (List B5)) _ k)) ?_
  refine kUn (hMv (out:=bu [ar af x9,(az).val x10]) rfl) (kUn aq ?_)
  refine kUn aq ?_
  refine br al30 fun b11=>kAsL rfl (au 2 rfl rfl (Upd.refl _) rfl sizeOf30 (W_rs (kMvL rfl (kUn (jh st66 ⟨(B6.mk x9 [] false []),⟨_,rfl,rfl,qbj⟩,⟨p2,⟨_,rfl,rfl,qbj⟩,rfl⟩⟩) ?_))))
  refine br al66 fun b12=>au 3 rfl rfl (Upd.refl _) rfl sizeOf66 (W_rs (kUn (ax 3 ty66 (Sub.refl _)) ?_))
  refine kUn (ev a8 st64 ⟨(B5.mk 17 [] [] 0 0 0 0 0 []),⟨_,rfl,rfl,qbj⟩,⟨p1,⟨_,rfl,rfl,qbj⟩,rfl⟩⟩) ?_
  obtain⟨⟨x13,x14⟩,k,h⟩:=aj h
  refine kUn (dv (ace p2 p1 _ k)) ?_
  refine kUn (hMv (out:=bu [(af).val x13,P6 x14]) rfl) (kUn aq ?_)
  refine kUn aq ?_
  refine br sj fun b15=>au 4 rfl rfl (Upd.refl _) rfl sizeOf49 (kAs rfl ?_)
  refine bm (fun e C=>∃x417,ji x417=some r/\At [(0,Pb x417)] [E0 b3 az x2,E0 b6 az x5,E0 b11 az x10,E0 b12 am p2,E0 b15 af x13] e C) ?_ ?_
  · rintro e C ⟨x417,h,a⟩
    refine W_at a ?_
    unfold ji at h
    obtain rfl:=osj h
    exact bj ⟨rfl,aa⟩
  refine W_r (kUn (ak alq) ?_)
  refine kUn (ax 1 ty28 lu) ?_
  refine kIn rfl rfl rfl (kMv rfl ?_)
  rcases cg h with⟨hc16,h⟩|⟨hc16,h⟩
  · refine kGd rfl aa hc16 (hMvL rfl) (kGd rfl aa hc16 (ma rfl underlying27) ?_)
    refine kGd rfl aa hc16 (qInt rfl rfl rfl) (kPt rfl hc16 rfl (kMv rfl ?_))
    rcases cg h with⟨hc17,h⟩|⟨hc17,h⟩
    · refine kGd rfl aa hc17 (hMvL rfl) ?_
      obtain⟨x18,k,h⟩:=aj h
      refine kGd rfl aa hc17 (gu underlying27 sizeOf47 k) ?_
      refine kGd rfl aa hc17 (gv ave aho) ?_
      refine kGd rfl aa hc17 (dn ty9) ?_
      refine kGd rfl aa hc17 (qStr rfl rfl rfl) (kPt rfl hc17 rfl (kMv rfl ?_))
      rcases cg h with⟨hc19,h⟩|⟨hc19,h⟩
      · refine kGd rfl aa hc19 (hMvA rfl) (kGd rfl aa hc19 (qStr rfl rfl rfl) (kPt rfl hc19 rfl (kMv rfl ?_)))
        rcases cg h with⟨hc20,h⟩|⟨hc20,h⟩
        · refine kGd rfl aa hc20 (hMvA rfl) (kPt rfl hc20 rfl (kMv rfl ?_))
          rcases cg h with⟨hc21,h⟩|⟨hc21,h⟩
          · refine kGd rfl aa hc21 (hMvL rfl) ?_
            obtain⟨x22,k,h⟩:=aj h
            refine kGd rfl aa hc21 (dv (al6 x4 ([65]:Bt) _ k)) ?_
            refine kGd rfl aa hc21 (ma rfl underlying27) ?_
            refine kGd rfl aa hc21 (qInt rfl rfl rfl) (kPt rfl hc21 rfl (kMv rfl ?_))
            rcases cg h with⟨hc23,h⟩|⟨hc23,h⟩
            · refine kGd rfl aa hc23 (hMvA rfl) (kGd rfl aa hc23 (qInt rfl rfl rfl) (kPt rfl hc23 rfl (kMv rfl ?_)))
              rcases cg h with⟨hc24,h⟩|⟨hc24,h⟩
              · refine kGd rfl aa hc24 (ak ra) ?_
                refine kGd rfl aa hc24 (ax 4 ty9 g0) ?_
                refine kGd rfl aa hc24 (qStr rfl rfl rfl) (kPt rfl hc24 rfl (kMv rfl ?_))
                rcases cg h with⟨hc25,h⟩|⟨hc25,h⟩
                · refine kGd rfl aa hc25 (ax 3 ty66 (Sub.refl _)) ?_
                  refine kGd rfl aa hc25 (ev a8 st64 ⟨(B5.mk 16 [] [] 0 0 0 0 0 []),⟨_,rfl,rfl,qbj⟩,rfl⟩) ?_
                  obtain⟨x26,k,h⟩:=aj h
                  refine kGd rfl aa hc25 (dv (ak5 p2 (B5.mk 16 [] [] 0 0 0 0 0 []) _ k)) ?_
                  refine kGd rfl aa hc25 (qStr rfl rfl rfl) (kPt rfl hc25 rfl (kAs rfl ?_))
                  exact⟨x26==([65]:Bt),h,atOk⟩
                refine skx ?_
                refine kPf rfl hc25 rfl (kAs rfl ?_)
                exact⟨false,h,atOk⟩
              refine skx ?_
              refine kPf rfl hc24 rfl (kMv rfl ?_)
              have hc27:false=false:=rfl
              refine skx ?_
              refine kPf rfl hc27 rfl (kAs rfl ?_)
              exact⟨false,h,atOk⟩
            refine skx ?_
            refine kPf rfl hc23 rfl (kMv rfl ?_)
            have hc29:false=false:=rfl
            refine skx ?_
            refine kPf rfl hc29 rfl (kMv rfl ?_)
            have hc32:false=false:=rfl
            refine skx ?_
            refine kPf rfl hc32 rfl (kAs rfl ?_)
            exact⟨false,h,atOk⟩
          refine skx ?_
          refine kPf rfl hc21 rfl (kMv rfl ?_)
          have hc34:false=false:=rfl
          refine skx ?_
          refine kPf rfl hc34 rfl (kMv rfl ?_)
          have hc40:false=false:=rfl
          refine skx ?_
          refine kPf rfl hc40 rfl (kMv rfl ?_)
          have hc43:false=false:=rfl
          refine skx ?_
          refine kPf rfl hc43 rfl (kAs rfl ?_)
          exact⟨false,h,atOk⟩
        refine kSkT rfl aa hc20 (kPf rfl hc20 rfl (kMv rfl ?_))
        have hc45:false=false:=rfl
        refine skx ?_
        refine kPf rfl hc45 rfl (kMv rfl ?_)
        have hc58:false=false:=rfl
        refine skx ?_
        refine kPf rfl hc58 rfl (kMv rfl ?_)
        have hc64:false=false:=rfl
        refine skx ?_
        refine kPf rfl hc64 rfl (kMv rfl ?_)
        have hc67:false=false:=rfl
        refine skx ?_
        refine kPf rfl hc67 rfl (kAs rfl ?_)
        exact⟨false,h,atOk⟩
      refine skx ?_
      refine kPf rfl hc19 rfl (kMv rfl ?_)
      have hc69:false=false:=rfl
      refine kSkT rfl aa hc69 (kPf rfl hc69 rfl (kMv rfl ?_))
      have hc94:false=false:=rfl
      refine skx ?_
      refine kPf rfl hc94 rfl (kMv rfl ?_)
      have hc107:false=false:=rfl
      refine skx ?_
      refine kPf rfl hc107 rfl (kMv rfl ?_)
      have hc113:false=false:=rfl
      refine skx ?_
      refine kPf rfl hc113 rfl (kMv rfl ?_)
      have hc116:false=false:=rfl
      refine skx ?_
      refine kPf rfl hc116 rfl (kAs rfl ?_)
      exact⟨false,h,atOk⟩
    refine skx ?_
    refine kPf rfl hc17 rfl (kMv rfl ?_)
    have hc118:false=false:=rfl
    refine skx ?_
    refine kPf rfl hc118 rfl (kMv rfl ?_)
    have hc168:false=false:=rfl
    refine kSkT rfl aa hc168 (kPf rfl hc168 rfl (kMv rfl ?_))
    have hc193:false=false:=rfl
    refine skx ?_
    refine kPf rfl hc193 rfl (kMv rfl ?_)
    have hc206:false=false:=rfl
    refine skx ?_
    refine kPf rfl hc206 rfl (kMv rfl ?_)
    have hc212:false=false:=rfl
    refine skx ?_
    refine kPf rfl hc212 rfl (kMv rfl ?_)
    have hc215:false=false:=rfl
    refine skx ?_
    refine kPf rfl hc215 rfl (kAs rfl ?_)
    exact⟨false,h,atOk⟩
  refine skx ?_
  refine kPf rfl hc16 rfl (kMv rfl ?_)
  have hc217:false=false:=rfl
  refine skx ?_
  refine kPf rfl hc217 rfl (kMv rfl ?_)
  have hc318:false=false:=rfl
  refine skx ?_
  refine kPf rfl hc318 rfl (kMv rfl ?_)
  have hc368:false=false:=rfl
  refine kSkT rfl aa hc368 (kPf rfl hc368 rfl (kMv rfl ?_))
  have hc393:false=false:=rfl
  refine skx ?_
  refine kPf rfl hc393 rfl (kMv rfl ?_)
  have hc406:false=false:=rfl
  refine skx ?_
  refine kPf rfl hc406 rfl (kMv rfl ?_)
  have hc412:false=false:=rfl
  refine skx ?_
  refine kPf rfl hc412 rfl (kMv rfl ?_)
  have hc415:false=false:=rfl
  refine skx ?_
  refine kPf rfl hc415 rfl (kAs rfl ?_)
  exact⟨false,h,atOk⟩
end Go.Proofs.YtcndghapmoaidaaGreatDoor
set_option linter.unusedSectionVars false
set_option maxRecDepth 100000
set_option maxHeartbeats 4000000
namespace Go.Proofs.YtcndghapmoaidaaGreatDoor
open Go Go.Cn Tryz
attribute [local irreducible] qx ar
theorem ak2 (x1:List Bt) (x2:Bt) (r:Bool) (h:zb x1 x2=some r):Fp 6 [ar Rp.str x1,Pr.str x2] (Pb r):=by
 refine dr (rs:=[4]) func6 rfl ntmps6 ⟨by decide,results6⟩ dcd (fun s0=>?_)
 unfold zb at h
 refine W_rs (kAs rfl (W_rs (c8 h (aqc) rfl fun x3 _ h=>kAs rfl (ba (W_rs (kMv rfl (kNo rfl ?_)))))))
 refine bc h rfl (fun _ h=>?_) (fun _ h=>?_)
 ·refine W_rs (kAs rfl ?_)
  obtain rfl:=osj h
  exact bj ⟨rfl,aa⟩
 refine aw (W_rs (kMvL rfl ?_))
 obtain⟨⟨x5,x6⟩,k,h⟩:=aj h
 refine kUn (dv (aph x1 _ k)) ?_
 refine kUn (hMv (out:=bu [ar (Rp.list ag) x5,Pb x6]) rfl) (kUn aq ?_)
 refine kUn aq ?_
 refine kAsL rfl (kAs rfl (ba (W_rs (kMv rfl (kNo rfl ?_)))))
 refine bc h rfl (fun _ h=>?_) (fun _ h=>?_)
 ·refine W_rs (kAs rfl ?_)
  obtain rfl:=osj h
  exact bj ⟨rfl,aa⟩
 refine aw (W_rs (kAs rfl (ba (W_rs (kMvL rfl (kUn (ma rfl underlying24) ?_))))))
 refine kIn rfl rfl rfl (kAs rfl (ay ?_))
 obtain⟨z3l,hz3,h⟩:=aj h
 obtain⟨n3,hN3⟩:=bt hz3
 refine dl 0 (fun e C=>∃x10,∃v8,sy x5 x2 x10=some r/\At [(1,Pr.str x2),(6,ar (Rp.list ag) x5),(8,Pi v8)] [E3 v8 (Rp.list ag) x10 53] e C) ?_ ?_
 ·rintro e C ⟨x10,v8,h,a⟩
  refine W_at a ?_
  unfold sy at h
  refine W_rs (kMvL rfl ?_)
  obtain⟨⟨x18,x19⟩,k,h⟩:=aj h
  refine kUn (dv (ah1 x5 _ k)) ?_
  refine kUn (hMv (out:=bu [ar al x18,(az).val x19]) rfl) (kUn aq ?_)
  refine kUn aq ?_
  refine br al30 fun b20=>kAsL rfl (au 1 rfl rfl (Upd.refl _) rfl sizeOf30 (W_rs (kMv rfl ?_)))
  obtain⟨⟨x21,x22⟩,k,h⟩:=aj h
  refine rRel 0 [8,44] ?_ rfl ⟨rfl,rfl,tv⟩
  refine kUn (dv (ah1 x10 _ k)) ?_
  refine kUn (hMv (out:=bu [ar al x21,(az).val x22]) rfl) (kUn aq ?_)
  refine kUn aq ?_
  refine br al30 fun b23=>kAsL rfl (au 1 rfl rfl (Upd.refl _) rfl sizeOf30 ?_)
  refine bm (fun e C=>∃x31,l4 x31=some r/\At [(4,Pb x31)] [E0 b20 az x19,E0 b23 az x22] e C) ?_ ?_
  ·rintro e C ⟨x31,h,a⟩
   refine W_at a ?_
   unfold l4 at h
   obtain rfl:=osj h
   exact bj ⟨rfl,aa⟩
  refine W_r (kUn (ak alq) ?_)
  refine kUn (ax 0 ty28 lu) ?_
  refine kIn rfl rfl rfl (kUn (ak alq) ?_)
  refine kUn (ax 1 ty28 lu) ?_
  refine kIn rfl rfl rfl (kUn (ayt underlying4) ?_)
  refine kMv rfl ?_
  rcases cg h with⟨hc24,h⟩|⟨hc24,h⟩
  ·refine kGd rfl aa hc24 (hMvL rfl) (kGd rfl aa hc24 (ma rfl underlying27) ?_)
   refine kGd rfl aa hc24 (hMvL rfl) (kGd rfl aa hc24 (ma rfl underlying27) ?_)
   refine kGd rfl aa hc24 (qInt rfl rfl rfl) (kPt rfl hc24 rfl (kMv rfl ?_))
   rcases cg h with⟨hc25,h⟩|⟨hc25,h⟩
   ·refine kGd rfl aa hc25 (hMvL rfl) (kGd rfl aa hc25 (hMvA rfl) ?_)
    obtain⟨x26,k,h⟩:=aj h
    refine kGd rfl aa hc25 (dv (al6 x18 x2 _ k)) ?_
    refine kGd rfl aa hc25 (ma rfl underlying27) ?_
    refine kGd rfl aa hc25 (hMvL rfl) (kGd rfl aa hc25 (hMvA rfl) ?_)
    obtain⟨x27,k,h⟩:=aj h
    refine kGd rfl aa hc25 (dv (al6 x21 x2 _ k)) ?_
    refine kGd rfl aa hc25 (ma rfl underlying27) ?_
    refine kGd rfl aa hc25 (qInt rfl rfl rfl) (kPt rfl hc25 rfl (kAs rfl ?_))
    exact⟨(x26.length:Int)==(x27.length:Int),h,atOk⟩
   refine skx ?_
   refine kPf rfl hc25 rfl (kAs rfl ?_)
   exact⟨false,h,atOk⟩
  refine skx ?_
  refine kPf rfl hc24 rfl (kMv rfl ?_)
  have hc28:false=false:=rfl
  refine skx ?_
  refine kPf rfl hc28 rfl (kAs rfl ?_)
  exact⟨false,h,atOk⟩
 refine agx [8] (Rp.list ag) 53 (fun v32=>?_) ⟨rfl,tv⟩
 refine fb (fun m e C=>∃x9,∃x10,∃v8,fp (fun s=>je x5 s.1 s.2) m (x9,x10)=some z3l/\At [(1,Pr.str x2),(6,ar (Rp.list ag) x5),(8,Pi v8),(9,P6 x9)] [E3 v8 (Rp.list ag) x10 53] e C) n3 ⟨w64 ((x5.length:Int) - 1),[],v32,hN3,⟨⟨aa,aa,aa,aa,tv⟩,A8.refl _⟩⟩ ?_
 rintro m e C ⟨x9,x10,v8,hN3,a⟩
 refine W_at a ?_
 obtain⟨m3,w3l,rfl,h3l,hn3,ho3⟩:=bl hN3
 replace h3l:je x5 x9 x10=some w3l:=h3l
 unfold je at h3l
 refine ba (W_rs (kMv rfl (kIn rfl rfl rfl ?_)))
 refine bc h3l rfl (fun _ h3l=>?_) (fun _ h3l=>?_)
 ·refine aw (ba (ay (W_r (kMv rfl (kMvL rfl (kMv rfl ?_))))))
  obtain⟨x15,k,h3l⟩:=aj h3l
  refine kUn (gu underlying24 sizeOf53 k) ?_
  refine kUn (dn ty53) ?_
  refine kUn (c5 (R:=Rp.list ag) (a:=x15) el24 nb) ?_
  obtain⟨x16,k,h3l⟩:=aj h3l
  refine gq 0 el24 k (fun v17=>?_)
  refine kAs rfl (W_r (kMv rfl (kIn rfl rfl rfl (kAs rfl ?_))))
  exact⟨m3,lsu,w64 (x9 - 1),x16,v17,hn3 _ (ojs h3l),atOk⟩
 refine ep ?_
 obtain rfl:=ho3 _ (ojs h3l)
 exact⟨x10,v8,h,atOk⟩
end Go.Proofs.YtcndghapmoaidaaGreatDoor
set_option linter.unusedSectionVars false
set_option maxRecDepth 100000
set_option maxHeartbeats 4000000
namespace Go.Proofs.YtcndghapmoaidaaGreatDoor
open Go Go.Cn Tryz
attribute [local irreducible] qx ar
end Go.Proofs.YtcndghapmoaidaaGreatDoor
