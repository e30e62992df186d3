/- The code comes to what these functions say (printed by wip/gen/gen.py). -/
import Derived.Test.YtcndghapmoaidaaGreatDoorZX
import Derived.Test.YtcndghapmoaidaaGreatDoorZP12
import Derived.Test.YtcndghapmoaidaaGreatDoorZT
set_option linter.unusedSimpArgs false
set_option linter.unusedVariables false
set_option linter.unusedSectionVars false
set_option linter.unusedSectionVars false
set_option maxRecDepth 100000
set_option maxHeartbeats 4000000
namespace Go.Proofs.YtcndghapmoaidaaGreatDoor
open Go Go.Cn
attribute [local irreducible] ec aq
section
variable {env:Env} {C:Ctx} {ty:TypeId} {pos:String} {after:Array Edge} {gd:Option (Nat × Bool)} {d:Option Nat}
theorem bind_Uses_nil {u:TypeId} {m:BindWrong} {x:Operand} (hx:env.op x=Pr.is (bindV m):=by exact rfl):Q Tryz.prog C ⟨d,.binOp .neq 20 x (.const .nilIface) u,ty,pos,after,gd⟩ env (Pr.bool true):=by
 intro s ρ hs _ h
 have h0:ρ x=bindV m:=by have:=h x mem2a;rw[hx]at this;exact this
 have h2:ρ (.const .nilIface)= .nilIface:=h (.const .nilIface) mem2b
 have he:∀d:Nat,(Op.equalIn (d+1) 20 (bindV m) .nilIface).run Tryz.prog s.w= .ok false s.w:=fun d=>by simp[bindV,Op.equalIn,cz Tryz.underlying20]
 refine .of_run hs (v:= .bool true) ?_ rfl
 have h0':ρ x= .iface 72 (.agg #[.int .i64 m.m.Code,.int .i64 m.m.File,.int .i64 m.m.At]):=h0
 have he':=he 9999
 unfold bindV at he'
 simp[execOp,h0',h2,eqGuard,binOp,Op.equal,Op.maxDepth,he']
theorem bind_Uses_none {u:TypeId} {x:Operand} (hx:env.op x=Pr.is .nilIface:=by exact rfl):Q Tryz.prog C ⟨d,.binOp .neq 20 x (.const .nilIface) u,ty,pos,after,gd⟩ env (Pr.bool false):=by
 intro s ρ hs _ h
 have h0:ρ x= .nilIface:=by have:=h x mem2a;rw[hx]at this;exact this
 have h2:ρ (.const .nilIface)= .nilIface:=h (.const .nilIface) mem2b
 have he:∀d:Nat,(Op.equalIn (d+1) 20 .nilIface .nilIface).run Tryz.prog s.w= .ok true s.w:=fun d=>by simp[Op.equalIn,cz Tryz.underlying20]
 refine .of_run hs (v:= .bool false) ?_ rfl
 simp[execOp,h0,h2,eqGuard,binOp,Op.equal,Op.maxDepth,he 9999]
theorem bind_Uses_val (m:BindWrong) (s:St):((i6).val m).p s (.agg #[.int .i64 m.m.Code,.int .i64 m.m.File,.int .i64 m.m.At]):=
 (i6).spec.2 ⟨[.int .i64 m.m.Code,.int .i64 m.m.File,.int .i64 m.m.At],⟨_,_,rfl,⟨_,_,rfl,rfl,⟨_,_,rfl,rfl,⟨_,_,rfl,rfl,rfl⟩⟩⟩,rfl⟩,rfl⟩
theorem bind_Uses_as {xt:TypeId} {m:BindWrong} {x:Operand} (hx:env.op x=Pr.is (bindV m):=by exact rfl):Q Tryz.prog C ⟨d,.typeAssert x xt 72 true,ty,pos,after,gd⟩ env (bk [(i6).val m,Pr.bool true]):=by
 intro s ρ hs _ h
 have h0:ρ x= .iface 72 (.agg #[.int .i64 m.m.Code,.int .i64 m.m.File,.int .i64 m.m.At]):=by have:=h x (by simp[Op.operands]);rw[hx]at this;exact this
 refine .of_run hs (v:= .tuple #[.agg #[.int .i64 m.m.Code,.int .i64 m.m.File,.int .i64 m.m.At],.bool true]) ?_ ⟨[_,_],rfl,bind_Uses_val m s,rfl,trivial⟩
 simp[execOp,Instr.typeAssert,h0,cz Tryz.underlying72]
end
theorem bind_Uses_calm (b0 b1:Nat) (s:St) (hs:s.WF):CallsDIn Fence.wide 0 Tryz.prog 36 #[.pointer (some ⟨b0,0,none⟩),.pointer (some ⟨b1,0,none⟩)] .returning s.w (fun e u' w'=>(∃v,e= .returned v)/\u'= .returning/\∃F',Mod (fun _=>False) s ⟨w',F'⟩):=by
 refine callsDIn_of_wpSIn Tryz.func36 rfl trivial (fun c₀ cs hu=> ?_)
 have he:EnvOK ⟨18,none,[]⟩ (l9 [am b0 0,am b1 0]) {tmps:= #[.pointer (some ⟨b0,0,none⟩),.pointer (some ⟨b1,0,none⟩)]++Array.replicate (Tryz.f36.ntmps - (#[.pointer (some ⟨b0,0,none⟩),.pointer (some ⟨b1,0,none⟩)]:Array Value).size) undef,defers:=[]} s:=
  ⟨fun t=>nb (show AllP s [am b0 0,am b1 0] [.pointer (some ⟨b0,0,none⟩),.pointer (some ⟨b1,0,none⟩)]from⟨rfl,rfl,trivial⟩) _ t,by simp[Tryz.ntmps36],rfl⟩
 refine wpSIn_recover (v:= .nilIface) (cs':=c₀::cs) (by simp[Tryz.ntmps36]) (.inr ⟨by simp[recoverD,hu],rfl,rfl⟩) ?_
 have he2:=(he.putO (d:=some 5) (p:=Pr.is .nilIface) (v:= .nilIface) (fun d hd=>by cases hd;decide) rfl).putO (d:=some 2) (p:=Pr.is .nilIface) (v:= .nilIface) (fun d hd=>by cases hd;decide) rfl
 have hg:Cn.Good (fun _=>False) s s []:=⟨Mod.refl hs,hs,⟨List.nodup_nil,fun x hx=>(by cases hx),fun b hb=>(by cases hb)⟩,fun b hb=>(by cases hb)⟩
 refine wpSIn_of_wpIn rfl ?_
 refine(?_:W2 Tryz.prog ⟨18,none,[]⟩ (fun _=>False) s _ _ [] _) _ s he2 hg
 refine W2_rs ?_
 refine rq (out:=Pr.is .nilIface) eb ?_
 refine rq (out:=Pr.bool false) bind_Uses_none ?_
 refine And.intro rfl (W2_c (b:=false) rfl (fun h=>by cases h) (fun _=>W2_skip (fun a s' he hg=> ?_)))
 exact⟨he.nod,.returning,by rw[← hu],_,t8 (rs:=[]) ⟨by decide,Tryz.results36⟩ _ _,⟨_,rfl⟩,rfl,s'.F,hg.mod⟩
theorem bind_Uses_back (b0 b1:Nat) (l0:List ApiUse) (l1:ApiMistake) (m:BindWrong) (s:St) (hs:s.WF) (hh:Has s [Own.box b0 (ba ao) l0,Own.box b1 ak l1]):CallsDIn Fence.wide 0 Tryz.prog 36 #[.pointer (some ⟨b0,0,none⟩),.pointer (some ⟨b1,0,none⟩)] (.panicking (one (bindV m))) s.w
  (fun e u' w'=>(∃v,e= .returned v)/\u'= .panicking [{v:=bindV m,recovered:=true}]/\∃F',Mod (fun b=>b∈bx [Own.box b0 (ba ao) l0,Own.box b1 ak l1]) s ⟨w',F'⟩/\Has ⟨w',F'⟩ [Own.box b0 (ba ao) [],Own.box b1 ak m.m]):=by
 refine callsDIn_of_wpSIn Tryz.func36 rfl trivial (fun c₀ cs hu=> ?_)
 have he:EnvOK ⟨18,none,[]⟩ (l9 [am b0 0,am b1 0]) {tmps:= #[.pointer (some ⟨b0,0,none⟩),.pointer (some ⟨b1,0,none⟩)]++Array.replicate (Tryz.f36.ntmps - (#[.pointer (some ⟨b0,0,none⟩),.pointer (some ⟨b1,0,none⟩)]:Array Value).size) undef,defers:=[]} s:=
  ⟨fun t=>nb (show AllP s [am b0 0,am b1 0] [.pointer (some ⟨b0,0,none⟩),.pointer (some ⟨b1,0,none⟩)]from⟨rfl,rfl,trivial⟩) _ t,by simp[Tryz.ntmps36],rfl⟩
 refine wpSIn_recover (v:=bindV m) (cs':={c₀ with mode:= .panicking [{v:=bindV m,recovered:=true}]}::cs) (by simp[Tryz.ntmps36]) (.inl (by simp[recoverD,hu])) ?_
 have he2:=(he.putO (d:=some 5) (p:=Pr.is (bindV m)) (v:=bindV m) (fun d hd=>by cases hd;decide) rfl).putO (d:=some 2) (p:=Pr.is (bindV m)) (v:=bindV m) (fun d hd=>by cases hd;decide) rfl
 have hg:Cn.Good (fun b=>b∈bx [Own.box b0 (ba ao) l0,Own.box b1 ak l1]) s s [Own.box b0 (ba ao) l0,Own.box b1 ak l1]:=⟨Mod.refl hs,hs,hh,fun b hb=> .inr hb⟩
 refine wpSIn_of_wpIn rfl ?_
 refine(?_:W2 Tryz.prog ⟨18,none,[]⟩ (fun b=>b∈bx [Own.box b0 (ba ao) l0,Own.box b1 ak l1]) s _ _ [Own.box b0 (ba ao) l0,Own.box b1 ak l1] _) _ s he2 hg
 refine W2_rs ?_
 refine rq (out:=Pr.is (bindV m)) eb ?_
 refine rq (out:=Pr.bool true) bind_Uses_nil ?_
 refine And.intro rfl (W2_c (b:=true) rfl (fun _=> ?_) (fun h=>by cases h))
 refine W2_of_W (K:=fun e _ C=>e= .normal/\Pick C [Own.box b0 (ba ao) [],Own.box b1 ak m.m]) ?_ ?_ (.inr (fun e _ _ h=>by rw[h.1];simp))
 ·refine W_rs ?_
  refine rq (out:=Pr.is (bindV m)) eb ?_
  refine rq (out:=bk [(i6).val m,Pr.bool true]) bind_Uses_as ?_
  refine rq (out:=bk [(i6).val m,Pr.bool true]) eb ?_
  refine rq (out:=(i6).val m) au ?_
  refine rq (out:=Pr.bool true) au ?_
  refine rAlloc (R:=i6) (z:=(BindWrong.mk (ApiMistake.mk 0 0 0))) Tryz.zeroValue72 (fun _=>⟨_,⟨_,_,rfl,⟨_,_,rfl,rfl,⟨_,_,rfl,rfl,⟨_,_,rfl,rfl,rfl⟩⟩⟩,rfl⟩,rfl⟩) (fun b=> ?_)
  refine um (R:=i6) (R':=i6) (a:=(BindWrong.mk (ApiMistake.mk 0 0 0))) (y:=m) 2 Tryz.sizeOf72 (Upd.refl _) ?_
  refine rq (out:=Pr.bool true) du ?_
  refine a8 ?_
  refine W_rs ?_
  refine rq (out:=Pr.bool true) eb ?_
  refine rq (out:=Pr.bool (!true)) qNot ?_
  refine W_cond (b:= !true) rfl (fun h=>by cases h) (fun _=> ?_)
  refine ax ?_
  refine dt [(2,0,Own.box b0 (ba ao) []),(3,1,Own.box b1 ak m.m)] [Own.box b0 (ba ao) [],Own.box b1 ak m.m,Own.box b i6 m] hmx (by kernel_rfl) (by kernel_rfl) (show([2,3]:List Nat).Nodup by decide) (show([0,1]:List Nat).Nodup by decide) rfl rfl ?_
  refine eq1 (out:=am b 0) (fun C2 hC=>(ai fld72_0)) ?_
  refine eq1 (out:=(ak).val m.m) (fun C2 hC=>(ap (R:=i6) (a:=m) (R':=ak) 2 ty30 subBindWrong_m (hi:=(hC 2 (by kernel_rfl)).trans rfl))) ?_
  refine eqS (fun C2 hC=>sStoreL (R:=ba ao) (R':=ba ao) (a:=l0) (y:=[]) 0 Tryz.sizeOf27 (Upd.refl _) ((hC 0 (by kernel_rfl)).trans rfl) (c7 _)) ?_
  refine eqS (fun C2 hC=>dc (R:=ak) (R':=ak) (a:=l1) (y:=m.m) 1 Tryz.sizeOf30 (Upd.refl _) ((hC 1 (by kernel_rfl)).trans rfl)) ?_
  exact⟨rfl,Pick.of [0,1] rfl⟩
 ·rintro e a s' env' C' he hg ⟨rfl,hp⟩
  have hg:=hg.pick hp
  exact⟨he.nod,_,rfl,_,t8 (rs:=[]) ⟨by decide,Tryz.results36⟩ _ _,⟨_,rfl⟩,rfl,s'.F,hg.mod,hg.has⟩
theorem bind_Uses_ends {fn:Func} (hres:fn.results=[ResultVar.cell 2 27,.cell 3 30].toArray) {r:(List ApiUse) × ApiMistake} {s0 s:St} {env:Env} {a:Act} {b0 b1:Nat} {l0:List ApiUse} {l1:ApiMistake} {w:World} {F':Nat->Prop} (hr:r=(l0,l1)) (he:∀t,(env t).p s (a.tmps.getD t undef)) (h0:(env 2).le (am b0 0)) (h1:(env 3).le (am b1 0))
  (hh:Has ⟨w,F'⟩ [Own.box b0 (ba ao) l0,Own.box b1 ak l1]) (hm:Mod (fun _=>False) s0 ⟨w,F'⟩):∃v,(results fn a.tmps).run Tryz.prog w= .ok v w/\∃v' F',Ending.returned v= .returned v'/\Cn.Calm s0 ⟨w,F'⟩/\(bk [aq ao r.1,(ak).val r.2]).p ⟨w,F'⟩ v':=by
 subst hr
 have he':∀t,((fun t=>if t=2 then am b0 0 else if t=3 then am b1 0 else Pr.any:Env) t).p ⟨w,F'⟩ (a.tmps.getD t undef):=by
  intro t
  by_cases hh0:t=2
  ·subst hh0;have h6:=h0 _ _ (he _);exact h6
  ·by_cases hh1:t=3
   ·subst hh1;have h6:=h1 _ _ (he _);exact h6
   ·simp only[hh0,hh1,if_false];trivial
 obtain⟨us,h7,h8⟩:=yields_run (P:=Tryz.prog) (rs:=[.cell 2 27,.cell 3 30]) (ps:=[aq ao l0,(ak).val l1]) (a:=a) he' hh ⟨yBox 0 ty27 aa,yBox 1 ty30 aa,trivial⟩
 exact⟨_,run_resultsR hres h7,_,F',rfl,hm,oneP_ok h8⟩
theorem bind_Uses_ok (x1:List (List ApiNode)) (r:(List ApiUse) × ApiMistake) (h:bind_Uses x1=some r):FnP Tryz.prog 13 [aq (ba ab) x1] (bk [aq ao r.1,(ak).val r.2]):=by
 obtain⟨r0,h,hr0⟩:=ah h
 refine fn_introD (n:=67) Tryz.func13 rfl Tryz.ntmps13 (by decide) (fun s=> ?_)
 unfold bind_UsesQ at h
 refine W2_rs ?_
 refine bq al27 fun b2=> ?_
 refine bq al30 fun b3=> ?_
 refine And.intro rfl ?_
 refine W2_rs ?_
 refine kMvL rfl ?_
 obtain⟨⟨x4,x5⟩,hx4,h⟩:=ah h
 refine kUn (ct (decls_Table_ok x1 _ hx4)) ?_
 refine kUn (hMv (out:=bk [aq af x4,(ak).val x5]) rfl) (kUn au ?_)
 refine kUn au ?_
 refine kAsL rfl (av 1 rfl rfl (Upd.refl _) rfl Tryz.sizeOf30 ?_)
 refine And.intro rfl ?_
 refine W2_ss ?_
 refine W2_rs ?_
 refine kUn (ai fld30_0) ?_
 refine kUn (ap 1 ty28 io) ?_
 refine kIn rfl rfl rfl ?_
 refine And.intro rfl ?_
 refine W2_c (b:=x5.Code != 0) rfl (fun hc6=> ?_) (fun hc6=> ?_)
 ·replace h:=iteT hc6 h
  refine W2_seq ?_
  refine dt [(1,0,Own.box b2 (ba ao) []),(2,1,Own.box b3 ak x5)] [Own.box b2 (ba ao) [],Own.box b3 ak x5] hmx (by kernel_rfl) (by kernel_rfl) (show([1,2]:List Nat).Nodup by decide) (show([0,1]:List Nat).Nodup by decide) rfl rfl ?_
  refine eq1 (out:=(ak).val x5) (fun C2 hC=>(ap (R:=ak) (a:=x5) (R':=ak) 1 ty30 (Sub.refl _) (hi:=(hC 1 (by kernel_rfl)).trans rfl))) ?_
  refine eqS (fun C2 hC=>sStoreL (R:=ba ao) (R':=ba ao) (a:=[]) (y:=[]) 0 Tryz.sizeOf27 (Upd.refl _) ((hC 0 (by kernel_rfl)).trans rfl) (c7 _)) ?_
  refine eqS (fun C2 hC=>dc (R:=ak) (R':=ak) (a:=x5) (y:=x5) 1 Tryz.sizeOf30 (Upd.refl _) ((hC 1 (by kernel_rfl)).trans rfl)) ?_
  refine And.intro rfl ?_
  obtain rfl:=osj h
  refine W2_ret (fun a s' he hg=> ?_)
  have hg:=hg.pick (Pick.refl _)
  show LeavesInM _ _ _ _ _ _ a.defers _ _
  rw[he.nod]
  exact bind_Uses_ends Tryz.results13 (Option.some.inj hr0).symm he.at_ aa aa hg.has hg.mod
 replace h:=iteF hc6 h
 refine W2_skip (fun a s' he hg=> ?_)
 refine(?_:W2 Tryz.prog ⟨67,none,[]⟩ (fun _=>False) s _ _ _ _) a s' he hg
 clear he hg a s'
 refine W2_ss ?_
 refine W2_rs ?_
 refine kMvL rfl (cm h (kin_Check_ok x4) rfl fun x7 _ h=>av 1 rfl rfl (Upd.refl _) rfl Tryz.sizeOf30 ?_)
 refine And.intro rfl ?_
 refine W2_rs ?_
 refine kUn (ai fld30_0) ?_
 refine kUn (ap 1 ty28 io) ?_
 refine kIn rfl rfl rfl ?_
 refine And.intro rfl ?_
 refine W2_c (b:=x7.Code != 0) rfl (fun hc8=> ?_) (fun hc8=> ?_)
 ·replace h:=iteT hc8 h
  refine W2_seq ?_
  refine dt [(1,0,Own.box b2 (ba ao) []),(2,1,Own.box b3 ak x7)] [Own.box b2 (ba ao) [],Own.box b3 ak x7] hmx (by kernel_rfl) (by kernel_rfl) (show([1,2]:List Nat).Nodup by decide) (show([0,1]:List Nat).Nodup by decide) rfl rfl ?_
  refine eq1 (out:=(ak).val x7) (fun C2 hC=>(ap (R:=ak) (a:=x7) (R':=ak) 1 ty30 (Sub.refl _) (hi:=(hC 1 (by kernel_rfl)).trans rfl))) ?_
  refine eqS (fun C2 hC=>sStoreL (R:=ba ao) (R':=ba ao) (a:=[]) (y:=[]) 0 Tryz.sizeOf27 (Upd.refl _) ((hC 0 (by kernel_rfl)).trans rfl) (c7 _)) ?_
  refine eqS (fun C2 hC=>dc (R:=ak) (R':=ak) (a:=x7) (y:=x7) 1 Tryz.sizeOf30 (Upd.refl _) ((hC 1 (by kernel_rfl)).trans rfl)) ?_
  refine And.intro rfl ?_
  obtain rfl:=osj h
  refine W2_ret (fun a s' he hg=> ?_)
  have hg:=hg.pick (Pick.refl _)
  show LeavesInM _ _ _ _ _ _ a.defers _ _
  rw[he.nod]
  exact bind_Uses_ends Tryz.results13 (Option.some.inj hr0).symm he.at_ aa aa hg.has hg.mod
 replace h:=iteF hc8 h
 refine W2_skip (fun a s' he hg=> ?_)
 refine(?_:W2 Tryz.prog ⟨67,none,[]⟩ (fun _=>False) s _ _ _ _) a s' he hg
 clear he hg a s'
 refine W2_defer (b1:=b2) (b2:=b3) (by decide) rfl rfl ?_
 refine W2_of_W (K:=fun e env C=>∃l0 l1,Pick C [Own.box b2 (ba ao) l0,Own.box b3 ak l1]/\(env 2).le (am b2 0)/\(env 3).le (am b3 0)/\((e= .ret/\r0= .ok (l0,l1))\/∃w,e= .panic (one (bindV w))/\r0= .bad w)) ?_ ?_ (.inl (by simp))
 ·refine W_rs (kUn (fv stBindWalkerRaw rfl) ?_)
  refine rBox (R:=ar) (a:=(BindWalkerRaw.mk (.slice none 0 0) 0 [] 0)) rfl (fun b9=> ?_)
  refine kAs rfl (a8 (W_rs (kMvL rfl (kUn (iz rfl Tryz.underlying24) ?_))))
  refine kMv rfl (az ?_)
  obtain⟨z2l,hz2,h⟩:=ah h
  obtain⟨n2,hN2⟩:=bp hz2
  refine cq 0 (fun e C=>∃(x12:Int),∃(x13:List UInt8),∃(x14:Int),∃(x15:List ApiUse),∃(v11:Value),bind_Uses_k1 x12 x13 x14 x15=some r0/\At [(2,am b2 0),(3,am b3 0),(5,am b9 0)] [Own.box b2 (ba ao) [],Own.box b3 ak x7,Own.box b9 ar (BindWalkerRaw.mk v11 x12 x13 x14),Own.vec v11 ao x15 47] e C) ?_ ?_
  ·rintro e C ⟨x12,x13,x14,x15,v11,h,hat1⟩
   refine W_at hat1 ?_
   unfold bind_Uses_k1 at h
   refine W_rs (kMv rfl (kNp rfl (kUn (ai fld76_0) ?_)))
   refine kUn (qLoadRaw (R:=ar) (a:=(BindWalkerRaw.mk v11 x12 x13 x14)) 2 ty27 q9) ?_
   obtain⟨x49,hx49,h⟩:=ah h
   refine rCallC' [3] (qk bind_Uses_2 x15 v11 _ hx49) ⟨aa,(is_pfn en39 (fun _ _ hs=>by obtain⟨a0,a1,r,rfl,rfl,hr⟩:=hs;exact bind_Uses_2_ok a0 a1 r hr)),trivial⟩ (fun q C' hq=> ?_)
   obtain⟨rfl,rfl⟩:=hq
   refine rCtx [Own.vec v11 ao x49 47,Own.box b2 (ba ao) [],Own.box b3 ak x7,Own.box b9 ar (BindWalkerRaw.mk v11 x12 x13 x14)] ?_
   refine W_rs (kMv rfl (kNp rfl (kUn (ai fld76_0) ?_)))
   refine kUn (qLoadRaw (R:=ar) (a:=(BindWalkerRaw.mk v11 x12 x13 x14)) 3 ty27 q9) ?_
   refine kUn (fv st30 rfl) ?_
   refine rRel 0 [65] ?_ rfl ⟨rfl,trivial⟩
   refine av 0 rfl rfl (Upd.refl _) rfl Tryz.sizeOf27 (av 1 rfl rfl (Upd.refl _) rfl Tryz.sizeOf30 ?_)
   obtain rfl:=osj h
   exact bc ⟨_,_,Pick.of [0,1] rfl,aa,aa,.inl ⟨rfl,rfl⟩⟩
  refine W_vec ao 47 ?_
  refine c8 (fun m e C=>∃(x10:Int),∃(x12:Int),∃(x13:List UInt8),∃(x14:Int),∃(x15:List ApiUse),∃(v11:Value),dj (fun s=>bind_Uses_l2 x1 x4 s.1 s.2.1 s.2.2.1 s.2.2.2.1 s.2.2.2.2) m (x10,x12,x13,x14,x15)=some z2l/\At [(2,am b2 0),(3,am b3 0),(4,aq af x4),(5,am b9 0),(28,aq (ba ab) x1),(29,Pr.i64 (x1.length:Int)),(30,Pr.i64 x10)] [Own.box b2 (ba ao) [],Own.box b3 ak x7,Own.box b9 ar (BindWalkerRaw.mk v11 x12 x13 x14),Own.vec v11 ao x15 47] e C) n2 ⟨0,0,[],0,[],(.slice none 0 0),hN2,⟨⟨aa,aa,aa,aa,aa,aa,aa,trivial⟩,Pick.refl _⟩⟩ ?_
  rintro m e C ⟨x10,x12,x13,x14,x15,v11,hN2,hatl2⟩
  refine W_at hatl2 ?_
  obtain⟨m2,w2l,rfl,h2l,hn2,ho2⟩:=bj hN2
  replace h2l:bind_Uses_l2 x1 x4 x10 x12 x13 x14 x15=some w2l:=h2l
  unfold bind_Uses_l2 at h2l
  refine W_rs (kIn rfl rfl rfl (a8 ?_))
  refine a5 h2l rfl (fun _ h2l=> ?_) (fun _ h2l=> ?_)
  ·refine ax (a8 (az (W_rs (kMv rfl ?_))))
   obtain⟨x23,hx23,h2l⟩:=ah h2l
   refine kUn (dg Tryz.underlying24 Tryz.sizeOf53 hx23) ?_
   refine kUn (cf ty53) ?_
   refine kAs rfl (kAsL rfl (W_rs (kMv rfl (kMv rfl (kNp rfl (kUn (ai fld76_1) ?_))))))
   refine av 2 rfl rfl updBindWalkerRaw_file rfl Tryz.sizeOf3 ?_
   refine rCtx [Own.box b2 (ba ao) [],Own.box b3 ak x7,Own.box b9 ar (BindWalkerRaw.mk v11 x10 x13 x14),Own.vec v11 ao x15 47] ?_
   refine W_rs (kMvL rfl (kUn (iz rfl Tryz.underlying53) ?_))
   refine kMv rfl (az ?_)
   obtain⟨z4l,hz4,h2l⟩:=ah h2l
   obtain⟨n4,hN4⟩:=bp hz4
   refine cq 2 (fun e C=>∃(x26:Int),∃(x27:List UInt8),∃(x28:Int),∃(x29:List ApiUse),∃(v25:Value),bind_Uses_k3 x10 x26 x27 x28 x29=some w2l/\At [(2,am b2 0),(3,am b3 0),(4,aq af x4),(5,am b9 0),(28,aq (ba ab) x1),(29,Pr.i64 (x1.length:Int)),(30,Pr.i64 x10)] [Own.box b2 (ba ao) [],Own.box b3 ak x7,Own.box b9 ar (BindWalkerRaw.mk v25 x26 x27 x28),Own.vec v25 ao x29 47] e C) ?_ ?_
   ·rintro e C ⟨x26,x27,x28,x29,v25,h2l,hat3⟩
    refine W_at hat3 ?_
    unfold bind_Uses_k3 at h2l
    refine W_r (kIn rfl rfl rfl (kMv rfl ?_))
    exact⟨m2,Nat.lt_succ_self _,w64 (x10+1),x26,x27,x28,x29,v25,hn2 _ (Option.some.inj h2l).symm,atOk⟩
   refine c8 (fun m e C=>∃(x24:Int),∃(x26:Int),∃(x27:List UInt8),∃(x28:Int),∃(x29:List ApiUse),∃(v25:Value),dj (fun s=>bind_Uses_l4 x23 x4 s.1 s.2.1 s.2.2.1 s.2.2.2.1 s.2.2.2.2) m (x24,x26,x27,x28,x29)=some z4l/\At [(2,am b2 0),(3,am b3 0),(4,aq af x4),(5,am b9 0),(28,aq (ba ab) x1),(29,Pr.i64 (x1.length:Int)),(30,Pr.i64 x10),(39,aq ab x23),(40,Pr.i64 (x23.length:Int)),(41,Pr.i64 x24)] [Own.box b2 (ba ao) [],Own.box b3 ak x7,Own.box b9 ar (BindWalkerRaw.mk v25 x26 x27 x28),Own.vec v25 ao x29 47] e C) n4 ⟨0,x10,x13,x14,x15,v11,hN4,⟨⟨aa,aa,aa,aa,aa,aa,aa,aa,aa,aa,trivial⟩,Pick.refl _⟩⟩ ?_
   rintro m e C ⟨x24,x26,x27,x28,x29,v25,hN4,hatl4⟩
   refine W_at hatl4 ?_
   obtain⟨m4,w4l,rfl,h4l,hn4,ho4⟩:=bj hN4
   replace h4l:bind_Uses_l4 x23 x4 x24 x26 x27 x28 x29=some w4l:=h4l
   unfold bind_Uses_l4 at h4l
   refine W_rs (kIn rfl rfl rfl (a8 ?_))
   refine a5 h4l rfl (fun _ h4l=> ?_) (fun _ h4l=> ?_)
   ·refine ax ?_
    refine bh (fun e C=>∃(x45:Int),∃(x46:List UInt8),∃(x47:Int),∃(x48:List ApiUse),∃(x37:ApiNode),∃(v44:Value),∃(b38:Nat),bind_Uses_j5 x24 x45 x46 x47 x48 x37=some w4l/\At [(2,am b2 0),(3,am b3 0),(4,aq af x4),(5,am b9 0),(28,aq (ba ab) x1),(29,Pr.i64 (x1.length:Int)),(30,Pr.i64 x10),(39,aq ab x23),(40,Pr.i64 (x23.length:Int)),(41,Pr.i64 x24)] [Own.box b9 ar (BindWalkerRaw.mk v44 x45 x46 x47),Own.vec v44 ao x48 47,Own.box b2 (ba ao) [],Own.box b3 ak x7,Own.box b38 ab x37] e C) ?_ ?_
    ·rintro e C ⟨x45,x46,x47,x48,x37,v44,b38,h4l,hat5⟩
     refine W_at hat5 ?_
     unfold bind_Uses_j5 at h4l
     refine W_r (kIn rfl rfl rfl (kMv rfl ?_))
     exact⟨m4,Nat.lt_succ_self _,w64 (x24+1),x45,x46,x47,x48,v44,hn4 _ (Option.some.inj h4l).symm,⟨⟨aa,aa,aa,aa,aa,aa,aa,aa,aa,aa,trivial⟩,Pick.of [2,3,0,1] rfl⟩⟩
    refine az (W_rs ?_)
    obtain⟨x37,hx37,h4l⟩:=ah h4l
    refine kUn (dg Tryz.underlying53 Tryz.sizeOf64 hx37) ?_
    refine kUn (cf ty64) ?_
    refine bq al64 fun b38=>av 4 rfl rfl (Upd.refl _) rfl Tryz.sizeOf64 (W_rs (kUn (ai dr) ?_))
    refine kUn (ap 4 ty3 bg) ?_
    refine kIn rfl rfl rfl ?_
    refine a5 h4l rfl (fun _ h4l=> ?_) (fun _ h4l=> ?_)
    ·refine W_r (kMv rfl (kMvL rfl (kUn (ai ef) ?_)))
     refine kUn (ap 4 ty9 bw) ?_
     refine kUn (fv st66 ⟨(BindScope.mk x4 [] false []),⟨_,rfl,rfl,fun j fd hj hf=>by match j,hj with| 0,h=>exact absurd rfl h| 1,_=>cases hf;rfl| 2,_=>cases hf;rfl| 3,_=>cases hf;rfl|_+4,_=>cases hf⟩,⟨(BindScope.mk x4 x37.Text false []),⟨_,rfl,rfl,fun j fd hj hf=>by match j,hj with| 0,_=>cases hf;rfl| 1,h=>exact absurd rfl h| 2,_=>cases hf;rfl| 3,_=>cases hf;rfl|_+4,_=>cases hf⟩,rfl⟩⟩) ?_
     refine kUn (ap 4 ty64 (Sub.refl _)) ?_
     rcases ce h4l with⟨m43,hm43,h4l⟩|⟨⟨x40,x41⟩,hx40,h4l⟩
     ·refine cv [2,3] (bind_walker_walk_ok (BindScope.mk x4 x37.Text false []) x37 (BindWalker.mk x29 x26 x27 x28) b9 v25 _ hm43) ⟨aa,aa,aa,trivial⟩ (fun q C' hq=> ?_) (fun v9 hv=> ?_)
      ·obtain⟨_,h9,_⟩:=hq;cases h9
      obtain⟨_,h9,rfl⟩:=hv
      cases h9
      obtain rfl:=ho4 _ (Option.some.inj h4l).symm
      replace h2l:some (.inr (.done (.bad m43)))=some w2l:=h2l
      obtain rfl:=ho2 _ (Option.some.inj h2l).symm
      replace h:some (.bad m43)=some r0:=h
      obtain rfl:=osj h
      exact⟨_,_,Pick.of [0,1] rfl,aa,aa,.inr ⟨_,rfl,rfl⟩⟩
     refine cv [2,3] (bind_walker_walk_ok (BindScope.mk x4 x37.Text false []) x37 (BindWalker.mk x29 x26 x27 x28) b9 v25 _ hx40) ⟨aa,aa,aa,trivial⟩ (fun q C' hq=> ?_) (fun v9 hv=>by obtain⟨_,h9,_⟩:=hv;cases h9)
     obtain⟨_,h9,v42,rfl,rfl⟩:=hq
     cases h9
     refine rCtx [Own.box b9 ar (BindWalkerRaw.mk v42 x41.file x41.method x41.many),Own.vec v42 ao x41.uses 47,Own.box b2 (ba ao) [],Own.box b3 ak x7,Own.box b38 ab x37] ?_
     exact⟨x41.file,x41.method,x41.many,x41.uses,x37,v42,b38,h4l,atOk⟩
    refine ax ?_
    exact⟨x26,x27,x28,x29,x37,v25,b38,h4l,⟨⟨aa,aa,aa,aa,aa,aa,aa,aa,aa,aa,trivial⟩,Pick.of [2,3,0,1,4] rfl⟩⟩
   refine c6 ?_
   obtain rfl:=ho4 _ (Option.some.inj h4l).symm
   exact⟨x26,x27,x28,x29,v25,h2l,atOk⟩
  refine c6 ?_
  obtain rfl:=ho2 _ (Option.some.inj h2l).symm
  exact⟨x12,x13,x14,x15,v11,h,atOk⟩
 rintro e a s' env' C' he hg ⟨l0,l1,hp,h4,h5,hK⟩
 have hg:=hg.pick hp
 rcases hK with⟨rfl,rfl⟩|⟨w,rfl,rfl⟩
 ·show LeavesInM _ _ _ _ _ _ a.defers _ _
  rw[he.nod]
  refine⟨by simp,.inr ⟨by simp[Fence.wide],_,_,36, #[.pointer (some ⟨b2,0,none⟩),.pointer (some ⟨b3,0,none⟩)],rfl,by simp[invoke,li en36],fun _ _=>trivial,(bind_Uses_calm b2 b3 s' hg.wf).mono ?_⟩⟩
  rintro e' u' w' ⟨⟨v,rfl⟩,rfl,F',hm⟩
  have hg2:=hg.calm (t:=⟨w',F'⟩) hm
  exact bind_Uses_ends Tryz.results13 (Option.some.inj hr0).symm he.at_ h4 h5 hg2.has hg2.mod
 show LeavesInM _ _ _ _ _ _ a.defers _ _
 rw[he.nod]
 refine⟨by simp,.inr ⟨by simp[Fence.wide],_,_,36, #[.pointer (some ⟨b2,0,none⟩),.pointer (some ⟨b3,0,none⟩)],rfl,by simp[invoke,li en36],fun _ _=>trivial,(bind_Uses_back b2 b3 l0 l1 w s' hg.wf hg.has).mono ?_⟩⟩
 rintro e' u' w' ⟨⟨v,rfl⟩,rfl,F',hm,hh⟩
 obtain⟨h9,_⟩:=Cn.Good.call (C':=[Own.box b2 (ba ao) [],Own.box b3 ak w.m]) (C0:=[Own.box b2 (ba ao) l0,Own.box b3 ak l1]) (Cr:=[]) (by simpa using hg) hm hh (fun b hb=> .inl hb)
 have h9:Cn.Good (fun _=>False) s ⟨w',F'⟩ [Own.box b2 (ba ao) [],Own.box b3 ak w.m]:=by simpa using h9
 exact bind_Uses_ends Tryz.results13 (Option.some.inj hr0).symm he.at_ h4 h5 h9.has h9.mod
section
variable {env:Env} {C:Ctx} {ty:TypeId} {pos:String} {after:Array Edge} {gd:Option (Nat × Bool)} {d:Option Nat}
theorem types_Check_nil {u:TypeId} {m:TypesWrong} {x:Operand} (hx:env.op x=Pr.is (gt m):=by exact rfl):Q Tryz.prog C ⟨d,.binOp .neq 20 x (.const .nilIface) u,ty,pos,after,gd⟩ env (Pr.bool true):=by
 intro s ρ hs _ h
 have h0:ρ x=gt m:=by have:=h x mem2a;rw[hx]at this;exact this
 have h2:ρ (.const .nilIface)= .nilIface:=h (.const .nilIface) mem2b
 have he:∀d:Nat,(Op.equalIn (d+1) 20 (gt m) .nilIface).run Tryz.prog s.w= .ok false s.w:=fun d=>by simp[gt,Op.equalIn,cz Tryz.underlying20]
 refine .of_run hs (v:= .bool true) ?_ rfl
 have h0':ρ x= .iface 103 (.agg #[.int .i64 m.m.Code,.int .i64 m.m.File,.int .i64 m.m.At]):=h0
 have he':=he 9999
 unfold gt at he'
 simp[execOp,h0',h2,eqGuard,binOp,Op.equal,Op.maxDepth,he']
theorem types_Check_none {u:TypeId} {x:Operand} (hx:env.op x=Pr.is .nilIface:=by exact rfl):Q Tryz.prog C ⟨d,.binOp .neq 20 x (.const .nilIface) u,ty,pos,after,gd⟩ env (Pr.bool false):=by
 intro s ρ hs _ h
 have h0:ρ x= .nilIface:=by have:=h x mem2a;rw[hx]at this;exact this
 have h2:ρ (.const .nilIface)= .nilIface:=h (.const .nilIface) mem2b
 have he:∀d:Nat,(Op.equalIn (d+1) 20 .nilIface .nilIface).run Tryz.prog s.w= .ok true s.w:=fun d=>by simp[Op.equalIn,cz Tryz.underlying20]
 refine .of_run hs (v:= .bool false) ?_ rfl
 simp[execOp,h0,h2,eqGuard,binOp,Op.equal,Op.maxDepth,he 9999]
theorem types_Check_val (m:TypesWrong) (s:St):((ik).val m).p s (.agg #[.int .i64 m.m.Code,.int .i64 m.m.File,.int .i64 m.m.At]):=
 (ik).spec.2 ⟨[.int .i64 m.m.Code,.int .i64 m.m.File,.int .i64 m.m.At],⟨_,_,rfl,⟨_,_,rfl,rfl,⟨_,_,rfl,rfl,⟨_,_,rfl,rfl,rfl⟩⟩⟩,rfl⟩,rfl⟩
theorem types_Check_as {xt:TypeId} {m:TypesWrong} {x:Operand} (hx:env.op x=Pr.is (gt m):=by exact rfl):Q Tryz.prog C ⟨d,.typeAssert x xt 103 true,ty,pos,after,gd⟩ env (bk [(ik).val m,Pr.bool true]):=by
 intro s ρ hs _ h
 have h0:ρ x= .iface 103 (.agg #[.int .i64 m.m.Code,.int .i64 m.m.File,.int .i64 m.m.At]):=by have:=h x (by simp[Op.operands]);rw[hx]at this;exact this
 refine .of_run hs (v:= .tuple #[.agg #[.int .i64 m.m.Code,.int .i64 m.m.File,.int .i64 m.m.At],.bool true]) ?_ ⟨[_,_],rfl,types_Check_val m s,rfl,trivial⟩
 simp[execOp,Instr.typeAssert,h0,cz Tryz.underlying103]
end
theorem types_Check_calm (b0:Nat) (s:St) (hs:s.WF):CallsDIn Fence.wide 0 Tryz.prog 54 #[.pointer (some ⟨b0,0,none⟩)] .returning s.w (fun e u' w'=>(∃v,e= .returned v)/\u'= .returning/\∃F',Mod (fun _=>False) s ⟨w',F'⟩):=by
 refine callsDIn_of_wpSIn Tryz.func54 rfl trivial (fun c₀ cs hu=> ?_)
 have he:EnvOK ⟨17,none,[]⟩ (l9 [am b0 0]) {tmps:= #[.pointer (some ⟨b0,0,none⟩)]++Array.replicate (Tryz.f54.ntmps - (#[.pointer (some ⟨b0,0,none⟩)]:Array Value).size) undef,defers:=[]} s:=
  ⟨fun t=>nb (show AllP s [am b0 0] [.pointer (some ⟨b0,0,none⟩)]from⟨rfl,trivial⟩) _ t,by simp[Tryz.ntmps54],rfl⟩
 refine wpSIn_recover (v:= .nilIface) (cs':=c₀::cs) (by simp[Tryz.ntmps54]) (.inr ⟨by simp[recoverD,hu],rfl,rfl⟩) ?_
 have he2:=(he.putO (d:=some 4) (p:=Pr.is .nilIface) (v:= .nilIface) (fun d hd=>by cases hd;decide) rfl).putO (d:=some 1) (p:=Pr.is .nilIface) (v:= .nilIface) (fun d hd=>by cases hd;decide) rfl
 have hg:Cn.Good (fun _=>False) s s []:=⟨Mod.refl hs,hs,⟨List.nodup_nil,fun x hx=>(by cases hx),fun b hb=>(by cases hb)⟩,fun b hb=>(by cases hb)⟩
 refine wpSIn_of_wpIn rfl ?_
 refine(?_:W2 Tryz.prog ⟨17,none,[]⟩ (fun _=>False) s _ _ [] _) _ s he2 hg
 refine W2_rs ?_
 refine rq (out:=Pr.is .nilIface) eb ?_
 refine rq (out:=Pr.bool false) types_Check_none ?_
 refine And.intro rfl (W2_c (b:=false) rfl (fun h=>by cases h) (fun _=>W2_skip (fun a s' he hg=> ?_)))
 exact⟨he.nod,.returning,by rw[← hu],_,t8 (rs:=[]) ⟨by decide,Tryz.results54⟩ _ _,⟨_,rfl⟩,rfl,s'.F,hg.mod⟩
theorem types_Check_back (b0:Nat) (l0:ApiMistake) (m:TypesWrong) (s:St) (hs:s.WF) (hh:Has s [Own.box b0 ak l0]):CallsDIn Fence.wide 0 Tryz.prog 54 #[.pointer (some ⟨b0,0,none⟩)] (.panicking (one (gt m))) s.w
  (fun e u' w'=>(∃v,e= .returned v)/\u'= .panicking [{v:=gt m,recovered:=true}]/\∃F',Mod (fun b=>b∈bx [Own.box b0 ak l0]) s ⟨w',F'⟩/\Has ⟨w',F'⟩ [Own.box b0 ak m.m]):=by
 refine callsDIn_of_wpSIn Tryz.func54 rfl trivial (fun c₀ cs hu=> ?_)
 have he:EnvOK ⟨17,none,[]⟩ (l9 [am b0 0]) {tmps:= #[.pointer (some ⟨b0,0,none⟩)]++Array.replicate (Tryz.f54.ntmps - (#[.pointer (some ⟨b0,0,none⟩)]:Array Value).size) undef,defers:=[]} s:=
  ⟨fun t=>nb (show AllP s [am b0 0] [.pointer (some ⟨b0,0,none⟩)]from⟨rfl,trivial⟩) _ t,by simp[Tryz.ntmps54],rfl⟩
 refine wpSIn_recover (v:=gt m) (cs':={c₀ with mode:= .panicking [{v:=gt m,recovered:=true}]}::cs) (by simp[Tryz.ntmps54]) (.inl (by simp[recoverD,hu])) ?_
 have he2:=(he.putO (d:=some 4) (p:=Pr.is (gt m)) (v:=gt m) (fun d hd=>by cases hd;decide) rfl).putO (d:=some 1) (p:=Pr.is (gt m)) (v:=gt m) (fun d hd=>by cases hd;decide) rfl
 have hg:Cn.Good (fun b=>b∈bx [Own.box b0 ak l0]) s s [Own.box b0 ak l0]:=⟨Mod.refl hs,hs,hh,fun b hb=> .inr hb⟩
 refine wpSIn_of_wpIn rfl ?_
 refine(?_:W2 Tryz.prog ⟨17,none,[]⟩ (fun b=>b∈bx [Own.box b0 ak l0]) s _ _ [Own.box b0 ak l0] _) _ s he2 hg
 refine W2_rs ?_
 refine rq (out:=Pr.is (gt m)) eb ?_
 refine rq (out:=Pr.bool true) types_Check_nil ?_
 refine And.intro rfl (W2_c (b:=true) rfl (fun _=> ?_) (fun h=>by cases h))
 refine W2_of_W (K:=fun e _ C=>e= .normal/\Pick C [Own.box b0 ak m.m]) ?_ ?_ (.inr (fun e _ _ h=>by rw[h.1];simp))
 ·refine W_rs ?_
  refine rq (out:=Pr.is (gt m)) eb ?_
  refine rq (out:=bk [(ik).val m,Pr.bool true]) types_Check_as ?_
  refine rq (out:=bk [(ik).val m,Pr.bool true]) eb ?_
  refine rq (out:=(ik).val m) au ?_
  refine rq (out:=Pr.bool true) au ?_
  refine rAlloc (R:=ik) (z:=(TypesWrong.mk (ApiMistake.mk 0 0 0))) Tryz.zeroValue103 (fun _=>⟨_,⟨_,_,rfl,⟨_,_,rfl,rfl,⟨_,_,rfl,rfl,⟨_,_,rfl,rfl,rfl⟩⟩⟩,rfl⟩,rfl⟩) (fun b=> ?_)
  refine um (R:=ik) (R':=ik) (a:=(TypesWrong.mk (ApiMistake.mk 0 0 0))) (y:=m) 1 Tryz.sizeOf103 (Upd.refl _) ?_
  refine rq (out:=Pr.bool true) du ?_
  refine a8 ?_
  refine W_rs ?_
  refine rq (out:=Pr.bool true) eb ?_
  refine rq (out:=Pr.bool (!true)) qNot ?_
  refine W_cond (b:= !true) rfl (fun h=>by cases h) (fun _=> ?_)
  refine ax ?_
  refine W_r ?_
  refine rq (out:=am b 0) (ai fld103_0) ?_
  refine rq (out:=(ak).val m.m) (ap (R:=ik) (a:=m) (R':=ak) 1 ty30 subTypesWrong_m) ?_
  refine um (R:=ak) (R':=ak) (a:=l0) (y:=m.m) 0 Tryz.sizeOf30 (Upd.refl _) ?_
  exact⟨rfl,Pick.of [0] rfl⟩
 ·rintro e a s' env' C' he hg ⟨rfl,hp⟩
  have hg:=hg.pick hp
  exact⟨he.nod,_,rfl,_,t8 (rs:=[]) ⟨by decide,Tryz.results54⟩ _ _,⟨_,rfl⟩,rfl,s'.F,hg.mod,hg.has⟩
theorem types_Check_ends {fn:Func} (hres:fn.results=[ResultVar.cell 2 30].toArray) {r:ApiMistake} {s0 s:St} {env:Env} {a:Act} {b0:Nat} {l0:ApiMistake} {w:World} {F':Nat->Prop} (hr:r=l0) (he:∀t,(env t).p s (a.tmps.getD t undef)) (h0:(env 2).le (am b0 0))
  (hh:Has ⟨w,F'⟩ [Own.box b0 ak l0]) (hm:Mod (fun _=>False) s0 ⟨w,F'⟩):∃v,(results fn a.tmps).run Tryz.prog w= .ok v w/\∃v' F',Ending.returned v= .returned v'/\Cn.Calm s0 ⟨w,F'⟩/\((ak).val r).p ⟨w,F'⟩ v':=by
 have hr2:=hr.symm;subst hr2
 have he':∀t,((fun t=>if t=2 then am b0 0 else Pr.any:Env) t).p ⟨w,F'⟩ (a.tmps.getD t undef):=by
  intro t
  by_cases hh0:t=2
  ·subst hh0;have h6:=h0 _ _ (he _);exact h6
  ·simp only[hh0,if_false];trivial
 obtain⟨us,h7,h8⟩:=yields_run (P:=Tryz.prog) (rs:=[.cell 2 30]) (ps:=[(ak).val l0]) (a:=a) he' hh ⟨yBox 0 ty30 aa,trivial⟩
 exact⟨_,run_resultsR hres h7,_,F',rfl,hm,oneP_ok h8⟩
theorem types_Check_ok (x1:List (List ApiNode)) (r:ApiMistake) (h:types_Check x1=some r):FnP Tryz.prog 26 [aq (ba ab) x1] ((ak).val r):=by
 obtain⟨r0,h,hr0⟩:=ah h
 refine fn_introD (n:=61) Tryz.func26 rfl Tryz.ntmps26 (by decide) (fun s=> ?_)
 unfold types_CheckQ at h
 refine W2_rs ?_
 refine bq al30 fun b2=> ?_
 refine And.intro rfl ?_
 refine W2_ss ?_
 refine W2_rs ?_
 refine kMvL rfl ?_
 obtain⟨⟨x3,x4⟩,hx3,h⟩:=ah h
 refine kUn (ct (bind_Uses_ok x1 _ hx3)) ?_
 refine kUn (hMv (out:=bk [aq ao x3,(ak).val x4]) rfl) (kUn au ?_)
 refine kUn au ?_
 refine bq al30 fun b5=>kAsL rfl (av 1 rfl rfl (Upd.refl _) rfl Tryz.sizeOf30 ?_)
 refine And.intro rfl ?_
 refine W2_rs ?_
 refine kUn (ai fld30_0) ?_
 refine kUn (ap 1 ty28 io) ?_
 refine kIn rfl rfl rfl ?_
 refine And.intro rfl ?_
 refine W2_c (b:=x4.Code != 0) rfl (fun hc6=> ?_) (fun hc6=> ?_)
 ·replace h:=iteT hc6 h
  refine W2_rs ?_
  refine kUn (ap 1 ty30 (Sub.refl _)) ?_
  refine av 0 rfl rfl (Upd.refl _) rfl Tryz.sizeOf30 ?_
  refine And.intro rfl ?_
  obtain rfl:=osj h
  refine W2_ret (fun a s' he hg=> ?_)
  have hg:=hg.pick (Pick.of [0] rfl)
  show LeavesInM _ _ _ _ _ _ a.defers _ _
  rw[he.nod]
  exact types_Check_ends Tryz.results26 (Option.some.inj hr0).symm he.at_ aa hg.has hg.mod
 replace h:=iteF hc6 h
 refine W2_skip (fun a s' he hg=> ?_)
 refine(?_:W2 Tryz.prog ⟨61,none,[]⟩ (fun _=>False) s _ _ _ _) a s' he hg
 clear he hg a s'
 refine W2_rs ?_
 refine kMvL rfl ?_
 obtain⟨⟨x7,x8⟩,hx7,h⟩:=ah h
 refine kUn (ct (decls_Table_ok x1 _ hx7)) ?_
 refine kUn (hMv (out:=bk [aq af x7,(ak).val x8]) rfl) (kUn au ?_)
 refine kUn au ?_
 refine bq al30 fun b9=>kAsL rfl (av 2 rfl rfl (Upd.refl _) rfl Tryz.sizeOf30 ?_)
 refine And.intro rfl ?_
 refine W2_defer1 (b1:=b2) (by decide) rfl ?_
 refine W2_of_W (K:=fun e env C=>∃l0,Pick C [Own.box b2 ak l0]/\(env 2).le (am b2 0)/\((e= .ret/\r0= .ok l0)\/∃w,e= .panic (one (gt w))/\r0= .bad w)) ?_ ?_ (.inl (by simp))
 ·refine a8 (W_rs (kMvL rfl (kUn (iz rfl Tryz.underlying24) ?_)))
  refine kMv rfl (az ?_)
  obtain⟨z2l,hz2,h⟩:=ah h
  obtain⟨n2,hN2⟩:=bp hz2
  refine cq 0 (fun e C=>types_Check_k1=some r0/\At [(2,am b2 0)] [Own.box b2 ak (ApiMistake.mk 0 0 0),Own.box b5 ak x4,Own.box b9 ak x8] e C) ?_ ?_
  ·rintro e C ⟨h,hat1⟩
   refine W_at hat1 ?_
   unfold types_Check_k1 at h
   refine W_rs (kUn (fv st30 rfl) ?_)
   refine av 0 rfl rfl (Upd.refl _) rfl Tryz.sizeOf30 ?_
   obtain rfl:=osj h
   exact bc ⟨_,Pick.of [0] rfl,aa,.inl ⟨rfl,rfl⟩⟩
  refine c8 (fun m e C=>∃(x10:Int),dj (fun s=>types_Check_l2 x1 x7 s) m x10=some z2l/\At [(2,am b2 0),(5,aq af x7),(28,aq (ba ab) x1),(29,Pr.i64 (x1.length:Int)),(30,Pr.i64 x10)] [Own.box b2 ak (ApiMistake.mk 0 0 0),Own.box b5 ak x4,Own.box b9 ak x8] e C) n2 ⟨0,hN2,⟨⟨aa,aa,aa,aa,aa,trivial⟩,Pick.refl _⟩⟩ ?_
  rintro m e C ⟨x10,hN2,hatl2⟩
  refine W_at hatl2 ?_
  obtain⟨m2,w2l,rfl,h2l,hn2,ho2⟩:=bj hN2
  replace h2l:types_Check_l2 x1 x7 x10=some w2l:=h2l
  unfold types_Check_l2 at h2l
  refine W_rs (kIn rfl rfl rfl (a8 ?_))
  refine a5 h2l rfl (fun _ h2l=> ?_) (fun _ h2l=> ?_)
  ·refine ax (a8 (az (W_rs (kMv rfl ?_))))
   obtain⟨x13,hx13,h2l⟩:=ah h2l
   refine kUn (dg Tryz.underlying24 Tryz.sizeOf53 hx13) ?_
   refine kUn (cf ty53) ?_
   refine kAs rfl (kAsL rfl (W_rs (kMvL rfl (kUn (iz rfl Tryz.underlying53) ?_))))
   refine kMv rfl (az ?_)
   obtain⟨z4l,hz4,h2l⟩:=ah h2l
   obtain⟨n4,hN4⟩:=bp hz4
   refine cq 2 (fun e C=>types_Check_k3 x10=some w2l/\At [(2,am b2 0),(5,aq af x7),(28,aq (ba ab) x1),(29,Pr.i64 (x1.length:Int)),(30,Pr.i64 x10)] [Own.box b2 ak (ApiMistake.mk 0 0 0),Own.box b5 ak x4,Own.box b9 ak x8] e C) ?_ ?_
   ·rintro e C ⟨h2l,hat3⟩
    refine W_at hat3 ?_
    unfold types_Check_k3 at h2l
    refine W_r (kIn rfl rfl rfl (kMv rfl ?_))
    exact⟨m2,Nat.lt_succ_self _,w64 (x10+1),hn2 _ (Option.some.inj h2l).symm,atOk⟩
   refine c8 (fun m e C=>∃(x14:Int),dj (fun s=>types_Check_l4 x13 x7 x10 s) m x14=some z4l/\At [(2,am b2 0),(5,aq af x7),(7,Pr.i64 x10),(28,aq (ba ab) x1),(29,Pr.i64 (x1.length:Int)),(30,Pr.i64 x10),(35,aq ab x13),(36,Pr.i64 (x13.length:Int)),(37,Pr.i64 x14)] [Own.box b2 ak (ApiMistake.mk 0 0 0),Own.box b5 ak x4,Own.box b9 ak x8] e C) n4 ⟨0,hN4,⟨⟨aa,aa,aa,aa,aa,aa,aa,aa,aa,trivial⟩,Pick.refl _⟩⟩ ?_
   rintro m e C ⟨x14,hN4,hatl4⟩
   refine W_at hatl4 ?_
   obtain⟨m4,w4l,rfl,h4l,hn4,ho4⟩:=bj hN4
   replace h4l:types_Check_l4 x13 x7 x10 x14=some w4l:=h4l
   unfold types_Check_l4 at h4l
   refine W_rs (kIn rfl rfl rfl (a8 ?_))
   refine a5 h4l rfl (fun _ h4l=> ?_) (fun _ h4l=> ?_)
   ·refine ax (a8 (az (W_rs ?_)))
    obtain⟨x17,hx17,h4l⟩:=ah h4l
    refine kUn (dg Tryz.underlying53 Tryz.sizeOf64 hx17) ?_
    refine kUn (cf ty64) ?_
    refine bq al64 fun b18=>av 3 rfl rfl (Upd.refl _) rfl Tryz.sizeOf64 (W_rs (kUn (ai ee) ?_))
    refine kUn (ap 3 ty53 bl) ?_
    refine kUn (iz rfl Tryz.underlying53) ?_
    refine kMv rfl (az ?_)
    obtain⟨z6l,hz6,h4l⟩:=ah h4l
    obtain⟨n6,hN6⟩:=bp hz6
    refine cq 4 (fun e C=>types_Check_k5 x14=some w4l/\At [(2,am b2 0),(5,aq af x7),(7,Pr.i64 x10),(28,aq (ba ab) x1),(29,Pr.i64 (x1.length:Int)),(30,Pr.i64 x10),(35,aq ab x13),(36,Pr.i64 (x13.length:Int)),(37,Pr.i64 x14)] [Own.box b2 ak (ApiMistake.mk 0 0 0),Own.box b5 ak x4,Own.box b9 ak x8,Own.box b18 ab x17] e C) ?_ ?_
    ·rintro e C ⟨h4l,hat5⟩
     refine W_at hat5 ?_
     unfold types_Check_k5 at h4l
     refine W_r (kIn rfl rfl rfl (kMv rfl ?_))
     exact⟨m4,Nat.lt_succ_self _,w64 (x14+1),hn4 _ (Option.some.inj h4l).symm,⟨⟨aa,aa,aa,aa,aa,aa,aa,aa,aa,trivial⟩,Pick.of [0,1,2] rfl⟩⟩
    refine c8 (fun m e C=>∃(x19:Int),dj (fun s=>types_Check_l6 x17 x7 x10 s) m x19=some z6l/\At [(2,am b2 0),(5,aq af x7),(7,Pr.i64 x10),(10,am b18 0),(28,aq (ba ab) x1),(29,Pr.i64 (x1.length:Int)),(30,Pr.i64 x10),(35,aq ab x13),(36,Pr.i64 (x13.length:Int)),(37,Pr.i64 x14),(42,aq ab x17.Kids),(43,Pr.i64 (x17.Kids.length:Int)),(44,Pr.i64 x19)] [Own.box b2 ak (ApiMistake.mk 0 0 0),Own.box b5 ak x4,Own.box b9 ak x8,Own.box b18 ab x17] e C) n6 ⟨0,hN6,⟨⟨aa,aa,aa,aa,aa,aa,aa,aa,aa,aa,aa,aa,aa,trivial⟩,Pick.refl _⟩⟩ ?_
    rintro m e C ⟨x19,hN6,hatl6⟩
    refine W_at hatl6 ?_
    obtain⟨m6,w6l,rfl,h6l,hn6,ho6⟩:=bj hN6
    replace h6l:types_Check_l6 x17 x7 x10 x19=some w6l:=h6l
    unfold types_Check_l6 at h6l
    refine W_rs (kIn rfl rfl rfl (a8 ?_))
    refine a5 h6l rfl (fun _ h6l=> ?_) (fun _ h6l=> ?_)
    ·refine ax ?_
     refine bh (fun e C=>∃(x22:ApiNode),∃(b23:Nat),types_Check_j7 x19 x22=some w6l/\At [(2,am b2 0),(5,aq af x7),(7,Pr.i64 x10),(10,am b18 0),(28,aq (ba ab) x1),(29,Pr.i64 (x1.length:Int)),(30,Pr.i64 x10),(35,aq ab x13),(36,Pr.i64 (x13.length:Int)),(37,Pr.i64 x14),(42,aq ab x17.Kids),(43,Pr.i64 (x17.Kids.length:Int)),(44,Pr.i64 x19)] [Own.box b2 ak (ApiMistake.mk 0 0 0),Own.box b5 ak x4,Own.box b9 ak x8,Own.box b18 ab x17,Own.box b23 ab x22] e C) ?_ ?_
     ·rintro e C ⟨x22,b23,h6l,hat7⟩
      refine W_at hat7 ?_
      unfold types_Check_j7 at h6l
      refine W_r (kIn rfl rfl rfl (kMv rfl ?_))
      exact⟨m6,Nat.lt_succ_self _,w64 (x19+1),hn6 _ (Option.some.inj h6l).symm,⟨⟨aa,aa,aa,aa,aa,aa,aa,aa,aa,aa,aa,aa,aa,trivial⟩,Pick.of [0,1,2,3] rfl⟩⟩
     refine az (W_rs ?_)
     obtain⟨x22,hx22,h6l⟩:=ah h6l
     refine kUn (dg Tryz.underlying53 Tryz.sizeOf64 hx22) ?_
     refine kUn (cf ty64) ?_
     refine bq al64 fun b23=>av 4 rfl rfl (Upd.refl _) rfl Tryz.sizeOf64 (W_rs (kUn (ai dr) ?_))
     refine kUn (ap 4 ty3 bg) ?_
     refine kIn rfl rfl rfl ?_
     refine a5 h6l rfl (fun _ h6l=> ?_) (fun _ h6l=> ?_)
     ·refine W_r (kMvL rfl (kUn (ai ef) ?_))
      refine kUn (ap 3 ty9 bw) ?_
      refine kMv rfl (kUn (ap 4 ty64 (Sub.refl _)) ?_)
      rcases ce h6l with⟨m26,hm26,h6l⟩|⟨_,hx25,h6l⟩
      ·refine cv [] (types_method_ok x7 x17.Text x10 x22 _ hm26) ⟨aa,aa,aa,aa,trivial⟩ (fun q C' hq=> ?_) (fun v9 hv=> ?_)
       ·obtain⟨_,h9,_⟩:=hq;cases h9
       obtain⟨_,h9,rfl⟩:=hv
       cases h9
       obtain rfl:=ho6 _ (Option.some.inj h6l).symm
       replace h4l:some (.inr (.done (.inr (.done (.bad m26)))))=some w4l:=h4l
       obtain rfl:=ho4 _ (Option.some.inj h4l).symm
       replace h2l:some (.inr (.done (.bad m26)))=some w2l:=h2l
       obtain rfl:=ho2 _ (Option.some.inj h2l).symm
       replace h:some (.bad m26)=some r0:=h
       obtain rfl:=osj h
       exact⟨_,Pick.of [0] rfl,aa,.inr ⟨_,rfl,rfl⟩⟩
      refine cv [] (types_method_ok x7 x17.Text x10 x22 _ hx25) ⟨aa,aa,aa,aa,trivial⟩ (fun q C' hq=> ?_) (fun v9 hv=>by obtain⟨_,h9,_⟩:=hv;cases h9)
      obtain⟨_,h9,rfl,rfl⟩:=hq
      cases h9
      refine rCtx [Own.box b2 ak (ApiMistake.mk 0 0 0),Own.box b5 ak x4,Own.box b9 ak x8,Own.box b18 ab x17,Own.box b23 ab x22] ?_
      exact⟨x22,b23,h6l,atOk⟩
     refine ax ?_
     exact⟨x22,b23,h6l,atOk⟩
    refine c6 ?_
    obtain rfl:=ho6 _ (Option.some.inj h6l).symm
    exact⟨h4l,atOk⟩
   refine c6 ?_
   obtain rfl:=ho4 _ (Option.some.inj h4l).symm
   exact⟨h2l,atOk⟩
  refine c6 ?_
  obtain rfl:=ho2 _ (Option.some.inj h2l).symm
  exact⟨h,atOk⟩
 rintro e a s' env' C' he hg ⟨l0,hp,h4,hK⟩
 have hg:=hg.pick hp
 rcases hK with⟨rfl,rfl⟩|⟨w,rfl,rfl⟩
 ·show LeavesInM _ _ _ _ _ _ a.defers _ _
  rw[he.nod]
  refine⟨by simp,.inr ⟨by simp[Fence.wide],_,_,54, #[.pointer (some ⟨b2,0,none⟩)],rfl,by simp[invoke,li en54],fun _ _=>trivial,(types_Check_calm b2 s' hg.wf).mono ?_⟩⟩
  rintro e' u' w' ⟨⟨v,rfl⟩,rfl,F',hm⟩
  have hg2:=hg.calm (t:=⟨w',F'⟩) hm
  exact types_Check_ends Tryz.results26 (Option.some.inj hr0).symm he.at_ h4 hg2.has hg2.mod
 show LeavesInM _ _ _ _ _ _ a.defers _ _
 rw[he.nod]
 refine⟨by simp,.inr ⟨by simp[Fence.wide],_,_,54, #[.pointer (some ⟨b2,0,none⟩)],rfl,by simp[invoke,li en54],fun _ _=>trivial,(types_Check_back b2 l0 w s' hg.wf hg.has).mono ?_⟩⟩
 rintro e' u' w' ⟨⟨v,rfl⟩,rfl,F',hm,hh⟩
 obtain⟨h9,_⟩:=Cn.Good.call (C':=[Own.box b2 ak w.m]) (C0:=[Own.box b2 ak l0]) (Cr:=[]) (by simpa using hg) hm hh (fun b hb=> .inl hb)
 have h9:Cn.Good (fun _=>False) s ⟨w',F'⟩ [Own.box b2 ak w.m]:=by simpa using h9
 exact types_Check_ends Tryz.results26 (Option.some.inj hr0).symm he.at_ h4 h9.has h9.mod
end Go.Proofs.YtcndghapmoaidaaGreatDoor
