/- The taking of a text by a rule: what is thrown on the way is caught at the end (printed by wip/seatP/mkrun.py). -/
import Derived.Test.YteablckbgpogiaaGreatDoorZP5
set_option linter.unusedSimpArgs false
set_option linter.unusedVariables false
set_option linter.unusedSectionVars false
set_option linter.unusedSectionVars false
set_option maxRecDepth 100000
set_option maxHeartbeats 4000000
namespace Go.Proofs.YteablckbgpogiaaGreatDoor
open Go Go.Cn
variable [Known]
theorem st103 :StOK Tryz.prog 103 pb (ParseParser.mk [] 0):=stOK Tryz.underlying103 Tryz.zeroValue103 (fun _=>⟨_,_,rfl,⟨_,rfl,none,0,rfl,⟨Nat.le_refl _,fun _=>rfl⟩,.inl rfl⟩,⟨_,_,rfl,rfl,rfl⟩⟩) ⟨rfl,Tryz.sizeOf70,rfl,Tryz.sizeOf3,trivial⟩
theorem updApiNode_From :Upd rApiNode 4 (Rp.int .i64) (fun x y=>{x with From:=y}):=Upd.ofEq au (Upd.strct fApiNode 4 (fd:=⟨_,Rp.int .i64,ApiNode.From⟩) rfl (fun _ _=>rfl) (by intro x y j fd hj hf;match j,hj with| 0,_=>(cases hf;rfl)| 1,_=>(cases hf;rfl)| 2,_=>(cases hf;rfl)| 3,_=>(cases hf;rfl)| 4,h=>exact absurd rfl h| 5,_=>(cases hf;rfl)| 6,_=>(cases hf;rfl)| 7,_=>(cases hf;rfl)| 8,_=>(cases hf;rfl)|_+9,_=>cases hf))
theorem fld100_0 :FldOK Tryz.prog 100 0 0 3 true:=⟨⟨_,_,Tryz.underlying100,rfl,rfl,ty28⟩,by decide⟩
theorem subParseWrong_m :Sub im 0 ai ParseWrong.m:=Sub.strct fParseWrong 0 _ rfl
theorem en59 :Cn.Enters Tryz.prog 59:=⟨_,Tryz.func59,by decide,rfl⟩
section
variable {env:Env} {C:Ctx} {ty:TypeId} {pos:String} {after:Array Edge} {gd:Option (Nat × Bool)} {d:Option Nat}
theorem qNeNilW {u:TypeId} {m:ParseWrong} {x:Operand} (hx:env.op x=Pr.is (fo m):=by exact rfl):Q Tryz.prog C ⟨d,.binOp .neq 20 x (.const .nilIface) u,ty,pos,after,gd⟩ env (Pr.bool true):=by
 intro s ρ hs _ h
 have h0:ρ x=fo m:=by have:=h x mem2a;rw[hx]at this;exact this
 have h2:ρ (.const .nilIface)= .nilIface:=h (.const .nilIface) mem2b
 have he:∀d:Nat,(Op.equalIn (d+1) 20 (fo m) .nilIface).run Tryz.prog s.w= .ok false s.w:=fun d=>by simp[fo,Op.equalIn,f7 Tryz.underlying20]
 refine .of_run hs (v:= .bool true) ?_ rfl
 have h0':ρ x= .iface 100 (.agg #[.int .i64 m.m.Code,.int .i64 m.m.File,.int .i64 m.m.At]):=h0
 have he':=he 9999
 unfold fo at he'
 simp[execOp,h0',h2,eqGuard,binOp,Op.equal,Op.maxDepth,he']
theorem qEqNilN {u:TypeId} {x:Operand} (hx:env.op x=Pr.is .nilIface:=by exact rfl):Q Tryz.prog C ⟨d,.binOp .neq 20 x (.const .nilIface) u,ty,pos,after,gd⟩ env (Pr.bool false):=by
 intro s ρ hs _ h
 have h0:ρ x= .nilIface:=by have:=h x mem2a;rw[hx]at this;exact this
 have h2:ρ (.const .nilIface)= .nilIface:=h (.const .nilIface) mem2b
 have he:∀d:Nat,(Op.equalIn (d+1) 20 .nilIface .nilIface).run Tryz.prog s.w= .ok true s.w:=fun d=>by simp[Op.equalIn,f7 Tryz.underlying20]
 refine .of_run hs (v:= .bool false) ?_ rfl
 simp[execOp,h0,h2,eqGuard,binOp,Op.equal,Op.maxDepth,he 9999]
theorem wrong_val (m:ParseWrong) (s:St):((im).val m).p s (.agg #[.int .i64 m.m.Code,.int .i64 m.m.File,.int .i64 m.m.At]):=
 (im).spec.2 ⟨[.int .i64 m.m.Code,.int .i64 m.m.File,.int .i64 m.m.At],⟨_,_,rfl,⟨_,_,rfl,rfl,⟨_,_,rfl,rfl,⟨_,_,rfl,rfl,rfl⟩⟩⟩,rfl⟩,rfl⟩
theorem qAssertW {xt:TypeId} {m:ParseWrong} {x:Operand} (hx:env.op x=Pr.is (fo m):=by exact rfl):Q Tryz.prog C ⟨d,.typeAssert x xt 100 true,ty,pos,after,gd⟩ env (ce [(im).val m,Pr.bool true]):=by
 intro s ρ hs _ h
 have h0:ρ x= .iface 100 (.agg #[.int .i64 m.m.Code,.int .i64 m.m.File,.int .i64 m.m.At]):=by have:=h x (by simp[Op.operands]);rw[hx]at this;exact this
 refine .of_run hs (v:= .tuple #[.agg #[.int .i64 m.m.Code,.int .i64 m.m.File,.int .i64 m.m.At],.bool true]) ?_ ⟨[_,_],rfl,wrong_val m s,rfl,trivial⟩
 simp[execOp,Instr.typeAssert,h0,f7 Tryz.underlying100]
end
theorem run1_calm (b3 b4:Nat) (s:St) (hs:s.WF):CallsDIn Fence.wide 0 Tryz.prog 59 #[.pointer (some ⟨b3,0,none⟩),.pointer (some ⟨b4,0,none⟩)] .returning s.w (fun e u' w'=>(∃v,e= .returned v)/\u'= .returning/\∃F',Mod (fun _=>False) s ⟨w',F'⟩):=by
 refine callsDIn_of_wpSIn Tryz.func59 rfl trivial (fun c₀ cs hu=> ?_)
 have he:EnvOK ⟨18,none,[]⟩ (my [aj b3 0,aj b4 0]) {tmps:= #[.pointer (some ⟨b3,0,none⟩),.pointer (some ⟨b4,0,none⟩)]++Array.replicate (Tryz.f59.ntmps - (#[.pointer (some ⟨b3,0,none⟩),.pointer (some ⟨b4,0,none⟩)]:Array Value).size) undef,defers:=[]} s:=
  ⟨fun t=>pk (show AllP s [aj b3 0,aj b4 0] [.pointer (some ⟨b3,0,none⟩),.pointer (some ⟨b4,0,none⟩)]from⟨rfl,rfl,trivial⟩) _ t,by simp[Tryz.ntmps59],rfl⟩
 refine wpSIn_recover (v:= .nilIface) (cs':=c₀::cs) (by simp[Tryz.ntmps59]) (.inr ⟨by simp[recoverD,hu],rfl,rfl⟩) ?_
 have he2:=(he.putO (d:=some 5) (p:=Pr.is .nilIface) (v:= .nilIface) (fun d hd=>by cases hd;decide) rfl).putO (d:=some 2) (p:=Pr.is .nilIface) (v:= .nilIface) (fun d hd=>by cases hd;decide) rfl
 have hg:Cn.Good (fun _=>False) s s []:=⟨Mod.refl hs,hs,⟨List.nodup_nil,fun x hx=>(by cases hx),fun b hb=>(by cases hb)⟩,fun b hb=>(by cases hb)⟩
 refine wpSIn_of_wpIn rfl ?_
 refine(?_:W2 Tryz.prog ⟨18,none,[]⟩ (fun _=>False) s _ _ [] _) _ s he2 hg
 refine W2_rs ?_
 refine rq (out:=Pr.is .nilIface) jn ?_
 refine rq (out:=Pr.bool false) qEqNilN ?_
 refine And.intro rfl (W2_c (b:=false) rfl (fun h=>by cases h) (fun _=>W2_skip (fun a s' he hg=> ?_)))
 exact⟨he.nod,.returning,by rw[← hu],_,run_results (rs:=[]) ⟨by decide,Tryz.results59⟩ _ _,⟨_,rfl⟩,rfl,s'.F,hg.mod⟩
theorem run1_back (b3 b4:Nat) (l:List ApiNode) (m0:ApiMistake) (m:ParseWrong) (s:St) (hs:s.WF) (hh:Has s [Own.box b3 (bx rApiNode) l,Own.box b4 ai m0]):CallsDIn Fence.wide 0 Tryz.prog 59 #[.pointer (some ⟨b3,0,none⟩),.pointer (some ⟨b4,0,none⟩)] (.panicking (one (fo m))) s.w
  (fun e u' w'=>(∃v,e= .returned v)/\u'= .panicking [{v:=fo m,recovered:=true}]/\∃F',Mod (fun b=>b∈cc [Own.box b3 (bx rApiNode) l,Own.box b4 ai m0]) s ⟨w',F'⟩/\Has ⟨w',F'⟩ [Own.box b3 (bx rApiNode) [],Own.box b4 ai m.m]):=by
 refine callsDIn_of_wpSIn Tryz.func59 rfl trivial (fun c₀ cs hu=> ?_)
 have he:EnvOK ⟨18,none,[]⟩ (my [aj b3 0,aj b4 0]) {tmps:= #[.pointer (some ⟨b3,0,none⟩),.pointer (some ⟨b4,0,none⟩)]++Array.replicate (Tryz.f59.ntmps - (#[.pointer (some ⟨b3,0,none⟩),.pointer (some ⟨b4,0,none⟩)]:Array Value).size) undef,defers:=[]} s:=
  ⟨fun t=>pk (show AllP s [aj b3 0,aj b4 0] [.pointer (some ⟨b3,0,none⟩),.pointer (some ⟨b4,0,none⟩)]from⟨rfl,rfl,trivial⟩) _ t,by simp[Tryz.ntmps59],rfl⟩
 refine wpSIn_recover (v:=fo m) (cs':={c₀ with mode:= .panicking [{v:=fo m,recovered:=true}]}::cs) (by simp[Tryz.ntmps59]) (.inl (by simp[recoverD,hu])) ?_
 have he2:=(he.putO (d:=some 5) (p:=Pr.is (fo m)) (v:=fo m) (fun d hd=>by cases hd;decide) rfl).putO (d:=some 2) (p:=Pr.is (fo m)) (v:=fo m) (fun d hd=>by cases hd;decide) rfl
 have hg:Cn.Good (fun b=>b∈cc [Own.box b3 (bx rApiNode) l,Own.box b4 ai m0]) s s [Own.box b3 (bx rApiNode) l,Own.box b4 ai m0]:=⟨Mod.refl hs,hs,hh,fun b hb=> .inr hb⟩
 refine wpSIn_of_wpIn rfl ?_
 refine(?_:W2 Tryz.prog ⟨18,none,[]⟩ (fun b=>b∈cc [Own.box b3 (bx rApiNode) l,Own.box b4 ai m0]) s _ _ [Own.box b3 (bx rApiNode) l,Own.box b4 ai m0] _) _ s he2 hg
 refine W2_rs ?_
 refine rq (out:=Pr.is (fo m)) jn ?_
 refine rq (out:=Pr.bool true) qNeNilW ?_
 refine And.intro rfl (W2_c (b:=true) rfl (fun _=> ?_) (fun h=>by cases h))
 refine W2_of_W (K:=fun e _ C=>e= .normal/\Pick C [Own.box b3 (bx rApiNode) [],Own.box b4 ai m.m]) ?_ ?_ (.inr (fun e _ _ h=>by rw[h.1];simp))
 ·refine W_rs ?_
  refine rq (out:=Pr.is (fo m)) jn ?_
  refine rq (out:=ce [(im).val m,Pr.bool true]) qAssertW ?_
  refine rq (out:=ce [(im).val m,Pr.bool true]) jn ?_
  refine rq (out:=(im).val m) ao ?_
  refine rq (out:=Pr.bool true) ao ?_
  refine rAlloc (R:=im) (z:=(ParseWrong.mk (ApiMistake.mk 0 0 0))) Tryz.zeroValue100 (fun _=>⟨_,⟨_,_,rfl,⟨_,_,rfl,rfl,⟨_,_,rfl,rfl,⟨_,_,rfl,rfl,rfl⟩⟩⟩,rfl⟩,rfl⟩) (fun b=> ?_)
  refine rStore (R:=im) (R':=im) (a:=(ParseWrong.mk (ApiMistake.mk 0 0 0))) (y:=m) 2 Tryz.sizeOf100 (Upd.refl _) ?_
  refine rq (out:=Pr.bool true) el ?_
  refine az ?_
  refine W_rs ?_
  refine rq (out:=Pr.bool true) jn ?_
  refine rq (out:=Pr.bool (!true)) qNot ?_
  refine W_cond (b:= !true) rfl (fun h=>by cases h) (fun _=> ?_)
  refine ar ?_
  refine fb [(2,0,Own.box b3 (bx rApiNode) []),(3,1,Own.box b4 ai m.m)] [Own.box b3 (bx rApiNode) [],Own.box b4 ai m.m,Own.box b im m] hmx (by kernel_rfl) (by kernel_rfl) (show([2,3]:List Nat).Nodup by decide) (show([0,1]:List Nat).Nodup by decide) rfl rfl ?_
  refine eq1 (out:=aj b 0) (fun C2 hC=>(av fld100_0)) ?_
  refine eq1 (out:=(ai).val m.m) (fun C2 hC=>(bb (R:=im) (a:=m) (R':=ai) 2 ty28 subParseWrong_m (hi:=(hC 2 (by kernel_rfl)).trans rfl))) ?_
  refine eqS (fun C2 hC=>sStoreL (R:=bx rApiNode) (R':=bx rApiNode) (a:=l) (y:=[]) 0 Tryz.sizeOf44 (Upd.refl _) ((hC 0 (by kernel_rfl)).trans rfl) (cv _)) ?_
  refine eqS (fun C2 hC=>dr (R:=ai) (R':=ai) (a:=m0) (y:=m.m) 1 Tryz.sizeOf28 (Upd.refl _) ((hC 1 (by kernel_rfl)).trans rfl)) ?_
  exact⟨rfl,Pick.of [0,1] rfl⟩
 ·rintro e a s' env' C' he hg ⟨rfl,hp⟩
  have hg:=hg.pick hp
  exact⟨he.nod,_,rfl,_,run_results (rs:=[]) ⟨by decide,Tryz.results59⟩ _ _,⟨_,rfl⟩,rfl,s'.F,hg.mod,hg.has⟩
theorem run_ends {fn:Func} (hres:fn.results=[ResultVar.cell 4 44,.cell 5 28].toArray) {r:List ApiNode × ApiMistake} {s0 s:St} {env:Env} {a:Act} {bL bM:Nat} {l:List ApiNode} {m:ApiMistake} {w:World} {F':Nat->Prop} (hr:r=(l,m)) (he:∀t,(env t).p s (a.tmps.getD t undef)) (h4:(env 4).le (aj bL 0)) (h5:(env 5).le (aj bM 0))
  (hh:Has ⟨w,F'⟩ [Own.box bL (bx rApiNode) l,Own.box bM ai m]) (hm:Mod (fun _=>False) s0 ⟨w,F'⟩):∃v,(results fn a.tmps).run Tryz.prog w= .ok v w/\∃v' F',Ending.returned v= .returned v'/\Cn.Calm s0 ⟨w,F'⟩/\(ce [ap rApiNode r.1,(ai).val r.2]).p ⟨w,F'⟩ v':=by
 subst hr
 have he':∀t,((fun t=>if t=4 then aj bL 0 else if t=5 then aj bM 0 else Pr.any:Env) t).p ⟨w,F'⟩ (a.tmps.getD t undef):=by
  intro t
  by_cases h1:t=4
  ·subst h1;have h6:=h4 _ _ (he _);exact h6
  ·by_cases h2:t=5
   ·subst h2;have h6:=h5 _ _ (he _);exact h6
   ·simp only[h1,h2,if_false];trivial
 obtain⟨us,h7,h8⟩:=yields_run (P:=Tryz.prog) (rs:=[.cell 4 44,.cell 5 28]) (ps:=[ap rApiNode l,(ai).val m]) (a:=a) he' hh ⟨yBox 0 ty44 aa,yBox 1 ty28 aa,trivial⟩
 exact⟨_,run_resultsR hres h7,_,F',rfl,hm,oneP_ok h8⟩
theorem parse_run_ok (F:(ParseParser->Option (PX ParseWrong ((List ApiNode) × ParseParser)))) (f9:Nat) (caps:List Pr) (hF:∀p b r,F p=some r->FnX Tryz.prog f9 ([]++[aj b 0]++caps) [Own.box b ae p] (fun q C'=>∃a9,r= .ok a9/\q=ap rApiNode a9.1/\C'=[Own.box b ae a9.2]) (fun v=>∃m,r= .bad m/\v=fo m))
  (x1:List UInt8) (r:List ApiNode × ApiMistake) (h:parse_run F x1=some r):FnP Tryz.prog 37 [ba x1,Pr.clo f9 [] caps] (ce [ap rApiNode r.1,(ai).val r.2]):=by
 obtain⟨r0,h,hr0⟩:=af h
 refine fn_introD (n:=59) Tryz.func37 rfl Tryz.ntmps37 (by decide) (fun s=> ?_)
 unfold parse_runQ at h
 refine W2_rs ?_
 refine rAlloc (R:=bx rApiNode) (z:=[]) Tryz.zeroValue44 (fun _=>⟨none,0,rfl,⟨Nat.le_refl _,fun _=>rfl⟩,.inl rfl⟩) (fun b3=> ?_)
 refine rAlloc (R:=ai) (z:=(ApiMistake.mk 0 0 0)) Tryz.zeroValue28 (fun _=>⟨_,⟨_,_,rfl,rfl,⟨_,_,rfl,rfl,⟨_,_,rfl,rfl,rfl⟩⟩⟩,rfl⟩) (fun b4=> ?_)
 refine And.intro rfl ?_
 refine W2_rs ?_
 refine rq (out:=ba x1) jn ?_
 obtain⟨⟨x5,x6,x7⟩,hx5,h⟩:=af h
 refine rq (out:=ce [ap ah x5,Pr.i64 x6,Pr.i64 x7]) (dl (lex_Lex_ok x1 _ hx5)) ?_
 refine rq (out:=ce [ap ah x5,Pr.i64 x6,Pr.i64 x7]) jn ?_
 refine rq (out:=ap ah x5) ao ?_
 refine rq (out:=Pr.i64 x6) ao ?_
 refine rq (out:=Pr.i64 x7) ao ?_
 refine rq (out:=ap ah x5) el ?_
 refine rq (out:=Pr.i64 x6) el ?_
 refine rq (out:=Pr.i64 x7) el ?_
 refine And.intro rfl ?_
 refine W2_ss ?_
 refine W2_rs ?_
 refine rq (out:=Pr.i64 x7) jn ?_
 refine rq (out:=Pr.bool (x7 != 0)) qInt ?_
 refine And.intro rfl ?_
 refine W2_c (b:=x7 != 0) rfl (fun hc8=> ?_) (fun hc8=> ?_)
 ·replace h:=iteT hc8 h
  refine W2_rs ?_
  refine rq (out:=Pr.i64 x7) jn ?_
  refine rq (out:=Pr.i64 x6) jn ?_
  refine rq (out:=(ai).val (ApiMistake.mk x7 0 x6)) (j8 st28 ⟨(ApiMistake.mk x7 0 0),⟨_,rfl,rfl,fun j fd hj hf=>by match j,hj with| 0,h=>exact absurd rfl h| 1,_=>cases hf;rfl| 2,_=>cases hf;rfl|_+3,_=>cases hf⟩,⟨(ApiMistake.mk x7 0 x6),⟨_,rfl,rfl,fun j fd hj hf=>by match j,hj with| 0,_=>cases hf;rfl| 1,_=>cases hf;rfl| 2,h=>exact absurd rfl h|_+3,_=>cases hf⟩,rfl⟩⟩) ?_
  refine rStoreL (R:=bx rApiNode) (R':=bx rApiNode) (a:=[]) (y:=[]) 0 Tryz.sizeOf44 (Upd.refl _) ?_
  refine rStore (R:=ai) (R':=ai) (a:=(ApiMistake.mk 0 0 0)) (y:=(ApiMistake.mk x7 0 x6)) 1 Tryz.sizeOf28 (Upd.refl _) ?_
  obtain rfl:=Option.some.inj h
  refine And.intro rfl (W2_ret (fun a s' he hg=> ?_))
  show LeavesInM _ _ _ _ _ _ a.defers _ _
  rw[he.nod]
  exact run_ends Tryz.results37 (Option.some.inj hr0).symm he.at_ aa aa hg.has hg.mod
 ·replace h:=iteF hc8 h
  refine W2_skip (fun a s' he hg=> ?_)
  refine(?_:W2 Tryz.prog ⟨59,none,[]⟩ (fun _=>False) s _ _ _ _) a s' he hg
  clear he hg a s'
  refine W2_defer (b1:=b3) (b2:=b4) (by decide) rfl rfl ?_
  refine W2_of_W (K:=fun e env C=>∃l m,Pick C [Own.box b3 (bx rApiNode) l,Own.box b4 ai m]/\(env 4).le (aj b3 0)/\(env 5).le (aj b4 0)/\((e= .ret/\r0= .ok (l,m))\/∃w,e= .panic (one (fo w))/\r0= .bad w)) ?_ ?_ (.inl (by simp))
  ·refine W_rs ?_
   refine rq (out:=ap ah x5) jn ?_
   refine rq (out:=(ae).val (ParseParser.mk x5 0)) (j8 st103 ⟨(ParseParser.mk x5 0),⟨_,rfl,rfl,fun j fd hj hf=>by match j,hj with| 0,h=>exact absurd rfl h| 1,_=>cases hf;rfl|_+2,_=>cases hf⟩,rfl⟩) ?_
   refine rBox (R:=ae) (a:=(ParseParser.mk x5 0)) rfl (fun b9=> ?_)
   refine rq (out:=aj b9 0) el ?_
   refine W_rs ?_
   refine rq (out:=Pr.clo f9 [] caps) jn ?_
   refine rq (out:=aj b9 0) jn ?_
   rcases a5 h with⟨m27,hm27,h⟩|⟨⟨x10,x11⟩,hx10,h⟩
   ·refine rCallKX [2] (hF (ParseParser.mk x5 0) b9 _ hm27) (fun q C' hq=> ?_) (fun v9 hv=> ?_)
    ·obtain⟨_,h9,_⟩:=hq;cases h9
    obtain⟨_,h9,rfl⟩:=hv
    cases h9
    obtain rfl:=Option.some.inj h
    exact⟨_,_,Pick.of [0,1] rfl,aa,aa,.inr ⟨_,rfl,rfl⟩⟩
   refine rCallKX [2] (hF (ParseParser.mk x5 0) b9 _ hx10) (fun q C' hq=> ?_) (fun v9 hv=>by obtain⟨_,h9,_⟩:=hv;cases h9)
   obtain⟨_,h9,rfl,rfl⟩:=hq
   cases h9
   refine rCtx [Own.box b9 ae x11,Own.box b3 (bx rApiNode) [],Own.box b4 ai (ApiMistake.mk 0 0 0)] ?_
   refine rStore (R:=bx rApiNode) (R':=bx rApiNode) (a:=[]) (y:=x10) 1 Tryz.sizeOf44 (Upd.refl _) ?_
   refine bj (fun e C=>∃(x16:ParseParser),js x10 x5 x16=some r0/\At [(4,aj b3 0),(5,aj b4 0),(6,ap ah x5)] [Own.box b9 ae x16,Own.box b3 (bx rApiNode) x10,Own.box b4 ai (ApiMistake.mk 0 0 0)] e C) ?_ ?_
   ·rintro e C ⟨x16,h,hat5⟩
    refine W_at hat5 ?_
    clear hat5
    unfold js at h
    refine az ?_
    refine W_rs ?_
    refine rq (out:=ap rApiNode x10) (bb (R:=bx rApiNode) (a:=x10) (R':=bx rApiNode) 1 ty44 (Sub.refl _)) ?_
    refine rq (out:=Pr.i64 (x10.length:Int)) (mt rfl Tryz.underlying44) ?_
    refine rq (out:=Pr.i64 0) jn ?_
    refine a4 ?_
    obtain⟨z2l,hz2,h⟩:=af h
    obtain⟨n2,hN2⟩:=bp hz2
    clear hz2
    refine d7 0 (fun e C=>parse_run_k1 x10=some r0/\At [(4,aj b3 0),(5,aj b4 0)] [Own.box b9 ae x16,Own.box b3 (bx rApiNode) x10,Own.box b4 ai (ApiMistake.mk 0 0 0)] e C) ?_ ?_
    ·rintro e C ⟨h,hat1⟩
     refine W_at hat1 ?_
     clear hat1
     unfold parse_run_k1 at h
     refine W_rs ?_
     refine rq (out:=ap rApiNode x10) (bb (R:=bx rApiNode) (a:=x10) (R':=bx rApiNode) 1 ty44 (Sub.refl _)) ?_
     refine rq (out:=(ai).val (ApiMistake.mk 0 0 0)) (j8 st28 rfl) ?_
     refine rStore (R:=bx rApiNode) (R':=bx rApiNode) (a:=x10) (y:=x10) 1 Tryz.sizeOf44 (Upd.refl _) ?_
     refine rStore (R:=ai) (R':=ai) (a:=(ApiMistake.mk 0 0 0)) (y:=(ApiMistake.mk 0 0 0)) 2 Tryz.sizeOf28 (Upd.refl _) ?_
     obtain rfl:=Option.some.inj h
     exact ax ⟨_,_,Pick.of [1,2] rfl,aa,aa,.inl ⟨rfl,rfl⟩⟩
    ·refine ew (fun m e C=>∃(x17:Int),ff (fun s=>dk x10 x5 s) m x17=some z2l/\At [(4,aj b3 0),(5,aj b4 0),(6,ap ah x5),(36,ap rApiNode x10),(37,Pr.i64 (x10.length:Int)),(38,Pr.i64 x17)] [Own.box b9 ae x16,Own.box b3 (bx rApiNode) x10,Own.box b4 ai (ApiMistake.mk 0 0 0)] e C) n2 ⟨0,hN2,⟨⟨aa,aa,aa,aa,aa,aa,trivial⟩,Pick.refl _⟩⟩ ?_
     clear hN2
     rintro m e C ⟨x17,hN2,hatl2⟩
     refine W_at hatl2 ?_
     clear hatl2
     obtain⟨m2,w2l,rfl,h2l,hn2,ho2⟩:=bk hN2
     clear hN2
     replace h2l:dk x10 x5 x17=some w2l:=h2l
     unfold dk at h2l
     refine W_rs ?_
     refine rq (out:=Pr.bool (decide (x17<(x10.length:Int)))) qInt ?_
     refine az ?_
     refine W_cond (b:=decide (x17<(x10.length:Int))) rfl (fun hc19=> ?_) (fun hc19=> ?_)
     ·replace h2l:=iteT hc19 h2l
      refine ar ?_
      refine az ?_
      refine a4 ?_
      refine W_rs ?_
      obtain⟨x20,hx20,h2l⟩:=af h2l
      refine rq (out:=f5 rApiNode x20) (fi (R:=rApiNode) (l:=x10) Tryz.underlying44 Tryz.sizeOf48 hx20) ?_
      refine rq (out:=(rApiNode).val x20) (cw (R:=rApiNode) (a:=x20) ty48) ?_
      refine rAlloc (R:=rApiNode) (z:=(ApiNode.mk 0 [] [] 0 0 0 0 0 [])) Tryz.zeroValue48 (fun _=>(by rw[au];exact⟨_,⟨_,_,rfl,rfl,⟨_,_,rfl,rfl,⟨_,_,rfl,rfl,⟨_,_,rfl,rfl,⟨_,_,rfl,rfl,⟨_,_,rfl,rfl,⟨_,_,rfl,rfl,⟨_,_,rfl,rfl,⟨_,_,rfl,⟨_,rfl,none,0,rfl,⟨Nat.le_refl _,fun _=>rfl⟩,.inl rfl⟩,rfl⟩⟩⟩⟩⟩⟩⟩⟩⟩,rfl⟩)) (fun b21=> ?_)
      refine rStore (R:=rApiNode) (R':=rApiNode) (a:=(ApiNode.mk 0 [] [] 0 0 0 0 0 [])) (y:=x20) 3 Tryz.sizeOf48 (Upd.refl _) ?_
      refine W_rs ?_
      refine rq (out:=(rApiNode).val x20) (bb (R:=rApiNode) (a:=x20) (R':=rApiNode) 3 ty48 (Sub.refl _)) ?_
      obtain⟨x22,hx22,h2l⟩:=af h2l
      refine rq (out:=Pr.i64 x22) (dl (node_Depth_ok x20 _ hx22)) ?_
      refine rq (out:=Pr.bool (decide (x22>200))) qInt ?_
      refine W_cond (b:=decide (x22>200)) rfl (fun hc23=> ?_) (fun hc23=> ?_)
      ·replace h2l:=iteT hc23 h2l
       refine bj (fun e C=>∃(x26:ApiNode),ra x26=some w2l/\At [(4,aj b3 0),(5,aj b4 0),(11,aj b21 0)] [Own.box b9 ae x16,Own.box b3 (bx rApiNode) x10,Own.box b4 ai (ApiMistake.mk 0 0 0),Own.box b21 rApiNode x26] e C) ?_ ?_
       ·rintro e C ⟨x26,h2l,hat4⟩
        refine W_at hat4 ?_
        clear hat4
        unfold ra at h2l
        refine bj (fun e C=>parse_run_j3 x26=some w2l/\At [(4,aj b3 0),(5,aj b4 0)] [Own.box b9 ae x16,Own.box b3 (bx rApiNode) [],Own.box b4 ai (ApiMistake.mk 2 0 x26.From),Own.box b21 rApiNode x26] e C) ?_ ?_
        ·rintro e C ⟨h2l,hat3⟩
         refine W_at hat3 ?_
         clear hat3
         unfold parse_run_j3 at h2l
         obtain rfl:=ho2 _ (Option.some.inj h2l).symm
         replace h:some (.ok ([],(ApiMistake.mk 2 0 x26.From)))=some r0:=h
         obtain rfl:=Option.some.inj h
         exact ax ⟨_,_,Pick.of [1,2] rfl,aa,aa,.inl ⟨rfl,rfl⟩⟩
        ·refine fb [(3,1,Own.box b3 (bx rApiNode) []),(4,2,Own.box b4 ai (ApiMistake.mk 2 0 x26.From))] [Own.box b9 ae x16,Own.box b3 (bx rApiNode) [],Own.box b4 ai (ApiMistake.mk 2 0 x26.From),Own.box b21 rApiNode x26] hmx (by kernel_rfl) (by kernel_rfl) (show([3,4]:List Nat).Nodup by decide) (show([1,2]:List Nat).Nodup by decide) rfl rfl ?_
         refine eq1 (out:=aj b21 4) (fun C2 hC=>(av fld48_4)) ?_
         refine eq1 (out:=Pr.i64 x26.From) (fun C2 hC=>(bb (R:=rApiNode) (a:=x26) (R':=Rp.int .i64) 3 ty3 subApiNode_From (hi:=(hC 3 (by kernel_rfl)).trans rfl))) ?_
         refine eq1 (out:=(ai).val (ApiMistake.mk 2 0 x26.From)) (fun C2 hC=>(j8 st28 ⟨(ApiMistake.mk 2 0 0),⟨_,rfl,rfl,fun j fd hj hf=>by match j,hj with| 0,h=>exact absurd rfl h| 1,_=>cases hf;rfl| 2,_=>cases hf;rfl|_+3,_=>cases hf⟩,⟨(ApiMistake.mk 2 0 x26.From),⟨_,rfl,rfl,fun j fd hj hf=>by match j,hj with| 0,_=>cases hf;rfl| 1,_=>cases hf;rfl| 2,h=>exact absurd rfl h|_+3,_=>cases hf⟩,rfl⟩⟩)) ?_
         refine eqS (fun C2 hC=>sStoreL (R:=bx rApiNode) (R':=bx rApiNode) (a:=x10) (y:=[]) 1 Tryz.sizeOf44 (Upd.refl _) ((hC 1 (by kernel_rfl)).trans rfl) (cv _)) ?_
         refine eqS (fun C2 hC=>dr (R:=ai) (R':=ai) (a:=(ApiMistake.mk 0 0 0)) (y:=(ApiMistake.mk 2 0 x26.From)) 2 Tryz.sizeOf28 (Upd.refl _) ((hC 2 (by kernel_rfl)).trans rfl)) ?_
         exact⟨h2l,⟨⟨aa,aa,trivial⟩,Pick.refl _⟩⟩
       ·refine W_rs ?_
        refine rq (out:=aj b21 0) (av fld48_0) ?_
        refine rq (out:=Pr.i64 x20.Kind) (bb (R:=rApiNode) (a:=x20) (R':=Rp.int .i64) 3 ty3 subApiNode_Kind) ?_
        refine rq (out:=Pr.bool (x20.Kind != 1)) qInt ?_
        refine W_cond (b:=x20.Kind != 1) rfl (fun hc24=> ?_) (fun hc24=> ?_)
        ·replace h2l:=iteT hc24 h2l
         refine W_r ?_
         refine rq (out:=ap ah x5) jn ?_
         obtain⟨x25,hx25,h2l⟩:=af h2l
         refine rq (out:=f5 ah x25) (fi (R:=ah) (l:=x5) Tryz.underlying70 Tryz.sizeOf74 hx25) ?_
         refine rq (out:=f5 (Rp.int .i64) x25.At) (de (R:=ah) (a:=x25) fld74_2 subApiToken_At) ?_
         refine rq (out:=Pr.i64 x25.At) (cw (R:=Rp.int .i64) (a:=x25.At) ty3) ?_
         refine rq (out:=aj b21 4) (av fld48_4) ?_
         refine rStore (R:=rApiNode) (R':=Rp.int .i64) (a:=x20) (y:=x25.At) 3 Tryz.sizeOf3 updApiNode_From ?_
         exact⟨{x20 with From:=x25.At},h2l,⟨⟨aa,aa,aa,trivial⟩,Pick.refl _⟩⟩
        ·replace h2l:=iteF hc24 h2l
         refine ar ?_
         exact⟨x20,h2l,⟨⟨aa,aa,aa,trivial⟩,Pick.refl _⟩⟩
      ·replace h2l:=iteF hc23 h2l
       refine ar ?_
       refine W_r ?_
       refine rq (out:=Pr.i64 (w64 (x17+1))) qInt ?_
       refine rq (out:=Pr.i64 (w64 (x17+1))) jn ?_
       exact⟨m2,Nat.lt_succ_self _,w64 (x17+1),hn2 _ (Option.some.inj h2l).symm,⟨⟨aa,aa,aa,aa,aa,aa,trivial⟩,Pick.of [0,1,2] rfl⟩⟩
     ·replace h2l:=iteF hc19 h2l
      refine ej ?_
      obtain rfl:=ho2 _ (Option.some.inj h2l).symm
      exact⟨h,⟨⟨aa,aa,trivial⟩,Pick.refl _⟩⟩
   ·refine W_rs ?_
    refine rq (out:=aj b9 0) jn ?_
    obtain⟨x12,hx12,h⟩:=af h
    refine rq (out:=(ah).val x12) (qCallBx 0 (dz x11 _ hx12) ⟨.inr ⟨aa,rfl⟩,trivial⟩ (fun _ _ _ h=>Flat.val kh _ _ _ _ h)) ?_
    refine rq (out:=Pr.i64 x12.Kind) (qField (R:=ah) (R':=Rp.int .i64) (a:=x12) rfl qc dn (Nat.le_of_ble_eq_true rfl)) ?_
    refine rq (out:=Pr.bool (x12.Kind != 5)) qInt ?_
    refine W_cond (b:=x12.Kind != 5) rfl (fun hc13=> ?_) (fun hc13=> ?_)
    ·replace h:=iteT hc13 h
     refine W_r ?_
     refine rq (out:=aj b9 0) jn ?_
     rcases a5 h with⟨m15,hm15,h⟩|⟨x14,hx14,h⟩
     ·refine bn [0] (cr 120 x11 b9 _ hm15) ⟨aa,aa,trivial⟩ (fun q C' hq=> ?_) (fun v9 hv=> ?_)
      ·obtain⟨_,h9,_⟩:=hq;cases h9
      obtain⟨_,h9,rfl⟩:=hv
      cases h9
      obtain rfl:=Option.some.inj h
      exact⟨_,_,Pick.of [0,1] rfl,aa,aa,.inr ⟨_,rfl,rfl⟩⟩
     refine bn [0] (cr 120 x11 b9 _ hx14) ⟨aa,aa,trivial⟩ (fun q C' hq=> ?_) (fun v9 hv=>by obtain⟨_,h9,_⟩:=hv;cases h9)
     obtain⟨_,h9,rfl,rfl⟩:=hq
     cases h9
     refine rCtx [Own.box b9 ae x14,Own.box b3 (bx rApiNode) x10,Own.box b4 ai (ApiMistake.mk 0 0 0)] ?_
     exact⟨x14,h,⟨⟨aa,aa,aa,trivial⟩,Pick.refl _⟩⟩
    ·replace h:=iteF hc13 h
     refine ar ?_
     exact⟨x11,h,⟨⟨aa,aa,aa,trivial⟩,Pick.refl _⟩⟩
  ·rintro e a s' env' C' he hg ⟨l,m,hp,h4,h5,hK⟩
   have hg:=hg.pick hp
   rcases hK with⟨rfl,rfl⟩|⟨w,rfl,rfl⟩
   ·show LeavesInM _ _ _ _ _ _ a.defers _ _
    rw[he.nod]
    refine⟨by simp,.inr ⟨by simp[Fence.wide],_,_,59, #[.pointer (some ⟨b3,0,none⟩),.pointer (some ⟨b4,0,none⟩)],rfl,by simp[invoke,mw en59],fun _ _=>trivial,(run1_calm b3 b4 s' hg.wf).mono ?_⟩⟩
    rintro e' u' w' ⟨⟨v,rfl⟩,rfl,F',hm⟩
    have hg2:=hg.calm (t:=⟨w',F'⟩) hm
    exact run_ends Tryz.results37 (Option.some.inj hr0).symm he.at_ h4 h5 hg2.has hg2.mod
   ·show LeavesInM _ _ _ _ _ _ a.defers _ _
    rw[he.nod]
    refine⟨by simp,.inr ⟨by simp[Fence.wide],_,_,59, #[.pointer (some ⟨b3,0,none⟩),.pointer (some ⟨b4,0,none⟩)],rfl,by simp[invoke,mw en59],fun _ _=>trivial,(run1_back b3 b4 l m w s' hg.wf hg.has).mono ?_⟩⟩
    rintro e' u' w' ⟨⟨v,rfl⟩,rfl,F',hm,hh⟩
    obtain⟨h7,_⟩:=Cn.Good.call (C':=[Own.box b3 (bx rApiNode) [],Own.box b4 ai w.m]) (C0:=[Own.box b3 (bx rApiNode) l,Own.box b4 ai m]) (Cr:=[]) (by simpa using hg) hm hh (fun b hb=> .inl hb)
    have h7:Cn.Good (fun _=>False) s ⟨w',F'⟩ [Own.box b3 (bx rApiNode) [],Own.box b4 ai w.m]:=by simpa using h7
    exact run_ends Tryz.results37 (Option.some.inj hr0).symm he.at_ h4 h5 h7.has h7.mod
end Go.Proofs.YteablckbgpogiaaGreatDoor
