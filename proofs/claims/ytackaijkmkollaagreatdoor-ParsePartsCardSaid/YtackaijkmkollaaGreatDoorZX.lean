/- Contracts of the library, and what is proved by hand (printed by wip/gen/gen.py). -/
import Derived.Test.YtackaijkmkollaaGreatDoorZH
import Derived.Test.YtackaijkmkollaaGreatDoorZJ
import Derived.Test.YtackaijkmkollaaGreatDoorLay
import Derived.Lib.ConvBytes
import Derived.Lib.AtoiErrMem
set_option linter.unusedSimpArgs false
set_option linter.unusedVariables false
set_option linter.unusedSectionVars false
set_option linter.unusedSectionVars false
set_option maxRecDepth 100000
set_option maxHeartbeats 4000000
namespace Go.Proofs.YtackaijkmkollaaGreatDoor
open Go Go.Cn
variable [Known]
theorem gKept :∀s,Glob.ok s->RowAt bh s ⟨0,0,none⟩ kept:=fun _ h=>GCells.row (R:=bh) h.1 (rowC_flat (R:=bh) (fun l=>[.string ⟨l.toArray⟩]) (fun _ _=>rfl))
theorem allP2 {s:St} {p q:Pr} {vs:List Value} (h:AllP s [p,q] vs):∃v u,vs=[v,u]/\p.p s v/\q.p s u:=by
 match vs,h with
 | [v,u],h=>exact⟨v,u,rfl,h.1,h.2.1⟩
theorem allP3 {s:St} {p q r:Pr} {vs:List Value} (h:AllP s [p,q,r] vs):∃v u t,vs=[v,u,t]/\p.p s v/\q.p s u/\r.p s t:=by
 match vs,h with
 | [v,u,t],h=>exact⟨v,u,t,rfl,h.1,h.2.1,h.2.2.1⟩
theorem strings_IndexByte_ok (x:List UInt8) (c r:Int) (h:strings_IndexByte x c=some r):FnP Tryz.prog 90 [ar x,Pr.u8 c] (Pr.i64 r):=by
 refine fn_same en90 (fun s vs hs ha=> ?_)
 obtain⟨v,u,rfl,h1,h2⟩:=allP2 ha
 obtain rfl:v= .string (bs x):=h1
 obtain rfl:u= .int .u8 c:=h2
 refine(Tryz.strings_IndexByte (bs x) c s.w).mono ?_
 rintro e w' ⟨rfl,rfl⟩
 obtain rfl:=Option.some.inj h
 exact⟨_,rfl,rfl,rfl⟩
theorem strings_Index_ok (x y:List UInt8) (r:Int) (h:strings_Index x y=some r):FnP Tryz.prog 73 [ar x,ar y] (Pr.i64 r):=by
 refine fn_same en73 (fun s vs hs ha=> ?_)
 obtain⟨v,u,rfl,h1,h2⟩:=allP2 ha
 obtain rfl:v= .string (bs x):=h1
 obtain rfl:u= .string (bs y):=h2
 unfold strings_Index at h
 split at h
 ·rename_i hlt
  obtain⟨m,hm⟩:=hs.glob.2.2.1
  have hc:=hm.lies.cell (j:=0) rfl
  have ha:(⟨1,0,none⟩:Addr).add 0=⟨1,0,none⟩:=by simp[Addr.add]
  rw[ha]at hc
  refine(Tryz.strings_Index (bs x) (bs y) m s.w (by simpa [bs,ByteArray.size] using hlt) hc).mono ?_
  rintro e w' ⟨rfl,rfl⟩
  obtain rfl:=Option.some.inj h
  exact⟨_,rfl,rfl,rfl⟩
 cases h
theorem strconv_ParseInt_ok (x:List UInt8) (b k:Int) (r:Int × Bool) (h:ek x b k=some r):FnP Tryz.prog 75 [ar x,Pr.i64 b,Pr.i64 k] (cj [Pr.i64 r.1,Pr.err r.2]):=by
 refine fn_below en75 (fun s vs hs ha=> ?_)
 obtain⟨v,u,t,rfl,h1,h2,h3⟩:=allP3 ha
 obtain rfl:v= .string (bs x):=h1
 obtain rfl:u= .int .i64 b:=h2
 obtain rfl:t= .int .i64 k:=h3
 unfold ek at h
 split at h
 ·rename_i hc
  obtain⟨rfl,rfl,hlen⟩:=hc
  have hsz:(bs x).size=x.length:=by simp[bs,ByteArray.size]
  have hdl:(bs x).data.toList=x:=by simp[bs]
  cases hp:Lib.parseIntB 64 x with
  |ok v=>
   rw[hp]at h
   obtain rfl:=Option.some.inj h
   refine(Tryz.strconv_ParseInt_ok (bs x) (by rw[hsz];omega) v (by rw[hdl];exact hp) s.w).mono ?_
   rintro e w' ⟨rfl,hw⟩
   refine⟨_,rfl,?_,fun F'=>⟨[_,_],rfl,rfl,rfl,trivial⟩⟩
   rcases hw with rfl|⟨t,rfl⟩
   ·exact Go.RowKit.Below.refl _ _
   exact Lib.bytesWorld_below _ _ _
  |range=>
   rw[hp]at h
   obtain rfl:=Option.some.inj h
   obtain⟨te,pe,hg⟩:=hs.glob.2.2.2
   have hc:=hg.lies.cell (j:=0) rfl
   have ha:(⟨3,0,none⟩:Addr).add 0=⟨3,0,none⟩:=by simp[Addr.add]
   rw[ha]at hc
   refine(Tryz.strconv_ParseInt_range (bs x) (by rw[hsz];exact hlen) (by rw[hdl];exact hp) (.iface te pe) s.w hc (.inr ⟨te,pe,rfl⟩)).mono ?_
   rintro e w' ⟨N,rfl,_,_,hb⟩
   rw[hdl]
   exact⟨_,rfl,hb,fun F'=>⟨[_,_],rfl,rfl,⟨_,_,rfl⟩,trivial⟩⟩
  |_=>rw[hp]at h;cases h
 cases h
def cv (m:ParseWrong):Value:= .iface 62 (.agg #[.int .i64 m.m.Code,.int .i64 m.m.File,.int .i64 m.m.At])
theorem wrong_plain (m:ParseWrong):∀s v,(Pr.ifc 62 ((dw).val m)).p s v->(∃t u,v= .iface t u)/\v=cv m:=by
 rintro s v ⟨u,rfl,hu⟩
 refine⟨⟨_,_,rfl⟩,?_⟩
 obtain⟨cs,hc,rfl⟩:=(dw).spec.1 hu
 obtain⟨c1,r1,rfl,h1,hr⟩:=hc
 obtain⟨d1,e1,rfl,g1,d2,e2,rfl,g2,d3,e3,rfl,g3,hn⟩:=h1
 have g1:d1=[.int .i64 m.m.Code]:=g1
 have g2:d2=[.int .i64 m.m.File]:=g2
 have g3:d3=[.int .i64 m.m.At]:=g3
 have hn:e3=[]:=hn
 have hr:r1=[]:=hr
 subst g1 g2 g3 hn hr
 rfl
section
variable {env:Env} {C:Ctx} {ty:TypeId} {pos:String} {after:Array Edge} {gd:Option (Nat × Bool)} {d:Option Nat}
theorem qMade (i:Nat) {x1:ParseParser} {b:Nat} {x2 x3:Int} {l:List ApiNode} {r:ApiNode} {p a c z:Operand} {tys:Array TypeId} (h:parse_parser_made x1 x2 x3 l=some r) (hz:(env.op z).le (av rApiNode l))
  (hi:C[i]? =some (Own.box b ae x1):=by exact rfl) (hp:env.op p=al b 0:=by exact rfl) (ha:env.op a=Pr.i64 x2:=by exact rfl) (hc:env.op c=Pr.i64 x3:=by exact rfl):
  Q Tryz.prog C ⟨d,.call ⟨.value (.func 44), #[p,a,c,z],tys⟩,ty,pos,after,gd⟩ env (rApiNode.val r):=by
 obtain⟨x6,h6,h⟩:=ak h
 obtain⟨x8,h8,h⟩:=ak h
 obtain rfl:=Option.some.inj h
 refine qCallH i (R:=ae) (x:=x1) (R':=rApiNode) (l:=l) (res:=fun hd=>(HN.rApiNode).val (HN.ApiNode.mk x2 [] [] 0 x8.At (w64 (x6.At+(x6.Text.length:Int))) (-1) (-1) hd)) (fun hd=>HN.parse_parser_made_ok x1 x2 x3 hd _ ?_) hz (fun s t hd u h1 h2=> ?_) hi hp ha hc
 ·unfold HN.parse_parser_made HN.parse_parser_made_j2 HN.parse_parser_made_j1
  rw[h6,Option.bind_some,h8,Option.bind_some]
 ·obtain⟨cs,hcs,hu⟩:=(HN.rApiNode).spec.1 h1
  refine rApiNode.spec.2 ⟨cs,?_,hu⟩
  rw[ap]
  have hcs:catC s (HN.ApiNode.mk x2 [] [] 0 x8.At (w64 (x6.At+(x6.Text.length:Int))) (-1) (-1) hd) HN.fApiNode cs:=hcs
  show catC t _ fApiNode cs
  obtain⟨c1,r1,e1,g1,c2,r2,e2,g2,c3,r3,e3,g3,c4,r4,e4,g4,c5,r5,e5,g5,c6,r6,e6,g6,c7,r7,e7,g7,c8,r8,e8,g8,c9,r9,e9,g9,g⟩:=hcs
  refine⟨c1,r1,e1,g1,c2,r2,e2,g2,c3,r3,e3,g3,c4,r4,e4,g4,c5,r5,e5,g5,c6,r6,e6,g6,c7,r7,e7,g7,c8,r8,e8,g8,c9,r9,e9,?_,g⟩
  exact⟨_,g9,h2⟩
end
end Go.Proofs.YtackaijkmkollaaGreatDoor
