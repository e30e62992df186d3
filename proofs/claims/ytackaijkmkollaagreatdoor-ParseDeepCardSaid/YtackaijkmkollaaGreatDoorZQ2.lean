/- ParseDeep: few enough texts to look at each. -/
import Derived.Test.YtackaijkmkollaaGreatDoorZQ1
set_option linter.unusedSimpArgs false
set_option linter.unusedVariables false
set_option linter.unusedSectionVars false
set_option linter.unusedSectionVars false
set_option maxRecDepth 100000
namespace Go.Proofs.YtackaijkmkollaaGreatDoor
open Go Go.Cn
noncomputable def deep_k3 (x1:Int) (x5:List UInt8) (x6:List UInt8) (x7:List UInt8) (x8:List UInt8):Option (Bool):=(cat x5 ([120]:List UInt8)).bind fun x22=>(cat x22 x6).bind fun x23=>(oneF (some 32) x23).bind fun(x24,x25)=>(cat ([123]:List UInt8) x7).bind fun x28=>(cat x28 x8).bind fun x29=>(cat x29 ([125]:List UInt8)).bind fun x30=>(oneF (some 34) x30).bind fun(x31,x32)=>(if(decide (x1>59))=true then dw x25 x32 2 else dw x25 x32 0)
noncomputable def deep_l4 (x1:Int) (x2:Int) (x5:List UInt8) (x6:List UInt8) (x7:List UInt8) (x8:List UInt8) (x9:Int):Option (((List UInt8) × (List UInt8) × (List UInt8) × (List UInt8) × Int) ⊕ ((List UInt8) × (List UInt8) × (List UInt8) × (List UInt8))):=(if(decide (x9<x1))=true then(idx ([([40]:List UInt8),([33]:List UInt8),([45]:List UInt8),([102,40]:List UInt8)]:List (List UInt8)) x2).bind fun x16=>(cat x5 x16).bind fun x17=>(idx ([([41]:List UInt8),[],[],([41]:List UInt8)]:List (List UInt8)) x2).bind fun x18=>(cat x6 x18).bind fun x19=>(cat x7 ([123]:List UInt8)).bind fun x20=>(cat x8 ([125]:List UInt8)).bind fun x21=>some (.inl (x17,x19,x20,x21,w64 (x9+1)))else some (.inr (x5,x6,x7,x8)))
noncomputable def deepB (x1 x2:Int):Option Bool:=(iter (fun s=>deep_l4 x1 x2 s.1 s.2.1 s.2.2.1 s.2.2.2.1 s.2.2.2.2) ([],[],[],[],0)).bind fun p=>deep_k3 x1 p.1 p.2.1 p.2.2.1 p.2.2.2
theorem deep_eq (x1 x2:Int):gi x1 x2=deepB (bits .and .i64 x1 127) (bits .and .i64 x2 3):=by
 unfold gi
 rw[awake12,Option.bind_some,if_neg (by decide)]
 unfold deepB
 congr 1
 funext p
 unfold ga deep_k3
 simp only[parse_Expression_eq,parse_Statement_eq]
theorem and_k (x:Int) (m:Nat) (hm:m<1000) (hb:(BitVec.ofInt 64 (m:Int)).toNat=m):∃k:Nat,k<=m/\bits .and .i64 x m=(k:Int):=by
 refine⟨(BitVec.ofInt 64 x&&& BitVec.ofInt 64 (m:Int)).toNat,?_,?_⟩
 ·rw[BitVec.toNat_and,hb]
  exact Nat.and_le_right
 ·show w64 ((BitVec.ofInt 64 x&&& BitVec.ofInt 64 (m:Int)).toNat:Int)=_
  have h:(BitVec.ofInt 64 x&&& BitVec.ofInt 64 (m:Int)).toNat<=m:=by rw[BitVec.toNat_and,hb];exact Nat.and_le_right
  exact w64_id (by omega) (by omega)
noncomputable def cw (a n:Nat):Bool:=(List.range' a n).all fun k=>(List.range 4).all fun h=>deepB k h==some true
theorem au {a n k h:Nat} (hC:cw a n=true) (h1:a<=k) (h2:k<a+n) (hh:h<4):deepB k h=some true:=by
 unfold cw at hC
 rw[List.all_eq_true]at hC
 have h3:=hC k (List.mem_range'_1.2 ⟨h1,h2⟩)
 rw[List.all_eq_true]at h3
 have h4:=h3 h (List.mem_range.2 hh)
 simpa using h4
end Go.Proofs.YtackaijkmkollaaGreatDoor
