/- The program's parser, over the tokens as plain Lean tells them. -/
import Derived.Test.YtackaijkmkollaaGreatDoorZL
set_option linter.unusedSimpArgs false
set_option linter.unusedVariables false
set_option linter.unusedSectionVars false
set_option linter.unusedSectionVars false
set_option maxRecDepth 100000
namespace Go.Proofs.YtackaijkmkollaaGreatDoor
open Go Go.Cn
noncomputable def runI (F:(ParseParser->Option (PX ParseWrong ((List ApiNode) × ParseParser)))) (x:List ApiToken × Int × Int):Option (PX ParseWrong ((List ApiNode) × ApiMistake)):=
 if(x.2.2 != 0)=true then some (.ok ([],(ApiMistake.mk x.2.2 0 x.2.1)))
 else bm (F (ParseParser.mk x.1 0)) (fun m27=>some (.bad m27)) fun(x10,x11)=>(bb x11).bind fun x12=>(if(x12.Kind != 5)=true then(bm (bn 120 x11) (fun m15=>some (.bad m15)) fun x14=>gi x10 x.1 x14)else gi x10 x.1 x11)
noncomputable def runF (F:(ParseParser->Option (PX ParseWrong ((List ApiNode) × ParseParser)))) (s:List UInt8):Option (List ApiNode × ApiMistake):=
 (if s.length<=1048576 then runI F (lexI s)else parse_runQ F s).bind fun x=>match x with| .ok a=>some a| .bad m=>some ([],m.m)
theorem parse_run_eq (F:(ParseParser->Option (PX ParseWrong ((List ApiNode) × ParseParser)))) (s:List UInt8):parse_run F s=runF F s:=by
 unfold parse_run runF
 congr 1
 by_cases h:s.length<=1048576
 ·rw[if_pos h]
  unfold parse_runQ runI
  rw[lex_Lex_eq s h,Option.bind_some]
 ·rw[if_neg h]
noncomputable def oneF (x2:Option Nat) (s:List UInt8):Option (ApiNode × ApiMistake):=(runF (fun p=>parse_one_1 x2 p) s).bind fun(x6,x7)=>(if(x7.Code != 0)=true then some ((ApiNode.mk 0 [] [] 0 0 0 0 0 []),x7)else(idx x6 0).bind fun x10=>some (x10,x7))
theorem parse_one_eq (x2:Option Nat) (s:List UInt8):parse_one s x2=oneF x2 s:=by
 unfold parse_one oneF
 rw[parse_run_eq]
 rfl
theorem bind_pair {α β:Type} (x:Option (α × β)):(x.bind fun(a,b)=>some (a,b))=x:=by
 cases x<;>rfl
theorem parse_File_eq (s:List UInt8):eq s=runF (fun p=>ip p) s:=by
 unfold eq
 rw[parse_run_eq]
 exact bind_pair _
theorem parse_Member_eq (s:List UInt8):j6 s=oneF (some 31) s:=by
 unfold j6
 rw[parse_one_eq]
 exact bind_pair _
theorem awake12 :law12_awake=some true:=by decide+kernel
end Go.Proofs.YtackaijkmkollaaGreatDoor
