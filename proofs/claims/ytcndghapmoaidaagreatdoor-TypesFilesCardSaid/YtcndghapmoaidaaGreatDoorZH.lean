/- What the program's tables say (printed by wip/gen/gen.py). -/
import Derived.Test.YtcndghapmoaidaaGreatDoorProg
import Derived.Test.YtcndghapmoaidaaGreatDoorZJ
import Derived.Test.YtcndghapmoaidaaGreatDoorZT
set_option linter.unusedSimpArgs false
set_option linter.unusedVariables false
set_option linter.unusedSectionVars false
set_option linter.unusedSectionVars false
set_option maxRecDepth 100000
set_option maxHeartbeats 4000000
namespace Go.Proofs.YtcndghapmoaidaaGreatDoor
open Go Go.Cn
instance theGlob :Glob where
 ok s:=s.F 0/\∃T fz,s.w.heap[0]? =some (.cells (Lib.pow10Tab.map fun z=>Value.int .u64 z).toArray T fz)
 mono _ _ h k:=⟨h.fin _ k.1,by rw[h.blk _ k.1];exact k.2⟩
abbrev Fp :=FnP Tryz.prog
abbrev Fc :=FnC Tryz.prog
theorem hmx :Tryz.prog.follows .mixedOrders=true:=by kernel_rfl
def rz :List (Go.Cn.Fd B0):=[⟨_,Rp.int .i64,B0.Kind⟩,⟨_,Rp.str,B0.Id⟩,⟨_,Rp.str,B0.Name⟩,⟨_,Rp.str,B0.Owner⟩,⟨_,Rp.str,B0.Type_⟩,⟨_,Rp.bool,B0.Static⟩,⟨_,Rp.list Rp.str,B0.Params⟩,⟨_,Rp.int .i64,B0.File⟩,⟨_,Rp.int .i64,B0.At⟩]
abbrev ag :Rp B0:=Rp.strct rz
def aou :List (Go.Cn.Fd B3):=[⟨_,Rp.int .i64,B3.kind⟩,⟨_,Rp.str,B3.owner⟩,⟨_,Rp.str,B3.name⟩]
abbrev en :Rp B3:=Rp.strct aou
def ahq :List (Go.Cn.Fd B4):=[⟨_,Rp.int .i64,B4.Code⟩,⟨_,Rp.int .i64,B4.File⟩,⟨_,Rp.int .i64,B4.At⟩]
abbrev az :Rp B4:=Rp.strct ahq
def a1y :List (FG B6):=[FG.const (Rp.int .i64) B6.Kind,FG.const (Rp.str) B6.Text,FG.const (Rp.str) B6.Type_,FG.const (Rp.int .i64) B6.N,FG.const (Rp.int .i64) B6.From,FG.const (Rp.int .i64) B6.To,FG.const (Rp.int .i64) B6.At,FG.const (Rp.int .i64) B6.TypeAt,FG.list B6.Kids]
def af :Rp B6:=ah3 a1y 9 rfl
def pn :List (Go.Cn.Fd B6):=[⟨_,Rp.int .i64,B6.Kind⟩,⟨_,Rp.str,B6.Text⟩,⟨_,Rp.str,B6.Type_⟩,⟨_,Rp.int .i64,B6.N⟩,⟨_,Rp.int .i64,B6.From⟩,⟨_,Rp.int .i64,B6.To⟩,⟨_,Rp.int .i64,B6.At⟩,⟨_,Rp.int .i64,B6.TypeAt⟩,⟨_,Rp.list af,B6.Kids⟩]
theorem ba :af=Rp.strct pn:=a0s _
def y3 :List (Go.Cn.Fd B7):=[⟨_,Rp.list ag,B7.Table⟩,⟨_,Rp.str,B7.Class⟩,⟨_,Rp.bool,B7.Static⟩,⟨_,Rp.list ag,B7.Seen⟩]
abbrev al :Rp B7:=Rp.strct y3
def asd :List (Go.Cn.Fd B8):=[⟨_,Rp.int .i64,B8.File⟩,⟨_,Rp.int .i64,B8.At⟩,⟨_,Rp.str,B8.Id⟩]
abbrev ao :Rp B8:=Rp.strct asd
def amh :List (Go.Cn.Fd C5):=[⟨_,az,C5.m⟩]
abbrev mq :Rp C5:=Rp.strct amh
def aip :List (Go.Cn.Fd C6):=[⟨_,Rp.int .i64,C6.Kind⟩,⟨_,Rp.str,C6.Text⟩,⟨_,Rp.int .i64,C6.At⟩,⟨_,Rp.str,C6.Lead⟩]
abbrev cg :Rp C6:=Rp.strct aip
def ahp :List (Go.Cn.Fd C7):=[⟨_,Rp.int .i64,C7.Place⟩,⟨_,Rp.int .i64,C7.Code⟩]
abbrev aj :Rp C7:=Rp.strct ahp
def wl :List (Go.Cn.Fd C8):=[⟨_,al,C8.Scope⟩,⟨_,Rp.str,C8.kind⟩,⟨_,Rp.int .i64,C8.file⟩]
abbrev aw :Rp C8:=Rp.strct wl
def aki :List (Go.Cn.Fd D0):=[⟨_,az,D0.m⟩]
abbrev l6 :Rp D0:=Rp.strct aki
def re :List (Go.Cn.Fd D3):=[⟨_,va,D3.l⟩,⟨_,va,D3.known⟩,⟨_,az,D3.m⟩]
abbrev a8 :Rp D3:=Rp.strct re
def na :List (Go.Cn.Fd D4):=[⟨_,Rp.int .i64,D4.Kind⟩,⟨_,Rp.str,D4.Id⟩,⟨_,Rp.str,D4.Name⟩,⟨_,Rp.str,D4.Owner⟩,⟨_,Rp.str,D4.Type_⟩,⟨_,Rp.bool,D4.Static⟩,⟨_,va,D4.Params⟩,⟨_,Rp.int .i64,D4.File⟩,⟨_,Rp.int .i64,D4.At⟩]
abbrev bu :Rp D4:=Rp.strct na
def lz :List (Go.Cn.Fd D5):=[⟨_,va,D5.uses⟩,⟨_,Rp.int .i64,D5.file⟩,⟨_,Rp.str,D5.method⟩,⟨_,Rp.int .i64,D5.many⟩]
abbrev aq :Rp D5:=Rp.strct lz
def qz (f:(B0->Option Bool)):List Pr->Pr->Prop:=fun args res=>∃(a0:B0) (r:Bool),args=[(ag).val a0]/\res=Pb r/\f a0=some r
def afx (f:((List B0)->Bt->Bt->Option (B0 × Bool))):List Pr->Pr->Prop:=fun args res=>∃(a0:List B0) (a1:Bt) (a2:Bt) (r:B0 × Bool),args=[ap ag a0,Pr.str a1,Pr.str a2]/\res=br [(ag).val r.1,Pb r.2]/\f a0 a1 a2=some r
def ir (f:(B8->B8->Option Int)):List Pr->Pr->Prop:=fun args res=>∃(a0:B8) (a1:B8) (r:Int),args=[(ao).val a0,(ao).val a1]/\res=P6 r/\f a0 a1=some r
theorem st30 :StOK Tryz.prog 30 ahq (B4.mk 0 0 0):=stOK Tryz.underlying30 Tryz.zeroValue30 (fun _=>⟨_,_,rfl,rfl,⟨_,_,rfl,rfl,⟨_,_,rfl,rfl,rfl⟩⟩⟩) ⟨rfl,Tryz.sizeOf28,rfl,Tryz.sizeOf3,rfl,Tryz.sizeOf3,trivial⟩
theorem ty30 :A6 Tryz.prog 30 3 true:=⟨Tryz.sizeOf30,Tryz.isAgg30⟩
theorem aw2 :A7 Tryz.prog 118 2 2 3 true:=⟨⟨_,_,Tryz.underlying118,rfl,rfl,ty30⟩,by decide⟩
theorem alf :Upd a8 2 az (fun x y=>{x with m:=y}):=Upd.strct re 2 (fd:=⟨_,az,D3.m⟩) rfl (fun _ _=>rfl) qbu
theorem ty3 :A6 Tryz.prog 3 1 false:=⟨Tryz.sizeOf3,Tryz.isAgg3⟩
theorem vc :A7 Tryz.prog 49 0 0 1 false:=⟨⟨_,_,Tryz.underlying49,rfl,rfl,ty3⟩,by decide⟩
theorem fg :Sub ag 0 (Rp.int .i64) B0.Kind:=Sub.strct rz 0 _ rfl
theorem ty9 :A6 Tryz.prog 9 1 false:=⟨Tryz.sizeOf9,Tryz.isAgg9⟩
theorem ama :A7 Tryz.prog 49 3 3 1 false:=⟨⟨_,_,Tryz.underlying49,rfl,rfl,ty9⟩,by decide⟩
theorem qd :Sub ag 3 Rp.str B0.Owner:=Sub.strct rz 3 _ rfl
theorem ahi :A7 Tryz.prog 49 2 2 1 false:=⟨⟨_,_,Tryz.underlying49,rfl,rfl,ty9⟩,by decide⟩
theorem lm :Sub ag 2 Rp.str B0.Name:=Sub.strct rz 2 _ rfl
theorem st187 :StOK Tryz.prog 187 aou (B3.mk 0 [] []):=stOK Tryz.underlying187 Tryz.zeroValue187 (fun _=>⟨_,_,rfl,rfl,⟨_,_,rfl,rfl,⟨_,_,rfl,rfl,rfl⟩⟩⟩) ⟨rfl,Tryz.sizeOf3,rfl,Tryz.sizeOf9,rfl,Tryz.sizeOf9,trivial⟩
theorem ty116 :A6 Tryz.prog 116 1 false:=⟨Tryz.sizeOf116,Tryz.isAgg116⟩
theorem aw3 :A7 Tryz.prog 118 1 1 1 false:=⟨⟨_,_,Tryz.underlying118,rfl,rfl,ty116⟩,by decide⟩
theorem aao :Sub a8 1 va D3.known:=Sub.strct re 1 _ rfl
theorem ty187 :A6 Tryz.prog 187 3 true:=⟨Tryz.sizeOf187,Tryz.isAgg187⟩
theorem axz :EqOK Tryz.prog 187 en 2:=axy Tryz.underlying187 (by kernel_rfl) ⟨by decide,rfl,(asz Tryz.underlying3),ty3,by decide,rfl,(anw Tryz.underlying9),ty9,by decide,rfl,(anw Tryz.underlying9),ty9,trivial⟩ (fun x y h=>by cases x;cases y;simpa [aou] using h)
theorem ao5 :KeyOK Tryz.prog 187 en 2:=keyOK Tryz.underlying187 axz dcd ⟨by decide,rfl,(asz Tryz.underlying3),ty3,by decide,rfl,(anw Tryz.underlying9),ty9,by decide,rfl,(anw Tryz.underlying9),ty9,trivial⟩ ⟨plk_int,⟨_,Tryz.underlying3,rfl⟩,ay8,⟨_,Tryz.underlying9,rfl⟩,ay8,⟨_,Tryz.underlying9,rfl⟩,trivial⟩
theorem aoc :A7 Tryz.prog 49 7 7 1 false:=⟨⟨_,_,Tryz.underlying49,rfl,rfl,ty3⟩,by decide⟩
theorem aa5 :Sub ag 7 (Rp.int .i64) B0.File:=Sub.strct rz 7 _ rfl
theorem avq :A7 Tryz.prog 49 8 8 1 false:=⟨⟨_,_,Tryz.underlying49,rfl,rfl,ty3⟩,by decide⟩
theorem aes :Sub ag 8 (Rp.int .i64) B0.At:=Sub.strct rz 8 _ rfl
theorem ty38 :A6 Tryz.prog 38 1 false:=⟨Tryz.sizeOf38,Tryz.isAgg38⟩
theorem aky :A7 Tryz.prog 118 0 0 1 false:=⟨⟨_,_,Tryz.underlying118,rfl,rfl,ty38⟩,by decide⟩
theorem aae :Sub a8 0 va D3.l:=Sub.strct re 0 _ rfl
theorem ty49 :A6 Tryz.prog 49 9 true:=⟨Tryz.sizeOf49,Tryz.isAgg49⟩
theorem el38 :A8 Tryz.prog 38 49 9 120:=⟨Tryz.underlying38,⟨Tryz.t49,_,rfl,rfl,rfl,rfl,rfl⟩,by decide⟩
theorem afm :Upd a8 0 va (fun x y=>{x with l:=y}):=Upd.strct re 0 (fd:=⟨_,va,D3.l⟩) rfl (fun _ _=>rfl) qbu
theorem en177 :aal Tryz.prog 177:=⟨_,Tryz.func177,by decide,rfl⟩
theorem s5 :A7 Tryz.prog 49 1 1 1 false:=⟨⟨_,_,Tryz.underlying49,rfl,rfl,ty9⟩,by decide⟩
theorem ur :Sub bu 1 Rp.str D4.Id:=Sub.strct na 1 _ rfl
theorem ie :A7 Tryz.prog 64 1 1 1 false:=⟨⟨_,_,Tryz.underlying64,rfl,rfl,ty9⟩,by decide⟩
theorem cd :Sub af 1 Rp.str B6.Text:=Sub.ofEq ba (Sub.strct pn 1 _ rfl)
theorem ws :A7 Tryz.prog 64 2 2 1 false:=⟨⟨_,_,Tryz.underlying64,rfl,rfl,ty9⟩,by decide⟩
theorem gm :Sub af 2 Rp.str B6.Type_:=Sub.ofEq ba (Sub.strct pn 2 _ rfl)
theorem adq :Sub bu 7 (Rp.int .i64) D4.File:=Sub.strct na 7 _ rfl
theorem ru :A7 Tryz.prog 64 6 6 1 false:=⟨⟨_,_,Tryz.underlying64,rfl,rfl,ty3⟩,by decide⟩
theorem ip :Sub af 6 (Rp.int .i64) B6.At:=Sub.ofEq ba (Sub.strct pn 6 _ rfl)
theorem st49 :StOK Tryz.prog 49 rz (B0.mk 0 [] [] [] [] false [] 0 0):=stOK Tryz.underlying49 Tryz.zeroValue49 (fun _=>⟨_,_,rfl,rfl,⟨_,_,rfl,rfl,⟨_,_,rfl,rfl,⟨_,_,rfl,rfl,⟨_,_,rfl,rfl,⟨_,_,rfl,rfl,⟨_,_,rfl,⟨_,rfl,none,0,rfl,⟨Nat.le_refl _,fun _=>rfl⟩,.inl rfl⟩,⟨_,_,rfl,rfl,⟨_,_,rfl,rfl,rfl⟩⟩⟩⟩⟩⟩⟩⟩⟩) ⟨rfl,Tryz.sizeOf3,rfl,Tryz.sizeOf9,rfl,Tryz.sizeOf9,rfl,Tryz.sizeOf9,rfl,Tryz.sizeOf9,rfl,Tryz.sizeOf4,rfl,Tryz.sizeOf22,rfl,Tryz.sizeOf3,rfl,Tryz.sizeOf3,trivial⟩
theorem ty64 :A6 Tryz.prog 64 9 true:=⟨Tryz.sizeOf64,Tryz.isAgg64⟩
theorem ty53 :A6 Tryz.prog 53 1 false:=⟨Tryz.sizeOf53,Tryz.isAgg53⟩
theorem ic :A7 Tryz.prog 64 8 8 1 false:=⟨⟨_,_,Tryz.underlying64,rfl,rfl,ty53⟩,by decide⟩
theorem bt :Sub af 8 (Rp.list af) B6.Kids:=Sub.ofEq ba (Sub.strct pn 8 _ rfl)
theorem f4 :A7 Tryz.prog 64 0 0 1 false:=⟨⟨_,_,Tryz.underlying64,rfl,rfl,ty3⟩,by decide⟩
theorem bc :Sub af 0 (Rp.int .i64) B6.Kind:=Sub.ofEq ba (Sub.strct pn 0 _ rfl)
theorem el53 :A8 Tryz.prog 53 64 9 104:=⟨Tryz.underlying53,⟨Tryz.t64,_,rfl,rfl,rfl,rfl,rfl⟩,by decide⟩
theorem st64 :StOK Tryz.prog 64 pn (B6.mk 0 [] [] 0 0 0 0 0 []):=stOK Tryz.underlying64 Tryz.zeroValue64 (fun _=>⟨_,_,rfl,rfl,⟨_,_,rfl,rfl,⟨_,_,rfl,rfl,⟨_,_,rfl,rfl,⟨_,_,rfl,rfl,⟨_,_,rfl,rfl,⟨_,_,rfl,rfl,⟨_,_,rfl,rfl,⟨_,_,rfl,⟨_,rfl,none,0,rfl,⟨Nat.le_refl _,fun _=>rfl⟩,.inl rfl⟩,rfl⟩⟩⟩⟩⟩⟩⟩⟩⟩) ⟨rfl,Tryz.sizeOf3,rfl,Tryz.sizeOf9,rfl,Tryz.sizeOf9,rfl,Tryz.sizeOf2,rfl,Tryz.sizeOf3,rfl,Tryz.sizeOf3,rfl,Tryz.sizeOf3,rfl,Tryz.sizeOf3,rfl,Tryz.sizeOf53,trivial⟩
theorem aje :Sub bu 3 Rp.str D4.Owner:=Sub.strct na 3 _ rfl
theorem ajq :Sub bu 2 Rp.str D4.Name:=Sub.strct na 2 _ rfl
theorem wt :Upd bu 0 (Rp.int .i64) (fun x y=>{x with Kind:=y}):=Upd.strct na 0 (fd:=⟨_,Rp.int .i64,D4.Kind⟩) rfl (fun _ _=>rfl) qbu
theorem aad :Upd bu 1 Rp.str (fun x y=>{x with Id:=y}):=Upd.strct na 1 (fd:=⟨_,Rp.str,D4.Id⟩) rfl (fun _ _=>rfl) qbu
theorem ty22 :A6 Tryz.prog 22 1 false:=⟨Tryz.sizeOf22,Tryz.isAgg22⟩
theorem aih :A7 Tryz.prog 49 6 6 1 false:=⟨⟨_,_,Tryz.underlying49,rfl,rfl,ty22⟩,by decide⟩
theorem aap :Sub bu 6 va D4.Params:=Sub.strct na 6 _ rfl
theorem el22 :A8 Tryz.prog 22 9 1 16:=⟨Tryz.underlying22,⟨Tryz.t9,_,rfl,rfl,rfl,rfl,rfl⟩,by decide⟩
theorem aam :Upd bu 6 va (fun x y=>{x with Params:=y}):=Upd.strct na 6 (fd:=⟨_,va,D4.Params⟩) rfl (fun _ _=>rfl) qbu
theorem ty2 :A6 Tryz.prog 2 1 false:=⟨Tryz.sizeOf2,Tryz.isAgg2⟩
theorem aig :A7 Tryz.prog 64 3 3 1 false:=⟨⟨_,_,Tryz.underlying64,rfl,rfl,ty2⟩,by decide⟩
theorem acn :Sub af 3 (Rp.int .i64) B6.N:=Sub.ofEq ba (Sub.strct pn 3 _ rfl)
theorem ty4 :A6 Tryz.prog 4 1 false:=⟨Tryz.sizeOf4,Tryz.isAgg4⟩
theorem aj3 :StOK Tryz.prog 49 na (D4.mk 0 [] [] [] [] false (.slice none 0 0) 0 0):=stOK Tryz.underlying49 Tryz.zeroValue49 (fun _=>⟨_,_,rfl,rfl,⟨_,_,rfl,rfl,⟨_,_,rfl,rfl,⟨_,_,rfl,rfl,⟨_,_,rfl,rfl,⟨_,_,rfl,rfl,⟨_,_,rfl,⟨rfl,rfl⟩,⟨_,_,rfl,rfl,⟨_,_,rfl,rfl,rfl⟩⟩⟩⟩⟩⟩⟩⟩⟩) ⟨rfl,Tryz.sizeOf3,rfl,Tryz.sizeOf9,rfl,Tryz.sizeOf9,rfl,Tryz.sizeOf9,rfl,Tryz.sizeOf9,rfl,Tryz.sizeOf4,rfl,Tryz.sizeOf22,rfl,Tryz.sizeOf3,rfl,Tryz.sizeOf3,trivial⟩
theorem apj :StOK Tryz.prog 118 re (D3.mk (.slice none 0 0) (.map none) (B4.mk 0 0 0)):=stOK Tryz.underlying118 Tryz.zeroValue118 (fun _=>⟨_,_,rfl,⟨rfl,rfl⟩,⟨_,_,rfl,⟨rfl,rfl⟩,⟨_,_,rfl,⟨_,_,rfl,rfl,⟨_,_,rfl,rfl,⟨_,_,rfl,rfl,rfl⟩⟩⟩,rfl⟩⟩⟩) ⟨rfl,Tryz.sizeOf38,rfl,Tryz.sizeOf116,rfl,Tryz.sizeOf30,trivial⟩
theorem alh :Sub a8 2 az D3.m:=Sub.strct re 2 _ rfl
theorem iv :Sub ag 1 Rp.str B0.Id:=Sub.strct rz 1 _ rfl
theorem ahh :A7 Tryz.prog 49 4 4 1 false:=⟨⟨_,_,Tryz.underlying49,rfl,rfl,ty9⟩,by decide⟩
theorem kb :Sub ag 4 Rp.str B0.Type_:=Sub.strct rz 4 _ rfl
theorem ty148 :A6 Tryz.prog 148 1 false:=⟨Tryz.sizeOf148,Tryz.isAgg148⟩
theorem en156 :aal Tryz.prog 156:=⟨_,Tryz.func156,by decide,rfl⟩
theorem en157 :aal Tryz.prog 157:=⟨_,Tryz.func157,by decide,rfl⟩
theorem avr :A7 Tryz.prog 49 5 5 1 false:=⟨⟨_,_,Tryz.underlying49,rfl,rfl,ty4⟩,by decide⟩
theorem yt :Sub ag 5 Rp.bool B0.Static:=Sub.strct rz 5 _ rfl
theorem tc :Sub ag 6 (Rp.list Rp.str) B0.Params:=Sub.strct rz 6 _ rfl
theorem aif :A7 Tryz.prog 66 0 0 1 false:=⟨⟨_,_,Tryz.underlying66,rfl,rfl,ty38⟩,by decide⟩
theorem ku :Sub al 0 (Rp.list ag) B7.Table:=Sub.strct y3 0 _ rfl
theorem asb :A7 Tryz.prog 76 1 1 1 false:=⟨⟨_,_,Tryz.underlying76,rfl,rfl,ty3⟩,by decide⟩
theorem wd :Sub aq 1 (Rp.int .i64) D5.file:=Sub.strct lz 1 _ rfl
theorem st72 :StOK Tryz.prog 72 amh (C5.mk (B4.mk 0 0 0)):=stOK Tryz.underlying72 Tryz.zeroValue72 (fun _=>⟨_,_,rfl,⟨_,_,rfl,rfl,⟨_,_,rfl,rfl,⟨_,_,rfl,rfl,rfl⟩⟩⟩,rfl⟩) ⟨rfl,Tryz.sizeOf30,trivial⟩
theorem ty27 :A6 Tryz.prog 27 1 false:=⟨Tryz.sizeOf27,Tryz.isAgg27⟩
theorem asc :A7 Tryz.prog 76 0 0 1 false:=⟨⟨_,_,Tryz.underlying76,rfl,rfl,ty27⟩,by decide⟩
theorem wb :Sub aq 0 va D5.uses:=Sub.strct lz 0 _ rfl
theorem st47 :StOK Tryz.prog 47 asd (B8.mk 0 0 []):=stOK Tryz.underlying47 Tryz.zeroValue47 (fun _=>⟨_,_,rfl,rfl,⟨_,_,rfl,rfl,⟨_,_,rfl,rfl,rfl⟩⟩⟩) ⟨rfl,Tryz.sizeOf3,rfl,Tryz.sizeOf3,rfl,Tryz.sizeOf9,trivial⟩
theorem el27 :A8 Tryz.prog 27 47 3 32:=⟨Tryz.underlying27,⟨Tryz.t47,_,rfl,rfl,rfl,rfl,rfl⟩,by decide⟩
theorem ajc :Upd aq 0 va (fun x y=>{x with uses:=y}):=Upd.strct lz 0 (fd:=⟨_,va,D5.uses⟩) rfl (fun _ _=>rfl) qbu
theorem aob :A7 Tryz.prog 64 7 7 1 false:=⟨⟨_,_,Tryz.underlying64,rfl,rfl,ty3⟩,by decide⟩
theorem aa4 :Sub af 7 (Rp.int .i64) B6.TypeAt:=Sub.ofEq ba (Sub.strct pn 7 _ rfl)
theorem ty66 :A6 Tryz.prog 66 4 true:=⟨Tryz.sizeOf66,Tryz.isAgg66⟩
theorem al8 :A7 Tryz.prog 66 2 2 1 false:=⟨⟨_,_,Tryz.underlying66,rfl,rfl,ty4⟩,by decide⟩
theorem ys :Sub al 2 Rp.bool B7.Static:=Sub.strct y3 2 _ rfl
theorem aoa :A7 Tryz.prog 66 3 3 1 false:=⟨⟨_,_,Tryz.underlying66,rfl,rfl,ty38⟩,by decide⟩
theorem aa3 :Sub al 3 (Rp.list ag) B7.Seen:=Sub.strct y3 3 _ rfl
theorem al9 :A7 Tryz.prog 66 1 1 1 false:=⟨⟨_,_,Tryz.underlying66,rfl,rfl,ty9⟩,by decide⟩
theorem nl :Sub al 1 Rp.str B7.Class:=Sub.strct y3 1 _ rfl
theorem ty28 :A6 Tryz.prog 28 1 false:=⟨Tryz.sizeOf28,Tryz.isAgg28⟩
theorem en113 :aal Tryz.prog 113:=⟨_,Tryz.func113,by decide,rfl⟩
theorem en117 :aal Tryz.prog 117:=⟨_,Tryz.func117,by decide,rfl⟩
theorem yr :Upd al 2 Rp.bool (fun x y=>{x with Static:=y}):=Upd.strct y3 2 (fd:=⟨_,Rp.bool,B7.Static⟩) rfl (fun _ _=>rfl) qbu
theorem adb :A7 Tryz.prog 64 4 4 1 false:=⟨⟨_,_,Tryz.underlying64,rfl,rfl,ty3⟩,by decide⟩
theorem iu :Sub af 4 (Rp.int .i64) B6.From:=Sub.ofEq ba (Sub.strct pn 4 _ rfl)
theorem asa :A7 Tryz.prog 76 2 2 1 false:=⟨⟨_,_,Tryz.underlying76,rfl,rfl,ty9⟩,by decide⟩
theorem tl :Sub aq 2 Rp.str D5.method:=Sub.strct lz 2 _ rfl
theorem an9 :A7 Tryz.prog 76 3 3 1 false:=⟨⟨_,_,Tryz.underlying76,rfl,rfl,ty3⟩,by decide⟩
theorem wc :Sub aq 3 (Rp.int .i64) D5.many:=Sub.strct lz 3 _ rfl
theorem ac0 :Upd aq 3 (Rp.int .i64) (fun x y=>{x with many:=y}):=Upd.strct lz 3 (fd:=⟨_,Rp.int .i64,D5.many⟩) rfl (fun _ _=>rfl) qbu
theorem ahx :Upd aq 2 Rp.str (fun x y=>{x with method:=y}):=Upd.strct lz 2 (fd:=⟨_,Rp.str,D5.method⟩) rfl (fun _ _=>rfl) qbu
theorem ag8 :Upd al 3 (Rp.list ag) (fun x y=>{x with Seen:=y}):=Upd.strct y3 3 (fd:=⟨_,Rp.list ag,B7.Seen⟩) rfl (fun _ _=>rfl) qbu
theorem ty47 :A6 Tryz.prog 47 3 true:=⟨Tryz.sizeOf47,Tryz.isAgg47⟩
theorem azf :A7 Tryz.prog 47 0 0 1 false:=⟨⟨_,_,Tryz.underlying47,rfl,rfl,ty3⟩,by decide⟩
theorem aj2 :Sub ao 0 (Rp.int .i64) B8.File:=Sub.strct asd 0 _ rfl
theorem aze :A7 Tryz.prog 47 1 1 1 false:=⟨⟨_,_,Tryz.underlying47,rfl,rfl,ty3⟩,by decide⟩
theorem amo :Sub ao 1 (Rp.int .i64) B8.At:=Sub.strct asd 1 _ rfl
theorem el126 :A8 Tryz.prog 126 3 1 8:=⟨Tryz.underlying126,⟨Tryz.t3,_,rfl,rfl,rfl,rfl,rfl⟩,by decide⟩
theorem el195 :A8 Tryz.prog 195 5 1 1:=⟨Tryz.underlying195,⟨Tryz.t5,_,rfl,rfl,rfl,rfl,rfl⟩,by decide⟩
theorem st45 :StOK Tryz.prog 45 aip (C6.mk 0 [] 0 []):=stOK Tryz.underlying45 Tryz.zeroValue45 (fun _=>⟨_,_,rfl,rfl,⟨_,_,rfl,rfl,⟨_,_,rfl,rfl,⟨_,_,rfl,rfl,rfl⟩⟩⟩⟩) ⟨rfl,Tryz.sizeOf3,rfl,Tryz.sizeOf9,rfl,Tryz.sizeOf3,rfl,Tryz.sizeOf9,trivial⟩
theorem el41 :A8 Tryz.prog 41 45 4 48:=⟨Tryz.underlying41,⟨Tryz.t45,_,rfl,rfl,rfl,rfl,rfl⟩,by decide⟩
theorem aat :A7 Tryz.prog 45 1 1 1 false:=⟨⟨_,_,Tryz.underlying45,rfl,rfl,ty9⟩,by decide⟩
theorem ge :Sub cg 1 Rp.str C6.Text:=Sub.strct aip 1 _ rfl
theorem aod :A7 Tryz.prog 45 0 0 1 false:=⟨⟨_,_,Tryz.underlying45,rfl,rfl,ty3⟩,by decide⟩
theorem tr :Sub cg 0 (Rp.int .i64) C6.Kind:=Sub.strct aip 0 _ rfl
theorem st97 :StOK Tryz.prog 97 ahp (C7.mk 0 0):=stOK Tryz.underlying97 Tryz.zeroValue97 (fun _=>⟨_,_,rfl,rfl,⟨_,_,rfl,rfl,rfl⟩⟩) ⟨rfl,Tryz.sizeOf3,rfl,Tryz.sizeOf28,trivial⟩
theorem ty97 :A6 Tryz.prog 97 2 true:=⟨Tryz.sizeOf97,Tryz.isAgg97⟩
theorem af0 :A7 Tryz.prog 45 2 2 1 false:=⟨⟨_,_,Tryz.underlying45,rfl,rfl,ty3⟩,by decide⟩
theorem lv :Sub cg 2 (Rp.int .i64) C6.At:=Sub.strct aip 2 _ rfl
theorem ai6 :Upd af 2 Rp.str (fun x y=>{x with Type_:=y}):=Upd.ofEq ba (Upd.strct pn 2 (fd:=⟨_,Rp.str,B6.Type_⟩) rfl (fun _ _=>rfl) qbu)
theorem ag9 :Upd af 7 (Rp.int .i64) (fun x y=>{x with TypeAt:=y}):=Upd.ofEq ba (Upd.strct pn 7 (fd:=⟨_,Rp.int .i64,B6.TypeAt⟩) rfl (fun _ _=>rfl) qbu)
theorem r5 :Upd af 1 Rp.str (fun x y=>{x with Text:=y}):=Upd.ofEq ba (Upd.strct pn 1 (fd:=⟨_,Rp.str,B6.Text⟩) rfl (fun _ _=>rfl) qbu)
theorem zh :Upd af 6 (Rp.int .i64) (fun x y=>{x with At:=y}):=Upd.ofEq ba (Upd.strct pn 6 (fd:=⟨_,Rp.int .i64,B6.At⟩) rfl (fun _ _=>rfl) qbu)
theorem el224 :A8 Tryz.prog 224 22 1 24:=⟨Tryz.underlying224,⟨Tryz.t22,_,rfl,rfl,rfl,rfl,rfl⟩,by decide⟩
theorem o0 :A7 Tryz.prog 97 0 0 1 false:=⟨⟨_,_,Tryz.underlying97,rfl,rfl,ty3⟩,by decide⟩
theorem cn :Sub aj 0 (Rp.int .i64) C7.Place:=Sub.strct ahp 0 _ rfl
theorem air :Upd af 3 (Rp.int .i64) (fun x y=>{x with N:=y}):=Upd.ofEq ba (Upd.strct pn 3 (fd:=⟨_,Rp.int .i64,B6.N⟩) rfl (fun _ _=>rfl) qbu)
theorem apc :Upd af 0 (Rp.int .i64) (fun x y=>{x with Kind:=y}):=Upd.ofEq ba (Upd.strct pn 0 (fd:=⟨_,Rp.int .i64,B6.Kind⟩) rfl (fun _ _=>rfl) qbu)
theorem apd :Upd af 8 (Rp.list af) (fun x y=>{x with Kids:=y}):=Upd.ofEq ba (Upd.strct pn 8 (fd:=⟨_,Rp.list af,B6.Kids⟩) rfl (fun _ _=>rfl) qbu)
theorem fld64_5 :A7 Tryz.prog 64 5 5 1 false:=⟨⟨_,_,Tryz.underlying64,rfl,rfl,ty3⟩,by decide⟩
theorem as8 :Upd af 5 (Rp.int .i64) (fun x y=>{x with To:=y}):=Upd.ofEq ba (Upd.strct pn 5 (fd:=⟨_,Rp.int .i64,B6.To⟩) rfl (fun _ _=>rfl) qbu)
theorem fld97_1 :A7 Tryz.prog 97 1 1 1 false:=⟨⟨_,_,Tryz.underlying97,rfl,rfl,ty28⟩,by decide⟩
theorem alg :Sub aj 1 (Rp.int .i64) C7.Code:=Sub.strct ahp 1 _ rfl
theorem ahj :A7 Tryz.prog 30 0 0 1 false:=⟨⟨_,_,Tryz.underlying30,rfl,rfl,ty28⟩,by decide⟩
theorem je :Sub az 0 (Rp.int .i64) B4.Code:=Sub.strct ahq 0 _ rfl
theorem el24 :A8 Tryz.prog 24 53 1 24:=⟨Tryz.underlying24,⟨Tryz.t53,_,rfl,rfl,rfl,rfl,rfl⟩,by decide⟩
theorem wh :A7 Tryz.prog 138 0 0 4 true:=⟨⟨_,_,Tryz.underlying138,rfl,rfl,ty66⟩,by decide⟩
theorem d6 :Sub aw 0 al C8.Scope:=Sub.strct wl 0 _ rfl
theorem ajb :Upd aw 0 al (fun x y=>{x with Scope:=y}):=Upd.strct wl 0 (fd:=⟨_,al,C8.Scope⟩) rfl (fun _ _=>rfl) qbu
theorem um :A6 Tryz.prog 138 6 true:=⟨Tryz.sizeOf138,Tryz.isAgg138⟩
theorem en108 :aal Tryz.prog 108:=⟨_,Tryz.func108,by decide,rfl⟩
theorem a10 :A7 Tryz.prog 138 2 5 1 false:=⟨⟨_,_,Tryz.underlying138,rfl,rfl,ty3⟩,by decide⟩
theorem ajp :Sub aw 5 (Rp.int .i64) C8.file:=Sub.strct wl 2 _ rfl
theorem st103 :StOK Tryz.prog 103 aki (D0.mk (B4.mk 0 0 0)):=stOK Tryz.underlying103 Tryz.zeroValue103 (fun _=>⟨_,_,rfl,⟨_,_,rfl,rfl,⟨_,_,rfl,rfl,⟨_,_,rfl,rfl,rfl⟩⟩⟩,rfl⟩) ⟨rfl,Tryz.sizeOf30,trivial⟩
theorem aw1 :A7 Tryz.prog 138 1 4 1 false:=⟨⟨_,_,Tryz.underlying138,rfl,rfl,ty9⟩,by decide⟩
theorem adp :Sub aw 4 Rp.str C8.kind:=Sub.strct wl 1 _ rfl
theorem st66 :StOK Tryz.prog 66 y3 (B7.mk [] [] false []):=stOK Tryz.underlying66 Tryz.zeroValue66 (fun _=>⟨_,_,rfl,⟨_,rfl,none,0,rfl,⟨Nat.le_refl _,fun _=>rfl⟩,.inl rfl⟩,⟨_,_,rfl,rfl,⟨_,_,rfl,rfl,⟨_,_,rfl,⟨_,rfl,none,0,rfl,⟨Nat.le_refl _,fun _=>rfl⟩,.inl rfl⟩,rfl⟩⟩⟩⟩) ⟨rfl,Tryz.sizeOf38,rfl,Tryz.sizeOf9,rfl,Tryz.sizeOf4,rfl,Tryz.sizeOf38,trivial⟩
theorem st138 :StOK Tryz.prog 138 wl (C8.mk (B7.mk [] [] false []) [] 0):=stOK Tryz.underlying138 Tryz.zeroValue138 (fun _=>⟨_,_,rfl,⟨_,_,rfl,⟨_,rfl,none,0,rfl,⟨Nat.le_refl _,fun _=>rfl⟩,.inl rfl⟩,⟨_,_,rfl,rfl,⟨_,_,rfl,rfl,⟨_,_,rfl,⟨_,rfl,none,0,rfl,⟨Nat.le_refl _,fun _=>rfl⟩,.inl rfl⟩,rfl⟩⟩⟩⟩,⟨_,_,rfl,rfl,⟨_,_,rfl,rfl,rfl⟩⟩⟩) ⟨rfl,Tryz.sizeOf66,rfl,Tryz.sizeOf9,rfl,Tryz.sizeOf3,trivial⟩
theorem apk :StOK Tryz.prog 76 lz (D5.mk (.slice none 0 0) 0 [] 0):=stOK Tryz.underlying76 Tryz.zeroValue76 (fun _=>⟨_,_,rfl,⟨rfl,rfl⟩,⟨_,_,rfl,rfl,⟨_,_,rfl,rfl,⟨_,_,rfl,rfl,rfl⟩⟩⟩⟩) ⟨rfl,Tryz.sizeOf27,rfl,Tryz.sizeOf3,rfl,Tryz.sizeOf9,rfl,Tryz.sizeOf3,trivial⟩
theorem ajd :Upd aq 1 (Rp.int .i64) (fun x y=>{x with file:=y}):=Upd.strct lz 1 (fd:=⟨_,Rp.int .i64,D5.file⟩) rfl (fun _ _=>rfl) qbu
theorem en39 :aal Tryz.prog 39:=⟨_,Tryz.func39,by decide,rfl⟩
theorem en36 :aal Tryz.prog 36:=⟨_,Tryz.func36,by decide,rfl⟩
theorem fld72_0 :A7 Tryz.prog 72 0 0 3 true:=⟨⟨_,_,Tryz.underlying72,rfl,rfl,ty30⟩,by decide⟩
theorem ap4 :Sub mq 0 az C5.m:=Sub.strct amh 0 _ rfl
theorem en54 :aal Tryz.prog 54:=⟨_,Tryz.func54,by decide,rfl⟩
theorem a11 :A7 Tryz.prog 103 0 0 3 true:=⟨⟨_,_,Tryz.underlying103,rfl,rfl,ty30⟩,by decide⟩
theorem apg :Sub l6 0 az D0.m:=Sub.strct aki 0 _ rfl
theorem fld30_2 :A7 Tryz.prog 30 2 2 1 false:=⟨⟨_,_,Tryz.underlying30,rfl,rfl,ty3⟩,by decide⟩
theorem am9 :Sub az 2 (Rp.int .i64) B4.At:=Sub.strct ahq 2 _ rfl
end Go.Proofs.YtcndghapmoaidaaGreatDoor
