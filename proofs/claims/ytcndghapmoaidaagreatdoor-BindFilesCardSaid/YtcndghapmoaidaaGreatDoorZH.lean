/- What the program's tables say (printed by wip/gen/gen.py). -/
import Derived.Test.YtcndghapmoaidaaGreatDoorProg
import Derived.Test.YtcndghapmoaidaaGreatDoorZJ
import Derived.Test.YtcndghapmoaidaaGreatDoorZT
set_option linter.unusedSimpArgs false
set_option linter.unusedVariables false
set_option linter.unusedSectionVars false
set_option linter.unusedSectionVars false
set_option maxRecDepth 100000
set_option maxHeartbeats 4000000
namespace Go.Proofs.YtcndghapmoaidaaGreatDoor
open Go Go.Cn
instance theGlob :Glob where
 ok s:=s.F 0/\∃T fz,s.w.heap[0]? =some (.cells (Lib.pow10Tab.map fun z=>Value.int .u64 z).toArray T fz)
 mono _ _ h k:=⟨h.fin _ k.1,by rw[h.blk _ k.1];exact k.2⟩
abbrev Fp :=FnP Tryz.prog
abbrev Fc :=FnC Tryz.prog
theorem hmx :Tryz.prog.follows .mixedOrders=true:=by kernel_rfl
def qc :List (Go.Cn.Fd A9):=[⟨_,Rp.int .i64,A9.Kind⟩,⟨_,Rp.str,A9.Id⟩,⟨_,Rp.str,A9.Name⟩,⟨_,Rp.str,A9.Owner⟩,⟨_,Rp.str,A9.Type_⟩,⟨_,Rp.bool,A9.Static⟩,⟨_,Rp.list Rp.str,A9.Params⟩,⟨_,Rp.int .i64,A9.File⟩,⟨_,Rp.int .i64,A9.At⟩]
abbrev af :Rp A9:=Rp.strct qc
def aoi :List (Go.Cn.Fd B0):=[⟨_,Rp.int .i64,B0.kind⟩,⟨_,Rp.str,B0.owner⟩,⟨_,Rp.str,B0.name⟩]
abbrev dz :Rp B0:=Rp.strct aoi
def ajn :List (Go.Cn.Fd B3):=[⟨_,Rp.int .i64,B3.Code⟩,⟨_,Rp.int .i64,B3.File⟩,⟨_,Rp.int .i64,B3.At⟩]
abbrev az :Rp B3:=Rp.strct ajn
def a1a :List (FG B5):=[FG.const (Rp.int .i64) B5.Kind,FG.const (Rp.str) B5.Text,FG.const (Rp.str) B5.Type_,FG.const (Rp.int .i64) B5.N,FG.const (Rp.int .i64) B5.From,FG.const (Rp.int .i64) B5.To,FG.const (Rp.int .i64) B5.At,FG.const (Rp.int .i64) B5.TypeAt,FG.list B5.Kids]
def ag :Rp B5:=agv a1a 9 rfl
def nv :List (Go.Cn.Fd B5):=[⟨_,Rp.int .i64,B5.Kind⟩,⟨_,Rp.str,B5.Text⟩,⟨_,Rp.str,B5.Type_⟩,⟨_,Rp.int .i64,B5.N⟩,⟨_,Rp.int .i64,B5.From⟩,⟨_,Rp.int .i64,B5.To⟩,⟨_,Rp.int .i64,B5.At⟩,⟨_,Rp.int .i64,B5.TypeAt⟩,⟨_,Rp.list ag,B5.Kids⟩]
theorem a8 :ag=Rp.strct nv:=az6 _
def xy :List (Go.Cn.Fd B6):=[⟨_,Rp.list af,B6.Table⟩,⟨_,Rp.str,B6.Class⟩,⟨_,Rp.bool,B6.Static⟩,⟨_,Rp.list af,B6.Seen⟩]
abbrev am :Rp B6:=Rp.strct xy
def an0 :List (Go.Cn.Fd B7):=[⟨_,Rp.int .i64,B7.File⟩,⟨_,Rp.int .i64,B7.At⟩,⟨_,Rp.str,B7.Id⟩]
abbrev al :Rp B7:=Rp.strct an0
def al2 :List (Go.Cn.Fd B9):=[⟨_,az,B9.m⟩]
abbrev ku :Rp B9:=Rp.strct al2
def ahi :List (Go.Cn.Fd C5):=[⟨_,Rp.int .i64,C5.Kind⟩,⟨_,Rp.str,C5.Text⟩,⟨_,Rp.int .i64,C5.At⟩,⟨_,Rp.str,C5.Lead⟩]
abbrev bw :Rp C5:=Rp.strct ahi
def agi :List (Go.Cn.Fd C6):=[⟨_,Rp.int .i64,C6.Place⟩,⟨_,Rp.int .i64,C6.Code⟩]
abbrev ah :Rp C6:=Rp.strct agi
def pl :List (Go.Cn.Fd D0):=[⟨_,te,D0.l⟩,⟨_,te,D0.known⟩,⟨_,az,D0.m⟩]
abbrev a7 :Rp D0:=Rp.strct pl
def lb :List (Go.Cn.Fd D3):=[⟨_,Rp.int .i64,D3.Kind⟩,⟨_,Rp.str,D3.Id⟩,⟨_,Rp.str,D3.Name⟩,⟨_,Rp.str,D3.Owner⟩,⟨_,Rp.str,D3.Type_⟩,⟨_,Rp.bool,D3.Static⟩,⟨_,te,D3.Params⟩,⟨_,Rp.int .i64,D3.File⟩,⟨_,Rp.int .i64,D3.At⟩]
abbrev bk :Rp D3:=Rp.strct lb
def j7 :List (Go.Cn.Fd D4):=[⟨_,te,D4.uses⟩,⟨_,Rp.int .i64,D4.file⟩,⟨_,Rp.str,D4.method⟩,⟨_,Rp.int .i64,D4.many⟩]
abbrev ap :Rp D4:=Rp.strct j7
def w8 (f:(A9->Option Bool)):List Pr->Pr->Prop:=fun args res=>∃(a0:A9) (r:Bool),args=[(af).val a0]/\res=Pb r/\f a0=some r
def aep (f:((List A9)->Bt->Bt->Option (A9 × Bool))):List Pr->Pr->Prop:=fun args res=>∃(a0:List A9) (a1:Bt) (a2:Bt) (r:A9 × Bool),args=[ar af a0,Pr.str a1,Pr.str a2]/\res=bu [(af).val r.1,Pb r.2]/\f a0 a1 a2=some r
def gt (f:(B7->B7->Option Int)):List Pr->Pr->Prop:=fun args res=>∃(a0:B7) (a1:B7) (r:Int),args=[(al).val a0,(al).val a1]/\res=P6 r/\f a0 a1=some r
theorem st30 :StOK Tryz.prog 30 ajn (B3.mk 0 0 0):=stOK Tryz.underlying30 Tryz.zeroValue30 (fun _=>⟨_,_,rfl,rfl,⟨_,_,rfl,rfl,⟨_,_,rfl,rfl,rfl⟩⟩⟩) ⟨rfl,Tryz.sizeOf28,rfl,Tryz.sizeOf3,rfl,Tryz.sizeOf3,trivial⟩
theorem ty30 :A5 Tryz.prog 30 3 true:=⟨Tryz.sizeOf30,Tryz.isAgg30⟩
theorem aws :A6 Tryz.prog 118 2 2 3 true:=⟨⟨_,_,Tryz.underlying118,rfl,rfl,ty30⟩,by decide⟩
theorem akt :Upd a7 2 az (fun x y=>{x with m:=y}):=Upd.strct pl 2 (fd:=⟨_,az,D0.m⟩) rfl (fun _ _=>rfl) qbu
theorem ty3 :A5 Tryz.prog 3 1 false:=⟨Tryz.sizeOf3,Tryz.isAgg3⟩
theorem xa :A6 Tryz.prog 49 0 0 1 false:=⟨⟨_,_,Tryz.underlying49,rfl,rfl,ty3⟩,by decide⟩
theorem ft :Sub af 0 (Rp.int .i64) A9.Kind:=Sub.strct qc 0 _ rfl
theorem ty9 :A5 Tryz.prog 9 1 false:=⟨Tryz.sizeOf9,Tryz.isAgg9⟩
theorem alp :A6 Tryz.prog 49 3 3 1 false:=⟨⟨_,_,Tryz.underlying49,rfl,rfl,ty9⟩,by decide⟩
theorem oj :Sub af 3 Rp.str A9.Owner:=Sub.strct qc 3 _ rfl
theorem af9 :A6 Tryz.prog 49 2 2 1 false:=⟨⟨_,_,Tryz.underlying49,rfl,rfl,ty9⟩,by decide⟩
theorem jv :Sub af 2 Rp.str A9.Name:=Sub.strct qc 2 _ rfl
theorem st187 :StOK Tryz.prog 187 aoi (B0.mk 0 [] []):=stOK Tryz.underlying187 Tryz.zeroValue187 (fun _=>⟨_,_,rfl,rfl,⟨_,_,rfl,rfl,⟨_,_,rfl,rfl,rfl⟩⟩⟩) ⟨rfl,Tryz.sizeOf3,rfl,Tryz.sizeOf9,rfl,Tryz.sizeOf9,trivial⟩
theorem ty116 :A5 Tryz.prog 116 1 false:=⟨Tryz.sizeOf116,Tryz.isAgg116⟩
theorem awt :A6 Tryz.prog 118 1 1 1 false:=⟨⟨_,_,Tryz.underlying118,rfl,rfl,ty116⟩,by decide⟩
theorem zk :Sub a7 1 te D0.known:=Sub.strct pl 1 _ rfl
theorem ty187 :A5 Tryz.prog 187 3 true:=⟨Tryz.sizeOf187,Tryz.isAgg187⟩
theorem axl :EqOK Tryz.prog 187 dz 2:=axk Tryz.underlying187 (by kernel_rfl) ⟨by decide,rfl,(asf Tryz.underlying3),ty3,by decide,rfl,(anh Tryz.underlying9),ty9,by decide,rfl,(anh Tryz.underlying9),ty9,trivial⟩ (fun x y h=>by cases x;cases y;simpa [aoi] using h)
theorem aoq :KeyOK Tryz.prog 187 dz 2:=keyOK Tryz.underlying187 axl dcd ⟨by decide,rfl,(asf Tryz.underlying3),ty3,by decide,rfl,(anh Tryz.underlying9),ty9,by decide,rfl,(anh Tryz.underlying9),ty9,trivial⟩ ⟨plk_int,⟨_,Tryz.underlying3,rfl⟩,ayv,⟨_,Tryz.underlying9,rfl⟩,ayv,⟨_,Tryz.underlying9,rfl⟩,trivial⟩
theorem anx :A6 Tryz.prog 49 7 7 1 false:=⟨⟨_,_,Tryz.underlying49,rfl,rfl,ty3⟩,by decide⟩
theorem z0 :Sub af 7 (Rp.int .i64) A9.File:=Sub.strct qc 7 _ rfl
theorem avc :A6 Tryz.prog 49 8 8 1 false:=⟨⟨_,_,Tryz.underlying49,rfl,rfl,ty3⟩,by decide⟩
theorem adk :Sub af 8 (Rp.int .i64) A9.At:=Sub.strct qc 8 _ rfl
theorem ty38 :A5 Tryz.prog 38 1 false:=⟨Tryz.sizeOf38,Tryz.isAgg38⟩
theorem ajz :A6 Tryz.prog 118 0 0 1 false:=⟨⟨_,_,Tryz.underlying118,rfl,rfl,ty38⟩,by decide⟩
theorem zd :Sub a7 0 te D0.l:=Sub.strct pl 0 _ rfl
theorem ty49 :A5 Tryz.prog 49 9 true:=⟨Tryz.sizeOf49,Tryz.isAgg49⟩
theorem el38 :A7 Tryz.prog 38 49 9 120:=⟨Tryz.underlying38,⟨Tryz.t49,_,rfl,rfl,rfl,rfl,rfl⟩,by decide⟩
theorem aef :Upd a7 0 te (fun x y=>{x with l:=y}):=Upd.strct pl 0 (fd:=⟨_,te,D0.l⟩) rfl (fun _ _=>rfl) qbu
theorem en177 :ab8 Tryz.prog 177:=⟨_,Tryz.func177,by decide,rfl⟩
theorem ra :A6 Tryz.prog 49 1 1 1 false:=⟨⟨_,_,Tryz.underlying49,rfl,rfl,ty9⟩,by decide⟩
theorem sn :Sub bk 1 Rp.str D3.Id:=Sub.strct lb 1 _ rfl
theorem gz :A6 Tryz.prog 64 1 1 1 false:=⟨⟨_,_,Tryz.underlying64,rfl,rfl,ty9⟩,by decide⟩
theorem cc :Sub ag 1 Rp.str B5.Text:=Sub.ofEq a8 (Sub.strct nv 1 _ rfl)
theorem zn :A6 Tryz.prog 64 2 2 1 false:=⟨⟨_,_,Tryz.underlying64,rfl,rfl,ty9⟩,by decide⟩
theorem iu :Sub ag 2 Rp.str B5.Type_:=Sub.ofEq a8 (Sub.strct nv 2 _ rfl)
theorem ab9 :Sub bk 7 (Rp.int .i64) D3.File:=Sub.strct lb 7 _ rfl
theorem tf :A6 Tryz.prog 64 6 6 1 false:=⟨⟨_,_,Tryz.underlying64,rfl,rfl,ty3⟩,by decide⟩
theorem jl :Sub ag 6 (Rp.int .i64) B5.At:=Sub.ofEq a8 (Sub.strct nv 6 _ rfl)
theorem st49 :StOK Tryz.prog 49 qc (A9.mk 0 [] [] [] [] false [] 0 0):=stOK Tryz.underlying49 Tryz.zeroValue49 (fun _=>⟨_,_,rfl,rfl,⟨_,_,rfl,rfl,⟨_,_,rfl,rfl,⟨_,_,rfl,rfl,⟨_,_,rfl,rfl,⟨_,_,rfl,rfl,⟨_,_,rfl,⟨_,rfl,none,0,rfl,⟨Nat.le_refl _,fun _=>rfl⟩,.inl rfl⟩,⟨_,_,rfl,rfl,⟨_,_,rfl,rfl,rfl⟩⟩⟩⟩⟩⟩⟩⟩⟩) ⟨rfl,Tryz.sizeOf3,rfl,Tryz.sizeOf9,rfl,Tryz.sizeOf9,rfl,Tryz.sizeOf9,rfl,Tryz.sizeOf9,rfl,Tryz.sizeOf4,rfl,Tryz.sizeOf22,rfl,Tryz.sizeOf3,rfl,Tryz.sizeOf3,trivial⟩
theorem ty64 :A5 Tryz.prog 64 9 true:=⟨Tryz.sizeOf64,Tryz.isAgg64⟩
theorem ty53 :A5 Tryz.prog 53 1 false:=⟨Tryz.sizeOf53,Tryz.isAgg53⟩
theorem q9 :A6 Tryz.prog 64 8 8 1 false:=⟨⟨_,_,Tryz.underlying64,rfl,rfl,ty53⟩,by decide⟩
theorem d6 :Sub ag 8 (Rp.list ag) B5.Kids:=Sub.ofEq a8 (Sub.strct nv 8 _ rfl)
theorem ig :A6 Tryz.prog 64 0 0 1 false:=⟨⟨_,_,Tryz.underlying64,rfl,rfl,ty3⟩,by decide⟩
theorem bq :Sub ag 0 (Rp.int .i64) B5.Kind:=Sub.ofEq a8 (Sub.strct nv 0 _ rfl)
theorem el53 :A7 Tryz.prog 53 64 9 104:=⟨Tryz.underlying53,⟨Tryz.t64,_,rfl,rfl,rfl,rfl,rfl⟩,by decide⟩
theorem st64 :StOK Tryz.prog 64 nv (B5.mk 0 [] [] 0 0 0 0 0 []):=stOK Tryz.underlying64 Tryz.zeroValue64 (fun _=>⟨_,_,rfl,rfl,⟨_,_,rfl,rfl,⟨_,_,rfl,rfl,⟨_,_,rfl,rfl,⟨_,_,rfl,rfl,⟨_,_,rfl,rfl,⟨_,_,rfl,rfl,⟨_,_,rfl,rfl,⟨_,_,rfl,⟨_,rfl,none,0,rfl,⟨Nat.le_refl _,fun _=>rfl⟩,.inl rfl⟩,rfl⟩⟩⟩⟩⟩⟩⟩⟩⟩) ⟨rfl,Tryz.sizeOf3,rfl,Tryz.sizeOf9,rfl,Tryz.sizeOf9,rfl,Tryz.sizeOf2,rfl,Tryz.sizeOf3,rfl,Tryz.sizeOf3,rfl,Tryz.sizeOf3,rfl,Tryz.sizeOf3,rfl,Tryz.sizeOf53,trivial⟩
theorem aib :Sub bk 3 Rp.str D3.Owner:=Sub.strct lb 3 _ rfl
theorem ais :Sub bk 2 Rp.str D3.Name:=Sub.strct lb 2 _ rfl
theorem vc :Upd bk 0 (Rp.int .i64) (fun x y=>{x with Kind:=y}):=Upd.strct lb 0 (fd:=⟨_,Rp.int .i64,D3.Kind⟩) rfl (fun _ _=>rfl) qbu
theorem zc :Upd bk 1 Rp.str (fun x y=>{x with Id:=y}):=Upd.strct lb 1 (fd:=⟨_,Rp.str,D3.Id⟩) rfl (fun _ _=>rfl) qbu
theorem ty22 :A5 Tryz.prog 22 1 false:=⟨Tryz.sizeOf22,Tryz.isAgg22⟩
theorem alo :A6 Tryz.prog 49 6 6 1 false:=⟨⟨_,_,Tryz.underlying49,rfl,rfl,ty22⟩,by decide⟩
theorem zl :Sub bk 6 te D3.Params:=Sub.strct lb 6 _ rfl
theorem el22 :A7 Tryz.prog 22 9 1 16:=⟨Tryz.underlying22,⟨Tryz.t9,_,rfl,rfl,rfl,rfl,rfl⟩,by decide⟩
theorem zj :Upd bk 6 te (fun x y=>{x with Params:=y}):=Upd.strct lb 6 (fd:=⟨_,te,D3.Params⟩) rfl (fun _ _=>rfl) qbu
theorem ty2 :A5 Tryz.prog 2 1 false:=⟨Tryz.sizeOf2,Tryz.isAgg2⟩
theorem ajg :A6 Tryz.prog 64 3 3 1 false:=⟨⟨_,_,Tryz.underlying64,rfl,rfl,ty2⟩,by decide⟩
theorem ady :Sub ag 3 (Rp.int .i64) B5.N:=Sub.ofEq a8 (Sub.strct nv 3 _ rfl)
theorem ty4 :A5 Tryz.prog 4 1 false:=⟨Tryz.sizeOf4,Tryz.isAgg4⟩
theorem ai3 :StOK Tryz.prog 49 lb (D3.mk 0 [] [] [] [] false (.slice none 0 0) 0 0):=stOK Tryz.underlying49 Tryz.zeroValue49 (fun _=>⟨_,_,rfl,rfl,⟨_,_,rfl,rfl,⟨_,_,rfl,rfl,⟨_,_,rfl,rfl,⟨_,_,rfl,rfl,⟨_,_,rfl,rfl,⟨_,_,rfl,⟨rfl,rfl⟩,⟨_,_,rfl,rfl,⟨_,_,rfl,rfl,rfl⟩⟩⟩⟩⟩⟩⟩⟩⟩) ⟨rfl,Tryz.sizeOf3,rfl,Tryz.sizeOf9,rfl,Tryz.sizeOf9,rfl,Tryz.sizeOf9,rfl,Tryz.sizeOf9,rfl,Tryz.sizeOf4,rfl,Tryz.sizeOf22,rfl,Tryz.sizeOf3,rfl,Tryz.sizeOf3,trivial⟩
theorem ao2 :StOK Tryz.prog 118 pl (D0.mk (.slice none 0 0) (.map none) (B3.mk 0 0 0)):=stOK Tryz.underlying118 Tryz.zeroValue118 (fun _=>⟨_,_,rfl,⟨rfl,rfl⟩,⟨_,_,rfl,⟨rfl,rfl⟩,⟨_,_,rfl,⟨_,_,rfl,rfl,⟨_,_,rfl,rfl,⟨_,_,rfl,rfl,rfl⟩⟩⟩,rfl⟩⟩⟩) ⟨rfl,Tryz.sizeOf38,rfl,Tryz.sizeOf116,rfl,Tryz.sizeOf30,trivial⟩
theorem akv :Sub a7 2 az D0.m:=Sub.strct pl 2 _ rfl
theorem g0 :Sub af 1 Rp.str A9.Id:=Sub.strct qc 1 _ rfl
theorem af8 :A6 Tryz.prog 49 4 4 1 false:=⟨⟨_,_,Tryz.underlying49,rfl,rfl,ty9⟩,by decide⟩
theorem i0 :Sub af 4 Rp.str A9.Type_:=Sub.strct qc 4 _ rfl
theorem ty148 :A5 Tryz.prog 148 1 false:=⟨Tryz.sizeOf148,Tryz.isAgg148⟩
theorem en156 :ab8 Tryz.prog 156:=⟨_,Tryz.func156,by decide,rfl⟩
theorem en157 :ab8 Tryz.prog 157:=⟨_,Tryz.func157,by decide,rfl⟩
theorem avd :A6 Tryz.prog 49 5 5 1 false:=⟨⟨_,_,Tryz.underlying49,rfl,rfl,ty4⟩,by decide⟩
theorem xl :Sub af 5 Rp.bool A9.Static:=Sub.strct qc 5 _ rfl
theorem ado :Sub af 6 (Rp.list Rp.str) A9.Params:=Sub.strct qc 6 _ rfl
theorem anv :A6 Tryz.prog 66 0 0 1 false:=⟨⟨_,_,Tryz.underlying66,rfl,rfl,ty38⟩,by decide⟩
theorem oh :Sub am 0 (Rp.list af) B6.Table:=Sub.strct xy 0 _ rfl
theorem arx :A6 Tryz.prog 76 1 1 1 false:=⟨⟨_,_,Tryz.underlying76,rfl,rfl,ty3⟩,by decide⟩
theorem ul :Sub ap 1 (Rp.int .i64) D4.file:=Sub.strct j7 1 _ rfl
theorem st72 :StOK Tryz.prog 72 al2 (B9.mk (B3.mk 0 0 0)):=stOK Tryz.underlying72 Tryz.zeroValue72 (fun _=>⟨_,_,rfl,⟨_,_,rfl,rfl,⟨_,_,rfl,rfl,⟨_,_,rfl,rfl,rfl⟩⟩⟩,rfl⟩) ⟨rfl,Tryz.sizeOf30,trivial⟩
theorem ty27 :A5 Tryz.prog 27 1 false:=⟨Tryz.sizeOf27,Tryz.isAgg27⟩
theorem ary :A6 Tryz.prog 76 0 0 1 false:=⟨⟨_,_,Tryz.underlying76,rfl,rfl,ty27⟩,by decide⟩
theorem uj :Sub ap 0 te D4.uses:=Sub.strct j7 0 _ rfl
theorem st47 :StOK Tryz.prog 47 an0 (B7.mk 0 0 []):=stOK Tryz.underlying47 Tryz.zeroValue47 (fun _=>⟨_,_,rfl,rfl,⟨_,_,rfl,rfl,⟨_,_,rfl,rfl,rfl⟩⟩⟩) ⟨rfl,Tryz.sizeOf3,rfl,Tryz.sizeOf3,rfl,Tryz.sizeOf9,trivial⟩
theorem el27 :A7 Tryz.prog 27 47 3 32:=⟨Tryz.underlying27,⟨Tryz.t47,_,rfl,rfl,rfl,rfl,rfl⟩,by decide⟩
theorem ah9 :Upd ap 0 te (fun x y=>{x with uses:=y}):=Upd.strct j7 0 (fd:=⟨_,te,D4.uses⟩) rfl (fun _ _=>rfl) qbu
theorem anw :A6 Tryz.prog 64 7 7 1 false:=⟨⟨_,_,Tryz.underlying64,rfl,rfl,ty3⟩,by decide⟩
theorem zz :Sub ag 7 (Rp.int .i64) B5.TypeAt:=Sub.ofEq a8 (Sub.strct nv 7 _ rfl)
theorem ty66 :A5 Tryz.prog 66 4 true:=⟨Tryz.sizeOf66,Tryz.isAgg66⟩
theorem alm :A6 Tryz.prog 66 2 2 1 false:=⟨⟨_,_,Tryz.underlying66,rfl,rfl,ty4⟩,by decide⟩
theorem xk :Sub am 2 Rp.bool B6.Static:=Sub.strct xy 2 _ rfl
theorem avb :A6 Tryz.prog 66 3 3 1 false:=⟨⟨_,_,Tryz.underlying66,rfl,rfl,ty38⟩,by decide⟩
theorem afy :Sub am 3 (Rp.list af) B6.Seen:=Sub.strct xy 3 _ rfl
theorem aln :A6 Tryz.prog 66 1 1 1 false:=⟨⟨_,_,Tryz.underlying66,rfl,rfl,ty9⟩,by decide⟩
theorem lr :Sub am 1 Rp.str B6.Class:=Sub.strct xy 1 _ rfl
theorem ty28 :A5 Tryz.prog 28 1 false:=⟨Tryz.sizeOf28,Tryz.isAgg28⟩
theorem en113 :ab8 Tryz.prog 113:=⟨_,Tryz.func113,by decide,rfl⟩
theorem en117 :ab8 Tryz.prog 117:=⟨_,Tryz.func117,by decide,rfl⟩
theorem xi :Upd am 2 Rp.bool (fun x y=>{x with Static:=y}):=Upd.strct xy 2 (fd:=⟨_,Rp.bool,B6.Static⟩) rfl (fun _ _=>rfl) qbu
theorem ayy :A6 Tryz.prog 64 4 4 1 false:=⟨⟨_,_,Tryz.underlying64,rfl,rfl,ty3⟩,by decide⟩
theorem ah4 :Sub ag 4 (Rp.int .i64) B5.From:=Sub.ofEq a8 (Sub.strct nv 4 _ rfl)
theorem arw :A6 Tryz.prog 76 2 2 1 false:=⟨⟨_,_,Tryz.underlying76,rfl,rfl,ty9⟩,by decide⟩
theorem rj :Sub ap 2 Rp.str D4.method:=Sub.strct j7 2 _ rfl
theorem anu :A6 Tryz.prog 76 3 3 1 false:=⟨⟨_,_,Tryz.underlying76,rfl,rfl,ty3⟩,by decide⟩
theorem uk :Sub ap 3 (Rp.int .i64) D4.many:=Sub.strct j7 3 _ rfl
theorem abt :Upd ap 3 (Rp.int .i64) (fun x y=>{x with many:=y}):=Upd.strct j7 3 (fd:=⟨_,Rp.int .i64,D4.many⟩) rfl (fun _ _=>rfl) qbu
theorem ago :Upd ap 2 Rp.str (fun x y=>{x with method:=y}):=Upd.strct j7 2 (fd:=⟨_,Rp.str,D4.method⟩) rfl (fun _ _=>rfl) qbu
theorem ama :Upd am 3 (Rp.list af) (fun x y=>{x with Seen:=y}):=Upd.strct xy 3 (fd:=⟨_,Rp.list af,B6.Seen⟩) rfl (fun _ _=>rfl) qbu
theorem ty47 :A5 Tryz.prog 47 3 true:=⟨Tryz.sizeOf47,Tryz.isAgg47⟩
theorem avg :A6 Tryz.prog 47 0 0 1 false:=⟨⟨_,_,Tryz.underlying47,rfl,rfl,ty3⟩,by decide⟩
theorem aeu :Sub al 0 (Rp.int .i64) B7.File:=Sub.strct an0 0 _ rfl
theorem avf :A6 Tryz.prog 47 1 1 1 false:=⟨⟨_,_,Tryz.underlying47,rfl,rfl,ty3⟩,by decide⟩
theorem ahp :Sub al 1 (Rp.int .i64) B7.At:=Sub.strct an0 1 _ rfl
theorem el126 :A7 Tryz.prog 126 3 1 8:=⟨Tryz.underlying126,⟨Tryz.t3,_,rfl,rfl,rfl,rfl,rfl⟩,by decide⟩
theorem ave :A6 Tryz.prog 47 2 2 1 false:=⟨⟨_,_,Tryz.underlying47,rfl,rfl,ty9⟩,by decide⟩
theorem aho :Sub al 2 Rp.str B7.Id:=Sub.strct an0 2 _ rfl
theorem el195 :A7 Tryz.prog 195 5 1 1:=⟨Tryz.underlying195,⟨Tryz.t5,_,rfl,rfl,rfl,rfl,rfl⟩,by decide⟩
theorem st45 :StOK Tryz.prog 45 ahi (C5.mk 0 [] 0 []):=stOK Tryz.underlying45 Tryz.zeroValue45 (fun _=>⟨_,_,rfl,rfl,⟨_,_,rfl,rfl,⟨_,_,rfl,rfl,⟨_,_,rfl,rfl,rfl⟩⟩⟩⟩) ⟨rfl,Tryz.sizeOf3,rfl,Tryz.sizeOf9,rfl,Tryz.sizeOf3,rfl,Tryz.sizeOf9,trivial⟩
theorem el41 :A7 Tryz.prog 41 45 4 48:=⟨Tryz.underlying41,⟨Tryz.t45,_,rfl,rfl,rfl,rfl,rfl⟩,by decide⟩
theorem zo :A6 Tryz.prog 45 1 1 1 false:=⟨⟨_,_,Tryz.underlying45,rfl,rfl,ty9⟩,by decide⟩
theorem fr :Sub bw 1 Rp.str C5.Text:=Sub.strct ahi 1 _ rfl
theorem anz :A6 Tryz.prog 45 0 0 1 false:=⟨⟨_,_,Tryz.underlying45,rfl,rfl,ty3⟩,by decide⟩
theorem rl :Sub bw 0 (Rp.int .i64) C5.Kind:=Sub.strct ahi 0 _ rfl
theorem st97 :StOK Tryz.prog 97 agi (C6.mk 0 0):=stOK Tryz.underlying97 Tryz.zeroValue97 (fun _=>⟨_,_,rfl,rfl,⟨_,_,rfl,rfl,rfl⟩⟩) ⟨rfl,Tryz.sizeOf3,rfl,Tryz.sizeOf28,trivial⟩
theorem ty97 :A5 Tryz.prog 97 2 true:=⟨Tryz.sizeOf97,Tryz.isAgg97⟩
theorem aer :A6 Tryz.prog 45 2 2 1 false:=⟨⟨_,_,Tryz.underlying45,rfl,rfl,ty3⟩,by decide⟩
theorem jz :Sub bw 2 (Rp.int .i64) C5.At:=Sub.strct ahi 2 _ rfl
theorem ah3 :Upd ag 2 Rp.str (fun x y=>{x with Type_:=y}):=Upd.ofEq a8 (Upd.strct nv 2 (fd:=⟨_,Rp.str,B5.Type_⟩) rfl (fun _ _=>rfl) qbu)
theorem afx :Upd ag 7 (Rp.int .i64) (fun x y=>{x with TypeAt:=y}):=Upd.ofEq a8 (Upd.strct nv 7 (fd:=⟨_,Rp.int .i64,B5.TypeAt⟩) rfl (fun _ _=>rfl) qbu)
theorem qd :Upd ag 1 Rp.str (fun x y=>{x with Text:=y}):=Upd.ofEq a8 (Upd.strct nv 1 (fd:=⟨_,Rp.str,B5.Text⟩) rfl (fun _ _=>rfl) qbu)
theorem yh :Upd ag 6 (Rp.int .i64) (fun x y=>{x with At:=y}):=Upd.ofEq a8 (Upd.strct nv 6 (fd:=⟨_,Rp.int .i64,B5.At⟩) rfl (fun _ _=>rfl) qbu)
theorem el224 :A7 Tryz.prog 224 22 1 24:=⟨Tryz.underlying224,⟨Tryz.t22,_,rfl,rfl,rfl,rfl,rfl⟩,by decide⟩
theorem nf :A6 Tryz.prog 97 0 0 1 false:=⟨⟨_,_,Tryz.underlying97,rfl,rfl,ty3⟩,by decide⟩
theorem cd :Sub ah 0 (Rp.int .i64) C6.Place:=Sub.strct agi 0 _ rfl
theorem ahk :Upd ag 3 (Rp.int .i64) (fun x y=>{x with N:=y}):=Upd.ofEq a8 (Upd.strct nv 3 (fd:=⟨_,Rp.int .i64,B5.N⟩) rfl (fun _ _=>rfl) qbu)
theorem aoz :Upd ag 0 (Rp.int .i64) (fun x y=>{x with Kind:=y}):=Upd.ofEq a8 (Upd.strct nv 0 (fd:=⟨_,Rp.int .i64,B5.Kind⟩) rfl (fun _ _=>rfl) qbu)
theorem ao0 :Upd ag 8 (Rp.list ag) (fun x y=>{x with Kids:=y}):=Upd.ofEq a8 (Upd.strct nv 8 (fd:=⟨_,Rp.list ag,B5.Kids⟩) rfl (fun _ _=>rfl) qbu)
theorem fld64_5 :A6 Tryz.prog 64 5 5 1 false:=⟨⟨_,_,Tryz.underlying64,rfl,rfl,ty3⟩,by decide⟩
theorem asq :Upd ag 5 (Rp.int .i64) (fun x y=>{x with To:=y}):=Upd.ofEq a8 (Upd.strct nv 5 (fd:=⟨_,Rp.int .i64,B5.To⟩) rfl (fun _ _=>rfl) qbu)
theorem fld97_1 :A6 Tryz.prog 97 1 1 1 false:=⟨⟨_,_,Tryz.underlying97,rfl,rfl,ty28⟩,by decide⟩
theorem aku :Sub ah 1 (Rp.int .i64) C6.Code:=Sub.strct agi 1 _ rfl
theorem alq :A6 Tryz.prog 30 0 0 1 false:=⟨⟨_,_,Tryz.underlying30,rfl,rfl,ty28⟩,by decide⟩
theorem lu :Sub az 0 (Rp.int .i64) B3.Code:=Sub.strct ajn 0 _ rfl
theorem el24 :A7 Tryz.prog 24 53 1 24:=⟨Tryz.underlying24,⟨Tryz.t53,_,rfl,rfl,rfl,rfl,rfl⟩,by decide⟩
theorem st66 :StOK Tryz.prog 66 xy (B6.mk [] [] false []):=stOK Tryz.underlying66 Tryz.zeroValue66 (fun _=>⟨_,_,rfl,⟨_,rfl,none,0,rfl,⟨Nat.le_refl _,fun _=>rfl⟩,.inl rfl⟩,⟨_,_,rfl,rfl,⟨_,_,rfl,rfl,⟨_,_,rfl,⟨_,rfl,none,0,rfl,⟨Nat.le_refl _,fun _=>rfl⟩,.inl rfl⟩,rfl⟩⟩⟩⟩) ⟨rfl,Tryz.sizeOf38,rfl,Tryz.sizeOf9,rfl,Tryz.sizeOf4,rfl,Tryz.sizeOf38,trivial⟩
theorem ao3 :StOK Tryz.prog 76 j7 (D4.mk (.slice none 0 0) 0 [] 0):=stOK Tryz.underlying76 Tryz.zeroValue76 (fun _=>⟨_,_,rfl,⟨rfl,rfl⟩,⟨_,_,rfl,rfl,⟨_,_,rfl,rfl,⟨_,_,rfl,rfl,rfl⟩⟩⟩⟩) ⟨rfl,Tryz.sizeOf27,rfl,Tryz.sizeOf3,rfl,Tryz.sizeOf9,rfl,Tryz.sizeOf3,trivial⟩
theorem aia :Upd ap 1 (Rp.int .i64) (fun x y=>{x with file:=y}):=Upd.strct j7 1 (fd:=⟨_,Rp.int .i64,D4.file⟩) rfl (fun _ _=>rfl) qbu
theorem en39 :ab8 Tryz.prog 39:=⟨_,Tryz.func39,by decide,rfl⟩
theorem en36 :ab8 Tryz.prog 36:=⟨_,Tryz.func36,by decide,rfl⟩
theorem fld72_0 :A6 Tryz.prog 72 0 0 3 true:=⟨⟨_,_,Tryz.underlying72,rfl,rfl,ty30⟩,by decide⟩
theorem aps :Sub ku 0 az B9.m:=Sub.strct al2 0 _ rfl
end Go.Proofs.YtcndghapmoaidaaGreatDoor
