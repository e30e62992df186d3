/- What the program's tables say (printed by wip/gen/gen.py). -/
import Derived.Test.YtcndghapmoaidaaGreatDoorProg
import Derived.Test.YtcndghapmoaidaaGreatDoorZJ
import Derived.Test.YtcndghapmoaidaaGreatDoorZT
set_option linter.unusedSimpArgs false
set_option linter.unusedVariables false
set_option linter.unusedSectionVars false
set_option linter.unusedSectionVars false
set_option maxRecDepth 100000
set_option maxHeartbeats 4000000
namespace Go.Proofs.YtcndghapmoaidaaGreatDoor
open Go Go.Cn
instance theGlob :Glob where
 ok s:=s.F 0/\∃T fz,s.w.heap[0]? =some (.cells (Lib.pow10Tab.map fun z=>Value.int .u64 z).toArray T fz)
 mono _ _ h k:=⟨h.fin _ k.1,by rw[h.blk _ k.1];exact k.2⟩
abbrev Fp :=FnP Tryz.prog
abbrev Fc :=FnC Tryz.prog
theorem hmx :Tryz.prog.follows .mixedOrders=true:=by kernel_rfl
def q7 :List (Go.Cn.Fd A9):=[⟨_,Rp.int .i64,A9.Kind⟩,⟨_,Rp.str,A9.Id⟩,⟨_,Rp.str,A9.Name⟩,⟨_,Rp.str,A9.Owner⟩,⟨_,Rp.str,A9.Type_⟩,⟨_,Rp.bool,A9.Static⟩,⟨_,Rp.list Rp.str,A9.Params⟩,⟨_,Rp.int .i64,A9.File⟩,⟨_,Rp.int .i64,A9.At⟩]
abbrev ab :Rp A9:=Rp.strct q7
def aol :List (Go.Cn.Fd B0):=[⟨_,Rp.int .i64,B0.kind⟩,⟨_,Rp.str,B0.owner⟩,⟨_,Rp.str,B0.name⟩]
abbrev d8 :Rp B0:=Rp.strct aol
def ahf :List (Go.Cn.Fd B3):=[⟨_,Rp.int .i64,B3.Code⟩,⟨_,Rp.int .i64,B3.File⟩,⟨_,Rp.int .i64,B3.At⟩]
abbrev ay :Rp B3:=Rp.strct ahf
def a0c :List (FG B5):=[FG.const (Rp.int .i64) B5.Kind,FG.const (Rp.str) B5.Text,FG.const (Rp.str) B5.Type_,FG.const (Rp.int .i64) B5.N,FG.const (Rp.int .i64) B5.From,FG.const (Rp.int .i64) B5.To,FG.const (Rp.int .i64) B5.At,FG.const (Rp.int .i64) B5.TypeAt,FG.list B5.Kids]
def af :Rp B5:=ahw a0c 9 rfl
def og :List (Go.Cn.Fd B5):=[⟨_,Rp.int .i64,B5.Kind⟩,⟨_,Rp.str,B5.Text⟩,⟨_,Rp.str,B5.Type_⟩,⟨_,Rp.int .i64,B5.N⟩,⟨_,Rp.int .i64,B5.From⟩,⟨_,Rp.int .i64,B5.To⟩,⟨_,Rp.int .i64,B5.At⟩,⟨_,Rp.int .i64,B5.TypeAt⟩,⟨_,Rp.list af,B5.Kids⟩]
theorem bi :af=Rp.strct og:=azg _
def yp :List (Go.Cn.Fd B6):=[⟨_,Rp.list ab,B6.Table⟩,⟨_,Rp.str,B6.Class⟩,⟨_,Rp.bool,B6.Static⟩,⟨_,Rp.list ab,B6.Seen⟩]
abbrev aq :Rp B6:=Rp.strct yp
def amd :List (Go.Cn.Fd B7):=[⟨_,Rp.int .i64,B7.File⟩,⟨_,Rp.int .i64,B7.At⟩,⟨_,Rp.str,B7.Id⟩]
abbrev ak :Rp B7:=Rp.strct amd
def amp :List (Go.Cn.Fd B9):=[⟨_,ay,B9.m⟩]
abbrev k8 :Rp B9:=Rp.strct amp
def aio :List (Go.Cn.Fd C5):=[⟨_,Rp.int .i64,C5.Kind⟩,⟨_,Rp.str,C5.Text⟩,⟨_,Rp.int .i64,C5.At⟩,⟨_,Rp.str,C5.Lead⟩]
abbrev bu :Rp C5:=Rp.strct aio
def ahe :List (Go.Cn.Fd C6):=[⟨_,Rp.int .i64,C6.Place⟩,⟨_,Rp.int .i64,C6.Code⟩]
abbrev ah :Rp C6:=Rp.strct ahe
def ue :List (Go.Cn.Fd C8):=[⟨_,Rp.list ab,C8.Table⟩,⟨_,Rp.str,C8.Class⟩,⟨_,Rp.bool,C8.Static⟩,⟨_,Rp.list ab,C8.Seen⟩]
abbrev aw :Rp C8:=Rp.strct ue
def ql :List (Go.Cn.Fd D0):=[⟨_,q6,D0.l⟩,⟨_,q6,D0.known⟩,⟨_,ay,D0.m⟩]
abbrev bh :Rp D0:=Rp.strct ql
def lh :List (Go.Cn.Fd D1):=[⟨_,Rp.int .i64,D1.Kind⟩,⟨_,Rp.str,D1.Id⟩,⟨_,Rp.str,D1.Name⟩,⟨_,Rp.str,D1.Owner⟩,⟨_,Rp.str,D1.Type_⟩,⟨_,Rp.bool,D1.Static⟩,⟨_,q6,D1.Params⟩,⟨_,Rp.int .i64,D1.File⟩,⟨_,Rp.int .i64,D1.At⟩]
abbrev bo :Rp D1:=Rp.strct lh
def kh :List (Go.Cn.Fd D2):=[⟨_,q6,D2.uses⟩,⟨_,Rp.int .i64,D2.file⟩,⟨_,Rp.str,D2.method⟩,⟨_,Rp.int .i64,D2.many⟩]
abbrev av :Rp D2:=Rp.strct kh
def i8 :List (Go.Cn.Fd D3):=[⟨_,q6,D3.L⟩,⟨_,ay,D3.M⟩,⟨_,Rp.int .i64,D3.File⟩,⟨_,Rp.str,D3.Method⟩,⟨_,Rp.int .i64,D3.Many⟩]
abbrev ai :Rp D3:=Rp.strct i8
def xu (f:(A9->Option Bool)):List Pr->Pr->Prop:=fun args res=>∃(a0:A9) (r:Bool),args=[(ab).val a0]/\res=Pb r/\f a0=some r
def afr (f:((List A9)->Bt->Bt->Option (A9 × Bool))):List Pr->Pr->Prop:=fun args res=>∃(a0:List A9) (a1:Bt) (a2:Bt) (r:A9 × Bool),args=[ao ab a0,Pr.str a1,Pr.str a2]/\res=bj [(ab).val r.1,Pb r.2]/\f a0 a1 a2=some r
def g8 (f:(B7->B7->Option Int)):List Pr->Pr->Prop:=fun args res=>∃(a0:B7) (a1:B7) (r:Int),args=[(ak).val a0,(ak).val a1]/\res=P6 r/\f a0 a1=some r
theorem st30 :StOK Tryz.prog 30 ahf (B3.mk 0 0 0):=stOK Tryz.underlying30 Tryz.zeroValue30 (fun _=>⟨_,_,rfl,rfl,⟨_,_,rfl,rfl,⟨_,_,rfl,rfl,rfl⟩⟩⟩) ⟨rfl,Tryz.sizeOf28,rfl,Tryz.sizeOf3,rfl,Tryz.sizeOf3,trivial⟩
theorem ty30 :A5 Tryz.prog 30 3 true:=⟨Tryz.sizeOf30,Tryz.isAgg30⟩
theorem awd :A6 Tryz.prog 118 2 2 3 true:=⟨⟨_,_,Tryz.underlying118,rfl,rfl,ty30⟩,by decide⟩
theorem alb :Upd bh 2 ay (fun x y=>{x with m:=y}):=Upd.strct ql 2 (fd:=⟨_,ay,D0.m⟩) rfl (fun _ _=>rfl) qbu
theorem ty3 :A5 Tryz.prog 3 1 false:=⟨Tryz.sizeOf3,Tryz.isAgg3⟩
theorem ol :A6 Tryz.prog 49 0 0 1 false:=⟨⟨_,_,Tryz.underlying49,rfl,rfl,ty3⟩,by decide⟩
theorem db :Sub ab 0 (Rp.int .i64) A9.Kind:=Sub.strct q7 0 _ rfl
theorem ty9 :A5 Tryz.prog 9 1 false:=⟨Tryz.sizeOf9,Tryz.isAgg9⟩
theorem aid :A6 Tryz.prog 49 3 3 1 false:=⟨⟨_,_,Tryz.underlying49,rfl,rfl,ty9⟩,by decide⟩
theorem km :Sub ab 3 Rp.str A9.Owner:=Sub.strct q7 3 _ rfl
theorem aaf :A6 Tryz.prog 49 2 2 1 false:=⟨⟨_,_,Tryz.underlying49,rfl,rfl,ty9⟩,by decide⟩
theorem f0 :Sub ab 2 Rp.str A9.Name:=Sub.strct q7 2 _ rfl
theorem st187 :StOK Tryz.prog 187 aol (B0.mk 0 [] []):=stOK Tryz.underlying187 Tryz.zeroValue187 (fun _=>⟨_,_,rfl,rfl,⟨_,_,rfl,rfl,⟨_,_,rfl,rfl,rfl⟩⟩⟩) ⟨rfl,Tryz.sizeOf3,rfl,Tryz.sizeOf9,rfl,Tryz.sizeOf9,trivial⟩
theorem ty116 :A5 Tryz.prog 116 1 false:=⟨Tryz.sizeOf116,Tryz.isAgg116⟩
theorem awe :A6 Tryz.prog 118 1 1 1 false:=⟨⟨_,_,Tryz.underlying118,rfl,rfl,ty116⟩,by decide⟩
theorem aac :Sub bh 1 q6 D0.known:=Sub.strct ql 1 _ rfl
theorem ty187 :A5 Tryz.prog 187 3 true:=⟨Tryz.sizeOf187,Tryz.isAgg187⟩
theorem aw1 :EqOK Tryz.prog 187 d8 2:=amq Tryz.underlying187 (by kernel_rfl) ⟨by decide,rfl,(aey Tryz.underlying3),ty3,by decide,rfl,(akp Tryz.underlying9),ty9,by decide,rfl,(akp Tryz.underlying9),ty9,trivial⟩ (fun x y h=>by cases x;cases y;simpa [aol] using h)
theorem aor :KeyOK Tryz.prog 187 d8 2:=keyOK Tryz.underlying187 aw1 dcd ⟨by decide,rfl,(aey Tryz.underlying3),ty3,by decide,rfl,(akp Tryz.underlying9),ty9,by decide,rfl,(akp Tryz.underlying9),ty9,trivial⟩ ⟨plk_int,⟨_,Tryz.underlying3,rfl⟩,ax8,⟨_,Tryz.underlying9,rfl⟩,ax8,⟨_,Tryz.underlying9,rfl⟩,trivial⟩
theorem amb :A6 Tryz.prog 49 7 7 1 false:=⟨⟨_,_,Tryz.underlying49,rfl,rfl,ty3⟩,by decide⟩
theorem vl :Sub ab 7 (Rp.int .i64) A9.File:=Sub.strct q7 7 _ rfl
theorem arv :A6 Tryz.prog 49 8 8 1 false:=⟨⟨_,_,Tryz.underlying49,rfl,rfl,ty3⟩,by decide⟩
theorem zn :Sub ab 8 (Rp.int .i64) A9.At:=Sub.strct q7 8 _ rfl
theorem ty38 :A5 Tryz.prog 38 1 false:=⟨Tryz.sizeOf38,Tryz.isAgg38⟩
theorem ako :A6 Tryz.prog 118 0 0 1 false:=⟨⟨_,_,Tryz.underlying118,rfl,rfl,ty38⟩,by decide⟩
theorem z5 :Sub bh 0 q6 D0.l:=Sub.strct ql 0 _ rfl
theorem ty49 :A5 Tryz.prog 49 9 true:=⟨Tryz.sizeOf49,Tryz.isAgg49⟩
theorem el38 :A7 Tryz.prog 38 49 9 120:=⟨Tryz.underlying38,⟨Tryz.t49,_,rfl,rfl,rfl,rfl,rfl⟩,by decide⟩
theorem afg :Upd bh 0 q6 (fun x y=>{x with l:=y}):=Upd.strct ql 0 (fd:=⟨_,q6,D0.l⟩) rfl (fun _ _=>rfl) qbu
theorem en177 :act Tryz.prog 177:=⟨_,Tryz.func177,by decide,rfl⟩
theorem ll :A6 Tryz.prog 49 1 1 1 false:=⟨⟨_,_,Tryz.underlying49,rfl,rfl,ty9⟩,by decide⟩
theorem tn :Sub bo 1 Rp.str D1.Id:=Sub.strct lh 1 _ rfl
theorem ec :A6 Tryz.prog 64 1 1 1 false:=⟨⟨_,_,Tryz.underlying64,rfl,rfl,ty9⟩,by decide⟩
theorem bb :Sub af 1 Rp.str B5.Text:=Sub.ofEq bi (Sub.strct og 1 _ rfl)
theorem ti :A6 Tryz.prog 64 2 2 1 false:=⟨⟨_,_,Tryz.underlying64,rfl,rfl,ty9⟩,by decide⟩
theorem fj :Sub af 2 Rp.str B5.Type_:=Sub.ofEq bi (Sub.strct og 2 _ rfl)
theorem acu :Sub bo 7 (Rp.int .i64) D1.File:=Sub.strct lh 7 _ rfl
theorem mi :A6 Tryz.prog 64 6 6 1 false:=⟨⟨_,_,Tryz.underlying64,rfl,rfl,ty3⟩,by decide⟩
theorem fe :Sub af 6 (Rp.int .i64) B5.At:=Sub.ofEq bi (Sub.strct og 6 _ rfl)
theorem st49 :StOK Tryz.prog 49 q7 (A9.mk 0 [] [] [] [] false [] 0 0):=stOK Tryz.underlying49 Tryz.zeroValue49 (fun _=>⟨_,_,rfl,rfl,⟨_,_,rfl,rfl,⟨_,_,rfl,rfl,⟨_,_,rfl,rfl,⟨_,_,rfl,rfl,⟨_,_,rfl,rfl,⟨_,_,rfl,⟨_,rfl,none,0,rfl,⟨Nat.le_refl _,fun _=>rfl⟩,.inl rfl⟩,⟨_,_,rfl,rfl,⟨_,_,rfl,rfl,rfl⟩⟩⟩⟩⟩⟩⟩⟩⟩) ⟨rfl,Tryz.sizeOf3,rfl,Tryz.sizeOf9,rfl,Tryz.sizeOf9,rfl,Tryz.sizeOf9,rfl,Tryz.sizeOf9,rfl,Tryz.sizeOf4,rfl,Tryz.sizeOf22,rfl,Tryz.sizeOf3,rfl,Tryz.sizeOf3,trivial⟩
theorem ty64 :A5 Tryz.prog 64 9 true:=⟨Tryz.sizeOf64,Tryz.isAgg64⟩
theorem ty53 :A5 Tryz.prog 53 1 false:=⟨Tryz.sizeOf53,Tryz.isAgg53⟩
theorem kw :A6 Tryz.prog 64 8 8 1 false:=⟨⟨_,_,Tryz.underlying64,rfl,rfl,ty53⟩,by decide⟩
theorem cn :Sub af 8 (Rp.list af) B5.Kids:=Sub.ofEq bi (Sub.strct og 8 _ rfl)
theorem e8 :A6 Tryz.prog 64 0 0 1 false:=⟨⟨_,_,Tryz.underlying64,rfl,rfl,ty3⟩,by decide⟩
theorem a8 :Sub af 0 (Rp.int .i64) B5.Kind:=Sub.ofEq bi (Sub.strct og 0 _ rfl)
theorem el53 :A7 Tryz.prog 53 64 9 104:=⟨Tryz.underlying53,⟨Tryz.t64,_,rfl,rfl,rfl,rfl,rfl⟩,by decide⟩
theorem st64 :StOK Tryz.prog 64 og (B5.mk 0 [] [] 0 0 0 0 0 []):=stOK Tryz.underlying64 Tryz.zeroValue64 (fun _=>⟨_,_,rfl,rfl,⟨_,_,rfl,rfl,⟨_,_,rfl,rfl,⟨_,_,rfl,rfl,⟨_,_,rfl,rfl,⟨_,_,rfl,rfl,⟨_,_,rfl,rfl,⟨_,_,rfl,rfl,⟨_,_,rfl,⟨_,rfl,none,0,rfl,⟨Nat.le_refl _,fun _=>rfl⟩,.inl rfl⟩,rfl⟩⟩⟩⟩⟩⟩⟩⟩⟩) ⟨rfl,Tryz.sizeOf3,rfl,Tryz.sizeOf9,rfl,Tryz.sizeOf9,rfl,Tryz.sizeOf2,rfl,Tryz.sizeOf3,rfl,Tryz.sizeOf3,rfl,Tryz.sizeOf3,rfl,Tryz.sizeOf3,rfl,Tryz.sizeOf53,trivial⟩
theorem ai7 :Sub bo 3 Rp.str D1.Owner:=Sub.strct lh 3 _ rfl
theorem ajm :Sub bo 2 Rp.str D1.Name:=Sub.strct lh 2 _ rfl
theorem vt :Upd bo 0 (Rp.int .i64) (fun x y=>{x with Kind:=y}):=Upd.strct lh 0 (fd:=⟨_,Rp.int .i64,D1.Kind⟩) rfl (fun _ _=>rfl) qbu
theorem z0 :Upd bo 1 Rp.str (fun x y=>{x with Id:=y}):=Upd.strct lh 1 (fd:=⟨_,Rp.str,D1.Id⟩) rfl (fun _ _=>rfl) qbu
theorem ty22 :A5 Tryz.prog 22 1 false:=⟨Tryz.sizeOf22,Tryz.isAgg22⟩
theorem aib :A6 Tryz.prog 49 6 6 1 false:=⟨⟨_,_,Tryz.underlying49,rfl,rfl,ty22⟩,by decide⟩
theorem aad :Sub bo 6 q6 D1.Params:=Sub.strct lh 6 _ rfl
theorem el22 :A7 Tryz.prog 22 9 1 16:=⟨Tryz.underlying22,⟨Tryz.t9,_,rfl,rfl,rfl,rfl,rfl⟩,by decide⟩
theorem aab :Upd bo 6 q6 (fun x y=>{x with Params:=y}):=Upd.strct lh 6 (fd:=⟨_,q6,D1.Params⟩) rfl (fun _ _=>rfl) qbu
theorem ty2 :A5 Tryz.prog 2 1 false:=⟨Tryz.sizeOf2,Tryz.isAgg2⟩
theorem aia :A6 Tryz.prog 64 3 3 1 false:=⟨⟨_,_,Tryz.underlying64,rfl,rfl,ty2⟩,by decide⟩
theorem abx :Sub af 3 (Rp.int .i64) B5.N:=Sub.ofEq bi (Sub.strct og 3 _ rfl)
theorem ty4 :A5 Tryz.prog 4 1 false:=⟨Tryz.sizeOf4,Tryz.isAgg4⟩
theorem ajv :StOK Tryz.prog 49 lh (D1.mk 0 [] [] [] [] false (.slice none 0 0) 0 0):=stOK Tryz.underlying49 Tryz.zeroValue49 (fun _=>⟨_,_,rfl,rfl,⟨_,_,rfl,rfl,⟨_,_,rfl,rfl,⟨_,_,rfl,rfl,⟨_,_,rfl,rfl,⟨_,_,rfl,rfl,⟨_,_,rfl,⟨rfl,rfl⟩,⟨_,_,rfl,rfl,⟨_,_,rfl,rfl,rfl⟩⟩⟩⟩⟩⟩⟩⟩⟩) ⟨rfl,Tryz.sizeOf3,rfl,Tryz.sizeOf9,rfl,Tryz.sizeOf9,rfl,Tryz.sizeOf9,rfl,Tryz.sizeOf9,rfl,Tryz.sizeOf4,rfl,Tryz.sizeOf22,rfl,Tryz.sizeOf3,rfl,Tryz.sizeOf3,trivial⟩
theorem ao4 :StOK Tryz.prog 118 ql (D0.mk (.slice none 0 0) (.map none) (B3.mk 0 0 0)):=stOK Tryz.underlying118 Tryz.zeroValue118 (fun _=>⟨_,_,rfl,⟨rfl,rfl⟩,⟨_,_,rfl,⟨rfl,rfl⟩,⟨_,_,rfl,⟨_,_,rfl,rfl,⟨_,_,rfl,rfl,⟨_,_,rfl,rfl,rfl⟩⟩⟩,rfl⟩⟩⟩) ⟨rfl,Tryz.sizeOf38,rfl,Tryz.sizeOf116,rfl,Tryz.sizeOf30,trivial⟩
theorem ald :Sub bh 2 ay D0.m:=Sub.strct ql 2 _ rfl
theorem dw :Sub ab 1 Rp.str A9.Id:=Sub.strct q7 1 _ rfl
theorem tj :A6 Tryz.prog 49 4 4 1 false:=⟨⟨_,_,Tryz.underlying49,rfl,rfl,ty9⟩,by decide⟩
theorem dm :Sub ab 4 Rp.str A9.Type_:=Sub.strct q7 4 _ rfl
theorem ty148 :A5 Tryz.prog 148 1 false:=⟨Tryz.sizeOf148,Tryz.isAgg148⟩
theorem en156 :act Tryz.prog 156:=⟨_,Tryz.func156,by decide,rfl⟩
theorem en157 :act Tryz.prog 157:=⟨_,Tryz.func157,by decide,rfl⟩
theorem aic :A6 Tryz.prog 49 5 5 1 false:=⟨⟨_,_,Tryz.underlying49,rfl,rfl,ty4⟩,by decide⟩
theorem ix :Sub ab 5 Rp.bool A9.Static:=Sub.strct q7 5 _ rfl
theorem r7 :Sub ab 6 (Rp.list Rp.str) A9.Params:=Sub.strct q7 6 _ rfl
theorem an6 :A6 Tryz.prog 66 0 0 1 false:=⟨⟨_,_,Tryz.underlying66,rfl,rfl,ty38⟩,by decide⟩
theorem o4 :Sub aq 0 (Rp.list ab) B6.Table:=Sub.strct yp 0 _ rfl
theorem art :A6 Tryz.prog 76 1 1 1 false:=⟨⟨_,_,Tryz.underlying76,rfl,rfl,ty3⟩,by decide⟩
theorem ve :Sub av 1 (Rp.int .i64) D2.file:=Sub.strct kh 1 _ rfl
theorem st72 :StOK Tryz.prog 72 amp (B9.mk (B3.mk 0 0 0)):=stOK Tryz.underlying72 Tryz.zeroValue72 (fun _=>⟨_,_,rfl,⟨_,_,rfl,rfl,⟨_,_,rfl,rfl,⟨_,_,rfl,rfl,rfl⟩⟩⟩,rfl⟩) ⟨rfl,Tryz.sizeOf30,trivial⟩
theorem ty27 :A5 Tryz.prog 27 1 false:=⟨Tryz.sizeOf27,Tryz.isAgg27⟩
theorem aru :A6 Tryz.prog 76 0 0 1 false:=⟨⟨_,_,Tryz.underlying76,rfl,rfl,ty27⟩,by decide⟩
theorem vc :Sub av 0 q6 D2.uses:=Sub.strct kh 0 _ rfl
theorem st47 :StOK Tryz.prog 47 amd (B7.mk 0 0 []):=stOK Tryz.underlying47 Tryz.zeroValue47 (fun _=>⟨_,_,rfl,rfl,⟨_,_,rfl,rfl,⟨_,_,rfl,rfl,rfl⟩⟩⟩) ⟨rfl,Tryz.sizeOf3,rfl,Tryz.sizeOf3,rfl,Tryz.sizeOf9,trivial⟩
theorem el27 :A7 Tryz.prog 27 47 3 32:=⟨Tryz.underlying27,⟨Tryz.t47,_,rfl,rfl,rfl,rfl,rfl⟩,by decide⟩
theorem ai5 :Upd av 0 q6 (fun x y=>{x with uses:=y}):=Upd.strct kh 0 (fd:=⟨_,q6,D2.uses⟩) rfl (fun _ _=>rfl) qbu
theorem ah9 :A6 Tryz.prog 64 7 7 1 false:=⟨⟨_,_,Tryz.underlying64,rfl,rfl,ty3⟩,by decide⟩
theorem nl :Sub af 7 (Rp.int .i64) B5.TypeAt:=Sub.ofEq bi (Sub.strct og 7 _ rfl)
theorem ty66 :A5 Tryz.prog 66 4 true:=⟨Tryz.sizeOf66,Tryz.isAgg66⟩
theorem al9 :A6 Tryz.prog 66 2 2 1 false:=⟨⟨_,_,Tryz.underlying66,rfl,rfl,ty4⟩,by decide⟩
theorem yf :Sub aq 2 Rp.bool B6.Static:=Sub.strct yp 2 _ rfl
theorem au8 :A6 Tryz.prog 66 3 3 1 false:=⟨⟨_,_,Tryz.underlying66,rfl,rfl,ty38⟩,by decide⟩
theorem ag6 :Sub aq 3 (Rp.list ab) B6.Seen:=Sub.strct yp 3 _ rfl
theorem ama :A6 Tryz.prog 66 1 1 1 false:=⟨⟨_,_,Tryz.underlying66,rfl,rfl,ty9⟩,by decide⟩
theorem l7 :Sub aq 1 Rp.str B6.Class:=Sub.strct yp 1 _ rfl
theorem ty28 :A5 Tryz.prog 28 1 false:=⟨Tryz.sizeOf28,Tryz.isAgg28⟩
theorem en113 :act Tryz.prog 113:=⟨_,Tryz.func113,by decide,rfl⟩
theorem en117 :act Tryz.prog 117:=⟨_,Tryz.func117,by decide,rfl⟩
theorem ye :Upd aq 2 Rp.bool (fun x y=>{x with Static:=y}):=Upd.strct yp 2 (fd:=⟨_,Rp.bool,B6.Static⟩) rfl (fun _ _=>rfl) qbu
theorem au9 :A6 Tryz.prog 64 4 4 1 false:=⟨⟨_,_,Tryz.underlying64,rfl,rfl,ty3⟩,by decide⟩
theorem aeh :Sub af 4 (Rp.int .i64) B5.From:=Sub.ofEq bi (Sub.strct og 4 _ rfl)
theorem ars :A6 Tryz.prog 76 2 2 1 false:=⟨⟨_,_,Tryz.underlying76,rfl,rfl,ty9⟩,by decide⟩
theorem sd :Sub av 2 Rp.str D2.method:=Sub.strct kh 2 _ rfl
theorem an5 :A6 Tryz.prog 76 3 3 1 false:=⟨⟨_,_,Tryz.underlying76,rfl,rfl,ty3⟩,by decide⟩
theorem vd :Sub av 3 (Rp.int .i64) D2.many:=Sub.strct kh 3 _ rfl
theorem acf :Upd av 3 (Rp.int .i64) (fun x y=>{x with many:=y}):=Upd.strct kh 3 (fd:=⟨_,Rp.int .i64,D2.many⟩) rfl (fun _ _=>rfl) qbu
theorem ahp :Upd av 2 Rp.str (fun x y=>{x with method:=y}):=Upd.strct kh 2 (fd:=⟨_,Rp.str,D2.method⟩) rfl (fun _ _=>rfl) qbu
theorem amw :Upd aq 3 (Rp.list ab) (fun x y=>{x with Seen:=y}):=Upd.strct yp 3 (fd:=⟨_,Rp.list ab,B6.Seen⟩) rfl (fun _ _=>rfl) qbu
theorem ty47 :A5 Tryz.prog 47 3 true:=⟨Tryz.sizeOf47,Tryz.isAgg47⟩
theorem aie :A6 Tryz.prog 47 0 0 1 false:=⟨⟨_,_,Tryz.underlying47,rfl,rfl,ty3⟩,by decide⟩
theorem nd :Sub ak 0 (Rp.int .i64) B7.File:=Sub.strct amd 0 _ rfl
theorem amc :A6 Tryz.prog 47 1 1 1 false:=⟨⟨_,_,Tryz.underlying47,rfl,rfl,ty3⟩,by decide⟩
theorem yr :Sub ak 1 (Rp.int .i64) B7.At:=Sub.strct amd 1 _ rfl
theorem el126 :A7 Tryz.prog 126 3 1 8:=⟨Tryz.underlying126,⟨Tryz.t3,_,rfl,rfl,rfl,rfl,rfl⟩,by decide⟩
theorem an7 :A6 Tryz.prog 47 2 2 1 false:=⟨⟨_,_,Tryz.underlying47,rfl,rfl,ty9⟩,by decide⟩
theorem abw :Sub ak 2 Rp.str B7.Id:=Sub.strct amd 2 _ rfl
theorem el195 :A7 Tryz.prog 195 5 1 1:=⟨Tryz.underlying195,⟨Tryz.t5,_,rfl,rfl,rfl,rfl,rfl⟩,by decide⟩
theorem st45 :StOK Tryz.prog 45 aio (C5.mk 0 [] 0 []):=stOK Tryz.underlying45 Tryz.zeroValue45 (fun _=>⟨_,_,rfl,rfl,⟨_,_,rfl,rfl,⟨_,_,rfl,rfl,⟨_,_,rfl,rfl,rfl⟩⟩⟩⟩) ⟨rfl,Tryz.sizeOf3,rfl,Tryz.sizeOf9,rfl,Tryz.sizeOf3,rfl,Tryz.sizeOf9,trivial⟩
theorem el41 :A7 Tryz.prog 41 45 4 48:=⟨Tryz.underlying41,⟨Tryz.t45,_,rfl,rfl,rfl,rfl,rfl⟩,by decide⟩
theorem aag :A6 Tryz.prog 45 1 1 1 false:=⟨⟨_,_,Tryz.underlying45,rfl,rfl,ty9⟩,by decide⟩
theorem fy :Sub bu 1 Rp.str C5.Text:=Sub.strct aio 1 _ rfl
theorem an8 :A6 Tryz.prog 45 0 0 1 false:=⟨⟨_,_,Tryz.underlying45,rfl,rfl,ty3⟩,by decide⟩
theorem se :Sub bu 0 (Rp.int .i64) C5.Kind:=Sub.strct aio 0 _ rfl
theorem st97 :StOK Tryz.prog 97 ahe (C6.mk 0 0):=stOK Tryz.underlying97 Tryz.zeroValue97 (fun _=>⟨_,_,rfl,rfl,⟨_,_,rfl,rfl,rfl⟩⟩) ⟨rfl,Tryz.sizeOf3,rfl,Tryz.sizeOf28,trivial⟩
theorem ty97 :A5 Tryz.prog 97 2 true:=⟨Tryz.sizeOf97,Tryz.isAgg97⟩
theorem aft :A6 Tryz.prog 45 2 2 1 false:=⟨⟨_,_,Tryz.underlying45,rfl,rfl,ty3⟩,by decide⟩
theorem kf :Sub bu 2 (Rp.int .i64) C5.At:=Sub.strct aio 2 _ rfl
theorem ai0 :Upd af 2 Rp.str (fun x y=>{x with Type_:=y}):=Upd.ofEq bi (Upd.strct og 2 (fd:=⟨_,Rp.str,B5.Type_⟩) rfl (fun _ _=>rfl) qbu)
theorem ag5 :Upd af 7 (Rp.int .i64) (fun x y=>{x with TypeAt:=y}):=Upd.ofEq bi (Upd.strct og 7 (fd:=⟨_,Rp.int .i64,B5.TypeAt⟩) rfl (fun _ _=>rfl) qbu)
theorem q8 :Upd af 1 Rp.str (fun x y=>{x with Text:=y}):=Upd.ofEq bi (Upd.strct og 1 (fd:=⟨_,Rp.str,B5.Text⟩) rfl (fun _ _=>rfl) qbu)
theorem y5 :Upd af 6 (Rp.int .i64) (fun x y=>{x with At:=y}):=Upd.ofEq bi (Upd.strct og 6 (fd:=⟨_,Rp.int .i64,B5.At⟩) rfl (fun _ _=>rfl) qbu)
theorem el224 :A7 Tryz.prog 224 22 1 24:=⟨Tryz.underlying224,⟨Tryz.t22,_,rfl,rfl,rfl,rfl,rfl⟩,by decide⟩
theorem nn :A6 Tryz.prog 97 0 0 1 false:=⟨⟨_,_,Tryz.underlying97,rfl,rfl,ty3⟩,by decide⟩
theorem bw :Sub ah 0 (Rp.int .i64) C6.Place:=Sub.strct ahe 0 _ rfl
theorem air :Upd af 3 (Rp.int .i64) (fun x y=>{x with N:=y}):=Upd.ofEq bi (Upd.strct og 3 (fd:=⟨_,Rp.int .i64,B5.N⟩) rfl (fun _ _=>rfl) qbu)
theorem ao0 :Upd af 0 (Rp.int .i64) (fun x y=>{x with Kind:=y}):=Upd.ofEq bi (Upd.strct og 0 (fd:=⟨_,Rp.int .i64,B5.Kind⟩) rfl (fun _ _=>rfl) qbu)
theorem ao1 :Upd af 8 (Rp.list af) (fun x y=>{x with Kids:=y}):=Upd.ofEq bi (Upd.strct og 8 (fd:=⟨_,Rp.list af,B5.Kids⟩) rfl (fun _ _=>rfl) qbu)
theorem fld64_5 :A6 Tryz.prog 64 5 5 1 false:=⟨⟨_,_,Tryz.underlying64,rfl,rfl,ty3⟩,by decide⟩
theorem asl :Upd af 5 (Rp.int .i64) (fun x y=>{x with To:=y}):=Upd.ofEq bi (Upd.strct og 5 (fd:=⟨_,Rp.int .i64,B5.To⟩) rfl (fun _ _=>rfl) qbu)
theorem fld97_1 :A6 Tryz.prog 97 1 1 1 false:=⟨⟨_,_,Tryz.underlying97,rfl,rfl,ty28⟩,by decide⟩
theorem alc :Sub ah 1 (Rp.int .i64) C6.Code:=Sub.strct ahe 1 _ rfl
theorem aj5 :A6 Tryz.prog 30 0 0 1 false:=⟨⟨_,_,Tryz.underlying30,rfl,rfl,ty28⟩,by decide⟩
theorem kl :Sub ay 0 (Rp.int .i64) B3.Code:=Sub.strct ahf 0 _ rfl
theorem el24 :A7 Tryz.prog 24 53 1 24:=⟨Tryz.underlying24,⟨Tryz.t53,_,rfl,rfl,rfl,rfl,rfl⟩,by decide⟩
theorem au6 :A6 Tryz.prog 83 1 1 3 true:=⟨⟨_,_,Tryz.underlying83,rfl,rfl,ty30⟩,by decide⟩
theorem afh :Sub ai 1 ay D3.M:=Sub.strct i8 1 _ rfl
theorem ao3 :StOK Tryz.prog 83 i8 (D3.mk (.slice none 0 0) (B3.mk 0 0 0) 0 [] 0):=stOK Tryz.underlying83 Tryz.zeroValue83 (fun _=>⟨_,_,rfl,⟨rfl,rfl⟩,⟨_,_,rfl,⟨_,_,rfl,rfl,⟨_,_,rfl,rfl,⟨_,_,rfl,rfl,rfl⟩⟩⟩,⟨_,_,rfl,rfl,⟨_,_,rfl,rfl,⟨_,_,rfl,rfl,rfl⟩⟩⟩⟩⟩) ⟨rfl,Tryz.sizeOf27,rfl,Tryz.sizeOf30,rfl,Tryz.sizeOf3,rfl,Tryz.sizeOf9,rfl,Tryz.sizeOf3,trivial⟩
theorem arq :A6 Tryz.prog 83 2 4 1 false:=⟨⟨_,_,Tryz.underlying83,rfl,rfl,ty3⟩,by decide⟩
theorem vb :Sub ai 4 (Rp.int .i64) D3.File:=Sub.strct i8 2 _ rfl
theorem ak8 :Upd ai 1 ay (fun x y=>{x with M:=y}):=Upd.strct i8 1 (fd:=⟨_,ay,D3.M⟩) rfl (fun _ _=>rfl) qbu
theorem ty83 :A5 Tryz.prog 83 7 true:=⟨Tryz.sizeOf83,Tryz.isAgg83⟩
theorem au7 :A6 Tryz.prog 83 0 0 1 false:=⟨⟨_,_,Tryz.underlying83,rfl,rfl,ty27⟩,by decide⟩
theorem afi :Sub ai 0 q6 D3.L:=Sub.strct i8 0 _ rfl
theorem ak9 :Upd ai 0 q6 (fun x y=>{x with L:=y}):=Upd.strct i8 0 (fd:=⟨_,q6,D3.L⟩) rfl (fun _ _=>rfl) qbu
theorem ah8 :A6 Tryz.prog 84 0 0 1 false:=⟨⟨_,_,Tryz.underlying84,rfl,rfl,ty38⟩,by decide⟩
theorem iw :Sub aw 0 (Rp.list ab) C8.Table:=Sub.strct ue 0 _ rfl
theorem an2 :A6 Tryz.prog 84 3 3 1 false:=⟨⟨_,_,Tryz.underlying84,rfl,rfl,ty38⟩,by decide⟩
theorem tm :Sub aw 3 (Rp.list ab) C8.Seen:=Sub.strct ue 3 _ rfl
theorem al8 :A6 Tryz.prog 84 1 1 1 false:=⟨⟨_,_,Tryz.underlying84,rfl,rfl,ty9⟩,by decide⟩
theorem lb :Sub aw 1 Rp.str C8.Class:=Sub.strct ue 1 _ rfl
theorem an3 :A6 Tryz.prog 84 2 2 1 false:=⟨⟨_,_,Tryz.underlying84,rfl,rfl,ty4⟩,by decide⟩
theorem qu :Sub aw 2 Rp.bool C8.Static:=Sub.strct ue 2 _ rfl
theorem ty84 :A5 Tryz.prog 84 4 true:=⟨Tryz.sizeOf84,Tryz.isAgg84⟩
theorem arp :A6 Tryz.prog 83 3 5 1 false:=⟨⟨_,_,Tryz.underlying83,rfl,rfl,ty9⟩,by decide⟩
theorem sc :Sub ai 5 Rp.str D3.Method:=Sub.strct i8 3 _ rfl
theorem an4 :A6 Tryz.prog 83 4 6 1 false:=⟨⟨_,_,Tryz.underlying83,rfl,rfl,ty3⟩,by decide⟩
theorem va :Sub ai 6 (Rp.int .i64) D3.Many:=Sub.strct i8 4 _ rfl
theorem ajl :Upd aw 2 Rp.bool (fun x y=>{x with Static:=y}):=Upd.strct ue 2 (fd:=⟨_,Rp.bool,C8.Static⟩) rfl (fun _ _=>rfl) qbu
theorem ace :Upd ai 6 (Rp.int .i64) (fun x y=>{x with Many:=y}):=Upd.strct i8 4 (fd:=⟨_,Rp.int .i64,D3.Many⟩) rfl (fun _ _=>rfl) qbu
theorem aho :Upd ai 5 Rp.str (fun x y=>{x with Method:=y}):=Upd.strct i8 3 (fd:=⟨_,Rp.str,D3.Method⟩) rfl (fun _ _=>rfl) qbu
theorem ala :Upd aw 3 (Rp.list ab) (fun x y=>{x with Seen:=y}):=Upd.strct ue 3 (fd:=⟨_,Rp.list ab,C8.Seen⟩) rfl (fun _ _=>rfl) qbu
theorem ai4 :Upd ai 4 (Rp.int .i64) (fun x y=>{x with File:=y}):=Upd.strct i8 2 (fd:=⟨_,Rp.int .i64,D3.File⟩) rfl (fun _ _=>rfl) qbu
theorem st84 :StOK Tryz.prog 84 ue (C8.mk [] [] false []):=stOK Tryz.underlying84 Tryz.zeroValue84 (fun _=>⟨_,_,rfl,⟨_,rfl,none,0,rfl,⟨Nat.le_refl _,fun _=>rfl⟩,.inl rfl⟩,⟨_,_,rfl,rfl,⟨_,_,rfl,rfl,⟨_,_,rfl,⟨_,rfl,none,0,rfl,⟨Nat.le_refl _,fun _=>rfl⟩,.inl rfl⟩,rfl⟩⟩⟩⟩) ⟨rfl,Tryz.sizeOf38,rfl,Tryz.sizeOf9,rfl,Tryz.sizeOf4,rfl,Tryz.sizeOf38,trivial⟩
theorem a0f :EqOK Tryz.prog 47 ak 2:=amq Tryz.underlying47 (by kernel_rfl) ⟨by decide,rfl,(aey Tryz.underlying3),ty3,by decide,rfl,(aey Tryz.underlying3),ty3,by decide,rfl,(akp Tryz.underlying9),ty9,trivial⟩ (fun x y h=>by cases x;cases y;simpa [amd] using h)
theorem ay9 :Tryz.prog.eqGuardType Tryz.prog.depth 47=false:=by kernel_rfl
theorem st66 :StOK Tryz.prog 66 yp (B6.mk [] [] false []):=stOK Tryz.underlying66 Tryz.zeroValue66 (fun _=>⟨_,_,rfl,⟨_,rfl,none,0,rfl,⟨Nat.le_refl _,fun _=>rfl⟩,.inl rfl⟩,⟨_,_,rfl,rfl,⟨_,_,rfl,rfl,⟨_,_,rfl,⟨_,rfl,none,0,rfl,⟨Nat.le_refl _,fun _=>rfl⟩,.inl rfl⟩,rfl⟩⟩⟩⟩) ⟨rfl,Tryz.sizeOf38,rfl,Tryz.sizeOf9,rfl,Tryz.sizeOf4,rfl,Tryz.sizeOf38,trivial⟩
theorem ao5 :StOK Tryz.prog 76 kh (D2.mk (.slice none 0 0) 0 [] 0):=stOK Tryz.underlying76 Tryz.zeroValue76 (fun _=>⟨_,_,rfl,⟨rfl,rfl⟩,⟨_,_,rfl,rfl,⟨_,_,rfl,rfl,⟨_,_,rfl,rfl,rfl⟩⟩⟩⟩) ⟨rfl,Tryz.sizeOf27,rfl,Tryz.sizeOf3,rfl,Tryz.sizeOf9,rfl,Tryz.sizeOf3,trivial⟩
theorem ai6 :Upd av 1 (Rp.int .i64) (fun x y=>{x with file:=y}):=Upd.strct kh 1 (fd:=⟨_,Rp.int .i64,D2.file⟩) rfl (fun _ _=>rfl) qbu
theorem en39 :act Tryz.prog 39:=⟨_,Tryz.func39,by decide,rfl⟩
theorem en36 :act Tryz.prog 36:=⟨_,Tryz.func36,by decide,rfl⟩
theorem fld72_0 :A6 Tryz.prog 72 0 0 3 true:=⟨⟨_,_,Tryz.underlying72,rfl,rfl,ty30⟩,by decide⟩
theorem aps :Sub k8 0 ay B9.m:=Sub.strct amp 0 _ rfl
theorem auk :EqOK Tryz.prog 30 ay 2:=amq Tryz.underlying30 (by kernel_rfl) ⟨by decide,rfl,(aey Tryz.underlying28),ty28,by decide,rfl,(aey Tryz.underlying3),ty3,by decide,rfl,(aey Tryz.underlying3),ty3,trivial⟩ (fun x y h=>by cases x;cases y;simpa [ahf] using h)
theorem as0 :Tryz.prog.eqGuardType Tryz.prog.depth 30=false:=by kernel_rfl
end Go.Proofs.YtcndghapmoaidaaGreatDoor
