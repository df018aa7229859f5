/- x -/
import Derived.Test.YtchnmobojdcikaaGreatQVad
import Derived.Test.YtchnmobojdcikaaGreatQVbe
import Derived.Test.YtchnmobojdcikaaGreatQVbk
import Derived.Test.YtchnmobojdcikaaGreatQWT
import Derived.Test.YtchnmobojdcikaaGreatQVab
import Derived.Test.YtchnmobojdcikaaGreatQVai
import Derived.Test.YtchnmobojdcikaaGreatQVau
import Derived.Test.YtchnmobojdcikaaGreatQVbg
import Derived.Test.YtchnmobojdcikaaGreatQVap
import Derived.Test.YtchnmobojdcikaaGreatQVbc
import Derived.Test.YtchnmobojdcikaaGreatQVbj
import Derived.Test.YtchnmobojdcikaaGreatQVbl
import Derived.Test.YtchnmobojdcikaaGreatQVbm
import Derived.Test.YtchnmobojdcikaaGreatQVbn
import Derived.Test.YtchnmobojdcikaaGreatQVbo
open Go.Proofs.Tryz renaming prog→J0,f158→Ja7
open Option renaming some→dq,none→dt
open Bool renaming true→du,false→dv
namespace Go.Wk
open Go Go.Proofs Go.Ab
set_option maxRecDepth 100000
set_option maxHeartbeats 4000000
section
attribute [local irreducible] RW CW DK OkL Ok zS zV yQ xI XS.post rng xL yO ixO zP zU yT zZ zG GTo zM FnC FnK xK xN Kp Lk BsL BuL RpL Bk Lc JQ AK
instance:HS Tryz.f55.8 [(2,5,0,.fz 3),(1,8,0,.trf 28 2 27 [2,0]),(0,35,0,.trq 34 33 [2]),(0,36,0,.trq 31 6 [2,0]),(2,10,0,.fz 3),(1,4,0,.trf 39 2 6 [2,0])]:=⟨⟩
instance(c:SPr)(a:zC):LH (R:=zC×Int) (zLa c a) [3,4,20] [3] (fun b=>[(6,T.ptr (T.agg [I a.Prime,I a.Dim,L 1 lM b.1])),(21,I b.2)]) (.xe 0 [3,20] fun d=>[(6,T.ptr (T.agg [I a.Prime,I a.Dim,L 1 lM d]))]):=⟨⟩
instance t_aB:FI J0 55 (∀(a:SPr)(b:zC),FnK J0 55 [qPr a,xQ b] (fun r=>[xP r.1,I r.2]) (fun _=>[]) (zOM a b)):=⟨Tryz.call55,fun a b=>iM Tryz.func55⟩
end
end Go.Wk

namespace Go.Wk
open Go Go.Proofs Go.Ab
set_option maxRecDepth 100000
set_option maxHeartbeats 4000000
section
attribute [local irreducible] RW CW DK OkL Ok zS zV yQ xI XS.post rng xL yO ixO zP zU yT zZ zG GTo zM FnC FnK xK xN Kp Lk BsL BuL RpL Bk Lc JQ AK
instance:JNs Ja7.results:=⟨⟩
instance:HS Ja7.8 [(2,2,0,.tr 5 10),(1,3,0,.trf 41 2 7 [2,0])]:=⟨⟩
instance(a:SPr×zC×zE)(b:zC×zE):JN (zNX a b) 1007 4 2:=⟨⟩
instance(b:SPr×zC×zE)(c:zC×zE):LH (R:=SPr×zC×zC) (zNX b c) [2,3,4,5,6,7,8] [] (fun _=>[]) (.xe 1007 [5,8] fun a=>[(5,T.ptr (T.agg [T.ro ((L 1 (IK .u8)) a.1),I a.2.1,I a.2.2.1])),(8,T.ptr (T.agg [I a.2.2.2.1,I a.2.2.2.2.1,L 1 lM a.2.2.2.2.2]))]):=⟨⟩
instance(a:SPr×zC×zE)(b:(List Int)×Int×Int×Int×Int×(List (List (List Int)))):JN (zNY a b) 1008 6 2:=⟨⟩
instance(b:SPr×zC×zE)(c:(List Int)×Int×Int×Int×Int×(List (List (List Int)))):LH (R:=SPr×zC×zC) (zNY b c) [2,3,4,5,6,7,8] [] (fun _=>[]) (.xe 1008 [5,8] fun a=>[(5,T.ptr (T.agg [T.ro ((L 1 (IK .u8)) a.1),I a.2.1,I a.2.2.1])),(8,T.ptr (T.agg [I a.2.2.2.1,I a.2.2.2.2.1,T.ro (lC a.2.2.2.2.2)]))]):=⟨⟩
instance t_am:FI J0 158 (∀(a:List Int),FnK J0 158 [T.ro ((L 1 (IK .u8)) a)] (fun r:SPr×zC×zC=>[(fun x=>T.agg [(Ro lV) x.zA,(Ro lM) x.zN,(Ro lC) x.zD]) r.1,(fun x=>T.agg [I x.Prime,I x.Dim,(Ro lC) x.zB]) r.2.1,(fun x=>T.agg [I x.Prime,I x.Dim,(Ro lC) x.zB]) r.2.2]) (fun _=>[]) (zUQ a)):=⟨Tryz.call158,fun a=>iM Tryz.func158⟩
end
end Go.Wk

namespace Go.Wk
open Go Go.Proofs Go.Ab
set_option maxRecDepth 100000
set_option maxHeartbeats 4000000
section
attribute [local irreducible] RW CW DK OkL Ok zS zV yQ xI XS.post rng xL yO ixO zP zU yT zZ zG GTo zM FnC FnK xK xN Kp Lk BsL BuL RpL Bk Lc JQ AK
instance t_b2:FI J0 52 (∀(a:List Int),FnK J0 52 [T.ro ((L 1 (IK .u8)) a)] (fun r:SPr×zC×zC=>[(fun x=>T.agg [(Ro lV) x.zA,(Ro lM) x.zN,(Ro lC) x.zD]) r.1,(fun x=>T.agg [I x.Prime,I x.Dim,(Ro lC) x.zB]) r.2.1,(fun x=>T.agg [I x.Prime,I x.Dim,(Ro lC) x.zB]) r.2.2]) (fun _=>[]) (zXh a)):=⟨Tryz.call52,fun a=>iM Tryz.func52⟩
end
end Go.Wk

namespace Go.Wk
open Go Go.Proofs Go.Ab
set_option maxRecDepth 100000
set_option maxHeartbeats 4000000
section
attribute [local irreducible] RW CW DK OkL Ok zS zV yQ xI XS.post rng xL yO ixO zP zU yT zZ zG GTo zM FnC FnK xK xN Kp Lk BsL BuL RpL Bk Lc JQ AK
instance:HS Tryz.f7.8 [(1,10,0,.trf 66 2 65 [2,0]),(1,12,0,.trf 72 2 71 [2,0]),(1,14,0,.trf 78 2 77 [2,0]),(1,16,0,.trf 84 2 83 [2,0]),(1,18,0,.trf 114 2 113 [2,0]),(1,22,0,.trf 144 2 143 [2,0]),(1,24,0,.trf 150 2 149 [2,0]),(1,26,0,.trf 175 2 174 [2,0]),(1,28,0,.trf 189 2 188 [2,0])]:=⟨⟩
instance t_bK:FI J0 7 (∀(a:List Int),FnK J0 7 [T.ro ((L 1 (IK .u8)) a)] (fun r=>[B r]) (fun _=>[]) (zUR a)):=⟨Tryz.call7,fun a=>iM Tryz.func7⟩
end
end Go.Wk
