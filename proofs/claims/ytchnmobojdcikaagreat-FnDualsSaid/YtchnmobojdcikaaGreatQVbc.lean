/- x -/
import Derived.Test.YtchnmobojdcikaaGreatQVaa
import Derived.Test.YtchnmobojdcikaaGreatQVae
import Derived.Test.YtchnmobojdcikaaGreatQVai
import Derived.Test.YtchnmobojdcikaaGreatQVaj
import Derived.Test.YtchnmobojdcikaaGreatQVba
import Derived.Test.YtchnmobojdcikaaGreatQVbb
import Derived.Test.YtchnmobojdcikaaGreatQWT
open Go.Proofs.Tryz renaming prog→J0
open Option renaming some→dq,none→dt
open Bool renaming true→du,false→dv
namespace Go.Wk
open Go Go.Proofs Go.Ab
set_option maxRecDepth 100000
set_option maxHeartbeats 4000000
section
attribute [local irreducible] RW CW DK OkL Ok zS zV yQ xI XS.post rng xL yO ixO zP zU yT zZ zG GTo zM FnC FnK xK xN Kp Lk BsL BuL RpL Bk Lc JQ AK
instance:HS Tryz.f120.8 [(0,45,0,.trq 35 7 [1,0]),(2,12,0,.tr 9 47),(0,69,0,.tr 56 9),(2,14,0,.tr 9 69),(0,73,0,.tr 72 9),(0,74,0,.trq 71 7 [2,0]),(1,4,0,.trf 76 0 7 [0,0]),(1,4,1,.trf 76 1 7 [1,0]),(1,4,2,.trf 76 2 7 [2,0])]:=⟨⟩
instance(c:SPr)(d:Int)(e:(List (List Int))×(List (List (List Int)))×Int):LH (R:=SPr×Int) (zSt c d e) [1,2,4,7,8] [] (fun b=>[(9,L 1 lV b.1),(10,I b.2)]) (.xe 2 [] fun a=>[(9,L 1 lV a)]):=⟨⟩
instance(a:SPr)(b:Int):LN (zNW a b) 7:=⟨⟩
instance(c:SPr)(d:Int)(A0 A1 A2:T):LHk (R:=SPr×Int) (zNW c d) (T.ptr (T.agg [A0,A1,A2])) [1,2,4] [] (fun b=>[(7,T.ptr (T.agg [A0,L 1 lV b.1,L 1 lM b.2.1])),(8,I b.2.2)]) (.xe 0 [1,2] fun a=>[(7,T.ptr (T.agg [A0,L 1 lV a.1,L 1 lM a.2]))]):=⟨⟩
instance t_ar:FI J0 120 (∀(a:SPr)(b:Int),FnK J0 120 [qPr a,I b] (fun r=>[vW r.1,I r.2]) (fun _=>[]) (zUC a b)):=⟨Tryz.call120,fun a b=>iM Tryz.func120⟩
instance t_bF:FI J0 161 (∀(a:SPr)(b c:zC),FnK J0 161 [qPr a,xQ b,xQ c] (fun r=>[I r]) (fun _=>[]) (zRd a b c)):=⟨Tryz.call161,fun a b c=>iM Tryz.func161⟩
instance:HS Tryz.f56.8 [(0,39,0,.trq 27 6 [2,0]),(1,4,0,.trf 41 2 6 [2,0])]:=⟨⟩
instance(c:SPr)(a:zC):LH (R:=zC×Int) (zKU c a) [2,3,4] [] (fun b=>[(6,T.ptr (T.agg [I a.Prime,I a.Dim,L 1 lM b.1])),(7,I b.2)]) (.xe 0 [2,3] fun d=>[(6,T.ptr (T.agg [I a.Prime,I a.Dim,L 1 lM d]))]):=⟨⟩
instance t_aL:FI J0 56 (∀(a:SPr)(b:zC),FnK J0 56 [qPr a,xQ b] (fun r=>[xP r.1,I r.2]) (fun _=>[]) (zR6 a b)):=⟨Tryz.call56,fun a b=>iM Tryz.func56⟩
end
end Go.Wk
