/- x -/
import Derived.Test.YtchnmobojdcikaaGreatQVaa
import Derived.Test.YtchnmobojdcikaaGreatQVac
import Derived.Test.YtchnmobojdcikaaGreatQVbe
import Derived.Test.YtchnmobojdcikaaGreatQWT
open Go.Proofs.Tryz renaming prog→J0
open Option renaming some→dq,none→dt
open Bool renaming true→du,false→dv
namespace Go.Wk
open Go Go.Proofs Go.Ab
set_option maxRecDepth 100000
set_option maxHeartbeats 4000000
section
attribute [local irreducible] RW CW DK OkL Ok zS zV yQ xI XS.post rng xL yO ixO zP zU yT zZ zG GTo zM FnC FnK xK xN Kp Lk BsL BuL RpL Bk Lc JQ AK
instance:HS Tryz.f163.8 [(2,2,0,.tr 7 12),(2,3,0,.tr 8 13),(0,36,0,.tr 27 8),(2,5,0,.tr 8 36)]:=⟨⟩
instance(c:Int)(d:(List (List Int))):LH (R:=(List (List Int))) (zIm c d) [2,7] [] (fun b=>[(8,L 1 lV b.1),(9,I b.2)]) (.xe 0 [2,7] fun a=>[(8,L 1 lV a)]):=⟨⟩
instance t_ah:FI J0 163 (∀(a:Int)(b:List (List Int))(c:Int),FnK J0 163 [I a,T.ro (lM b),I c] (fun r:(List (List Int))=>[lM r]) (fun _=>[]) (zMu a b c)):=⟨Tryz.call163,fun a b c=>iM Tryz.func163⟩
instance t_bZ:FI J0 300 (∀(a:zF),FnK J0 300 [wZ a] (fun r=>[uP r]) (fun _=>[]) (zWY a)):=⟨Tryz.call300,fun a=>iM Tryz.func300⟩
end
end Go.Wk
