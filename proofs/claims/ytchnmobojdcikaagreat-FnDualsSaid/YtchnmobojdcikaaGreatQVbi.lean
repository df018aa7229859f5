/- x -/
import Derived.Test.YtchnmobojdcikaaGreatQVak
import Derived.Test.YtchnmobojdcikaaGreatQVan
import Derived.Test.YtchnmobojdcikaaGreatQVbh
import Derived.Test.YtchnmobojdcikaaGreatQWT
import Derived.Test.YtchnmobojdcikaaGreatQVbb
open Go.Proofs.Tryz renaming prog→J0
open Option renaming some→dq,none→dt
open Bool renaming true→du,false→dv
namespace Go.Wk
open Go Go.Proofs Go.Ab
set_option maxRecDepth 100000
set_option maxHeartbeats 4000000
section
attribute [local irreducible] RW CW DK OkL Ok zS zV yQ xI XS.post rng xL yO ixO zP zU yT zZ zG GTo zM FnC FnK xK xN Kp Lk BsL BuL RpL Bk Lc JQ AK
instance t_bN:FI J0 261 (∀(a:zF),FnK J0 261 [wZ a] (fun r=>[B r]) (fun _=>[]) (zUk a)):=⟨Tryz.call261,fun a=>iM Tryz.func261⟩
instance:HS Tryz.f184.8 [(2,2,0,.tr 3 7),(2,6,0,.tr 5 14),(0,34,0,.tr 22 5),(0,37,0,.tr 36 5),(0,38,0,.tr 35 3),(2,4,0,.tr 3 38)]:=⟨⟩
instance(b:zC)(c:(List (List Int))×Int):LH (R:=(List (List Int))) (zLk b c) [1,3,4] [] (fun a=>[(5,L 1 I a.1),(6,I a.2)]) (.xe 2 [] fun d=>[(5,L 1 I d)]):=⟨⟩
instance(b:zC):LH (R:=(List (List Int))) (zLl b) [1] [] (fun a=>[(3,L 1 lV a.1),(4,I a.2)]) (.xe 0 [] fun c=>[(3,L 1 lV c)]):=⟨⟩
instance t_ae:FI J0 184 (∀(a:zC),FnK J0 184 [xQ a] (fun r:(List (List Int))=>[lM r]) (fun _=>[]) (zWZ a)):=⟨Tryz.call184,fun a=>iM Tryz.func184⟩
end
end Go.Wk

namespace Go.Wk
open Go Go.Proofs Go.Ab
set_option maxRecDepth 100000
set_option maxHeartbeats 4000000
section
attribute [local irreducible] RW CW DK OkL Ok zS zV yQ xI XS.post rng xL yO ixO zP zU yT zZ zG GTo zM FnC FnK xK xN Kp Lk BsL BuL RpL Bk Lc JQ AK
instance t_bu:FI J0 177 (∀(a:zC)(b:zF),FnK J0 177 [T.ro ((Pt xP) a),wZ b] (fun r=>[B r]) (fun _=>[]) (zOU a b)):=⟨Tryz.call177,fun a b=>iM Tryz.func177⟩
instance t_bW:FI J0 68 (∀(a:SPr)(b:zC),FnK J0 68 [qPr a,xQ b] (fun r=>[uP r.1,I r.2]) (fun _=>[]) (zUo a b)):=⟨Tryz.call68,fun a b=>iM Tryz.func68⟩
end
end Go.Wk
