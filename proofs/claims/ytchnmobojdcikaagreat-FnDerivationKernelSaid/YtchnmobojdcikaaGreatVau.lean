/- x -/
import Derived.Test.YtchnmobojdcikaaGreatVap
import Derived.Test.YtchnmobojdcikaaGreatVaq
import Derived.Test.YtchnmobojdcikaaGreatVar
import Derived.Test.YtchnmobojdcikaaGreatWT
open Go.Proofs.Tryz renaming prog→J0,f51→Jb5
open Option renaming some→dS,none→dT
open Bool renaming true→dU,false→dV
namespace Go.Wk
open Go Go.Proofs Go.Ab
set_option maxRecDepth 100000
set_option maxHeartbeats 4000000
section
attribute [local irreducible] RW CW DK OkL Ok zU zY yO yZ XS.post rng xC yL ixO zL zX yM zV zE GTo zK FnC FnK xJ xQ Kp Lk BsL BuL RpL Bk Lc JQ AK
instance t_cU:FI J0 50 (∀(a:SPr)(b:zB),FnK J0 50 [qPr a,xD b] (fun r:(List (List Int))×Int=>[lM r.1,I r.2]) (fun _=>[]) (zZI a b)):=⟨Tryz.call50,fun a b=>iM Tryz.func50⟩
instance:HS Jb5.8 [(2,4,0,.tr 6 15)]:=⟨⟩
instance:HX Jb5.8 [(0,37,0,.trh 35 6)]:=⟨⟩
instance(b:(List (List Int))):LH (R:=zJ×Int) (zMV b) [3,4,18,19,23,24] [] (fun a=>[(6,L 1 lV a.1),(25,I a.2)]) (.xe 2 [23,24] fun c=>[(6,L 1 lV c)]):=⟨⟩
instance(c:SPr)(d:zB):LH (R:=zJ×Int) (zJI c d) [3,4,18] [] (fun b=>[(6,L 1 lV b.1),(19,I b.2)]) (.xe 0 [18] fun a=>[(6,L 1 lV a)]):=⟨⟩
instance t_ai:FI J0 51 (∀(a:SPr)(b:zB),FnK J0 51 [qPr a,xD b] (fun r=>[sB r.1,I r.2]) (fun _=>[]) (zZK a b)):=⟨Tryz.call51,fun a b=>iM Tryz.func51⟩
end
end Go.Wk
