/- x -/
import Derived.Test.YtchnmobojdcikaaGreatVbn
import Derived.Test.YtchnmobojdcikaaGreatVbo
import Derived.Test.YtchnmobojdcikaaGreatWT
open Go.Proofs.Tryz renaming prog→J0
open Option renaming some→dS,none→dT
open Bool renaming true→dU,false→dV
namespace Go.Wk
open Go Go.Proofs Go.Ab
set_option maxRecDepth 100000
set_option maxHeartbeats 4000000
section
attribute [local irreducible] RW CW DK OkL Ok zU zY yO yZ XS.post rng xC yL ixO zL zX yM zV zE GTo zK FnC FnK xJ xQ Kp Lk BsL BuL RpL Bk Lc JQ AK
instance:HS Tryz.f13.8 [(2,4,0,.trq 5 26 [2]),(2,5,0,.trq 6 34 [0]),(0,41,0,.fz 5),(0,41,1,.res 40 5 []),(2,6,0,.trq 8 41 [0]),(2,13,0,.tr 10 60),(2,18,0,.trq 14 75 [0]),(2,20,0,.trq 18 90 [0]),(0,98,0,.fz 14),(0,98,1,.res 97 14 [])]:=⟨⟩
instance(b:SPr×zB×(List (List Int)))(c:(List (List Int))×Int)(d:Int×Int):LH (R:=Bool) (zPZ b c d) [3,4,5,8,11] [] (fun a=>[(10,T.ptr (T.agg [T.ro ((L 1 (IK .u8)) a.1),I a.2.1,(IK .u64) a.2.2.1])),(13,I a.2.2.2)]) (.xs (.xe 0 [3,4,5,8,11] fun _=>[]) .xr):=⟨⟩
instance t_bu:FI J0 13 (∀(a:List Int),FnK J0 13 [T.ro ((L 1 (IK .u8)) a)] (fun r=>[B r]) (fun _=>[]) (zXu a)):=⟨Tryz.call13,fun a=>iM Tryz.func13⟩
end
end Go.Wk
