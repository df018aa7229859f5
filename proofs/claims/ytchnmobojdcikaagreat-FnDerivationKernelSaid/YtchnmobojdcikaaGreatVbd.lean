/- x -/
import Derived.Test.YtchnmobojdcikaaGreatVaw
import Derived.Test.YtchnmobojdcikaaGreatVax
import Derived.Test.YtchnmobojdcikaaGreatVay
import Derived.Test.YtchnmobojdcikaaGreatVaz
import Derived.Test.YtchnmobojdcikaaGreatWT
open Go.Proofs.Tryz renaming prog→J0
open Option renaming some→dS,none→dT
open Bool renaming true→dU,false→dV
namespace Go.Wk
open Go Go.Proofs Go.Ab
set_option maxRecDepth 100000
set_option maxHeartbeats 4000000
section
attribute [local irreducible] RW CW DK OkL Ok zU zY yO yZ XS.post rng xC yL ixO zL zX yM zV zE GTo zK FnC FnK xJ xQ Kp Lk BsL BuL RpL Bk Lc JQ AK
instance:HS Tryz.f25.8 [(1,8,0,.trf 32 0 31 [0,0]),(1,8,1,.trf 32 1 31 [1,0]),(1,8,2,.trf 32 2 31 [2,0]),(1,9,0,.trf 33 2 31 [2,1]),(2,8,0,.trq 10 31 [2]),(1,4,0,.trf 35 0 8 [0,0]),(1,4,1,.trf 35 1 8 [1,0]),(1,4,2,.trf 35 2 8 [2,0]),(1,5,0,.trf 36 2 9 [2,0])]:=⟨⟩
instance:HS Tryz.f77.8 [(2,5,0,.trq 9 31 [0])]:=⟨⟩
instance t_cv:FI J0 77 (∀(a:SPr)(b:zB)(c:List (List Int)),FnK J0 77 [qPr a,xD b,T.ro (lM c)] (fun r:(List Int)×Int=>[lV r.1,I r.2]) (fun _=>[]) (zUp a b c)):=⟨Tryz.call77,fun a b c=>iM Tryz.func77⟩
instance:HS Tryz.f81.8 [(0,30,0,.trq 27 9 [0,0]),(0,42,0,.trq 38 9 [0,0]),(0,65,0,.trq 51 9 [1,0]),(2,14,0,.tr 13 67),(0,95,0,.tr 75 13),(2,18,0,.tr 13 95),(0,116,0,.tr 103 13),(0,120,0,.tr 119 13),(0,121,0,.trq 118 9 [2,0]),(0,135,0,.trq 129 9 [1,0]),(2,29,0,.tr 17 137),(2,33,0,.tr 19 148),(0,156,0,.tr 155 19),(0,157,0,.tr 154 17),(2,31,0,.tr 17 157),(0,161,0,.tr 160 17),(0,162,0,.trq 159 9 [2,0]),(1,6,0,.trf 164 0 9 [0,0]),(1,6,1,.trf 164 1 9 [1,0]),(1,6,2,.trf 164 2 9 [2,0])]:=⟨⟩
end
end Go.Wk
