/- x -/
import Derived.Test.YtchnmobojdcikaaGreatVav
import Derived.Test.YtchnmobojdcikaaGreatWT
open Go.Proofs.Tryz renaming prog→J0
open Option renaming some→dS,none→dT
open Bool renaming true→dU,false→dV
namespace Go.Wk
open Go Go.Proofs Go.Ab
set_option maxRecDepth 100000
set_option maxHeartbeats 4000000
section
attribute [local irreducible] RW CW DK OkL Ok zU zY yO yZ XS.post rng xC yL ixO zL zX yM zV zE GTo zK FnC FnK xJ xQ Kp Lk BsL BuL RpL Bk Lc JQ AK
instance:HS Tryz.f334.8 [(2,2,0,.tr 7 9),(0,36,0,.tr 18 7)]:=⟨⟩
instance:HS Tryz.f294.8 [(0,22,0,.trq 18 4 [1,0]),(0,36,0,.tr 31 6),(2,10,0,.tr 6 36),(0,40,0,.tr 39 6),(0,41,0,.trq 38 4 [2,0]),(1,2,0,.trf 44 0 4 [0,0]),(1,2,1,.trf 44 1 4 [1,0]),(1,2,2,.trf 44 2 4 [2,0])]:=⟨⟩
instance t_b8:FI J0 264 (∀(a:Int),FnK J0 264 [I a] (fun r=>[B r]) (fun _=>[]) (zQX a)):=⟨Tryz.call264,fun a=>iM Tryz.func264⟩
instance(a:List Int):LH (R:=Int) (zGt a) [0,1,7] [] (fun b=>[(8,I b)]) (.xs (.xe 0 [0,1,7] fun _=>[]) .xr):=⟨⟩
instance t_aq:FJ J0 263 264 (∀(a:List Int),FnK J0 263 [T.ro (lV a),T.lit (.func (.func 264) #[] #[])] (fun r=>[I r]) (fun _=>[]) (zQY a)):=⟨Tryz.call263,fun a=>iM Tryz.func263⟩
instance:HS Tryz.f228.8 [(0,35,0,.trq 23 5 [1,0]),(0,60,0,.tr 54 7),(2,11,0,.tr 7 60),(0,65,0,.tr 64 7),(0,66,0,.trq 63 5 [2,0]),(1,4,0,.trf 69 0 5 [0,0]),(1,4,1,.trf 69 1 5 [1,0]),(1,4,2,.trf 69 2 5 [2,0])]:=⟨⟩
instance:HS Tryz.f116.8 [(0,45,0,.tr 33 8),(2,7,0,.tr 8 45),(0,76,0,.tr 70 8),(2,18,0,.tr 8 76),(2,18,1,.tr 11 83),(0,83,0,.tr 77 11),(0,88,0,.tr 87 11),(0,89,0,.trq 86 7 [2,0]),(1,5,0,.trf 95 2 7 [2,0])]:=⟨⟩
end
end Go.Wk
