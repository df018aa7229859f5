/- x -/
import Derived.Test.YtchnmobojdcikaaGreatVaa
import Derived.Test.YtchnmobojdcikaaGreatVab
import Derived.Test.YtchnmobojdcikaaGreatVac
import Derived.Test.YtchnmobojdcikaaGreatWT
open Go.Proofs.Tryz renaming prog→J0
open Option renaming some→dS,none→dT
open Bool renaming true→dU,false→dV
namespace Go.Wk
open Go Go.Proofs Go.Ab
set_option maxRecDepth 100000
set_option maxHeartbeats 4000000
section
attribute [local irreducible] RW CW DK OkL Ok zU zY yO yZ XS.post rng xC yL ixO zL zX yM zV zE GTo zK FnC FnK xJ xQ Kp Lk BsL BuL RpL Bk Lc JQ AK
instance:HS Tryz.f313.8 [(2,4,0,.trq 4 14 [0]),(1,2,0,.trf 42 0 6 [0,0]),(1,2,1,.trf 42 1 6 [1,0]),(1,2,2,.trf 42 2 6 [2,0])]:=⟨⟩
instance(a:(List Int)×Bool):LN (zPS a) 6:=⟨⟩
instance(b:(List Int)×Bool)(A0 A1 A2:T):LHk (R:=SPr×Int) (zPS b) (T.ptr (T.agg [A0,A1,A2])) [2,4] [] (fun a=>[(6,T.ptr (T.agg [A0,L 1 lV a.1,A2])),(7,I a.2)]) (.xe 0 [4] fun c=>[(6,T.ptr (T.agg [A0,L 1 lV c,A2]))]):=⟨⟩
instance t_bE:FI J0 313 (∀(a:Int),FnK J0 313 [I a] (fun r=>[xR r.1,I r.2]) (fun _=>[]) (zWB a)):=⟨Tryz.call313,fun a=>iM Tryz.func313⟩
instance:HS Tryz.f336.8 [(2,2,0,.tr 4 8),(2,5,0,.tr 5 13),(0,35,0,.tr 32 4),(2,7,0,.tr 4 35)]:=⟨⟩
instance(b:(List ByteArray)):LH (R:=(List Int)×Bool) (zPT b) [5] [] (fun a=>[(4,L 1 I a.1),(6,I a.2)]) (.xs (.xe 0 [5] fun c=>[(4,L 1 I c)]) .xr):=⟨⟩
instance t_bG:FI J0 336 (∀(a:ByteArray),FnK J0 336 [Str a] (fun r:(List Int)×Bool=>[lV r.1,B r.2]) (fun _=>[]) (zWI a)):=⟨Tryz.call336,fun a=>iM Tryz.func336⟩
instance:HS Tryz.f337.8 [(2,3,0,.tr 7 19),(2,6,0,.trq 8 50 [0]),(2,9,0,.trq 10 59 [0]),(1,103,0,.tr 102 10),(1,4,0,.trf 104 0 14 [0,0]),(1,4,1,.trf 104 1 14 [1,0]),(1,4,2,.trf 104 2 14 [2,0]),(1,4,3,.trf 124 0 14 [0,0]),(1,4,4,.trf 124 1 14 [1,0]),(1,4,5,.trf 124 2 14 [2,0]),(1,123,0,.tr 122 10)]:=⟨⟩
instance t_cD:FI J0 337 (∀(a:SPr)(b:ByteArray),FnK J0 337 [qPr a,Str b] (fun r=>[(fun x=>T.agg [(Ro lV) x.zA,(Ro lM) x.zN,(Ro lC) x.zC]) r.1,B r.2]) (fun _=>[]) (zWL a b)):=⟨Tryz.call337,fun a b=>iM Tryz.func337⟩
end
end Go.Wk
