/- x -/
import Derived.Test.YtchnmobojdcikaaGreatQVaa
import Derived.Test.YtchnmobojdcikaaGreatQVah
import Derived.Test.YtchnmobojdcikaaGreatQVal
import Derived.Test.YtchnmobojdcikaaGreatQVap
import Derived.Test.YtchnmobojdcikaaGreatQWT
import Derived.Test.YtchnmobojdcikaaGreatQVac
import Derived.Test.YtchnmobojdcikaaGreatQVak
open Go.Proofs.Tryz renaming prog→J0
open Option renaming some→dq,none→dt
open Bool renaming true→du,false→dv
namespace Go.Wk
open Go Go.Proofs Go.Ab
set_option maxRecDepth 100000
set_option maxHeartbeats 4000000
section
attribute [local irreducible] RW CW DK OkL Ok zS zV yQ xI XS.post rng xL yO ixO zP zU yT zZ zG GTo zM FnC FnK xK xN Kp Lk BsL BuL RpL Bk Lc JQ AK
instance:HS Tryz.f319.8 [(2,7,0,.tr 8 49),(2,17,0,.tr 13 113),(2,26,0,.tr 16 155),(2,28,0,.tr 17 16),(2,28,1,.fz 17),(2,28,2,.res 16 17 []),(2,29,0,.tr 17 169),(2,31,0,.tr 17 16),(2,31,1,.fz 17),(2,31,2,.res 16 17 [])]:=⟨⟩
instance(a:SPr)(b:Int):LH (R:=yS) (zQP a b) [1,2,4,5,6] [] (fun c=>[(7,I c)]) (.xs (.xe 0 [] fun _=>[]) .xr):=⟨⟩
instance(a:SPr)(b c:Int):LH (R:=yS) (zQQ a b c) [1,2,4,5,6,9] [] (fun d=>[(10,I d)]) (.xs (.xe 4 [] fun _=>[]) .xr):=⟨⟩
instance(a:SPr)(b:Int):LH (R:=yS) (zQR a b) [1,2,4,5,6] [] (fun c=>[(9,I c)]) (.xs (.xe 2 [] fun _=>[]) .xr):=⟨⟩
instance(c:SPr)(d:Int):LH (R:=yS) (zQS c d) [1,2,4,5,6,14,15,16] [16] (fun a=>[(17,T.ro (lV a.1)),(18,I a.2)]) (.xe 8 [] fun b=>[(17,T.ro (lV b))]):=⟨⟩
instance(c:SPr)(d:Int)(a:List Int):LH (R:=yS) (zQT c d a) [1,2,4,5,6,14] [] (fun b=>[(15,I b)]) (.xs (.xe 6 [1,2,5,6,14] fun _=>[]) .xr):=⟨⟩
instance t_r:FI J0 319 (∀(a:SPr)(b:Int),FnK J0 319 [qPr a,I b] (fun r=>[zFD r]) (fun _=>[]) (f_r a b)):=⟨Tryz.call319,fun a b=>iM Tryz.func319⟩
end
end Go.Wk

namespace Go.Wk
open Go Go.Proofs Go.Ab
set_option maxRecDepth 100000
set_option maxHeartbeats 4000000
section
attribute [local irreducible] RW CW DK OkL Ok zS zV yQ xI XS.post rng xL yO ixO zP zU yT zZ zG GTo zM FnC FnK xK xN Kp Lk BsL BuL RpL Bk Lc JQ AK
instance(a:SPr):LH (R:=yS) (zKL a) [1,2] [] (fun b=>[(3,I b)]) (.xs (.xe 0 [1] fun _=>[]) .xr):=⟨⟩
instance t_a4:FI J0 291 (∀(a:SPr),FnK J0 291 [qPr a] (fun r=>[zFD r]) (fun _=>[]) (zWQ a)):=⟨Tryz.call291,fun a=>iM Tryz.func291⟩
instance(b:SPr):LH (R:=Bool) (zMm b) [1,3,30,31] [] (fun a=>[(4,I a.1),(32,I a.2)]) (.xs (.xe 0 [30,31] fun _=>[]) .xr):=⟨⟩
instance(b:SPr)(c:Int)(a:List (List Int)):LH (R:=Bool) (zRf b c a) [1,3,7,49,50,78,79] [] (fun d=>[(80,I d)]) (.xs (.xe 4 [7,78,79] fun _=>[]) .xr):=⟨⟩
instance(a:SPr):LH (R:=Bool) (zMn a) [1,3,49] [] (fun b=>[(50,I b)]) (.xs (.xe 2 [1,3,49] fun _=>[]) .xr):=⟨⟩
instance t_A:FI J0 201 (∀(a:SPr),FnK J0 201 [qPr a] (fun r=>[B r]) (fun _=>[]) (f_A a)):=⟨Tryz.call201,fun a=>iM Tryz.func201⟩
end
end Go.Wk
