/- x -/
import Derived.Test.YtchnmobojdcikaaGreatCVaa
import Derived.Test.YtchnmobojdcikaaGreatCVah
import Derived.Test.YtchnmobojdcikaaGreatCVal
import Derived.Test.YtchnmobojdcikaaGreatCVap
import Derived.Test.YtchnmobojdcikaaGreatCWT
import Derived.Test.YtchnmobojdcikaaGreatCVac
import Derived.Test.YtchnmobojdcikaaGreatCVaj
import Derived.Test.YtchnmobojdcikaaGreatCVak
open Go.Proofs.Tryz renaming prog→J0
open Option renaming some→iz,none→iA
open Bool renaming true→iB,false→iC
namespace Go.Wk
open Go Go.Proofs Go.Ab
set_option maxRecDepth 100000
set_option maxHeartbeats 4000000
section
attribute [local irreducible] RW CW DK OkL Ok zV yA yW xK XS.post rng xN yP ixO zO yG yO yB zG GTo zP FnC FnK xQ wB Kp Lk BsL BuL RpL Bk Lc JQ AK
instance:HS Tryz.f319.8 [(2,7,0,.tr 8 49),(2,17,0,.tr 13 113),(2,26,0,.tr 16 155),(2,28,0,.tr 17 16),(2,28,1,.fz 17),(2,28,2,.res 16 17 []),(2,29,0,.tr 17 169),(2,31,0,.tr 17 16),(2,31,1,.fz 17),(2,31,2,.res 16 17 [])]:=⟨⟩
instance(a:SPr)(b:Int):LH (R:=yR) (zTy a b) [1,2,4,5,6] [] (fun c=>[(7,I c)]) (.xs (.xe 0 [] fun _=>[]) .xr):=⟨⟩
instance(a:SPr)(b c:Int):LH (R:=yR) (zTz a b c) [1,2,4,5,6,9] [] (fun d=>[(10,I d)]) (.xs (.xe 4 [] fun _=>[]) .xr):=⟨⟩
instance(a:SPr)(b:Int):LH (R:=yR) (zT0 a b) [1,2,4,5,6] [] (fun c=>[(9,I c)]) (.xs (.xe 2 [] fun _=>[]) .xr):=⟨⟩
instance(c:SPr)(d:Int):LH (R:=yR) (zT1 c d) [1,2,4,5,6,14,15,16] [16] (fun a=>[(17,T.ro (lV a.1)),(18,I a.2)]) (.xe 8 [] fun b=>[(17,T.ro (lV b))]):=⟨⟩
instance(c:SPr)(d:Int)(a:List Int):LH (R:=yR) (zT2 c d a) [1,2,4,5,6,14] [] (fun b=>[(15,I b)]) (.xs (.xe 6 [1,2,5,6,14] fun _=>[]) .xr):=⟨⟩
instance t_r:FI J0 319 (∀(a:SPr)(b:Int),FnK J0 319 [qPr a,I b] (fun r=>[zGY r]) (fun _=>[]) (f_r a b)):=⟨Tryz.call319,fun a b=>iM Tryz.func319⟩
end
end Go.Wk

namespace Go.Wk
open Go Go.Proofs Go.Ab
set_option maxRecDepth 100000
set_option maxHeartbeats 4000000
section
attribute [local irreducible] RW CW DK OkL Ok zV yA yW xK XS.post rng xN yP ixO zO yG yO yB zG GTo zP FnC FnK xQ wB Kp Lk BsL BuL RpL Bk Lc JQ AK
instance(a:SPr):LH (R:=yR) (zMn a) [1,2] [] (fun b=>[(3,I b)]) (.xs (.xe 0 [1] fun _=>[]) .xr):=⟨⟩
instance t_a4:FI J0 291 (∀(a:SPr),FnK J0 291 [qPr a] (fun r=>[zGY r]) (fun _=>[]) (zZQ a)):=⟨Tryz.call291,fun a=>iM Tryz.func291⟩
instance(b:SPr):LH (R:=Bool) (zNX b) [1,3,30,31] [] (fun a=>[(4,I a.1),(32,I a.2)]) (.xs (.xe 0 [30,31] fun _=>[]) .xr):=⟨⟩
instance(b:SPr)(c:Int)(a:List (List Int)):LH (R:=Bool) (zTD b c a) [1,3,7,49,50,78,79] [] (fun d=>[(80,I d)]) (.xs (.xe 4 [7,78,79] fun _=>[]) .xr):=⟨⟩
instance(a:SPr):LH (R:=Bool) (zNY a) [1,3,49] [] (fun b=>[(50,I b)]) (.xs (.xe 2 [1,3,49] fun _=>[]) .xr):=⟨⟩
instance t_y:FI J0 201 (∀(a:SPr),FnK J0 201 [qPr a] (fun r=>[B r]) (fun _=>[]) (f_y a)):=⟨Tryz.call201,fun a=>iM Tryz.func201⟩
instance t_bB:FI J0 171 (∀(a:SPr)(b:zC)(c:List (List Int)),FnK J0 171 [T.ro ((Pt vE) a),T.ro ((Pt xV) b),T.ro (lM c)] (fun r=>[B r]) (fun _=>[]) (zQN a b c)):=⟨Tryz.call171,fun a b c=>iM Tryz.func171⟩
end
end Go.Wk
