/- x -/
import Derived.Test.YtchnmobojdcikaaGreatCVab
import Derived.Test.YtchnmobojdcikaaGreatCVac
import Derived.Test.YtchnmobojdcikaaGreatCVau
import Derived.Test.YtchnmobojdcikaaGreatCVav
import Derived.Test.YtchnmobojdcikaaGreatCVax
import Derived.Test.YtchnmobojdcikaaGreatCWT
open Go.Proofs.Tryz renaming prog→J0
open Option renaming some→iz,none→iA
open Bool renaming true→iB,false→iC
namespace Go.Wk
open Go Go.Proofs Go.Ab
set_option maxRecDepth 100000
set_option maxHeartbeats 4000000
section
attribute [local irreducible] RW CW DK OkL Ok zV yA yW xK XS.post rng xN yP ixO zO yG yO yB zG GTo zP FnC FnK xQ wB Kp Lk BsL BuL RpL Bk Lc JQ AK
instance:HS Tryz.f274.8 [(2,23,0,.tr 12 152),(2,26,0,.tr 12 165)]:=⟨⟩
instance(a:SPr)(b:Int):LH (R:=yR) (zTO a b) [0,1,4,5,6] [] (fun c=>[(7,I c)]) (.xs (.xe 0 [] fun _=>[]) .xr):=⟨⟩
instance(a:SPr)(b c:Int):LH (R:=yR) (zTP a b c) [0,1,4,5,6,8] [] (fun d=>[(9,I d)]) (.xs (.xe 4 [] fun _=>[]) .xr):=⟨⟩
instance(a:SPr)(b:Int):LH (R:=yR) (zTQ a b) [0,1,4,5,6] [] (fun c=>[(8,I c)]) (.xs (.xe 2 [] fun _=>[]) .xr):=⟨⟩
instance(d:SPr)(e b:Int):LH (R:=yR) (zTR d e b) [0,1,4,5,6,10,11,159] [] (fun a=>[(12,L 1 I a.1),(160,I a.2)]) (.xe 8 [159] fun c=>[(12,L 1 I c)]):=⟨⟩
instance(c:SPr)(d:Int)(a:List Int):LH (R:=yR) (zTS c d a) [0,1,4,5,6,10] [] (fun b=>[(11,I b)]) (.xs (.xe 6 [0,1,5,6,10] fun _=>[]) .xr):=⟨⟩
instance t_q:FI J0 274 (∀(a:SPr)(b:Int),FnK J0 274 [T.ro ((Pt vE) a),I b] (fun r=>[zGY r]) (fun _=>[]) (f_q a b)):=⟨Tryz.call274,fun a b=>iM Tryz.func274⟩
end
end Go.Wk

namespace Go.Wk
open Go Go.Proofs Go.Ab
set_option maxRecDepth 100000
set_option maxHeartbeats 4000000
section
attribute [local irreducible] RW CW DK OkL Ok zV yA yW xK XS.post rng xN yP ixO zO yG yO yB zG GTo zP FnC FnK xQ wB Kp Lk BsL BuL RpL Bk Lc JQ AK
instance(a:SPr):LH (R:=Int) (zG3 a) [0] [] (fun b=>[(3,I b)]) (.xe 0 [0] fun c=>[(3,I c)]):=⟨⟩
instance t_aa:FI J0 202 (∀(a:SPr),FnK J0 202 [T.ro ((Pt vE) a)] (fun r=>[I r]) (fun _=>[]) (zQI a)):=⟨Tryz.call202,fun a=>iM Tryz.func202⟩
end
end Go.Wk
