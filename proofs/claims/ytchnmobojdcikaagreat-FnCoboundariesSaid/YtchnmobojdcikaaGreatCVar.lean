/- x -/
import Derived.Test.YtchnmobojdcikaaGreatCVaa
import Derived.Test.YtchnmobojdcikaaGreatCVag
import Derived.Test.YtchnmobojdcikaaGreatCVai
import Derived.Test.YtchnmobojdcikaaGreatCVal
import Derived.Test.YtchnmobojdcikaaGreatCWT
open Go.Proofs.Tryz renaming prog→J0
open Option renaming some→iz,none→iA
open Bool renaming true→iB,false→iC
namespace Go.Wk
open Go Go.Proofs Go.Ab
set_option maxRecDepth 100000
set_option maxHeartbeats 4000000
section
attribute [local irreducible] RW CW DK OkL Ok zV yA yW xK XS.post rng xN yP ixO zO yG yO yB zG GTo zP FnC FnK xQ wB Kp Lk BsL BuL RpL Bk Lc JQ AK
instance:HS Tryz.f243.8 [(2,13,0,.tr 8 56),(2,23,0,.tr 11 108),(2,24,0,.tr 12 131)]:=⟨⟩
instance(a:SPr)(b:zC):LH (R:=Bool) (zT8 a b) [2,3,5] [] (fun c=>[(6,I c)]) (.xs (.xe 0 [] fun _=>[]) .xr):=⟨⟩
instance(d:SPr)(e:zC)(b:Int):LH (R:=Bool) (zT9 d e b) [2,3,5,7] [] (fun a=>[(8,L 1 lV a.1),(9,I a.2)]) (.xe 4 [] fun c=>[(8,L 1 lV c)]):=⟨⟩
instance(c:SPr)(d:zC)(a:Int):LH (R:=Bool) (zTA c d a) [2,3,5,7] [] (fun b=>[(10,I b)]) (.xs (.xe 6 [] fun _=>[]) .xr):=⟨⟩
instance(b:SPr)(c:zC):LH (R:=Bool) (zTB b c) [2,3,5] [] (fun a=>[(7,I a)]) (.xs (.xe 2 [2,3,5] fun _=>[]) .xr):=⟨⟩
instance t_u:FI J0 243 (∀(a:SPr)(b:zC),FnK J0 243 [qPr a,vC b] (fun r=>[B r]) (fun _=>[]) (f_u a b)):=⟨Tryz.call243,fun a b=>iM Tryz.func243⟩
end
end Go.Wk
