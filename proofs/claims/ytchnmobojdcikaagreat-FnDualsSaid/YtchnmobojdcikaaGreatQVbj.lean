/- x -/
import Derived.Test.YtchnmobojdcikaaGreatQVab
import Derived.Test.YtchnmobojdcikaaGreatQVbc
import Derived.Test.YtchnmobojdcikaaGreatQVbh
import Derived.Test.YtchnmobojdcikaaGreatQWT
open Go.Proofs.Tryz renaming prog→J0
open Option renaming some→dq,none→dt
open Bool renaming true→du,false→dv
namespace Go.Wk
open Go Go.Proofs Go.Ab
set_option maxRecDepth 100000
set_option maxHeartbeats 4000000
section
attribute [local irreducible] RW CW DK OkL Ok zS zV yQ xI XS.post rng xL yO ixO zP zU yT zZ zG GTo zM FnC FnK xK xN Kp Lk BsL BuL RpL Bk Lc JQ AK
instance:HS Tryz.f54.8 [(2,5,0,.tr 9 24),(2,12,0,.tr 12 37),(0,93,0,.tr 87 12),(2,20,0,.tr 12 93),(0,96,0,.tr 95 12),(0,97,0,.tr 94 9),(2,10,0,.tr 9 97)]:=⟨⟩
instance(g h:zC)(b:(List (List Int))×Int)(c:(List (List Int))×Int)(d:(List Int)×Int)(e:(List Int)×Int):LH (R:=Int×Int) (zRA g h b c d e) [4,5,9,10,11,13,14] [] (fun a=>[(12,L 1 I a.1),(15,I a.2)]) (.xe 8 [] fun f=>[(12,L 1 I f)]):=⟨⟩
instance(f g:zC)(b:(List (List Int))×Int)(c:(List (List Int))×Int)(d:(List Int)×Int):LH (R:=Int×Int) (zRB f g b c d) [4,5,9,10,11,13] [] (fun a=>[(12,L 1 I a.1),(14,I a.2)]) (.xe 6 [] fun e=>[(12,L 1 I e)]):=⟨⟩
instance(e f:zC)(b:(List (List Int))×Int)(c:(List (List Int))×Int):LH (R:=Int×Int) (zRC e f b c) [4,5,9,10,11] [] (fun a=>[(12,L 1 I a.1),(13,I a.2)]) (.xe 4 [] fun d=>[(12,L 1 I d)]):=⟨⟩
instance(d e:zC)(b:(List (List Int))×Int):LH (R:=Int×Int) (zOO d e b) [4,5,10] [] (fun a=>[(9,L 1 lV a.1),(11,I a.2)]) (.xe 2 [] fun c=>[(9,L 1 lV c)]):=⟨⟩
instance(c d:zC):LH (R:=Int×Int) (zRD c d) [4,5] [] (fun a=>[(9,L 1 lV a.1),(10,I a.2)]) (.xe 0 [] fun b=>[(9,L 1 lV b)]):=⟨⟩
instance t_j:FI J0 54 (∀(a:SPr)(b c:zC),FnK J0 54 [qPr a,xQ b,xQ c] (fun r=>[I r.1,I r.2]) (fun _=>[]) (f_j a b c)):=⟨Tryz.call54,fun a b c=>iM Tryz.func54⟩
end
end Go.Wk
