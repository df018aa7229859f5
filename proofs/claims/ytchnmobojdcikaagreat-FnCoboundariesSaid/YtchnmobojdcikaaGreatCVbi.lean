/- x -/
import Derived.Test.YtchnmobojdcikaaGreatCVbf
import Derived.Test.YtchnmobojdcikaaGreatCWT
import Derived.Test.YtchnmobojdcikaaGreatCVaa
open Go.Proofs.Tryz renaming prog→J0
open Option renaming some→iz,none→iA
open Bool renaming true→iB,false→iC
namespace Go.Wk
open Go Go.Proofs Go.Ab
set_option maxRecDepth 100000
set_option maxHeartbeats 4000000
section
attribute [local irreducible] RW CW DK OkL Ok zV yA yW xK XS.post rng xN yP ixO zO yG yO yB zG GTo zP FnC FnK xQ wB Kp Lk BsL BuL RpL Bk Lc JQ AK
instance:HS Tryz.f271.8 [(2,2,0,.tr 3 5),(0,18,0,.tr 14 3),(2,4,0,.tr 3 18)]:=⟨⟩
instance(b:zN):LH (R:=(List (List Int))) (zM7 b) [1] [] (fun a=>[(3,L 1 lV a.1),(4,I a.2)]) (.xe 0 [1] fun c=>[(3,L 1 lV c)]):=⟨⟩
instance t_aT:FI J0 271 (∀(a:zN),FnK J0 271 [xG a] (fun r:(List (List Int))=>[lM r]) (fun _=>[]) (zW7 a)):=⟨Tryz.call271,fun a=>iM Tryz.func271⟩
end
end Go.Wk

namespace Go.Wk
open Go Go.Proofs Go.Ab
set_option maxRecDepth 100000
set_option maxHeartbeats 4000000
section
attribute [local irreducible] RW CW DK OkL Ok zV yA yW xK XS.post rng xN yP ixO zO yG yO yB zG GTo zP FnC FnK xQ wB Kp Lk BsL BuL RpL Bk Lc JQ AK
instance:HS Tryz.f197.8 [(2,2,0,.tr 7 13)]:=⟨⟩
instance(a:(List (List Int))):LH (R:=Bool) (zM8 a) [7] [] (fun b=>[(8,I b)]) (.xs (.xe 0 [7] fun _=>[]) .xr):=⟨⟩
instance t_at:FI J0 197 (∀(a:SPr)(b:zC)(c:List (List Int)),FnK J0 197 [qPr a,vC b,T.ro (lM c)] (fun r=>[B r]) (fun _=>[]) (zQT a b c)):=⟨Tryz.call197,fun a b c=>iM Tryz.func197⟩
end
end Go.Wk
