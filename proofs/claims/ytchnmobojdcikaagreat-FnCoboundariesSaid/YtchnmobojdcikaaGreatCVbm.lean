/- x -/
import Derived.Test.YtchnmobojdcikaaGreatCVaa
import Derived.Test.YtchnmobojdcikaaGreatCVac
import Derived.Test.YtchnmobojdcikaaGreatCVae
import Derived.Test.YtchnmobojdcikaaGreatCVaf
import Derived.Test.YtchnmobojdcikaaGreatCVak
import Derived.Test.YtchnmobojdcikaaGreatCVap
import Derived.Test.YtchnmobojdcikaaGreatCVaw
import Derived.Test.YtchnmobojdcikaaGreatCVbg
import Derived.Test.YtchnmobojdcikaaGreatCVbh
import Derived.Test.YtchnmobojdcikaaGreatCWT
open Go.Proofs.Tryz renaming prog→J0
open Option renaming some→iz,none→iA
open Bool renaming true→iB,false→iC
namespace Go.Wk
open Go Go.Proofs Go.Ab
set_option maxRecDepth 100000
set_option maxHeartbeats 4000000
section
attribute [local irreducible] RW CW DK OkL Ok zV yA yW xK XS.post rng xN yP ixO zO yG yO yB zG GTo zP FnC FnK xQ wB Kp Lk BsL BuL RpL Bk Lc JQ AK
instance:HS Tryz.f100.8 [(2,4,0,.tr 8 19),(0,35,0,.fz 34),(2,6,0,.trq 9 37 [0])]:=⟨⟩
instance t_bO:FI J0 100 (∀(a:SPr)(b:zC)(c:List Int),FnK J0 100 [T.ro ((Pt vE) a),T.ro ((Pt xV) b),T.ro (lV c)] (fun r:(List (List Int))×Bool=>[lM r.1,B r.2]) (fun _=>[]) (zU5 a b c)):=⟨Tryz.call100,fun a b c=>iM Tryz.func100⟩
instance:HS Tryz.f194.8 [(2,2,0,.tr 10 17),(2,3,0,.tr 11 22),(2,4,0,.tr 12 23),(0,43,0,.tr 37 12),(2,6,0,.tr 12 43),(2,10,0,.tr 11 47),(2,13,0,.tr 14 59)]:=⟨⟩
instance(c:Int)(d:(List (List Int))):LH (R:=(List Int)×Bool) (zQX c d) [0,1,2,10,11] [] (fun b=>[(12,L 1 (Ro lV) b.1),(13,I b.2)]) (.xe 0 [10] fun a=>[(12,L 1 (Ro lV) a)]):=⟨⟩
instance t_W:FI J0 194 (∀(a:Int)(b:List (List Int))(c:Int)(d:List Int),FnK J0 194 [I a,T.ro (lM b),I c,T.ro (lV d)] (fun r:(List Int)×Bool=>[lV r.1,B r.2]) (fun _=>[]) (f_W a b c d)):=⟨Tryz.call194,fun a b c d=>iM Tryz.func194⟩
end
end Go.Wk
