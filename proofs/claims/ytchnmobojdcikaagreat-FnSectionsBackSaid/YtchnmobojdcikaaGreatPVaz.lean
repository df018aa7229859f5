/- x -/
import Derived.Test.YtchnmobojdcikaaGreatPVau
import Derived.Test.YtchnmobojdcikaaGreatPVav
import Derived.Test.YtchnmobojdcikaaGreatPVaw
import Derived.Test.YtchnmobojdcikaaGreatPWT
open Go.Proofs.Tryz renaming prog→J0
open Option renaming some→aB,none→aC
open Bool renaming true→aD,false→aE
namespace Go.Wk
open Go Go.Proofs Go.Ab
set_option maxRecDepth 100000
set_option maxHeartbeats 4000000
section
attribute [local irreducible] RW CW DK OkL Ok yA yB xE xH XS.post rng xK yV ixO zN yD xC zU zC GTo zO FnC FnK xV wG Kp Lk BsL BuL RpL Bk Lc JQ AK
instance t_bB:FI J0 229 (∀(a:SPr),FnK J0 229 [qPr a] (fun r=>[B r]) (fun _=>[]) (zUo a)):=⟨Tryz.call229,fun a=>iM Tryz.func229⟩
instance:HS Tryz.f127.8 [(1,6,0,.trf 17 0 8 [0,0]),(1,6,1,.trf 17 1 8 [1,0]),(1,6,2,.trf 17 2 8 [2,0])]:=⟨⟩
instance t_bF:FI J0 127 (∀(a:SPr)(b:zG)(c:List (List Int)),FnK J0 127 [T.ro ((Pt xT) a),T.ro ((Pt xU) b),T.ro (lM c)] (fun r=>[xT r.1,I r.2]) (fun _=>[]) (zUz a b c)):=⟨Tryz.call127,fun a b c=>iM Tryz.func127⟩
end
end Go.Wk
