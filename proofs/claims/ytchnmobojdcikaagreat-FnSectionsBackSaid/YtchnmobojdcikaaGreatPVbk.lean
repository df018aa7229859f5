/- x -/
import Derived.Test.YtchnmobojdcikaaGreatPVaz
import Derived.Test.YtchnmobojdcikaaGreatPVbi
import Derived.Test.YtchnmobojdcikaaGreatPWT
open Go.Proofs.Tryz renaming prog→J0
open Option renaming some→aB,none→aC
open Bool renaming true→aD,false→aE
namespace Go.Wk
open Go Go.Proofs Go.Ab
set_option maxRecDepth 100000
set_option maxHeartbeats 4000000
section
attribute [local irreducible] RW CW DK OkL Ok yA yB xE xH XS.post rng xK yV ixO zN yD xC zU zC GTo zO FnC FnK xV wG Kp Lk BsL BuL RpL Bk Lc JQ AK
instance:HS Tryz.f32.8 [(1,6,0,.trf 18 0 17 [0,0]),(1,6,1,.trf 18 1 17 [1,0]),(1,6,2,.trf 18 2 17 [2,0])]:=⟨⟩
instance t_bz:FI J0 32 (∀(a:SPr)(b:zG)(c:List (List Int)),FnK J0 32 [qPr a,zDE b,T.ro (lM c)] (fun r=>[xT r.1,I r.2]) (fun _=>[]) (zRJ a b c)):=⟨Tryz.call32,fun a b c=>iM Tryz.func32⟩
end
end Go.Wk
