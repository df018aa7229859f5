/- x -/
import Derived.Test.YtchnmobojdcikaaGreatPVau
import Derived.Test.YtchnmobojdcikaaGreatPVbe
import Derived.Test.YtchnmobojdcikaaGreatPVbg
import Derived.Test.YtchnmobojdcikaaGreatPWT
open Go.Proofs.Tryz renaming prog→J0
open Option renaming some→aB,none→aC
open Bool renaming true→aD,false→aE
namespace Go.Wk
open Go Go.Proofs Go.Ab
set_option maxRecDepth 100000
set_option maxHeartbeats 4000000
section
attribute [local irreducible] RW CW DK OkL Ok yA yB xE xH XS.post rng xK yV ixO zN yD xC zU zC GTo zO FnC FnK xV wG Kp Lk BsL BuL RpL Bk Lc JQ AK
instance(a:SPr)(b:zG)(c:List (List (List Int))):LH (R:=Int) (zPM a b c) [0,1,2,15,16] [] (fun d=>[(17,I d)]) (.xs (.xe 0 [15,16] fun _=>[]) .xr):=⟨⟩
instance(a:SPr)(b:zG)(c:List (List (List Int))):LH (R:=Int) (zPN a b c) [0,1,27,28] [] (fun d=>[(29,I d)]) (.xs (.xe 2 [0,1,27,28] fun _=>[]) .xr):=⟨⟩
instance t_P:FI J0 99 (∀(a:SPr)(b:zG)(c:List (List (List Int))),FnK J0 99 [T.ro ((Pt xT) a),T.ro ((Pt xU) b),T.ro (lC c)] (fun r=>[I r]) (fun _=>[]) (f_P a b c)):=⟨Tryz.call99,fun a b c=>iM Tryz.func99⟩
instance t_bA:FI J0 30 (∀(a:SPr)(b:zG),FnK J0 30 [qPr a,zDE b] (fun r=>[B r]) (fun _=>[]) (zSq a b)):=⟨Tryz.call30,fun a b=>iM Tryz.func30⟩
instance t_by:FI J0 31 (∀(a:SPr)(b:zG)(c:List (List Int)),FnK J0 31 [qPr a,zDE b,T.ro (lM c)] (fun r=>[B r.1,I r.2]) (fun _=>[]) (zRI a b c)):=⟨Tryz.call31,fun a b c=>iM Tryz.func31⟩
end
end Go.Wk
