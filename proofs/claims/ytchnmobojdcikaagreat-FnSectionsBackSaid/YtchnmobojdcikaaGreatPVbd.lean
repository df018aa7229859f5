/- x -/
import Derived.Test.YtchnmobojdcikaaGreatPVat
import Derived.Test.YtchnmobojdcikaaGreatPWT
open Go.Proofs.Tryz renaming prog→J0
open Option renaming some→aB,none→aC
open Bool renaming true→aD,false→aE
namespace Go.Wk
open Go Go.Proofs Go.Ab
set_option maxRecDepth 100000
set_option maxHeartbeats 4000000
section
attribute [local irreducible] RW CW DK OkL Ok yA yB xE xH XS.post rng xK yV ixO zN yD xC zU zC GTo zO FnC FnK xV wG Kp Lk BsL BuL RpL Bk Lc JQ AK
instance(a:SPr):LH (R:=Int) (zJv a) [0] [] (fun b=>[(3,I b)]) (.xe 0 [0] fun c=>[(3,I c)]):=⟨⟩
instance t_U:FI J0 202 (∀(a:SPr),FnK J0 202 [T.ro ((Pt xT) a)] (fun r=>[I r]) (fun _=>[]) (f_U a)):=⟨Tryz.call202,fun a=>iM Tryz.func202⟩
end
end Go.Wk
