/- x -/
import Derived.Test.YtcjmcjcfehbboaaGreatRVac
import Derived.Test.YtcjmcjcfehbboaaGreatRVae
import Derived.Test.YtcjmcjcfehbboaaGreatRVau
import Derived.Test.YtcjmcjcfehbboaaGreatRVbf
import Derived.Test.YtcjmcjcfehbboaaGreatRWT
open Go.Proofs.Tryz renaming prog->J1
open Option renaming some->Wu,none->Wv
open Bool renaming true->Ww,false->Wx
namespace Go.Wk
open Go Go.Proofs Go.Ab
set_option maxRecDepth 100000
set_option maxHeartbeats 4000000
section
attribute [local irreducible] RW CW DK OkL Ok yX xC wK wY XS.post rng vP vL ixO zT yR wN yO zF GTo zI FnC FnK vB uC Kp Lk BsL BuL RpL Bk Lc
instance:HS Tryz.f47.8 [(2,3,0,.tr 6 11),(0,16,0,.tr 15 6)]:=⟨⟩
instance t_be:FI J1 47 (∀(a:SPr)(b:Int),FnK J1 47 [T.ro ((Pt yM) a),I b] (fun r:(List (List Int))=>[lM r]) (fun _=>[]) (zXX a b)):=⟨Tryz.call47,fun a b=>iM Tryz.func47⟩
end
end Go.Wk
