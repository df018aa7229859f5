/- x -/
import Derived.Test.YtcjmcjcfehbboaaGreatRVad
import Derived.Test.YtcjmcjcfehbboaaGreatRVat
import Derived.Test.YtcjmcjcfehbboaaGreatRVay
import Derived.Test.YtcjmcjcfehbboaaGreatRWT
open Go.Proofs.Tryz renaming prog->J1,call54->Jby
open Option renaming some->Wu,none->Wv
open Bool renaming true->Ww,false->Wx
namespace Go.Wk
open Go Go.Proofs Go.Ab
set_option maxRecDepth 100000
set_option maxHeartbeats 4000000
section
attribute [local irreducible] RW CW DK OkL Ok yX xC wK wY XS.post rng vP vL ixO zT yR wN yO zF GTo zI FnC FnK vB uC Kp Lk BsL BuL RpL Bk Lc
instance:HS Tryz.f54.8 [(2,2,0,.tr 5 7)]:=⟨⟩
instance t_aA:FI J1 54 (∀(a:SPr)(b:List (List Int)),FnK J1 54 [T.ro ((Pt yM) a),T.ro (lM b)] (fun r:(List (List Int))=>[lM r]) (fun _=>[]) (zNg a b)):=⟨Jby,fun a b=>iM Tryz.func54⟩
end
end Go.Wk
