/- x -/
import Derived.Test.YtcjmcjcfehbboaaGreatRVah
import Derived.Test.YtcjmcjcfehbboaaGreatRVai
import Derived.Test.YtcjmcjcfehbboaaGreatRVal
import Derived.Test.YtcjmcjcfehbboaaGreatRVap
import Derived.Test.YtcjmcjcfehbboaaGreatRVbj
import Derived.Test.YtcjmcjcfehbboaaGreatRVbk
import Derived.Test.YtcjmcjcfehbboaaGreatRWT
open Go.Proofs.Tryz renaming prog->J1
open Option renaming some->Wu,none->Wv
open Bool renaming true->Ww,false->Wx
namespace Go.Wk
open Go Go.Proofs Go.Ab
set_option maxRecDepth 100000
set_option maxHeartbeats 4000000
section
attribute [local irreducible] RW CW DK OkL Ok yX xC wK wY XS.post rng vP vL ixO zT yR wN yO zF GTo zI FnC FnK vB uC Kp Lk BsL BuL RpL Bk Lc
instance:HS Tryz.f4.8 [(2,6,0,.trq 8 28 [0]),(2,8,0,.trq 11 37 [0]),(2,25,0,.trq 16 86 [0])]:=⟨⟩
instance t_bp:FI J1 4 (∀(a:yF)(b c:Int),FnK J1 4 [qG a,I b,I c] (fun r=>[B r]) (fun _=>[]) (yAQ a b c)):=⟨Tryz.call4,fun a b c=>iM Tryz.func4⟩
end
end Go.Wk
