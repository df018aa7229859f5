/- x -/
import Derived.Test.YtcjmcjcfehbboaaGreatRVad
import Derived.Test.YtcjmcjcfehbboaaGreatRVap
import Derived.Test.YtcjmcjcfehbboaaGreatRVar
import Derived.Test.YtcjmcjcfehbboaaGreatRVbi
import Derived.Test.YtcjmcjcfehbboaaGreatRWT
open Go.Proofs.Tryz renaming prog->J1
open Option renaming some->Wu,none->Wv
open Bool renaming true->Ww,false->Wx
namespace Go.Wk
open Go Go.Proofs Go.Ab
set_option maxRecDepth 100000
set_option maxHeartbeats 4000000
section
attribute [local irreducible] RW CW DK OkL Ok yX xC wK wY XS.post rng vP vL ixO zT yR wN yO zF GTo zI FnC FnK vB uC Kp Lk BsL BuL RpL Bk Lc
instance:HS Tryz.f7.8 [(2,7,0,.tr 9 24),(2,8,0,.fz 3),(2,8,1,.fi 1 8),(2,8,2,.fz 9),(2,13,0,.fz 3),(2,13,1,.fi 1 8),(2,13,2,.fz 9)]:=⟨⟩
instance(c:yF)(d e:Int):LH (R:=(List (List Int))×Int) (zJO c d e) [1,3,25] [3] (fun a=>[(8,T.ptr (T.agg [T.ro (lV a.1),T.ro (lM a.2.1),T.ro (lC a.2.2.1)])),(9,T.ro (lM a.2.2.2.1)),(26,I a.2.2.2.2)]) (.xs (.xe 0 [1,3,25] fun b=>[(8,T.ptr (T.agg [T.ro (lV b.1),T.ro (lM b.2.1),T.ro (lC b.2.2.1)])),(9,T.ro (lM b.2.2.2))]) .xr):=⟨⟩
instance t_ai:FI J1 7 (∀(a:yF)(b c:Int),FnK J1 7 [qG a,I b,I c] (fun r:(List (List Int))×Int=>[lM r.1,I r.2]) (fun _=>[]) (zVR a b c)):=⟨Tryz.call7,fun a b c=>iM Tryz.func7⟩
end
end Go.Wk
