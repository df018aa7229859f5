/- x -/
import Derived.Test.YtcjmcjcfehbboaaGreatRVad
import Derived.Test.YtcjmcjcfehbboaaGreatRVal
import Derived.Test.YtcjmcjcfehbboaaGreatRVar
import Derived.Test.YtcjmcjcfehbboaaGreatRVbg
import Derived.Test.YtcjmcjcfehbboaaGreatRWT
open Go.Proofs.Tryz renaming prog->J1
open Option renaming some->Wu,none->Wv
open Bool renaming true->Ww,false->Wx
namespace Go.Wk
open Go Go.Proofs Go.Ab
set_option maxRecDepth 100000
set_option maxHeartbeats 4000000
section
attribute [local irreducible] RW CW DK OkL Ok yX xC wK wY XS.post rng vP vL ixO zT yR wN yO zF GTo zI FnC FnK vB uC Kp Lk BsL BuL RpL Bk Lc
instance:HS Tryz.f8.8 [(2,7,0,.tr 9 25),(1,8,0,.trf 37 0 36 [0,0]),(1,8,1,.trf 37 1 36 [1,0]),(1,8,2,.trf 37 2 36 [2,0]),(2,11,0,.trq 9 36 [1])]:=⟨⟩
instance(c:yF)(d e:Int):LH (R:=(List (List Int))×Int) (zJR c d e) [1,2,3] [] (fun a=>[(8,T.ptr (T.agg [L 1 I a.1,L 1 lV a.2.1,L 1 lM a.2.2.1])),(9,L 1 lV a.2.2.2.1),(10,I a.2.2.2.2)]) (.xs (.xe 0 [1,2,3] fun b=>[(8,T.ptr (T.agg [L 1 I b.1,L 1 lV b.2.1,L 1 lM b.2.2.1])),(9,L 1 lV b.2.2.2)]) .xr):=⟨⟩
instance t_ar:FI J1 8 (∀(a:yF)(b c:Int),FnK J1 8 [qG a,I b,I c] (fun r:(List (List Int))×Int=>[lM r.1,I r.2]) (fun _=>[]) (zYf a b c)):=⟨Tryz.call8,fun a b c=>iM Tryz.func8⟩
end
end Go.Wk
