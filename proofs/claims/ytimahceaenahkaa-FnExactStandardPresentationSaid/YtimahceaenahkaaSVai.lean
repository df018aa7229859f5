/- x -/
import Derived.Test.YtimahceaenahkaaSVaf
import Derived.Test.YtimahceaenahkaaSWT
open Go.Proofs.Try renaming prog→J0
open Option renaming some→df,none→dg
open Bool renaming true→dh,false→di
namespace Go.Wk
open Go Go.Proofs Go.Ab
set_option maxRecDepth 100000
set_option maxHeartbeats 4000000
section
attribute [local irreducible] RW CW DK OkL Ok zW yB yY xP XS.post rng wA wF ixO zS yQ xC yF zC GTo zF FnC FnK xU wM Kp BsL BuL RpL Bk Lc JQ AK
instance:HS Try.f67.8 [(0,12,0,.fz 8),(0,12,1,.fz 11)]:=⟨⟩
instance t_af:FI J0 67 (∀(a:List Int)(b c:Int),FnK J0 67 [T.ro (lV a),I b,I c] (fun r=>[lV r]) (fun _=>[]) (zJj a b c)):=⟨Try.call67,fun a b c=>iM Try.func67⟩
end
end Go.Wk
