/- x -/
import Derived.Test.YtimahceaenahkaaSVaa
import Derived.Test.YtimahceaenahkaaSVan
import Derived.Test.YtimahceaenahkaaSVar
import Derived.Test.YtimahceaenahkaaSVat
import Derived.Test.YtimahceaenahkaaSWT
open Go.Proofs.Try renaming prog→J0
open Option renaming some→df,none→dg
open Bool renaming true→dh,false→di
namespace Go.Wk
open Go Go.Proofs Go.Ab
set_option maxRecDepth 100000
set_option maxHeartbeats 4000000
section
attribute [local irreducible] RW CW DK OkL Ok zW yB yY xP XS.post rng wA wF ixO zS yQ xC yF zC GTo zF FnC FnK xU wM Kp BsL BuL RpL Bk Lc JQ AK
instance:HS Try.f37.8 [(2,5,0,.tr 11 31),(2,9,0,.tr 13 46),(0,76,0,.tr 74 13),(2,11,0,.tr 13 76)]:=⟨⟩
instance(c:SPr)(d:zE)(e:List Int)(f:(List Int)):LH (R:=(List Int)×Bool) (zJn c d e f) [2,4,5,11] [] (fun b=>[(13,L 1 I b.1),(14,I b.2)]) (.xs (.xe 0 [2,4,5,11] fun a=>[(13,L 1 I a)]) .xr):=⟨⟩
instance t_K:FI J0 37 (∀(a:SPr)(b:zE)(c:List Int)(d:Int),FnK J0 37 [qPr a,zEB b,T.ro (lV c),I d] (fun r:(List Int)×Bool=>[lV r.1,B r.2]) (fun _=>[]) (f_K a b c d)):=⟨Try.call37,fun a b c d=>iM Try.func37⟩
end
end Go.Wk
