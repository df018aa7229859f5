/- x -/
import Derived.Test.YtchnmobojdcikaaGreatRVab
import Derived.Test.YtchnmobojdcikaaGreatRVac
import Derived.Test.YtchnmobojdcikaaGreatRVaf
import Derived.Test.YtchnmobojdcikaaGreatRVah
import Derived.Test.YtchnmobojdcikaaGreatRVbl
import Derived.Test.YtchnmobojdcikaaGreatRWT
open Go.Proofs.Tryz renaming prog->J0
open Option renaming some->iW,none->iY
open Bool renaming true->iZ,false->ja
namespace Go.Wk
open Go Go.Proofs Go.Ab
set_option maxRecDepth 100000
set_option maxHeartbeats 4000000
section
attribute [local irreducible] RW CW DK OkL Ok yB yI xF xQ XS.post rng xV xC ixO zL yE yT yD zH GTo zR FnC FnK wA wN Kp Lk BsL BuL RpL Bk Lc JQ AK
instance:HS Tryz.f216.8 [(2,2,0,.tr 7 15),(2,3,0,.tr 8 18)]:=⟨⟩
instance(c:zB)(d:(List (List Int))):LH (R:=(List (List Int))×zE) (zXi c d) [5,8] [] (fun a=>[(0,T.ptr (T.agg [T.ro ((L 1 (IK .u8)) a.1),I a.2.1,I a.2.2.1])),(7,L 1 I a.2.2.2.1),(9,I a.2.2.2.2)]) (.xe 0 [8] fun b=>[(0,T.ptr (T.agg [T.ro ((L 1 (IK .u8)) b.1),I b.2.1,I b.2.2.1])),(7,L 1 I b.2.2.2)]):=⟨⟩
instance t_bm:FI J0 216 (∀(a:zE)(b:SPr)(c:zB),FnK J0 216 [T.ptr (wY a),qPr b,wS c] (fun r:(List (List Int))×zE=>[lM r.1]) (fun r=>[(0,(Pt (fun x=>T.agg [(Ro (L 1 (IK .u8))) x.code,I x.at_,I x.seed])) r.2)]) (zXj a b c)):=⟨Tryz.call216,fun a b c=>iM Tryz.func216⟩
end
end Go.Wk
