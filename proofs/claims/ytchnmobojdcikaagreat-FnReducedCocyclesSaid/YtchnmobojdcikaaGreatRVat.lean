/- x -/
import Derived.Test.YtchnmobojdcikaaGreatRVab
import Derived.Test.YtchnmobojdcikaaGreatRVac
import Derived.Test.YtchnmobojdcikaaGreatRVah
import Derived.Test.YtchnmobojdcikaaGreatRVaj
import Derived.Test.YtchnmobojdcikaaGreatRWT
open Go.Proofs.Tryz renaming prog->J0
open Option renaming some->iW,none->iY
open Bool renaming true->iZ,false->ja
namespace Go.Wk
open Go Go.Proofs Go.Ab
set_option maxRecDepth 100000
set_option maxHeartbeats 4000000
section
attribute [local irreducible] RW CW DK OkL Ok yB yI xF xQ XS.post rng xV xC ixO zL yE yT yD zH GTo zR FnC FnK wA wN Kp Lk BsL BuL RpL Bk Lc JQ AK
instance:HS Tryz.f223.8 [(1,4,0,.trf 30 0 5 [0,0]),(1,4,1,.trf 30 1 5 [1,0]),(1,4,2,.trf 30 2 5 [2,0]),(1,4,3,.trf 48 0 5 [0,0]),(1,4,4,.trf 48 1 5 [1,0]),(1,4,5,.trf 48 2 5 [2,0]),(1,4,6,.trf 78 0 5 [0,0]),(1,4,7,.trf 78 1 5 [1,0]),(1,4,8,.trf 78 2 5 [2,0])]:=⟨⟩
instance t_bU:FI J0 223 (∀(a:zE)(b:SPr),FnK J0 223 [T.ptr (wY a),qPr b] (fun r=>[vQ r.1]) (fun r=>[(0,(Pt (fun x=>T.agg [(Ro (L 1 (IK .u8))) x.code,I x.at_,I x.seed])) r.2)]) (zXg a b)):=⟨Tryz.call223,fun a b=>iM Tryz.func223⟩
instance t_bP:FI J0 235 (∀(a:List (List Int))(b:List (List Int)),FnK J0 235 [T.ro (lM a),T.ro (lM b)] (fun r=>[B r]) (fun _=>[]) (zY5 a b)):=⟨Tryz.call235,fun a b=>iM Tryz.func235⟩
instance:HS Tryz.f295.8 [(0,12,0,.fz 8),(0,12,1,.fz 11)]:=⟨⟩
instance t_b1:FI J0 295 (∀(a:List Int)(b c:Int),FnK J0 295 [T.ro (lV a),I b,I c] (fun r=>[lV r]) (fun _=>[]) (zY6 a b c)):=⟨Tryz.call295,fun a b c=>iM Tryz.func295⟩
end
end Go.Wk
