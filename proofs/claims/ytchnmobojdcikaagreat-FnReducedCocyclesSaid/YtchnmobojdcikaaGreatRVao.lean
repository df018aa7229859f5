/- x -/
import Derived.Test.YtchnmobojdcikaaGreatRVaa
import Derived.Test.YtchnmobojdcikaaGreatRVaf
import Derived.Test.YtchnmobojdcikaaGreatRVah
import Derived.Test.YtchnmobojdcikaaGreatRVai
import Derived.Test.YtchnmobojdcikaaGreatRVak
import Derived.Test.YtchnmobojdcikaaGreatRWT
open Go.Proofs.Tryz renaming prog->J0
open Option renaming some->iW,none->iY
open Bool renaming true->iZ,false->ja
namespace Go.Wk
open Go Go.Proofs Go.Ab
set_option maxRecDepth 100000
set_option maxHeartbeats 4000000
section
attribute [local irreducible] RW CW DK OkL Ok yB yI xF xQ XS.post rng xV xC ixO zL yE yT yD zH GTo zR FnC FnK wA wN Kp Lk BsL BuL RpL Bk Lc JQ AK
instance:HS Tryz.f243.8 [(2,13,0,.tr 8 56),(2,23,0,.tr 11 108),(2,24,0,.tr 12 131)]:=⟨⟩
instance(a:SPr)(b:zB):LH (R:=Bool) (zVz a b) [2,3,5] [] (fun c=>[(6,I c)]) (.xs (.xe 0 [] fun _=>[]) .xr):=⟨⟩
instance(d:SPr)(e:zB)(b:Int):LH (R:=Bool) (zV0 d e b) [2,3,5,7] [] (fun a=>[(8,L 1 lV a.1),(9,I a.2)]) (.xe 4 [] fun c=>[(8,L 1 lV c)]):=⟨⟩
instance(c:SPr)(d:zB)(a:Int):LH (R:=Bool) (zV1 c d a) [2,3,5,7] [] (fun b=>[(10,I b)]) (.xs (.xe 6 [] fun _=>[]) .xr):=⟨⟩
instance(b:SPr)(c:zB):LH (R:=Bool) (zV2 b c) [2,3,5] [] (fun a=>[(7,I a)]) (.xs (.xe 2 [2,3,5] fun _=>[]) .xr):=⟨⟩
instance t_B:FI J0 243 (∀(a:SPr)(b:zB),FnK J0 243 [qPr a,wS b] (fun r=>[B r]) (fun _=>[]) (f_B a b)):=⟨Tryz.call243,fun a b=>iM Tryz.func243⟩
end
end Go.Wk
