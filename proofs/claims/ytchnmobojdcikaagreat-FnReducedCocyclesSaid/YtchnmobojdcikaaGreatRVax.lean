/- x -/
import Derived.Test.YtchnmobojdcikaaGreatRVag
import Derived.Test.YtchnmobojdcikaaGreatRVah
import Derived.Test.YtchnmobojdcikaaGreatRWT
open Go.Proofs.Tryz renaming prog->J0,f154->Qw
open Option renaming some->iW,none->iY
open Bool renaming true->iZ,false->ja
namespace Go.Wk
open Go Go.Proofs Go.Ab
set_option maxRecDepth 100000
set_option maxHeartbeats 4000000
section
attribute [local irreducible] RW CW DK OkL Ok yB yI xF xQ XS.post rng xV xC ixO zL yE yT yD zH GTo zR FnC FnK wA wN Kp Lk BsL BuL RpL Bk Lc JQ AK
instance:HS Qw.8 [(2,2,0,.tr 1 13),(0,138,0,.tr 135 1)]:=⟨⟩
instance:yDW Qw.results:=⟨⟩
instance:SwH Qw.8 10 1 [0,5,6,7]:=⟨⟩
instance(a:(List (List Int))×Int×Int):LH (R:=(List (List Int))) (zJ9 a) [0,1,5,6] [] (fun b=>[(7,I b)]) (.xe 2 [] fun c=>[(7,I c)]):=⟨⟩
instance(f:Int)(b:(List (List Int))×Int×Int)(c:Int×Bool)(d:List Int):LH (R:=(List (List Int))) (zNJ f b c d) [0,5,6,8,84] [] (fun a=>[(1,L 1 lV a.1),(85,I a.2)]) (.xe 4 [8,84] fun e=>[(1,L 1 lV e)]):=⟨⟩
instance(e:Int)(b:(List (List Int))×Int×Int)(c:(List (List Int))):LH (R:=(List (List Int))) (zPr e b c) [0,5,6,107] [] (fun a=>[(1,L 1 lV a.1),(108,I a.2)]) (.xe 6 [107] fun d=>[(1,L 1 lV d)]):=⟨⟩
instance(c:Int):LH (R:=(List (List Int))) (zPs c) [0] [] (fun a=>[(1,L 1 lV a.1),(5,I a.2.1),(6,I a.2.2)]) (.xe 0 [0] fun b=>[(1,L 1 lV b.1),(5,I b.2)]):=⟨⟩
instance t_i:FI J0 154 (∀(a:Int)(b:List (List Int)),FnK J0 154 [I a,T.ro (lM b)] (fun r:(List (List Int))=>[lM r]) (fun _=>[]) (f_i a b)):=⟨Tryz.call154,fun a b=>iM Tryz.func154⟩
end
end Go.Wk
