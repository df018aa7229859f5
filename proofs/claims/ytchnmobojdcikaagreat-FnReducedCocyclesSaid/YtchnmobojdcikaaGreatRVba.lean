/- x -/
import Derived.Test.YtchnmobojdcikaaGreatRVac
import Derived.Test.YtchnmobojdcikaaGreatRVag
import Derived.Test.YtchnmobojdcikaaGreatRVak
import Derived.Test.YtchnmobojdcikaaGreatRVar
import Derived.Test.YtchnmobojdcikaaGreatRVas
import Derived.Test.YtchnmobojdcikaaGreatRVaw
import Derived.Test.YtchnmobojdcikaaGreatRWT
open Go.Proofs.Tryz renaming prog->J0
open Option renaming some->iW,none->iY
open Bool renaming true->iZ,false->ja
namespace Go.Wk
open Go Go.Proofs Go.Ab
set_option maxRecDepth 100000
set_option maxHeartbeats 4000000
section
attribute [local irreducible] RW CW DK OkL Ok yB yI xF xQ XS.post rng xV xC ixO zL yE yT yD zH GTo zR FnC FnK wA wN Kp Lk BsL BuL RpL Bk Lc JQ AK
instance:HS Tryz.f302.8 [(2,3,0,.tr 6 23),(0,63,0,.tr 52 6),(2,12,0,.tr 6 63),(0,102,0,.tr 86 6),(0,115,0,.tr 106 6),(2,20,0,.tr 6 115),(1,17,0,.fi 9 16),(1,17,1,.resf 129 0 16 [0,0]),(1,17,2,.resf 129 1 16 [1,0]),(0,160,0,.tr 144 6)]:=⟨⟩
instance(c:zO)(d:Int)(e:(List (List Int))×Int):LH (R:=(List (List Int))) (zSy c d e) [1,2,5,6,7] [] (fun a=>[(8,T.ptr (T.agg [L 1 I a.1,L 1 I a.2.1])),(9,I a.2.2)]) (.xe 2 [] fun b=>[(8,T.ptr (T.agg [L 1 I b.1,L 1 I b.2]))]):=⟨⟩
instance(c:zO)(d:Int)(e:(List (List Int))×Int):LH (R:=(List (List Int))) (zSz c d e) [1,2,5,7] [] (fun a=>[(6,L 1 lV a.1),(10,I a.2)]) (.xe 4 [] fun b=>[(6,L 1 lV b)]):=⟨⟩
instance(c:zO)(d:Int):LH (R:=(List (List Int))) (zWk c d) [1,2,5] [] (fun b=>[(6,L 1 lV b.1),(7,I b.2)]) (.xe 0 [] fun a=>[(6,L 1 lV a)]):=⟨⟩
instance(c:zO)(d:Int):LH (R:=(List (List Int))) (zWl c d) [1,2,5,6,14,15,16] [] (fun a=>[(17,T.ptr (T.agg [T.ro (lV a.1),T.ro (lV a.2.1)])),(18,I a.2.2)]) (.xe 8 [] fun b=>[(17,T.ptr (T.agg [T.ro (lV b.1),T.ro (lV b.2)]))]):=⟨⟩
instance(d:zO)(e:Int)(b:zI):LH (R:=(List (List Int))) (zS0 d e b) [1,2,5,14] [] (fun a=>[(6,L 1 lV a.1),(15,I a.2)]) (.xe 6 [1,2,5,14] fun c=>[(6,L 1 lV c)]):=⟨⟩
instance t_o:FI J0 302 (∀(a:zO)(b:Int),FnK J0 302 [xM a,I b] (fun r:(List (List Int))=>[lM r]) (fun _=>[]) (f_o a b)):=⟨Tryz.call302,fun a b=>iM Tryz.func302⟩
end
end Go.Wk
