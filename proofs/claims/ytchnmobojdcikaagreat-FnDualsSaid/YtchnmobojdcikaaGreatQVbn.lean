/- x -/
import Derived.Test.YtchnmobojdcikaaGreatQVad
import Derived.Test.YtchnmobojdcikaaGreatQVaf
import Derived.Test.YtchnmobojdcikaaGreatQVam
import Derived.Test.YtchnmobojdcikaaGreatQVay
import Derived.Test.YtchnmobojdcikaaGreatQVbm
import Derived.Test.YtchnmobojdcikaaGreatQWT
open Go.Proofs.Tryz renaming prog→J0
open Option renaming some→dq,none→dt
open Bool renaming true→du,false→dv
namespace Go.Wk
open Go Go.Proofs Go.Ab
set_option maxRecDepth 100000
set_option maxHeartbeats 4000000
section
attribute [local irreducible] RW CW DK OkL Ok zS zV yQ xI XS.post rng xL yO ixO zP zU yT zZ zG GTo zM FnC FnK xK xN Kp Lk BsL BuL RpL Bk Lc JQ AK
instance:HS Tryz.f53.8 [(2,6,0,.fz 4),(2,6,1,.fz 5),(0,49,0,.trq 44 12 [2,0]),(0,101,0,.tr 95 14),(2,29,0,.tr 14 101),(0,106,0,.tr 105 14),(0,107,0,.tr 104 9),(2,32,0,.tr 9 107),(2,34,0,.fz 4),(2,34,1,.fz 5)]:=⟨⟩
instance(b c:zC)(d:(List (List Int))×Int)(e:(List (List Int))×Int):LH (R:=Int×Int) (zOP b c d e) [3,4,5,9,10,11,24,25,29,30,39] [] (fun a=>[(12,T.ptr (T.agg [I b.Prime,I c.Dim,L 1 lV a.1])),(40,I a.2)]) (.xe 4 [11,39] fun f=>[(12,T.ptr (T.agg [I b.Prime,I c.Dim,L 1 lV f]))]):=⟨⟩
instance(e:zC)(a c:zF):LH (R:=Int×Int) (zOQ e a c) [3,4,5,9,10,12,17,24,25,29,30,64,65,78] [] (fun b=>[(14,L 1 I b.1),(16,T.ptr (T.agg [I a.Prime,I a.yW,L 1 lV b.2.1])),(79,I b.2.2)]) (.xe 8 [17,78] fun d=>[(14,L 1 I d)]):=⟨⟩
instance(c:SPr)(d e:zC)(f:(List (List Int))):LH (R:=Int×Int) (zRE c d e f) [3,4,5,9,10,12,24,25,29,30,64] [] (fun a=>[(14,L 1 I a.1),(65,I a.2)]) (.xe 6 [12,64] fun b=>[(14,L 1 I b)]):=⟨⟩
instance(d:SPr)(e f:zC)(b:(List (List Int))×Int):LH (R:=Int×Int) (zOR d e f b) [3,4,5,10,24,25,29] [] (fun a=>[(9,L 1 lV a.1),(30,I a.2)]) (.xe 2 [10,29] fun c=>[(9,L 1 lV c)]):=⟨⟩
instance(c:SPr)(d e:zC):LH (R:=Int×Int) (zRF c d e) [3,4,5,24] [4,5] (fun a=>[(9,L 1 lV a.1),(25,I a.2)]) (.xe 0 [3,5,24] fun b=>[(9,L 1 lV b)]):=⟨⟩
instance t_g:FI J0 53 (∀(a:SPr)(b c:zC),FnK J0 53 [qPr a,xQ b,xQ c] (fun r=>[I r.1,I r.2]) (fun _=>[]) (f_g a b c)):=⟨Tryz.call53,fun a b c=>iM Tryz.func53⟩
end
end Go.Wk
