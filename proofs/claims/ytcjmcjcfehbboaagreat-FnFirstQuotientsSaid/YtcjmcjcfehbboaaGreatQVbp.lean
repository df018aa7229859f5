/- x -/
import Derived.Test.YtcjmcjcfehbboaaGreatQVaa
import Derived.Test.YtcjmcjcfehbboaaGreatQVba
import Derived.Test.YtcjmcjcfehbboaaGreatQVbg
import Derived.Test.YtcjmcjcfehbboaaGreatQWT
import Derived.Test.YtcjmcjcfehbboaaGreatQVbj
import Derived.Test.YtcjmcjcfehbboaaGreatQVbk
import Derived.Test.YtcjmcjcfehbboaaGreatQVag
import Derived.Test.YtcjmcjcfehbboaaGreatQVbf
import Derived.Test.YtcjmcjcfehbboaaGreatQVbi
import Derived.Test.YtcjmcjcfehbboaaGreatQVaf
import Derived.Test.YtcjmcjcfehbboaaGreatQVbo
import Derived.Test.YtcjmcjcfehbboaaGreatQVah
import Derived.Test.YtcjmcjcfehbboaaGreatQVbn
open Go.Proofs.Tryz renaming prog→J0
open Option renaming some→jq,none→jr
open Bool renaming true→js,false→jt
namespace Go.Wk
open Go Go.Proofs Go.Ab
set_option maxRecDepth 100000
set_option maxHeartbeats 4000000
section
attribute [local irreducible] RW CW DK OkL Ok yL yM xQ wE XS.post rng wF xN ixO zQ yC xR yH zC GTo zE FnC FnK wJ wS Kp Lk BsL BuL RpL Bk Lc
instance(a:zY):LH (R:=Bool) (zLH a) [1] [] (fun b=>[(3,I b)]) (.xs (.xe 0 [1] fun _=>[]) .xr):=⟨⟩
instance t_aK:FI J0 29 (∀(a:zY),FnK J0 29 [zBS a] (fun r=>[B r]) (fun _=>[]) (zTw a)):=⟨Tryz.call29,fun a=>iM Tryz.func29⟩
instance:HS Tryz.f10.8 [(2,10,0,.trq 7 31 [0]),(0,37,0,.tr 36 7),(0,38,0,.trq 35 4 [1,0]),(1,2,0,.trf 41 1 4 [1,0])]:=⟨⟩
instance(a:zY):LH (R:=zBh×Int) (zLQ a) [1,2,21,22] [] (fun b=>[(4,T.ptr (T.agg [I a.Gens,L 1 lV b.1])),(23,I b.2)]) (.xe 0 [1,21,22] fun c=>[(4,T.ptr (T.agg [I a.Gens,L 1 lV c]))]):=⟨⟩
instance t_a2:FI J0 10 (∀(a:zY),FnK J0 10 [zBS a] (fun r=>[zOC r.1,I r.2]) (fun _=>[]) (zWg a)):=⟨Tryz.call10,fun a=>iM Tryz.func10⟩
end
end Go.Wk

namespace Go.Wk
open Go Go.Proofs Go.Ab
set_option maxRecDepth 100000
set_option maxHeartbeats 4000000
section
attribute [local irreducible] RW CW DK OkL Ok yL yM xQ wE XS.post rng wF xN ixO zQ yC xR yH zC GTo zE FnC FnK wJ wS Kp Lk BsL BuL RpL Bk Lc
instance t_b7:FI J0 11 (∀(a:zN),FnK J0 11 [zAR a] (fun r=>[zS r.1,I r.2]) (fun _=>[]) (zWh a)):=⟨Tryz.call11,fun a=>iM Tryz.func11⟩
end
end Go.Wk

namespace Go.Wk
open Go Go.Proofs Go.Ab
set_option maxRecDepth 100000
set_option maxHeartbeats 4000000
section
attribute [local irreducible] RW CW DK OkL Ok yL yM xQ wE XS.post rng wF xN ixO zQ yC xR yH zC GTo zE FnC FnK wJ wS Kp Lk BsL BuL RpL Bk Lc
instance:HS Tryz.f8.8 [(2,7,0,.tr 9 25),(1,8,0,.trf 37 0 36 [0,0]),(1,8,1,.trf 37 1 36 [1,0]),(1,8,2,.trf 37 2 36 [2,0]),(2,11,0,.trq 9 36 [1])]:=⟨⟩
instance(c:zY)(d e:Int):LH (R:=(List (List Int))×Int) (zIN c d e) [1,2,3] [] (fun a=>[(8,T.ptr (T.agg [L 1 I a.1,L 1 lV a.2.1,L 1 lM a.2.2.1])),(9,L 1 lV a.2.2.2.1),(10,I a.2.2.2.2)]) (.xs (.xe 0 [1,2,3] fun b=>[(8,T.ptr (T.agg [L 1 I b.1,L 1 lV b.2.1,L 1 lM b.2.2.1])),(9,L 1 lV b.2.2.2)]) .xr):=⟨⟩
instance t_ao:FI J0 8 (∀(a:zY)(b c:Int),FnK J0 8 [zBS a,I b,I c] (fun r:(List (List Int))×Int=>[lM r.1,I r.2]) (fun _=>[]) (zNq a b c)):=⟨Tryz.call8,fun a b c=>iM Tryz.func8⟩
end
end Go.Wk

namespace Go.Wk
open Go Go.Proofs Go.Ab
set_option maxRecDepth 100000
set_option maxHeartbeats 4000000
section
attribute [local irreducible] RW CW DK OkL Ok yL yM xQ wE XS.post rng wF xN ixO zQ yC xR yH zC GTo zE FnC FnK wJ wS Kp Lk BsL BuL RpL Bk Lc
instance:HS Tryz.f7.8 [(2,7,0,.tr 9 24),(2,8,0,.fz 3),(2,8,1,.fi 1 8),(2,8,2,.fz 9),(2,13,0,.fz 3),(2,13,1,.fi 1 8),(2,13,2,.fz 9)]:=⟨⟩
instance(c:zY)(d e:Int):LH (R:=(List (List Int))×Int) (zIL c d e) [1,3,25] [3] (fun a=>[(8,T.ptr (T.agg [T.ro (lV a.1),T.ro (lM a.2.1),T.ro (lC a.2.2.1)])),(9,T.ro (lM a.2.2.2.1)),(26,I a.2.2.2.2)]) (.xs (.xe 0 [1,3,25] fun b=>[(8,T.ptr (T.agg [T.ro (lV b.1),T.ro (lM b.2.1),T.ro (lC b.2.2.1)])),(9,T.ro (lM b.2.2.2))]) .xr):=⟨⟩
instance t_an:FI J0 7 (∀(a:zY)(b c:Int),FnK J0 7 [zBS a,I b,I c] (fun r:(List (List Int))×Int=>[lM r.1,I r.2]) (fun _=>[]) (zNo a b c)):=⟨Tryz.call7,fun a b c=>iM Tryz.func7⟩
end
end Go.Wk

namespace Go.Wk
open Go Go.Proofs Go.Ab
set_option maxRecDepth 100000
set_option maxHeartbeats 4000000
section
attribute [local irreducible] RW CW DK OkL Ok yL yM xQ wE XS.post rng wF xN ixO zQ yC xR yH zC GTo zE FnC FnK wJ wS Kp Lk BsL BuL RpL Bk Lc
instance:HS Tryz.f3.8 [(1,3,0,.trf 25 1 24 [1,0]),(2,5,0,.trq 6 31 [0]),(2,6,0,.trq 8 37 [0]),(1,10,0,.trf 65 1 64 [1,0]),(2,16,0,.tr 14 78),(0,105,0,.tr 89 14),(2,18,0,.tr 14 105),(0,109,0,.tr 108 14),(0,110,0,.trq 107 12 [2,0]),(1,16,0,.trf 115 2 114 [2,0])]:=⟨⟩
instance(c:zY×Int×Int)(d:zBh×Int)(e:(List (List Int))×Int):LH (R:=Bool) (zQj c d e) [3,4,6,10,11,12,13] [] (fun b=>[(14,L 1 I b.1),(15,I b.2)]) (.xe 2 [] fun a=>[(14,L 1 I a)]):=⟨⟩
instance(a:zY×Int×Int)(d:zBh×Int):LH (R:=Bool) (zQk a d) [3,4,6,10,11] [] (fun c=>[(12,T.ptr (T.agg [I a.2.1,I a.1.Gens,L 1 lV c.1])),(13,I c.2)]) (.xe 0 [10] fun b=>[(12,T.ptr (T.agg [I a.2.1,I a.1.Gens,L 1 lV b]))]):=⟨⟩
instance(c:zY×Int×Int):LH (R:=Bool) (zQl c) [4,6] [] (fun b=>[(18,I b.1),(19,I b.2)]) (.xe 4 [4] fun a=>[(18,I a)]):=⟨⟩
instance t_t:FI J0 3 (∀(a:List Int),FnK J0 3 [T.ro ((L 1 (IK .u8)) a)] (fun r=>[B r]) (fun _=>[]) (f_t a)):=⟨Tryz.call3,fun a=>iM Tryz.func3⟩
end
end Go.Wk
