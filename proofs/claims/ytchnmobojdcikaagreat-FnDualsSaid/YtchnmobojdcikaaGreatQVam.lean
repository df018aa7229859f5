/- x -/
import Derived.Test.YtchnmobojdcikaaGreatQVaa
import Derived.Test.YtchnmobojdcikaaGreatQVab
import Derived.Test.YtchnmobojdcikaaGreatQVag
import Derived.Test.YtchnmobojdcikaaGreatQVah
import Derived.Test.YtchnmobojdcikaaGreatQVak
import Derived.Test.YtchnmobojdcikaaGreatQWT
open Go.Proofs.Tryz renaming prog→J0
open Option renaming some→dq,none→dt
open Bool renaming true→du,false→dv
namespace Go.Wk
open Go Go.Proofs Go.Ab
set_option maxRecDepth 100000
set_option maxHeartbeats 4000000
section
attribute [local irreducible] RW CW DK OkL Ok zS zV yQ xI XS.post rng xL yO ixO zP zU yT zZ zG GTo zM FnC FnK xK xN Kp Lk BsL BuL RpL Bk Lc JQ AK
instance:HS Tryz.f290.8 [(0,28,0,.trq 20 3 [2,0]),(1,2,0,.trf 30 0 3 [0,0]),(1,2,1,.trf 30 1 3 [1,0]),(1,2,2,.trf 30 2 3 [2,0])]:=⟨⟩
instance(a:SPr):LN (zLq a) 3:=⟨⟩
instance(b:SPr)(A0 A1 A2:T):LHk (R:=SPr) (zLq b) (T.ptr (T.agg [A0,A1,A2])) [1,2] [] (fun a=>[(3,T.ptr (T.agg [A0,A1,L 1 lM a.1])),(4,I a.2)]) (.xe 0 [1] fun c=>[(3,T.ptr (T.agg [A0,A1,L 1 lM c]))]):=⟨⟩
instance t_W:FI J0 290 (∀(a:SPr),FnK J0 290 [qPr a] (fun r=>[vW r]) (fun _=>[]) (f_W a)):=⟨Tryz.call290,fun a=>iM Tryz.func290⟩
instance(c:SPr):LH (R:=ByteArray) (zU2 c) [1,3] [] (fun b=>[(4,Str b.1),(5,I b.2)]) (.xe 0 [] fun a=>[(4,Str a)]):=⟨⟩
instance(c:SPr):LH (R:=ByteArray) (zU3 c) [1,3] [] (fun b=>[(4,Str b.1),(6,I b.2)]) (.xe 2 [] fun a=>[(4,Str a)]):=⟨⟩
instance(c:SPr)(d:ByteArray×Int):LH (R:=ByteArray) (zU4 c d) [1,3,7] [] (fun a=>[(4,Str a.1),(8,I a.2)]) (.xe 6 [] fun b=>[(4,Str b)]):=⟨⟩
instance(c:SPr):LH (R:=ByteArray) (zU5 c) [1,3] [] (fun b=>[(4,Str b.1),(7,I b.2)]) (.xe 4 [1,3] fun a=>[(4,Str a)]):=⟨⟩
instance t_F:FI J0 338 (∀(a:SPr),FnK J0 338 [qPr a] (fun r=>[Str r]) (fun _=>[]) (f_F a)):=⟨Tryz.call338,fun a=>iM Tryz.func338⟩
instance:HS Tryz.f148.8 [(0,26,0,.trq 21 5 [2,0]),(1,4,0,.trf 29 2 5 [2,0])]:=⟨⟩
instance(a b:zF):LH (R:=zF) (zGZ a b) [3,4,14,15] [] (fun c=>[(5,T.ptr (T.agg [I a.Prime,I b.yW,L 1 lV c.1])),(16,I c.2)]) (.xe 0 [3,14,15] fun d=>[(5,T.ptr (T.agg [I a.Prime,I b.yW,L 1 lV d]))]):=⟨⟩
instance t_C:FI J0 148 (∀(a b:zF),FnK J0 148 [wZ a,wZ b] (fun r=>[uP r]) (fun _=>[]) (f_C a b)):=⟨Tryz.call148,fun a b=>iM Tryz.func148⟩
end
end Go.Wk
