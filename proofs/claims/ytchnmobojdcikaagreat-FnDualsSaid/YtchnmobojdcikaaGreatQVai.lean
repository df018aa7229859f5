/- x -/
import Derived.Test.YtchnmobojdcikaaGreatQVaa
import Derived.Test.YtchnmobojdcikaaGreatQVac
import Derived.Test.YtchnmobojdcikaaGreatQVae
import Derived.Test.YtchnmobojdcikaaGreatQWT
open Go.Proofs.Tryz renaming prog→J0
open Option renaming some→dq,none→dt
open Bool renaming true→du,false→dv
namespace Go.Wk
open Go Go.Proofs Go.Ab
set_option maxRecDepth 100000
set_option maxHeartbeats 4000000
section
attribute [local irreducible] RW CW DK OkL Ok zS zV yQ xI XS.post rng xL yO ixO zP zU yT zZ zG GTo zM FnC FnK xK xN Kp Lk BsL BuL RpL Bk Lc JQ AK
instance:HS Tryz.f289.8 [(0,23,0,.trq 19 4 [1,0]),(2,8,0,.tr 6 25),(0,38,0,.tr 33 6),(2,10,0,.tr 6 38),(0,42,0,.tr 41 6),(0,43,0,.trq 40 4 [2,0]),(1,2,0,.trf 45 0 4 [0,0]),(1,2,1,.trf 45 1 4 [1,0]),(1,2,2,.trf 45 2 4 [2,0])]:=⟨⟩
instance(b:List Int):LH (R:=SPr) (zPb b) [2,3,4,5] [] (fun a=>[(6,L 1 lV a.1),(7,I a.2)]) (.xe 2 [] fun c=>[(6,L 1 lV c)]):=⟨⟩
instance(a:List Int):LN (zJj a) 4:=⟨⟩
instance(c:List Int)(A0 A1 A2:T):LHk (R:=SPr) (zJj c) (T.ptr (T.agg [A0,A1,A2])) [2,3] [] (fun b=>[(4,T.ptr (T.agg [A0,L 1 lV b.1,L 1 lM b.2.1])),(5,I b.2.2)]) (.xe 0 [3] fun a=>[(4,T.ptr (T.agg [A0,L 1 lV a.1,L 1 lM a.2]))]):=⟨⟩
instance t_u:FI J0 289 (∀(a:List Int),FnK J0 289 [T.ro (lV a)] (fun r=>[vW r]) (fun _=>[]) (f_u a)):=⟨Tryz.call289,fun a=>iM Tryz.func289⟩
instance:HS Tryz.f328.8 [(2,2,0,.tr 4 6),(0,22,0,.tr 19 4),(2,7,0,.tr 4 22)]:=⟨⟩
instance(c:Int×(List Int)×Int):LH (R:=(List Int)×Bool) (zRV c) [5] [] (fun a=>[(0,I a.1),(4,L 1 I a.2)]) (.xe 2 [] fun b=>[(0,I b.1),(4,L 1 I b.2)]):=⟨⟩
instance:LH (R:=(List Int)×Bool) zNR [] [] (fun a=>[(0,I a.1),(4,L 1 I a.2.1),(5,I a.2.2)]) (.xe 0 [] fun b=>[(0,I b.1),(4,L 1 I b.2)]):=⟨⟩
instance t_aa:FI J0 328 (∀(a:Int),FnK J0 328 [I a] (fun r:(List Int)×Bool=>[lV r.1,B r.2]) (fun _=>[]) (zMw a)):=⟨Tryz.call328,fun a=>iM Tryz.func328⟩
instance:HS Tryz.f336.8 [(2,2,0,.tr 4 8),(2,5,0,.tr 5 13),(0,35,0,.tr 32 4),(2,7,0,.tr 4 35)]:=⟨⟩
instance(b:(List ByteArray)):LH (R:=(List Int)×Bool) (zNT b) [5] [] (fun a=>[(4,L 1 I a.1),(6,I a.2)]) (.xs (.xe 0 [5] fun c=>[(4,L 1 I c)]) .xr):=⟨⟩
instance t_bb:FI J0 336 (∀(a:ByteArray),FnK J0 336 [Str a] (fun r:(List Int)×Bool=>[lV r.1,B r.2]) (fun _=>[]) (zUy a)):=⟨Tryz.call336,fun a=>iM Tryz.func336⟩
instance(a:SPr)(b c:Int):LH (R:=Bool) (zSq a b c) [1,2,5] [] (fun d=>[(6,I d)]) (.xs (.xe 2 [] fun _=>[]) .xr):=⟨⟩
instance(a:SPr)(b:Int):LH (R:=Bool) (zSr a b) [1,2] [] (fun c=>[(5,I c)]) (.xs (.xe 0 [1,2] fun _=>[]) .xr):=⟨⟩
instance t_aq:FI J0 230 (∀(a:SPr)(b:Int),FnK J0 230 [qPr a,I b] (fun r=>[B r]) (fun _=>[]) (zSs a b)):=⟨Tryz.call230,fun a b=>iM Tryz.func230⟩
instance:HS Tryz.f256.8 [(0,25,0,.trq 21 7 [2,0]),(1,6,0,.trf 27 2 7 [2,0])]:=⟨⟩
instance(a:SPr)(b:Int):LN (zIr a b) 7:=⟨⟩
instance(c:SPr)(a:Int)(A0 A1 A2:T):LHk (R:=zC) (zIr c a) (T.ptr (T.agg [A0,A1,A2])) [2,3,6] [] (fun b=>[(7,T.ptr (T.agg [A0,I a,L 1 lM b.1])),(8,I b.2)]) (.xe 0 [2,3] fun d=>[(7,T.ptr (T.agg [A0,I a,L 1 lM d]))]):=⟨⟩
instance t_af:FI J0 256 (∀(a:SPr)(b c:Int),FnK J0 256 [qPr a,I b,I c] (fun r=>[xP r]) (fun _=>[]) (zLn a b c)):=⟨Tryz.call256,fun a b c=>iM Tryz.func256⟩
instance(a:List (List Int))(b:List (List Int)):LH (R:=Bool) (zQX a b) [0,1] [] (fun c=>[(5,I c)]) (.xs (.xe 0 [0,1] fun _=>[]) .xr):=⟨⟩
instance t_a7:FI J0 297 (∀(a:List (List Int))(b:List (List Int)),FnK J0 297 [T.ro (lM a),T.ro (lM b)] (fun r=>[B r]) (fun _=>[]) (zQY a b)):=⟨Tryz.call297,fun a b=>iM Tryz.func297⟩
instance t_bx:FI J0 44 (∀(a b:zF),FnK J0 44 [wZ a,wZ b] (fun r=>[B r]) (fun _=>[]) (zPh a b)):=⟨Tryz.call44,fun a b=>iM Tryz.func44⟩
end
end Go.Wk
