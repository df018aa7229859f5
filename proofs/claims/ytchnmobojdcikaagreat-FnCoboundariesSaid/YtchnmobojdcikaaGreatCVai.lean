/- x -/
import Derived.Test.YtchnmobojdcikaaGreatCVaa
import Derived.Test.YtchnmobojdcikaaGreatCVac
import Derived.Test.YtchnmobojdcikaaGreatCVag
import Derived.Test.YtchnmobojdcikaaGreatCWT
open Go.Proofs.Tryz renaming prog→J0
open Option renaming some→iz,none→iA
open Bool renaming true→iB,false→iC
namespace Go.Wk
open Go Go.Proofs Go.Ab
set_option maxRecDepth 100000
set_option maxHeartbeats 4000000
section
attribute [local irreducible] RW CW DK OkL Ok zV yA yW xK XS.post rng xN yP ixO zO yG yO yB zG GTo zP FnC FnK xQ wB Kp Lk BsL BuL RpL Bk Lc JQ AK
instance:HS Tryz.f289.8 [(0,23,0,.trq 19 4 [1,0]),(2,8,0,.tr 6 25),(0,38,0,.tr 33 6),(2,10,0,.tr 6 38),(0,42,0,.tr 41 6),(0,43,0,.trq 40 4 [2,0]),(1,2,0,.trf 45 0 4 [0,0]),(1,2,1,.trf 45 1 4 [1,0]),(1,2,2,.trf 45 2 4 [2,0])]:=⟨⟩
instance(b:List Int):LH (R:=SPr) (zRa b) [2,3,4,5] [] (fun a=>[(6,L 1 lV a.1),(7,I a.2)]) (.xe 2 [] fun c=>[(6,L 1 lV c)]):=⟨⟩
instance(a:List Int):LN (zKB a) 4:=⟨⟩
instance(c:List Int)(A0 A1 A2:T):LHk (R:=SPr) (zKB c) (T.ptr (T.agg [A0,A1,A2])) [2,3] [] (fun b=>[(4,T.ptr (T.agg [A0,L 1 lV b.1,L 1 lM b.2.1])),(5,I b.2.2)]) (.xe 0 [3] fun a=>[(4,T.ptr (T.agg [A0,L 1 lV a.1,L 1 lM a.2]))]):=⟨⟩
instance t_t:FI J0 289 (∀(a:List Int),FnK J0 289 [T.ro (lV a)] (fun r=>[vE r]) (fun _=>[]) (f_t a)):=⟨Tryz.call289,fun a=>iM Tryz.func289⟩
instance:HS Tryz.f328.8 [(2,2,0,.tr 4 6),(0,22,0,.tr 19 4),(2,7,0,.tr 4 22)]:=⟨⟩
instance(c:Int×(List Int)×Int):LH (R:=(List Int)×Bool) (yAb c) [5] [] (fun a=>[(0,I a.1),(4,L 1 I a.2)]) (.xe 2 [] fun b=>[(0,I b.1),(4,L 1 I b.2)]):=⟨⟩
instance:LH (R:=(List Int)×Bool) zWL [] [] (fun a=>[(0,I a.1),(4,L 1 I a.2.1),(5,I a.2.2)]) (.xe 0 [] fun b=>[(0,I b.1),(4,L 1 I b.2)]):=⟨⟩
instance t_Z:FI J0 328 (∀(a:Int),FnK J0 328 [I a] (fun r:(List Int)×Bool=>[lV r.1,B r.2]) (fun _=>[]) (f_Z a)):=⟨Tryz.call328,fun a=>iM Tryz.func328⟩
instance:HS Tryz.f336.8 [(2,2,0,.tr 4 8),(2,5,0,.tr 5 13),(0,35,0,.tr 32 4),(2,7,0,.tr 4 35)]:=⟨⟩
instance(b:(List ByteArray)):LH (R:=(List Int)×Bool) (zPL b) [5] [] (fun a=>[(4,L 1 I a.1),(6,I a.2)]) (.xs (.xe 0 [5] fun c=>[(4,L 1 I c)]) .xr):=⟨⟩
instance t_ba:FI J0 336 (∀(a:ByteArray),FnK J0 336 [Str a] (fun r:(List Int)×Bool=>[lV r.1,B r.2]) (fun _=>[]) (zWT a)):=⟨Tryz.call336,fun a=>iM Tryz.func336⟩
instance(a:SPr)(b c:Int):LH (R:=Bool) (zUT a b c) [1,2,5] [] (fun d=>[(6,I d)]) (.xs (.xe 2 [] fun _=>[]) .xr):=⟨⟩
instance(a:SPr)(b:Int):LH (R:=Bool) (zUU a b) [1,2] [] (fun c=>[(5,I c)]) (.xs (.xe 0 [1,2] fun _=>[]) .xr):=⟨⟩
instance t_ao:FI J0 230 (∀(a:SPr)(b:Int),FnK J0 230 [qPr a,I b] (fun r=>[B r]) (fun _=>[]) (zUV a b)):=⟨Tryz.call230,fun a b=>iM Tryz.func230⟩
instance:HS Tryz.f140.8 [(2,2,0,.tr 5 10)]:=⟨⟩
instance(b:zC)(c:List Int)(d:(List (List Int))×Int):LH (R:=(List (List Int))) (zT5 b c d) [1,2,6] [] (fun a=>[(5,L 1 lV a.1),(7,I a.2)]) (.xe 2 [] fun e=>[(5,L 1 lV e)]):=⟨⟩
instance(b:zC)(c:List Int):LH (R:=(List (List Int))) (zT6 b c) [1,2] [] (fun a=>[(5,L 1 lV a.1),(6,I a.2)]) (.xe 0 [1,2] fun d=>[(5,L 1 lV d)]):=⟨⟩
instance t_T:FI J0 140 (∀(a:zC)(b:List Int),FnK J0 140 [vC a,T.ro (lV b)] (fun r:(List (List Int))=>[lM r]) (fun _=>[]) (f_T a b)):=⟨Tryz.call140,fun a b=>iM Tryz.func140⟩
instance(a:List (List Int))(b:List (List Int)):LH (R:=Bool) (zT7 a b) [0,1] [] (fun c=>[(5,I c)]) (.xs (.xe 0 [0,1] fun _=>[]) .xr):=⟨⟩
instance t_bh:FI J0 297 (∀(a:List (List Int))(b:List (List Int)),FnK J0 297 [T.ro (lM a),T.ro (lM b)] (fun r=>[B r]) (fun _=>[]) (zWp a b)):=⟨Tryz.call297,fun a b=>iM Tryz.func297⟩
end
end Go.Wk
