/- x -/
import Derived.Test.YtimahceaenahkaaSVab
import Derived.Test.YtimahceaenahkaaSVac
import Derived.Test.YtimahceaenahkaaSWT
open Go.Proofs.Try renaming prog→J0
open Option renaming some→df,none→dg
open Bool renaming true→dh,false→di
namespace Go.Wk
open Go Go.Proofs Go.Ab
set_option maxRecDepth 100000
set_option maxHeartbeats 4000000
section
attribute [local irreducible] RW CW DK OkL Ok zW yB yY xP XS.post rng wA wF ixO zS yQ xC yF zC GTo zF FnC FnK xU wM Kp BsL BuL RpL Bk Lc JQ AK
instance:HS Try.f61.8 [(0,15,0,.tr 10 3),(2,6,0,.tr 3 15)]:=⟨⟩
instance(b:SPr)(c:Int):LH (R:=(List (List Int))) (zLD b c) [0,6] [] (fun a=>[(3,L 1 lV a.1),(7,I a.2)]) (.xe 0 [0,6] fun d=>[(3,L 1 lV d)]):=⟨⟩
instance t_E:FI J0 61 (∀(a:SPr),FnK J0 61 [T.ro ((Pt wH) a)] (fun r:(List (List Int))=>[lM r]) (fun _=>[]) (f_E a)):=⟨Try.call61,fun a=>iM Try.func61⟩
instance:HS Try.f44.8 [(0,22,0,.trq 18 4 [1,0]),(0,36,0,.tr 31 6),(2,10,0,.tr 6 36),(0,40,0,.tr 39 6),(0,41,0,.trq 38 4 [2,0]),(1,2,0,.trf 44 0 4 [0,0]),(1,2,1,.trf 44 1 4 [1,0]),(1,2,2,.trf 44 2 4 [2,0])]:=⟨⟩
instance(b:List Int):LH (R:=SPr) (zJk b) [2,3,4,13,14] [] (fun a=>[(6,L 1 lV a.1),(7,I a.2)]) (.xe 2 [] fun c=>[(6,L 1 lV c)]):=⟨⟩
instance(a:List Int):LN (zJl a) 4:=⟨⟩
instance(c:List Int)(A0 A1 A2:T):LHk (R:=SPr) (zJl c) (T.ptr (T.agg [A0,A1,A2])) [2,3,13] [] (fun b=>[(4,T.ptr (T.agg [A0,L 1 lV b.1,L 1 lM b.2.1])),(14,I b.2.2)]) (.xe 0 [3,13] fun a=>[(4,T.ptr (T.agg [A0,L 1 lV a.1,L 1 lM a.2]))]):=⟨⟩
instance t_p:FI J0 44 (∀(a:List Int),FnK J0 44 [T.ro (lV a)] (fun r=>[wH r]) (fun _=>[]) (f_p a)):=⟨Try.call44,fun a=>iM Try.func44⟩
instance:HS Try.f83.8 [(2,10,0,.tr 6 24),(0,33,0,.tr 31 6),(2,14,0,.tr 6 33)]:=⟨⟩
instance(b:List (List Int)):LH (R:=(List Int)) (zL2 b) [0,9,10] [] (fun a=>[(3,I a.1),(11,I a.2)]) (.xe 0 [9,10] fun c=>[(3,I c)]):=⟨⟩
instance(b:List (List Int)):LH (R:=(List Int)) (zL3 b) [25,26] [] (fun a=>[(6,L 1 I a.1),(27,I a.2)]) (.xe 2 [25,26] fun c=>[(6,L 1 I c)]):=⟨⟩
instance t_v:FI J0 83 (∀(a:List (List Int)),FnK J0 83 [T.ro (lM a)] (fun r=>[lV r]) (fun _=>[]) (f_v a)):=⟨Try.call83,fun a=>iM Try.func83⟩
end
end Go.Wk
