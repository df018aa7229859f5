/- x -/
import Derived.Test.YtimahceaenahkaaSVaa
import Derived.Test.YtimahceaenahkaaSVag
import Derived.Test.YtimahceaenahkaaSVap
import Derived.Test.YtimahceaenahkaaSVau
import Derived.Test.YtimahceaenahkaaSWT
open Go.Proofs.Try renaming prog→J0
open Option renaming some→df,none→dg
open Bool renaming true→dh,false→di
namespace Go.Wk
open Go Go.Proofs Go.Ab
set_option maxRecDepth 100000
set_option maxHeartbeats 4000000
section
attribute [local irreducible] RW CW DK OkL Ok zW yB yY xP XS.post rng wA wF ixO zS yQ xC yF zC GTo zF FnC FnK xU wM Kp BsL BuL RpL Bk Lc JQ AK
instance:JNs Try.f16.results:=⟨⟩
instance:HS Try.f16.8 [(0,32,0,.trf 31 0 5 [0,0]),(0,32,1,.trf 31 1 5 [1,0]),(2,6,0,.tr 6 32),(2,6,1,.fz 6),(2,10,0,.tr 8 39),(2,11,0,.tr 9 40),(2,18,0,.tr 12 55),(2,19,0,.trq 13 64 [0]),(2,22,0,.tr 8 13),(0,104,0,.fz 12),(0,104,1,.res 102 12 []),(0,106,0,.tr 96 9),(2,8,0,.tr 6 9),(2,8,1,.fz 6),(1,2,0,.trf 147 0 4 [0,0]),(1,2,1,.trf 147 1 4 [1,0]),(1,2,2,.trf 147 2 4 [2,0])]:=⟨⟩
instance(a:(List Int)×(List zE)×Int)(b:(List Int)×Bool):JN (zJp a b) 1000 19 1:=⟨⟩
instance(a:(List Int)×(List zE)×Int)(b:(List Int)×Bool):LH (R:=SPr) (zJp a b) [1,2,3,4,6,7,8,9,10,11,12,13,14] [] (fun _=>[]) (.xe 1000 [14] fun c=>[(78,B c)]):=⟨⟩
instance(a:(List Int)×(List zE)×Int)(b:(List Int)×Bool):JN (zLH a b) 1001 20 1:=⟨⟩
instance(a:(List Int)×(List zE)×Int)(b:(List Int)×Bool):LH (R:=SPr) (zLH a b) [1,2,3,4,6,7,8,9,10,11,12,13] [] (fun _=>[]) (.xe 1001 [] fun c=>[(86,B c)]):=⟨⟩
instance(a:(List Int)×(List zE)×Int)(b:(List Int)×Bool):JN (zLI a b) 1002 20 2:=⟨⟩
instance(a:(List Int)×(List zE)×Int)(c:(List Int)×Bool):LH (R:=SPr) (zLI a c) [1,2,3,4,6,7,8,9,10,11,12,13] [] (fun _=>[]) (.xe 1002 [8,9,13] fun b=>[(8,L 1 I b.1),(9,L 2 (fun x=>T.agg [(L 1 (Ro lV)) x.qP,lM x.wW]) b.2)]):=⟨⟩
instance(a:(List (List Int))×(List (List (List Int)))×(List zE)×Int)(b:(List Int)×(List zE)):JN (zLJ a b) 1003 23 1:=⟨⟩
instance(a:(List (List Int))×(List (List (List Int)))×(List zE)×Int)(b:(List Int)×(List zE)):LH (R:=SPr) (zLJ a b) [1,2,3,4,6,7,8,9,10,11,12] [] (fun _=>[]) (.xe 1003 [] fun c=>[(95,B c)]):=⟨⟩
instance(e:SPr)(b:(List (List Int))×(List (List (List Int)))×(List zE)×Int)(c:(List Int)×(List zE)×Int):LH (R:=SPr) (zJq e b c) [1,2,3,4,6,7,10] [] (fun a=>[(8,L 1 I a.1),(9,L 2 (fun x=>T.agg [(L 1 (Ro lV)) x.qP,lM x.wW]) a.2.1),(11,I a.2.2)]) (.xe 4 [] fun d=>[(8,L 1 I d.1),(9,L 2 (fun x=>T.agg [(L 1 (Ro lV)) x.qP,lM x.wW]) d.2)]):=⟨⟩
instance(d:SPr)(b:(List (List Int))×(List (List (List Int)))×(List zE)×Int):LH (R:=SPr) (zLK d b) [1,2,3,4,6,7] [] (fun a=>[(8,L 1 I a.1),(9,L 2 (fun x=>T.agg [(L 1 (Ro lV)) x.qP,lM x.wW]) a.2.1),(10,I a.2.2)]) (.xe 2 [6] fun c=>[(8,L 1 I c.1),(9,L 2 (fun x=>T.agg [(L 1 (Ro lV)) x.qP,lM x.wW]) c.2)]):=⟨⟩
instance(c:SPr)(a:(List (List Int))×(List (List (List Int)))×(List zE)×Int)(b:(List Int)×(List zE)):LN (zH9 c a b) 4:=⟨⟩
instance(e:SPr)(b:(List (List Int))×(List (List (List Int)))×(List zE)×Int)(c:(List Int)×(List zE))(A0 A1 A2:T):LHk (R:=SPr) (zH9 e b c) (T.ptr (T.agg [A0,A1,A2])) [1,2,3,7,8,9] [] (fun a=>[(4,T.ptr (T.agg [A0,A1,L 1 lM a.1])),(15,I a.2)]) (.xe 6 [8] fun d=>[(4,T.ptr (T.agg [A0,A1,L 1 lM d]))]):=⟨⟩
instance(a:SPr):LN (zDU a) 4:=⟨⟩
instance(c:SPr)(A0 A1 A2:T):LHk (R:=SPr) (zDU c) (T.ptr (T.agg [A0,A1,A2])) [1,2,3] [] (fun a=>[(4,T.ptr (T.agg [A0,L 1 lV a.1,L 1 lM a.2.1])),(6,T.ro ((L 2 tZ) a.2.2.1)),(7,I a.2.2.2)]) (.xe 0 [1,3] fun b=>[(4,T.ptr (T.agg [A0,L 1 lV b.1,L 1 lM b.2]))]):=⟨⟩
instance t_d:FI J0 16 (∀(a:SPr),FnK J0 16 [qPr a] (fun r=>[wH r]) (fun _=>[]) (f_d a)):=⟨Try.call16,fun a=>iM Try.func16⟩
end
end Go.Wk
