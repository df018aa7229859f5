/- x -/
import Derived.Test.YtcjmcjcfehbboaaGreatQVaa
import Derived.Test.YtcjmcjcfehbboaaGreatQVad
import Derived.Test.YtcjmcjcfehbboaaGreatQVae
import Derived.Test.YtcjmcjcfehbboaaGreatQVaf
import Derived.Test.YtcjmcjcfehbboaaGreatQVaj
import Derived.Test.YtcjmcjcfehbboaaGreatQVak
import Derived.Test.YtcjmcjcfehbboaaGreatQVam
import Derived.Test.YtcjmcjcfehbboaaGreatQVao
import Derived.Test.YtcjmcjcfehbboaaGreatQVap
import Derived.Test.YtcjmcjcfehbboaaGreatQVas
import Derived.Test.YtcjmcjcfehbboaaGreatQVau
import Derived.Test.YtcjmcjcfehbboaaGreatQVaw
import Derived.Test.YtcjmcjcfehbboaaGreatQWT
open Go.Proofs.Tryz renaming prog→J0,call138→Jbc,call56→Jbh
open Option renaming some→jq,none→jr
open Bool renaming true→js,false→jt
namespace Go.Wk
open Go Go.Proofs Go.Ab
set_option maxRecDepth 100000
set_option maxHeartbeats 4000000
section
attribute [local irreducible] RW CW DK OkL Ok yL yM xQ wE XS.post rng wF xN ixO zQ yC xR yH zC GTo zE FnC FnK wJ wS Kp Lk BsL BuL RpL Bk Lc
instance t_bS:FI J0 80 (∀(a:SPr),FnK J0 80 [qPr a] (fun r=>[wB r.1,I r.2]) (fun _=>[]) (zVP a)):=⟨Tryz.call80,fun a=>iM Tryz.func80⟩
instance:HS Tryz.f138.8 [(0,14,0,.fz 13),(0,28,0,.tr 23 7),(2,7,0,.tr 7 28)]:=⟨⟩
instance(c:Int)(d:(List (List Int))):LH (R:=(List (List Int))) (zIG c d) [0,2,13,14] [] (fun b=>[(7,L 1 (Ro lV) b.1),(15,I b.2)]) (.xe 0 [2,13,14] fun a=>[(7,L 1 (Ro lV) a)]):=⟨⟩
instance t_af:FI J0 138 (∀(a:Int)(b:List (List Int))(c:Int),FnK J0 138 [I a,T.ro (lM b),I c] (fun r:(List (List Int))=>[lM r]) (fun _=>[]) (zPO a b c)):=⟨Jbc,fun a b c=>iM Tryz.func138⟩
instance:HS Tryz.f56.8 [(0,27,0,.tr 24 8),(2,7,0,.tr 8 27),(2,8,0,.tr 2 39)]:=⟨⟩
instance(c:SPr)(d:List (List Int))(e:(List Int)):LH (R:=(List Int)×Bool) (zIJ c d e) [0,1,13,14] [] (fun b=>[(2,T.ro (lV b.1)),(8,L 1 I b.2.1),(15,I b.2.2)]) (.xe 0 [0,1,13,14] fun a=>[(2,T.ro (lV a.1)),(8,L 1 I a.2)]):=⟨⟩
instance t_ab:FI J0 56 (∀(a:SPr)(b:List (List Int))(c:List Int),FnK J0 56 [T.ro ((Pt yI) a),T.ro (lM b),T.ro (lV c)] (fun r:(List Int)×Bool=>[lV r.1,B r.2]) (fun _=>[]) (zNn a b c)):=⟨Jbh,fun a b c=>iM Tryz.func56⟩
instance:HS Tryz.f66.8 [(2,2,0,.tr 9 19),(1,8,0,.trf 80 0 10 [0,0]),(1,8,1,.trf 80 1 10 [1,0]),(1,8,2,.trf 80 2 10 [2,0])]:=⟨⟩
instance(a:SPr)(b c:Int)(d:List (List Int))(e:(List Int))(f:(List (List Int))×(List (List (List Int)))×Int):LN (zT1 a b c d e f) 10:=⟨⟩
instance(c:SPr)(d e:Int)(f:List (List Int))(g:(List Int))(h:(List (List Int))×(List (List (List Int)))×Int)(A0 A1 A2:T):LHk (R:=SPr) (zT1 c d e f g h) (T.ptr (T.agg [A0,A1,A2])) [1,2,3,4,8,9,11] [] (fun b=>[(10,T.ptr (T.agg [A0,A1,L 1 lM b.1])),(12,I b.2)]) (.xe 2 [] fun a=>[(10,T.ptr (T.agg [A0,A1,L 1 lM a]))]):=⟨⟩
instance(a:SPr)(b c:Int)(d:List (List Int))(e:(List Int)):LN (zLJ a b c d e) 10:=⟨⟩
instance(c:SPr)(d e:Int)(f:List (List Int))(g:(List Int))(A0 A1 A2:T):LHk (R:=SPr) (zLJ c d e f g) (T.ptr (T.agg [A0,A1,A2])) [1,2,3,4,8,9] [] (fun b=>[(10,T.ptr (T.agg [A0,L 1 lV b.1,L 1 lM b.2.1])),(11,I b.2.2)]) (.xe 0 [1,2,3,4,9] fun a=>[(10,T.ptr (T.agg [A0,L 1 lV a.1,L 1 lM a.2]))]):=⟨⟩
instance t_ag:FI J0 66 (∀(a:SPr)(b c:Int)(d:List (List Int)),FnK J0 66 [qPr a,I b,I c,T.ro (lM d)] (fun r=>[yI r]) (fun _=>[]) (zT2 a b c d)):=⟨Tryz.call66,fun a b c d=>iM Tryz.func66⟩
instance:HS Tryz.f67.8 [(2,2,0,.tr 7 10)]:=⟨⟩
instance(c:SPr)(d:List Int)(e:List (List Int)):LH (R:=(List Int)) (zIM c d e) [1,2,3] [] (fun b=>[(7,L 1 I b.1),(8,I b.2)]) (.xe 0 [1,2,3] fun a=>[(7,L 1 I a)]):=⟨⟩
instance t_aH:FI J0 67 (∀(a:SPr)(b:List Int)(c:List (List Int)),FnK J0 67 [qPr a,T.ro (lV b),T.ro (lM c)] (fun r=>[lV r]) (fun _=>[]) (zVZ a b c)):=⟨Tryz.call67,fun a b c=>iM Tryz.func67⟩
end
end Go.Wk
