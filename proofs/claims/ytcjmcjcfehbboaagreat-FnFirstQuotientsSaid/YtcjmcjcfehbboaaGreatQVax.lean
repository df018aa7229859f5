/- x -/
import Derived.Test.YtcjmcjcfehbboaaGreatQVaa
import Derived.Test.YtcjmcjcfehbboaaGreatQVac
import Derived.Test.YtcjmcjcfehbboaaGreatQVaj
import Derived.Test.YtcjmcjcfehbboaaGreatQVao
import Derived.Test.YtcjmcjcfehbboaaGreatQVas
import Derived.Test.YtcjmcjcfehbboaaGreatQVau
import Derived.Test.YtcjmcjcfehbboaaGreatQWT
open Go.Proofs.Tryz renaming prog→J0
open Option renaming some→jq,none→jr
open Bool renaming true→js,false→jt
namespace Go.Wk
open Go Go.Proofs Go.Ab
set_option maxRecDepth 100000
set_option maxHeartbeats 4000000
section
attribute [local irreducible] RW CW DK OkL Ok yL yM xQ wE XS.post rng wF xN ixO zQ yC xR yH zC GTo zE FnC FnK wJ wS Kp Lk BsL BuL RpL Bk Lc
instance:HS Tryz.f164.8 [(1,2,0,.trf 20 0 4 [0,0]),(1,2,1,.trf 20 1 4 [1,0]),(1,2,2,.trf 20 2 4 [2,0])]:=⟨⟩
instance t_b1:FI J0 164 (∀(a:Int),FnK J0 164 [I a] (fun r=>[(fun x=>T.agg [(Ro lV) x.zA,(Ro lM) x.yB,(Ro lC) x.zD]) r]) (fun _=>[]) (zVJ a)):=⟨Tryz.call164,fun a=>iM Tryz.func164⟩
instance t_bq:FI J0 105 (∀(a:SPr)(b c:List Int),FnK J0 105 [T.ro ((Pt yI) a),T.ro (lV b),T.ro (lV c)] (fun r=>[lV r]) (fun _=>[]) (zMU a b c)):=⟨Tryz.call105,fun a b c=>iM Tryz.func105⟩
instance:HS Tryz.f60.8 [(2,4,0,.tr 9 30),(0,39,0,.tr 36 9),(2,6,0,.tr 9 39),(2,14,0,.tr 14 54),(1,62,0,.tr 61 14),(2,24,0,.tr 17 89),(1,103,0,.tr 102 17),(1,6,0,.trf 106 0 11 [0,0]),(1,6,1,.trf 106 1 11 [1,0]),(1,6,2,.trf 106 2 11 [2,0])]:=⟨⟩
instance(b c:Int):LH (R:=SPr) (zTx b c) [1,3,6,7,8] [] (fun a=>[(9,L 1 I a.1),(10,I a.2)]) (.xe 0 [1] fun d=>[(9,L 1 I d)]):=⟨⟩
instance(a:SPr)(b:Int):LN (zTy a b) 11:=⟨⟩
instance(c:SPr)(d:Int)(A0 A1 A2:T):LHk (R:=SPr) (zTy c d) (T.ptr (T.agg [A0,A1,A2])) [3,6,7,8] [] (fun b=>[(11,T.ptr (T.agg [A0,L 1 lV b.1,A2])),(12,I b.2.1),(13,I b.2.2)]) (.xe 2 [] fun a=>[(11,T.ptr (T.agg [A0,L 1 lV a.1,A2])),(12,I a.2)]):=⟨⟩
instance(a:SPr)(b:Int)(c:(List (List (List Int)))×Int×Int):LN (zYF a b c) 11:=⟨⟩
instance(c:SPr)(d:Int)(e:(List (List (List Int)))×Int×Int)(A0 A1 A2:T):LHk (R:=SPr) (zYF c d e) (T.ptr (T.agg [A0,A1,A2])) [3,6,7,8,15] [] (fun a=>[(11,T.ptr (T.agg [A0,A1,L 1 lM a.1])),(12,I a.2.1),(16,I a.2.2)]) (.xe 6 [] fun b=>[(11,T.ptr (T.agg [A0,A1,L 1 lM b.1])),(12,I b.2)]):=⟨⟩
instance(a:SPr)(b:Int):LN (zTz a b) 11:=⟨⟩
instance(c:SPr)(d:Int)(A0 A1 A2:T):LHk (R:=SPr) (zTz c d) (T.ptr (T.agg [A0,A1,A2])) [3,6,7,8] [] (fun a=>[(11,T.ptr (T.agg [A0,A1,L 1 lM a.1])),(12,I a.2.1),(15,I a.2.2)]) (.xe 4 [3,7,8] fun b=>[(11,T.ptr (T.agg [A0,A1,L 1 lM b]))]):=⟨⟩
instance t_w:FI J0 60 (∀(a:SPr)(b c:Int),FnK J0 60 [qPr a,I b,I c] (fun r=>[yI r]) (fun _=>[]) (f_w a b c)):=⟨Tryz.call60,fun a b c=>iM Tryz.func60⟩
instance t_ar:FI J0 120 (∀(a:SPr)(b:List Int)(c:Int),FnK J0 120 [qPr a,T.ro (lV b),I c] (fun r=>[lV r]) (fun _=>[]) (zFs a b c)):=⟨Tryz.call120,fun a b c=>iM Tryz.func120⟩
instance t_bZ:FI J0 121 (∀(a:SPr)(b c:List Int),FnK J0 121 [qPr a,T.ro (lV b),T.ro (lV c)] (fun r=>[lV r]) (fun _=>[]) (zVt a b c)):=⟨Tryz.call121,fun a b c=>iM Tryz.func121⟩
instance t_bO:FI J0 125 (∀(a:SPr)(b c:List Int),FnK J0 125 [qPr a,T.ro (lV b),T.ro (lV c)] (fun r=>[lV r]) (fun _=>[]) (zSJ a b c)):=⟨Tryz.call125,fun a b c=>iM Tryz.func125⟩
end
end Go.Wk
