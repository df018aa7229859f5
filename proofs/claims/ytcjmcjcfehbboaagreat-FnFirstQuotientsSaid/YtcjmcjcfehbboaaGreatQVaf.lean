/- x -/
import Derived.Test.YtcjmcjcfehbboaaGreatQVac
import Derived.Test.YtcjmcjcfehbboaaGreatQVad
import Derived.Test.YtcjmcjcfehbboaaGreatQWT
open Go.Proofs.Tryz renaming prog→J0,call53→Jbk
open Option renaming some→jq,none→jr
open Bool renaming true→js,false→jt
namespace Go.Wk
open Go Go.Proofs Go.Ab
set_option maxRecDepth 100000
set_option maxHeartbeats 4000000
section
attribute [local irreducible] RW CW DK OkL Ok yL yM xQ wE XS.post rng wF xN ixO zQ yC xR yH zC GTo zE FnC FnK wJ wS Kp Lk BsL BuL RpL Bk Lc
instance:HS Tryz.f176.8 [(2,2,0,.tr 9 11),(0,28,0,.tr 18 9),(2,4,0,.tr 9 28)]:=⟨⟩
instance(b:Int)(c:List (List Int))(d:List (List Int))(e:Int):LH (R:=(List (List Int))) (zO4 b c d e) [0,1,2,3] [] (fun a=>[(9,L 1 lV a.1),(10,I a.2)]) (.xe 0 [0,1,2,3] fun f=>[(9,L 1 lV f)]):=⟨⟩
instance t_bd:FI J0 176 (∀(a:Int)(b:List (List Int))(c:List (List Int))(d:Int),FnK J0 176 [I a,T.ro (lM b),T.ro (lM c),I d] (fun r:(List (List Int))=>[lM r]) (fun _=>[]) (zUX a b c d)):=⟨Tryz.call176,fun a b c d=>iM Tryz.func176⟩
instance t_aM:FI J0 25 (∀(a b c:Int),FnK J0 25 [I a,I b,I c] (fun r=>[B r]) (fun _=>[]) (zHE a b c)):=⟨Tryz.call25,fun a b c=>iM Tryz.func25⟩
instance:HS Tryz.f87.8 [(0,24,0,.trq 23 22 [2]),(0,25,0,.trq 19 7 [2,0]),(1,6,0,.trf 28 2 7 [2,0])]:=⟨⟩
instance(d:SPr)(a b:Int):LH (R:=yS) (zLA d a b) [1,2,6,15] [] (fun c=>[(7,T.ptr (T.agg [I a,I b,L 1 lM c.1])),(16,I c.2)]) (.xe 0 [1,2,15] fun e=>[(7,T.ptr (T.agg [I a,I b,L 1 lM e]))]):=⟨⟩
instance t_Y:FI J0 87 (∀(a:SPr)(b c:Int),FnK J0 87 [T.ro ((Pt yI) a),I b,I c] (fun r=>[yF r]) (fun _=>[]) (f_Y a b c)):=⟨Tryz.call87,fun a b c=>iM Tryz.func87⟩
instance(b c:List Int)(d e:Int):LH (R:=(List Int)) (zS6 b c d e) [1,2,3,10] [] (fun a=>[(0,L 1 I a.1),(11,I a.2)]) (.xe 0 [1,2,3,10] fun f=>[(0,L 1 I f)]):=⟨⟩
instance t_M:FI J0 53 (∀(a b:List Int)(c d:Int),FnK J0 53 [L 1 I a,T.ro (lV b),I c,I d] (fun _:(List Int)=>[]) (fun r=>[(0,lV r)]) (f_M a b c d)):=⟨Jbk,fun a b c d=>iM Tryz.func53⟩
instance:LH (R:=Int×Bool) zIE [1] [] (fun a=>[(6,I a.1),(7,I a.2.1),(8,I a.2.2.1),(9,I a.2.2.2)]) (.xe 0 [] fun b=>[(6,I b.1),(8,I b.2)]):=⟨⟩
instance t_ad:FI J0 92 (∀(a b:Int),FnK J0 92 [I a,I b] (fun r=>[I r.1,B r.2]) (fun _=>[]) (zL1 a b)):=⟨Tryz.call92,fun a b=>iM Tryz.func92⟩
instance:HS Tryz.f139.8 [(0,34,0,.tr 24 5),(2,10,0,.tr 5 34),(0,39,0,.tr 38 5),(0,40,0,.trq 37 3 [2,0]),(1,2,0,.trf 43 2 3 [2,0])]:=⟨⟩
instance(b:zN)(c:(List (List Int))×Int):LH (R:=zN) (zSB b c) [1,2,3,4,14,15,20] [] (fun a=>[(5,L 1 I a.1),(21,I a.2)]) (.xe 2 [4,20] fun d=>[(5,L 1 I d)]):=⟨⟩
instance(a:zN):LH (R:=zN) (zL3 a) [1,2,14] [] (fun b=>[(3,T.ptr (T.agg [I a.Prime,I (a.Rows.length:Int),L 1 lV b.1])),(15,I b.2)]) (.xe 0 [1,14] fun c=>[(3,T.ptr (T.agg [I a.Prime,I (a.Rows.length:Int),L 1 lV c]))]):=⟨⟩
instance t_ak:FI J0 139 (∀(a:zN),FnK J0 139 [zAR a] (fun r=>[zS r]) (fun _=>[]) (zVe a)):=⟨Tryz.call139,fun a=>iM Tryz.func139⟩
instance(a:List Int)(b:Int):LH (R:=Int) (zL7 a b) [0,1,7] [] (fun c=>[(8,I c)]) (.xs (.xe 0 [0,1,7] fun _=>[]) .xr):=⟨⟩
instance t_a7:FI J0 145 (∀(a:List Int)(b:Int),FnK J0 145 [T.ro (lV a),I b] (fun r=>[I r]) (fun _=>[]) (zY3 a b)):=⟨Tryz.call145,fun a b=>iM Tryz.func145⟩
instance:HS Tryz.f63.8 [(2,2,0,.tr 5 8),(0,32,0,.tr 29 5),(2,4,0,.tr 5 32)]:=⟨⟩
instance(b:List (List Int))(c:Int):LH (R:=(List Int)) (zOE b c) [0,1] [] (fun a=>[(5,L 1 I a.1),(6,I a.2.1),(7,I a.2.2)]) (.xe 0 [0,1] fun d=>[(5,L 1 I d)]):=⟨⟩
instance t_aI:FI J0 63 (∀(a:List (List Int))(b:Int),FnK J0 63 [T.ro (lM a),I b] (fun r=>[lV r]) (fun _=>[]) (zQg a b)):=⟨Tryz.call63,fun a b=>iM Tryz.func63⟩
instance t_bP:FI J0 123 (∀(a:List Int),FnK J0 123 [T.ro (lV a)] (fun r=>[I r]) (fun _=>[]) (zT3 a)):=⟨Tryz.call123,fun a=>iM Tryz.func123⟩
end
end Go.Wk
