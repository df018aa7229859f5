/- x -/
import Derived.Test.YtchnmobojdcikaaGreatQWT
open Go.Proofs.Tryz renaming prog→J0
open Option renaming some→dq,none→dt
open Bool renaming true→du,false→dv
namespace Go.Wk
open Go Go.Proofs Go.Ab
set_option maxRecDepth 100000
set_option maxHeartbeats 4000000
section
attribute [local irreducible] RW CW DK OkL Ok zS zV yQ xI XS.post rng xL yO ixO zP zU yT zZ zG GTo zM FnC FnK xK xN Kp Lk BsL BuL RpL Bk Lc JQ AK
instance t_bI:FI J0 15 (∀(a:List Int),FnK J0 15 [T.ro ((L 1 (IK .u8)) a)] (fun r=>[B r]) (fun _=>[]) (zRT a)):=⟨Tryz.call15,fun a=>iM Tryz.func15⟩
instance:HS Tryz.f110.8 [(2,2,0,.tr 3 7)]:=⟨⟩
instance(a:List Int):LH (R:=zE) (zRU a) [0] [] (fun b=>[(3,T.ptr (T.agg [T.ro ((L 1 (IK .u8)) a),I 0,I b.1])),(4,I b.2)]) (.xe 0 [0] fun c=>[(3,T.ptr (T.agg [T.ro ((L 1 (IK .u8)) a),I 0,I c]))]):=⟨⟩
instance t_aA:FI J0 110 (∀(a:List Int),FnK J0 110 [T.ro ((L 1 (IK .u8)) a)] (fun r=>[(Pt (fun x=>T.agg [(Ro (L 1 (IK .u8))) x.code,I x.at_,I x.seed])) r]) (fun _=>[]) (zLo a)):=⟨Tryz.call110,fun a=>iM Tryz.func110⟩
instance t_av:FI J0 160 (∀(a:zC)(b:Int),FnK J0 160 [T.ro ((Pt xP) a),I b] (fun r=>[(fun x=>T.agg [I x.Prime,I x.yW,(Ro lM) x.Rows]) r]) (fun _=>[]) (zGY a b)):=⟨Tryz.call160,fun a b=>iM Tryz.func160⟩
instance:HS Tryz.f135.8 [(0,20,0,.tr 16 3),(2,8,0,.tr 3 20)]:=⟨⟩
instance(b:(List Int)×Int)(c:Int):LH (R:=(List Int)) (zRv b c) [4,6,7,8,13] [] (fun a=>[(3,L 1 I a.1),(14,I a.2)]) (.xe 2 [4,13] fun d=>[(3,L 1 I d)]):=⟨⟩
instance(b:List Int):LH (R:=(List Int)) (zRw b) [6,7] [] (fun a=>[(3,L 1 I a.1),(8,I a.2)]) (.xe 0 [6,7] fun c=>[(3,L 1 I c)]):=⟨⟩
instance t_T:FI J0 135 (∀(a:List Int),FnK J0 135 [T.ro (lV a)] (fun r=>[lV r]) (fun _=>[]) (f_T a)):=⟨Tryz.call135,fun a=>iM Tryz.func135⟩
instance:HS Tryz.f242.8 [(2,6,0,.tr 7 16),(0,23,0,.tr 22 7),(0,24,0,.trq 21 5 [2,0]),(1,4,0,.trf 27 2 5 [2,0])]:=⟨⟩
instance(a:Int):LN (zIk a) 5:=⟨⟩
instance(a:Int)(A0 A1 A2:T):LHk (R:=zF) (zIk a) (T.ptr (T.agg [A0,A1,A2])) [1,4,11] [] (fun b=>[(5,T.ptr (T.agg [A0,I a,L 1 lV b.1])),(12,I b.2)]) (.xe 0 [1,11] fun c=>[(5,T.ptr (T.agg [A0,I a,L 1 lV c]))]):=⟨⟩
instance t_aD:FI J0 242 (∀(a b:Int),FnK J0 242 [I a,I b] (fun r=>[uP r]) (fun _=>[]) (zTY a b)):=⟨Tryz.call242,fun a b=>iM Tryz.func242⟩
instance:HS Tryz.f255.8 [(2,6,0,.tr 6 19),(0,31,0,.tr 30 6),(0,32,0,.tr 29 3),(2,9,0,.tr 3 32)]:=⟨⟩
instance(b:List (List Int)):LH (R:=(List (List Int))) (zKV b) [0,7,8] [] (fun a=>[(3,L 1 lV a.1),(9,I a.2)]) (.xe 0 [0,7,8] fun c=>[(3,L 1 lV c)]):=⟨⟩
instance t_aI:FI J0 255 (∀(a:List (List Int)),FnK J0 255 [T.ro (lM a)] (fun r:(List (List Int))=>[lM r]) (fun _=>[]) (zR7 a)):=⟨Tryz.call255,fun a=>iM Tryz.func255⟩
instance t_b4:FI J0 266 (∀(a:Int),FnK J0 266 [I a] (fun r=>[B r]) (fun _=>[]) (zYY a)):=⟨Tryz.call266,fun a=>iM Tryz.func266⟩
instance(a b:List Int):LH (R:=Bool) (zV4 a b) [0,1] [] (fun c=>[(5,I c)]) (.xs (.xe 0 [0,1] fun _=>[]) .xr):=⟨⟩
instance t_bq:FI J0 36 (∀(a b:List Int),FnK J0 36 [T.ro (lV a),T.ro (lV b)] (fun r=>[B r]) (fun _=>[]) (zUP a b)):=⟨Tryz.call36,fun a b=>iM Tryz.func36⟩
instance:HS Tryz.f165.8 [(0,34,0,.tr 24 5),(2,10,0,.tr 5 34),(0,39,0,.tr 38 5),(0,40,0,.trq 37 3 [2,0]),(1,2,0,.trf 43 2 3 [2,0])]:=⟨⟩
instance(b:zF)(c:(List (List Int))×Int):LH (R:=zF) (zR9 b c) [1,2,3,4,14,15,20] [] (fun a=>[(5,L 1 I a.1),(21,I a.2)]) (.xe 2 [4,20] fun d=>[(5,L 1 I d)]):=⟨⟩
instance(a:zF):LH (R:=zF) (zKZ a) [1,2,14] [] (fun b=>[(3,T.ptr (T.agg [I a.Prime,I (a.Rows.length:Int),L 1 lV b.1])),(15,I b.2)]) (.xe 0 [1,14] fun c=>[(3,T.ptr (T.agg [I a.Prime,I (a.Rows.length:Int),L 1 lV c]))]):=⟨⟩
instance t_aj:FI J0 165 (∀(a:zF),FnK J0 165 [wZ a] (fun r=>[uP r]) (fun _=>[]) (zUb a)):=⟨Tryz.call165,fun a=>iM Tryz.func165⟩
instance(a:List Int)(b:Int):LH (R:=Int) (zLm a b) [0,1,7] [] (fun c=>[(8,I c)]) (.xs (.xe 0 [0,1,7] fun _=>[]) .xr):=⟨⟩
instance t_a8:FI J0 265 (∀(a:List Int)(b:Int),FnK J0 265 [T.ro (lV a),I b] (fun r=>[I r]) (fun _=>[]) (zXa a b)):=⟨Tryz.call265,fun a b=>iM Tryz.func265⟩
end
end Go.Wk
