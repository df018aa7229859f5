/- x -/
import Derived.Test.YtchnmobojdcikaaGreatRVaa
import Derived.Test.YtchnmobojdcikaaGreatRVab
import Derived.Test.YtchnmobojdcikaaGreatRVac
import Derived.Test.YtchnmobojdcikaaGreatRWT
open Go.Proofs.Tryz renaming prog->J0
open Option renaming some->iW,none->iY
open Bool renaming true->iZ,false->ja
namespace Go.Wk
open Go Go.Proofs Go.Ab
set_option maxRecDepth 100000
set_option maxHeartbeats 4000000
section
attribute [local irreducible] RW CW DK OkL Ok yB yI xF xQ XS.post rng xV xC ixO zL yE yT yD zH GTo zR FnC FnK wA wN Kp Lk BsL BuL RpL Bk Lc JQ AK
instance t_ao:FI J0 203 (∀(a:zE)(b:List Int),FnK J0 203 [T.ptr (wY a),T.ro (lV b)] (fun r=>[I r.1]) (fun r=>[(0,(Pt (fun x=>T.agg [(Ro (L 1 (IK .u8))) x.code,I x.at_,I x.seed])) r.2)]) (zFk a b)):=⟨Tryz.call203,fun a b=>iM Tryz.func203⟩
instance:HS Tryz.f244.8 [(2,2,0,.tr 9 11),(0,28,0,.tr 18 9),(2,4,0,.tr 9 28)]:=⟨⟩
instance(b:Int)(c:List (List Int))(d:List (List Int))(e:Int):LH (R:=(List (List Int))) (zPl b c d e) [0,1,2,3] [] (fun a=>[(9,L 1 lV a.1),(10,I a.2)]) (.xe 0 [0,1,2,3] fun f=>[(9,L 1 lV f)]):=⟨⟩
instance t_W:FI J0 244 (∀(a:Int)(b:List (List Int))(c:List (List Int))(d:Int),FnK J0 244 [I a,T.ro (lM b),T.ro (lM c),I d] (fun r:(List (List Int))=>[lM r]) (fun _=>[]) (f_W a b c d)):=⟨Tryz.call244,fun a b c d=>iM Tryz.func244⟩
instance t_bJ:FI J0 343 (∀(a:Int),FnK J0 343 [I a] (fun r=>[Str r]) (fun _=>[]) (zSI a)):=⟨Tryz.call343,fun a=>iM Tryz.func343⟩
instance:HS Tryz.f129.8 [(2,2,0,.tr 5 7),(0,20,0,.tr 14 5),(2,4,0,.tr 5 20),(0,26,0,.tr 24 5),(2,8,0,.tr 5 26)]:=⟨⟩
instance(c:zB):LH (R:=(List Int)×zE) (zXh c) [3] [] (fun a=>[(0,T.ptr (T.agg [T.ro ((L 1 (IK .u8)) a.1),I a.2.1,I a.2.2.1])),(5,L 1 I a.2.2.2.1),(6,I a.2.2.2.2)]) (.xe 0 [3] fun b=>[(0,T.ptr (T.agg [T.ro ((L 1 (IK .u8)) b.1),I b.2.1,I b.2.2.1])),(5,L 1 I b.2.2.2)]):=⟨⟩
instance t_a4:FI J0 129 (∀(a:zE)(b:zB),FnK J0 129 [T.ptr (wY a),wS b] (fun r:(List Int)×zE=>[lV r.1]) (fun r=>[(0,(Pt (fun x=>T.agg [(Ro (L 1 (IK .u8))) x.code,I x.at_,I x.seed])) r.2)]) (zSJ a b)):=⟨Tryz.call129,fun a b=>iM Tryz.func129⟩
instance:HS Tryz.f109.8 [(2,2,0,.tr 9 12)]:=⟨⟩
instance(b c:Int)(d:List Int):LH (R:=(List Int)) (zWb b c d) [0,2,3] [] (fun a=>[(9,L 1 I a.1),(10,I a.2)]) (.xe 0 [0,2,3] fun e=>[(9,L 1 I e)]):=⟨⟩
instance t_A:FI J0 109 (∀(a:Int)(b:List Int)(c:Int)(d:List Int),FnK J0 109 [I a,T.ro (lV b),I c,T.ro (lV d)] (fun r=>[lV r]) (fun _=>[]) (f_A a b c d)):=⟨Tryz.call109,fun a b c d=>iM Tryz.func109⟩
instance:HS Tryz.f334.8 [(2,2,0,.tr 7 9),(0,36,0,.tr 18 7)]:=⟨⟩
instance(b:zB)(c:List Int)(d:Int):LH (R:=(List Int)) (zGd b c d) [1,2,3] [] (fun a=>[(7,L 1 I a.1),(8,I a.2)]) (.xe 0 [1,2,3] fun e=>[(7,L 1 I e)]):=⟨⟩
instance t_an:FI J0 334 (∀(a:zB)(b:List Int)(c:Int),FnK J0 334 [wS a,T.ro (lV b),I c] (fun r=>[lV r]) (fun _=>[]) (zWi a b c)):=⟨Tryz.call334,fun a b c=>iM Tryz.func334⟩
instance(a b:Int):LH (R:=Int) (zNM a b) [0,1] [] (fun c=>[(5,I c)]) (.xs (.xe 0 [0,1] fun _=>[]) .xr):=⟨⟩
instance t_aV:FI J0 252 (∀(a b:Int),FnK J0 252 [I a,I b] (fun r=>[I r]) (fun _=>[]) (zY8 a b)):=⟨Tryz.call252,fun a b=>iM Tryz.func252⟩
instance(a:SPr)(b:List Int):LH (R:=Bool) (zRn a b) [0,15,16] [] (fun c=>[(17,I c)]) (.xs (.xe 0 [0,15,16] fun _=>[]) .xr):=⟨⟩
instance t_a7:FI J0 131 (∀(a:SPr)(b:List Int),FnK J0 131 [T.ro ((Pt vQ) a),T.ro (lV b)] (fun r=>[B r]) (fun _=>[]) (zY0 a b)):=⟨Tryz.call131,fun a b=>iM Tryz.func131⟩
instance(a:List Int)(b:Int):LH (R:=Bool) (zRo a b) [1,13,14] [] (fun c=>[(15,I c)]) (.xs (.xe 0 [1,13,14] fun _=>[]) .xr):=⟨⟩
instance t_aS:FI J0 132 (∀(a:List Int)(b c:Int),FnK J0 132 [T.ro (lV a),I b,I c] (fun r=>[B r]) (fun _=>[]) (zVK a b c)):=⟨Tryz.call132,fun a b c=>iM Tryz.func132⟩
instance:HS Tryz.f105.8 [(2,10,0,.tr 6 24),(0,33,0,.tr 31 6),(2,14,0,.tr 6 33)]:=⟨⟩
instance(b:List (List Int)):LH (R:=(List Int)) (zVX b) [0,9,10] [] (fun a=>[(3,I a.1),(11,I a.2)]) (.xe 0 [9,10] fun c=>[(3,I c)]):=⟨⟩
instance(b:List (List Int)):LH (R:=(List Int)) (zVY b) [25,26] [] (fun a=>[(6,L 1 I a.1),(27,I a.2)]) (.xe 2 [25,26] fun c=>[(6,L 1 I c)]):=⟨⟩
instance t_z:FI J0 105 (∀(a:List (List Int)),FnK J0 105 [T.ro (lM a)] (fun r=>[lV r]) (fun _=>[]) (f_z a)):=⟨Tryz.call105,fun a=>iM Tryz.func105⟩
instance:LH (R:=Int×Bool) zK4 [1] [] (fun a=>[(6,I a.1),(7,I a.2.1),(8,I a.2.2.1),(9,I a.2.2.2)]) (.xe 0 [] fun b=>[(6,I b.1),(8,I b.2)]):=⟨⟩
instance t_ap:FI J0 254 (∀(a b:Int),FnK J0 254 [I a,I b] (fun r=>[I r.1,B r.2]) (fun _=>[]) (zPq a b)):=⟨Tryz.call254,fun a b=>iM Tryz.func254⟩
end
end Go.Wk
