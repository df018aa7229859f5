/- x -/
import Derived.Test.YtchnmobojdcikaaGreatVav
import Derived.Test.YtchnmobojdcikaaGreatWT
open Go.Proofs.Tryz renaming prog→J0
open Option renaming some→dS,none→dT
open Bool renaming true→dU,false→dV
namespace Go.Wk
open Go Go.Proofs Go.Ab
set_option maxRecDepth 100000
set_option maxHeartbeats 4000000
section
attribute [local irreducible] RW CW DK OkL Ok zU zY yO yZ XS.post rng xC yL ixO zL zX yM zV zE GTo zK FnC FnK xJ xQ Kp Lk BsL BuL RpL Bk Lc JQ AK
instance:HS Tryz.f322.8 [(2,7,0,.fi 1 9),(2,10,0,.fi 1 9),(2,16,0,.tr 14 111),(0,119,0,.tr 116 14),(0,119,1,.trq 118 12 [1,0])]:=⟨⟩
instance t_c1:FI J0 70 (∀(a:List Int),FnK J0 70 [T.ro ((L 1 (IK .u8)) a)] (fun r:SPr×zB×(List (List Int))=>[(fun x=>T.agg [(Ro lV) x.zA,(Ro lM) x.zN,(Ro lC) x.zC]) r.1,(fun x=>T.agg [I x.Prime,I x.Dim,(Ro lC) x.zG]) r.2.1,lM r.2.2]) (fun _=>[]) (yAb a)):=⟨Tryz.call70,fun a=>iM Tryz.func70⟩
instance t_cu:FI J0 73 (∀(a:SPr)(b:zB)(c:List Int),FnK J0 73 [qPr a,xD b,T.ro (lV c)] (fun r:(List (List Int))×Int=>[lM r.1,I r.2]) (fun _=>[]) (zVc a b c)):=⟨Tryz.call73,fun a b c=>iM Tryz.func73⟩
instance:HS Tryz.f75.8 [(2,2,0,.tr 9 11),(0,31,0,.tr 18 9)]:=⟨⟩
instance(b:Int)(c:List (List Int))(d:Int)(e:List (List Int)):LH (R:=(List (List Int))) (zNk b c d e) [0,1,2,3] [] (fun a=>[(9,L 1 lV a.1),(10,I a.2)]) (.xe 0 [0,1,2,3] fun f=>[(9,L 1 lV f)]):=⟨⟩
instance t_bs:FI J0 75 (∀(a:Int)(b:List (List Int))(c:Int)(d:List (List Int)),FnK J0 75 [I a,T.ro (lM b),I c,T.ro (lM d)] (fun r:(List (List Int))=>[lM r]) (fun _=>[]) (zXp a b c d)):=⟨Tryz.call75,fun a b c d=>iM Tryz.func75⟩
instance(a:List Int):LH (R:=Bool) (zYf a) [0] [] (fun b=>[(3,I b)]) (.xs (.xe 0 [0] fun _=>[]) .xr):=⟨⟩
instance t_bX:FI J0 91 (∀(a:List Int),FnK J0 91 [T.ro (lV a)] (fun r=>[B r]) (fun _=>[]) (zVd a)):=⟨Tryz.call91,fun a=>iM Tryz.func91⟩
instance(a:List (List Int)):LH (R:=Bool) (zPX a) [0] [] (fun b=>[(3,I b)]) (.xs (.xe 0 [0] fun _=>[]) .xr):=⟨⟩
instance t_bY:FI J0 78 (∀(a:List (List Int)),FnK J0 78 [T.ro (lM a)] (fun r=>[B r]) (fun _=>[]) (yAc a)):=⟨Tryz.call78,fun a=>iM Tryz.func78⟩
end
end Go.Wk
