/- x -/
import Derived.Test.YtchnmobojdcikaaGreatPVaa
import Derived.Test.YtchnmobojdcikaaGreatPVab
import Derived.Test.YtchnmobojdcikaaGreatPVac
import Derived.Test.YtchnmobojdcikaaGreatPVad
import Derived.Test.YtchnmobojdcikaaGreatPWT
open Go.Proofs.Tryz renaming prog→J0
open Option renaming some→aB,none→aC
open Bool renaming true→aD,false→aE
namespace Go.Wk
open Go Go.Proofs Go.Ab
set_option maxRecDepth 100000
set_option maxHeartbeats 4000000
section
attribute [local irreducible] RW CW DK OkL Ok yA yB xE xH XS.post rng xK yV ixO zN yD xC zU zC GTo zO FnC FnK xV wG Kp Lk BsL BuL RpL Bk Lc JQ AK
instance t_as:FI J0 203 (∀(a:zH)(b:List Int),FnK J0 203 [T.ptr (uJ a),T.ro (lV b)] (fun r=>[I r.1]) (fun r=>[(0,(Pt (fun x=>T.agg [(Ro (L 1 (IK .u8))) x.code,I x.at_,I x.seed])) r.2)]) (zGz a b)):=⟨Tryz.call203,fun a b=>iM Tryz.func203⟩
instance:HS Tryz.f244.8 [(2,2,0,.tr 9 11),(0,28,0,.tr 18 9),(2,4,0,.tr 9 28)]:=⟨⟩
instance(b:Int)(c:List (List Int))(d:List (List Int))(e:Int):LH (R:=(List (List Int))) (zKy b c d e) [0,1,2,3] [] (fun a=>[(9,L 1 lV a.1),(10,I a.2)]) (.xe 0 [0,1,2,3] fun f=>[(9,L 1 lV f)]):=⟨⟩
instance t_K:FI J0 244 (∀(a:Int)(b:List (List Int))(c:List (List Int))(d:Int),FnK J0 244 [I a,T.ro (lM b),T.ro (lM c),I d] (fun r:(List (List Int))=>[lM r]) (fun _=>[]) (f_K a b c d)):=⟨Tryz.call244,fun a b c d=>iM Tryz.func244⟩
instance:HS Tryz.f336.8 [(2,2,0,.tr 4 8),(2,5,0,.tr 5 13),(0,35,0,.tr 32 4),(2,7,0,.tr 4 35)]:=⟨⟩
instance(b:(List ByteArray)):LH (R:=(List Int)×Bool) (zMh b) [5] [] (fun a=>[(4,L 1 I a.1),(6,I a.2)]) (.xs (.xe 0 [5] fun c=>[(4,L 1 I c)]) .xr):=⟨⟩
instance t_aC:FI J0 336 (∀(a:ByteArray),FnK J0 336 [Str a] (fun r:(List Int)×Bool=>[lV r.1,B r.2]) (fun _=>[]) (zRW a)):=⟨Tryz.call336,fun a=>iM Tryz.func336⟩
instance(a:List Int)(b:Int):LH (R:=Bool) (zLY a b) [1,13,14] [] (fun c=>[(15,I c)]) (.xs (.xe 0 [1,13,14] fun _=>[]) .xr):=⟨⟩
instance t_an:FI J0 132 (∀(a:List Int)(b c:Int),FnK J0 132 [T.ro (lV a),I b,I c] (fun r=>[B r]) (fun _=>[]) (zPy a b c)):=⟨Tryz.call132,fun a b c=>iM Tryz.func132⟩
instance(a:List (List Int))(b:List (List Int)):LH (R:=Bool) (zP6 a b) [1,2,15,16] [] (fun c=>[(17,I c)]) (.xs (.xe 0 [1,2,15,16] fun _=>[]) .xr):=⟨⟩
instance t_aU:FI J0 293 (∀(a:List (List Int))(b:List (List Int)),FnK J0 293 [T.ro (lM a),T.ro (lM b),T.lit (.func (.func 225) #[] #[])] (fun r=>[B r]) (fun _=>[]) (zUw a b)):=⟨Tryz.call293,fun a b=>iM Tryz.func293⟩
instance:HS Tryz.f294.8 [(0,22,0,.trq 18 4 [1,0]),(0,36,0,.tr 31 6),(2,10,0,.tr 6 36),(0,40,0,.tr 39 6),(0,41,0,.trq 38 4 [2,0]),(1,2,0,.trf 44 0 4 [0,0]),(1,2,1,.trf 44 1 4 [1,0]),(1,2,2,.trf 44 2 4 [2,0])]:=⟨⟩
instance(b:List Int):LH (R:=SPr) (zMV b) [2,3,4,13,14] [] (fun a=>[(6,L 1 lV a.1),(7,I a.2)]) (.xe 2 [] fun c=>[(6,L 1 lV c)]):=⟨⟩
instance(a:List Int):LN (zMW a) 4:=⟨⟩
instance(c:List Int)(A0 A1 A2:T):LHk (R:=SPr) (zMW c) (T.ptr (T.agg [A0,A1,A2])) [2,3,13] [] (fun b=>[(4,T.ptr (T.agg [A0,L 1 lV b.1,L 1 lM b.2.1])),(14,I b.2.2)]) (.xe 0 [3,13] fun a=>[(4,T.ptr (T.agg [A0,L 1 lV a.1,L 1 lM a.2]))]):=⟨⟩
instance t_L:FI J0 294 (∀(a:List Int),FnK J0 294 [T.ro (lV a)] (fun r=>[xT r]) (fun _=>[]) (f_L a)):=⟨Tryz.call294,fun a=>iM Tryz.func294⟩
instance(a:List (List Int))(b:List (List Int)):LH (R:=Bool) (zQj a b) [0,1] [] (fun c=>[(5,I c)]) (.xs (.xe 0 [0,1] fun _=>[]) .xr):=⟨⟩
instance t_ab:FI J0 21 (∀(a:List (List Int))(b:List (List Int)),FnK J0 21 [T.ro (lM a),T.ro (lM b)] (fun r=>[B r]) (fun _=>[]) (zHU a b)):=⟨Tryz.call21,fun a b=>iM Tryz.func21⟩
instance(a:SPr)(b c:Int):LH (R:=Bool) (zK8 a b c) [0,1,5,7,8] [] (fun d=>[(6,I d)]) (.xs (.xe 2 [5] fun _=>[]) .xr):=⟨⟩
instance(a:SPr)(b:Int):LH (R:=Bool) (zQk a b) [0,1,7] [] (fun c=>[(8,I c)]) (.xs (.xe 0 [0,1,7] fun _=>[]) .xr):=⟨⟩
instance t_M:FI J0 224 (∀(a:SPr)(b:Int),FnK J0 224 [T.ro ((Pt xT) a),I b] (fun r=>[B r]) (fun _=>[]) (f_M a b)):=⟨Tryz.call224,fun a b=>iM Tryz.func224⟩
end
end Go.Wk
