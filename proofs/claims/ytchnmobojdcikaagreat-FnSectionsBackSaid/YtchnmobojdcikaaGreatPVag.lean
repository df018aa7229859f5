/- x -/
import Derived.Test.YtchnmobojdcikaaGreatPVaa
import Derived.Test.YtchnmobojdcikaaGreatPVab
import Derived.Test.YtchnmobojdcikaaGreatPVad
import Derived.Test.YtchnmobojdcikaaGreatPWT
open Go.Proofs.Tryz renaming prog→J0
open Option renaming some→aB,none→aC
open Bool renaming true→aD,false→aE
namespace Go.Wk
open Go Go.Proofs Go.Ab
set_option maxRecDepth 100000
set_option maxHeartbeats 4000000
section
attribute [local irreducible] RW CW DK OkL Ok yA yB xE xH XS.post rng xK yV ixO zN yD xC zU zC GTo zO FnC FnK xV wG Kp Lk BsL BuL RpL Bk Lc JQ AK
instance(a:SPr)(b c:Int):LH (R:=Bool) (zSZ a b c) [1,2,5] [] (fun d=>[(6,I d)]) (.xs (.xe 2 [] fun _=>[]) .xr):=⟨⟩
instance(a:SPr)(b:Int):LH (R:=Bool) (zTa a b) [1,2] [] (fun c=>[(5,I c)]) (.xs (.xe 0 [1,2] fun _=>[]) .xr):=⟨⟩
instance t_ae:FI J0 230 (∀(a:SPr)(b:Int),FnK J0 230 [qPr a,I b] (fun r=>[B r]) (fun _=>[]) (zNe a b)):=⟨Tryz.call230,fun a b=>iM Tryz.func230⟩
instance(a:SPr)(b:List Int):LH (R:=Bool) (zLX a b) [0,15,16] [] (fun c=>[(17,I c)]) (.xs (.xe 0 [0,15,16] fun _=>[]) .xr):=⟨⟩
instance t_au:FI J0 131 (∀(a:SPr)(b:List Int),FnK J0 131 [T.ro ((Pt xT) a),T.ro (lV b)] (fun r=>[B r]) (fun _=>[]) (zR3 a b)):=⟨Tryz.call131,fun a b=>iM Tryz.func131⟩
instance t_aZ:FI J0 320 (∀(a b:Int),FnK J0 320 [(IK .u64) a,(IK .u64) b] (fun r=>[(IK .u64) r.1,(IK .u64) r.2]) (fun _=>[]) (zPz a b)):=⟨Tryz.call320,fun a b=>iM Tryz.func320⟩
instance(b c:List Int)(d e:Int):LH (R:=(List Int)) (zJx b c d e) [1,2,3,10] [] (fun a=>[(0,L 1 I a.1),(11,I a.2)]) (.xe 0 [1,2,3,10] fun f=>[(0,L 1 I f)]):=⟨⟩
instance t_ak:FI J0 108 (∀(a b:List Int)(c d:Int),FnK J0 108 [L 1 I a,T.ro (lV b),I c,I d] (fun _:(List Int)=>[]) (fun r=>[(0,lV r)]) (zR7 a b c d)):=⟨Tryz.call108,fun a b c d=>iM Tryz.func108⟩
instance:HS Tryz.f105.8 [(2,10,0,.tr 6 24),(0,33,0,.tr 31 6),(2,14,0,.tr 6 33)]:=⟨⟩
instance(b:List (List Int)):LH (R:=(List Int)) (zPA b) [0,9,10] [] (fun a=>[(3,I a.1),(11,I a.2)]) (.xe 0 [9,10] fun c=>[(3,I c)]):=⟨⟩
instance(b:List (List Int)):LH (R:=(List Int)) (zPB b) [25,26] [] (fun a=>[(6,L 1 I a.1),(27,I a.2)]) (.xe 2 [25,26] fun c=>[(6,L 1 I c)]):=⟨⟩
instance t_D:FI J0 105 (∀(a:List (List Int)),FnK J0 105 [T.ro (lM a)] (fun r=>[lV r]) (fun _=>[]) (f_D a)):=⟨Tryz.call105,fun a=>iM Tryz.func105⟩
instance:HS Tryz.f228.8 [(0,35,0,.trq 23 5 [1,0]),(0,60,0,.tr 54 7),(2,11,0,.tr 7 60),(0,65,0,.tr 64 7),(0,66,0,.trq 63 5 [2,0]),(1,4,0,.trf 69 0 5 [0,0]),(1,4,1,.trf 69 1 5 [1,0]),(1,4,2,.trf 69 2 5 [2,0])]:=⟨⟩
instance(d:Int)(a:List (List Int)):LH (R:=SPr) (zNi d a) [0,1,4,5,18,19,48,49] [] (fun c=>[(7,L 1 lV c.1),(50,I c.2)]) (.xe 2 [48,49] fun b=>[(7,L 1 lV b)]):=⟨⟩
instance(a:SPr)(b:Int):LN (zKA a b) 5:=⟨⟩
instance(c:SPr)(d:Int)(A0 A1 A2:T):LHk (R:=SPr) (zKA c d) (T.ptr (T.agg [A0,A1,A2])) [0,1,4,18] [] (fun b=>[(5,T.ptr (T.agg [A0,L 1 lV b.1,L 1 lM b.2.1])),(19,I b.2.2)]) (.xe 0 [0,1,18] fun a=>[(5,T.ptr (T.agg [A0,L 1 lV a.1,L 1 lM a.2]))]):=⟨⟩
instance t_E:FI J0 228 (∀(a:SPr)(b:Int),FnK J0 228 [T.ro ((Pt xT) a),I b] (fun r=>[xT r]) (fun _=>[]) (f_E a b)):=⟨Tryz.call228,fun a b=>iM Tryz.func228⟩
end
end Go.Wk
