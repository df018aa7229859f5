/- x -/
import Derived.Test.YtchnmobojdcikaaGreatVaj
import Derived.Test.YtchnmobojdcikaaGreatVak
import Derived.Test.YtchnmobojdcikaaGreatVal
import Derived.Test.YtchnmobojdcikaaGreatWT
open Go.Proofs.Tryz renaming prog→J0
open Option renaming some→dS,none→dT
open Bool renaming true→dU,false→dV
namespace Go.Wk
open Go Go.Proofs Go.Ab
set_option maxRecDepth 100000
set_option maxHeartbeats 4000000
section
attribute [local irreducible] RW CW DK OkL Ok zU zY yO yZ XS.post rng xC yL ixO zL zX yM zV zE GTo zK FnC FnK xJ xQ Kp Lk BsL BuL RpL Bk Lc JQ AK
instance t_aQ:FI J0 220 (∀(a b:Int),FnK J0 220 [I a,I b] (fun r=>[I r]) (fun _=>[]) (zIy a b)):=⟨Tryz.call220,fun a b=>iM Tryz.func220⟩
instance(b c:List Int)(d e:Int):LH (R:=(List Int)) (zM9 b c d e) [1,2,3,10] [] (fun a=>[(0,L 1 I a.1),(11,I a.2)]) (.xe 0 [1,2,3,10] fun f=>[(0,L 1 I f)]):=⟨⟩
instance t_I:FI J0 108 (∀(a b:List Int)(c d:Int),FnK J0 108 [L 1 I a,T.ro (lV b),I c,I d] (fun _:(List Int)=>[]) (fun r=>[(0,lV r)]) (f_I a b c d)):=⟨Tryz.call108,fun a b c d=>iM Tryz.func108⟩
instance:HS Tryz.f133.8 [(2,2,0,.tr 5 10)]:=⟨⟩
instance(b:List Int)(c:zJ):LH (R:=(List Int)) (zMA b c) [3,11,12] [] (fun a=>[(5,L 1 I a.1),(13,I a.2)]) (.xe 0 [3,11,12] fun d=>[(5,L 1 I d)]):=⟨⟩
instance t_az:FI J0 133 (∀(a:List Int)(b:zJ),FnK J0 133 [T.ro (lV a),uS b] (fun r=>[lV r]) (fun _=>[]) (zOu a b)):=⟨Tryz.call133,fun a b=>iM Tryz.func133⟩
instance:HS Tryz.f148.8 [(0,26,0,.trq 21 5 [2,0]),(1,4,0,.trf 29 2 5 [2,0])]:=⟨⟩
instance(a b:zJ):LH (R:=zJ) (zMB a b) [3,4,14,15] [] (fun c=>[(5,T.ptr (T.agg [I a.Prime,I b.xL,L 1 lV c.1])),(16,I c.2)]) (.xe 0 [3,14,15] fun d=>[(5,T.ptr (T.agg [I a.Prime,I b.xL,L 1 lV d]))]):=⟨⟩
instance t_a4:FI J0 148 (∀(a b:zJ),FnK J0 148 [uS a,uS b] (fun r=>[sB r]) (fun _=>[]) (zTQ a b)):=⟨Tryz.call148,fun a b=>iM Tryz.func148⟩
instance:HS Tryz.f173.8 [(2,2,0,.tr 7 14),(2,6,0,.tr 7 26)]:=⟨⟩
instance(c:zB)(d:List (List Int))(e:List Int):LH (R:=(List Int)) (zMN c d e) [0,1,15,16] [] (fun b=>[(7,L 1 I b.1),(17,I b.2)]) (.xe 0 [0,1,15,16] fun a=>[(7,L 1 I a)]):=⟨⟩
instance t_aC:FI J0 173 (∀(a:zB)(b:List (List Int))(c:List Int),FnK J0 173 [T.ro ((Pt yX) a),T.ro (lM b),T.ro (lV c)] (fun r=>[lV r]) (fun _=>[]) (zO0 a b c)):=⟨Tryz.call173,fun a b c=>iM Tryz.func173⟩
instance:HS Tryz.f212.8 [(0,13,0,.fz 12),(2,6,0,.tr 10 22),(0,36,0,.tr 35 10),(0,37,0,.tr 34 7),(2,8,0,.tr 7 37)]:=⟨⟩
instance(b:zB)(c:List (List Int))(d:(List ((List Int)×(List Int)))):LH (R:=(List (List Int))) (zMO b c d) [1,2,12,13] [] (fun a=>[(7,L 1 lV a.1),(14,I a.2)]) (.xe 0 [1,2,12,13] fun e=>[(7,L 1 lV e)]):=⟨⟩
instance t_aR:FI J0 212 (∀(a:SPr)(b:zB)(c:List (List Int)),FnK J0 212 [T.ro ((Pt xR) a),T.ro ((Pt yX) b),T.ro (lM c)] (fun r:(List (List Int))=>[lM r]) (fun _=>[]) (zQV a b c)):=⟨Tryz.call212,fun a b c=>iM Tryz.func212⟩
instance:LH (R:=Int×Bool) zJF [1] [] (fun a=>[(6,I a.1),(7,I a.2.1),(8,I a.2.2.1),(9,I a.2.2.2)]) (.xe 0 [] fun b=>[(6,I b.1),(8,I b.2)]):=⟨⟩
instance t_ap:FI J0 254 (∀(a b:Int),FnK J0 254 [I a,I b] (fun r=>[I r.1,B r.2]) (fun _=>[]) (zMG a b)):=⟨Tryz.call254,fun a b=>iM Tryz.func254⟩
instance:HS Tryz.f37.8 [(2,2,0,.tr 5 15)]:=⟨⟩
instance(a:List Int):LH (R:=jV) (zUW a) [0] [] (fun b=>[(5,T.ptr (T.agg [T.ro ((L 1 (IK .u8)) a),I 0,(IK .u64) b.1])),(6,I b.2)]) (.xe 0 [0] fun c=>[(5,T.ptr (T.agg [T.ro ((L 1 (IK .u8)) a),I 0,(IK .u64) c]))]):=⟨⟩
instance t_aL:FI J0 37 (∀(a:List Int)(c:Int),FnK J0 37 [T.ro ((L 1 (IK .u8)) a),(IK .u64) c] (fun r=>[(Pt (fun x=>T.agg [(Ro (L 1 (IK .u8))) x.b,I x.i,(IK .u64) x.h])) r]) (fun _=>[]) (zKR a c)):=⟨Tryz.call37,fun a c=>iM Tryz.func37⟩
instance t_bW:FI J0 39 (∀(a:jV)(c:Int),FnK J0 39 [T.ptr (yBY a),I c] (fun r=>[I r.1]) (fun r=>[(0,(Pt (fun x=>T.agg [(Ro (L 1 (IK .u8))) x.b,I x.i,(IK .u64) x.h])) r.2)]) (zNi a c)):=⟨Tryz.call39,fun a c=>iM Tryz.func39⟩
instance t_bC:FI J0 145 (∀(a:SPr)(b c:List Int),FnK J0 145 [qPr a,T.ro (lV b),T.ro (lV c)] (fun r=>[lV r]) (fun _=>[]) (zKL a b c)):=⟨Tryz.call145,fun a b c=>iM Tryz.func145⟩
instance t_cX:FI J0 146 (∀(a b:Int)(c:List (List Int)),FnK J0 146 [I a,I b,T.ro (lM c)] (fun r=>[sB r]) (fun _=>[]) (zZJ a b c)):=⟨Tryz.call146,fun a b c=>iM Tryz.func146⟩
instance t_cI:FI J0 45 (∀(a b:zJ),FnK J0 45 [uS a,uS b] (fun r=>[sB r.1,I r.2]) (fun _=>[]) (zXj a b)):=⟨Tryz.call45,fun a b=>iM Tryz.func45⟩
instance:HS Tryz.f190.8 [(2,6,0,.tr 9 22),(0,32,0,.tr 31 9),(0,33,0,.tr 30 7),(2,8,0,.tr 7 33)]:=⟨⟩
instance(b:SPr)(c:zB)(d:List Int):LH (R:=(List (List Int))) (zMS b c d) [1,2,14] [] (fun a=>[(7,L 1 lV a.1),(15,I a.2)]) (.xe 0 [1,2,14] fun e=>[(7,L 1 lV e)]):=⟨⟩
instance t_a8:FI J0 190 (∀(a:SPr)(b:zB)(c:List Int),FnK J0 190 [T.ro ((Pt xR) a),T.ro ((Pt yX) b),T.ro (lV c)] (fun r:(List (List Int))=>[lM r]) (fun _=>[]) (zUn a b c)):=⟨Tryz.call190,fun a b c=>iM Tryz.func190⟩
instance t_ci:FI J0 213 (∀(a:SPr)(b:zB)(c:List (List Int)),FnK J0 213 [qPr a,xD b,T.ro (lM c)] (fun r=>[B r]) (fun _=>[]) (zUg a b c)):=⟨Tryz.call213,fun a b c=>iM Tryz.func213⟩
instance:HS Tryz.f62.8 [(2,2,0,.tr 9 11),(0,37,0,.tr 18 9)]:=⟨⟩
instance(c:Int)(d:List Int)(e:Int)(f:List Int):LH (R:=(List Int)) (zNj c d e f) [0,1,2,3] [] (fun b=>[(9,L 1 I b.1),(10,I b.2)]) (.xe 0 [0,1,2,3] fun a=>[(9,L 1 I a)]):=⟨⟩
instance t_bf:FI J0 62 (∀(a:Int)(b:List Int)(c:Int)(d:List Int),FnK J0 62 [I a,T.ro (lV b),I c,T.ro (lV d)] (fun r=>[lV r]) (fun _=>[]) (zVb a b c d)):=⟨Tryz.call62,fun a b c d=>iM Tryz.func62⟩
end
end Go.Wk
