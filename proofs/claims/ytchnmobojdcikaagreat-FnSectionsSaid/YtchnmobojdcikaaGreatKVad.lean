/- x -/
import Derived.Test.YtchnmobojdcikaaGreatKWT
open Go.Proofs.Tryz renaming prog→J0
open Option renaming some→dJ,none→dK
open Bool renaming true→dL,false→dM
namespace Go.Wk
open Go Go.Proofs Go.Ab
set_option maxRecDepth 100000
set_option maxHeartbeats 4000000
section
attribute [local irreducible] RW CW DK OkL Ok yO yY wQ wK XS.post rng wS xR ixO zQ zZ wP yG zH GTo zX FnC FnK vM uH Kp Lk BsL BuL RpL Bk Lc JQ AK
instance t_p:FI J0 121 (∀(a:List Int),FnK J0 121 [T.ro (lV a)] (fun r=>[lV r]) (fun _=>[]) (f_p a)):=⟨Tryz.call121,fun a=>iM Tryz.func121⟩
instance t_aJ:FI J0 118 (∀(a b c:Int),FnK J0 118 [I a,I b,I c] (fun r=>[B r]) (fun _=>[]) (zIU a b c)):=⟨Tryz.call118,fun a b c=>iM Tryz.func118⟩
instance t_br:FI J0 199 (∀(a:Int),FnK J0 199 [I a] (fun r=>[B r]) (fun _=>[]) (zOo a)):=⟨Tryz.call199,fun a=>iM Tryz.func199⟩
instance:HS Tryz.f328.8 [(2,2,0,.tr 4 6),(0,22,0,.tr 19 4),(2,7,0,.tr 4 22)]:=⟨⟩
instance(c:Int×(List Int)×Int):LH (R:=(List Int)×Bool) (zVu c) [5] [] (fun a=>[(0,I a.1),(4,L 1 I a.2)]) (.xe 2 [] fun b=>[(0,I b.1),(4,L 1 I b.2)]):=⟨⟩
instance:LH (R:=(List Int)×Bool) zQr [] [] (fun a=>[(0,I a.1),(4,L 1 I a.2.1),(5,I a.2.2)]) (.xe 0 [] fun b=>[(0,I b.1),(4,L 1 I b.2)]):=⟨⟩
instance t_am:FI J0 328 (∀(a:Int),FnK J0 328 [I a] (fun r:(List Int)×Bool=>[lV r.1,B r.2]) (fun _=>[]) (zO9 a)):=⟨Tryz.call328,fun a=>iM Tryz.func328⟩
instance:HS Tryz.f248.8 [(2,2,0,.tr 3 5),(0,19,0,.tr 12 3),(2,4,0,.tr 3 19)]:=⟨⟩
instance(b:List (List Int)):LH (R:=(List (List Int))) (zJU b) [0] [] (fun a=>[(3,L 1 lV a.1),(4,I a.2)]) (.xe 0 [0] fun c=>[(3,L 1 lV c)]):=⟨⟩
instance t_aj:FI J0 248 (∀(a:List (List Int)),FnK J0 248 [T.ro (lM a)] (fun r:(List (List Int))=>[lM r]) (fun _=>[]) (zLl a)):=⟨Tryz.call248,fun a=>iM Tryz.func248⟩
instance:HS Tryz.f340.8 [(2,4,0,.tr 6 13),(0,39,0,.tr 36 6),(2,6,0,.tr 6 39),(2,6,1,.tr 6 48),(0,48,0,.tr 44 6)]:=⟨⟩
instance(c:Int)(d:ByteArray):LH (R:=(List Int)×Bool) (zV6 c d) [0,1] [] (fun b=>[(6,L 1 I b.1),(7,I b.2)]) (.xs (.xe 0 [0,1] fun a=>[(6,L 1 I a)]) .xr):=⟨⟩
instance t_bl:FI J0 340 (∀(a:Int)(b:ByteArray),FnK J0 340 [I a,Str b] (fun r:(List Int)×Bool=>[lV r.1,B r.2]) (fun _=>[]) (zXF a b)):=⟨Tryz.call340,fun a b=>iM Tryz.func340⟩
instance:HS Tryz.f290.8 [(0,28,0,.trq 20 3 [2,0]),(1,2,0,.trf 30 0 3 [0,0]),(1,2,1,.trf 30 1 3 [1,0]),(1,2,2,.trf 30 2 3 [2,0])]:=⟨⟩
instance(a:SPr):LN (zGA a) 3:=⟨⟩
instance(b:SPr)(A0 A1 A2:T):LHk (R:=SPr) (zGA b) (T.ptr (T.agg [A0,A1,A2])) [1,2] [] (fun a=>[(3,T.ptr (T.agg [A0,A1,L 1 lM a.1])),(4,I a.2)]) (.xe 0 [1] fun c=>[(3,T.ptr (T.agg [A0,A1,L 1 lM c]))]):=⟨⟩
instance t_af:FI J0 290 (∀(a:SPr),FnK J0 290 [qPr a] (fun r=>[wH r]) (fun _=>[]) (zNw a)):=⟨Tryz.call290,fun a=>iM Tryz.func290⟩
instance(a b:List Int)(c:Int):LH (R:=Bool) (zMS a b c) [0,1,2] [] (fun d=>[(7,I d)]) (.xs (.xe 0 [0,1,2] fun _=>[]) .xr):=⟨⟩
instance t_au:FI J0 200 (∀(a b:List Int)(c:Int),FnK J0 200 [T.ro (lV a),T.ro (lV b),I c] (fun r=>[B r]) (fun _=>[]) (zOp a b c)):=⟨Tryz.call200,fun a b c=>iM Tryz.func200⟩
instance:HS Tryz.f247.8 [(2,5,0,.tr 10 25),(2,5,1,.tr 11 27),(2,9,0,.tr 10 45),(2,12,0,.tr 13 51),(2,16,0,.tr 13 84),(2,17,0,.tr 15 86)]:=⟨⟩
instance(g_e:SPr→Int→(List Int)→Option (List Int))(b:SPr)(c:Int)(d:List Int):LH (R:=(List Int)) (zXh g_e b c d) [1,2,3,4,11] [] (fun a=>[(10,L 1 I a.1),(12,I a.2)]) (.xe 0 [] fun e=>[(10,L 1 I e)]):=⟨⟩
theorem yEv{g_e:SPr→Int→(List Int)→Option (List Int)}[FI J0 299 (∀(x0:SPr)(x1:Int)(x2:List Int),FnK J0 299 [qPr x0,I x1,T.ro (lV x2)] (fun r:(List Int)=>[lV r]) (fun _=>[]) (g_e x0 x1 x2))]{g_a:SPr→Int→(List Int)→(List Int)→Option (List Int)}[FI J0 247 (∀(x0:SPr)(x1:Int)(x2:List Int)(x3:List Int),FnK J0 247 [qPr x0,I x1,T.ro (lV x2),T.ro (lV x3)] (fun r:(List Int)=>[lV r]) (fun _=>[]) (g_a x0 x1 x2 x3))]:∀(x0:SPr)(x1:Int)(x2:List Int)(x3:List Int),FnK J0 247 [qPr x0,I x1,T.ro (lV x2),T.ro (lV x3)] (fun r:(List Int)=>[lV r]) (fun _=>[]) (b_a g_e g_a x0 x1 x2 x3):=fun x0 x1 x2 x3=>iM Tryz.func247
theorem yEw{g_e:SPr→Int→(List Int)→Option (List Int)}(H_e:∀(x0:SPr)(x1:Int)(x2:List Int) r,g_e x0 x1 x2=dJ r→FnC J0 299 [qPr x0,I x1,T.ro (lV x2)] [lV r] []){g_a:SPr→Int→(List Int)→(List Int)→Option (List Int)}(H_a:∀(x0:SPr)(x1:Int)(x2:List Int)(x3:List Int) r,g_a x0 x1 x2 x3=dJ r→FnC J0 247 [qPr x0,I x1,T.ro (lV x2),T.ro (lV x3)] [lV r] [])(x0:SPr)(x1:Int)(x2:List Int)(x3:List Int)(r:(List Int))(h:b_a g_e g_a x0 x1 x2 x3=dJ r):FnC J0 247 [qPr x0,I x1,T.ro (lV x2),T.ro (lV x3)] [lV r] []:=by have:FI J0 299 (∀(x0:SPr)(x1:Int)(x2:List Int),FnK J0 299 [qPr x0,I x1,T.ro (lV x2)] (fun r:(List Int)=>[lV r]) (fun _=>[]) (g_e x0 x1 x2)):=⟨Tryz.call299,fun x0 x1 x2=>FnK.mk (H_e x0 x1 x2)⟩;have:FI J0 247 (∀(x0:SPr)(x1:Int)(x2:List Int)(x3:List Int),FnK J0 247 [qPr x0,I x1,T.ro (lV x2),T.ro (lV x3)] (fun r:(List Int)=>[lV r]) (fun _=>[]) (g_a x0 x1 x2 x3)):=⟨Tryz.call247,fun x0 x1 x2 x3=>FnK.mk (H_a x0 x1 x2 x3)⟩;exact(yEv x0 x1 x2 x3).go h
instance(a:Int)(b:List Int):LH (R:=Bool) (zQi a b) [0,2] [] (fun c=>[(7,I c)]) (.xs (.xe 0 [0,2] fun _=>[]) .xr):=⟨⟩
instance t_aE:FI J0 137 (∀(a b:Int)(c:List Int),FnK J0 137 [I a,I b,T.ro (lV c)] (fun r=>[B r]) (fun _=>[]) (zRi a b c)):=⟨Tryz.call137,fun a b c=>iM Tryz.func137⟩
instance(a b:Int)(c:List (List Int)):LH (R:=Bool) (zQj a b c) [0,1,2] [] (fun d=>[(7,I d)]) (.xs (.xe 0 [0,1,2] fun _=>[]) .xr):=⟨⟩
instance t_a3:FI J0 296 (∀(a b:Int)(c:List (List Int)),FnK J0 296 [I a,I b,T.ro (lM c)] (fun r=>[B r]) (fun _=>[]) (zXj a b c)):=⟨Tryz.call296,fun a b c=>iM Tryz.func296⟩
instance:HS Tryz.f188.8 [(2,2,0,.tr 5 7),(0,26,0,.tr 17 5),(2,4,0,.tr 5 26)]:=⟨⟩
instance(b:List Int)(c:Int):LH (R:=(List (List Int))) (zNs b c) [0,1] [] (fun a=>[(5,L 1 lV a.1),(6,I a.2)]) (.xe 0 [0,1] fun d=>[(5,L 1 lV d)]):=⟨⟩
instance t_aR:FI J0 188 (∀(a:List Int)(b:Int),FnK J0 188 [T.ro (lV a),I b] (fun r:(List (List Int))=>[lM r]) (fun _=>[]) (zX3 a b)):=⟨Tryz.call188,fun a b=>iM Tryz.func188⟩
instance(a:zC)(b:List (List Int)):LH (R:=Bool) (zNi a b) [1,2] [] (fun c=>[(5,I c)]) (.xs (.xe 0 [1,2] fun _=>[]) .xr):=⟨⟩
instance t_a5:FI J0 270 (∀(a:zC)(b:List (List Int)),FnK J0 270 [wL a,T.ro (lM b)] (fun r=>[B r]) (fun _=>[]) (yAR a b)):=⟨Tryz.call270,fun a b=>iM Tryz.func270⟩
instance t_a2:FI J0 220 (∀(a b:Int),FnK J0 220 [I a,I b] (fun r=>[I r]) (fun _=>[]) (zLg a b)):=⟨Tryz.call220,fun a b=>iM Tryz.func220⟩
instance(b c:List Int)(d e:Int):LH (R:=(List Int)) (zNa b c d e) [1,2,3,10] [] (fun a=>[(0,L 1 I a.1),(11,I a.2)]) (.xe 0 [1,2,3,10] fun f=>[(0,L 1 I f)]):=⟨⟩
instance t_Q:FI J0 108 (∀(a b:List Int)(c d:Int),FnK J0 108 [L 1 I a,T.ro (lV b),I c,I d] (fun _:(List Int)=>[]) (fun r=>[(0,lV r)]) (f_Q a b c d)):=⟨Tryz.call108,fun a b c d=>iM Tryz.func108⟩
instance:HS Tryz.f133.8 [(2,2,0,.tr 5 10)]:=⟨⟩
instance(b:List Int)(c:zS):LH (R:=(List Int)) (zNb b c) [3,11,12] [] (fun a=>[(5,L 1 I a.1),(13,I a.2)]) (.xe 0 [3,11,12] fun d=>[(5,L 1 I d)]):=⟨⟩
instance t_aL:FI J0 133 (∀(a:List Int)(b:zS),FnK J0 133 [T.ro (lV a),zHc b] (fun r=>[lV r]) (fun _=>[]) (zXo a b)):=⟨Tryz.call133,fun a b=>iM Tryz.func133⟩
instance:HS Tryz.f148.8 [(0,26,0,.trq 21 5 [2,0]),(1,4,0,.trf 29 2 5 [2,0])]:=⟨⟩
instance(a b:zS):LH (R:=zS) (zNc a b) [3,4,14,15] [] (fun c=>[(5,T.ptr (T.agg [I a.Prime,I b.tD,L 1 lV c.1])),(16,I c.2)]) (.xe 0 [3,14,15] fun d=>[(5,T.ptr (T.agg [I a.Prime,I b.tD,L 1 lV d]))]):=⟨⟩
instance t_aM:FI J0 148 (∀(a b:zS),FnK J0 148 [zHc a,zHc b] (fun r=>[zF4 r]) (fun _=>[]) (zXp a b)):=⟨Tryz.call148,fun a b=>iM Tryz.func148⟩
instance:HS Tryz.f81.8 [(0,30,0,.trq 27 9 [0,0]),(0,42,0,.trq 38 9 [0,0]),(0,65,0,.trq 51 9 [1,0]),(2,14,0,.tr 13 67),(0,95,0,.tr 75 13),(2,18,0,.tr 13 95),(0,116,0,.tr 103 13),(0,120,0,.tr 119 13),(0,121,0,.trq 118 9 [2,0]),(0,135,0,.trq 129 9 [1,0]),(2,29,0,.tr 17 137),(2,33,0,.tr 19 148),(0,156,0,.tr 155 19),(0,157,0,.tr 154 17),(2,31,0,.tr 17 157),(0,161,0,.tr 160 17),(0,162,0,.trq 159 9 [2,0]),(1,6,0,.trf 164 0 9 [0,0]),(1,6,1,.trf 164 1 9 [1,0]),(1,6,2,.trf 164 2 9 [2,0])]:=⟨⟩
instance(b:zC):LH (R:=SPr) (zRK b) [2,3,4,6,7,8] [] (fun a=>[(9,T.ptr (T.agg [L 1 I a.1,L 1 lV [],L 1 lM []])),(10,I a.2)]) (.xe 0 [] fun c=>[(9,T.ptr (T.agg [L 1 I c,L 1 lV [],L 1 lM []]))]):=⟨⟩
instance(d:SPr)(e:List (List Int))(c:(List (List Int))×(List (List (List Int)))×Int×Int):LH (R:=SPr) (zRL d e c) [2,3,4,6,7,8,9,12] [] (fun a=>[(11,I a.1),(13,L 1 lV a.2.1),(14,I a.2.2)]) (.xe 4 [] fun b=>[(11,I b.1),(13,L 1 lV b.2)]):=⟨⟩
instance(d:SPr)(e:zC)(b:(List (List Int))×(List (List (List Int)))×Int×Int):LH (R:=SPr) (zRM d e b) [2,3,4,6,7,8,9,11,12] [] (fun a=>[(13,L 1 lV a.1),(15,I a.2)]) (.xe 6 [] fun c=>[(13,L 1 lV c)]):=⟨⟩
instance(a:SPr)(b:zC)(c:List (List Int)):LN (zOF a b c) 9:=⟨⟩
instance(c:SPr)(d:zC)(e:List (List Int))(A0 A1 A2:T):LHk (R:=SPr) (zOF c d e) (T.ptr (T.agg [A0,A1,A2])) [2,3,4,6,7,8] [] (fun a=>[(9,T.ptr (T.agg [A0,L 1 lV a.1,L 1 lM a.2.1])),(11,I a.2.2.1),(12,I a.2.2.2)]) (.xe 2 [2,3,4] fun b=>[(9,T.ptr (T.agg [A0,L 1 lV b.1,L 1 lM b.2]))]):=⟨⟩
instance(c:SPr)(d:zC):LH (R:=SPr) (zRN c d) [6,7,8,9,16] [] (fun a=>[(17,L 1 lV a.1),(18,I a.2)]) (.xe 10 [] fun b=>[(17,L 1 lV b)]):=⟨⟩
instance(a:SPr)(b:zC):LN (zOG a b) 9:=⟨⟩
instance(c:SPr)(d:zC)(A0 A1 A2:T):LHk (R:=SPr) (zOG c d) (T.ptr (T.agg [A0,A1,A2])) [6,7,8] [] (fun a=>[(9,T.ptr (T.agg [A0,L 1 lV a.1,L 1 lM a.2.1])),(16,I a.2.2)]) (.xe 8 [7,8] fun b=>[(9,T.ptr (T.agg [A0,L 1 lV b.1,L 1 lM b.2]))]):=⟨⟩
instance t_i:FI J0 81 (∀(a:SPr)(b:zC)(c:List (List Int)),FnK J0 81 [qPr a,wL b,T.ro (lM c)] (fun r=>[wH r]) (fun _=>[]) (f_i a b c)):=⟨Tryz.call81,fun a b c=>iM Tryz.func81⟩
end
end Go.Wk
