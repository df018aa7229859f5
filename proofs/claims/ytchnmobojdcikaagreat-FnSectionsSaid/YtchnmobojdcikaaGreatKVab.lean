/- x -/
import Derived.Test.YtchnmobojdcikaaGreatKWT
open Go.Proofs.Tryz renaming prog→J0,call114→Jau
open Option renaming some→dJ,none→dK
open Bool renaming true→dL,false→dM
namespace Go.Wk
open Go Go.Proofs Go.Ab
set_option maxRecDepth 100000
set_option maxHeartbeats 4000000
section
attribute [local irreducible] RW CW DK OkL Ok yO yY wQ wK XS.post rng wS xR ixO zQ zZ wP yG zH GTo zX FnC FnK vM uH Kp Lk BsL BuL RpL Bk Lc JQ AK
instance:HS Tryz.f110.8 [(2,2,0,.tr 3 7)]:=⟨⟩
instance(a:List Int):LH (R:=zE) (zVt a) [0] [] (fun b=>[(3,T.ptr (T.agg [T.ro ((L 1 (IK .u8)) a),I 0,I b.1])),(4,I b.2)]) (.xe 0 [0] fun c=>[(3,T.ptr (T.agg [T.ro ((L 1 (IK .u8)) a),I 0,I c]))]):=⟨⟩
instance t_aV:FI J0 110 (∀(a:List Int),FnK J0 110 [T.ro ((L 1 (IK .u8)) a)] (fun r=>[(Pt (fun x=>T.agg [(Ro (L 1 (IK .u8))) x.code,I x.at_,I x.seed])) r]) (fun _=>[]) (zRC a)):=⟨Tryz.call110,fun a=>iM Tryz.func110⟩
instance(c:Int):LH (R:=Int) (zVw c) [2] [] (fun a=>[(0,I a.1),(1,I a.2.1),(7,I a.2.2)]) (.xe 0 [2] fun b=>[(7,I b)]):=⟨⟩
instance t_a9:FI J0 330 (∀(a b c:Int),FnK J0 330 [I a,I b,I c] (fun r=>[I r]) (fun _=>[]) (zVx a b c)):=⟨Tryz.call330,fun a b c=>iM Tryz.func330⟩
instance(b:ByteArray):LH (R:=Int) (zV4 b) [0] [] (fun a=>[(3,I a.1),(4,I a.2)]) (.xs (.xe 0 [0] fun c=>[(3,I c)]) .xr):=⟨⟩
instance(c:ByteArray):LH (R:=Int) (zV5 c) [0] [] (fun b=>[(3,I b.1),(4,I b.2)]) (.xs (.xe 0 [0] fun a=>[(3,I a)]) .xr):=⟨⟩
instance t_aC:FI J0 339 (∀(a:ByteArray),FnK J0 339 [Str a] (fun r=>[I r]) (fun _=>[]) (zXD a)):=⟨Tryz.call339,fun a=>iM Tryz.func339⟩
instance:HS Tryz.f345.8 [(2,2,0,.tr 3 6),(0,25,0,.tr 21 3),(2,7,0,.tr 3 25)]:=⟨⟩
instance(b:List Int)(c:(List Int)×Int):LH (R:=(List Int)) (zV9 b c) [0,4] [] (fun a=>[(3,L 1 I a.1),(5,I a.2)]) (.xe 2 [] fun d=>[(3,L 1 I d)]):=⟨⟩
instance(b:List Int):LH (R:=(List Int)) (zQu b) [0] [] (fun a=>[(3,L 1 I a.1),(4,I a.2)]) (.xe 0 [0] fun c=>[(3,L 1 I c)]):=⟨⟩
instance t_at:FI J0 345 (∀(a:List Int),FnK J0 345 [T.ro (lV a)] (fun r=>[lV r]) (fun _=>[]) (zVA a)):=⟨Tryz.call345,fun a=>iM Tryz.func345⟩
instance:HS Tryz.f299.8 [(2,3,0,.tr 8 15)]:=⟨⟩
instance(g_a:SPr→Int→(List Int)→(List Int)→Option (List Int))(c:SPr)(d:Int)(e:List Int)(f:(List Int)×Int):LH (R:=(List Int)) (zUd g_a c d e f) [1,2,3,7,9] [] (fun b=>[(8,L 1 I b.1),(10,I b.2)]) (.xe 2 [] fun a=>[(8,L 1 I a)]):=⟨⟩
instance(g_a:SPr→Int→(List Int)→(List Int)→Option (List Int))(c:SPr)(d:Int)(e:List Int):LH (R:=(List Int)) (zUe g_a c d e) [1,2,3,7] [] (fun b=>[(8,L 1 I b.1),(9,I b.2)]) (.xe 0 [1,2,3,7] fun a=>[(8,L 1 I a)]):=⟨⟩
theorem yEo{g_a:SPr→Int→(List Int)→(List Int)→Option (List Int)}[FI J0 247 (∀(x0:SPr)(x1:Int)(x2:List Int)(x3:List Int),FnK J0 247 [qPr x0,I x1,T.ro (lV x2),T.ro (lV x3)] (fun r:(List Int)=>[lV r]) (fun _=>[]) (g_a x0 x1 x2 x3))]:∀(x0:SPr)(x1:Int)(x2:List Int),FnK J0 299 [qPr x0,I x1,T.ro (lV x2)] (fun r:(List Int)=>[lV r]) (fun _=>[]) (b_e g_a x0 x1 x2):=fun x0 x1 x2=>iM Tryz.func299
theorem yEp{g_a:SPr→Int→(List Int)→(List Int)→Option (List Int)}(H_a:∀(x0:SPr)(x1:Int)(x2:List Int)(x3:List Int) r,g_a x0 x1 x2 x3=dJ r→FnC J0 247 [qPr x0,I x1,T.ro (lV x2),T.ro (lV x3)] [lV r] [])(x0:SPr)(x1:Int)(x2:List Int)(r:(List Int))(h:b_e g_a x0 x1 x2=dJ r):FnC J0 299 [qPr x0,I x1,T.ro (lV x2)] [lV r] []:=by have:FI J0 247 (∀(x0:SPr)(x1:Int)(x2:List Int)(x3:List Int),FnK J0 247 [qPr x0,I x1,T.ro (lV x2),T.ro (lV x3)] (fun r:(List Int)=>[lV r]) (fun _=>[]) (g_a x0 x1 x2 x3)):=⟨Tryz.call247,fun x0 x1 x2 x3=>FnK.mk (H_a x0 x1 x2 x3)⟩;exact(yEo x0 x1 x2).go h
instance t_a4:FI J0 269 (∀(a:SPr),FnK J0 269 [qPr a] (fun r=>[I r]) (fun _=>[]) (zLj a)):=⟨Tryz.call269,fun a=>iM Tryz.func269⟩
instance t_bL:FI J0 162 (∀(a b:Int),FnK J0 162 [I a,I b] (fun r=>[I r]) (fun _=>[]) (zUM a b)):=⟨Tryz.call162,fun a b=>iM Tryz.func162⟩
instance t_bj:FI J0 321 (∀(a:zN),FnK J0 321 [xG a] (fun r=>[xS r]) (fun _=>[]) (zNn a)):=⟨Tryz.call321,fun a=>iM Tryz.func321⟩
instance t_bx:FI J0 326 (∀(a:zN)(b:Int),FnK J0 326 [xG a,I b] (fun r=>[(fun x=>T.agg [(Ro lV) x.x,(Ro lV) x.v]) r]) (fun _=>[]) (zO4 a b)):=⟨Tryz.call326,fun a b=>iM Tryz.func326⟩
instance(a b:Int):LH (R:=Int) (zNg a b) [0,1] [] (fun c=>[(5,I c)]) (.xs (.xe 0 [0,1] fun _=>[]) .xr):=⟨⟩
instance t_aO:FI J0 252 (∀(a b:Int),FnK J0 252 [I a,I b] (fun r=>[I r]) (fun _=>[]) (zXt a b)):=⟨Tryz.call252,fun a b=>iM Tryz.func252⟩
instance t_aD:FI J0 114 (∀(a b c:Int),FnK J0 114 [I a,I b,I c] (fun r=>[B r]) (fun _=>[]) (zLe a b c)):=⟨Jau,fun a b c=>iM Tryz.func114⟩
instance(a:SPr)(b:List Int):LH (R:=Bool) (zQk a b) [0,15,16] [] (fun c=>[(17,I c)]) (.xs (.xe 0 [0,15,16] fun _=>[]) .xr):=⟨⟩
instance t_aY:FI J0 131 (∀(a:SPr)(b:List Int),FnK J0 131 [T.ro ((Pt wH) a),T.ro (lV b)] (fun r=>[B r]) (fun _=>[]) (zXl a b)):=⟨Tryz.call131,fun a b=>iM Tryz.func131⟩
instance(a b:List Int):LH (R:=Bool) (zUz a b) [0,1,12] [] (fun c=>[(13,I c)]) (.xs (.xe 0 [0,1,12] fun _=>[]) .xr):=⟨⟩
instance t_ar:FI J0 225 (∀(a b:List Int),FnK J0 225 [T.ro (lV a),T.ro (lV b)] (fun r=>[B r]) (fun _=>[]) (zIV a b)):=⟨Tryz.call225,fun a b=>iM Tryz.func225⟩
instance t_bs:FI J0 160 (∀(a:zC)(b:Int),FnK J0 160 [T.ro ((Pt wB) a),I b] (fun r=>[(fun x=>T.agg [I x.Prime,I x.tD,(Ro lM) x.Rows]) r]) (fun _=>[]) (zRo a b)):=⟨Tryz.call160,fun a b=>iM Tryz.func160⟩
instance(a:List Int)(b:Int):LH (R:=Bool) (zQl a b) [1,13,14] [] (fun c=>[(15,I c)]) (.xs (.xe 0 [1,13,14] fun _=>[]) .xr):=⟨⟩
instance t_aN:FI J0 132 (∀(a:List Int)(b c:Int),FnK J0 132 [T.ro (lV a),I b,I c] (fun r=>[B r]) (fun _=>[]) (zU8 a b c)):=⟨Tryz.call132,fun a b c=>iM Tryz.func132⟩
instance:HS Tryz.f135.8 [(0,20,0,.tr 16 3),(2,8,0,.tr 3 20)]:=⟨⟩
instance(b:(List Int)×Int)(c:Int):LH (R:=(List Int)) (zUA b c) [4,6,7,8,13] [] (fun a=>[(3,L 1 I a.1),(14,I a.2)]) (.xe 2 [4,13] fun d=>[(3,L 1 I d)]):=⟨⟩
instance(b:List Int):LH (R:=(List Int)) (zUB b) [6,7] [] (fun a=>[(3,L 1 I a.1),(8,I a.2)]) (.xe 0 [6,7] fun c=>[(3,L 1 I c)]):=⟨⟩
instance t_O:FI J0 135 (∀(a:List Int),FnK J0 135 [T.ro (lV a)] (fun r=>[lV r]) (fun _=>[]) (f_O a)):=⟨Tryz.call135,fun a=>iM Tryz.func135⟩
instance(a:List (List Int))(b:List (List Int)):LH (R:=Bool) (zUG a b) [1,2,15,16] [] (fun c=>[(17,I c)]) (.xs (.xe 0 [1,2,15,16] fun _=>[]) .xr):=⟨⟩
instance t_bt:FI J0 293 (∀(a:List (List Int))(b:List (List Int)),FnK J0 293 [T.ro (lM a),T.ro (lM b),T.lit (.func (.func 225) #[] #[])] (fun r=>[B r]) (fun _=>[]) (yAO a b)):=⟨Tryz.call293,fun a b=>iM Tryz.func293⟩
instance t_bK:FI J0 235 (∀(a:List (List Int))(b:List (List Int)),FnK J0 235 [T.ro (lM a),T.ro (lM b)] (fun r=>[B r]) (fun _=>[]) (zXq a b)):=⟨Tryz.call235,fun a b=>iM Tryz.func235⟩
instance(a:zC)(b:List (List Int)):LH (R:=Bool) (zQo a b) [0,7,8] [] (fun c=>[(9,I c)]) (.xs (.xe 0 [0,7,8] fun _=>[]) .xr):=⟨⟩
instance t_bi:FI J0 237 (∀(a:zC)(b:List (List Int)),FnK J0 237 [T.ro ((Pt wB) a),T.ro (lM b)] (fun r=>[B r]) (fun _=>[]) (yAS a b)):=⟨Tryz.call237,fun a b=>iM Tryz.func237⟩
instance(a b:List Int):LH (R:=Bool) (zZj a b) [0,1] [] (fun c=>[(5,I c)]) (.xs (.xe 0 [0,1] fun _=>[]) .xr):=⟨⟩
instance t_bo:FI J0 36 (∀(a b:List Int),FnK J0 36 [T.ro (lV a),T.ro (lV b)] (fun r=>[B r]) (fun _=>[]) (zVP a b)):=⟨Tryz.call36,fun a b=>iM Tryz.func36⟩
instance(a:List (List Int))(b:List (List Int)):LH (R:=Bool) (zVQ a b) [0,1] [] (fun c=>[(5,I c)]) (.xs (.xe 0 [0,1] fun _=>[]) .xr):=⟨⟩
instance t_aI:FI J0 21 (∀(a:List (List Int))(b:List (List Int)),FnK J0 21 [T.ro (lM a),T.ro (lM b)] (fun r=>[B r]) (fun _=>[]) (zOB a b)):=⟨Tryz.call21,fun a b=>iM Tryz.func21⟩
instance(a:List (List (List Int)))(b:List (List (List Int))):LH (R:=Bool) (zVS a b) [0,1] [] (fun c=>[(5,I c)]) (.xs (.xe 0 [0,1] fun _=>[]) .xr):=⟨⟩
instance t_bq:FI J0 122 (∀(a:List (List (List Int)))(b:List (List (List Int))),FnK J0 122 [T.ro (lC a),T.ro (lC b)] (fun r=>[B r]) (fun _=>[]) (zYk a b)):=⟨Tryz.call122,fun a b=>iM Tryz.func122⟩
end
end Go.Wk
