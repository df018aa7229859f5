/- x -/
import Derived.Test.YtimahceaenahkaaSWT
open Go.Proofs.Try renaming prog→J0
open Option renaming some→df,none→dg
open Bool renaming true→dh,false→di
namespace Go.Wk
open Go Go.Proofs Go.Ab
set_option maxRecDepth 100000
set_option maxHeartbeats 4000000
section
attribute [local irreducible] RW CW DK OkL Ok zW yB yY xP XS.post rng wA wF ixO zS yQ xC yF zC GTo zF FnC FnK xU wM Kp BsL BuL RpL Bk Lc JQ AK
instance t_A:FI J0 40 (∀(a:List Int),FnK J0 40 [T.ro (lV a)] (fun r=>[lV r]) (fun _=>[]) (f_A a)):=⟨Try.call40,fun a=>iM Try.func40⟩
instance:HS Try.f86.8 [(2,3,0,.tr 8 15)]:=⟨⟩
instance(g_a:SPr→Int→(List Int)→(List Int)→Option (List Int))(c:SPr)(d:Int)(e:List Int)(f:(List Int)×Int):LH (R:=(List Int)) (zLc g_a c d e f) [1,2,3,7,9] [] (fun b=>[(8,L 1 I b.1),(10,I b.2)]) (.xe 2 [] fun a=>[(8,L 1 I a)]):=⟨⟩
instance(g_a:SPr→Int→(List Int)→(List Int)→Option (List Int))(c:SPr)(d:Int)(e:List Int):LH (R:=(List Int)) (zLd g_a c d e) [1,2,3,7] [] (fun b=>[(8,L 1 I b.1),(9,I b.2)]) (.xe 0 [1,2,3,7] fun a=>[(8,L 1 I a)]):=⟨⟩
theorem zRz{g_a:SPr→Int→(List Int)→(List Int)→Option (List Int)}[FI J0 73 (∀(x0:SPr)(x1:Int)(x2:List Int)(x3:List Int),FnK J0 73 [qPr x0,I x1,T.ro (lV x2),T.ro (lV x3)] (fun r:(List Int)=>[lV r]) (fun _=>[]) (g_a x0 x1 x2 x3))]:∀(x0:SPr)(x1:Int)(x2:List Int),FnK J0 86 [qPr x0,I x1,T.ro (lV x2)] (fun r:(List Int)=>[lV r]) (fun _=>[]) (b_e g_a x0 x1 x2):=fun x0 x1 x2=>iM Try.func86
theorem zR0{g_a:SPr→Int→(List Int)→(List Int)→Option (List Int)}(H_a:∀(x0:SPr)(x1:Int)(x2:List Int)(x3:List Int) r,g_a x0 x1 x2 x3=df r→FnC J0 73 [qPr x0,I x1,T.ro (lV x2),T.ro (lV x3)] [lV r] [])(x0:SPr)(x1:Int)(x2:List Int)(r:(List Int))(h:b_e g_a x0 x1 x2=df r):FnC J0 86 [qPr x0,I x1,T.ro (lV x2)] [lV r] []:=by have:FI J0 73 (∀(x0:SPr)(x1:Int)(x2:List Int)(x3:List Int),FnK J0 73 [qPr x0,I x1,T.ro (lV x2),T.ro (lV x3)] (fun r:(List Int)=>[lV r]) (fun _=>[]) (g_a x0 x1 x2 x3)):=⟨Try.call73,fun x0 x1 x2 x3=>FnK.mk (H_a x0 x1 x2 x3)⟩;exact(zRz x0 x1 x2).go h
instance:HS Try.f53.8 [(2,2,0,.tr 5 7)]:=⟨⟩
instance t_au:FI J0 53 (∀(a b:Int),FnK J0 53 [I a,I b] (fun r=>[lV r]) (fun _=>[]) (zLe a b)):=⟨Try.call53,fun a b=>iM Try.func53⟩
instance(b:SPr):LH (R:=Int) (zPf b) [1] [] (fun a=>[(3,I a.1),(4,I a.2)]) (.xe 0 [1] fun c=>[(3,I c)]):=⟨⟩
instance t_t:FI J0 15 (∀(a:SPr),FnK J0 15 [qPr a] (fun r=>[I r]) (fun _=>[]) (f_t a)):=⟨Try.call15,fun a=>iM Try.func15⟩
instance t_ag:FI J0 35 (∀(a:SPr),FnK J0 35 [qPr a] (fun r=>[lV r]) (fun _=>[]) (zGH a)):=⟨Try.call35,fun a=>iM Try.func35⟩
instance(b:SPr)(c:List Int):LH (R:=Int) (zLG b c) [1,2] [] (fun a=>[(5,I a.1),(6,I a.2)]) (.xe 0 [1,2] fun d=>[(5,I d)]):=⟨⟩
instance t_B:FI J0 54 (∀(a:SPr)(b:List Int),FnK J0 54 [qPr a,T.ro (lV b)] (fun r=>[I r]) (fun _=>[]) (f_B a b)):=⟨Try.call54,fun a b=>iM Try.func54⟩
instance(a b:List Int):LH (R:=Bool) (zJm a b) [0,1] [] (fun c=>[(5,I c)]) (.xs (.xe 0 [] fun _=>[]) .xr):=⟨⟩
instance t_G:FI J0 38 (∀(a b:List Int),FnK J0 38 [T.ro (lV a),T.ro (lV b)] (fun r=>[B r]) (fun _=>[]) (f_G a b)):=⟨Try.call38,fun a b=>iM Try.func38⟩
end
end Go.Wk
