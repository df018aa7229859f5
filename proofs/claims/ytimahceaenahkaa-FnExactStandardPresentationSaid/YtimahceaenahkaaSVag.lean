/- x -/
import Derived.Test.YtimahceaenahkaaSVaa
import Derived.Test.YtimahceaenahkaaSWT
open Go.Proofs.Try renaming prog→J0
open Option renaming some→df,none→dg
open Bool renaming true→dh,false→di
namespace Go.Wk
open Go Go.Proofs Go.Ab
set_option maxRecDepth 100000
set_option maxHeartbeats 4000000
section
attribute [local irreducible] RW CW DK OkL Ok zW yB yY xP XS.post rng wA wF ixO zS yQ xC yF zC GTo zF FnC FnK xU wM Kp BsL BuL RpL Bk Lc JQ AK
instance:HS Try.f73.8 [(2,5,0,.tr 10 25),(2,5,1,.tr 11 27),(2,9,0,.tr 10 45),(2,12,0,.tr 13 51),(2,16,0,.tr 13 84),(2,17,0,.tr 15 86)]:=⟨⟩
instance(g_e:SPr→Int→(List Int)→Option (List Int))(b:SPr)(c:Int)(d:List Int):LH (R:=(List Int)) (zMS g_e b c d) [1,2,3,4,11] [] (fun a=>[(10,L 1 I a.1),(12,I a.2)]) (.xe 0 [] fun e=>[(10,L 1 I e)]):=⟨⟩
theorem zR6{g_e:SPr→Int→(List Int)→Option (List Int)}[FI J0 86 (∀(x0:SPr)(x1:Int)(x2:List Int),FnK J0 86 [qPr x0,I x1,T.ro (lV x2)] (fun r:(List Int)=>[lV r]) (fun _=>[]) (g_e x0 x1 x2))]{g_a:SPr→Int→(List Int)→(List Int)→Option (List Int)}[FI J0 73 (∀(x0:SPr)(x1:Int)(x2:List Int)(x3:List Int),FnK J0 73 [qPr x0,I x1,T.ro (lV x2),T.ro (lV x3)] (fun r:(List Int)=>[lV r]) (fun _=>[]) (g_a x0 x1 x2 x3))]:∀(x0:SPr)(x1:Int)(x2:List Int)(x3:List Int),FnK J0 73 [qPr x0,I x1,T.ro (lV x2),T.ro (lV x3)] (fun r:(List Int)=>[lV r]) (fun _=>[]) (b_a g_e g_a x0 x1 x2 x3):=fun x0 x1 x2 x3=>iM Try.func73
theorem zR7{g_e:SPr→Int→(List Int)→Option (List Int)}(H_e:∀(x0:SPr)(x1:Int)(x2:List Int) r,g_e x0 x1 x2=df r→FnC J0 86 [qPr x0,I x1,T.ro (lV x2)] [lV r] []){g_a:SPr→Int→(List Int)→(List Int)→Option (List Int)}(H_a:∀(x0:SPr)(x1:Int)(x2:List Int)(x3:List Int) r,g_a x0 x1 x2 x3=df r→FnC J0 73 [qPr x0,I x1,T.ro (lV x2),T.ro (lV x3)] [lV r] [])(x0:SPr)(x1:Int)(x2:List Int)(x3:List Int)(r:(List Int))(h:b_a g_e g_a x0 x1 x2 x3=df r):FnC J0 73 [qPr x0,I x1,T.ro (lV x2),T.ro (lV x3)] [lV r] []:=by have:FI J0 86 (∀(x0:SPr)(x1:Int)(x2:List Int),FnK J0 86 [qPr x0,I x1,T.ro (lV x2)] (fun r:(List Int)=>[lV r]) (fun _=>[]) (g_e x0 x1 x2)):=⟨Try.call86,fun x0 x1 x2=>FnK.mk (H_e x0 x1 x2)⟩;have:FI J0 73 (∀(x0:SPr)(x1:Int)(x2:List Int)(x3:List Int),FnK J0 73 [qPr x0,I x1,T.ro (lV x2),T.ro (lV x3)] (fun r:(List Int)=>[lV r]) (fun _=>[]) (g_a x0 x1 x2 x3)):=⟨Try.call73,fun x0 x1 x2 x3=>FnK.mk (H_a x0 x1 x2 x3)⟩;exact(zR6 x0 x1 x2 x3).go h
instance:HS Try.f34.8 [(0,23,0,.trq 19 4 [1,0]),(2,8,0,.tr 6 25),(0,38,0,.tr 33 6),(2,10,0,.tr 6 38),(0,42,0,.tr 41 6),(0,43,0,.trq 40 4 [2,0]),(1,2,0,.trf 45 0 4 [0,0]),(1,2,1,.trf 45 1 4 [1,0]),(1,2,2,.trf 45 2 4 [2,0])]:=⟨⟩
instance(b:List Int):LH (R:=SPr) (zLE b) [2,3,4,5] [] (fun a=>[(6,L 1 lV a.1),(7,I a.2)]) (.xe 2 [] fun c=>[(6,L 1 lV c)]):=⟨⟩
instance(a:List Int):LN (zH8 a) 4:=⟨⟩
instance(c:List Int)(A0 A1 A2:T):LHk (R:=SPr) (zH8 c) (T.ptr (T.agg [A0,A1,A2])) [2,3] [] (fun b=>[(4,T.ptr (T.agg [A0,L 1 lV b.1,L 1 lM b.2.1])),(5,I b.2.2)]) (.xe 0 [3] fun a=>[(4,T.ptr (T.agg [A0,L 1 lV a.1,L 1 lM a.2]))]):=⟨⟩
instance t_r:FI J0 34 (∀(a:List Int),FnK J0 34 [T.ro (lV a)] (fun r=>[wH r]) (fun _=>[]) (f_r a)):=⟨Try.call34,fun a=>iM Try.func34⟩
instance:HS Try.f36.8 [(2,2,0,.tr 5 8)]:=⟨⟩
instance(b:SPr):LH (R:=(List Int)) (zPh b) [2] [] (fun a=>[(1,I a.1),(5,L 1 I a.2.1),(6,I a.2.2)]) (.xe 0 [2] fun c=>[(5,L 1 I c)]):=⟨⟩
instance t_J:FI J0 36 (∀(a:SPr)(b:Int),FnK J0 36 [qPr a,I b] (fun r=>[lV r]) (fun _=>[]) (f_J a b)):=⟨Try.call36,fun a b=>iM Try.func36⟩
end
end Go.Wk
