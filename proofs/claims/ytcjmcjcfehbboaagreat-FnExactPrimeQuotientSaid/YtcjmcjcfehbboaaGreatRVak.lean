/- x -/
import Derived.Test.YtcjmcjcfehbboaaGreatRVaa
import Derived.Test.YtcjmcjcfehbboaaGreatRVaf
import Derived.Test.YtcjmcjcfehbboaaGreatRVaj
import Derived.Test.YtcjmcjcfehbboaaGreatRWT
open Go.Proofs.Tryz renaming prog->J1
open Option renaming some->Wu,none->Wv
open Bool renaming true->Ww,false->Wx
namespace Go.Wk
open Go Go.Proofs Go.Ab
set_option maxRecDepth 100000
set_option maxHeartbeats 4000000
section
attribute [local irreducible] RW CW DK OkL Ok yX xC wK wY XS.post rng vP vL ixO zT yR wN yO zF GTo zI FnC FnK vB uC Kp Lk BsL BuL RpL Bk Lc
instance:HS Tryz.f98.8 [(2,2,0,.tr 5 9),(2,3,0,.tr 6 12)]:=⟨⟩
instance(c:SPr)(d:(List Int)×(List Int)×Int):LH (R:=(List Int)) (zR2 c d) [0,7,14,15] [] (fun a=>[(5,L 1 I a.1),(6,L 1 I a.2)]) (.xe 2 [7] fun b=>[(5,L 1 I b.1),(6,L 1 I b.2)]):=⟨⟩
instance(b:SPr)(c:(List Int)):LH (R:=(List Int)) (zVm b c) [0,14] [] (fun a=>[(5,L 1 I a.1),(6,L 1 I a.2.1),(15,I a.2.2)]) (.xe 0 [0,14] fun d=>[(6,L 1 I d)]):=⟨⟩
instance t_B:FI J1 98 (∀(a:SPr)(b:List Int),FnK J1 98 [T.ro ((Pt yM) a),T.ro (lV b)] (fun r=>[lV r]) (fun _=>[]) (f_B a b)):=⟨Tryz.call98,fun a b=>iM Tryz.func98⟩
instance:HS Tryz.f104.8 [(2,2,0,.tr 7 10)]:=⟨⟩
instance(b:SPr)(c:List Int)(d:Int):LH (R:=(List Int)) (zVl b c d) [0,1,11] [] (fun a=>[(7,L 1 I a.1),(12,I a.2)]) (.xe 0 [0,1,11] fun e=>[(7,L 1 I e)]):=⟨⟩
instance t_Q:FI J1 104 (∀(a:SPr)(b:List Int)(c:Int),FnK J1 104 [T.ro ((Pt yM) a),T.ro (lV b),I c] (fun r=>[lV r]) (fun _=>[]) (f_Q a b c)):=⟨Tryz.call104,fun a b c=>iM Tryz.func104⟩
instance:HS Tryz.f57.8 [(2,2,0,.tr 7 9)]:=⟨⟩
instance t_ag:FI J1 57 (∀(a:SPr)(b c:List Int),FnK J1 57 [T.ro ((Pt yM) a),T.ro (lV b),T.ro (lV c)] (fun r=>[lV r]) (fun _=>[]) (zI5 a b c)):=⟨Tryz.call57,fun a b c=>iM Tryz.func57⟩
instance t_n:FI J1 72 (∀(a:SPr)(b c:List Int),FnK J1 72 [qPr a,T.ro (lV b),T.ro (lV c)] (fun r=>[lV r]) (fun _=>[]) (f_n a b c)):=⟨Tryz.call72,fun a b c=>iM Tryz.func72⟩
instance:HS Tryz.f154.8 [(2,5,0,.tr 8 20),(2,7,0,.tr 9 28),(2,10,0,.tr 10 36)]:=⟨⟩
theorem yEo{g_i:SPr->Int->(List Int)->Option (List Int)}[FI J1 154 (∀(x0:SPr)(x1:Int)(x2:List Int),FnK J1 154 [qPr x0,I x1,T.ro (lV x2)] (fun r:(List Int)=>[lV r]) (fun _=>[]) (g_i x0 x1 x2))]:∀(x0:SPr)(x1:Int)(x2:List Int),FnK J1 154 [qPr x0,I x1,T.ro (lV x2)] (fun r:(List Int)=>[lV r]) (fun _=>[]) (b_i g_i x0 x1 x2):=fun x0 x1 x2=>iM Tryz.func154
theorem yEp{g_i:SPr->Int->(List Int)->Option (List Int)}(H_i:∀(x0:SPr)(x1:Int)(x2:List Int) r,g_i x0 x1 x2=Wu r->FnC J1 154 [qPr x0,I x1,T.ro (lV x2)] [lV r] [])(x0:SPr)(x1:Int)(x2:List Int)(r:(List Int))(h:b_i g_i x0 x1 x2=Wu r):FnC J1 154 [qPr x0,I x1,T.ro (lV x2)] [lV r] []:=by have:FI J1 154 (∀(x0:SPr)(x1:Int)(x2:List Int),FnK J1 154 [qPr x0,I x1,T.ro (lV x2)] (fun r:(List Int)=>[lV r]) (fun _=>[]) (g_i x0 x1 x2)):=⟨Tryz.call154,fun x0 x1 x2=>FnK.mk (H_i x0 x1 x2)⟩;exact(yEo x0 x1 x2).go h
instance:HS Tryz.f155.8 [(2,2,0,.tr 9 14),(2,6,0,.tr 9 25),(2,7,0,.tr 10 30)]:=⟨⟩
instance(b:SPr)(c:Int):LH (R:=(List Int)) (zQm b c) [1,4] [] (fun a=>[(3,I a.1),(9,L 1 I a.2.1),(10,T.ro (lV a.2.2))]) (.xe 0 [1,4] fun d=>[(9,L 1 I d)]):=⟨⟩
instance t_az:FI J1 155 (∀(a:SPr)(b:Int)(c:List Int)(d:Int),FnK J1 155 [qPr a,I b,T.ro (lV c),I d] (fun r=>[lV r]) (fun _=>[]) (zVf a b c d)):=⟨Tryz.call155,fun a b c d=>iM Tryz.func155⟩
end
end Go.Wk
