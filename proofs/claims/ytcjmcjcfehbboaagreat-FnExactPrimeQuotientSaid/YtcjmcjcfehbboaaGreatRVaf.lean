/- x -/
import Derived.Test.YtcjmcjcfehbboaaGreatRVaa
import Derived.Test.YtcjmcjcfehbboaaGreatRWT
open Go.Proofs.Tryz renaming prog->J1
open Option renaming some->Wu,none->Wv
open Bool renaming true->Ww,false->Wx
namespace Go.Wk
open Go Go.Proofs Go.Ab
set_option maxRecDepth 100000
set_option maxHeartbeats 4000000
section
attribute [local irreducible] RW CW DK OkL Ok yX xC wK wY XS.post rng vP vL ixO zT yR wN yO zF GTo zI FnC FnK vB uC Kp Lk BsL BuL RpL Bk Lc
instance:HS Tryz.f146.8 [(2,1,0,.tr 6 14),(3,2,0,.tr 58 6)]:=⟨⟩
instance(b:Int)(c:(List Int)):LH (R:=(List Int)) (zVh b c) [0,2,6,16] [] (fun a=>[(1,L 1 I a.1),(17,I a.2)]) (.xe 0 [16] fun d=>[(1,L 1 I d)]):=⟨⟩
instance(g_b:SPr->(List Int)->(List Int)->Option (List Int))(d:SPr)(e:Int)(f:(List Int)×Int)(a:Int):LH (R:=(List Int)) (yAD g_b d e f a) [0,2,8,58,59,60,65] [] (fun c=>[(1,L 1 I c.1),(66,I c.2)]) (.xe 4 [8,65] fun b=>[(1,L 1 I b)]):=⟨⟩
instance(g_b:SPr->(List Int)->(List Int)->Option (List Int))(c:SPr)(d:Int)(e:(List Int)):LH (R:=(List Int)) (yAE g_b c d e) [0,2,58,59] [] (fun b=>[(1,L 1 I b.1),(60,I b.2)]) (.xe 2 [0,2,58,59] fun a=>[(1,L 1 I a)]):=⟨⟩
instance(g_b:SPr->(List Int)->(List Int)->Option (List Int))(e:SPr)(f:Int)(b:(List Int)×Int)(c:Int):LH (R:=(List Int)) (yAF g_b e f b c) [0,2,8,58,59,60,65] [] (fun a=>[(1,L 1 I a.1),(66,I a.2)]) (.xe 4 [8,65] fun d=>[(1,L 1 I d)]):=⟨⟩
instance(g_b:SPr->(List Int)->(List Int)->Option (List Int))(c:SPr)(d:Int)(e:(List Int)):LH (R:=(List Int)) (yAG g_b c d e) [0,2,58,59] [] (fun a=>[(1,L 1 I a.1),(60,I a.2)]) (.xe 2 [0,2,58,59] fun b=>[(1,L 1 I b)]):=⟨⟩
theorem yEj{g_b:SPr->(List Int)->(List Int)->Option (List Int)}[FI J1 99 (∀(x0:SPr)(x1:List Int)(x2:List Int),FnK J1 99 [T.ro ((Pt yM) x0),L 1 I x1,T.ro (lV x2)] (fun _:(List Int)=>[]) (fun r=>[(1,lV r)]) (g_b x0 x1 x2))]:∀(x0:SPr)(x1:List Int)(x2:Int),FnK J1 146 [T.ro ((Pt yM) x0),L 1 I x1,I x2] (fun _:(List Int)=>[]) (fun r=>[(1,lV r)]) (b_c g_b x0 x1 x2):=fun x0 x1 x2=>iM Tryz.func146
theorem yEk{g_b:SPr->(List Int)->(List Int)->Option (List Int)}(H_b:∀(x0:SPr)(x1:List Int)(x2:List Int) r,g_b x0 x1 x2=Wu r->FnC J1 99 [T.ro ((Pt yM) x0),L 1 I x1,T.ro (lV x2)] [] [(1,lV r)])(x0:SPr)(x1:List Int)(x2:Int)(r:(List Int))(h:b_c g_b x0 x1 x2=Wu r):FnC J1 146 [T.ro ((Pt yM) x0),L 1 I x1,I x2] [] [(1,lV r)]:=by have:FI J1 99 (∀(x0:SPr)(x1:List Int)(x2:List Int),FnK J1 99 [T.ro ((Pt yM) x0),L 1 I x1,T.ro (lV x2)] (fun _:(List Int)=>[]) (fun r=>[(1,lV r)]) (g_b x0 x1 x2)):=⟨Tryz.call99,fun x0 x1 x2=>FnK.mk (H_b x0 x1 x2)⟩;exact(yEj x0 x1 x2).go h
instance:HS Tryz.f115.8 [(2,2,0,.tr 7 9)]:=⟨⟩
instance t_aW:FI J1 115 (∀(a:SPr)(b c:Int),FnK J1 115 [qPr a,I b,I c] (fun r=>[lV r]) (fun _=>[]) (zNm a b c)):=⟨Tryz.call115,fun a b c=>iM Tryz.func115⟩
instance:HS Tryz.f126.8 [(2,5,0,.tr 10 25),(2,5,1,.tr 11 27),(2,9,0,.tr 10 45),(2,12,0,.tr 13 51),(2,16,0,.tr 13 84),(2,17,0,.tr 15 86)]:=⟨⟩
instance(g_h:SPr->Int->(List Int)->Option (List Int))(b:SPr)(c:Int)(d:List Int):LH (R:=(List Int)) (zX9 g_h b c d) [1,2,3,4,11] [] (fun a=>[(10,L 1 I a.1),(12,I a.2)]) (.xe 0 [] fun e=>[(10,L 1 I e)]):=⟨⟩
theorem yEl{g_h:SPr->Int->(List Int)->Option (List Int)}[FI J1 156 (∀(x0:SPr)(x1:Int)(x2:List Int),FnK J1 156 [qPr x0,I x1,T.ro (lV x2)] (fun r:(List Int)=>[lV r]) (fun _=>[]) (g_h x0 x1 x2))]{g_a:SPr->Int->(List Int)->(List Int)->Option (List Int)}[FI J1 126 (∀(x0:SPr)(x1:Int)(x2:List Int)(x3:List Int),FnK J1 126 [qPr x0,I x1,T.ro (lV x2),T.ro (lV x3)] (fun r:(List Int)=>[lV r]) (fun _=>[]) (g_a x0 x1 x2 x3))]:∀(x0:SPr)(x1:Int)(x2:List Int)(x3:List Int),FnK J1 126 [qPr x0,I x1,T.ro (lV x2),T.ro (lV x3)] (fun r:(List Int)=>[lV r]) (fun _=>[]) (b_a g_h g_a x0 x1 x2 x3):=fun x0 x1 x2 x3=>iM Tryz.func126
theorem yEm{g_h:SPr->Int->(List Int)->Option (List Int)}(H_h:∀(x0:SPr)(x1:Int)(x2:List Int) r,g_h x0 x1 x2=Wu r->FnC J1 156 [qPr x0,I x1,T.ro (lV x2)] [lV r] []){g_a:SPr->Int->(List Int)->(List Int)->Option (List Int)}(H_a:∀(x0:SPr)(x1:Int)(x2:List Int)(x3:List Int) r,g_a x0 x1 x2 x3=Wu r->FnC J1 126 [qPr x0,I x1,T.ro (lV x2),T.ro (lV x3)] [lV r] [])(x0:SPr)(x1:Int)(x2:List Int)(x3:List Int)(r:(List Int))(h:b_a g_h g_a x0 x1 x2 x3=Wu r):FnC J1 126 [qPr x0,I x1,T.ro (lV x2),T.ro (lV x3)] [lV r] []:=by have:FI J1 156 (∀(x0:SPr)(x1:Int)(x2:List Int),FnK J1 156 [qPr x0,I x1,T.ro (lV x2)] (fun r:(List Int)=>[lV r]) (fun _=>[]) (g_h x0 x1 x2)):=⟨Tryz.call156,fun x0 x1 x2=>FnK.mk (H_h x0 x1 x2)⟩;have:FI J1 126 (∀(x0:SPr)(x1:Int)(x2:List Int)(x3:List Int),FnK J1 126 [qPr x0,I x1,T.ro (lV x2),T.ro (lV x3)] (fun r:(List Int)=>[lV r]) (fun _=>[]) (g_a x0 x1 x2 x3)):=⟨Tryz.call126,fun x0 x1 x2 x3=>FnK.mk (H_a x0 x1 x2 x3)⟩;exact(yEl x0 x1 x2 x3).go h
end
end Go.Wk
