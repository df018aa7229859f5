/- x -/
import Derived.Test.YtchnmobojdcikaaGreatRVaa
import Derived.Test.YtchnmobojdcikaaGreatRWT
open Go.Proofs.Tryz renaming prog->J0
open Option renaming some->iW,none->iY
open Bool renaming true->iZ,false->ja
namespace Go.Wk
open Go Go.Proofs Go.Ab
set_option maxRecDepth 100000
set_option maxHeartbeats 4000000
section
attribute [local irreducible] RW CW DK OkL Ok yB yI xF xQ XS.post rng xV xC ixO zL yE yT yD zH GTo zR FnC FnK wA wN Kp Lk BsL BuL RpL Bk Lc JQ AK
instance:HS Tryz.f248.8 [(2,2,0,.tr 3 5),(0,19,0,.tr 12 3),(2,4,0,.tr 3 19)]:=⟨⟩
instance(b:List (List Int)):LH (R:=(List (List Int))) (zK7 b) [0] [] (fun a=>[(3,L 1 lV a.1),(4,I a.2)]) (.xe 0 [0] fun c=>[(3,L 1 lV c)]):=⟨⟩
instance t_ag:FI J0 248 (∀(a:List (List Int)),FnK J0 248 [T.ro (lM a)] (fun r:(List (List Int))=>[lM r]) (fun _=>[]) (zLM a)):=⟨Tryz.call248,fun a=>iM Tryz.func248⟩
instance:HS Tryz.f340.8 [(2,4,0,.tr 6 13),(0,39,0,.tr 36 6),(2,6,0,.tr 6 39),(2,6,1,.tr 6 48),(0,48,0,.tr 44 6)]:=⟨⟩
instance(c:Int)(d:ByteArray):LH (R:=(List Int)×Bool) (zWS c d) [0,1] [] (fun b=>[(6,L 1 I b.1),(7,I b.2)]) (.xs (.xe 0 [0,1] fun a=>[(6,L 1 I a)]) .xr):=⟨⟩
instance t_bv:FI J0 340 (∀(a:Int)(b:ByteArray),FnK J0 340 [I a,Str b] (fun r:(List Int)×Bool=>[lV r.1,B r.2]) (fun _=>[]) (zYX a b)):=⟨Tryz.call340,fun a b=>iM Tryz.func340⟩
end
theorem yF7:∀n,(∀(x0:Int) r,zLO n x0=iW r->FnC J0 342 [I x0] [Str r] []):=by
  intro n
  induction n with
  |zero=>exact(fun _ r h=>by simp[zLO]at h)
  |succ n ih=>exact(fun x0 r h=>yF1 ih x0 r (by simpa[zLO]using h))
theorem u_k(x0:Int)(r:ByteArray)(h:f_k x0=iW r):FnC J0 342 [I x0] [Str r] []:=by obtain⟨n,hn⟩:=kE h;exact(yF7 n) x0 r hn
instance t_k:FI J0 342 (∀(a:Int),FnK J0 342 [I a] (fun r=>[Str r]) (fun _=>[]) (f_k a)):=⟨Tryz.call342,fun a=>FnK.mk (u_k a)⟩
section
attribute [local irreducible] RW CW DK OkL Ok yB yI xF xQ XS.post rng xV xC ixO zL yE yT yD zH GTo zR FnC FnK wA wN Kp Lk BsL BuL RpL Bk Lc JQ AK
instance(a b:List Int)(c:Int):LH (R:=Bool) (zN5 a b c) [0,1,2] [] (fun d=>[(7,I d)]) (.xs (.xe 0 [0,1,2] fun _=>[]) .xr):=⟨⟩
instance t_at:FI J0 200 (∀(a b:List Int)(c:Int),FnK J0 200 [T.ro (lV a),T.ro (lV b),I c] (fun r=>[B r]) (fun _=>[]) (zPg a b c)):=⟨Tryz.call200,fun a b c=>iM Tryz.func200⟩
instance:HS Tryz.f247.8 [(2,5,0,.tr 10 25),(2,5,1,.tr 11 27),(2,9,0,.tr 10 45),(2,12,0,.tr 13 51),(2,16,0,.tr 13 84),(2,17,0,.tr 15 86)]:=⟨⟩
instance(g_e:SPr->Int->(List Int)->Option (List Int))(b:SPr)(c:Int)(d:List Int):LH (R:=(List Int)) (zYw g_e b c d) [1,2,3,4,11] [] (fun a=>[(10,L 1 I a.1),(12,I a.2)]) (.xe 0 [] fun e=>[(10,L 1 I e)]):=⟨⟩
theorem yF8{g_e:SPr->Int->(List Int)->Option (List Int)}[FI J0 299 (∀(x0:SPr)(x1:Int)(x2:List Int),FnK J0 299 [qPr x0,I x1,T.ro (lV x2)] (fun r:(List Int)=>[lV r]) (fun _=>[]) (g_e x0 x1 x2))]{g_a:SPr->Int->(List Int)->(List Int)->Option (List Int)}[FI J0 247 (∀(x0:SPr)(x1:Int)(x2:List Int)(x3:List Int),FnK J0 247 [qPr x0,I x1,T.ro (lV x2),T.ro (lV x3)] (fun r:(List Int)=>[lV r]) (fun _=>[]) (g_a x0 x1 x2 x3))]:∀(x0:SPr)(x1:Int)(x2:List Int)(x3:List Int),FnK J0 247 [qPr x0,I x1,T.ro (lV x2),T.ro (lV x3)] (fun r:(List Int)=>[lV r]) (fun _=>[]) (b_a g_e g_a x0 x1 x2 x3):=fun x0 x1 x2 x3=>iM Tryz.func247
theorem yF9{g_e:SPr->Int->(List Int)->Option (List Int)}(H_e:∀(x0:SPr)(x1:Int)(x2:List Int) r,g_e x0 x1 x2=iW r->FnC J0 299 [qPr x0,I x1,T.ro (lV x2)] [lV r] []){g_a:SPr->Int->(List Int)->(List Int)->Option (List Int)}(H_a:∀(x0:SPr)(x1:Int)(x2:List Int)(x3:List Int) r,g_a x0 x1 x2 x3=iW r->FnC J0 247 [qPr x0,I x1,T.ro (lV x2),T.ro (lV x3)] [lV r] [])(x0:SPr)(x1:Int)(x2:List Int)(x3:List Int)(r:(List Int))(h:b_a g_e g_a x0 x1 x2 x3=iW r):FnC J0 247 [qPr x0,I x1,T.ro (lV x2),T.ro (lV x3)] [lV r] []:=by have:FI J0 299 (∀(x0:SPr)(x1:Int)(x2:List Int),FnK J0 299 [qPr x0,I x1,T.ro (lV x2)] (fun r:(List Int)=>[lV r]) (fun _=>[]) (g_e x0 x1 x2)):=⟨Tryz.call299,fun x0 x1 x2=>FnK.mk (H_e x0 x1 x2)⟩;have:FI J0 247 (∀(x0:SPr)(x1:Int)(x2:List Int)(x3:List Int),FnK J0 247 [qPr x0,I x1,T.ro (lV x2),T.ro (lV x3)] (fun r:(List Int)=>[lV r]) (fun _=>[]) (g_a x0 x1 x2 x3)):=⟨Tryz.call247,fun x0 x1 x2 x3=>FnK.mk (H_a x0 x1 x2 x3)⟩;exact(yF8 x0 x1 x2 x3).go h
instance(a:Int)(b:List Int):LH (R:=Bool) (zRl a b) [0,2] [] (fun c=>[(7,I c)]) (.xs (.xe 0 [0,2] fun _=>[]) .xr):=⟨⟩
instance t_aJ:FI J0 137 (∀(a b:Int)(c:List Int),FnK J0 137 [I a,I b,T.ro (lV c)] (fun r=>[B r]) (fun _=>[]) (zSo a b c)):=⟨Tryz.call137,fun a b c=>iM Tryz.func137⟩
end
end Go.Wk
