/- x -/
import Derived.Test.YtchnmobojdcikaaGreatKVam
import Derived.Test.YtchnmobojdcikaaGreatKVan
import Derived.Test.YtchnmobojdcikaaGreatKVao
import Derived.Test.YtchnmobojdcikaaGreatKVap
import Derived.Test.YtchnmobojdcikaaGreatKWT
open Go.Proofs.Tryz renaming prog→J0
open Option renaming some→dJ,none→dK
open Bool renaming true→dL,false→dM
namespace Go.Wk
open Go Go.Proofs Go.Ab
set_option maxRecDepth 100000
set_option maxHeartbeats 4000000
theorem yDs:∀n,(∀(x0:zN)(x1:Int)(x2:zI) r,zO5 n x0 x1 x2=dJ r→FnC J0 325 [xG x0,I x1,xD x2] [xS r] [])∧(∀(x0:zN)(x1:Int)(x2:zI)(x3:zI) r,zO6 n x0 x1 x2 x3=dJ r→FnC J0 322 [xG x0,I x1,xD x2,xD x3] [xS r] []):=by
  intro n
  induction n with
  |zero=>exact⟨(fun _ _ _ r h=>by simp[zO5]at h),(fun _ _ _ _ r h=>by simp[zO6]at h)⟩
  |succ n ih=>exact⟨(fun x0 x1 x2 r h=>yE0 ih.2 x0 x1 x2 r (by simpa[zO5]using h)),(fun x0 x1 x2 x3 r h=>yEy ih.1 ih.2 x0 x1 x2 x3 r (by simpa[zO6]using h))⟩
theorem u_f(x0:zN)(x1:Int)(x2:zI)(r:zI)(h:f_f x0 x1 x2=dJ r):FnC J0 325 [xG x0,I x1,xD x2] [xS r] []:=by obtain⟨n,hn⟩:=jS h;exact(yDs n).1 x0 x1 x2 r hn
theorem u_c(x0:zN)(x1:Int)(x2:zI)(x3:zI)(r:zI)(h:f_c x0 x1 x2 x3=dJ r):FnC J0 322 [xG x0,I x1,xD x2,xD x3] [xS r] []:=by obtain⟨n,hn⟩:=jS h;exact(yDs n).2 x0 x1 x2 x3 r hn
instance t_f:FI J0 325 (∀(a:zN)(b:Int)(c:zI),FnK J0 325 [xG a,I b,xD c] (fun r=>[xS r]) (fun _=>[]) (f_f a b c)):=⟨Tryz.call325,fun a b c=>FnK.mk (u_f a b c)⟩
instance t_c:FI J0 322 (∀(a:zN)(b:Int)(c d:zI),FnK J0 322 [xG a,I b,xD c,xD d] (fun r=>[xS r]) (fun _=>[]) (f_c a b c d)):=⟨Tryz.call322,fun a b c d=>FnK.mk (u_c a b c d)⟩
section
attribute [local irreducible] RW CW DK OkL Ok yO yY wQ wK XS.post rng wS xR ixO zQ zZ wP yG zH GTo zX FnC FnK vM uH Kp Lk BsL BuL RpL Bk Lc JQ AK
instance:HS Tryz.f302.8 [(2,3,0,.tr 6 23),(0,63,0,.tr 52 6),(2,12,0,.tr 6 63),(0,102,0,.tr 86 6),(0,115,0,.tr 106 6),(2,20,0,.tr 6 115),(1,17,0,.fi 9 16),(1,17,1,.resf 129 0 16 [0,0]),(1,17,2,.resf 129 1 16 [1,0]),(0,160,0,.tr 144 6)]:=⟨⟩
instance(c:zN)(d:Int)(e:(List (List Int))×Int):LH (R:=(List (List Int))) (zR0 c d e) [1,2,5,6,7] [] (fun a=>[(8,T.ptr (T.agg [L 1 I a.1,L 1 I a.2.1])),(9,I a.2.2)]) (.xe 2 [] fun b=>[(8,T.ptr (T.agg [L 1 I b.1,L 1 I b.2]))]):=⟨⟩
instance(c:zN)(d:Int)(e:(List (List Int))×Int):LH (R:=(List (List Int))) (zR1 c d e) [1,2,5,7] [] (fun a=>[(6,L 1 lV a.1),(10,I a.2)]) (.xe 4 [] fun b=>[(6,L 1 lV b)]):=⟨⟩
instance(c:zN)(d:Int):LH (R:=(List (List Int))) (zUU c d) [1,2,5] [] (fun b=>[(6,L 1 lV b.1),(7,I b.2)]) (.xe 0 [] fun a=>[(6,L 1 lV a)]):=⟨⟩
instance(c:zN)(d:Int):LH (R:=(List (List Int))) (zUV c d) [1,2,5,6,14,15,16] [] (fun a=>[(17,T.ptr (T.agg [T.ro (lV a.1),T.ro (lV a.2.1)])),(18,I a.2.2)]) (.xe 8 [] fun b=>[(17,T.ptr (T.agg [T.ro (lV b.1),T.ro (lV b.2)]))]):=⟨⟩
instance(d:zN)(e:Int)(b:zI):LH (R:=(List (List Int))) (zR2 d e b) [1,2,5,14] [] (fun a=>[(6,L 1 lV a.1),(15,I a.2)]) (.xe 6 [1,2,5,14] fun c=>[(6,L 1 lV c)]):=⟨⟩
instance t_t:FI J0 302 (∀(a:zN)(b:Int),FnK J0 302 [xG a,I b] (fun r:(List (List Int))=>[lM r]) (fun _=>[]) (f_t a b)):=⟨Tryz.call302,fun a b=>iM Tryz.func302⟩
instance:HS Tryz.f271.8 [(2,2,0,.tr 3 5),(0,18,0,.tr 14 3),(2,4,0,.tr 3 18)]:=⟨⟩
instance(b:zN):LH (R:=(List (List Int))) (zJT b) [1] [] (fun a=>[(3,L 1 lV a.1),(4,I a.2)]) (.xe 0 [1] fun c=>[(3,L 1 lV c)]):=⟨⟩
instance t_ad:FI J0 271 (∀(a:zN),FnK J0 271 [xG a] (fun r:(List (List Int))=>[lM r]) (fun _=>[]) (zIY a)):=⟨Tryz.call271,fun a=>iM Tryz.func271⟩
instance:HS Tryz.f286.8 [(2,8,0,.tr 9 35),(0,58,0,.tr 57 9),(0,59,0,.trq 56 7 [2,0]),(2,14,0,.tr 11 62),(2,14,1,.fz 11),(2,15,0,.tr 12 63),(2,19,0,.tr 14 69),(0,91,0,.tr 76 14),(0,94,0,.tr 93 14),(0,95,0,.tr 92 12),(2,17,0,.tr 12 95)]:=⟨⟩
instance(c:zC)(d:(List (List Int))×Int):LH (R:=(List (List Int))) (zR7 c d) [3,5,6,7,8] [] (fun b=>[(9,L 1 I b.1),(10,I b.2)]) (.xe 2 [] fun a=>[(9,L 1 I a)]):=⟨⟩
instance(a:zC)(b c:Int):LN (zR8 a b c) 7:=⟨⟩
instance(a:zC)(d e:Int)(A0 A1 A2 A3 A4 A5 A6:T):LHk (R:=(List (List Int))) (zR8 a d e) (T.ptr (T.agg [T.agg [A0,A1,A2],T.agg [A3,A4,A5],A6])) [3,5,6] [] (fun c=>[(7,T.ptr (T.agg [T.agg [A0,A1,A2],wL a,L 1 lV c.1])),(8,I c.2)]) (.xe 0 [5] fun b=>[(7,T.ptr (T.agg [T.agg [A0,A1,A2],wL a,L 1 lV b]))]):=⟨⟩
instance(e:zC)(b:(List (List Int)))(c:(List (List Int))×Int):LH (R:=(List (List Int))) (zR9 e b c) [3,6,11,12,13] [] (fun a=>[(14,L 1 I a.1),(15,I a.2)]) (.xe 6 [] fun d=>[(14,L 1 I d)]):=⟨⟩
instance(d:zC)(e:Int)(b:(List (List Int))):LH (R:=(List (List Int))) (zVd d e b) [3,6,11] [] (fun a=>[(12,L 1 lV a.1),(13,I a.2)]) (.xe 4 [6] fun c=>[(12,L 1 lV c)]):=⟨⟩
instance t_u:FI J0 286 (∀(a:SPr)(b:zC),FnK J0 286 [qPr a,wL b] (fun r:(List (List Int))=>[lM r]) (fun _=>[]) (f_u a b)):=⟨Tryz.call286,fun a b=>iM Tryz.func286⟩
end
end Go.Wk
