/- x -/
import Derived.Test.YtchnmobojdcikaaGreatQVaa
import Derived.Test.YtchnmobojdcikaaGreatQVab
import Derived.Test.YtchnmobojdcikaaGreatQVac
import Derived.Test.YtchnmobojdcikaaGreatQVad
import Derived.Test.YtchnmobojdcikaaGreatQVaf
import Derived.Test.YtchnmobojdcikaaGreatQVah
import Derived.Test.YtchnmobojdcikaaGreatQVaj
import Derived.Test.YtchnmobojdcikaaGreatQVak
import Derived.Test.YtchnmobojdcikaaGreatQWT
open Go.Proofs.Tryz renaming prog→J0
open Option renaming some→dq,none→dt
open Bool renaming true→du,false→dv
namespace Go.Wk
open Go Go.Proofs Go.Ab
set_option maxRecDepth 100000
set_option maxHeartbeats 4000000
section
attribute [local irreducible] RW CW DK OkL Ok zS zV yQ xI XS.post rng xL yO ixO zP zU yT zZ zG GTo zM FnC FnK xK xN Kp Lk BsL BuL RpL Bk Lc JQ AK
instance:HS Tryz.f189.8 [(2,2,0,.tr 7 11)]:=⟨⟩
instance(c:Int)(d:List (List Int)):LH (R:=(List Int)) (zLc c d) [0,1] [] (fun b=>[(7,L 1 I b.1),(8,I b.2)]) (.xe 0 [0,1] fun a=>[(7,L 1 I a)]):=⟨⟩
instance t_aQ:FI J0 189 (∀(a:Int)(b:List (List Int))(c:List Int),FnK J0 189 [I a,T.ro (lM b),T.ro (lV c)] (fun r=>[lV r]) (fun _=>[]) (zUc a b c)):=⟨Tryz.call189,fun a b c=>iM Tryz.func189⟩
instance t_bL:FI J0 251 (∀(a b:Int)(c:List Int),FnK J0 251 [I a,I b,T.ro (lV c)] (fun r=>[lV r]) (fun _=>[]) (zUe a b c)):=⟨Tryz.call251,fun a b c=>iM Tryz.func251⟩
end
theorem zYW:∀n,(∀(x0:SPr)(x1:List Int)(x2:Int) r,zRj n x0 x1 x2=dq r→FnC J0 298 [T.ro ((Pt vW) x0),L 1 I x1,I x2] [] [(1,lV r)])∧(∀(x0:SPr)(x1:List Int)(x2:List Int) r,zOI n x0 x1 x2=dq r→FnC J0 246 [T.ro ((Pt vW) x0),L 1 I x1,T.ro (lV x2)] [] [(1,lV r)]):=by
  intro n
  induction n with
  |zero=>exact⟨(fun _ _ _ r h=>by simp[zRj]at h),(fun _ _ _ r h=>by simp[zOI]at h)⟩
  |succ n ih=>exact⟨(fun x0 x1 x2 r h=>zZV ih.2 x0 x1 x2 r (by simpa[zRj]using h)),(fun x0 x1 x2 r h=>zZQ ih.1 x0 x1 x2 r (by simpa[zOI]using h))⟩
theorem u_b(x0:SPr)(x1:List Int)(x2:Int)(r:(List Int))(h:f_b x0 x1 x2=dq r):FnC J0 298 [T.ro ((Pt vW) x0),L 1 I x1,I x2] [] [(1,lV r)]:=by obtain⟨n,hn⟩:=jP h;exact(zYW n).1 x0 x1 x2 r hn
theorem u_c(x0:SPr)(x1:List Int)(x2:List Int)(r:(List Int))(h:f_c x0 x1 x2=dq r):FnC J0 246 [T.ro ((Pt vW) x0),L 1 I x1,T.ro (lV x2)] [] [(1,lV r)]:=by obtain⟨n,hn⟩:=jP h;exact(zYW n).2 x0 x1 x2 r hn
instance t_b:FI J0 298 (∀(a:SPr)(b:List Int)(c:Int),FnK J0 298 [T.ro ((Pt vW) a),L 1 I b,I c] (fun _:(List Int)=>[]) (fun r=>[(1,lV r)]) (f_b a b c)):=⟨Tryz.call298,fun a b c=>FnK.mk (u_b a b c)⟩
instance t_c:FI J0 246 (∀(a:SPr)(b c:List Int),FnK J0 246 [T.ro ((Pt vW) a),L 1 I b,T.ro (lV c)] (fun _:(List Int)=>[]) (fun r=>[(1,lV r)]) (f_c a b c)):=⟨Tryz.call246,fun a b c=>FnK.mk (u_c a b c)⟩
section
attribute [local irreducible] RW CW DK OkL Ok zS zV yQ xI XS.post rng xL yO ixO zP zU yT zZ zG GTo zM FnC FnK xK xN Kp Lk BsL BuL RpL Bk Lc JQ AK
instance:HS Tryz.f234.8 [(0,37,0,.tr 21 3),(0,77,0,.tr 66 3),(2,15,0,.tr 3 77)]:=⟨⟩
instance(b:SPr):LH (R:=(List ((List Int)×(List Int)))) (zRx b) [0,14,15] [] (fun a=>[(3,L 2 (A2 lV) a.1),(16,I a.2)]) (.xe 0 [14,15] fun c=>[(3,L 2 (A2 lV) c)]):=⟨⟩
instance(c:(List ((List Int)×(List Int)))×Int)(d:List (List Int)):LH (R:=(List ((List Int)×(List Int)))) (zRy c d) [0,6,43,44,53,54] [] (fun b=>[(3,L 2 (A2 lV) b.1),(55,I b.2)]) (.xe 4 [6,53,54] fun a=>[(3,L 2 (A2 lV) a)]):=⟨⟩
instance(c:SPr):LH (R:=(List ((List Int)×(List Int)))) (zRz c) [0,43] [] (fun b=>[(3,L 2 (A2 lV) b.1),(44,I b.2)]) (.xe 2 [0,43] fun a=>[(3,L 2 (A2 lV) a)]):=⟨⟩
instance t_H:FI J0 234 (∀(a:SPr),FnK J0 234 [T.ro ((Pt vW) a)] (fun r:(List ((List Int)×(List Int)))=>[(L 2 (A2 lV)) r]) (fun _=>[]) (f_H a)):=⟨Tryz.call234,fun a=>iM Tryz.func234⟩
instance:HS Tryz.f183.8 [(2,2,0,.tr 5 9)]:=⟨⟩
instance(b:zF)(c:(List Int)):LH (R:=(List Int)) (zIn b c) [2,12,13] [] (fun a=>[(5,L 1 I a.1),(14,I a.2)]) (.xe 0 [2,12,13] fun d=>[(5,L 1 I d)]):=⟨⟩
instance t_ay:FI J0 183 (∀(a:zF)(b:List Int),FnK J0 183 [wZ a,T.ro (lV b)] (fun r=>[lV r]) (fun _=>[]) (zRI a b)):=⟨Tryz.call183,fun a b=>iM Tryz.func183⟩
instance t_bJ:FI J0 146 (∀(a b:Int)(c:List (List Int)),FnK J0 146 [I a,I b,T.ro (lM c)] (fun r=>[uP r]) (fun _=>[]) (zRM a b c)):=⟨Tryz.call146,fun a b c=>iM Tryz.func146⟩
instance:HS Tryz.f156.8 [(2,2,0,.tr 5 15)]:=⟨⟩
instance(b:zC)(c:(List (List Int))):LH (R:=(List (List Int))) (zLj b c) [0,16,17] [] (fun a=>[(5,L 1 lV a.1),(18,I a.2)]) (.xe 0 [0,16,17] fun d=>[(5,L 1 lV d)]):=⟨⟩
instance t_aH:FI J0 156 (∀(a:zC)(b:Int),FnK J0 156 [T.ro ((Pt xP) a),I b] (fun r:(List (List Int))=>[lM r]) (fun _=>[]) (zRN a b)):=⟨Tryz.call156,fun a b=>iM Tryz.func156⟩
instance:HS Tryz.f185.8 [(2,2,0,.tr 5 8)]:=⟨⟩
instance(b:Int):LH (R:=(List (List Int))) (zLi b) [0] [] (fun a=>[(5,L 1 lV a.1),(6,I a.2)]) (.xe 0 [0] fun c=>[(5,L 1 lV c)]):=⟨⟩
instance t_aG:FI J0 185 (∀(a:Int)(b:List (List Int)),FnK J0 185 [I a,T.ro (lM b)] (fun r:(List (List Int))=>[lM r]) (fun _=>[]) (zRL a b)):=⟨Tryz.call185,fun a b=>iM Tryz.func185⟩
end
end Go.Wk
