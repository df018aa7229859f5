/- x -/
import Derived.Test.YtchnmobojdcikaaGreatCVaa
import Derived.Test.YtchnmobojdcikaaGreatCVac
import Derived.Test.YtchnmobojdcikaaGreatCVah
import Derived.Test.YtchnmobojdcikaaGreatCVai
import Derived.Test.YtchnmobojdcikaaGreatCVaj
import Derived.Test.YtchnmobojdcikaaGreatCVal
import Derived.Test.YtchnmobojdcikaaGreatCWT
open Go.Proofs.Tryz renaming prog→J0
open Option renaming some→iz,none→iA
open Bool renaming true→iB,false→iC
namespace Go.Wk
open Go Go.Proofs Go.Ab
set_option maxRecDepth 100000
set_option maxHeartbeats 4000000
section
attribute [local irreducible] RW CW DK OkL Ok zV yA yW xK XS.post rng xN yP ixO zO yG yO yB zG GTo zP FnC FnK xQ wB Kp Lk BsL BuL RpL Bk Lc JQ AK
instance:HS Tryz.f288.8 [(1,4,0,.trf 115 0 7 [0,0]),(1,4,1,.trf 115 1 7 [1,0]),(1,4,2,.trf 115 2 7 [2,0])]:=⟨⟩
instance(a b:SPr)(c:(List (List Int))×(List (List (List Int)))×Int):LN (zXd a b c) 7:=⟨⟩
instance(c d:SPr)(e:(List (List Int))×(List (List (List Int)))×Int)(A0 A1 A2:T):LHk (R:=SPr) (zXd c d e) (T.ptr (T.agg [A0,A1,A2])) [2,3,4,5,6,8] [] (fun b=>[(7,T.ptr (T.agg [A0,A1,L 1 lM b.1])),(9,I b.2)]) (.xe 2 [] fun a=>[(7,T.ptr (T.agg [A0,A1,L 1 lM a]))]):=⟨⟩
instance(a b:SPr):LN (zXe a b) 7:=⟨⟩
instance(c d:SPr)(A0 A1 A2:T):LHk (R:=SPr) (zXe c d) (T.ptr (T.agg [A0,A1,A2])) [2,3,4,5,6] [] (fun b=>[(7,T.ptr (T.agg [A0,L 1 lV b.1,L 1 lM b.2.1])),(8,I b.2.2)]) (.xe 0 [2] fun a=>[(7,T.ptr (T.agg [A0,L 1 lV a.1,L 1 lM a.2]))]):=⟨⟩
instance(b c:SPr)(a:(List (List Int))×(List (List (List Int)))×Int):LN (zXf b c a) 7:=⟨⟩
instance(d e:SPr)(b:(List (List Int))×(List (List (List Int)))×Int)(A0 A1 A2:T):LHk (R:=SPr) (zXf d e b) (T.ptr (T.agg [A0,A1,A2])) [3,4,5,6,10] [] (fun a=>[(7,T.ptr (T.agg [A0,A1,L 1 lM a.1])),(11,I a.2)]) (.xe 6 [] fun c=>[(7,T.ptr (T.agg [A0,A1,L 1 lM c]))]):=⟨⟩
instance(a b:SPr):LN (zXg a b) 7:=⟨⟩
instance(c d:SPr)(A0 A1 A2:T):LHk (R:=SPr) (zXg c d) (T.ptr (T.agg [A0,A1,A2])) [3,4,5,6] [] (fun a=>[(7,T.ptr (T.agg [A0,L 1 lV a.1,L 1 lM a.2.1])),(10,I a.2.2)]) (.xe 4 [3,5,6] fun b=>[(7,T.ptr (T.agg [A0,L 1 lV b.1,L 1 lM b.2]))]):=⟨⟩
instance t_G:FI J0 288 (∀(a b:SPr),FnK J0 288 [qPr a,qPr b] (fun r=>[vE r]) (fun _=>[]) (f_G a b)):=⟨Tryz.call288,fun a b=>iM Tryz.func288⟩
instance:HS Tryz.f312.8 [(2,2,0,.tr 9 14),(2,6,0,.tr 9 25),(2,7,0,.tr 10 30)]:=⟨⟩
instance(b:SPr)(c:Int):LH (R:=(List Int)) (zPE b c) [1,4] [] (fun a=>[(3,I a.1),(9,L 1 I a.2.1),(10,T.ro (lV a.2.2))]) (.xe 0 [1,4] fun d=>[(9,L 1 I d)]):=⟨⟩
instance t_a3:FI J0 312 (∀(a:SPr)(b:Int)(c:List Int)(d:Int),FnK J0 312 [qPr a,I b,T.ro (lV c),I d] (fun r=>[lV r]) (fun _=>[]) (zWn a b c d)):=⟨Tryz.call312,fun a b c d=>iM Tryz.func312⟩
instance t_bk:FI J0 324 (∀(a:zN)(b c:zH),FnK J0 324 [xG a,xC b,xC c] (fun r=>[lV r]) (fun _=>[]) (zM6 a b c)):=⟨Tryz.call324,fun a b c=>iM Tryz.func324⟩
instance t_bC:FI J0 251 (∀(a b:Int)(c:List Int),FnK J0 251 [I a,I b,T.ro (lV c)] (fun r=>[lV r]) (fun _=>[]) (zQJ a b c)):=⟨Tryz.call251,fun a b c=>iM Tryz.func251⟩
end
theorem yCe:∀n,(∀(x0:SPr)(x1:List Int)(x2:Int) r,zTH n x0 x1 x2=iz r→FnC J0 298 [T.ro ((Pt vE) x0),L 1 I x1,I x2] [] [(1,lV r)])∧(∀(x0:SPr)(x1:List Int)(x2:List Int) r,zQG n x0 x1 x2=iz r→FnC J0 246 [T.ro ((Pt vE) x0),L 1 I x1,T.ro (lV x2)] [] [(1,lV r)]):=by
  intro n
  induction n with
  |zero=>exact⟨(fun _ _ _ r h=>by simp[zTH]at h),(fun _ _ _ r h=>by simp[zQG]at h)⟩
  |succ n ih=>exact⟨(fun x0 x1 x2 r h=>yDe ih.2 x0 x1 x2 r (by simpa[zTH]using h)),(fun x0 x1 x2 r h=>yCY ih.1 x0 x1 x2 r (by simpa[zQG]using h))⟩
theorem u_b(x0:SPr)(x1:List Int)(x2:Int)(r:(List Int))(h:f_b x0 x1 x2=iz r):FnC J0 298 [T.ro ((Pt vE) x0),L 1 I x1,I x2] [] [(1,lV r)]:=by obtain⟨n,hn⟩:=qS h;exact(yCe n).1 x0 x1 x2 r hn
theorem u_d(x0:SPr)(x1:List Int)(x2:List Int)(r:(List Int))(h:f_d x0 x1 x2=iz r):FnC J0 246 [T.ro ((Pt vE) x0),L 1 I x1,T.ro (lV x2)] [] [(1,lV r)]:=by obtain⟨n,hn⟩:=qS h;exact(yCe n).2 x0 x1 x2 r hn
instance t_b:FI J0 298 (∀(a:SPr)(b:List Int)(c:Int),FnK J0 298 [T.ro ((Pt vE) a),L 1 I b,I c] (fun _:(List Int)=>[]) (fun r=>[(1,lV r)]) (f_b a b c)):=⟨Tryz.call298,fun a b c=>FnK.mk (u_b a b c)⟩
instance t_d:FI J0 246 (∀(a:SPr)(b c:List Int),FnK J0 246 [T.ro ((Pt vE) a),L 1 I b,T.ro (lV c)] (fun _:(List Int)=>[]) (fun r=>[(1,lV r)]) (f_d a b c)):=⟨Tryz.call246,fun a b c=>FnK.mk (u_d a b c)⟩
end Go.Wk
