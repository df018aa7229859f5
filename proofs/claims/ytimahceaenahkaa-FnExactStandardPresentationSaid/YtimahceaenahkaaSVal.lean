/- x -/
import Derived.Test.YtimahceaenahkaaSVaa
import Derived.Test.YtimahceaenahkaaSVag
import Derived.Test.YtimahceaenahkaaSWT
open Go.Proofs.Try renaming prog→J0
open Option renaming some→df,none→dg
open Bool renaming true→dh,false→di
namespace Go.Wk
open Go Go.Proofs Go.Ab
set_option maxRecDepth 100000
set_option maxHeartbeats 4000000
theorem zQI:∀n,(∀(x0:SPr)(x1:Int)(x2:List Int) r,zH0 n x0 x1 x2=df r→FnC J0 86 [qPr x0,I x1,T.ro (lV x2)] [lV r] [])∧(∀(x0:SPr)(x1:Int)(x2:List Int)(x3:List Int) r,zH1 n x0 x1 x2 x3=df r→FnC J0 73 [qPr x0,I x1,T.ro (lV x2),T.ro (lV x3)] [lV r] []):=by
  intro n
  induction n with
  |zero=>exact⟨(fun _ _ _ r h=>by simp[zH0]at h),(fun _ _ _ _ r h=>by simp[zH1]at h)⟩
  |succ n ih=>exact⟨(fun x0 x1 x2 r h=>zR0 ih.2 x0 x1 x2 r (by simpa[zH0]using h)),(fun x0 x1 x2 x3 r h=>zR7 ih.1 ih.2 x0 x1 x2 x3 r (by simpa[zH1]using h))⟩
theorem u_e(x0:SPr)(x1:Int)(x2:List Int)(r:(List Int))(h:f_e x0 x1 x2=df r):FnC J0 86 [qPr x0,I x1,T.ro (lV x2)] [lV r] []:=by obtain⟨n,hn⟩:=tS h;exact(zQI n).1 x0 x1 x2 r hn
theorem u_a(x0:SPr)(x1:Int)(x2:List Int)(x3:List Int)(r:(List Int))(h:f_a x0 x1 x2 x3=df r):FnC J0 73 [qPr x0,I x1,T.ro (lV x2),T.ro (lV x3)] [lV r] []:=by obtain⟨n,hn⟩:=tS h;exact(zQI n).2 x0 x1 x2 x3 r hn
instance t_e:FI J0 86 (∀(a:SPr)(b:Int)(c:List Int),FnK J0 86 [qPr a,I b,T.ro (lV c)] (fun r=>[lV r]) (fun _=>[]) (f_e a b c)):=⟨Try.call86,fun a b c=>FnK.mk (u_e a b c)⟩
instance t_a:FI J0 73 (∀(a:SPr)(b:Int)(c d:List Int),FnK J0 73 [qPr a,I b,T.ro (lV c),T.ro (lV d)] (fun r=>[lV r]) (fun _=>[]) (f_a a b c d)):=⟨Try.call73,fun a b c d=>FnK.mk (u_a a b c d)⟩
end Go.Wk
