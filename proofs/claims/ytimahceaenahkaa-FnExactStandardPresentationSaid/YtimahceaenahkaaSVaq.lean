/- x -/
import Derived.Test.YtimahceaenahkaaSVam
import Derived.Test.YtimahceaenahkaaSWT
open Go.Proofs.Try renaming prog→J0
open Option renaming some→df,none→dg
open Bool renaming true→dh,false→di
namespace Go.Wk
open Go Go.Proofs Go.Ab
set_option maxRecDepth 100000
set_option maxHeartbeats 4000000
theorem zRA:∀n,(∀(x0:SPr)(x1:Int)(x2:List Int) r,zH6 n x0 x1 x2=df r→FnC J0 71 [qPr x0,I x1,T.ro (lV x2)] [lV r] []):=by
  intro n
  induction n with
  |zero=>exact(fun _ _ _ r h=>by simp[zH6]at h)
  |succ n ih=>exact(fun x0 x1 x2 r h=>zR9 ih x0 x1 x2 r (by simpa[zH6]using h))
theorem u_f(x0:SPr)(x1:Int)(x2:List Int)(r:(List Int))(h:f_f x0 x1 x2=df r):FnC J0 71 [qPr x0,I x1,T.ro (lV x2)] [lV r] []:=by obtain⟨n,hn⟩:=tS h;exact(zRA n) x0 x1 x2 r hn
instance t_f:FI J0 71 (∀(a:SPr)(b:Int)(c:List Int),FnK J0 71 [qPr a,I b,T.ro (lV c)] (fun r=>[lV r]) (fun _=>[]) (f_f a b c)):=⟨Try.call71,fun a b c=>FnK.mk (u_f a b c)⟩
end Go.Wk
