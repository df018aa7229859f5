/- x -/
import Derived.Test.YtchnmobojdcikaaGreatPWT
open Go.Proofs.Tryz renaming prog→J0,underlying24→Kz
open Option renaming some→aB,none→aC
open Bool renaming true→aD,false→aE
namespace Go.Wk
open Go Go.Proofs Go.Ab
set_option maxRecDepth 100000
set_option maxHeartbeats 4000000
section
attribute [local irreducible] RW CW DK OkL Ok yA yB xE xH XS.post rng xK yV ixO zN yD xC zU zC GTo zO FnC FnK xV wG Kp Lk BsL BuL RpL Bk Lc JQ AK
instance t_m:FI J0 121 (∀(a:List Int),FnK J0 121 [T.ro (lV a)] (fun r=>[lV r]) (fun _=>[]) (f_m a)):=⟨Tryz.call121,fun a=>iM Tryz.func121⟩
instance:HS Tryz.f168.8 [(2,2,0,.tr 5 7)]:=⟨⟩
instance t_ag:FI J0 168 (∀(a b:Int),FnK J0 168 [I a,I b] (fun r=>[lV r]) (fun _=>[]) (zGj a b)):=⟨Tryz.call168,fun a b=>iM Tryz.func168⟩
instance t_ac:FI J0 118 (∀(a b c:Int),FnK J0 118 [I a,I b,I c] (fun r=>[B r]) (fun _=>[]) (zEG a b c)):=⟨Tryz.call118,fun a b c=>iM Tryz.func118⟩
instance:HS Tryz.f335.8 [(2,2,0,.tr 5 8),(0,26,0,.tr 20 5),(2,7,0,.tr 5 26),(0,34,0,.tr 29 5)]:=⟨⟩
instance(c:ByteArray)(d:Int):LH (R:=(List ByteArray)) (zPY c d) [0,1] [] (fun a=>[(5,L 1 Str a.1),(6,I a.2.1),(7,I a.2.2)]) (.xe 0 [1] fun b=>[(5,L 1 Str b.1),(6,I b.2)]):=⟨⟩
instance t_aq:FI J0 335 (∀(a:ByteArray)(b:Int),FnK J0 335 [Str a,(IK .u8) b] (fun r=>[(L 1 Str) r]) (fun _=>[]) (zNb a b)):=⟨Tryz.call335,fun a b=>iM Tryz.func335⟩
instance:HS Tryz.f341.8 [(2,2,0,.tr 6 9)]:=⟨⟩
instance(c:List Int):LH (R:=(List Int)×Bool) (zQc c) [1] [] (fun b=>[(6,L 1 I b.1),(7,I b.2)]) (.xs (.xe 0 [1] fun a=>[(6,L 1 I a)]) .xr):=⟨⟩
instance t_aL:FI J0 341 (∀(a:Int)(b:List Int),FnK J0 341 [I a,T.ro (lV b)] (fun r:(List Int)×Bool=>[lV r.1,B r.2]) (fun _=>[]) (zRY a b)):=⟨Tryz.call341,fun a b=>iM Tryz.func341⟩
theorem zXp{g_e:Int→Option ByteArray}[FI J0 342 (∀(x0:Int),FnK J0 342 [I x0] (fun r:ByteArray=>[Str r]) (fun _=>[]) (g_e x0))]:∀(x0:Int),FnK J0 342 [I x0] (fun r:ByteArray=>[Str r]) (fun _=>[]) (b_e g_e x0):=fun x0=>iM Tryz.func342
theorem zXq{g_e:Int→Option ByteArray}(H_e:∀(x0:Int) r,g_e x0=aB r→FnC J0 342 [I x0] [Str r] [])(x0:Int)(r:ByteArray)(h:b_e g_e x0=aB r):FnC J0 342 [I x0] [Str r] []:=by have:FI J0 342 (∀(x0:Int),FnK J0 342 [I x0] (fun r:ByteArray=>[Str r]) (fun _=>[]) (g_e x0)):=⟨Tryz.call342,fun x0=>FnK.mk (H_e x0)⟩;exact(zXp x0).go h
instance(a b:List Int):LH (R:=Bool) (zUm a b) [0,1] [] (fun c=>[(5,I c)]) (.xs (.xe 0 [0,1] fun _=>[]) .xr):=⟨⟩
instance t_J:FI J0 231 (∀(a b:List Int),FnK J0 231 [T.ro (lV a),T.ro (lV b)] (fun r=>[B r]) (fun _=>[]) (f_J a b)):=⟨Tryz.call231,fun a b=>iM Tryz.func231⟩
instance:HS Tryz.f299.8 [(2,3,0,.tr 8 15)]:=⟨⟩
instance(g_a:SPr→Int→(List Int)→(List Int)→Option (List Int))(c:SPr)(d:Int)(e:List Int)(f:(List Int)×Int):LH (R:=(List Int)) (zOY g_a c d e f) [1,2,3,7,9] [] (fun b=>[(8,L 1 I b.1),(10,I b.2)]) (.xe 2 [] fun a=>[(8,L 1 I a)]):=⟨⟩
instance(g_a:SPr→Int→(List Int)→(List Int)→Option (List Int))(c:SPr)(d:Int)(e:List Int):LH (R:=(List Int)) (zOZ g_a c d e) [1,2,3,7] [] (fun b=>[(8,L 1 I b.1),(9,I b.2)]) (.xe 0 [1,2,3,7] fun a=>[(8,L 1 I a)]):=⟨⟩
theorem zXr{g_a:SPr→Int→(List Int)→(List Int)→Option (List Int)}[FI J0 247 (∀(x0:SPr)(x1:Int)(x2:List Int)(x3:List Int),FnK J0 247 [qPr x0,I x1,T.ro (lV x2),T.ro (lV x3)] (fun r:(List Int)=>[lV r]) (fun _=>[]) (g_a x0 x1 x2 x3))]:∀(x0:SPr)(x1:Int)(x2:List Int),FnK J0 299 [qPr x0,I x1,T.ro (lV x2)] (fun r:(List Int)=>[lV r]) (fun _=>[]) (b_d g_a x0 x1 x2):=fun x0 x1 x2=>iM Tryz.func299
theorem zXs{g_a:SPr→Int→(List Int)→(List Int)→Option (List Int)}(H_a:∀(x0:SPr)(x1:Int)(x2:List Int)(x3:List Int) r,g_a x0 x1 x2 x3=aB r→FnC J0 247 [qPr x0,I x1,T.ro (lV x2),T.ro (lV x3)] [lV r] [])(x0:SPr)(x1:Int)(x2:List Int)(r:(List Int))(h:b_d g_a x0 x1 x2=aB r):FnC J0 299 [qPr x0,I x1,T.ro (lV x2)] [lV r] []:=by have:FI J0 247 (∀(x0:SPr)(x1:Int)(x2:List Int)(x3:List Int),FnK J0 247 [qPr x0,I x1,T.ro (lV x2),T.ro (lV x3)] (fun r:(List Int)=>[lV r]) (fun _=>[]) (g_a x0 x1 x2 x3)):=⟨Tryz.call247,fun x0 x1 x2 x3=>FnK.mk (H_a x0 x1 x2 x3)⟩;exact(zXr x0 x1 x2).go h
end
theorem u_y(x0:List Int)(r:(List Int))(h:f_y x0=aB r):FnC J0 227 [T.ro (lV x0)] [lV r] []:=by
 refine fB Tryz.func227 (fun St W w0 v=>?_);refine sR (oP (zLd 1 rfl) ?_);refine rN (CW.seq (sR (tH ?_)));refine RW.isnil Kz (zDr rfl rfl) (.inl rfl) rfl rfl (fun b1 ar=>?_);refine rN (CW.cond _ rfl (fun hc=>?_) (fun hc=>?_));have hx:=ar hc;subst hx;have h:aB ([])=aB r:=by simpa[yD,f_y]using h
 refine sR (oP (zLd 1 rfl) ?_);refine rN (CW.ret (rA ?_));obtain rfl:=sI h;exact rT;refine CW.skip (nA (sR (oP (zS7 elt_24 rfl) ?_)));refine tH ?_;obtain⟨v2,cR,h⟩:=bd h;refine oP (zJF (f:=I) (g:=I) elt_24 (fun _=>rfl) (fun _=>rfl) inferInstance cR rfl (zDr rfl rfl) rfl) ?_;refine zAK ?_;refine RW.ghost (zO.tr 2 7 _ rfl rfl (zAZ (zDT (Enc.clean (f:=I)))) rfl) ?_;refine rN (CW.ret ?_);obtain rfl:=sI h;exact rT
instance t_y:FI J0 227 (∀(a:List Int),FnK J0 227 [T.ro (lV a)] (fun r=>[lV r]) (fun _=>[]) (f_y a)):=⟨Tryz.call227,fun a=>FnK.mk (u_y a)⟩
end Go.Wk
