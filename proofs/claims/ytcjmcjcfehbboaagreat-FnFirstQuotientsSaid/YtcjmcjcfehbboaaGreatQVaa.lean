/- x -/
import Derived.Test.YtcjmcjcfehbboaaGreatQWT
open Go.Proofs.Tryz renaming prog→J0,underlying38→Kz
open Option renaming some→jq,none→jr
open Bool renaming true→js,false→jt
namespace Go.Wk
open Go Go.Proofs Go.Ab
set_option maxRecDepth 100000
set_option maxHeartbeats 4000000
section
attribute [local irreducible] RW CW DK OkL Ok yL yM xQ wE XS.post rng wF xN ixO zQ yC xR yH zC GTo zE FnC FnK wJ wS Kp Lk BsL BuL RpL Bk Lc
instance t_v:FI J0 108 (∀(a:List Int),FnK J0 108 [T.ro (lV a)] (fun r=>[lV r]) (fun _=>[]) (f_v a)):=⟨Tryz.call108,fun a=>iM Tryz.func108⟩
instance:HS Tryz.f152.8 [(2,2,0,.tr 5 7)]:=⟨⟩
instance t_bn:FI J0 152 (∀(a b:Int),FnK J0 152 [I a,I b] (fun r=>[lV r]) (fun _=>[]) (zLx a b)):=⟨Tryz.call152,fun a b=>iM Tryz.func152⟩
instance t_aC:FI J0 31 (∀(a b c:Int),FnK J0 31 [I a,I b,I c] (fun r=>[B r]) (fun _=>[]) (zHw a b c)):=⟨Tryz.call31,fun a b c=>iM Tryz.func31⟩
instance t_bj:FI J0 30 (∀(a:Int),FnK J0 30 [I a] (fun r=>[B r]) (fun _=>[]) (zLv a)):=⟨Tryz.call30,fun a=>iM Tryz.func30⟩
instance:HS Tryz.f174.8 [(2,2,0,.tr 7 11)]:=⟨⟩
instance(b:List Int):LH (R:=(List Int)) (zSL b) [0] [] (fun a=>[(2,I a.1),(7,L 1 I a.2.1),(8,I a.2.2)]) (.xe 0 [0] fun c=>[(7,L 1 I c)]):=⟨⟩
instance t_aT:FI J0 174 (∀(a:List Int)(b c:Int),FnK J0 174 [T.ro (lV a),I b,I c] (fun r=>[lV r]) (fun _=>[]) (zPX a b c)):=⟨Tryz.call174,fun a b c=>iM Tryz.func174⟩
instance:HS Tryz.f185.8 [(2,2,0,.tr 5 8),(0,26,0,.tr 20 5),(2,7,0,.tr 5 26),(0,34,0,.tr 29 5)]:=⟨⟩
instance(c:ByteArray)(d:Int):LH (R:=(List ByteArray)) (zST c d) [0,1] [] (fun a=>[(5,L 1 Str a.1),(6,I a.2.1),(7,I a.2.2)]) (.xe 0 [1] fun b=>[(5,L 1 Str b.1),(6,I b.2)]):=⟨⟩
instance t_aU:FI J0 185 (∀(a:ByteArray)(b:Int),FnK J0 185 [Str a,(IK .u8) b] (fun r=>[(L 1 Str) r]) (fun _=>[]) (zPY a b)):=⟨Tryz.call185,fun a b=>iM Tryz.func185⟩
instance(b:List Int):LH (R:=Int) (zP9 b) [0] [] (fun a=>[(3,I a.1),(4,I a.2)]) (.xe 0 [0] fun c=>[(3,I c)]):=⟨⟩
instance t_T:FI J0 132 (∀(a:List Int),FnK J0 132 [T.ro (lV a)] (fun r=>[I r]) (fun _=>[]) (f_T a)):=⟨Tryz.call132,fun a=>iM Tryz.func132⟩
instance:HS Tryz.f192.8 [(2,2,0,.tr 6 9)]:=⟨⟩
instance(c:List Int):LH (R:=(List Int)×Bool) (zSX c) [1] [] (fun b=>[(6,L 1 I b.1),(7,I b.2)]) (.xs (.xe 0 [1] fun a=>[(6,L 1 I a)]) .xr):=⟨⟩
instance t_bm:FI J0 192 (∀(a:Int)(b:List Int),FnK J0 192 [I a,T.ro (lV b)] (fun r:(List Int)×Bool=>[lV r.1,B r.2]) (fun _=>[]) (zVA a b)):=⟨Tryz.call192,fun a b=>iM Tryz.func192⟩
theorem yBN{g_h:Int→Option ByteArray}[FI J0 194 (∀(x0:Int),FnK J0 194 [I x0] (fun r:ByteArray=>[Str r]) (fun _=>[]) (g_h x0))]:∀(x0:Int),FnK J0 194 [I x0] (fun r:ByteArray=>[Str r]) (fun _=>[]) (b_h g_h x0):=fun x0=>iM Tryz.func194
theorem yBO{g_h:Int→Option ByteArray}(H_h:∀(x0:Int) r,g_h x0=jq r→FnC J0 194 [I x0] [Str r] [])(x0:Int)(r:ByteArray)(h:b_h g_h x0=jq r):FnC J0 194 [I x0] [Str r] []:=by have:FI J0 194 (∀(x0:Int),FnK J0 194 [I x0] (fun r:ByteArray=>[Str r]) (fun _=>[]) (g_h x0)):=⟨Tryz.call194,fun x0=>FnK.mk (H_h x0)⟩;exact(yBN x0).go h
end
theorem u_H(x0:List Int)(r:(List Int))(h:f_H x0=jq r):FnC J0 107 [T.ro (lV x0)] [lV r] []:=by
 refine fB Tryz.func107 (fun St W w0 v=>?_);refine sR (oP (zAH 1 rfl) ?_);refine rN (CW.seq (sR (zL ?_)));refine RW.isnil Kz (wU rfl rfl) (.inl rfl) rfl rfl (fun b1 da=>?_);refine rN (CW.cond _ rfl (fun hc=>?_) (fun hc=>?_));have hx:=da hc;subst hx;have h:jq ([])=jq r:=by simpa[yC,f_H]using h
 refine sR (oP (zAH 1 rfl) ?_);refine rN (CW.ret (rA ?_));obtain rfl:=sI h;exact rT;refine CW.skip (nA (sR (oP (zKz elt_38 rfl) ?_)));refine zL ?_;obtain⟨v2,fJ,h⟩:=bd h;refine oP (zDN (f:=I) (g:=I) elt_38 (fun _=>rfl) (fun _=>rfl) inferInstance fJ rfl (wU rfl rfl) rfl) ?_;refine yX ?_;refine RW.ghost (zE.tr 2 7 _ rfl rfl (zB (zG (Enc.clean (f:=I)))) rfl) ?_;refine rN (CW.ret ?_);obtain rfl:=sI h;exact rT
instance t_H:FI J0 107 (∀(a:List Int),FnK J0 107 [T.ro (lV a)] (fun r=>[lV r]) (fun _=>[]) (f_H a)):=⟨Tryz.call107,fun a=>FnK.mk (u_H a)⟩
section
attribute [local irreducible] RW CW DK OkL Ok yL yM xQ wE XS.post rng wF xN ixO zQ yC xR yH zC GTo zE FnC FnK wJ wS Kp Lk BsL BuL RpL Bk Lc
instance t_by:FI J0 71 (∀(a:SPr),FnK J0 71 [qPr a] (fun r=>[lV r]) (fun _=>[]) (zNj a)):=⟨Tryz.call71,fun a=>iM Tryz.func71⟩
instance:HS Tryz.f156.8 [(2,3,0,.tr 8 15)]:=⟨⟩
instance(g_b:SPr→Int→(List Int)→(List Int)→Option (List Int))(c:SPr)(d:Int)(e:List Int)(f:(List Int)×Int):LH (R:=(List Int)) (zSt g_b c d e f) [1,2,3,7,9] [] (fun b=>[(8,L 1 I b.1),(10,I b.2)]) (.xe 2 [] fun a=>[(8,L 1 I a)]):=⟨⟩
instance(g_b:SPr→Int→(List Int)→(List Int)→Option (List Int))(c:SPr)(d:Int)(e:List Int):LH (R:=(List Int)) (zSu g_b c d e) [1,2,3,7] [] (fun b=>[(8,L 1 I b.1),(9,I b.2)]) (.xe 0 [1,2,3,7] fun a=>[(8,L 1 I a)]):=⟨⟩
theorem yBP{g_b:SPr→Int→(List Int)→(List Int)→Option (List Int)}[FI J0 126 (∀(x0:SPr)(x1:Int)(x2:List Int)(x3:List Int),FnK J0 126 [qPr x0,I x1,T.ro (lV x2),T.ro (lV x3)] (fun r:(List Int)=>[lV r]) (fun _=>[]) (g_b x0 x1 x2 x3))]:∀(x0:SPr)(x1:Int)(x2:List Int),FnK J0 156 [qPr x0,I x1,T.ro (lV x2)] (fun r:(List Int)=>[lV r]) (fun _=>[]) (b_g g_b x0 x1 x2):=fun x0 x1 x2=>iM Tryz.func156
theorem yBQ{g_b:SPr→Int→(List Int)→(List Int)→Option (List Int)}(H_b:∀(x0:SPr)(x1:Int)(x2:List Int)(x3:List Int) r,g_b x0 x1 x2 x3=jq r→FnC J0 126 [qPr x0,I x1,T.ro (lV x2),T.ro (lV x3)] [lV r] [])(x0:SPr)(x1:Int)(x2:List Int)(r:(List Int))(h:b_g g_b x0 x1 x2=jq r):FnC J0 156 [qPr x0,I x1,T.ro (lV x2)] [lV r] []:=by have:FI J0 126 (∀(x0:SPr)(x1:Int)(x2:List Int)(x3:List Int),FnK J0 126 [qPr x0,I x1,T.ro (lV x2),T.ro (lV x3)] (fun r:(List Int)=>[lV r]) (fun _=>[]) (g_b x0 x1 x2 x3)):=⟨Tryz.call126,fun x0 x1 x2 x3=>FnK.mk (H_b x0 x1 x2 x3)⟩;exact(yBP x0 x1 x2).go h
instance t_bM:FI J0 153 (∀(a b:Int),FnK J0 153 [I a,I b] (fun r=>[I r]) (fun _=>[]) (zSC a b)):=⟨Tryz.call153,fun a b=>iM Tryz.func153⟩
end
end Go.Wk
