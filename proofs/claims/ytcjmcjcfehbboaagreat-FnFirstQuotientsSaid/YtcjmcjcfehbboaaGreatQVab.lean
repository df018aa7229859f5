/- x -/
import Derived.Test.YtcjmcjcfehbboaaGreatQWT
open Go.Proofs.Tryz renaming prog→J0,underlying38→Kz,underlying3→Hd
open Option renaming some→jq,none→jr
open Bool renaming true→js,false→jt
namespace Go.Wk
open Go Go.Proofs Go.Ab
set_option maxRecDepth 100000
set_option maxHeartbeats 4000000
section
attribute [local irreducible] RW CW DK OkL Ok yL yM xQ wE XS.post rng wF xN ixO zQ yC xR yH zC GTo zE FnC FnK wJ wS Kp Lk BsL BuL RpL Bk Lc
instance(c:Int):LH (R:=Int) (zSM c) [2] [] (fun a=>[(0,I a.1),(1,I a.2.1),(7,I a.2.2)]) (.xe 0 [2] fun b=>[(7,I b)]):=⟨⟩
instance t_bc:FI J0 175 (∀(a b c:Int),FnK J0 175 [I a,I b,I c] (fun r=>[I r]) (fun _=>[]) (zSN a b c)):=⟨Tryz.call175,fun a b c=>iM Tryz.func175⟩
instance(a:List Int):LH (R:=Bool) (zSG a) [0] [] (fun b=>[(3,I b)]) (.xs (.xe 0 [0] fun _=>[]) .xr):=⟨⟩
instance t_bk:FI J0 195 (∀(a:List Int),FnK J0 195 [T.ro (lV a)] (fun r=>[B r]) (fun _=>[]) (zVg a)):=⟨Tryz.call195,fun a=>iM Tryz.func195⟩
instance:HS Tryz.f197.8 [(2,4,0,.tr 3 8),(0,29,0,.tr 20 3),(2,6,0,.tr 3 29),(2,6,1,.tr 3 39),(0,39,0,.tr 30 3)]:=⟨⟩
instance(c:List Int):LH (R:=ByteArray) (zSY c) [0] [] (fun b=>[(3,L 1 (IK .u8) b.1),(4,I b.2)]) (.xe 0 [0] fun a=>[(3,L 1 (IK .u8) a)]):=⟨⟩
instance t_aV:FI J0 197 (∀(a:List Int),FnK J0 197 [T.ro (lV a)] (fun r=>[Str r]) (fun _=>[]) (zPZ a)):=⟨Tryz.call197,fun a=>iM Tryz.func197⟩
instance:HS Tryz.f159.8 [(2,2,0,.tr 3 6),(0,25,0,.tr 21 3),(2,7,0,.tr 3 25)]:=⟨⟩
instance(b:List Int)(c:(List Int)×Int):LH (R:=(List Int)) (zVD b c) [0,4] [] (fun a=>[(3,L 1 I a.1),(5,I a.2)]) (.xe 2 [] fun d=>[(3,L 1 I d)]):=⟨⟩
instance(b:List Int):LH (R:=(List Int)) (zSZ b) [0] [] (fun a=>[(3,L 1 I a.1),(4,I a.2)]) (.xe 0 [0] fun c=>[(3,L 1 I c)]):=⟨⟩
instance t_J:FI J0 159 (∀(a:List Int),FnK J0 159 [T.ro (lV a)] (fun r=>[lV r]) (fun _=>[]) (f_J a)):=⟨Tryz.call159,fun a=>iM Tryz.func159⟩
instance(a b:List Int):LH (R:=Bool) (zSw a b) [0,1] [] (fun c=>[(5,I c)]) (.xs (.xe 0 [0,1] fun _=>[]) .xr):=⟨⟩
instance t_aN:FI J0 73 (∀(a b:List Int),FnK J0 73 [T.ro (lV a),T.ro (lV b)] (fun r=>[B r]) (fun _=>[]) (zPC a b)):=⟨Tryz.call73,fun a b=>iM Tryz.func73⟩
instance:HS Tryz.f178.8 [(0,20,0,.tr 16 3),(2,8,0,.tr 3 20)]:=⟨⟩
instance(b:(List Int)×Int)(c:Int):LH (R:=(List Int)) (zWL b c) [4,6,7,8,13] [] (fun a=>[(3,L 1 I a.1),(14,I a.2)]) (.xe 2 [4,13] fun d=>[(3,L 1 I d)]):=⟨⟩
instance(b:List Int):LH (R:=(List Int)) (zWM b) [6,7] [] (fun a=>[(3,L 1 I a.1),(8,I a.2)]) (.xe 0 [6,7] fun c=>[(3,L 1 I c)]):=⟨⟩
instance t_a4:FI J0 178 (∀(a:List Int),FnK J0 178 [T.ro (lV a)] (fun r=>[lV r]) (fun _=>[]) (zVa a)):=⟨Tryz.call178,fun a=>iM Tryz.func178⟩
end
theorem yBR(x1:Int)(r:(List Int))(h:zS7 x1=jq r):FnC J0 140 [T.lit (.slice jr 0 0),I x1] [lV r] []:=by
 refine fB Tryz.func140 (fun St W w0 v=>?_);refine sR (oP (zAH 1 rfl) ?_);refine rN (CW.seq (sR (zL ?_)));refine sL ?_;refine rN (cn h (fun hc h=>?_) (fun hc h=>?_))
 ·refine CW.region ?_
  cases h
 ·refine CW.skip (nA (CW.seq (sR (zL ?_))))
  refine zL ?_;refine oP (zK7 Kz rfl rfl) ?_;refine zL ?_;refine oP (zK6 Kz rfl rfl) ?_;obtain⟨v1,uf,h⟩:=bd h;refine zEt ?_;obtain⟨v2,fJ,h⟩:=bd h;refine zEt ?_;refine yX ?_;refine rN (sR (zL ?_));refine zKD ?_;refine rN (cn h (fun hc h=>?_) (fun hc h=>?_))
  ·refine CW.region (zL ?_)
   refine zL ?_;refine oP (zK7 Kz rfl rfl) ?_;refine oP (zTT elt_38 rfl rfl rfl) ?_;refine zL ?_;obtain⟨v3,cB,h⟩:=bd h;refine oP (zQU (f:=I) (z:=0) elt_38 Hd (rfl) cB rfl rfl rfl) ?_;refine zL ?_;refine oP (zK6 Kz rfl rfl) ?_;obtain⟨v4,pB,h⟩:=bd h;refine oP (zQX (f:=I) elt_38 pB rfl rfl (.inl rfl) rfl) ?_;refine yX ?_;refine RW.ghost (zE.tr 0 25 _ rfl rfl (zB (zG (Enc.clean (f:=I)))) rfl) ?_;refine rN (sR (zL ?_));refine yX ?_;refine RW.ghost (zE.tr 4 0 _ rfl rfl (zB (zG (Enc.clean (f:=I)))) rfl) ?_;refine rN (CW.ret ?_);obtain rfl:=sI h;exact rT
  ·refine CW.skip (nA (sR (zL ?_)))
   refine yX ?_;refine rN (CW.ghost (zE.nil 4 1 rfl) ?_);refine CW.ret ?_;obtain rfl:=sI h;exact rT
instance t_br:FI J0 140 (∀(a:Int),FnK J0 140 [T.lit (.slice jr 0 0),I a] (fun r=>[lV r]) (fun _=>[]) (zS7 a)):=⟨Tryz.call140,fun a=>FnK.mk (yBR a)⟩
section
attribute [local irreducible] RW CW DK OkL Ok yL yM xQ wE XS.post rng wF xN ixO zQ yC xR yH zC GTo zE FnC FnK wJ wS Kp Lk BsL BuL RpL Bk Lc
instance t_bG:FI J0 144 (∀(a:Int),FnK J0 144 [I a] (fun r=>[B r]) (fun _=>[]) (zPM a)):=⟨Tryz.call144,fun a=>iM Tryz.func144⟩
instance(g_c:SPr→(List Int)→Int→Option (List Int))(b:SPr)(c:(List Int)×Int)(d:Int):LH (R:=(List Int)) (zSz g_c b c d) [0,6,8,9,10,15] [] (fun a=>[(1,L 1 I a.1),(16,I a.2)]) (.xe 2 [6,15] fun e=>[(1,L 1 I e)]):=⟨⟩
instance(g_c:SPr→(List Int)→Int→Option (List Int))(b:SPr)(c:List Int):LH (R:=(List Int)) (zS0 g_c b c) [0,8,9] [] (fun a=>[(1,L 1 I a.1),(10,I a.2)]) (.xe 0 [0,8,9] fun d=>[(1,L 1 I d)]):=⟨⟩
theorem yBS{g_c:SPr→(List Int)→Int→Option (List Int)}[FI J0 146 (∀(x0:SPr)(x1:List Int)(x2:Int),FnK J0 146 [T.ro ((Pt yI) x0),L 1 I x1,I x2] (fun _:(List Int)=>[]) (fun r=>[(1,lV r)]) (g_c x0 x1 x2))]:∀(x0:SPr)(x1:List Int)(x2:List Int),FnK J0 99 [T.ro ((Pt yI) x0),L 1 I x1,T.ro (lV x2)] (fun _:(List Int)=>[]) (fun r=>[(1,lV r)]) (b_a g_c x0 x1 x2):=fun x0 x1 x2=>iM Tryz.func99
theorem yBT{g_c:SPr→(List Int)→Int→Option (List Int)}(H_c:∀(x0:SPr)(x1:List Int)(x2:Int) r,g_c x0 x1 x2=jq r→FnC J0 146 [T.ro ((Pt yI) x0),L 1 I x1,I x2] [] [(1,lV r)])(x0:SPr)(x1:List Int)(x2:List Int)(r:(List Int))(h:b_a g_c x0 x1 x2=jq r):FnC J0 99 [T.ro ((Pt yI) x0),L 1 I x1,T.ro (lV x2)] [] [(1,lV r)]:=by have:FI J0 146 (∀(x0:SPr)(x1:List Int)(x2:Int),FnK J0 146 [T.ro ((Pt yI) x0),L 1 I x1,I x2] (fun _:(List Int)=>[]) (fun r=>[(1,lV r)]) (g_c x0 x1 x2)):=⟨Tryz.call146,fun x0 x1 x2=>FnK.mk (H_c x0 x1 x2)⟩;exact(yBS x0 x1 x2).go h
instance(a:List Int):LH (R:=Int) (zLC a) [0,5,6] [] (fun b=>[(7,I b)]) (.xs (.xe 0 [5,6] fun _=>[]) .xr):=⟨⟩
instance t_as:FI J0 149 (∀(a:List Int),FnK J0 149 [T.ro (lV a)] (fun r=>[I r]) (fun _=>[]) (zNg a)):=⟨Tryz.call149,fun a=>iM Tryz.func149⟩
end
end Go.Wk
