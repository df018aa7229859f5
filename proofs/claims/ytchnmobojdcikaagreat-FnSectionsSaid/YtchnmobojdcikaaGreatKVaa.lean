/- x -/
import Derived.Test.YtchnmobojdcikaaGreatKWT
open Go.Proofs.Tryz renaming prog→J0,underlying24→Lp,underlying3→H2,underlying141→Hz,call320→Ja9
open List renaming replicate→J1
open Nat renaming le_refl→Jk,zero_le→Kf
open Option renaming some→dJ,none→dK
open Bool renaming true→dL,false→dM
namespace Go.Wk
open Go Go.Proofs Go.Ab
set_option maxRecDepth 100000
set_option maxHeartbeats 4000000
section
attribute [local irreducible] RW CW DK OkL Ok yO yY wQ wK XS.post rng wS xR ixO zQ zZ wP yG zH GTo zX FnC FnK vM uH Kp Lk BsL BuL RpL Bk Lc JQ AK
instance t_bR:FI J0 15 (∀(a:List Int),FnK J0 15 [T.ro ((L 1 (IK .u8)) a)] (fun r=>[B r]) (fun _=>[]) (zVs a)):=⟨Tryz.call15,fun a=>iM Tryz.func15⟩
instance:HS Tryz.f168.8 [(2,2,0,.tr 5 7)]:=⟨⟩
instance t_as:FI J0 168 (∀(a b:Int),FnK J0 168 [I a,I b] (fun r=>[lV r]) (fun _=>[]) (zF5 a b)):=⟨Tryz.call168,fun a b=>iM Tryz.func168⟩
instance:HS Tryz.f329.8 [(2,2,0,.tr 7 11)]:=⟨⟩
instance(b:List Int):LH (R:=(List Int)) (zVv b) [0] [] (fun a=>[(2,I a.1),(7,L 1 I a.2.1),(8,I a.2.2)]) (.xe 0 [0] fun c=>[(7,L 1 I c)]):=⟨⟩
instance t_aS:FI J0 329 (∀(a:List Int)(b c:Int),FnK J0 329 [T.ro (lV a),I b,I c] (fun r=>[lV r]) (fun _=>[]) (zRE a b c)):=⟨Tryz.call329,fun a b c=>iM Tryz.func329⟩
instance:HS Tryz.f318.8 [(2,2,0,.tr 7 11),(0,14,0,.tr 12 7)]:=⟨⟩
instance t_bn:FI J0 318 (∀(a:Int)(b:List Int)(c:Int),FnK J0 318 [I a,T.ro (lV b),I c] (fun r=>[lV r]) (fun _=>[]) (zNv a b c)):=⟨Tryz.call318,fun a b c=>iM Tryz.func318⟩
instance:HS Tryz.f139.8 [(2,2,0,.tr 9 13)]:=⟨⟩
instance(c:Int)(d:List Int)(e:List (List Int))(f:(List Int)×Int):LH (R:=(List Int)) (zRj c d e f) [0,1,2,10] [] (fun b=>[(9,L 1 I b.1),(11,I b.2)]) (.xe 2 [] fun a=>[(9,L 1 I a)]):=⟨⟩
instance(c:Int)(d:List Int)(e:List (List Int)):LH (R:=(List Int)) (zOt c d e) [0,1,2] [] (fun b=>[(9,L 1 I b.1),(10,I b.2)]) (.xe 0 [0,1,2] fun a=>[(9,L 1 I a)]):=⟨⟩
instance t_L:FI J0 139 (∀(a:Int)(b:List Int)(c:List (List Int))(d:Int),FnK J0 139 [I a,T.ro (lV b),T.ro (lM c),I d] (fun r=>[lV r]) (fun _=>[]) (f_L a b c d)):=⟨Tryz.call139,fun a b c d=>iM Tryz.func139⟩
instance:HS Tryz.f244.8 [(2,2,0,.tr 9 11),(0,28,0,.tr 18 9),(2,4,0,.tr 9 28)]:=⟨⟩
instance(b:Int)(c:List (List Int))(d:List (List Int))(e:Int):LH (R:=(List (List Int))) (zOu b c d e) [0,1,2,3] [] (fun a=>[(9,L 1 lV a.1),(10,I a.2)]) (.xe 0 [0,1,2,3] fun f=>[(9,L 1 lV f)]):=⟨⟩
instance t_V:FI J0 244 (∀(a:Int)(b:List (List Int))(c:List (List Int))(d:Int),FnK J0 244 [I a,T.ro (lM b),T.ro (lM c),I d] (fun r:(List (List Int))=>[lM r]) (fun _=>[]) (f_V a b c d)):=⟨Tryz.call244,fun a b c d=>iM Tryz.func244⟩
instance(a:List Int):LH (R:=Bool) (zUR a) [0] [] (fun b=>[(3,I b)]) (.xs (.xe 0 [0] fun _=>[]) .xr):=⟨⟩
instance t_aA:FI J0 208 (∀(a:List Int),FnK J0 208 [T.ro (lV a)] (fun r=>[B r]) (fun _=>[]) (zNm a)):=⟨Tryz.call208,fun a=>iM Tryz.func208⟩
instance(a b:List Int):LH (R:=Bool) (yAH a b) [0,1] [] (fun c=>[(5,I c)]) (.xs (.xe 0 [0,1] fun _=>[]) .xr):=⟨⟩
instance t_Z:FI J0 231 (∀(a b:List Int),FnK J0 231 [T.ro (lV a),T.ro (lV b)] (fun r=>[B r]) (fun _=>[]) (f_Z a b)):=⟨Tryz.call231,fun a b=>iM Tryz.func231⟩
instance(a:SPr)(b c:Int):LH (R:=Bool) (zVF a b c) [1,2,5] [] (fun d=>[(6,I d)]) (.xs (.xe 2 [] fun _=>[]) .xr):=⟨⟩
instance(a:SPr)(b:Int):LH (R:=Bool) (zVG a b) [1,2] [] (fun c=>[(5,I c)]) (.xs (.xe 0 [1,2] fun _=>[]) .xr):=⟨⟩
instance t_ax:FI J0 230 (∀(a:SPr)(b:Int),FnK J0 230 [qPr a,I b] (fun r=>[B r]) (fun _=>[]) (zVH a b)):=⟨Tryz.call230,fun a b=>iM Tryz.func230⟩
instance(a:List (List Int))(b:List (List Int)):LH (R:=Bool) (zUm a b) [0,1] [] (fun c=>[(5,I c)]) (.xs (.xe 0 [0,1] fun _=>[]) .xr):=⟨⟩
instance t_bf:FI J0 297 (∀(a:List (List Int))(b:List (List Int)),FnK J0 297 [T.ro (lM a),T.ro (lM b)] (fun r=>[B r]) (fun _=>[]) (zXk a b)):=⟨Tryz.call297,fun a b=>iM Tryz.func297⟩
instance t_bW:FI J0 303 (∀(a b c:Int),FnK J0 303 [I a,I b,I c] (fun r=>[I r]) (fun _=>[]) (zXx a b c)):=⟨Tryz.call303,fun a b c=>iM Tryz.func303⟩
instance t_a6:FI J0 323 (∀(a:zN)(b c:Int),FnK J0 323 [xG a,I b,I c] (fun r=>[(fun x=>T.agg [(Ro lV) x.x,(Ro lV) x.v]) r]) (fun _=>[]) (zLk a b c)):=⟨Tryz.call323,fun a b c=>iM Tryz.func323⟩
instance:HS Tryz.f334.8 [(2,2,0,.tr 7 9),(0,36,0,.tr 18 7)]:=⟨⟩
instance(b:zC)(c:List Int)(d:Int):LH (R:=(List Int)) (zF6 b c d) [1,2,3] [] (fun a=>[(7,L 1 I a.1),(8,I a.2)]) (.xe 0 [1,2,3] fun e=>[(7,L 1 I e)]):=⟨⟩
instance t_ap:FI J0 334 (∀(a:zC)(b:List Int)(c:Int),FnK J0 334 [wL a,T.ro (lV b),I c] (fun r=>[lV r]) (fun _=>[]) (zUS a b c)):=⟨Tryz.call334,fun a b c=>iM Tryz.func334⟩
instance(g_b:SPr→(List Int)→Int→Option (List Int))(b:SPr)(c:(List Int)×Int)(d:Int):LH (R:=(List Int)) (zUu g_b b c d) [0,6,8,9,10,15] [] (fun a=>[(1,L 1 I a.1),(16,I a.2)]) (.xe 2 [6,15] fun e=>[(1,L 1 I e)]):=⟨⟩
instance(g_b:SPr→(List Int)→Int→Option (List Int))(b:SPr)(c:List Int):LH (R:=(List Int)) (zUv g_b b c) [0,8,9] [] (fun a=>[(1,L 1 I a.1),(10,I a.2)]) (.xe 0 [0,8,9] fun d=>[(1,L 1 I d)]):=⟨⟩
theorem yEl{g_b:SPr→(List Int)→Int→Option (List Int)}[FI J0 298 (∀(x0:SPr)(x1:List Int)(x2:Int),FnK J0 298 [T.ro ((Pt wH) x0),L 1 I x1,I x2] (fun _:(List Int)=>[]) (fun r=>[(1,lV r)]) (g_b x0 x1 x2))]:∀(x0:SPr)(x1:List Int)(x2:List Int),FnK J0 246 [T.ro ((Pt wH) x0),L 1 I x1,T.ro (lV x2)] (fun _:(List Int)=>[]) (fun r=>[(1,lV r)]) (b_d g_b x0 x1 x2):=fun x0 x1 x2=>iM Tryz.func246
theorem yEm{g_b:SPr→(List Int)→Int→Option (List Int)}(H_b:∀(x0:SPr)(x1:List Int)(x2:Int) r,g_b x0 x1 x2=dJ r→FnC J0 298 [T.ro ((Pt wH) x0),L 1 I x1,I x2] [] [(1,lV r)])(x0:SPr)(x1:List Int)(x2:List Int)(r:(List Int))(h:b_d g_b x0 x1 x2=dJ r):FnC J0 246 [T.ro ((Pt wH) x0),L 1 I x1,T.ro (lV x2)] [] [(1,lV r)]:=by have:FI J0 298 (∀(x0:SPr)(x1:List Int)(x2:Int),FnK J0 298 [T.ro ((Pt wH) x0),L 1 I x1,I x2] (fun _:(List Int)=>[]) (fun r=>[(1,lV r)]) (g_b x0 x1 x2)):=⟨Tryz.call298,fun x0 x1 x2=>FnK.mk (H_b x0 x1 x2)⟩;exact(yEl x0 x1 x2).go h
instance:HS Tryz.f226.8 [(2,2,0,.tr 5 7)]:=⟨⟩
instance t_aZ:FI J0 226 (∀(a b:Int),FnK J0 226 [I a,I b] (fun r=>[lV r]) (fun _=>[]) (zLf a b)):=⟨Tryz.call226,fun a b=>iM Tryz.func226⟩
instance t_cf:FI J0 333 (∀(a b:Int),FnK J0 333 [(IK .u64) a,(IK .u64) b] (fun r=>[(IK .u64) r.1,(IK .u64) r.2]) (fun _=>[]) (yDt a b)):=⟨Tryz.call333,fun a b=>iM Tryz.func333⟩
instance t_bz:FI J0 320 (∀(a b:Int),FnK J0 320 [(IK .u64) a,(IK .u64) b] (fun r=>[(IK .u64) r.1,(IK .u64) r.2]) (fun _=>[]) (zU9 a b)):=⟨Ja9,fun a b=>iM Tryz.func320⟩
end
theorem u_q(x0:List Int)(x1:Int)(r:(List Int))(h:f_q x0 x1=dJ r):FnC J0 292 [T.ro (lV x0),I x1] [lV r] []:=by
 refine fB Tryz.func292 (fun St W w0 v=>?_);refine sR (oP (zPd 1 rfl) ?_);refine rN (CW.seq (sR (qA ?_)));refine zLX ?_;refine rN (cn h (fun hc h=>?_) (fun hc h=>?_))
 ·refine CW.region ?_
  cases h
 ·refine CW.skip (nA (sR (qA ?_)))
  refine zKz ?_;refine oP (zGN H2 Hz rfl rfl) ?_;refine qA ?_;refine oP (zGN H2 Hz rfl rfl) ?_;obtain⟨r1,gD,h⟩:=bd h;refine cA Ja9 (FnK.go (t_bz.h _ _) gD) ?_;refine yBH ?_;refine zYA ?_;refine zYA ?_;refine zBG ?_;refine zBG ?_;refine rN (CW.seq (sR (qA ?_)));refine oP (zNC rfl rfl rfl) ?_;refine qA ?_;refine RW.cases 23 _ rfl (fun hc=>?_) (fun hc=>?_)
  ·have h:=cT hc h
   refine sk2 ?_;refine sk2 ?_;refine zK0 ?_;refine rN (CW.condT rfl ?_);refine CW.region ?_;cases h
  ·have h:=cF hc h
   refine zZB ?_;refine RW.cons (xN.guard 2 dM 23 (zNC rfl rfl rfl)) ?_;refine zK0 ?_;refine rN (cn h (fun hc h=>?_) (fun hc h=>?_))
   ·refine CW.region ?_
    cases h
   ·refine CW.skip (nA (sR (qA ?_)))
    refine oP (zGN Hz H2 rfl rfl) ?_;obtain⟨m2,hm2,h⟩:=bd h;refine oP (zPh (f:=I) (z:=0) elt_24 (rfl) hm2 rfl rfl rfl) ?_;refine zBG ?_;refine RW.ghost (zX.tr 7 30 _ rfl rfl (zCa (zFL (Enc.clean (f:=I)))) rfl) ?_;refine rN (CW.seq (CW.to [(0,T.ro (lV x0)),(7,L 1 I (J1 m2 (0:Int)))] ⟨rfl,rfl,trivial⟩ ?_));refine CW.region (qA ?_);refine qA ?_;refine oP (zPn elt_24 rfl (fun _=>(zEg.same rfl rfl)) (fun _=>(zHB.ro (zET rfl rfl))) (Kf _) (Jk _) rfl) ?_;refine zBG ?_;refine rN (CW.seq (CW.block ?_));obtain⟨r6,aI,h⟩:=bd h;refine CW.lp (s:=(wC (J1 m2 (0:Int)) 0 (x0.take (((J1 m2 (0:Int)).length)-0)),((min x0.length (((J1 m2 (0:Int)).length)-0):Nat):Int))) zCD (fun s1:(List Int)×Int=>vU [(7,L 1 I s1.1),(8,I s1.2)]) (fun(r6:(List Int)) e E=>e=.exit 0∧zX ⟨St,W,w0,Tryz.f292.ntmps⟩ E (vU [(7,L 1 I r6)])) (.has ⟨rfl,rfl,trivial⟩) (fun s1 x h=>?_) aI (fun e E hq=>?_)
    ·refine CW.seq (sR (qA ?_))
     refine qA ?_;refine yBG ?_;refine zLX ?_;refine rN (cn h (fun hc h=>?_) (fun hc h=>?_))
     ·refine CW.skip (nA (CW.block ?_))
      obtain⟨v3,pB,h⟩:=bd h;obtain⟨v4,mK,h⟩:=bd h;obtain⟨v5,hv5,h⟩:=bd h;refine CW.dk ?_;refine zBn [(8,_)] ?_;refine zBn [(7,_)] ?_;refine zBn [(8,_)] ?_;refine dG [(39,_),(7,_),(40,_)] [([(41,dJ (T.sub 7 [] 1 ((s1.2:Int).toNat) ((s1.1.length:Int).toNat)))],[(41,0)])] ⟨rfl,rfl,rfl,trivial⟩ (fun E h=>xN.opE (zS3 row_24 pB (zII h.1 h.2.1 rfl rfl) (zZw (zJt pB) h.2.2.1) yB2 rfl) rfl) ?_;refine zBn [(7,_)] ?_;refine zBn [(8,_)] ?_;refine dG [(42,_),(7,_),(43,_)] [([(44,dJ (T.sub 7 [] 1 ((0:Int).toNat) ((s1.2:Int).toNat)))],[(44,0)])] ⟨rfl,rfl,rfl,trivial⟩ (fun E h=>xN.opE (zS3 row_24 mK (zII h.1 h.2.1 rfl rfl) yB3 (zZw (zJu mK) h.2.2.1) rfl) rfl) ?_;refine dG [(41,_),(7,_),(44,_)] [([(7,dJ (L 1 I (wC s1.1 ((s1.2:Int).toNat) (v4.take (((s1.1.length:Int).toNat)-((s1.2:Int).toNat))))))],[(7,1)]),([(45,dJ (I ((min v4.length (((s1.1.length:Int).toNat)-((s1.2:Int).toNat)):Nat):Int)))],[(45,0)])] ⟨rfl,rfl,rfl,trivial⟩ (fun E h=>xN.opE (zPn elt_24 h.2.1 (fun _=>(zEg.sub h.1)) (fun _=>(zHB.sub h.2.2.1 h.2.1 rfl mK)) (zQ8 pB) (zQ9 pB) rfl) rfl) ?_;refine yBI [(38,_),(45,_)] ?_;refine yD9 [(46,_)] ?_;refine dNA zEE ?_;exact nB (eN h)
     ·refine CW.exit (xA ?_)
      exact eX h
    ·obtain⟨rfl,hg⟩:=hq
     refine xB ?_;refine nA (CW.ghost hg ?_);refine sR (qA ?_);refine zBG ?_;refine RW.ghost (zX.tr 4 7 _ rfl rfl (zCa (zFL (Enc.clean (f:=I)))) rfl) ?_;refine rN (CW.ret ?_);obtain rfl:=sI h;exact rT
instance t_q:FI J0 292 (∀(a:List Int)(b:Int),FnK J0 292 [T.ro (lV a),I b] (fun r=>[lV r]) (fun _=>[]) (f_q a b)):=⟨Tryz.call292,fun a b=>FnK.mk (u_q a b)⟩
section
attribute [local irreducible] RW CW DK OkL Ok yO yY wQ wK XS.post rng wS xR ixO zQ zZ wP yG zH GTo zX FnC FnK vM uH Kp Lk BsL BuL RpL Bk Lc JQ AK
instance:HS Tryz.f242.8 [(2,6,0,.tr 7 16),(0,23,0,.tr 22 7),(0,24,0,.trq 21 5 [2,0]),(1,4,0,.trf 27 2 5 [2,0])]:=⟨⟩
instance(a:Int):LN (zJR a) 5:=⟨⟩
instance(a:Int)(A0 A1 A2:T):LHk (R:=zS) (zJR a) (T.ptr (T.agg [A0,A1,A2])) [1,4,11] [] (fun b=>[(5,T.ptr (T.agg [A0,I a,L 1 lV b.1])),(12,I b.2)]) (.xe 0 [1,11] fun c=>[(5,T.ptr (T.agg [A0,I a,L 1 lV c]))]):=⟨⟩
instance t_az:FI J0 242 (∀(a b:Int),FnK J0 242 [I a,I b] (fun r=>[zF4 r]) (fun _=>[]) (zUF a b)):=⟨Tryz.call242,fun a b=>iM Tryz.func242⟩
instance t_bM:FI J0 236 (∀(a:SPr),FnK J0 236 [T.ro ((Pt wH) a)] (fun r=>[I r]) (fun _=>[]) (zUP a)):=⟨Tryz.call236,fun a=>iM Tryz.func236⟩
end
theorem yEn(x1:Int)(r:(List Int))(h:zUJ x1=dJ r):FnC J0 219 [T.lit (.slice dK 0 0),I x1] [lV r] []:=by
 refine fB Tryz.func219 (fun St W w0 v=>?_);refine sR (oP (zPd 1 rfl) ?_);refine rN (CW.seq (sR (qA ?_)));refine zLX ?_;refine rN (cn h (fun hc h=>?_) (fun hc h=>?_))
 ·refine CW.region ?_
  cases h
 ·refine CW.skip (nA (CW.seq (sR (qA ?_))))
  refine qA ?_;refine oP (zLR Lp rfl rfl) ?_;refine qA ?_;refine oP (zLQ Lp rfl rfl) ?_;obtain⟨v1,hv1,h⟩:=bd h;refine zY8 ?_;obtain⟨v2,pZ,h⟩:=bd h;refine zY8 ?_;refine zBG ?_;refine rN (sR (qA ?_));refine yBF ?_;refine rN (cn h (fun hc h=>?_) (fun hc h=>?_))
  ·refine CW.region (qA ?_)
   refine qA ?_;refine oP (zLR Lp rfl rfl) ?_;refine oP (zWp elt_24 rfl rfl rfl) ?_;refine qA ?_;obtain⟨v3,pB,h⟩:=bd h;refine oP (zS6 (f:=I) (z:=0) elt_24 H2 (rfl) pB rfl rfl rfl) ?_;refine qA ?_;refine oP (zLQ Lp rfl rfl) ?_;obtain⟨v4,mK,h⟩:=bd h;refine oP (yB6 (f:=I) elt_24 mK rfl rfl (.inl rfl) rfl) ?_;refine zBG ?_;refine RW.ghost (zX.tr 0 25 _ rfl rfl (zCa (zFL (Enc.clean (f:=I)))) rfl) ?_;refine rN (sR (qA ?_));refine zBG ?_;refine RW.ghost (zX.tr 4 0 _ rfl rfl (zCa (zFL (Enc.clean (f:=I)))) rfl) ?_;refine rN (CW.ret ?_);obtain rfl:=sI h;exact rT
  ·refine CW.skip (nA (sR (qA ?_)))
   refine zBG ?_;refine rN (CW.ghost (zX.nil 4 1 rfl) ?_);refine CW.ret ?_;obtain rfl:=sI h;exact rT
instance t_bu:FI J0 219 (∀(a:Int),FnK J0 219 [T.lit (.slice dK 0 0),I a] (fun r=>[lV r]) (fun _=>[]) (zUJ a)):=⟨Tryz.call219,fun a=>FnK.mk (yEn a)⟩
section
attribute [local irreducible] RW CW DK OkL Ok yO yY wQ wK XS.post rng wS xR ixO zQ zZ wP yG zH GTo zX FnC FnK vM uH Kp Lk BsL BuL RpL Bk Lc JQ AK
instance:HS Tryz.f105.8 [(2,10,0,.tr 6 24),(0,33,0,.tr 31 6),(2,14,0,.tr 6 33)]:=⟨⟩
instance(b:List (List Int)):LH (R:=(List Int)) (zUK b) [0,9,10] [] (fun a=>[(3,I a.1),(11,I a.2)]) (.xe 0 [9,10] fun c=>[(3,I c)]):=⟨⟩
instance(b:List (List Int)):LH (R:=(List Int)) (zUL b) [25,26] [] (fun a=>[(6,L 1 I a.1),(27,I a.2)]) (.xe 2 [25,26] fun c=>[(6,L 1 I c)]):=⟨⟩
instance t_N:FI J0 105 (∀(a:List (List Int)),FnK J0 105 [T.ro (lM a)] (fun r=>[lV r]) (fun _=>[]) (f_N a)):=⟨Tryz.call105,fun a=>iM Tryz.func105⟩
instance:HS Tryz.f295.8 [(0,12,0,.fz 8),(0,12,1,.fz 11)]:=⟨⟩
instance t_bU:FI J0 295 (∀(a:List Int)(b c:Int),FnK J0 295 [T.ro (lV a),I b,I c] (fun r=>[lV r]) (fun _=>[]) (zXr a b c)):=⟨Tryz.call295,fun a b c=>iM Tryz.func295⟩
end
end Go.Wk
