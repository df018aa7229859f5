/- x -/
import Derived.Test.YtchnmobojdcikaaGreatKWT
open Go.Proofs.Tryz renaming prog→J0,underlying24→Lp,call233→Q6,call342→Ja8
open Option renaming some→dJ,none→dK
open Bool renaming true→dL,false→dM
namespace Go.Wk
open Go Go.Proofs Go.Ab
set_option maxRecDepth 100000
set_option maxHeartbeats 4000000
section
attribute [local irreducible] RW CW DK OkL Ok yO yY wQ wK XS.post rng wS xR ixO zQ zZ wP yG zH GTo zX FnC FnK vM uH Kp Lk BsL BuL RpL Bk Lc JQ AK
instance t_g:FI J0 112 (∀(a:zE)(b:Int),FnK J0 112 [T.ptr (wO a),I b] (fun r=>[I r.1]) (fun r=>[(0,(Pt (fun x=>T.agg [(Ro (L 1 (IK .u8))) x.code,I x.at_,I x.seed])) r.2)]) (f_g a b)):=⟨Tryz.call112,fun a b=>iM Tryz.func112⟩
instance t_aq:FI J0 203 (∀(a:zE)(b:List Int),FnK J0 203 [T.ptr (wO a),T.ro (lV b)] (fun r=>[I r.1]) (fun r=>[(0,(Pt (fun x=>T.agg [(Ro (L 1 (IK .u8))) x.code,I x.at_,I x.seed])) r.2)]) (zED a b)):=⟨Tryz.call203,fun a b=>iM Tryz.func203⟩
instance:HS Tryz.f335.8 [(2,2,0,.tr 5 8),(0,26,0,.tr 20 5),(2,7,0,.tr 5 26),(0,34,0,.tr 29 5)]:=⟨⟩
instance(c:ByteArray)(d:Int):LH (R:=(List ByteArray)) (zV3 c d) [0,1] [] (fun a=>[(5,L 1 Str a.1),(6,I a.2.1),(7,I a.2.2)]) (.xe 0 [1] fun b=>[(5,L 1 Str b.1),(6,I b.2)]):=⟨⟩
instance t_aT:FI J0 335 (∀(a:ByteArray)(b:Int),FnK J0 335 [Str a,(IK .u8) b] (fun r=>[(L 1 Str) r]) (fun _=>[]) (zRF a b)):=⟨Tryz.call335,fun a b=>iM Tryz.func335⟩
instance(b:List Int):LH (R:=Int) (zRg b) [0] [] (fun a=>[(3,I a.1),(4,I a.2)]) (.xe 0 [0] fun c=>[(3,I c)]):=⟨⟩
instance t_X:FI J0 123 (∀(a:List Int),FnK J0 123 [T.ro (lV a)] (fun r=>[I r]) (fun _=>[]) (f_X a)):=⟨Tryz.call123,fun a=>iM Tryz.func123⟩
instance:HS Tryz.f341.8 [(2,2,0,.tr 6 9)]:=⟨⟩
instance(c:List Int):LH (R:=(List Int)×Bool) (zV7 c) [1] [] (fun b=>[(6,L 1 I b.1),(7,I b.2)]) (.xs (.xe 0 [1] fun a=>[(6,L 1 I a)]) .xr):=⟨⟩
instance t_bm:FI J0 341 (∀(a:Int)(b:List Int),FnK J0 341 [I a,T.ro (lV b)] (fun r:(List Int)×Bool=>[lV r.1,B r.2]) (fun _=>[]) (zXG a b)):=⟨Tryz.call341,fun a b=>iM Tryz.func341⟩
theorem yEq{g_l:Int→Option ByteArray}[FI J0 342 (∀(x0:Int),FnK J0 342 [I x0] (fun r:ByteArray=>[Str r]) (fun _=>[]) (g_l x0))]:∀(x0:Int),FnK J0 342 [I x0] (fun r:ByteArray=>[Str r]) (fun _=>[]) (b_l g_l x0):=fun x0=>iM Tryz.func342
theorem yEr{g_l:Int→Option ByteArray}(H_l:∀(x0:Int) r,g_l x0=dJ r→FnC J0 342 [I x0] [Str r] [])(x0:Int)(r:ByteArray)(h:b_l g_l x0=dJ r):FnC J0 342 [I x0] [Str r] []:=by have:FI J0 342 (∀(x0:Int),FnK J0 342 [I x0] (fun r:ByteArray=>[Str r]) (fun _=>[]) (g_l x0)):=⟨Ja8,fun x0=>FnK.mk (H_l x0)⟩;exact(yEq x0).go h
end
theorem yEs:∀n,(∀(x0:Int) r,zLn n x0=dJ r→FnC J0 342 [I x0] [Str r] []):=by
  intro n
  induction n with
  |zero=>exact(fun _ r h=>by simp[zLn]at h)
  |succ n ih=>exact(fun x0 r h=>yEr ih x0 r (by simpa[zLn]using h))
theorem u_l(x0:Int)(r:ByteArray)(h:f_l x0=dJ r):FnC J0 342 [I x0] [Str r] []:=by obtain⟨n,hn⟩:=jS h;exact(yEs n) x0 r hn
instance t_l:FI J0 342 (∀(a:Int),FnK J0 342 [I a] (fun r=>[Str r]) (fun _=>[]) (f_l a)):=⟨Ja8,fun a=>FnK.mk (u_l a)⟩
section
attribute [local irreducible] RW CW DK OkL Ok yO yY wQ wK XS.post rng wS xR ixO zQ zZ wP yG zH GTo zX FnC FnK vM uH Kp Lk BsL BuL RpL Bk Lc JQ AK
instance:HS Tryz.f344.8 [(2,4,0,.tr 3 8),(0,29,0,.tr 20 3),(2,6,0,.tr 3 29),(2,6,1,.tr 3 39),(0,39,0,.tr 30 3)]:=⟨⟩
instance(c:List Int):LH (R:=ByteArray) (zV8 c) [0] [] (fun b=>[(3,L 1 (IK .u8) b.1),(4,I b.2)]) (.xe 0 [0] fun a=>[(3,L 1 (IK .u8) a)]):=⟨⟩
instance t_aU:FI J0 344 (∀(a:List Int),FnK J0 344 [T.ro (lV a)] (fun r=>[Str r]) (fun _=>[]) (zRG a)):=⟨Tryz.call344,fun a=>iM Tryz.func344⟩
instance t_bD:FI J0 343 (∀(a:Int),FnK J0 343 [I a] (fun r=>[Str r]) (fun _=>[]) (zRH a)):=⟨Tryz.call343,fun a=>iM Tryz.func343⟩
instance:HS Tryz.f241.8 [(2,2,0,.tr 3 6),(2,6,0,.tr 5 13),(0,19,0,.tr 18 5),(0,20,0,.tr 17 3),(2,4,0,.tr 3 20)]:=⟨⟩
instance(b:Int):LH (R:=(List (List Int))) (zIB b) [0] [] (fun a=>[(3,L 1 lV a.1),(4,I a.2)]) (.xe 0 [0] fun c=>[(3,L 1 lV c)]):=⟨⟩
instance t_D:FI J0 241 (∀(a:Int),FnK J0 241 [I a] (fun r:(List (List Int))=>[lM r]) (fun _=>[]) (f_D a)):=⟨Tryz.call241,fun a=>iM Tryz.func241⟩
instance:HS Tryz.f256.8 [(0,25,0,.trq 21 7 [2,0]),(1,6,0,.trf 27 2 7 [2,0])]:=⟨⟩
instance(a:SPr)(b:Int):LN (zJX a b) 7:=⟨⟩
instance(c:SPr)(a:Int)(A0 A1 A2:T):LHk (R:=zC) (zJX c a) (T.ptr (T.agg [A0,A1,A2])) [2,3,6] [] (fun b=>[(7,T.ptr (T.agg [A0,I a,L 1 lM b.1])),(8,I b.2)]) (.xe 0 [2,3] fun d=>[(7,T.ptr (T.agg [A0,I a,L 1 lM d]))]):=⟨⟩
instance t_aw:FI J0 256 (∀(a:SPr)(b c:Int),FnK J0 256 [qPr a,I b,I c] (fun r=>[wB r]) (fun _=>[]) (zRB a b c)):=⟨Tryz.call256,fun a b c=>iM Tryz.func256⟩
instance:HS Tryz.f129.8 [(2,2,0,.tr 5 7),(0,20,0,.tr 14 5),(2,4,0,.tr 5 20),(0,26,0,.tr 24 5),(2,8,0,.tr 5 26)]:=⟨⟩
instance(c:zC):LH (R:=(List Int)×zE) (zVL c) [3] [] (fun a=>[(0,T.ptr (T.agg [T.ro ((L 1 (IK .u8)) a.1),I a.2.1,I a.2.2.1])),(5,L 1 I a.2.2.2.1),(6,I a.2.2.2.2)]) (.xe 0 [3] fun b=>[(0,T.ptr (T.agg [T.ro ((L 1 (IK .u8)) b.1),I b.2.1,I b.2.2.1])),(5,L 1 I b.2.2.2)]):=⟨⟩
instance t_aW:FI J0 129 (∀(a:zE)(b:zC),FnK J0 129 [T.ptr (wO a),wL b] (fun r:(List Int)×zE=>[lV r.1]) (fun r=>[(0,(Pt (fun x=>T.agg [(Ro (L 1 (IK .u8))) x.code,I x.at_,I x.seed])) r.2)]) (zRI a b)):=⟨Tryz.call129,fun a b=>iM Tryz.func129⟩
instance(a:List Int):LH (R:=Int) (zIW a) [0] [] (fun b=>[(3,I b)]) (.xs (.xe 0 [] fun _=>[]) .xr):=⟨⟩
instance t_R:FI J0 250 (∀(a:List Int),FnK J0 250 [T.ro (lV a)] (fun r=>[I r]) (fun _=>[]) (f_R a)):=⟨Tryz.call250,fun a=>iM Tryz.func250⟩
instance t_aX:FI J0 233 (∀(a:Int),FnK J0 233 [I a] (fun r=>[B r]) (fun _=>[]) (zRk a)):=⟨Q6,fun a=>iM Tryz.func233⟩
instance(a:List Int):LH (R:=Bool) (zMX a) [5,6] [] (fun b=>[(7,I b)]) (.xs (.xe 0 [5,6] fun _=>[]) .xr):=⟨⟩
instance t_U:FI J0 207 (∀(a:List Int),FnK J0 207 [T.ro (lV a)] (fun r=>[B r]) (fun _=>[]) (f_U a)):=⟨Tryz.call207,fun a=>iM Tryz.func207⟩
end
theorem u_K(x0:List Int)(r:(List Int))(h:f_K x0=dJ r):FnC J0 227 [T.ro (lV x0)] [lV r] []:=by
 refine fB Tryz.func227 (fun St W w0 v=>?_);refine sR (oP (zPd 1 rfl) ?_);refine rN (CW.seq (sR (qA ?_)));refine RW.isnil Lp (zET rfl rfl) (.inl rfl) rfl rfl (fun b1 dz=>?_);refine rN (CW.cond _ rfl (fun hc=>?_) (fun hc=>?_));have hx:=dz hc;subst hx;have h:dJ ([])=dJ r:=by simpa[zZ,f_K]using h
 refine sR (oP (zPd 1 rfl) ?_);refine rN (CW.ret (rA ?_));obtain rfl:=sI h;exact rT;refine CW.skip (nA (sR (oP (zY3 elt_24 rfl) ?_)));refine qA ?_;obtain⟨v2,pZ,h⟩:=bd h;refine oP (zNB (f:=I) (g:=I) elt_24 (fun _=>rfl) (fun _=>rfl) inferInstance pZ rfl (zET rfl rfl) rfl) ?_;refine zBG ?_;refine RW.ghost (zX.tr 2 7 _ rfl rfl (zCa (zFL (Enc.clean (f:=I)))) rfl) ?_;refine rN (CW.ret ?_);obtain rfl:=sI h;exact rT
instance t_K:FI J0 227 (∀(a:List Int),FnK J0 227 [T.ro (lV a)] (fun r=>[lV r]) (fun _=>[]) (f_K a)):=⟨Tryz.call227,fun a=>FnK.mk (u_K a)⟩
section
attribute [local irreducible] RW CW DK OkL Ok yO yY wQ wK XS.post rng wS xR ixO zQ zZ wP yG zH GTo zX FnC FnK vM uH Kp Lk BsL BuL RpL Bk Lc JQ AK
instance:HS Tryz.f298.8 [(2,1,0,.tr 6 14),(3,2,0,.tr 58 6)]:=⟨⟩
instance(b:Int)(c:(List Int)):LH (R:=(List Int)) (zUt b c) [0,2,6,16] [] (fun a=>[(1,L 1 I a.1),(17,I a.2)]) (.xe 0 [16] fun d=>[(1,L 1 I d)]):=⟨⟩
instance(g_d:SPr→(List Int)→(List Int)→Option (List Int))(d:SPr)(e:Int)(f:(List Int)×Int)(a:Int):LH (R:=(List Int)) (yAK g_d d e f a) [0,2,8,58,59,60,65] [] (fun c=>[(1,L 1 I c.1),(66,I c.2)]) (.xe 4 [8,65] fun b=>[(1,L 1 I b)]):=⟨⟩
instance(g_d:SPr→(List Int)→(List Int)→Option (List Int))(c:SPr)(d:Int)(e:(List Int)):LH (R:=(List Int)) (yAL g_d c d e) [0,2,58,59] [] (fun b=>[(1,L 1 I b.1),(60,I b.2)]) (.xe 2 [0,2,58,59] fun a=>[(1,L 1 I a)]):=⟨⟩
instance(g_d:SPr→(List Int)→(List Int)→Option (List Int))(e:SPr)(f:Int)(b:(List Int)×Int)(c:Int):LH (R:=(List Int)) (yAM g_d e f b c) [0,2,8,58,59,60,65] [] (fun a=>[(1,L 1 I a.1),(66,I a.2)]) (.xe 4 [8,65] fun d=>[(1,L 1 I d)]):=⟨⟩
instance(g_d:SPr→(List Int)→(List Int)→Option (List Int))(c:SPr)(d:Int)(e:(List Int)):LH (R:=(List Int)) (yAN g_d c d e) [0,2,58,59] [] (fun a=>[(1,L 1 I a.1),(60,I a.2)]) (.xe 2 [0,2,58,59] fun b=>[(1,L 1 I b)]):=⟨⟩
theorem yEt{g_d:SPr→(List Int)→(List Int)→Option (List Int)}[FI J0 246 (∀(x0:SPr)(x1:List Int)(x2:List Int),FnK J0 246 [T.ro ((Pt wH) x0),L 1 I x1,T.ro (lV x2)] (fun _:(List Int)=>[]) (fun r=>[(1,lV r)]) (g_d x0 x1 x2))]:∀(x0:SPr)(x1:List Int)(x2:Int),FnK J0 298 [T.ro ((Pt wH) x0),L 1 I x1,I x2] (fun _:(List Int)=>[]) (fun r=>[(1,lV r)]) (b_b g_d x0 x1 x2):=fun x0 x1 x2=>iM Tryz.func298
theorem yEu{g_d:SPr→(List Int)→(List Int)→Option (List Int)}(H_d:∀(x0:SPr)(x1:List Int)(x2:List Int) r,g_d x0 x1 x2=dJ r→FnC J0 246 [T.ro ((Pt wH) x0),L 1 I x1,T.ro (lV x2)] [] [(1,lV r)])(x0:SPr)(x1:List Int)(x2:Int)(r:(List Int))(h:b_b g_d x0 x1 x2=dJ r):FnC J0 298 [T.ro ((Pt wH) x0),L 1 I x1,I x2] [] [(1,lV r)]:=by have:FI J0 246 (∀(x0:SPr)(x1:List Int)(x2:List Int),FnK J0 246 [T.ro ((Pt wH) x0),L 1 I x1,T.ro (lV x2)] (fun _:(List Int)=>[]) (fun r=>[(1,lV r)]) (g_d x0 x1 x2)):=⟨Tryz.call246,fun x0 x1 x2=>FnK.mk (H_d x0 x1 x2)⟩;exact(yEt x0 x1 x2).go h
instance(a:SPr)(b c:Int):LH (R:=Bool) (zNx a b c) [0,1,5,7,8] [] (fun d=>[(6,I d)]) (.xs (.xe 2 [5] fun _=>[]) .xr):=⟨⟩
instance(a:SPr)(b:Int):LH (R:=Bool) (zJY a b) [0,1,7] [] (fun c=>[(8,I c)]) (.xs (.xe 0 [0,1,7] fun _=>[]) .xr):=⟨⟩
instance t_ah:FI J0 224 (∀(a:SPr)(b:Int),FnK J0 224 [T.ro ((Pt wH) a),I b] (fun r=>[B r]) (fun _=>[]) (zYh a b)):=⟨Tryz.call224,fun a b=>iM Tryz.func224⟩
end
end Go.Wk
