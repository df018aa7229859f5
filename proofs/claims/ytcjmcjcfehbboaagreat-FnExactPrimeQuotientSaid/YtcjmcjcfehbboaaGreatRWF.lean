/- x -/
import Derived.Test.YtcjmcjcfehbboaaGreatRAbC
open List renaming replicate→J0
open Int renaming fdiv->Hu
open Option renaming some->Wu,none->Wv
open Bool renaming true->Ww,false->Wx
noncomputable section
namespace Go.Wk
open Go Go.Ab
abbrev WA:=List Int
abbrev WB:=List WA
structure SPr where
 zA:WA
 zQ:WB
 zG:List WB
abbrev yM(x:SPr):T:=.agg [(L 1 I) x.zA,(L 1 (L 1 I)) x.zQ,(L 1 (L 1 (L 1 I))) x.zG]
instance:Enc yM:=.of fun _=>zN0 ⟨Enc.t (f:=(L 1 I)) inferInstance _,Enc.t (f:=(L 1 (L 1 I))) inferInstance _,Enc.t (f:=(L 1 (L 1 (L 1 I)))) inferInstance _,trivial⟩
structure zS where
 Prime:Int
 Dim:Int
 zR:List WB
abbrev yE(x:zS):T:=.agg [I x.Prime,I x.Dim,(L 1 (L 1 (L 1 I))) x.zR]
instance:Enc yE:=.of fun _=>zN0 ⟨Enc.t (f:=I) inferInstance _,Enc.t (f:=I) inferInstance _,Enc.t (f:=(L 1 (L 1 (L 1 I)))) inferInstance _,trivial⟩
structure zM where
 Prime:Int
 wP:Int
 Rows:WB
abbrev zU(x:zM):T:=.agg [I x.Prime,I x.wP,(L 1 (L 1 I)) x.Rows]
instance:Enc zU:=.of fun _=>zN0 ⟨Enc.t (f:=I) inferInstance _,Enc.t (f:=I) inferInstance _,Enc.t (f:=(L 1 (L 1 I))) inferInstance _,trivial⟩
def zX7(b:WA)(c:Int):Option Int:=(rng (c-b.length)).bind fun a=>cond (a<0) (Wu (-1)) (Wu a)
def zZb(b:WB)(a:Int×Int):Option ((Int×Int)⊕(Int⊕Int)):=cond (a.2<b.length) ((ixO b a.2).bind fun d=>(zX7 d a.1).bind fun c=>cond (c<0) (Wu (.inr (.inr (-1)))) ((rng (a.2+1)).bind fun e=>Wu (.inl (c,e)))) (Wu (.inr (.inl a.1)))
def yA9(b:WB)(d:Int):Option Int:=(rng (d-b.length)).bind fun c=>cond (c<0) (Wu (-1)) ((zF (zZb b) (c,0)).bind fun a=>match a with|(.inl a)=>Wu a|(.inr a)=>Wu a)
def zUZ(b:WA)(a:WA×Int):Option ((WA×Int)⊕WA):=cond (a.2<b.length) ((ixO b a.2).bind fun c=>(ixO a.1 a.2).bind fun _=>(rng (a.2+1)).bind fun d=>Wu (.inl (a.1.set a.2.toNat c,d))) (Wu (.inr a.1))
def zVa(a:WA):Option WA:=(yO (a.length:Int)).bind fun b=>(zF (zUZ a) (J0 b (0:Int),0)).bind fun c=>Wu c
def zVb(b:WB)(a:WB×Int):Option ((WB×Int)⊕WB):=cond (a.2<b.length) ((ixO b a.2).bind fun c=>(zVa c).bind fun d=>(ixO a.1 a.2).bind fun _=>(rng (a.2+1)).bind fun e=>Wu (.inl (a.1.set a.2.toNat d,e))) (Wu (.inr a.1))
def zX8(a:WB):Option WB:=(yO (a.length:Int)).bind fun b=>(zF (zVb a) (J0 b ([]:WA),0)).bind fun c=>Wu c
def yAA(a:Int):Option Bool:=cond (a==2) (Wu Ww) (cond (a==3) (Wu Ww) (cond (a==5) (Wu Ww) (Wu (a==7))))
def zVc(a b c:Int):Option Bool:=cond (a>=b) (Wu (a<=c)) (Wu Wx)
def f_P(a:WA):Option WA:=(yR [] a).bind fun b=>Wu b
def zVd(g_a:SPr->Int->WA->WA->Option WA)(d:SPr)(b:Int)(f:WA)(e:WA×Int)(a:WA×Int):Option ((WA×Int)⊕WA):=(ixO f e.2).bind fun g=>cond (a.2<g) ((rng (b+1)).bind fun h=>(ixO d.zG b).bind fun i=>(rng (e.2-b)).bind fun j=>(rng (j-1)).bind fun k=>(ixO i k).bind fun l=>(g_a d h a.1 l).bind fun m=>(rng (a.2+1)).bind fun c=>Wu (.inl (m,c))) (Wu (.inr a.1))
def zVe(g_a:SPr->Int->WA->WA->Option WA)(d:SPr)(e:Int)(f:WA)(a:WA×Int):Option ((WA×Int)⊕WA):=cond (a.2<d.zA.length) ((zF (zVd g_a d e f a) (a.1,0)).bind fun b=>(rng (a.2+1)).bind fun c=>Wu (.inl (b,c))) (Wu (.inr a.1))
def b_h(g_a:SPr->Int->WA->WA->Option WA)(b:SPr)(c:Int)(d:WA):Option WA:=(yO (b.zA.length:Int)).bind fun e=>(rng (c+1)).bind fun f=>(zF (zVe g_a b c d) (J0 e (0:Int),f)).bind fun a=>Wu a
def zX9(g_h:SPr->Int->WA->Option WA)(c:SPr)(b:Int)(d:WA)(a:WA×Int):Option ((WA×Int)⊕WA):=(ixO d b).bind fun e=>cond (a.2<e) ((g_h c b a.1).bind fun f=>(rng (a.2+1)).bind fun g=>Wu (.inl (f,g))) (Wu (.inr a.1))
def b_a(g_h:SPr->Int->WA->Option WA)(g_a:SPr->Int->WA->WA->Option WA)(b:SPr)(a:Int)(q g:WA):Option WA:=cond (a>=b.zA.length) ((yO (b.zA.length:Int)).bind fun t=>Wu (J0 t (0:Int))) ((f_P q).bind fun r=>(f_P g).bind fun s=>(ixO r a).bind fun _=>(ixO s a).bind fun _=>(zF (zX9 g_h b a g) (r.set a.toNat 0,0)).bind fun u=>(rng (a+1)).bind fun h=>(g_a b h u (s.set a.toNat 0)).bind fun d=>(ixO q a).bind fun i=>(ixO g a).bind fun j=>(rng (i+j)).bind fun c=>(ixO b.zA a).bind fun k=>cond (c>=k) ((ixO b.zA a).bind fun l=>(rng (c-l)).bind fun m=>(rng (a+1)).bind fun n=>(ixO b.zQ a).bind fun o=>(g_a b n o d).bind fun p=>(f_P p).bind fun e=>(ixO e a).bind fun _=>Wu (e.set a.toNat m)) ((f_P d).bind fun f=>(ixO f a).bind fun _=>Wu (f.set a.toNat c)))
mutual
def zR0:Nat->SPr->Int->WA->Option WA|0=>fun _ _ _=>Wv|n+1=>b_h (zOu n)
def zOu:Nat->SPr->Int->WA->WA->Option WA|0=>fun _ _ _ _=>Wv|n+1=>b_a (zR0 n) (zOu n)
end
def f_a(a:SPr)(b:Int)(c d:WA):Option WA:=zGg fun n=>zOu n a b c d
def zQm(b:SPr)(c:Int)(a:Int×WA×WA):Option ((Int×WA×WA)⊕WA):=cond (a.1> 0) ((vL a.1 2).bind fun d=>cond (d==1) ((f_a b c a.2.1 a.2.2).bind fun e=>(f_a b c a.2.2 a.2.2).bind fun f=>(vP a.1 2).bind fun g=>Wu (.inl (g,e,f))) ((f_a b c a.2.2 a.2.2).bind fun h=>(vP a.1 2).bind fun i=>Wu (.inl (i,a.2.1,h)))) (Wu (.inr a.2.1))
def zVf(a:SPr)(b:Int)(c:WA)(d:Int):Option WA:=(yO (a.zA.length:Int)).bind fun e=>(zF (zQm a b) (d,J0 e (0:Int),c)).bind fun f=>Wu f
def zZc(b c:WA)(a:Int):Option (Int⊕(Unit⊕Bool)):=cond (a<b.length) ((ixO b a).bind fun d=>(ixO c a).bind fun e=>cond (d != e) (Wu (.inr (.inr Wx))) ((rng (a+1)).bind fun f=>Wu (.inl f))) (Wu (.inr (.inl ())))
def yAB(b c:WA):Option Bool:=cond ((b.length:Int) != c.length) (Wu Wx) ((zF (zZc b c) 0).bind fun a=>match a with|(.inl _)=>Wu Ww|(.inr a)=>Wu a)
def yAC(c a:Int):Option WA:=(yO c).bind fun b=>(ixO (J0 b (0:Int)) a).bind fun _=>Wu ((J0 b (0:Int)).set a.toNat 1)
def zXA(a:Int):Option Bool:=cond (a==2) (Wu Ww) (cond (a==3) (Wu Ww) (cond (a==5) (Wu Ww) (Wu (a==7))))
def zOv(a b c:Int):Option Bool:=cond (a>=b) (Wu (a<=c)) (Wu Wx)
def zJK(b:WA)(a:Int):Option (Int⊕(Unit⊕Bool)):=cond (a<b.length) ((ixO b a).bind fun c=>cond (c != 0) (Wu (.inr (.inr Wx))) ((rng (a+1)).bind fun d=>Wu (.inl d))) (Wu (.inr (.inl ())))
def zVg(b:WA):Option Bool:=(zF (zJK b) 0).bind fun a=>match a with|(.inl _)=>Wu Ww|(.inr a)=>Wu a
def f_A(a:WA):Option WA:=(yR [] a).bind fun b=>Wu b
def zVh(c:Int)(d:WA)(a:WA×Int):Option ((WA×Int)⊕WA):=cond (a.2<d.length) ((rng (c+1)).bind fun e=>(rng (e+a.2)).bind fun b=>(ixO a.1 b).bind fun _=>(rng (a.2+1)).bind fun f=>Wu (.inl (a.1.set b.toNat 0,f))) (Wu (.inr a.1))
def yAD(g_b:SPr->WA->WA->Option WA)(g:SPr)(h:Int)(i:WA×Int)(b:Int)(a:WA×Int):Option ((WA×Int)⊕WA):=cond (a.2<b) ((ixO g.zG h).bind fun c=>(ixO c i.2).bind fun d=>(g_b g a.1 d).bind fun e=>(rng (a.2+1)).bind fun f=>Wu (.inl (e,f))) (Wu (.inr a.1))
def yAE(g_b:SPr->WA->WA->Option WA)(f:SPr)(g:Int)(e:WA)(a:WA×Int):Option ((WA×Int)⊕WA):=cond (a.2<e.length) ((ixO e a.2).bind fun b=>(zF (yAD g_b f g a b) (a.1,0)).bind fun c=>(rng (a.2+1)).bind fun d=>Wu (.inl (c,d))) (Wu (.inr a.1))
def yAF(g_b:SPr->WA->WA->Option WA)(h:SPr)(i:Int)(b:WA×Int)(c:Int)(a:WA×Int):Option ((WA×Int)⊕WA):=cond (a.2<c) ((ixO h.zG i).bind fun d=>(ixO d b.2).bind fun e=>(g_b h a.1 e).bind fun f=>(rng (a.2+1)).bind fun g=>Wu (.inl (f,g))) (Wu (.inr a.1))
def yAG(g_b:SPr->WA->WA->Option WA)(f:SPr)(g:Int)(e:WA)(a:WA×Int):Option ((WA×Int)⊕WA):=cond (a.2<e.length) ((ixO e a.2).bind fun b=>(zF (yAF g_b f g a b) (a.1,0)).bind fun c=>(rng (a.2+1)).bind fun d=>Wu (.inl (c,d))) (Wu (.inr a.1))
def b_c(g_b:SPr->WA->WA->Option WA)(d:SPr)(e:WA)(a:Int):Option WA:=(rng (a+1)).bind fun m=>(zT e m e.length).bind fun n=>(f_A n).bind fun f=>(zF (zVh a f) (e,0)).bind fun c=>(ixO c a).bind fun o=>(rng (o+1)).bind fun b=>(ixO c a).bind fun _=>(ixO (c.set a.toNat b) a).bind fun g=>(ixO d.zA a).bind fun h=>cond (g==h) ((ixO (c.set a.toNat b) a).bind fun _=>(ixO d.zQ a).bind fun i=>(g_b d ((c.set a.toNat b).set a.toNat 0) i).bind fun j=>(zF (yAE g_b d a f) (j,0)).bind fun k=>Wu k) ((zF (yAG g_b d a f) (c.set a.toNat b,0)).bind fun l=>Wu l)
def zVi(g_c:SPr->WA->Int->Option WA)(b:SPr)(c:WA×Int)(d:Int)(a:WA×Int):Option ((WA×Int)⊕WA):=cond (a.2<d) ((g_c b a.1 c.2).bind fun e=>(rng (a.2+1)).bind fun f=>Wu (.inl (e,f))) (Wu (.inr a.1))
def zVj(g_c:SPr->WA->Int->Option WA)(c:SPr)(b:WA)(a:WA×Int):Option ((WA×Int)⊕WA):=cond (a.2<b.length) ((ixO b a.2).bind fun d=>(zF (zVi g_c c a d) (a.1,0)).bind fun e=>(rng (a.2+1)).bind fun f=>Wu (.inl (e,f))) (Wu (.inr a.1))
def b_b(g_c:SPr->WA->Int->Option WA)(a:SPr)(b c:WA):Option WA:=(zF (zVj g_c a c) (b,0)).bind fun d=>Wu d
mutual
def zVk:Nat->SPr->WA->Int->Option WA|0=>fun _ _ _=>Wv|n+1=>b_c (zR1 n)
def zR1:Nat->SPr->WA->WA->Option WA|0=>fun _ _ _=>Wv|n+1=>b_b (zVk n)
end
def f_c(a:SPr)(b:WA)(c:Int):Option WA:=zGg fun n=>zVk n a b c
def f_b(a:SPr)(b c:WA):Option WA:=zGg fun n=>zR1 n a b c
def zVl(b:SPr)(c:WA)(d:Int)(a:WA×Int):Option ((WA×Int)⊕WA):=cond (a.2<d) ((f_b b a.1 c).bind fun e=>(rng (a.2+1)).bind fun f=>Wu (.inl (e,f))) (Wu (.inr a.1))
def f_Q(b:SPr)(a:WA)(c:Int):Option WA:=(yO (a.length:Int)).bind fun d=>(zF (zVl b a c) (J0 d (0:Int),0)).bind fun e=>Wu e
def zZd(b c:WA)(a:Int):Option (Int⊕(Unit⊕Bool)):=cond (a<b.length) ((ixO b a).bind fun d=>(ixO c a).bind fun e=>cond (d != e) (Wu (.inr (.inr Wx))) ((rng (a+1)).bind fun f=>Wu (.inl f))) (Wu (.inr (.inl ())))
def yEr(b c:WA):Option Bool:=cond ((b.length:Int) != c.length) (Wu Wx) ((zF (zZd b c) 0).bind fun a=>match a with|(.inl _)=>Wu Ww|(.inr a)=>Wu a)
def zR2(c:SPr)(b:WA×WA×Int)(a:WA×WA):Option ((WA×WA)⊕(WA×WA)):=(ixO a.1 b.2.2).bind fun d=>cond (d != 0) ((f_c c a.1 b.2.2).bind fun e=>(f_c c a.2 b.2.2).bind fun f=>Wu (.inl (e,f))) (Wu (.inr (a.1,a.2)))
def zVm(c:SPr)(d:WA)(a:WA×WA×Int):Option ((WA×WA×Int)⊕WA):=cond (a.2.2<d.length) ((zF (zR2 c a) (a.1,a.2.1)).bind fun b=>(rng (a.2.2+1)).bind fun e=>Wu (.inl (b.1,b.2,e))) (Wu (.inr a.2.1))
def f_B(c:SPr)(a:WA):Option WA:=(f_A a).bind fun b=>(yO (a.length:Int)).bind fun d=>(zF (zVm c b) (b,J0 d (0:Int),0)).bind fun e=>Wu e
def zI5(a:SPr)(b c:WA):Option WA:=(f_A b).bind fun d=>(f_b a d c).bind fun e=>Wu e
def zML(a:SPr)(c b:WA):Option WA:=(f_B a b).bind fun d=>(zI5 a c b).bind fun e=>(zI5 a d e).bind fun f=>Wu f
def zVn(c a:Int):Option WA:=(yO c).bind fun b=>(ixO (J0 b (0:Int)) a).bind fun _=>Wu ((J0 b (0:Int)).set a.toNat 1)
def zXB(a:zS)(b:Int):Option zM:=(ixO a.zR b).bind fun c=>Wu (zM.mk a.Prime a.Dim c)
def yDj(a b:Int):Option (Int×Int):=Wu ((IntKind.wrap .u64 ((IntKind.wrap .u64 ((IntKind.wrap .u64 ((Hu a (2 ^ (min (32:Int).toNat (IntKind.bits .u64))))*(Hu b (2 ^ (min (32:Int).toNat (IntKind.bits .u64))))))+(Hu (IntKind.wrap .u64 ((IntKind.wrap .u64 ((Hu a (2 ^ (min (32:Int).toNat (IntKind.bits .u64))))*(zG0 .u64 b 4294967295)))+(Hu (IntKind.wrap .u64 ((zG0 .u64 a 4294967295)*(zG0 .u64 b 4294967295))) (2 ^ (min (32:Int).toNat (IntKind.bits .u64)))))) (2 ^ (min (32:Int).toNat (IntKind.bits .u64))))))+(Hu (IntKind.wrap .u64 ((zG0 .u64 (IntKind.wrap .u64 ((IntKind.wrap .u64 ((Hu a (2 ^ (min (32:Int).toNat (IntKind.bits .u64))))*(zG0 .u64 b 4294967295)))+(Hu (IntKind.wrap .u64 ((zG0 .u64 a 4294967295)*(zG0 .u64 b 4294967295))) (2 ^ (min (32:Int).toNat (IntKind.bits .u64)))))) 4294967295)+(IntKind.wrap .u64 ((zG0 .u64 a 4294967295)*(Hu b (2 ^ (min (32:Int).toNat (IntKind.bits .u64)))))))) (2 ^ (min (32:Int).toNat (IntKind.bits .u64)))))),(IntKind.wrap .u64 (a*b)))
def zVo(b c:Int):Option (Int×Int):=(yDj b c).bind fun a=>Wu (a.1,a.2)
def zCj(a:WA×Int):Option ((WA×Int)⊕WA):=cond (a.2<a.1.length) ((zT a.1 a.2 a.1.length).bind fun _=>(zT a.1 0 a.2).bind fun b=>(rng (a.2+((min b.length (((a.1.length:Int).toNat)-((a.2:Int).toNat)):Nat):Int))).bind fun c=>Wu (.inl (wU a.1 ((a.2:Int).toNat) (b.take (((a.1.length:Int).toNat)-((a.2:Int).toNat))),c))) (Wu (.inr a.1))
def f_k(a:WA)(d:Int):Option WA:=cond (d<0) (Wv) ((zVo (IntKind.wrap .u64 (a.length:Int)) (IntKind.wrap .u64 d)).bind fun b=>cond (b.1> 0) (Wv) (cond (b.2> 9223372036854775807) (Wv) ((yO (IntKind.wrap .i64 b.2)).bind fun c=>(zF zCj (wU (J0 c (0:Int)) 0 (a.take (((J0 c (0:Int)).length)-0)),((min a.length (((J0 c (0:Int)).length)-0):Nat):Int))).bind fun e=>Wu e)))
def zVp(b:WA×Int)(c:Int)(a:WA×Int):Option ((WA×Int)⊕WA):=cond (a.2<c) ((rng (b.2+1)).bind fun d=>(yR a.1 [d]).bind fun e=>(rng (a.2+1)).bind fun f=>Wu (.inl (e,f))) (Wu (.inr a.1))
def zVq(b:WA)(a:WA×Int):Option ((WA×Int)⊕WA):=cond (a.2<b.length) ((ixO b a.2).bind fun c=>(zF (zVp a c) (a.1,0)).bind fun d=>(rng (a.2+1)).bind fun e=>Wu (.inl (d,e))) (Wu (.inr a.1))
def f_C(a:WA):Option WA:=(zF (zVq a) ([],0)).bind fun b=>Wu b
def zLf(b:Int)(a:WB×Int):Option ((WB×Int)⊕WB):=cond (a.2<b) ((yO b).bind fun c=>(ixO (J0 c (0:Int)) a.2).bind fun _=>(yR a.1 [(J0 c (0:Int)).set a.2.toNat 1]).bind fun d=>(rng (a.2+1)).bind fun e=>Wu (.inl (d,e))) (Wu (.inr a.1))
def f_G(b a:Int):Option zM:=(zF (zLf a) ([],0)).bind fun c=>Wu (zM.mk b a c)
def zLg(b a:Int):Option Int:=(vL b a).bind fun c=>(rng (c+a)).bind fun d=>(vL d a).bind fun e=>Wu e
def zMM(b c:WA)(d e:Int)(a:WA×Int):Option ((WA×Int)⊕WA):=cond (a.2<b.length) ((ixO a.1 a.2).bind fun f=>(ixO c a.2).bind fun g=>(rng (d*g)).bind fun h=>(rng (f+h)).bind fun i=>(zLg i e).bind fun j=>(ixO a.1 a.2).bind fun _=>(rng (a.2+1)).bind fun k=>Wu (.inl (a.1.set a.2.toNat j,k))) (Wu (.inr a.1))
def f_s(a b:WA)(c d:Int):Option WA:=(zF (zMM a b c d) (a,0)).bind fun e=>Wu e
def zMN(b:WA)(c:zM)(a:WA×Int):Option ((WA×Int)⊕WA):=cond (a.2<b.length) ((ixO b a.2).bind fun d=>(ixO c.Rows a.2).bind fun e=>(f_s a.1 e d c.Prime).bind fun f=>(rng (a.2+1)).bind fun g=>Wu (.inl (f,g))) (Wu (.inr a.1))
def zXC(b:WA)(a:zM):Option WA:=(yO a.wP).bind fun c=>(zF (zMN b a) (J0 c (0:Int),0)).bind fun d=>Wu d
def zMO(b c:zM)(a:WB×Int):Option ((WB×Int)⊕WB):=cond (a.2<b.Rows.length) ((ixO b.Rows a.2).bind fun d=>(zXC d c).bind fun e=>(yR a.1 [e]).bind fun f=>(rng (a.2+1)).bind fun g=>Wu (.inl (f,g))) (Wu (.inr a.1))
def zXD(a b:zM):Option zM:=(zF (zMO a b) ([],0)).bind fun c=>Wu (zM.mk a.Prime b.wP c)
def zMP(d:zS)(c:WA)(a:Int×Int×WB×Int):Option ((Int×Int×WB×Int)⊕(Int×Int×WB)):=cond (a.2.2.2<c.length) ((ixO c a.2.2.2).bind fun e=>(rng (e-1)).bind fun f=>(zXB d f).bind fun g=>(zXD (zM.mk a.1 a.2.1 a.2.2.1) g).bind fun b=>(rng (a.2.2.2+1)).bind fun h=>Wu (.inl (b.Prime,b.wP,b.Rows,h))) (Wu (.inr (a.1,a.2.1,a.2.2.1)))
def zOw(a:zS)(d:WA):Option zM:=(f_G a.Prime a.Dim).bind fun b=>(zF (zMP a d) (b.Prime,b.wP,b.Rows,0)).bind fun c=>Wu (zM.mk c.1 c.2.1 c.2.2)
def zVr(a:Int):Option WA:=cond (a<0) (Wv) ((rng (0-0)).bind fun c=>(rng (a-c)).bind fun b=>cond (b> 0) ((wN [] b (0:Int)).bind fun d=>(zT d 0 0).bind fun e=>Wu e) (Wu []))
def zVs(b:WB)(a:Int×Int):Option ((Int×Int)⊕Int):=cond (a.2<b.length) ((ixO b a.2).bind fun d=>(rng (a.1+d.length)).bind fun c=>cond (c<0) (Wv) ((rng (a.2+1)).bind fun e=>Wu (.inl (c,e)))) (Wu (.inr a.1))
def zVt(b:WB)(a:WA×Int):Option ((WA×Int)⊕WA):=cond (a.2<b.length) ((ixO b a.2).bind fun c=>(yR a.1 c).bind fun d=>(rng (a.2+1)).bind fun e=>Wu (.inl (d,e))) (Wu (.inr a.1))
def f_u(a:WB):Option WA:=(zF (zVs a) (0,0)).bind fun b=>(zVr b).bind fun c=>(zF (zVt a) (c,0)).bind fun d=>Wu d
def zVu(a:WA)(b c:Int):Option WA:=(yO b).bind fun d=>(yO c).bind fun e=>(f_u [J0 d (0:Int),a,J0 e (0:Int)]).bind fun f=>Wu f
def zVv(b c:WA)(a:Int):Option (Int⊕(Unit⊕Bool)):=cond (a<b.length) ((ixO b a).bind fun d=>(ixO c a).bind fun e=>cond (d != e) (Wu (.inr (.inr Wx))) ((rng (a+1)).bind fun f=>Wu (.inl f))) (Wu (.inr (.inl ())))
def zXE(b c:WA):Option Bool:=cond ((b.length:Int) != c.length) (Wu Wx) ((zF (zVv b c) 0).bind fun a=>match a with|(.inl _)=>Wu Ww|(.inr a)=>Wu a)
def zVw(b c:WB)(a:Int):Option (Int⊕(Unit⊕Bool)):=cond (a<b.length) ((ixO b a).bind fun d=>(ixO c a).bind fun e=>(zXE d e).bind fun f=>cond (!f) (Wu (.inr (.inr Wx))) ((rng (a+1)).bind fun g=>Wu (.inl g))) (Wu (.inr (.inl ())))
def zR3(b c:WB):Option Bool:=cond ((b.length:Int) != c.length) (Wu Wx) ((zF (zVw b c) 0).bind fun a=>match a with|(.inl _)=>Wu Ww|(.inr a)=>Wu a)
def zQn(a:WA×Int×Int):Option ((WA×Int×Int)⊕(WA×Int)):=cond (a.2.2<a.1.length) ((ixO a.1 a.2.2).bind fun _=>(rng (a.2.1+1)).bind fun b=>(rng (a.2.2+1)).bind fun c=>Wu (.inl (a.1.set a.2.2.toNat a.2.1,b,c))) (Wu (.inr (a.1,a.2.1)))
def zVx(b:WA)(c:Int):Option (Int×WA):=(zF zQn (b,c,0)).bind fun a=>Wu (a.2,a.1)
def zVy(a:WB×Int×Int):Option ((WB×Int×Int)⊕(WB×Int)):=cond (a.2.2<a.1.length) ((ixO a.1 a.2.2).bind fun c=>(zVx c a.2.1).bind fun b=>(rng (a.2.2+1)).bind fun d=>Wu (.inl (a.1.set a.2.2.toNat b.2,b.1,d))) (Wu (.inr (a.1,a.2.1)))
def zVz(b:WB)(c:Int):Option (Int×WB):=(zF zVy (b,c,0)).bind fun a=>Wu (a.2,a.1)
def zMQ(b:WA)(a:Int×Int):Option ((Int×Int)⊕(Int⊕Int)):=cond (a.2<b.length) ((ixO b a.2).bind fun c=>cond (c != a.1) (Wu (.inr (.inr (-1)))) ((rng (a.1+1)).bind fun d=>(rng (a.2+1)).bind fun e=>Wu (.inl (d,e)))) (Wu (.inr (.inl a.1)))
def zV0(b:WA)(c:Int):Option Int:=(zF (zMQ b) (c,0)).bind fun a=>match a with|(.inl a)=>Wu a|(.inr a)=>Wu a
def zV1(b:WB)(a:Int×Int):Option ((Int×Int)⊕(Int⊕Int)):=cond (a.2<b.length) ((ixO b a.2).bind fun d=>(zV0 d a.1).bind fun c=>cond (c<0) (Wu (.inr (.inr (-1)))) ((rng (a.2+1)).bind fun e=>Wu (.inl (c,e)))) (Wu (.inr (.inl a.1)))
def zXF(b:WB)(c:Int):Option Int:=(zF (zV1 b) (c,0)).bind fun a=>match a with|(.inl a)=>Wu a|(.inr a)=>Wu a
def b_i(g_i:SPr->Int->WA->Option WA)(b:SPr)(a:Int)(c:WA):Option WA:=cond (a>=b.zA.length) ((yO (b.zA.length:Int)).bind fun m=>Wu (J0 m (0:Int))) ((f_P c).bind fun j=>(ixO j a).bind fun _=>(rng (a+1)).bind fun n=>(g_i b n (j.set a.toNat 0)).bind fun k=>(ixO c a).bind fun o=>cond (o==0) (Wu k) ((yO (b.zA.length:Int)).bind fun l=>(ixO b.zA a).bind fun p=>(ixO c a).bind fun q=>(rng (p-q)).bind fun d=>(ixO (J0 l (0:Int)) a).bind fun _=>(f_a b a k ((J0 l (0:Int)).set a.toNat d)).bind fun e=>(rng (a+1)).bind fun f=>(ixO b.zQ a).bind fun g=>(g_i b f g).bind fun h=>(f_a b a e h).bind fun i=>Wu i))
def zOx:Nat->SPr->Int->WA->Option WA|0=>fun _ _ _=>Wv|n+1=>b_i (zOx n)
def f_i(a:SPr)(b:Int)(c:WA):Option WA:=zGg fun n=>zOx n a b c
def zOy(a:SPr)(b:WA):Option WA:=(f_i a 0 b).bind fun c=>Wu c
def zMR(d:WB)(a:WB×Int):Option ((WB×Int)⊕WB):=cond (a.2<d.length) ((ixO d a.2).bind fun b=>(rng ((b.length:Int)+d.length)).bind fun f=>(yO f).bind fun c=>(rng ((b.length:Int)+a.2)).bind fun e=>(ixO (wU (J0 c (0:Int)) 0 (b.take (((J0 c (0:Int)).length)-0))) e).bind fun _=>(yR a.1 [(wU (J0 c (0:Int)) 0 (b.take (((J0 c (0:Int)).length)-0))).set e.toNat 1]).bind fun g=>(rng (a.2+1)).bind fun h=>Wu (.inl (g,h))) (Wu (.inr a.1))
def zXG(a:WB):Option WB:=(zF (zMR a) ([],0)).bind fun b=>Wu b
def zMS(b:WB)(a:WB×Int):Option ((WB×Int)⊕WB):=cond (a.2<b.length) ((ixO b a.2).bind fun c=>(f_A c).bind fun d=>(yR a.1 [d]).bind fun e=>(rng (a.2+1)).bind fun f=>Wu (.inl (e,f))) (Wu (.inr a.1))
def zXH(a:WB):Option WB:=(zF (zMS a) ([],0)).bind fun b=>Wu b
def zR4(a:Int×Int×Int×Int):Option ((Int×Int×Int×Int)⊕(Int×Int)):=cond (a.2.1 != 0) ((vP a.1 a.2.1).bind fun b=>(rng (b*a.2.1)).bind fun c=>(rng (a.1-c)).bind fun d=>(rng (b*a.2.2.2)).bind fun e=>(rng (a.2.2.1-e)).bind fun f=>Wu (.inl (a.2.1,d,a.2.2.2,f))) (Wu (.inr (a.1,a.2.2.1)))
def f_U(c a:Int):Option (Int×Bool):=(zF zR4 (a,c,0,1)).bind fun b=>(zLg b.2 a).bind fun d=>Wu (d,(b.1==1))
def zIN(b:WB×Int×Int)(a:Int):Option (Int⊕Int):=cond (a<b.1.length) ((ixO b.1 a).bind fun c=>(ixO c b.2.2).bind fun d=>cond (d==0) ((rng (a+1)).bind fun e=>Wu (.inl e)) (Wu (.inr a))) (Wu (.inr a))
def zMT(k:Int)(b:WB×Int×Int)(d:Int×Bool)(e:WA)(a:WB×Int):Option ((WB×Int)⊕WB):=cond (a.2<e.length) ((ixO a.1 b.2.1).bind fun c=>(ixO a.1 b.2.1).bind fun f=>(ixO f a.2).bind fun g=>(rng (g*d.1)).bind fun h=>(vL h k).bind fun i=>(ixO c a.2).bind fun _=>(rng (a.2+1)).bind fun j=>Wu (.inl (a.1.set b.2.1.toNat (c.set a.2.toNat i),j))) (Wu (.inr a.1))
def zOz(l:Int)(b:WB×Int×Int)(c:WB)(a:WB×Int):Option ((WB×Int)⊕WB):=cond (a.2<c.length) (cond (a.2 != b.2.1) ((ixO a.1 a.2).bind fun d=>(ixO a.1 b.2.1).bind fun e=>(ixO a.1 a.2).bind fun f=>(ixO f b.2.2).bind fun g=>(rng (0-g)).bind fun h=>(f_s d e h l).bind fun i=>(rng (a.2+1)).bind fun j=>Wu (.inl (a.1.set a.2.toNat i,j))) ((rng (a.2+1)).bind fun k=>Wu (.inl (a.1,k)))) (Wu (.inr a.1))
def zO0(d:Int)(a:WB×Int×Int):Option ((WB×Int×Int)⊕(WB×Int)):=cond ((a.1.length:Int)> 0) ((ixO a.1 0).bind fun n=>cond (a.2.2<n.length) (cond (a.2.1<a.1.length) ((zF (zIN a) a.2.1).bind fun b=>cond (b==a.1.length) ((rng (a.2.2+1)).bind fun o=>Wu (.inl (a.1,a.2.1,o))) ((ixO a.1 b).bind fun e=>(ixO a.1 a.2.1).bind fun f=>(ixO (jY a.1 a.2.1 b e f) a.2.1).bind fun g=>(ixO g a.2.2).bind fun h=>(f_U h d).bind fun i=>(ixO (jY a.1 a.2.1 b e f) a.2.1).bind fun j=>(zF (zMT d a i j) (jY a.1 a.2.1 b e f,0)).bind fun c=>(zF (zOz d a c) (c,0)).bind fun k=>(rng (a.2.1+1)).bind fun l=>(rng (a.2.2+1)).bind fun m=>Wu (.inl (k,l,m)))) (Wu (.inr (a.1,a.2.1)))) (Wu (.inr (a.1,a.2.1)))) (Wu (.inr (a.1,a.2.1)))
def f_g(c:Int)(d:WB):Option WB:=(zXH d).bind fun e=>(zF (zO0 c) (e,0,0)).bind fun a=>(zT a.1 0 a.2).bind fun b=>Wu b
def zV2(b:zM)(c:WB×Int)(a:WA×Int):Option ((WA×Int)⊕WA):=cond (a.2<b.Rows.length) ((ixO b.Rows a.2).bind fun d=>(ixO d c.2).bind fun e=>(yR a.1 [e]).bind fun f=>(rng (a.2+1)).bind fun g=>Wu (.inl (f,g))) (Wu (.inr a.1))
def zV3(b:zM)(a:WB×Int):Option ((WB×Int)⊕WB):=cond (a.2<b.wP) ((zF (zV2 b a) ([],0)).bind fun c=>(yR a.1 [c]).bind fun d=>(rng (a.2+1)).bind fun e=>Wu (.inl (d,e))) (Wu (.inr a.1))
def f_T(a:zM):Option zM:=(zF (zV3 a) ([],0)).bind fun b=>Wu (zM.mk a.Prime (a.Rows.length:Int) b)
def zV4(c b:Int):Option Int:=(vL c b).bind fun a=>cond (a<0) ((rng (a+b)).bind fun d=>Wu d) (Wu a)
def zIO(b:WA)(a:Int):Option (Int⊕(Unit⊕Int)):=cond (a<b.length) ((ixO b a).bind fun c=>cond (c != 0) (Wu (.inr (.inr a))) ((rng (a+1)).bind fun d=>Wu (.inl d))) (Wu (.inr (.inl ())))
def f_w(b:WA):Option Int:=(zF (zIO b) 0).bind fun a=>match a with|(.inl _)=>Wu (b.length:Int)|(.inr a)=>Wu a
def zV5(c d:Int)(b:WA)(a:WA×Int):Option ((WA×Int)⊕WA):=cond (a.2<a.1.length) (cond (a.2<b.length) ((ixO a.1 a.2).bind fun e=>(ixO b a.2).bind fun f=>(rng (d*f)).bind fun g=>(rng (e+g)).bind fun h=>(zV4 h c).bind fun i=>(ixO a.1 a.2).bind fun _=>(rng (a.2+1)).bind fun j=>Wu (.inl (a.1.set a.2.toNat i,j))) (Wu (.inr a.1))) (Wu (.inr a.1))
def f_R(a:Int)(b:WA)(c:Int)(d:WA):Option WA:=(f_P b).bind fun e=>(zF (zV5 a c d) (e,0)).bind fun f=>Wu f
def zMU(f:Int)(b:WB)(a:WA×Int):Option ((WA×Int)⊕WA):=cond (a.2<b.length) ((ixO b a.2).bind fun g=>(f_w g).bind fun c=>cond (c<a.1.length) ((ixO a.1 c).bind fun h=>cond (h != 0) ((ixO a.1 c).bind fun i=>(rng (f-i)).bind fun j=>(ixO b a.2).bind fun k=>(f_R f a.1 j k).bind fun l=>(rng (a.2+1)).bind fun m=>Wu (.inl (l,m))) ((rng (a.2+1)).bind fun d=>Wu (.inl (a.1,d)))) ((rng (a.2+1)).bind fun e=>Wu (.inl (a.1,e)))) (Wu (.inr a.1))
def zV6(b:Int)(c:WB)(d:WA):Option WA:=(f_P d).bind fun e=>(zF (zMU b c) (e,0)).bind fun a=>Wu a
def zMV(c b a:Int):Option (Int⊕(Unit⊕Int)):=cond (a<b) ((zV4 c b).bind fun d=>(rng (d*a)).bind fun e=>(vL e b).bind fun f=>cond (f==1) (Wu (.inr (.inr a))) ((rng (a+1)).bind fun g=>Wu (.inl g))) (Wu (.inr (.inl ())))
def zV7(b c:Int):Option Int:=(zF (zMV b c) 1).bind fun a=>match a with|(.inl _)=>Wu 0|(.inr a)=>Wu a
def zXI(b c:Int)(a:WA):Option WA:=(yO (a.length:Int)).bind fun d=>(f_R b (J0 d (0:Int)) c a).bind fun e=>Wu e
def zIP(c:Int)(b:WB×Int)(d:Int)(e:WA)(a:WB×Bool×Int):Option ((WB×Bool×Int)⊕(WB×Bool)):=cond (a.2.2<b.1.length) (cond (!a.2.1) ((ixO b.1 a.2.2).bind fun C=>(f_w C).bind fun D=>cond (D> d) ((yR a.1 [e]).bind fun f=>(ixO b.1 a.2.2).bind fun g=>(ixO b.1 a.2.2).bind fun h=>(ixO h d).bind fun i=>(rng (c-i)).bind fun j=>(f_R c g j e).bind fun k=>(yR f [k]).bind fun l=>(rng (a.2.2+1)).bind fun m=>Wu (.inl (l,Ww,m))) ((ixO b.1 a.2.2).bind fun n=>(ixO b.1 a.2.2).bind fun o=>(ixO o d).bind fun p=>(rng (c-p)).bind fun q=>(f_R c n q e).bind fun r=>(yR a.1 [r]).bind fun s=>(rng (a.2.2+1)).bind fun t=>Wu (.inl (s,a.2.1,t)))) ((ixO b.1 a.2.2).bind fun u=>(ixO b.1 a.2.2).bind fun v=>(ixO v d).bind fun w=>(rng (c-w)).bind fun x=>(f_R c u x e).bind fun y=>(yR a.1 [y]).bind fun z=>(rng (a.2.2+1)).bind fun A=>Wu (.inl (z,a.2.1,A)))) (Wu (.inr (a.1,a.2.1)))
def zR5(c:Int)(i:WB)(a:WB×Int):Option ((WB×Int)⊕WB):=cond (a.2<i.length) ((ixO i a.2).bind fun k=>(zV6 c a.1 k).bind fun d=>(f_w d).bind fun e=>cond (e==d.length) ((rng (a.2+1)).bind fun l=>Wu (.inl (a.1,l))) ((ixO d e).bind fun m=>(zV7 m c).bind fun n=>(zXI c n d).bind fun j=>(zF (zIP c a e j) ([],Wx,0)).bind fun b=>cond (!b.2) ((yR b.1 [j]).bind fun f=>(rng (a.2+1)).bind fun g=>Wu (.inl (f,g))) ((rng (a.2+1)).bind fun h=>Wu (.inl (b.1,h))))) (Wu (.inr a.1))
def f_p(b:Int)(c:WB):Option WB:=(zF (zR5 b c) ([],0)).bind fun a=>Wu a
def zO1(a:SPr):Option Int:=(rng ((a.zA.length:Int)+1)).bind fun b=>(rng ((a.zA.length:Int)*b)).bind fun c=>(vP c 2).bind fun d=>Wu d
def zR6(b:WA)(a:WB×Int):Option ((WB×Int)⊕WB):=cond (a.2<b.length) ((zVn (b.length:Int) a.2).bind fun c=>(yR a.1 [c]).bind fun d=>(rng (a.2+1)).bind fun e=>Wu (.inl (d,e))) (Wu (.inr a.1))
def zR7(b:WA)(a:WB×(List WB)×Int):Option ((WB×(List WB)×Int)⊕(WB×(List WB))):=cond (a.2.2<b.length) ((yO (b.length:Int)).bind fun d=>(yR a.1 [J0 d (0:Int)]).bind fun e=>(rng (a.2.2+1)).bind fun f=>(zF (zR6 b) ([],f)).bind fun g=>(yR a.2.1 [g]).bind fun h=>(rng (a.2.2+1)).bind fun c=>Wu (.inl (e,h,c))) (Wu (.inr (a.1,a.2.1)))
def f_L(b:WA):Option SPr:=(f_A b).bind fun c=>(zF (zR7 b) ([],[],0)).bind fun a=>Wu (SPr.mk c a.1 a.2)
def zO2(c:SPr)(d:WB)(a:WB×Int×Int):Option ((WB×Int×Int)⊕(WB×Int)):=cond (a.2.2<c.zQ.length) ((ixO c.zQ a.2.2).bind fun e=>(ixO d a.2.1).bind fun f=>(f_u [e,f]).bind fun g=>(ixO a.1 a.2.2).bind fun _=>(rng (a.2.1+1)).bind fun h=>(rng (a.2.2+1)).bind fun b=>Wu (.inl (a.1.set a.2.2.toNat g,h,b))) (Wu (.inr (a.1,a.2.1)))
def zO3(j:WB)(b:(List WB)×Int×Int)(c:WB)(a:(List WB)×Int×Int):Option (((List WB)×Int×Int)⊕((List WB)×Int)):=cond (a.2.2<c.length) ((ixO c a.2.2).bind fun e=>(ixO a.1 b.2.2).bind fun d=>(ixO j a.2.1).bind fun f=>(f_u [e,f]).bind fun g=>(ixO d a.2.2).bind fun _=>(rng (a.2.1+1)).bind fun h=>(rng (a.2.2+1)).bind fun i=>Wu (.inl (a.1.set b.2.2.toNat (d.set a.2.2.toNat g),h,i))) (Wu (.inr (a.1,a.2.1)))
def zO4(k:SPr)(b:(List WB)×Int×Int)(c:WB)(a:(List WB)×Int):Option (((List WB)×Int)⊕(List WB)):=cond (a.2<c.length) ((ixO c a.2).bind fun f=>(ixO a.1 b.2.2).bind fun d=>(rng ((k.zA.length:Int)-1)).bind fun g=>(rng (g-b.2.2)).bind fun h=>(rng (h+a.2)).bind fun e=>(zVu f (k.zA.length:Int) 0).bind fun i=>(ixO d e).bind fun _=>(rng (a.2+1)).bind fun j=>Wu (.inl (a.1.set b.2.2.toNat (d.set e.toNat i),j))) (Wu (.inr a.1))
def zO5(c:SPr)(h:zS)(i:WB)(a:(List WB)×Int×Int):Option (((List WB)×Int×Int)⊕(List WB)):=cond (a.2.2<c.zA.length) ((ixO c.zG a.2.2).bind fun d=>(zF (zO3 i a d) (a.1,a.2.1,0)).bind fun b=>(ixO h.zR a.2.2).bind fun e=>(zF (zO4 c a e) (b.1,0)).bind fun f=>(rng (a.2.2+1)).bind fun g=>Wu (.inl (f,b.2,g))) (Wu (.inr a.1))
def f_l(b:SPr)(c:zS)(f:WB):Option SPr:=(f_A b.zA).bind fun g=>(f_k [c.Prime] c.Dim).bind fun h=>(yR g h).bind fun i=>(f_L i).bind fun d=>(zF (zO2 b f) (d.zQ,0,0)).bind fun a=>(zF (zO5 b c f) (d.zG,a.2,0)).bind fun e=>Wu (SPr.mk d.zA a.1 e)
def zMW(b:WB)(a:WB×Int):Option ((WB×Int)⊕WB):=cond (a.2<b.length) ((ixO b a.2).bind fun c=>(f_P c).bind fun d=>(yR a.1 [d]).bind fun e=>(rng (a.2+1)).bind fun f=>Wu (.inl (e,f))) (Wu (.inr a.1))
def zXJ(a:WB):Option WB:=(zF (zMW a) ([],0)).bind fun b=>Wu b
def zR8(a:Int):Option Bool:=Wu (a != 0)
def zMX(b:WA)(a:Int):Option (Int⊕(Unit⊕Int)):=cond (a<b.length) ((ixO b a).bind fun c=>(zR8 c).bind fun d=>cond d (Wu (.inr (.inr a))) ((rng (a+1)).bind fun e=>Wu (.inl e))) (Wu (.inr (.inl ())))
def f_W(b:WA):Option Int:=(zF (zMX b) 0).bind fun a=>match a with|(.inl _)=>Wu (-1)|(.inr a)=>Wu a
def zIQ(b:WB)(a:WA×Int):Option ((WA×Int)⊕WA):=cond (a.2<b.length) ((ixO b a.2).bind fun c=>(f_W c).bind fun d=>(yR a.1 [d]).bind fun e=>(rng (a.2+1)).bind fun f=>Wu (.inl (e,f))) (Wu (.inr a.1))
def f_y(a:WB):Option WA:=(zF (zIQ a) ([],0)).bind fun b=>Wu b
def zJL(b:zM)(c:WA)(a:WA×Int):Option ((WA×Int)⊕WA):=cond (a.2<c.length) ((ixO c a.2).bind fun d=>(ixO b.Rows a.2).bind fun e=>(ixO a.1 d).bind fun f=>(rng (0-f)).bind fun g=>(f_s a.1 e g b.Prime).bind fun h=>(rng (a.2+1)).bind fun i=>Wu (.inl (h,i))) (Wu (.inr a.1))
def zXK(a:zM)(b:WA):Option WA:=(f_A b).bind fun c=>(f_y a.Rows).bind fun d=>(zF (zJL a d) (c,0)).bind fun e=>Wu e
def zR9(c:Int)(d:WB)(a:WB×Int):Option ((WB×Int)⊕WB):=cond (a.2<d.length) ((ixO d a.2).bind fun b=>(zT b 0 c).bind fun e=>(zVg e).bind fun f=>cond f ((zT b c b.length).bind fun g=>(yR a.1 [g]).bind fun h=>(rng (a.2+1)).bind fun i=>Wu (.inl (h,i))) ((rng (a.2+1)).bind fun j=>Wu (.inl (a.1,j)))) (Wu (.inr a.1))
def f_N(c:Int)(d:WB)(e:Int):Option WB:=(zXG d).bind fun f=>(f_g c f).bind fun g=>(zF (zR9 e g) ([],0)).bind fun a=>(f_g c a).bind fun b=>Wu b
def zMY(b:WA)(c a:Int):Option (Int⊕(Unit⊕Int)):=cond (a<b.length) ((ixO b a).bind fun d=>cond (c==d) (Wu (.inr (.inr a))) ((rng (a+1)).bind fun e=>Wu (.inl e))) (Wu (.inr (.inl ())))
def yAH(b:WA)(c:Int):Option Int:=(zF (zMY b c) 0).bind fun a=>match a with|(.inl _)=>Wu (-1)|(.inr a)=>Wu a
def zXL(a:WA)(b:Int):Option Bool:=(yAH a b).bind fun c=>Wu (c>=0)
structure zH where
 Word:WA
 Left:WA
 zZg:WA
abbrev zC(x:zH):T:=.agg [(L 1 I) x.Word,(L 1 I) x.Left,(L 1 I) x.zZg]
instance:Enc zC:=.of fun _=>zN0 ⟨Enc.t (f:=(L 1 I)) inferInstance _,Enc.t (f:=(L 1 I)) inferInstance _,Enc.t (f:=(L 1 I)) inferInstance _,trivial⟩
structure xJ where
 p:SPr
 m:zS
 sums:List zM
abbrev zJM(x:xJ):T:=.agg [(Pt yM) x.p,(Pt yE) x.m,(L 3 zU) x.sums]
instance:Enc zJM:=.of fun _=>zN0 ⟨Enc.t (f:=(Pt yM)) inferInstance _,Enc.t (f:=(Pt yE)) inferInstance _,Enc.t (f:=(L 3 zU)) inferInstance _,trivial⟩
def zRA(c:SPr)(a:WA)(b:Int):Option WA:=(rng (b+1)).bind fun F=>cond (F<a.length) ((ixO a b).bind fun g=>(rng (b+1)).bind fun f=>(ixO a f).bind fun h=>cond (g> h) ((ixO a b).bind fun i=>(rng (i-1)).bind fun G=>(rng (b+1)).bind fun j=>(ixO a j).bind fun k=>(rng (k-1)).bind fun d=>(zT a 0 b).bind fun l=>(rng (d+1)).bind fun m=>(ixO c.zG d).bind fun n=>(rng (G-d)).bind fun o=>(rng (o-1)).bind fun p=>(ixO n p).bind fun q=>(f_C q).bind fun r=>(rng (b+2)).bind fun s=>(zT a s a.length).bind fun t=>(f_u [l,[m],r,t]).bind fun u=>Wu u) ((ixO a b).bind fun v=>(rng (v-1)).bind fun e=>(zT a 0 b).bind fun w=>(ixO c.zQ e).bind fun x=>(f_C x).bind fun y=>(ixO c.zA e).bind fun z=>(rng (b+z)).bind fun A=>(zT a A a.length).bind fun C=>(f_u [w,y,C]).bind fun D=>Wu D)) ((ixO a b).bind fun g=>(rng (g-1)).bind fun f=>(zT a 0 b).bind fun h=>(ixO c.zQ f).bind fun i=>(f_C i).bind fun H=>(ixO c.zA f).bind fun j=>
 (rng (b+j)).bind fun k=>(zT a k a.length).bind fun d=>(f_u [h,H,d]).bind fun E=>Wu E)
def f_Y(a:WA)(c:Int)(d:List zH)(b:SPr):Option (List zH):=(zRA b a 0).bind fun e=>(zRA b a c).bind fun f=>(yR d [(zH.mk a e f)]).bind fun g=>Wu g
def zMZ(a b:Int):Option WA:=(f_k [a] b).bind fun c=>Wu c
def zRB(d:SPr)(b:(List zH)×Int)(c:(List zH)×Int)(a:(List zH)×Int):Option (((List zH)×Int)⊕(List zH)):=cond (a.2<=d.zA.length) ((f_Y [a.2,c.2,b.2] 1 a.1 d).bind fun e=>(rng (a.2+1)).bind fun f=>Wu (.inl (e,f))) (Wu (.inr a.1))
def zRC(c:SPr)(b:(List zH)×Int)(a:(List zH)×Int):Option (((List zH)×Int)⊕(List zH)):=cond (a.2<=c.zA.length) ((rng (a.2+1)).bind fun d=>(zF (zRB c b a) (a.1,d)).bind fun e=>(rng (a.2+1)).bind fun f=>Wu (.inl (e,f))) (Wu (.inr a.1))
def zRD(b:SPr)(a:(List zH)×Int):Option (((List zH)×Int)⊕(List zH)):=cond (a.2<=b.zA.length) ((rng (a.2+1)).bind fun c=>(zF (zRC b a) (a.1,c)).bind fun d=>(rng (a.2+1)).bind fun e=>Wu (.inl (d,e))) (Wu (.inr a.1))
def zRE(b:SPr)(c:(List zH)×Int)(a:(List zH)×Int):Option (((List zH)×Int)⊕(List zH)):=cond (a.2<=b.zA.length) ((rng (a.2-1)).bind fun d=>(ixO b.zA d).bind fun e=>(zMZ a.2 e).bind fun f=>(yR f [c.2]).bind fun g=>(rng (a.2-1)).bind fun h=>(ixO b.zA h).bind fun i=>(rng (i-1)).bind fun j=>(f_Y g j a.1 b).bind fun k=>(rng (a.2+1)).bind fun l=>Wu (.inl (k,l))) (Wu (.inr a.1))
def zRF(e:SPr)(a:(List zH)×Int):Option (((List zH)×Int)⊕(List zH)):=cond (a.2<=e.zA.length) ((rng (a.2+1)).bind fun b=>(zF (zRE e a) (a.1,b)).bind fun c=>(rng (a.2+1)).bind fun d=>Wu (.inl (c,d))) (Wu (.inr a.1))
def zRG(c:SPr)(b:(List zH)×Int)(a:(List zH)×Int):Option (((List zH)×Int)⊕(List zH)):=cond (a.2<=c.zA.length) ((rng (b.2-1)).bind fun d=>(ixO c.zA d).bind fun e=>(zMZ b.2 e).bind fun f=>(yR [a.2] f).bind fun g=>(f_Y g 1 a.1 c).bind fun h=>(rng (a.2+1)).bind fun i=>Wu (.inl (h,i))) (Wu (.inr a.1))
def zRH(e:SPr)(a:(List zH)×Int):Option (((List zH)×Int)⊕(List zH)):=cond (a.2<=e.zA.length) ((rng (a.2+1)).bind fun b=>(zF (zRG e a) (a.1,b)).bind fun c=>(rng (a.2+1)).bind fun d=>Wu (.inl (c,d))) (Wu (.inr a.1))
def zRI(b:SPr)(a:(List zH)×Int):Option (((List zH)×Int)⊕(List zH)):=cond (a.2<=b.zA.length) ((rng (a.2-1)).bind fun c=>(ixO b.zA c).bind fun d=>(rng (d+1)).bind fun e=>(zMZ a.2 e).bind fun f=>(f_Y f 1 a.1 b).bind fun g=>(rng (a.2+1)).bind fun h=>Wu (.inl (g,h))) (Wu (.inr a.1))
def f_d(a:SPr):Option (List zH):=(zF (zRD a) ([],1)).bind fun e=>(zF (zRF a) (e,1)).bind fun b=>(zF (zRH a) (b,1)).bind fun c=>(zF (zRI a) (c,1)).bind fun d=>Wu d
def zXM(s:xJ)(a:WA)(b:Int):Option Int:=(rng (b+1)).bind fun t=>cond (t<a.length) ((ixO a b).bind fun d=>(rng (b+1)).bind fun e=>(ixO a e).bind fun u=>cond (d> u) ((ixO a b).bind fun v=>(rng (v-1)).bind fun w=>(rng (b+1)).bind fun x=>(ixO a x).bind fun y=>(rng (y-1)).bind fun c=>(rng ((s.p.zA.length:Int)-1)).bind fun f=>(rng (c*f)).bind fun g=>(rng ((s.p.zA.length:Int)+g)).bind fun h=>(rng (c-1)).bind fun i=>(rng (c*i)).bind fun j=>(vP j 2).bind fun k=>(rng (h-k)).bind fun l=>(rng (l+w)).bind fun m=>(rng (m-c)).bind fun n=>(rng (n-1)).bind fun o=>Wu o) ((ixO a b).bind fun q=>(rng (q-1)).bind fun r=>Wu r)) ((ixO a b).bind fun d=>(rng (d-1)).bind fun e=>Wu e)
def zV8(i:xJ)(j g:Int)(h:zM)(b:(List zM)×Int):Option (((List zM)×Int)⊕(List zM)):=cond (b.2<h.Rows.length) ((ixO h.Rows b.2).bind fun c=>(ixO b.1 g).bind fun a=>(ixO a.Rows b.2).bind fun d=>(f_s d c j i.m.Prime).bind fun e=>(rng (b.2+1)).bind fun f=>Wu (.inl (b.1.set g.toNat (zM.mk a.Prime a.wP (a.Rows.set b.2.toNat e)),f))) (Wu (.inr b.1))
def zV9(i:xJ)(j h:Int)(c:zM)(b:(List zM)×Int):Option (((List zM)×Int)⊕(List zM)):=cond (b.2<c.Rows.length) ((ixO c.Rows b.2).bind fun d=>(ixO b.1 h).bind fun a=>(ixO a.Rows b.2).bind fun e=>(f_s e d j i.m.Prime).bind fun f=>(rng (b.2+1)).bind fun g=>Wu (.inl (b.1.set h.toNat (zM.mk a.Prime a.wP (a.Rows.set b.2.toNat f)),g))) (Wu (.inr b.1))
def zVA(i:xJ)(j h:Int)(c:zM)(b:(List zM)×Int):Option (((List zM)×Int)⊕(List zM)):=cond (b.2<c.Rows.length) ((ixO c.Rows b.2).bind fun d=>(ixO b.1 h).bind fun a=>(ixO a.Rows b.2).bind fun e=>(f_s e d j i.m.Prime).bind fun f=>(rng (b.2+1)).bind fun g=>Wu (.inl (b.1.set h.toNat (zM.mk a.Prime a.wP (a.Rows.set b.2.toNat f)),g))) (Wu (.inr b.1))
def f_j(a:xJ)(b:WA)(c d:Int):Option (WA×xJ):=(zXM a b c).bind fun e=>(zRA a.p b c).bind fun f=>(rng (c+1)).bind fun w=>cond (w>=b.length) ((ixO b c).bind fun g=>(rng (g-1)).bind fun h=>(ixO a.p.zA h).bind fun i=>(rng (c+i)).bind fun j=>(zT b j b.length).bind fun k=>(zOw a.m k).bind fun x=>(zF (zV8 a d e x) (a.sums,0)).bind fun l=>Wu (f,(xJ.mk a.p a.m l))) ((ixO b c).bind fun g=>(rng (c+1)).bind fun h=>(ixO b h).bind fun i=>cond (g<=i) ((ixO b c).bind fun j=>(rng (j-1)).bind fun k=>(ixO a.p.zA k).bind fun y=>(rng (c+y)).bind fun n=>(zT b n b.length).bind fun o=>(zOw a.m o).bind fun q=>(zF (zV9 a d e q) (a.sums,0)).bind fun r=>Wu (f,(xJ.mk a.p a.m r))) ((rng (c+2)).bind fun s=>(zT b s b.length).bind fun t=>(zOw a.m t).bind fun u=>(zF (zVA a d e u) (a.sums,0)).bind fun v=>Wu (f,(xJ.mk a.p a.m v))))
def zO6(f:WA)(g:Int)(a:WA)(b:Int):Option (Int⊕(Unit⊕Bool)):=cond (b<a.length) ((ixO a b).bind fun c=>(ixO f g).bind fun d=>cond (c != d) (Wu (.inr (.inr Wx))) ((rng (b+1)).bind fun e=>Wu (.inl e))) (Wu (.inr (.inl ())))
def zO7(d:WA)(e:Int)(c:WA)(a:Int):Option (Int⊕(Unit⊕Bool)):=cond (a<c.length) ((ixO c a).bind fun f=>(ixO d e).bind fun g=>cond (f != g) (Wu (.inr (.inr Wx))) ((rng (a+1)).bind fun b=>Wu (.inl b))) (Wu (.inr (.inl ())))
def f_D(l:SPr)(b:WA)(a:Int):Option Bool:=(rng (a+1)).bind fun m=>cond (m<b.length) ((ixO b a).bind fun g=>(rng (a+1)).bind fun h=>(ixO b h).bind fun e=>cond (g> e) (Wu Ww) ((ixO b a).bind fun i=>(rng (i-1)).bind fun j=>(ixO l.zA j).bind fun f=>(rng (a+f)).bind fun n=>cond (n> b.length) (Wu Wx) ((rng (a+f)).bind fun o=>(zT b a o).bind fun k=>(zF (zO6 b a k) 0).bind fun c=>match c with|(.inl _)=>Wu Ww|(.inr c)=>Wu c))) ((ixO b a).bind fun g=>(rng (g-1)).bind fun h=>(ixO l.zA h).bind fun e=>(rng (a+e)).bind fun i=>cond (i> b.length) (Wu Wx) ((rng (a+e)).bind fun j=>(zT b a j).bind fun f=>(zF (zO7 b a f) 0).bind fun d=>(match d with|(.inl _)=>Wu Ww|(.inr d)=>Wu d)))
def zNa(c:SPr)(b:WA)(a:Int):Option (Int⊕(Unit⊕Int)):=cond (a<b.length) ((f_D c b a).bind fun d=>cond d (Wu (.inr (.inr a))) ((rng (a+1)).bind fun e=>Wu (.inl e))) (Wu (.inr (.inl ())))
def zRJ(b:SPr)(c:WA):Option Int:=(zF (zNa b c) 0).bind fun a=>match a with|(.inl _)=>Wu (-1)|(.inr a)=>Wu a
def zVB(c:Int)(a:SPr×zS×(List zM)×WA×Int):Option ((SPr×zS×(List zM)×WA×Int)⊕(SPr×zS×(List zM))):=cond (a.2.2.2.2>=0) ((f_j (xJ.mk a.1 a.2.1 a.2.2.1) a.2.2.2.1 a.2.2.2.2 c).bind fun b=>(zRJ b.2.p b.1).bind fun d=>Wu (.inl (b.2.p,b.2.m,b.2.sums,b.1,d))) (Wu (.inr (a.1,a.2.1,a.2.2.1)))
def f_t(a:xJ)(c:WA)(d:Int):Option xJ:=(zRJ a.p c).bind fun e=>(zF (zVB d) (a.p,a.m,a.sums,c,e)).bind fun b=>Wu (xJ.mk b.1 b.2.1 b.2.2)
def zRK(c:zM)(a:WB×Int):Option ((WB×Int)⊕WB):=cond (a.2<c.Rows.length) ((ixO a.1 a.2).bind fun b=>(ixO b a.2).bind fun _=>(rng (a.2+1)).bind fun d=>Wu (.inl (a.1.set a.2.toNat (b.set a.2.toNat 0),d))) (Wu (.inr a.1))
def zRL(f:zS)(g:Int)(a:(List zM)×Int):Option (((List zM)×Int)⊕(List zM)):=cond (a.2<g) ((f_G f.Prime f.Dim).bind fun b=>(zF (zRK b) (b.Rows,0)).bind fun c=>(yR a.1 [(zM.mk b.Prime b.wP c)]).bind fun d=>(rng (a.2+1)).bind fun e=>Wu (.inl (d,e))) (Wu (.inr a.1))
def zRM(j:zS)(d:WB×Int)(b:zM)(a:WB×Int):Option ((WB×Int)⊕WB):=cond (a.2<b.Rows.length) ((ixO b.Rows a.2).bind fun e=>(rng (d.2*j.Dim)).bind fun f=>(rng (f+a.2)).bind fun c=>(ixO a.1 c).bind fun g=>(yR g e).bind fun h=>(rng (a.2+1)).bind fun i=>Wu (.inl (a.1.set c.toNat h,i))) (Wu (.inr a.1))
def zNb(f:zS)(b:xJ)(a:WB×Int):Option ((WB×Int)⊕WB):=cond (a.2<b.sums.length) ((ixO b.sums a.2).bind fun c=>(zF (zRM f a c) (a.1,0)).bind fun d=>(rng (a.2+1)).bind fun e=>Wu (.inl (d,e))) (Wu (.inr a.1))
def yDk(j:zS)(d:WB×Int)(b:zM)(a:WB×Int):Option ((WB×Int)⊕WB):=cond (a.2<b.Rows.length) ((ixO b.Rows a.2).bind fun e=>(rng (d.2*j.Dim)).bind fun f=>(rng (f+a.2)).bind fun c=>(ixO a.1 c).bind fun g=>(yR g e).bind fun h=>(rng (a.2+1)).bind fun i=>Wu (.inl (a.1.set c.toNat h,i))) (Wu (.inr a.1))
def yAI(f:zS)(b:xJ)(a:WB×Int):Option ((WB×Int)⊕WB):=cond (a.2<b.sums.length) ((ixO b.sums a.2).bind fun c=>(zF (yDk f a c) (a.1,0)).bind fun d=>(rng (a.2+1)).bind fun e=>Wu (.inl (d,e))) (Wu (.inr a.1))
def yDl(j:zS)(d:WB×Int)(b:zM)(a:WB×Int):Option ((WB×Int)⊕WB):=cond (a.2<b.Rows.length) ((ixO b.Rows a.2).bind fun e=>(rng (d.2*j.Dim)).bind fun f=>(rng (f+a.2)).bind fun c=>(ixO a.1 c).bind fun g=>(yR g e).bind fun h=>(rng (a.2+1)).bind fun i=>Wu (.inl (a.1.set c.toNat h,i))) (Wu (.inr a.1))
def yAJ(f:zS)(b:xJ)(a:WB×Int):Option ((WB×Int)⊕WB):=cond (a.2<b.sums.length) ((ixO b.sums a.2).bind fun c=>(zF (yDl f a c) (a.1,0)).bind fun d=>(rng (a.2+1)).bind fun e=>Wu (.inl (d,e))) (Wu (.inr a.1))
def zRN(l:SPr)(d:zS)(D:Int)(C:(List zH))(a:WB×Int):Option ((WB×Int)⊕WB):=cond (a.2<C.length) ((ixO C a.2).bind fun b=>(zF (zRL d D) ([],0)).bind fun e=>(ixO b.Word 0).bind fun f=>(ixO b.Word 1).bind fun m=>cond (f==m) ((rng ((b.Word.length:Int)-1)).bind fun n=>(ixO b.Word n).bind fun o=>cond (o != f) ((rng ((b.Word.length:Int)-2)).bind fun p=>(f_j (xJ.mk l d e) b.Word 0 1).bind fun c=>(f_t c.2 c.1 1).bind fun q=>(f_j q b.Word p (-1)).bind fun g=>(f_t g.2 g.1 (-1)).bind fun r=>(zF (zNb d r) (a.1,0)).bind fun s=>(rng (a.2+1)).bind fun t=>Wu (.inl (s,t))) ((f_j (xJ.mk l d e) b.Word 0 1).bind fun h=>(f_t h.2 h.1 1).bind fun u=>(f_j u b.Word 1 (-1)).bind fun i=>(f_t i.2 i.1 (-1)).bind fun v=>(zF (yAI d v) (a.1,0)).bind fun w=>(rng (a.2+1)).bind fun x=>Wu (.inl (w,x)))) ((f_j (xJ.mk l d e) b.Word 0 1).bind fun j=>(f_t j.2 j.1 1).bind fun y=>(f_j y b.Word 1 (-1)).bind fun k=>(f_t k.2 k.1 (-1)).bind fun c=>
 (zF (yAJ d c) (a.1,0)).bind fun z=>(rng (a.2+1)).bind fun A=>Wu (.inl (z,A)))) (Wu (.inr a.1))
def f_e(c:SPr)(b:zS):Option WB:=(zO1 c).bind fun g=>(rng (g*b.Dim)).bind fun h=>(yO h).bind fun i=>(f_d c).bind fun j=>(zF (zRN c b g j) (J0 i ([]:WA),0)).bind fun a=>cond ((a.length:Int)> 0) ((ixO a 0).bind fun d=>(f_N b.Prime a (d.length:Int)).bind fun e=>Wu e) ((f_N b.Prime a 0).bind fun f=>Wu f)
def zZe(b:SPr)(a:Int×Int):Option ((Int×Int)⊕Int):=cond (a.2<b.zA.length) ((ixO b.zA a.2).bind fun c=>(rng (a.1*c)).bind fun d=>(rng (a.2+1)).bind fun e=>Wu (.inl (d,e))) (Wu (.inr a.1))
def yAK(a:SPr):Option Int:=(zF (zZe a) (1,0)).bind fun b=>Wu b
def zNc(b:SPr)(a:Int×Int):Option ((Int×Int)⊕Int):=cond (a.2<b.zA.length) ((ixO b.zA a.2).bind fun c=>(rng (a.1*c)).bind fun d=>(rng (a.2+1)).bind fun e=>Wu (.inl (d,e))) (Wu (.inr a.1))
def zXN(a:SPr):Option Int:=(zF (zNc a) (1,0)).bind fun b=>Wu b
def zNd(b:SPr)(c d:Int)(a:(List WB)×Int):Option (((List WB)×Int)⊕(List WB)):=cond (a.2<b.zA.length) ((f_G c d).bind fun e=>(yR a.1 [e.Rows]).bind fun f=>(rng (a.2+1)).bind fun g=>Wu (.inl (f,g))) (Wu (.inr a.1))
def f_S(c:SPr)(a b:Int):Option zS:=(zF (zNd c a b) ([],0)).bind fun d=>Wu (zS.mk a b d)
structure xU where
 p:SPr
 base:WB
abbrev zI6(x:xU):T:=.agg [(Pt yM) x.p,(L 1 (Nz 1 I)) x.base]
instance:Enc zI6:=.of fun _=>zN0 ⟨Enc.t (f:=(Pt yM)) inferInstance _,Enc.t (f:=(L 1 (Nz 1 I))) inferInstance _,trivial⟩
def zFV(a:SPr)(c:WA)(b:Int):Option WA:=cond (b<0) ((zOy a c).bind fun d=>(rng (0-b)).bind fun e=>(zVf a 0 d e).bind fun f=>Wu f) ((zVf a 0 c b).bind fun g=>Wu g)
def f_n(a:SPr)(b c:WA):Option WA:=(f_a a 0 b c).bind fun d=>Wu d
def zNe(d:SPr)(b:WB)(a:WA×Int):Option ((WA×Int)⊕(WA⊕(Int×WA))):=cond (a.2<b.length) ((ixO a.1 a.2).bind fun e=>cond (e==0) ((rng (a.2+1)).bind fun f=>Wu (.inl (a.1,f))) ((ixO b a.2).bind fun g=>cond ((g.length:Int)==0) (Wu (.inr (.inr (a.2,a.1)))) ((ixO b a.2).bind fun h=>(ixO a.1 a.2).bind fun i=>(rng (0-i)).bind fun j=>(zFV d h j).bind fun k=>(f_n d a.1 k).bind fun l=>(rng (a.2+1)).bind fun c=>Wu (.inl (l,c))))) (Wu (.inr (.inl a.1)))
def zXO(c:SPr)(b:WB)(d:WA):Option (Int×WA):=(f_P d).bind fun e=>(zF (zNe c b) (e,0)).bind fun a=>match a with|(.inl a)=>Wu ((b.length:Int),a)|(.inr a)=>Wu a
def zXP(a:SPr)(b c:WA):Option WA:=(f_n a c b).bind fun d=>(zOy a d).bind fun e=>(f_n a b c).bind fun f=>(f_n a e f).bind fun g=>Wu g
def zVC(i:SPr)(k:WB)(j:WB×Int)(a:WA×Int):Option ((WA×Int)⊕WA):=cond (a.2<k.length) ((ixO j.1 a.2).bind fun l=>cond ((l.length:Int)> 0) ((ixO a.1 a.2).bind fun m=>cond (m != 0) ((ixO j.1 a.2).bind fun n=>(ixO a.1 a.2).bind fun b=>(rng (0-b)).bind fun c=>(zFV i n c).bind fun d=>(f_n i a.1 d).bind fun e=>(rng (a.2+1)).bind fun f=>Wu (.inl (e,f))) ((rng (a.2+1)).bind fun g=>Wu (.inl (a.1,g)))) ((rng (a.2+1)).bind fun h=>Wu (.inl (a.1,h)))) (Wu (.inr a.1))
def zXQ(e:SPr)(b:WB)(a:WB×Int):Option ((WB×Int)⊕WB):=cond (a.2>=0) ((ixO b a.2).bind fun f=>cond ((f.length:Int)==0) ((rng (a.2-1)).bind fun g=>Wu (.inl (a.1,g))) ((ixO b a.2).bind fun h=>(rng (a.2+1)).bind fun i=>(zF (zVC e b a) (h,i)).bind fun c=>(ixO a.1 a.2).bind fun _=>(rng (a.2-1)).bind fun d=>Wu (.inl (a.1.set a.2.toNat c,d)))) (Wu (.inr a.1))
def zRO(b:WB)(a:WB×Int):Option ((WB×Int)⊕WB):=cond (a.2<b.length) ((ixO b a.2).bind fun c=>cond ((c.length:Int)> 0) ((ixO b a.2).bind fun d=>(yR a.1 [d]).bind fun e=>(rng (a.2+1)).bind fun f=>Wu (.inl (e,f))) ((rng (a.2+1)).bind fun g=>Wu (.inl (a.1,g)))) (Wu (.inr a.1))
def f_x(d:SPr)(a:WB):Option WB:=(yO (a.length:Int)).bind fun e=>(rng ((a.length:Int)-1)).bind fun f=>(zF (zXQ d a) (J0 e ([]:WA),f)).bind fun b=>(zF (zRO b) ([],0)).bind fun c=>Wu c
def zRP(i:SPr)(k:WB×WB)(j:Int×WA)(b:WA)(a:WB×Int):Option ((WB×Int)⊕WB):=cond (a.2<i.zA.length) (cond (a.2 != j.1) ((ixO (k.1.set j.1.toNat b) a.2).bind fun c=>cond ((c.length:Int)> 0) ((zXP i b c).bind fun d=>(yR a.1 [d]).bind fun e=>(rng (a.2+1)).bind fun f=>Wu (.inl (e,f))) ((rng (a.2+1)).bind fun g=>Wu (.inl (a.1,g)))) ((rng (a.2+1)).bind fun h=>Wu (.inl (a.1,h)))) (Wu (.inr a.1))
def zRQ(d:SPr)(a:WB×WB):Option ((WB×WB)⊕WB):=cond ((a.2.length:Int)> 0) ((rng ((a.2.length:Int)-1)).bind fun i=>(ixO a.2 i).bind fun l=>(zT a.2 0 i).bind fun j=>(zXO d a.1 l).bind fun b=>cond (b.1==d.zA.length) (Wu (.inl (a.1,j))) ((ixO b.2 b.1).bind fun m=>(ixO d.zA b.1).bind fun k=>(zV7 m k).bind fun n=>(zFV d b.2 n).bind fun c=>(ixO a.1 b.1).bind fun _=>(yR j [b.2]).bind fun e=>(zFV d c k).bind fun f=>(yR e [f]).bind fun g=>(zF (zRP d a b c) (g,0)).bind fun h=>Wu (.inl (a.1.set b.1.toNat c,h)))) (Wu (.inr a.1))
def f_E(a:SPr)(d:WB):Option WB:=(yO (a.zA.length:Int)).bind fun e=>(zXJ d).bind fun f=>(zF (zRQ a) (J0 e ([]:WA),f)).bind fun b=>(f_x a b).bind fun c=>Wu c
def yAL(a:SPr):Option xU:=(yO (a.zA.length:Int)).bind fun b=>Wu (xU.mk a (J0 b ([]:WA)))
def zVD(a:WB):Option WB:=(yR [] a).bind fun b=>Wu b
def zNf(b:WA)(a:Int):Option (Int⊕(Unit⊕Int)):=cond (a<b.length) ((ixO b a).bind fun c=>cond (c != 0) (Wu (.inr (.inr a))) ((rng (a+1)).bind fun d=>Wu (.inl d))) (Wu (.inr (.inl ())))
def zO8(b:WA):Option Int:=(zF (zNf b) 0).bind fun a=>match a with|(.inl _)=>Wu (b.length:Int)|(.inr a)=>Wu a
def zQo(b:xU)(a:WA×Int):Option ((WA×Int)⊕WA):=cond (a.2<a.1.length) ((ixO b.base a.2).bind fun l=>cond (!l.isEmpty) ((ixO b.base a.2).bind fun m=>(ixO b.p.zA a.2).bind fun n=>(ixO a.1 a.2).bind fun o=>(rng (n-o)).bind fun q=>(f_Q b.p m q).bind fun r=>(zI5 b.p r a.1).bind fun c=>(ixO c a.2).bind fun s=>cond (s != 0) ((ixO b.base a.2).bind fun e=>(ixO b.p.zA a.2).bind fun f=>(ixO c a.2).bind fun g=>(rng (f-g)).bind fun h=>(f_Q b.p e h).bind fun i=>(zI5 b.p i c).bind fun d=>(zO8 d).bind fun j=>Wu (.inl (d,j))) ((zO8 c).bind fun k=>Wu (.inl (c,k)))) (Wu (.inr a.1))) (Wu (.inr a.1))
def zXR(b:xU)(c:WA):Option (WA×xU):=(zO8 c).bind fun d=>(zF (zQo b) (c,d)).bind fun a=>Wu (a,b)
def zXS(a:SPr)(b c:WA):Option WA:=(f_B a b).bind fun d=>(zML a b c).bind fun e=>(zI5 a d e).bind fun f=>Wu f
def zRR(c:WA×xU)(d:WA)(a:WB×Int):Option ((WB×Int)⊕WB):=cond (a.2<c.2.base.length) ((ixO c.2.base a.2).bind fun b=>cond (!b.isEmpty) ((zXS c.2.p b d).bind fun e=>(yR a.1 [e]).bind fun f=>(rng (a.2+1)).bind fun g=>Wu (.inl (f,g))) ((rng (a.2+1)).bind fun h=>Wu (.inl (a.1,h)))) (Wu (.inr a.1))
def zRS(b:SPr×WB×Bool×WB):Option ((SPr×WB×Bool×WB)⊕(SPr×WB×Bool)):=cond ((b.2.2.2.length:Int)> 0) ((ixO b.2.2.2 0).bind fun j=>(zXR (xU.mk b.1 b.2.1) j).bind fun a=>(zT b.2.2.2 1 b.2.2.2.length).bind fun i=>(zO8 a.1).bind fun d=>cond (d==a.1.length) (Wu (.inl (a.2.p,a.2.base,b.2.2.1,i))) ((ixO a.1 d).bind fun k=>(ixO a.2.p.zA d).bind fun l=>(f_U k l).bind fun m=>(yR i [a.1]).bind fun n=>(f_Q a.2.p a.1 m.1).bind fun c=>(ixO a.2.p.zA d).bind fun e=>(f_Q a.2.p c e).bind fun f=>(yR n [f]).bind fun g=>(zF (zRR a c) (g,0)).bind fun h=>(ixO a.2.base d).bind fun _=>(neO c).bind fun _=>Wu (.inl (a.2.p,a.2.base.set d.toNat c,Ww,h)))) (Wu (.inr (b.1,b.2.1,b.2.2.1)))
def f_H(b:xU)(c:WB):Option (Bool×xU):=(zVD c).bind fun d=>(zF zRS (b.p,b.base,Wx,d)).bind fun a=>Wu (a.2.2,(xU.mk a.1 a.2.1))
def zRT(b:SPr)(c:WB)(d:WA×Int)(e:Int)(a:WA):Option (WA⊕WA):=(ixO a e).bind fun f=>cond (f != 0) ((ixO c d.2).bind fun g=>(f_b b a g).bind fun h=>Wu (.inl h)) (Wu (.inr a))
def zO9(c:SPr)(d:WB)(b:WA)(a:WA×Int):Option ((WA×Int)⊕WA):=cond (a.2<b.length) ((ixO b a.2).bind fun e=>(zF (zRT c d a e) a.1).bind fun f=>(rng (a.2+1)).bind fun g=>Wu (.inl (f,g))) (Wu (.inr a.1))
def f_I(b:SPr)(a:WB)(c:WA):Option WA:=(f_A c).bind fun d=>(f_y a).bind fun e=>(zF (zO9 b a e) (d,0)).bind fun f=>Wu f
def zQp(b:xU)(a:WB×Int):Option ((WB×Int)⊕WB):=cond (a.2>=0) ((ixO b.base a.2).bind fun c=>cond (!c.isEmpty) ((ixO b.base a.2).bind fun d=>(f_I b.p a.1 d).bind fun e=>(yR [e] a.1).bind fun f=>(rng (a.2-1)).bind fun g=>Wu (.inl (f,g))) ((rng (a.2-1)).bind fun h=>Wu (.inl (a.1,h)))) (Wu (.inr a.1))
def zXT(a:xU):Option WB:=(rng ((a.base.length:Int)-1)).bind fun b=>(zF (zQp a) ([],b)).bind fun c=>Wu c
def zNg(a:SPr)(b:WB):Option WB:=(yAL a).bind fun c=>(f_H c b).bind fun d=>(zXT d.2).bind fun e=>Wu e
def zLh(a:SPr):Option WA:=(yO (a.zA.length:Int)).bind fun b=>Wu (J0 b (0:Int))
def zVE(a:SPr)(c b:WA):Option WA:=(zOy a b).bind fun d=>(f_n a c b).bind fun e=>(f_n a d e).bind fun f=>Wu f
def zVF(b:WA)(a:WB×Int):Option ((WB×Int)⊕WB):=cond (a.2<b.length) ((yAC (b.length:Int) a.2).bind fun c=>(yR a.1 [c]).bind fun d=>(rng (a.2+1)).bind fun e=>Wu (.inl (d,e))) (Wu (.inr a.1))
def zOA(b:WA)(a:WB×(List WB)×Int):Option ((WB×(List WB)×Int)⊕(WB×(List WB))):=cond (a.2.2<b.length) ((yO (b.length:Int)).bind fun d=>(yR a.1 [J0 d (0:Int)]).bind fun e=>(rng (a.2.2+1)).bind fun f=>(zF (zVF b) ([],f)).bind fun g=>(yR a.2.1 [g]).bind fun h=>(rng (a.2.2+1)).bind fun c=>Wu (.inl (e,h,c))) (Wu (.inr (a.1,a.2.1)))
def f_J(b:WA):Option SPr:=(f_P b).bind fun c=>(zF (zOA b) ([],[],0)).bind fun a=>Wu (SPr.mk c a.1 a.2)
def zRU(a:Int)(b:WA)(c:Int):Option WA:=(yO a).bind fun d=>(yR (J0 d (0:Int)) b).bind fun e=>(wN e c (0:Int)).bind fun f=>Wu f
structure yF where
 Gens:Int
 zW:WB
abbrev qT(x:yF):T:=.agg [I x.Gens,(L 1 (L 1 I)) x.zW]
instance:Enc qT:=.of fun _=>zN0 ⟨Enc.t (f:=I) inferInstance _,Enc.t (f:=(L 1 (L 1 I))) inferInstance _,trivial⟩
def yAM(a:Int):Option Bool:=(zOv a 0 6).bind fun b=>Wu b
def zNh(b:Int)(c:WA)(a:Int):Option (Int⊕(Unit⊕Bool)):=cond (a<c.length) ((ixO c a).bind fun d=>cond (d==0) (Wu (.inr (.inr Wx))) ((rng (0-b)).bind fun e=>(zOv d e b).bind fun f=>cond (!f) (Wu (.inr (.inr Wx))) ((rng (a+1)).bind fun g=>Wu (.inl g)))) (Wu (.inr (.inl ())))
def zXU(c:Int)(b:WA):Option Bool:=(zF (zNh c b) 0).bind fun a=>match a with|(.inl _)=>Wu ((b.length:Int)<=64)|(.inr a)=>Wu a
def zNi(c:Int)(b:WB)(a:Int):Option (Int⊕(Unit⊕Int)):=cond (a<b.length) ((ixO b a).bind fun d=>(zXU c d).bind fun e=>cond (!e) (Wu (.inr (.inr 1))) ((rng (a+1)).bind fun f=>Wu (.inl f))) (Wu (.inr (.inl ())))
def yAN(b:Int)(c:WB):Option Int:=(yAM b).bind fun d=>cond (!d) (Wu 2) ((zF (zNi b c) 0).bind fun a=>match a with|(.inl _)=>Wu 0|(.inr a)=>Wu a)
def zXV(a:yF):Option Bool:=(zOv a.Gens 0 4).bind fun b=>cond (!b) (Wu Wx) (cond ((a.zW.length:Int)> 12) (Wu Wx) ((yAN a.Gens a.zW).bind fun c=>Wu (c==0)))
def zXW(a:zM):Option zM:=(f_T a).bind fun b=>(f_N a.Prime b.Rows (a.Rows.length:Int)).bind fun c=>Wu (zM.mk a.Prime a.wP c)
def zXX(a:SPr)(b:Int):Option WB:=(f_S a b 1).bind fun c=>(f_e a c).bind fun d=>(zO1 a).bind fun e=>(zXW (zM.mk b e d)).bind fun f=>Wu f.Rows
def zVG(b:Int)(c:WA)(a:WA×Int):Option ((WA×Int)⊕WA):=cond (a.2<b) ((zXL c a.2).bind fun d=>cond (!d) ((yR a.1 [a.2]).bind fun e=>(rng (a.2+1)).bind fun f=>Wu (.inl (e,f))) ((rng (a.2+1)).bind fun g=>Wu (.inl (a.1,g)))) (Wu (.inr a.1))
def zVH(e f:WA)(a:WA×Int):Option ((WA×Int)⊕WA):=cond (a.2<e.length) ((ixO e a.2).bind fun g=>(ixO f g).bind fun b=>(yR a.1 [b]).bind fun c=>(rng (a.2+1)).bind fun d=>Wu (.inl (c,d))) (Wu (.inr a.1))
def zVI(f:Int)(g:WB)(b:Int)(h:WA)(a:WB×Int):Option ((WB×Int)⊕WB):=cond (a.2<b) ((zVn b a.2).bind fun i=>(zXK (zM.mk f b g) i).bind fun j=>(zF (zVH h j) ([],0)).bind fun c=>(yR a.1 [c]).bind fun d=>(rng (a.2+1)).bind fun e=>Wu (.inl (d,e))) (Wu (.inr a.1))
def f_q(d:Int)(b:WB)(c:Int):Option WB:=(f_y b).bind fun e=>(zF (zVG c e) ([],0)).bind fun f=>(zF (zVI d b c f) ([],0)).bind fun a=>Wu a
def zVJ(d e:WB)(f:Int)(a:WB×Int):Option ((WB×Int)⊕WB):=cond (a.2<d.length) ((ixO d a.2).bind fun g=>(rng (f+a.2)).bind fun h=>(ixO e h).bind fun i=>(f_u [g,i]).bind fun j=>(yR a.1 [j]).bind fun b=>(rng (a.2+1)).bind fun c=>Wu (.inl (b,c))) (Wu (.inr a.1))
def f_X(a:SPr)(e:Int)(f b:WB):Option (SPr×WB):=(zO1 a).bind fun d=>(ixO b 0).bind fun g=>(f_S a e (g.length:Int)).bind fun h=>(zT b 0 d).bind fun i=>(f_l a h i).bind fun j=>(zF (zVJ f b d) ([],0)).bind fun c=>Wu (j,c)
def yAO(a:Int):Option Int:=(rng (0-a)).bind fun b=>Wu (max a b)
def zNj(b:SPr)(d:WA)(g:WB)(a:WA×Int):Option ((WA×Int)⊕WA):=cond (a.2<d.length) ((ixO d a.2).bind fun e=>(yAO e).bind fun h=>(rng (h-1)).bind fun i=>(ixO g i).bind fun f=>cond (e<0) ((f_B b f).bind fun j=>(f_b b a.1 j).bind fun k=>(rng (a.2+1)).bind fun l=>Wu (.inl (k,l))) ((f_b b a.1 f).bind fun m=>(rng (a.2+1)).bind fun c=>Wu (.inl (m,c)))) (Wu (.inr a.1))
def zXY(b:SPr)(c:WA)(d:WB):Option WA:=(yO (b.zA.length:Int)).bind fun e=>(zF (zNj b c d) (J0 e (0:Int),0)).bind fun a=>Wu a
def zOB(b:SPr)(e:WB)(c:WA)(a:WA×WA×Int):Option ((WA×WA×Int)⊕(WA×WA)):=cond (a.2.2<c.length) ((ixO c a.2.2).bind fun f=>(ixO a.1 f).bind fun d=>(yR a.2.1 [d]).bind fun g=>(ixO e a.2.2).bind fun h=>(f_Q b h d).bind fun i=>(f_B b i).bind fun j=>(zI5 b j a.1).bind fun k=>(rng (a.2.2+1)).bind fun l=>Wu (.inl (k,g,l))) (Wu (.inr (a.1,a.2.1)))
def f_O(d:SPr)(c:WB)(e:WA):Option (WA×Bool):=(f_y c).bind fun f=>(zF (zOB d c f) (e,[],0)).bind fun a=>(zVg a.1).bind fun b=>Wu (a.2,b)
def zVK(h:SPr)(i:WB)(j:WA)(a:WB)(b:WB×Int):Option ((WB×Int)⊕WB):=cond (b.2<a.length) ((ixO a b.2).bind fun c=>(zML h c j).bind fun d=>(f_O h i d).bind fun e=>(yR b.1 [e.1]).bind fun f=>(rng (b.2+1)).bind fun g=>Wu (.inl (f,g))) (Wu (.inr b.1))
def zRV(c:SPr)(b:WB)(j:WA)(a:WA×WB×(List WB)×Int):Option ((WA×WB×(List WB)×Int)⊕(WA×WB×(List WB))):=cond (a.2.2.2<b.length) ((ixO b a.2.2.2).bind fun h=>(ixO j a.2.2.2).bind fun k=>(ixO c.zA k).bind fun i=>(yR a.1 [i]).bind fun l=>(f_Q c h i).bind fun m=>(f_O c b m).bind fun n=>(yR a.2.1 [n.1]).bind fun o=>(rng (a.2.2.2+1)).bind fun p=>(zT b p b.length).bind fun d=>(zF (zVK c b h d) ([],0)).bind fun e=>(yR a.2.2.1 [e]).bind fun f=>(rng (a.2.2.2+1)).bind fun g=>Wu (.inl (l,o,f,g))) (Wu (.inr (a.1,a.2.1,a.2.2.1)))
def f_F(c:SPr)(b:WB):Option SPr:=(f_y b).bind fun d=>(zF (zRV c b d) ([],[],[],0)).bind fun a=>Wu (SPr.mk a.1 a.2.1 a.2.2)
def zRW(c b:WB)(a:WB×Int):Option ((WB×Int)⊕WB):=cond (a.2<b.length) ((ixO b a.2).bind fun d=>(zVu d 0 (c.length:Int)).bind fun e=>(yR a.1 [e]).bind fun f=>(rng (a.2+1)).bind fun g=>Wu (.inl (f,g))) (Wu (.inr a.1))
def zOC(h:yF)(i:SPr)(a:SPr×WB)(b:WB×Int):Option ((WB×Int)⊕WB):=cond (b.2<h.zW.length) ((ixO h.zW b.2).bind fun d=>(zXY a.1 d a.2).bind fun c=>(zT c (i.zA.length:Int) c.length).bind fun e=>(yR b.1 [e]).bind fun f=>(rng (b.2+1)).bind fun g=>Wu (.inl (f,g))) (Wu (.inr b.1))
def zRX(h:Int)(c:WB)(b:WA)(a:WA×Int):Option ((WA×Int)⊕WA):=cond (a.2<b.length) ((ixO b a.2).bind fun d=>(ixO c a.2).bind fun e=>(f_s a.1 e d h).bind fun f=>(rng (a.2+1)).bind fun g=>Wu (.inl (f,g))) (Wu (.inr a.1))
def zVL(j:Int)(a c:WB)(d:WA)(b:WB×Int):Option ((WB×Int)⊕WB):=cond (b.2<a.length) ((ixO a b.2).bind fun e=>(yO (d.length:Int)).bind fun f=>(zF (zRX j c e) (J0 f (0:Int),0)).bind fun g=>(yR b.1 [g]).bind fun h=>(rng (b.2+1)).bind fun i=>Wu (.inl (h,i))) (Wu (.inr b.1))
def zVM(b:SPr×WB)(c:WB)(a:WB×Int):Option ((WB×Int)⊕WB):=cond (a.2<b.2.length) ((ixO b.2 a.2).bind fun d=>(f_O b.1 c d).bind fun e=>(yR a.1 [e.1]).bind fun f=>(rng (a.2+1)).bind fun g=>Wu (.inl (f,g))) (Wu (.inr a.1))
def zXZ(h:Int)(c:WB)(b:WA)(a:WA×Int):Option ((WA×Int)⊕WA):=cond (a.2<b.length) ((ixO b a.2).bind fun d=>(ixO c a.2).bind fun e=>(f_s a.1 e d h).bind fun f=>(rng (a.2+1)).bind fun g=>Wu (.inl (f,g))) (Wu (.inr a.1))
def zVN(i:Int)(b c:WB)(a:WB×Int):Option ((WB×Int)⊕WB):=cond (a.2<b.length) ((ixO b a.2).bind fun d=>(yO 0).bind fun e=>(zF (zXZ i c d) (J0 e (0:Int),0)).bind fun f=>(yR a.1 [f]).bind fun g=>(rng (a.2+1)).bind fun h=>Wu (.inl (g,h))) (Wu (.inr a.1))
def zVO(b:SPr×WB)(c:WB)(a:WB×Int):Option ((WB×Int)⊕WB):=cond (a.2<b.2.length) ((ixO b.2 a.2).bind fun d=>(f_O b.1 c d).bind fun e=>(yR a.1 [e.1]).bind fun f=>(rng (a.2+1)).bind fun g=>Wu (.inl (f,g))) (Wu (.inr a.1))
def f_f(x:yF)(a:Int)(b:SPr)(g:WB):Option (SPr×WB×SPr):=(zO1 b).bind fun y=>(rng (y+g.length)).bind fun j=>cond (j==0) (Wu (b,g,b)) ((zXX b a).bind fun z=>(zF (zRW g z) ([],0)).bind fun A=>(f_g a A).bind fun w=>(f_q a w j).bind fun k=>(f_X b a g k).bind fun l=>(zF (zOC x b l) ([],0)).bind fun m=>(f_q a w j).bind fun f=>(f_g a m).bind fun n=>(ixO f 0).bind fun o=>(f_q a n (o.length:Int)).bind fun c=>cond ((c.length:Int)> 0) ((ixO c 0).bind fun p=>(zF (zVL a f c p) ([],0)).bind fun q=>(f_X b a g q).bind fun d=>(zNg d.1 d.2).bind fun h=>(f_F d.1 h).bind fun r=>(zF (zVM d h) ([],0)).bind fun s=>Wu (r,s,b)) ((zF (zVN a f c) ([],0)).bind fun t=>(f_X b a g t).bind fun e=>(zNg e.1 e.2).bind fun i=>(f_F e.1 i).bind fun u=>(zF (zVO e i) ([],0)).bind fun v=>Wu (u,v,b)))
def zJN(c:SPr)(b:WA)(a:Int×Int):Option ((Int×Int)⊕Int):=cond (a.2<b.length) ((ixO b a.2).bind fun d=>(ixO c.zA a.2).bind fun e=>(rng (a.1*e)).bind fun f=>(rng (f+d)).bind fun g=>(rng (a.2+1)).bind fun h=>Wu (.inl (g,h))) (Wu (.inr a.1))
def zVP(a:SPr)(b:WA):Option Int:=(zF (zJN a b) (0,0)).bind fun c=>Wu c
def zVQ(b:SPr)(i:WB)(k:WB×(List (Int×Int))×WB×Int)(a:WB×(List (Int×Int))×WB×Int):Option ((WB×(List (Int×Int))×WB×Int)⊕(WB×(List (Int×Int))×WB)):=cond (a.2.2.2<i.length) ((ixO i a.2.2.2).bind fun l=>(ixO a.1 k.2.2.2).bind fun m=>(zI5 b m l).bind fun c=>(zVP b c).bind fun j=>cond (!(qY a.2.1 j).isSome) ((zVP b c).bind fun n=>(yR a.1 [c]).bind fun o=>(ixO a.2.2.1 a.2.2.2).bind fun p=>(yR p [(a.1.length:Int)]).bind fun d=>(rng (a.2.2.2+1)).bind fun e=>Wu (.inl (o,zB9 a.2.1 n (a.1.length:Int),a.2.2.1.set a.2.2.2.toNat d,e))) ((ixO a.2.2.1 a.2.2.2).bind fun f=>(yR f [((qY a.2.1 j).getD 0)]).bind fun g=>(rng (a.2.2.2+1)).bind fun h=>Wu (.inl (a.1,a.2.1,a.2.2.1.set a.2.2.2.toNat g,h)))) (Wu (.inr (a.1,a.2.1,a.2.2.1)))
def zYa(d:SPr)(e:WB)(a:WB×(List (Int×Int))×WB×Int):Option ((WB×(List (Int×Int))×WB×Int)⊕WB):=cond (a.2.2.2<a.1.length) ((zF (zVQ d e a) (a.1,a.2.1,a.2.2.1,0)).bind fun b=>(rng (a.2.2.2+1)).bind fun c=>Wu (.inl (b.1,b.2.1,b.2.2,c))) (Wu (.inr a.2.2.1))
def f_K(b:SPr)(c:WB):Option WB:=(yO (b.zA.length:Int)).bind fun d=>(yO (c.length:Int)).bind fun e=>(zF (zYa b c) ([J0 d (0:Int)],zB9 [] 0 0,J0 e ([]:WA),0)).bind fun a=>Wu a
def zJO(c:yF)(d e:Int)(a:WA×WB×(List WB)×WB×Int):Option ((WA×WB×(List WB)×WB×Int)⊕((WA×WB×(List WB)×WB)⊕(WB×Int))):=cond (a.2.2.2.2<e) ((f_f c d (SPr.mk a.1 a.2.1 a.2.2.1) a.2.2.2.1).bind fun b=>(zXN b.1).bind fun f=>cond (f> 128) (Wu (.inr (.inr ([],3)))) ((rng (a.2.2.2.2+1)).bind fun g=>Wu (.inl (b.1.zA,b.1.zQ,b.1.zG,b.2.1,g)))) (Wu (.inr (.inl (a.1,a.2.1,a.2.2.1,a.2.2.2.1))))
def zVR(b:yF)(c d:Int):Option (WB×Int):=(zXV b).bind fun e=>cond (!e) (Wu ([],1)) ((zXA c).bind fun f=>cond (!f) (Wu ([],2)) ((zOv d 0 6).bind fun g=>cond (!g) (Wu ([],2)) ((yO b.Gens).bind fun h=>(zF (zJO b c d) ([],[],[],J0 h ([]:WA),0)).bind fun a=>match a with|(.inl a)=>(f_K (SPr.mk a.1 a.2.1 a.2.2.1) a.2.2.2).bind fun i=>Wu (i,0)|(.inr a)=>Wu a)))
def zNk(c:Int)(b:WA)(a:Int):Option (Int⊕(Unit⊕Bool)):=cond (a<b.length) ((ixO b a).bind fun d=>cond (d==0) (Wu (.inr (.inr Wx))) ((ixO b a).bind fun e=>(rng (0-c)).bind fun f=>(zVc e f c).bind fun g=>cond (!g) (Wu (.inr (.inr Wx))) ((rng (a+1)).bind fun h=>Wu (.inl h)))) (Wu (.inr (.inl ())))
def zYb(c:Int)(b:WA):Option Bool:=cond ((b.length:Int)> 64) (Wu Wx) ((zF (zNk c b) 0).bind fun a=>match a with|(.inl _)=>Wu Ww|(.inr a)=>Wu a)
def zNl(a:yF)(b:Int):Option (Int⊕(Unit⊕Bool)):=cond (b<a.zW.length) ((ixO a.zW b).bind fun c=>(zYb a.Gens c).bind fun d=>cond (!d) (Wu (.inr (.inr Wx))) ((rng (b+1)).bind fun e=>Wu (.inl e))) (Wu (.inr (.inl ())))
def zYc(b:yF):Option Bool:=(zVc b.Gens 0 4).bind fun c=>cond (!c) (Wu Wx) (cond ((b.zW.length:Int)> 12) (Wu Wx) ((zF (zNl b) 0).bind fun a=>match a with|(.inl _)=>Wu Ww|(.inr a)=>Wu a))
def zRY(b c:Int)(a:WA×Int):Option ((WA×Int)⊕WA):=cond (a.2<c) ((yR a.1 [b]).bind fun d=>(rng (a.2+1)).bind fun e=>Wu (.inl (d,e))) (Wu (.inr a.1))
def zOD(f:SPr)(g:Int)(a:WB×Int×Int):Option ((WB×Int×Int)⊕(WB×Int)):=cond (a.2.2<f.zA.length) ((ixO f.zQ a.2.2).bind fun c=>(zRU 0 c g).bind fun b=>(ixO b a.2.1).bind fun _=>(ixO a.1 a.2.2).bind fun _=>(rng (a.2.1+1)).bind fun d=>(rng (a.2.2+1)).bind fun e=>Wu (.inl (a.1.set a.2.2.toNat (b.set a.2.1.toNat 1),d,e))) (Wu (.inr (a.1,a.2.1)))
def zOE(m:SPr)(n:Int)(b:(List WB)×Int×Int)(a:(List WB)×Int×Int):Option (((List WB)×Int×Int)⊕((List WB)×Int)):=cond (a.2.2<m.zA.length) ((ixO m.zG b.2.2).bind fun f=>(rng (a.2.2-b.2.2)).bind fun g=>(rng (g-1)).bind fun h=>(ixO f h).bind fun i=>(zRU 0 i n).bind fun c=>(ixO c a.2.1).bind fun _=>(ixO a.1 b.2.2).bind fun d=>(rng (a.2.2-b.2.2)).bind fun j=>(rng (j-1)).bind fun e=>(ixO d e).bind fun _=>(rng (a.2.1+1)).bind fun k=>(rng (a.2.2+1)).bind fun l=>Wu (.inl (a.1.set b.2.2.toNat (d.set e.toNat (c.set a.2.1.toNat 1)),k,l))) (Wu (.inr (a.1,a.2.1)))
def zOF(e:SPr)(f:Int)(a:(List WB)×Int×Int):Option (((List WB)×Int×Int)⊕(List WB)):=cond (a.2.2<e.zA.length) ((rng (a.2.2+1)).bind fun c=>(zF (zOE e f a) (a.1,a.2.1,c)).bind fun b=>(rng (a.2.2+1)).bind fun d=>Wu (.inl (b.1,b.2,d))) (Wu (.inr a.1))
def f_m(a:SPr)(f g:Int):Option SPr:=(rng ((a.zA.length:Int)+1)).bind fun h=>(rng ((a.zA.length:Int)*h)).bind fun i=>(vP i 2).bind fun j=>(rng (j+g)).bind fun c=>(f_P a.zA).bind fun k=>(zF (zRY f c) (k,0)).bind fun l=>(f_J l).bind fun d=>(zF (zOD a c) (d.zQ,(a.zA.length:Int),0)).bind fun b=>(zF (zOF a c) (d.zG,b.2,0)).bind fun e=>Wu (SPr.mk d.zA b.1 e)
def zNm(c:SPr)(a d:Int):Option WA:=(zLh c).bind fun b=>(ixO b a).bind fun _=>Wu (b.set a.toNat d)
def zNn(a:Int)(b c:WA)(d:Int):Option WA:=(zT b d b.length).bind fun e=>(rng (a-1)).bind fun f=>(zT c d c.length).bind fun g=>(f_R a e f g).bind fun h=>Wu h
def zVS(b:SPr)(l n:Int)(m c:WA)(a:WB×Int):Option ((WB×Int)⊕WB):=cond (a.2<l) ((zNm b a.2 1).bind fun d=>(f_n b d c).bind fun e=>(f_n b e m).bind fun f=>(f_n b c m).bind fun g=>(f_n b d g).bind fun h=>(zNn n f h l).bind fun i=>(yR a.1 [i]).bind fun j=>(rng (a.2+1)).bind fun k=>Wu (.inl (j,k))) (Wu (.inr a.1))
def zVT(b:SPr)(f g:Int)(d y:WA)(a:WB×Int):Option ((WB×Int)⊕WB):=cond (a.2<f) ((zNm b a.2 1).bind fun c=>(ixO b.zA a.2).bind fun h=>(rng (h-1)).bind fun i=>(zNm b a.2 i).bind fun e=>(f_n b e c).bind fun j=>(f_n b j d).bind fun k=>(f_n b c d).bind fun l=>(f_n b e l).bind fun m=>(zNn g k m f).bind fun n=>(yR a.1 [n]).bind fun o=>(f_n b c d).bind fun p=>(f_n b p y).bind fun q=>(f_n b d y).bind fun r=>(f_n b c r).bind fun s=>(zNn g q s f).bind fun t=>(yR o [t]).bind fun u=>(rng (a.2+1)).bind fun v=>(zF (zVS b f g d c) (u,v)).bind fun w=>(rng (a.2+1)).bind fun x=>Wu (.inl (w,x))) (Wu (.inr a.1))
def zVU(b:SPr)(d j:Int)(a:WB×Int):Option ((WB×Int)⊕WB):=cond (a.2<d) ((zNm b a.2 1).bind fun c=>(ixO b.zA a.2).bind fun k=>(rng (k-1)).bind fun l=>(zNm b a.2 l).bind fun e=>(f_n b c e).bind fun m=>(f_n b m c).bind fun n=>(f_n b e c).bind fun o=>(f_n b c o).bind fun p=>(zNn j n p d).bind fun q=>(yR a.1 [q]).bind fun f=>(rng (a.2+1)).bind fun g=>(zF (zVT b d j c e) (f,g)).bind fun h=>(rng (a.2+1)).bind fun i=>Wu (.inl (h,i))) (Wu (.inr a.1))
def f_r(b:SPr)(c d:Int):Option WB:=(zF (zVU b c d) ([],0)).bind fun a=>Wu a
def zQq(b:WB)(c:Int)(a:WA×Int×Int):Option ((WA×Int×Int)⊕WA):=cond (a.2.2<c) (cond (a.2.1<b.length) ((ixO b a.2.1).bind fun d=>(f_w d).bind fun e=>cond (e==a.2.2) ((rng (a.2.1+1)).bind fun f=>(rng (a.2.2+1)).bind fun g=>Wu (.inl (a.1,f,g))) ((yR a.1 [a.2.2]).bind fun h=>(rng (a.2.2+1)).bind fun i=>Wu (.inl (h,a.2.1,i)))) ((yR a.1 [a.2.2]).bind fun j=>(rng (a.2.2+1)).bind fun k=>Wu (.inl (j,a.2.1,k)))) (Wu (.inr a.1))
def zRZ(a:WB)(b:Int):Option WA:=(zF (zQq a b) ([],0,0)).bind fun c=>Wu c
def zJP(b c:WA)(a:WA×Int):Option ((WA×Int)⊕WA):=cond (a.2<b.length) ((ixO b a.2).bind fun d=>(ixO c d).bind fun e=>(yR a.1 [e]).bind fun f=>(rng (a.2+1)).bind fun g=>Wu (.inl (f,g))) (Wu (.inr a.1))
def zOG(c:Int)(a:WA)(b:Int)(d:WB)(e:WA):Option WA:=(zT a b a.length).bind fun f=>(zV6 c d f).bind fun g=>(zT a 0 b).bind fun h=>(f_P h).bind fun i=>(zF (zJP e g) (i,0)).bind fun j=>Wu j
def zOH(m:SPr)(l n:Int)(o:WB)(p:WA)(b:WB×(List WB)×Int)(a:(List WB)×Int):Option (((List WB)×Int)⊕(List WB)):=cond (a.2<l) ((ixO a.1 b.2.2).bind fun c=>(rng (a.2-b.2.2)).bind fun e=>(rng (e-1)).bind fun d=>(ixO m.zG b.2.2).bind fun f=>(rng (a.2-b.2.2)).bind fun g=>(rng (g-1)).bind fun h=>(ixO f h).bind fun i=>(zOG n i l o p).bind fun j=>(ixO c d).bind fun _=>(rng (a.2+1)).bind fun k=>Wu (.inl (a.1.set b.2.2.toNat (c.set d.toNat j),k))) (Wu (.inr a.1))
def zSa(e:SPr)(b f:Int)(g:WB)(h:WA)(a:WB×(List WB)×Int):Option ((WB×(List WB)×Int)⊕(WB×(List WB))):=cond (a.2.2<b) ((ixO e.zQ a.2.2).bind fun i=>(zOG f i b g h).bind fun j=>(ixO a.1 a.2.2).bind fun _=>(rng (a.2.2+1)).bind fun k=>(zF (zOH e b f g h a) (a.2.1,k)).bind fun c=>(rng (a.2.2+1)).bind fun d=>Wu (.inl (a.1.set a.2.2.toNat j,c,d))) (Wu (.inr (a.1,a.2.1)))
def f_z(b:SPr)(c g:Int)(e:WB):Option SPr:=(rng ((b.zA.length:Int)-c)).bind fun h=>(zRZ e h).bind fun f=>(rng (c+f.length)).bind fun i=>(zT b.zA 0 i).bind fun j=>(f_J j).bind fun d=>(zF (zSa b c g e f) (d.zQ,d.zG,0)).bind fun a=>Wu (SPr.mk d.zA a.1 a.2)
def zNo(c:SPr)(b:WA)(i:WB)(a:WA×Int):Option ((WA×Int)⊕WA):=cond (a.2<b.length) ((ixO b a.2).bind fun j=>cond (j> 0) ((ixO b a.2).bind fun k=>(rng (k-1)).bind fun l=>(ixO i l).bind fun m=>(f_n c a.1 m).bind fun n=>(rng (a.2+1)).bind fun o=>Wu (.inl (n,o))) ((ixO b a.2).bind fun p=>(rng (0-p)).bind fun q=>(rng (q-1)).bind fun d=>(ixO i d).bind fun e=>(zOy c e).bind fun f=>(f_n c a.1 f).bind fun g=>(rng (a.2+1)).bind fun h=>Wu (.inl (g,h)))) (Wu (.inr a.1))
def zYd(b:SPr)(c:WA)(d:WB):Option WA:=(zLh b).bind fun e=>(zF (zNo b c d) (e,0)).bind fun a=>Wu a
def zSb(a:WA):Option Int:=(f_w a).bind fun b=>Wu b
def zOI(c:SPr)(b:WB)(a:WA×WA×Int):Option ((WA×WA×Int)⊕WA):=cond (a.2.2<b.length) ((ixO b a.2.2).bind fun e=>(zSb e).bind fun f=>(ixO a.1 f).bind fun d=>(yR a.2.1 [d]).bind fun g=>(ixO b a.2.2).bind fun h=>(rng (0-d)).bind fun i=>(zFV c h i).bind fun j=>(f_n c j a.1).bind fun k=>(rng (a.2.2+1)).bind fun l=>Wu (.inl (k,g,l))) (Wu (.inr a.2.1))
def f_Z(b:SPr)(c:WB)(d:WA):Option WA:=(zF (zOI b c) (d,[],0)).bind fun a=>Wu a
def zJQ(c:SPr)(b:WB)(a:WA×Int):Option ((WA×Int)⊕WA):=cond (a.2<b.length) ((ixO b a.2).bind fun d=>(zSb d).bind fun e=>(ixO c.zA e).bind fun f=>(yR a.1 [f]).bind fun g=>(rng (a.2+1)).bind fun h=>Wu (.inl (g,h))) (Wu (.inr a.1))
def zYe(a:SPr)(b:WB):Option WA:=(zF (zJQ a b) ([],0)).bind fun c=>Wu c
def zSc(g:SPr)(b:WB)(h:WB×(List WB)×Int)(a:WB×Int):Option ((WB×Int)⊕WB):=cond (a.2<b.length) ((ixO b a.2).bind fun i=>(ixO b h.2.2).bind fun j=>(zVE g i j).bind fun c=>(f_Z g b c).bind fun d=>(yR a.1 [d]).bind fun e=>(rng (a.2+1)).bind fun f=>Wu (.inl (e,f))) (Wu (.inr a.1))
def zSd(c:SPr)(b:WB)(g:WA)(a:WB×(List WB)×Int):Option ((WB×(List WB)×Int)⊕(WB×(List WB))):=cond (a.2.2<b.length) ((ixO b a.2.2).bind fun h=>(ixO g a.2.2).bind fun i=>(zFV c h i).bind fun j=>(f_Z c b j).bind fun k=>(yR a.1 [k]).bind fun l=>(rng (a.2.2+1)).bind fun m=>(zF (zSc c b a) ([],m)).bind fun d=>(yR a.2.1 [d]).bind fun e=>(rng (a.2.2+1)).bind fun f=>Wu (.inl (l,e,f))) (Wu (.inr (a.1,a.2.1)))
def f_M(b:SPr)(c:WB):Option SPr:=(zYe b c).bind fun d=>(zF (zSd b c d) ([],[],0)).bind fun a=>Wu (SPr.mk d a.1 a.2)
def zSe(j:Int)(g:SPr)(c:WB)(h:Int)(k:WB)(l:WA)(a:WB×Int):Option ((WB×Int)⊕WB):=cond (a.2<c.length) ((ixO c a.2).bind fun m=>(zRU 0 m h).bind fun i=>(rng ((g.zA.length:Int)+h)).bind fun n=>(rng (n-c.length)).bind fun o=>(rng (o+a.2)).bind fun b=>(ixO i b).bind fun _=>(zOG j (i.set b.toNat 1) (g.zA.length:Int) k l).bind fun d=>(yR a.1 [d]).bind fun e=>(rng (a.2+1)).bind fun f=>Wu (.inl (e,f))) (Wu (.inr a.1))
def zOJ(i:yF)(j:SPr)(c:WB)(d:SPr)(a:WB×Int):Option ((WB×Int)⊕WB):=cond (a.2<i.zW.length) ((ixO i.zW a.2).bind fun e=>(zYd d e c).bind fun b=>(zT b (j.zA.length:Int) b.length).bind fun f=>(yR a.1 [f]).bind fun g=>(rng (a.2+1)).bind fun h=>Wu (.inl (g,h))) (Wu (.inr a.1))
def zVV(g:Int)(h:SPr)(b:WB)(c:WA)(a:WB×Int):Option ((WB×Int)⊕WB):=cond (a.2<a.1.length) ((ixO a.1 a.2).bind fun d=>(zOG g d (h.zA.length:Int) b c).bind fun e=>(ixO a.1 a.2).bind fun _=>(rng (a.2+1)).bind fun f=>Wu (.inl (a.1.set a.2.toNat e,f))) (Wu (.inr a.1))
def zVW(a:WB)(c:SPr)(d:WB)(b:WB×Int):Option ((WB×Int)⊕WB):=cond (b.2<a.length) ((ixO a b.2).bind fun e=>(f_Z c d e).bind fun f=>(yR b.1 [f]).bind fun g=>(rng (b.2+1)).bind fun h=>Wu (.inl (g,h))) (Wu (.inr b.1))
def f_o(r:yF)(b:Int)(a:SPr)(p:WB):Option (SPr×WB):=(f_m a b (p.length:Int)).bind fun i=>(rng ((i.zA.length:Int)-a.zA.length)).bind fun q=>(f_r i (a.zA.length:Int) b).bind fun s=>(f_p b s).bind fun j=>(zRZ j q).bind fun t=>(zF (zSe b a p q j t) ([],0)).bind fun f=>(f_z i (a.zA.length:Int) b j).bind fun c=>(zF (zOJ r a f c) ([],0)).bind fun k=>(f_p b k).bind fun d=>(rng ((c.zA.length:Int)-a.zA.length)).bind fun l=>(zRZ d l).bind fun m=>(zF (zVV b a d m) (f,0)).bind fun g=>(f_z c (a.zA.length:Int) b d).bind fun e=>(f_E e g).bind fun h=>(zF (zVW g e h) ([],0)).bind fun n=>(f_M e h).bind fun o=>Wu (o,n)
def zVX(b:WB×WB×Int)(c:WA)(a:Int):Option (Int⊕Int):=cond (a<b.2.1.length) ((ixO b.2.1 a).bind fun d=>(yAB d c).bind fun e=>cond (!e) ((rng (a+1)).bind fun f=>Wu (.inl f)) (Wu (.inr a))) (Wu (.inr a))
def zVY(m:SPr)(k:WB)(b:WB×WB×Int)(a:WB×WB×Int):Option ((WB×WB×Int)⊕(WB×WB)):=cond (a.2.2<k.length) ((ixO a.2.1 b.2.2).bind fun n=>(ixO k a.2.2).bind fun o=>(f_n m n o).bind fun l=>(zF (zVX a l) 0).bind fun c=>cond (c==a.2.1.length) ((yR a.2.1 [l]).bind fun d=>(ixO a.1 a.2.2).bind fun e=>(yR e [c]).bind fun f=>(rng (a.2.2+1)).bind fun g=>Wu (.inl (a.1.set a.2.2.toNat f,d,g))) ((ixO a.1 a.2.2).bind fun h=>(yR h [c]).bind fun i=>(rng (a.2.2+1)).bind fun j=>Wu (.inl (a.1.set a.2.2.toNat i,a.2.1,j)))) (Wu (.inr (a.1,a.2.1)))
def zSf(d:SPr)(e:WB)(a:WB×WB×Int):Option ((WB×WB×Int)⊕WB):=cond (a.2.2<a.2.1.length) ((zF (zVY d e a) (a.1,a.2.1,0)).bind fun b=>(rng (a.2.2+1)).bind fun c=>Wu (.inl (b.1,b.2,c))) (Wu (.inr a.1))
def f_v(b:SPr)(c:WB):Option WB:=(yO (c.length:Int)).bind fun d=>(zLh b).bind fun e=>(zF (zSf b c) (J0 d ([]:WA),[e],0)).bind fun a=>Wu a
def zJR(c:yF)(d e:Int)(a:WA×WB×(List WB)×WB×Int):Option ((WA×WB×(List WB)×WB×Int)⊕((WA×WB×(List WB)×WB)⊕(WB×Int))):=cond (a.2.2.2.2<e) ((f_o c d (SPr.mk a.1 a.2.1 a.2.2.1) a.2.2.2.1).bind fun b=>(yAK b.1).bind fun f=>cond (f> 128) (Wu (.inr (.inr ([],3)))) ((rng (a.2.2.2.2+1)).bind fun g=>Wu (.inl (b.1.zA,b.1.zQ,b.1.zG,b.2,g)))) (Wu (.inr (.inl (a.1,a.2.1,a.2.2.1,a.2.2.2.1))))
def zYf(b:yF)(c d:Int):Option (WB×Int):=(zYc b).bind fun e=>cond (!e) (Wu ([],1)) ((yAA c).bind fun f=>cond (!f) (Wu ([],2)) ((zVc d 0 6).bind fun g=>cond (!g) (Wu ([],2)) ((yO b.Gens).bind fun h=>(zF (zJR b c d) ([],[],[],J0 h ([]:WA),0)).bind fun a=>match a with|(.inl a)=>(f_v (SPr.mk a.1 a.2.1 a.2.2.1) a.2.2.2).bind fun i=>Wu (i,0)|(.inr a)=>Wu a)))
def yAP(b:yF)(c:Int):Option Int:=(yA9 b.zW c).bind fun a=>cond (a<0) (Wu (-1)) (Wu a)
def zOK(a:yF):Option yF:=(zX8 a.zW).bind fun b=>Wu (yF.mk a.Gens b)
def zYg(a b:yF):Option Bool:=cond (a.Gens != b.Gens) (Wu Wx) ((zR3 a.zW b.zW).bind fun c=>cond (!c) (Wu Wx) (Wu Ww))
def zYh(a:yF)(c:Int):Option (Int×yF):=(zVz a.zW c).bind fun b=>Wu (b.1,(yF.mk a.Gens b.2))
def yAQ(c:yF)(h i:Int):Option Bool:=(yAP c 1048576).bind fun n=>cond (n<0) (Wu Ww) ((zOK c).bind fun o=>(zYf o h i).bind fun b=>(zOK c).bind fun j=>(zVR j h i).bind fun d=>(zR3 d.1 b.1).bind fun p=>cond (!p) (Wu Wx) (cond (d.2 != b.2) (Wu Wx) ((zOK c).bind fun q=>(zYg j q).bind fun r=>cond (!r) (Wu Wx) ((zYh j 1).bind fun s=>cond (s.1<0) (Wu Wx) ((zR3 d.1 b.1).bind fun k=>cond (!k) (Wu Wx) (cond (d.2 != b.2) (Wu Wx) ((zVz d.1 1).bind fun a=>(zXF a.2 1).bind fun e=>cond (e<0) (Wu Wx) (cond (e != a.1) (Wu Wx) ((zOK c).bind fun l=>(zVR l h i).bind fun f=>(zR3 f.1 b.1).bind fun m=>cond (!m) (Wu Wx) (cond (f.2 != b.2) (Wu Wx) ((zXF a.2 1).bind fun g=>cond (g<0) (Wu Wx) (cond (g != a.1) (Wu Wx) (Wu Ww)))))))))))))
end Go.Wk
