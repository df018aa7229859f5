/- The program's IsAllowable returns what the reference's returns,for all arguments;no conditions. -/
import Derived.Test.YtfeijieociajaaaGreatAbC
open List renaming replicate→J1
open Int renaming fdiv->Ga
open Option renaming some->jf,none->jg
open Bool renaming true->jh,false->ji
noncomputable section
namespace Go.Wk
open Go Go.Ab
abbrev jl:=List Int
abbrev jm:=List jl
structure SPr where
 zA:jl
 zQ:jm
 zG:List jm
abbrev yW(x:SPr):T:=.agg [(L 1 I) x.zA,(L 1 (L 1 I)) x.zQ,(L 1 (L 1 (L 1 I))) x.zG]
instance:Enc yW:=.of fun _=>zMe ⟨Enc.t (f:=(L 1 I)) inferInstance _,Enc.t (f:=(L 1 (L 1 I))) inferInstance _,Enc.t (f:=(L 1 (L 1 (L 1 I)))) inferInstance _,trivial⟩
structure zF where
 Prime:Int
 Dim:Int
 zM:List jm
abbrev xT(x:zF):T:=.agg [I x.Prime,I x.Dim,(L 1 (L 1 (L 1 I))) x.zM]
instance:Enc xT:=.of fun _=>zMe ⟨Enc.t (f:=I) inferInstance _,Enc.t (f:=I) inferInstance _,Enc.t (f:=(L 1 (L 1 (L 1 I)))) inferInstance _,trivial⟩
structure xG where
 Kind:Int
 yAI:Int
 yAJ:Int
 zXJ:Int
abbrev zGQ(x:xG):T:=.agg [I x.Kind,I x.yAI,I x.yAJ,I x.zXJ]
instance:Enc zGQ:=.of fun _=>zMe ⟨Enc.t (f:=I) inferInstance _,Enc.t (f:=I) inferInstance _,Enc.t (f:=I) inferInstance _,Enc.t (f:=I) inferInstance _,trivial⟩
structure zI where
 Prime:Int
 xF:Int
 Rows:jm
abbrev xU(x:zI):T:=.agg [I x.Prime,I x.xF,(L 1 (L 1 I)) x.Rows]
instance:Enc xU:=.of fun _=>zMe ⟨Enc.t (f:=I) inferInstance _,Enc.t (f:=I) inferInstance _,Enc.t (f:=(L 1 (L 1 I))) inferInstance _,trivial⟩
structure zP where
 p:SPr
 m:zF
 zOb:jm
structure zC where
 x:jl
 v:jl
abbrev wG(x:zC):T:=.agg [(L 1 I) x.x,(L 1 I) x.v]
instance:Enc wG:=.of fun _=>zMe ⟨Enc.t (f:=(L 1 I)) inferInstance _,Enc.t (f:=(L 1 I)) inferInstance _,trivial⟩
def zWd(b:jl)(c:Int):Option Int:=(rng (c-b.length)).bind fun a=>cond (a<0) (jf (-1)) (jf a)
def yAD(b:jm)(a:Int×Int):Option ((Int×Int)⊕(Int⊕Int)):=cond (a.2<b.length) ((ixO b a.2).bind fun d=>(zWd d a.1).bind fun c=>cond (c<0) (jf (.inr (.inr (-1)))) ((rng (a.2+1)).bind fun e=>jf (.inl (c,e)))) (jf (.inr (.inl a.1)))
def zWe(b:jm)(d:Int):Option Int:=(rng (d-b.length)).bind fun c=>cond (c<0) (jf (-1)) ((zE (yAD b) (c,0)).bind fun a=>match a with|(.inl a)=>jf a|(.inr a)=>jf a)
def yAE(b:List jm)(a:Int×Int):Option ((Int×Int)⊕(Int⊕Int)):=cond (a.2<b.length) ((ixO b a.2).bind fun d=>(zWe d a.1).bind fun c=>cond (c<0) (jf (.inr (.inr (-1)))) ((rng (a.2+1)).bind fun e=>jf (.inl (c,e)))) (jf (.inr (.inl a.1)))
def yCu(b:List jm)(d:Int):Option Int:=(rng (d-b.length)).bind fun c=>cond (c<0) (jf (-1)) ((zE (yAE b) (c,0)).bind fun a=>match a with|(.inl a)=>jf a|(.inr a)=>jf a)
def zYR(a:SPr)(e:Int):Option Int:=(zWd a.zA e).bind fun b=>cond (b<0) (jf (-1)) ((zWe a.zQ b).bind fun c=>cond (c<0) (jf (-1)) ((yCu a.zG c).bind fun d=>cond (d<0) (jf (-1)) (jf d)))
def zWf(b:jl)(a:jl×Int):Option ((jl×Int)⊕jl):=cond (a.2<b.length) ((ixO b a.2).bind fun c=>(ixO a.1 a.2).bind fun _=>(rng (a.2+1)).bind fun d=>jf (.inl (a.1.set a.2.toNat c,d))) (jf (.inr a.1))
def zS7(a:jl):Option jl:=(yG (a.length:Int)).bind fun b=>(zE (zWf a) (J1 b (0:Int),0)).bind fun c=>jf c
def zWg(b:jm)(a:jm×Int):Option ((jm×Int)⊕jm):=cond (a.2<b.length) ((ixO b a.2).bind fun c=>(zS7 c).bind fun d=>(ixO a.1 a.2).bind fun _=>(rng (a.2+1)).bind fun e=>jf (.inl (a.1.set a.2.toNat d,e))) (jf (.inr a.1))
def zP5(a:jm):Option jm:=(yG (a.length:Int)).bind fun b=>(zE (zWg a) (J1 b ([]:jl),0)).bind fun c=>jf c
def zWh(b:List jm)(a:(List jm)×Int):Option (((List jm)×Int)⊕(List jm)):=cond (a.2<b.length) ((ixO b a.2).bind fun c=>(zP5 c).bind fun d=>(ixO a.1 a.2).bind fun _=>(rng (a.2+1)).bind fun e=>jf (.inl (a.1.set a.2.toNat d,e))) (jf (.inr a.1))
def zYS(a:List jm):Option (List jm):=(yG (a.length:Int)).bind fun b=>(zE (zWh a) (J1 b ([]:jm),0)).bind fun c=>jf c
def zS8(a:SPr):Option SPr:=(zS7 a.zA).bind fun b=>(zP5 a.zQ).bind fun c=>(zYS a.zG).bind fun d=>jf (SPr.mk b c d)
def zYT(a:Int):Option Bool:=cond (a==2) (jf jh) (cond (a==3) (jf jh) (cond (a==5) (jf jh) (jf (a==7))))
def zNy(b:jl)(a:Int×Int):Option ((Int×Int)⊕Int):=cond (a.2<b.length) (cond (a.1<=729) ((ixO b a.2).bind fun c=>(rng (a.1*c)).bind fun d=>(rng (a.2+1)).bind fun e=>jf (.inl (d,e))) ((rng (a.2+1)).bind fun f=>jf (.inl (a.1,f)))) (jf (.inr a.1))
def zYU(a:jl):Option Int:=(zE (zNy a) (1,0)).bind fun b=>jf b
def zWi(a b c:Int):Option Bool:=cond (a>=b) (jf (a<=c)) (jf ji)
def zR5(d b:jl)(e a:Int):Option (Int⊕(Unit⊕Bool)):=cond (a<b.length) ((ixO b a).bind fun f=>(ixO d a).bind fun g=>(rng (g-1)).bind fun h=>(zWi f 0 h).bind fun i=>cond (!i) (jf (.inr (.inr ji))) (cond (a<=e) ((ixO b a).bind fun c=>cond (c != 0) (jf (.inr (.inr ji))) ((rng (a+1)).bind fun j=>jf (.inl j))) ((rng (a+1)).bind fun c=>jf (.inl c)))) (jf (.inr (.inl ())))
def zWj(b c:jl)(d:Int):Option Bool:=cond ((c.length:Int) != b.length) (jf ji) ((zE (zR5 b c d) 0).bind fun a=>match a with|(.inl _a)=>jf jh|(.inr a)=>jf a)
def zWk(b:SPr)(a:Int):Option (Int⊕(Unit⊕Bool)):=cond (a<b.zA.length) ((ixO b.zA a).bind fun c=>(zYT c).bind fun d=>cond (!d) (jf (.inr (.inr ji))) ((rng (a+1)).bind fun e=>jf (.inl e))) (jf (.inr (.inl ())))
def zWl(a:SPr)(b c:Int):Option (Int⊕(Unit⊕Bool)):=(ixO a.zG b).bind fun d=>cond (c<d.length) ((ixO a.zG b).bind fun e=>(ixO e c).bind fun f=>(zWj a.zA f b).bind fun g=>cond (!g) (jf (.inr (.inr ji))) ((rng (c+1)).bind fun h=>jf (.inl h))) (jf (.inr (.inl ())))
def zP6(c:SPr)(b:Int):Option (Int⊕(Unit⊕Bool)):=cond (b<c.zA.length) ((ixO c.zQ b).bind fun f=>(zWj c.zA f b).bind fun g=>cond (!g) (jf (.inr (.inr ji))) ((ixO c.zG b).bind fun h=>(rng ((c.zA.length:Int)-1)).bind fun i=>(rng (i-b)).bind fun d=>cond ((h.length:Int) != d) (jf (.inr (.inr ji))) ((zE (zWl c b) 0).bind fun a=>match a with|(.inl _a)=>(rng (b+1)).bind fun e=>jf (.inl e)|(.inr a)=>jf (.inr (.inr a))))) (jf (.inr (.inl ())))
def f_w(b:SPr):Option Bool:=cond ((b.zA.length:Int)> 6) (jf ji) (cond ((b.zQ.length:Int) != b.zA.length) (jf ji) (cond ((b.zG.length:Int) != b.zA.length) (jf ji) ((zE (zWk b) 0).bind fun c=>match c with|(.inl _c)=>(zYU b.zA).bind fun d=>cond (d> 729) (jf ji) ((zE (zP6 b) 0).bind fun a=>(match a with|(.inl _a)=>jf jh|(.inr a)=>jf a))|(.inr c)=>jf c)))
def f_z(a:jl):Option jl:=(yH [] a).bind fun b=>jf b
def zWm(g_a:SPr->Int->jl->jl->Option jl)(d:SPr)(b:Int)(f:jl)(e:jl×Int)(a:jl×Int):Option ((jl×Int)⊕jl):=(ixO f e.2).bind fun g=>cond (a.2<g) ((rng (b+1)).bind fun h=>(ixO d.zG b).bind fun i=>(rng (e.2-b)).bind fun j=>(rng (j-1)).bind fun k=>(ixO i k).bind fun l=>(g_a d h a.1 l).bind fun m=>(rng (a.2+1)).bind fun c=>jf (.inl (m,c))) (jf (.inr a.1))
def zWn(g_a:SPr->Int->jl->jl->Option jl)(d:SPr)(e:Int)(f:jl)(a:jl×Int):Option ((jl×Int)⊕jl):=cond (a.2<d.zA.length) ((zE (zWm g_a d e f a) (a.1,0)).bind fun b=>(rng (a.2+1)).bind fun c=>jf (.inl (b,c))) (jf (.inr a.1))
def b_g(g_a:SPr->Int->jl->jl->Option jl)(b:SPr)(c:Int)(d:jl):Option jl:=(yG (b.zA.length:Int)).bind fun e=>(rng (c+1)).bind fun f=>(zE (zWn g_a b c d) (J1 e (0:Int),f)).bind fun a=>jf a
def zYV(g_g:SPr->Int->jl->Option jl)(c:SPr)(b:Int)(d:jl)(a:jl×Int):Option ((jl×Int)⊕jl):=(ixO d b).bind fun e=>cond (a.2<e) ((g_g c b a.1).bind fun f=>(rng (a.2+1)).bind fun g=>jf (.inl (f,g))) (jf (.inr a.1))
def b_a(g_g:SPr->Int->jl->Option jl)(g_a:SPr->Int->jl->jl->Option jl)(b:SPr)(a:Int)(q g:jl):Option jl:=cond (a>=b.zA.length) ((yG (b.zA.length:Int)).bind fun t=>jf (J1 t (0:Int))) ((f_z q).bind fun r=>(f_z g).bind fun s=>(ixO r a).bind fun _=>(ixO s a).bind fun _=>(zE (zYV g_g b a g) (r.set a.toNat 0,0)).bind fun u=>(rng (a+1)).bind fun h=>(g_a b h u (s.set a.toNat 0)).bind fun d=>(ixO q a).bind fun i=>(ixO g a).bind fun j=>(rng (i+j)).bind fun c=>(ixO b.zA a).bind fun k=>cond (c>=k) ((ixO b.zA a).bind fun l=>(rng (c-l)).bind fun m=>(rng (a+1)).bind fun n=>(ixO b.zQ a).bind fun o=>(g_a b n o d).bind fun p=>(f_z p).bind fun e=>(ixO e a).bind fun _=>jf (e.set a.toNat m)) ((f_z d).bind fun f=>(ixO f a).bind fun _=>jf (f.set a.toNat c)))
mutual
def zP7:Nat->SPr->Int->jl->Option jl|0=>fun _ _ _=>jg|n+1=>b_g (zP8 n)
def zP8:Nat->SPr->Int->jl->jl->Option jl|0=>fun _ _ _ _=>jg|n+1=>b_a (zP7 n) (zP8 n)
end
def f_g(a:SPr)(b:Int)(c:jl):Option jl:=zCo fun n=>zP7 n a b c
def f_a(a:SPr)(b:Int)(c d:jl):Option jl:=zCo fun n=>zP8 n a b c d
def zJT(b:SPr)(c:Int)(a:Int×jl×jl):Option ((Int×jl×jl)⊕jl):=cond (a.1> 0) ((vD a.1 2).bind fun d=>cond (d==1) ((f_a b c a.2.1 a.2.2).bind fun e=>(f_a b c a.2.2 a.2.2).bind fun f=>(vN a.1 2).bind fun g=>jf (.inl (g,e,f))) ((f_a b c a.2.2 a.2.2).bind fun h=>(vN a.1 2).bind fun i=>jf (.inl (i,a.2.1,h)))) (jf (.inr a.2.1))
def zNz(a:SPr)(b:Int)(c:jl)(d:Int):Option jl:=(yG (a.zA.length:Int)).bind fun e=>(zE (zJT a b) (d,J1 e (0:Int),c)).bind fun f=>jf f
def yAF(b c:jl)(a:Int):Option (Int⊕(Unit⊕Bool)):=cond (a<b.length) ((ixO b a).bind fun d=>(ixO c a).bind fun e=>cond (d != e) (jf (.inr (.inr ji))) ((rng (a+1)).bind fun f=>jf (.inl f))) (jf (.inr (.inl ())))
def zLv(b c:jl):Option Bool:=cond ((b.length:Int) != c.length) (jf ji) ((zE (yAF b c) 0).bind fun a=>match a with|(.inl _a)=>jf jh|(.inr a)=>jf a)
def zWo(c a:Int):Option jl:=(yG c).bind fun b=>(ixO (J1 b (0:Int)) a).bind fun _=>jf ((J1 b (0:Int)).set a.toNat 1)
def zWp(a:SPr)(c b:Int):Option (Int⊕(Unit⊕xG)):=cond (b<a.zA.length) ((rng (c+1)).bind fun g=>(ixO a.zG c).bind fun h=>(rng (b-c)).bind fun i=>(rng (i-1)).bind fun j=>(ixO h j).bind fun k=>(ixO a.zA b).bind fun l=>(zNz a g k l).bind fun m=>(ixO a.zQ b).bind fun n=>(f_g a c n).bind fun d=>(zLv m d).bind fun e=>cond (!e) (jf (.inr (.inr (xG.mk 1 c b 0)))) ((rng (b+1)).bind fun f=>jf (.inl f))) (jf (.inr (.inl ())))
def zWq(b:SPr)(a e c:Int):Option (Int⊕(Unit⊕xG)):=cond (c<b.zA.length) ((ixO b.zG a).bind fun f=>(rng (e-a)).bind fun g=>(rng (g-1)).bind fun h=>(ixO f h).bind fun d=>(ixO b.zG a).bind fun i=>(rng (c-a)).bind fun j=>(rng (j-1)).bind fun k=>(ixO i k).bind fun l=>(ixO b.zG e).bind fun m=>(rng (c-e)).bind fun n=>(rng (n-1)).bind fun o=>(ixO m o).bind fun p=>(f_g b a p).bind fun q=>(rng (a+1)).bind fun r=>(f_a b r l d).bind fun s=>(rng (a+1)).bind fun t=>(f_a b t d q).bind fun u=>(zLv s u).bind fun v=>cond (!v) (jf (.inr (.inr (xG.mk 2 a e c)))) ((rng (c+1)).bind fun w=>jf (.inl w))) (jf (.inr (.inl ())))
def zWr(e:SPr)(f b:Int):Option (Int⊕(Unit⊕xG)):=cond (b<e.zA.length) ((rng (b+1)).bind fun c=>(zE (zWq e f b) c).bind fun a=>match a with|(.inl _a)=>(rng (b+1)).bind fun d=>jf (.inl d)|(.inr a)=>jf (.inr (.inr a))) (jf (.inr (.inl ())))
def zWs(e:SPr)(f:Int)(a:jl×Int):Option ((jl×Int)⊕jl):=(ixO e.zA f).bind fun b=>cond (a.2<b) ((f_g e f a.1).bind fun c=>(rng (a.2+1)).bind fun d=>jf (.inl (c,d))) (jf (.inr a.1))
def zWt(b:SPr)(e:Int)(c:jl)(a:Int):Option (Int⊕(Unit⊕xG)):=cond (a<b.zA.length) ((zWo (b.zA.length:Int) a).bind fun d=>(zE (zWs b e) (d,0)).bind fun f=>(rng (e+1)).bind fun g=>(f_a b g c f).bind fun h=>(rng (e+1)).bind fun i=>(f_a b i d c).bind fun j=>(zLv h j).bind fun k=>cond (!k) (jf (.inr (.inr (xG.mk 4 e a 0)))) ((rng (a+1)).bind fun l=>jf (.inl l))) (jf (.inr (.inl ())))
def f_p(f:SPr)(a:Int):Option xG:=(rng (a+1)).bind fun k=>(zE (zWp f a) k).bind fun b=>match b with|(.inl _b)=>(rng (a+1)).bind fun g=>(zE (zWr f a) g).bind fun c=>(match c with|(.inl _c)=>(ixO f.zQ a).bind fun e=>(f_g f a e).bind fun h=>(zLv h e).bind fun i=>cond (!i) (jf (xG.mk 3 a 0 0)) ((rng (a+1)).bind fun j=>(zE (zWt f a e) j).bind fun d=>(match d with|(.inl _d)=>jf (xG.mk 0 0 0 0)|(.inr d)=>jf d))|(.inr c)=>jf c)|(.inr b)=>jf b
def zN0(c:SPr)(a:Int):Option (Int⊕(Unit⊕xG)):=cond (a>=0) ((f_p c a).bind fun b=>cond (b.Kind != 0) (jf (.inr (.inr b))) ((rng (a-1)).bind fun d=>jf (.inl d))) (jf (.inr (.inl ())))
def yCv(b:SPr):Option xG:=(rng ((b.zA.length:Int)-1)).bind fun c=>(zE (zN0 b) c).bind fun a=>match a with|(.inl _a)=>jf (xG.mk 0 0 0 0)|(.inr a)=>jf a
def yCw(a:SPr):Option Bool:=(yCv a).bind fun b=>jf (b.Kind==0)
def zS9(a:SPr):Option Bool:=(f_w a).bind fun b=>cond b ((yCw a).bind fun c=>jf c) (jf ji)
def zR6(c:Int)(b:jl)(a:Int):Option (Int⊕(Unit⊕Bool)):=cond (a<b.length) ((ixO b a).bind fun d=>(rng (c-1)).bind fun e=>(zWi d 0 e).bind fun f=>cond (!f) (jf (.inr (.inr ji))) ((rng (a+1)).bind fun g=>jf (.inl g))) (jf (.inr (.inl ())))
def zYW(c d:Int)(b:jl):Option Bool:=cond ((b.length:Int) != d) (jf ji) ((zE (zR6 c b) 0).bind fun a=>match a with|(.inl _a)=>jf jh|(.inr a)=>jf a)
def zFj(b:Int)(a:jm×Int):Option ((jm×Int)⊕jm):=cond (a.2<b) ((yG b).bind fun c=>(ixO (J1 c (0:Int)) a.2).bind fun _=>(yH a.1 [(J1 c (0:Int)).set a.2.toNat 1]).bind fun d=>(rng (a.2+1)).bind fun e=>jf (.inl (d,e))) (jf (.inr a.1))
def f_v(a:Int):Option jm:=(zE (zFj a) ([],0)).bind fun b=>jf b
def zWu(e:Int)(f:jl)(d:jm)(b:jl×Int)(a:jl×Int):Option ((jl×Int)⊕jl):=cond (a.2<a.1.length) ((ixO d b.2).bind fun g=>cond (a.2<g.length) ((ixO a.1 a.2).bind fun h=>(ixO f b.2).bind fun i=>(ixO d b.2).bind fun j=>(ixO j a.2).bind fun k=>(rng (i*k)).bind fun l=>(rng (h+l)).bind fun m=>(vD m e).bind fun n=>(ixO a.1 a.2).bind fun _=>(rng (a.2+1)).bind fun c=>jf (.inl (a.1.set a.2.toNat n,c))) (jf (.inr a.1))) (jf (.inr a.1))
def zWv(f:Int)(d:jl)(e:jm)(a:jl×Int):Option ((jl×Int)⊕jl):=cond (a.2<d.length) (cond (a.2<e.length) ((zE (zWu f d e a) (a.1,0)).bind fun b=>(rng (a.2+1)).bind fun c=>jf (.inl (b,c))) (jf (.inr a.1))) (jf (.inr a.1))
def f_R(b:Int)(c:jl)(d:jm)(e:Int):Option jl:=(yG e).bind fun f=>(zE (zWv b c d) (J1 f (0:Int),0)).bind fun a=>jf a
def zWw(b c:jm)(a:Int):Option (Int⊕(Unit⊕Bool)):=cond (a<b.length) ((ixO b a).bind fun d=>(ixO c a).bind fun e=>(zLv d e).bind fun f=>cond (!f) (jf (.inr (.inr ji))) ((rng (a+1)).bind fun g=>jf (.inl g))) (jf (.inr (.inl ())))
def yCx(b c:jm):Option Bool:=cond ((b.length:Int) != c.length) (jf ji) ((zE (zWw b c) 0).bind fun a=>match a with|(.inl _a)=>jf jh|(.inr a)=>jf a)
def zWx(a:Int):Option Bool:=cond (a==2) (jf jh) (cond (a==3) (jf jh) (cond (a==5) (jf jh) (jf (a==7))))
def zSA(a b c:Int):Option Bool:=cond (a>=b) (jf (a<=c)) (jf ji)
def zR7(c:SPr)(b:jl)(a:Int):Option (Int⊕(Unit⊕Bool)):=cond (a<b.length) ((ixO b a).bind fun d=>(ixO c.zA a).bind fun e=>(rng (e-1)).bind fun f=>(zSA d 0 f).bind fun g=>cond (!g) (jf (.inr (.inr ji))) ((rng (a+1)).bind fun h=>jf (.inl h))) (jf (.inr (.inl ())))
def zYX(b:SPr)(c:jl):Option Bool:=cond ((c.length:Int) != b.zA.length) (jf ji) ((zE (zR7 b c) 0).bind fun a=>match a with|(.inl _a)=>jf jh|(.inr a)=>jf a)
def zJU(b:jl)(a:Int):Option (Int⊕(Unit⊕Bool)):=cond (a<b.length) ((ixO b a).bind fun c=>cond (c != 0) (jf (.inr (.inr ji))) ((rng (a+1)).bind fun d=>jf (.inl d))) (jf (.inr (.inl ())))
def zWy(b:jl):Option Bool:=(zE (zJU b) 0).bind fun a=>match a with|(.inl _a)=>jf jh|(.inr a)=>jf a
def zWz(b:SPr)(c:Int)(a:jl):Option Bool:=(zYX b a).bind fun d=>cond d ((rng (c+1)).bind fun e=>(zS a 0 e).bind fun f=>(zWy f).bind fun g=>jf g) (jf ji)
def zP9(c:SPr)(a:Int×Int):Option ((Int×Int)⊕(Unit⊕Bool)):=cond (a.2<c.zA.length) ((ixO c.zA a.2).bind fun b=>(zWx b).bind fun d=>cond (!d) (jf (.inr (.inr ji))) ((rng (a.1*b)).bind fun e=>cond (e> 729) (jf (.inr (.inr ji))) ((rng (a.1*b)).bind fun f=>(rng (a.2+1)).bind fun g=>jf (.inl (f,g))))) (jf (.inr (.inl ())))
def zW0(f:SPr)(g:Int)(a:jm)(b:Int):Option (Int⊕(Unit⊕Bool)):=cond (b<a.length) ((ixO a b).bind fun c=>(zWz f g c).bind fun d=>cond (!d) (jf (.inr (.inr ji))) ((rng (b+1)).bind fun e=>jf (.inl e))) (jf (.inr (.inl ())))
def zPA(c:SPr)(b:Int):Option (Int⊕(Unit⊕Bool)):=cond (b<c.zA.length) ((ixO c.zQ b).bind fun h=>(zWz c b h).bind fun i=>cond (!i) (jf (.inr (.inr ji))) ((ixO c.zG b).bind fun j=>(rng ((c.zA.length:Int)-1)).bind fun d=>(rng (d-b)).bind fun e=>cond ((j.length:Int) != e) (jf (.inr (.inr ji))) ((ixO c.zG b).bind fun f=>(zE (zW0 c b f) 0).bind fun a=>match a with|(.inl _a)=>(rng (b+1)).bind fun g=>jf (.inl g)|(.inr a)=>jf (.inr (.inr a))))) (jf (.inr (.inl ())))
def f_u(b:SPr):Option Bool:=cond ((b.zA.length:Int)> 6) (jf ji) (cond ((b.zQ.length:Int) != b.zA.length) (jf ji) (cond ((b.zG.length:Int) != b.zA.length) (jf ji) ((zE (zP9 b) (1,0)).bind fun c=>match c with|(.inl _c)=>(zE (zPA b) 0).bind fun a=>(match a with|(.inl _a)=>jf jh|(.inr a)=>jf a)|(.inr c)=>jf c)))
def f_B(a:jl):Option jl:=(yH [] a).bind fun b=>jf b
def zW1(c:Int)(d:jl)(a:jl×Int):Option ((jl×Int)⊕jl):=cond (a.2<d.length) ((rng (c+1)).bind fun e=>(rng (e+a.2)).bind fun b=>(ixO a.1 b).bind fun _=>(rng (a.2+1)).bind fun f=>jf (.inl (a.1.set b.toNat 0,f))) (jf (.inr a.1))
def yCy(g_c:SPr->jl->jl->Option jl)(g:SPr)(h:Int)(i:jl×Int)(b:Int)(a:jl×Int):Option ((jl×Int)⊕jl):=cond (a.2<b) ((ixO g.zG h).bind fun c=>(ixO c i.2).bind fun d=>(g_c g a.1 d).bind fun e=>(rng (a.2+1)).bind fun f=>jf (.inl (e,f))) (jf (.inr a.1))
def yCz(g_c:SPr->jl->jl->Option jl)(f:SPr)(g:Int)(e:jl)(a:jl×Int):Option ((jl×Int)⊕jl):=cond (a.2<e.length) ((ixO e a.2).bind fun b=>(zE (yCy g_c f g a b) (a.1,0)).bind fun c=>(rng (a.2+1)).bind fun d=>jf (.inl (c,d))) (jf (.inr a.1))
def yC0(g_c:SPr->jl->jl->Option jl)(h:SPr)(i:Int)(b:jl×Int)(c:Int)(a:jl×Int):Option ((jl×Int)⊕jl):=cond (a.2<c) ((ixO h.zG i).bind fun d=>(ixO d b.2).bind fun e=>(g_c h a.1 e).bind fun f=>(rng (a.2+1)).bind fun g=>jf (.inl (f,g))) (jf (.inr a.1))
def yC1(g_c:SPr->jl->jl->Option jl)(f:SPr)(g:Int)(e:jl)(a:jl×Int):Option ((jl×Int)⊕jl):=cond (a.2<e.length) ((ixO e a.2).bind fun b=>(zE (yC0 g_c f g a b) (a.1,0)).bind fun c=>(rng (a.2+1)).bind fun d=>jf (.inl (c,d))) (jf (.inr a.1))
def b_d(g_c:SPr->jl->jl->Option jl)(d:SPr)(e:jl)(a:Int):Option jl:=(rng (a+1)).bind fun m=>(zS e m e.length).bind fun n=>(f_B n).bind fun f=>(zE (zW1 a f) (e,0)).bind fun c=>(ixO c a).bind fun o=>(rng (o+1)).bind fun b=>(ixO c a).bind fun _=>(ixO (c.set a.toNat b) a).bind fun g=>(ixO d.zA a).bind fun h=>cond (g==h) ((ixO (c.set a.toNat b) a).bind fun _=>(ixO d.zQ a).bind fun i=>(g_c d ((c.set a.toNat b).set a.toNat 0) i).bind fun j=>(zE (yCz g_c d a f) (j,0)).bind fun k=>jf k) ((zE (yC1 g_c d a f) (c.set a.toNat b,0)).bind fun l=>jf l)
def zW2(g_d:SPr->jl->Int->Option jl)(b:SPr)(c:jl×Int)(d:Int)(a:jl×Int):Option ((jl×Int)⊕jl):=cond (a.2<d) ((g_d b a.1 c.2).bind fun e=>(rng (a.2+1)).bind fun f=>jf (.inl (e,f))) (jf (.inr a.1))
def zW3(g_d:SPr->jl->Int->Option jl)(c:SPr)(b:jl)(a:jl×Int):Option ((jl×Int)⊕jl):=cond (a.2<b.length) ((ixO b a.2).bind fun d=>(zE (zW2 g_d c a d) (a.1,0)).bind fun e=>(rng (a.2+1)).bind fun f=>jf (.inl (e,f))) (jf (.inr a.1))
def b_c(g_d:SPr->jl->Int->Option jl)(a:SPr)(b c:jl):Option jl:=(zE (zW3 g_d a c) (b,0)).bind fun d=>jf d
mutual
def zW4:Nat->SPr->jl->Int->Option jl|0=>fun _ _ _=>jg|n+1=>b_d (zSB n)
def zSB:Nat->SPr->jl->jl->Option jl|0=>fun _ _ _=>jg|n+1=>b_c (zW4 n)
end
def f_d(a:SPr)(b:jl)(c:Int):Option jl:=zCo fun n=>zW4 n a b c
def f_c(a:SPr)(b c:jl):Option jl:=zCo fun n=>zSB n a b c
def zW5(b:SPr)(c:jl)(d:Int)(a:jl×Int):Option ((jl×Int)⊕jl):=cond (a.2<d) ((f_c b a.1 c).bind fun e=>(rng (a.2+1)).bind fun f=>jf (.inl (e,f))) (jf (.inr a.1))
def f_Y(b:SPr)(a:jl)(c:Int):Option jl:=(yG (a.length:Int)).bind fun d=>(zE (zW5 b a c) (J1 d (0:Int),0)).bind fun e=>jf e
def zW6(b:SPr)(c:jl)(d:Int)(a:jl×Int):Option ((jl×Int)⊕jl):=cond (a.2<d) ((f_c b a.1 c).bind fun e=>(rng (a.2+1)).bind fun f=>jf (.inl (e,f))) (jf (.inr a.1))
def zW7(d:SPr)(e:Int)(f:jl)(c:jm)(a:jl×Int):Option ((jl×Int)⊕jl):=cond (a.2<c.length) ((ixO c a.2).bind fun g=>(rng (e+1)).bind fun h=>(rng (h+a.2)).bind fun i=>(ixO f i).bind fun j=>(zE (zW6 d g j) (a.1,0)).bind fun k=>(rng (a.2+1)).bind fun b=>jf (.inl (k,b))) (jf (.inr a.1))
def f_K(b:SPr)(c:Int)(d:jl):Option jl:=(yG (d.length:Int)).bind fun e=>(ixO b.zG c).bind fun f=>(zE (zW7 b c d f) (J1 e (0:Int),0)).bind fun a=>jf a
def zW8(b c:jl)(a:Int):Option (Int⊕(Unit⊕Bool)):=cond (a<b.length) ((ixO b a).bind fun d=>(ixO c a).bind fun e=>cond (d != e) (jf (.inr (.inr ji))) ((rng (a+1)).bind fun f=>jf (.inl f))) (jf (.inr (.inl ())))
def zLw(b c:jl):Option Bool:=cond ((b.length:Int) != c.length) (jf ji) ((zE (zW8 b c) 0).bind fun a=>match a with|(.inl _a)=>jf jh|(.inr a)=>jf a)
def zSC(c:SPr)(b:jl×jl×Int)(a:jl×jl):Option ((jl×jl)⊕(jl×jl)):=(ixO a.1 b.2.2).bind fun d=>cond (d != 0) ((f_d c a.1 b.2.2).bind fun e=>(f_d c a.2 b.2.2).bind fun f=>jf (.inl (e,f))) (jf (.inr (a.1,a.2)))
def zW9(c:SPr)(d:jl)(a:jl×jl×Int):Option ((jl×jl×Int)⊕jl):=cond (a.2.2<d.length) ((zE (zSC c a) (a.1,a.2.1)).bind fun b=>(rng (a.2.2+1)).bind fun e=>jf (.inl (b.1,b.2,e))) (jf (.inr a.2.1))
def f_N(c:SPr)(a:jl):Option jl:=(f_B a).bind fun b=>(yG (a.length:Int)).bind fun d=>(zE (zW9 c b) (b,J1 d (0:Int),0)).bind fun e=>jf e
def zLx(a:SPr)(b c:jl):Option jl:=(f_B b).bind fun d=>(f_c a d c).bind fun e=>jf e
def zIR(a:SPr)(c b:jl):Option jl:=(f_N a b).bind fun d=>(zLx a c b).bind fun e=>(zLx a d e).bind fun f=>jf f
def zIS(c a:Int):Option jl:=(yG c).bind fun b=>(ixO (J1 b (0:Int)) a).bind fun _=>jf ((J1 b (0:Int)).set a.toNat 1)
def zWA(a:SPr)(c b:Int):Option (Int⊕(Unit⊕xG)):=cond (b<a.zA.length) ((ixO a.zG c).bind fun f=>(rng (b-c)).bind fun g=>(rng (g-1)).bind fun h=>(ixO f h).bind fun i=>(ixO a.zA b).bind fun j=>(f_Y a i j).bind fun k=>(ixO a.zQ b).bind fun l=>(f_K a c l).bind fun m=>(zLw k m).bind fun d=>cond (!d) (jf (.inr (.inr (xG.mk 1 c b 0)))) ((rng (b+1)).bind fun e=>jf (.inl e))) (jf (.inr (.inl ())))
def zWB(a:SPr)(b d c:Int):Option (Int⊕(Unit⊕xG)):=cond (c<a.zA.length) ((ixO a.zG b).bind fun e=>(rng (c-b)).bind fun f=>(rng (f-1)).bind fun g=>(ixO e g).bind fun h=>(ixO a.zG b).bind fun i=>(rng (d-b)).bind fun j=>(rng (j-1)).bind fun k=>(ixO i k).bind fun l=>(zIR a h l).bind fun m=>(ixO a.zG d).bind fun n=>(rng (c-d)).bind fun o=>(rng (o-1)).bind fun p=>(ixO n p).bind fun q=>(f_K a b q).bind fun r=>(zLw m r).bind fun s=>cond (!s) (jf (.inr (.inr (xG.mk 2 b d c)))) ((rng (c+1)).bind fun t=>jf (.inl t))) (jf (.inr (.inl ())))
def zWC(e:SPr)(f b:Int):Option (Int⊕(Unit⊕xG)):=cond (b<e.zA.length) ((rng (b+1)).bind fun c=>(zE (zWB e f b) c).bind fun a=>match a with|(.inl _a)=>(rng (b+1)).bind fun d=>jf (.inl d)|(.inr a)=>jf (.inr (.inr a))) (jf (.inr (.inl ())))
def zWD(e:SPr)(f b:Int)(a:jl×Int):Option ((jl×Int)⊕jl):=cond (a.2<b) ((f_K e f a.1).bind fun c=>(rng (a.2+1)).bind fun d=>jf (.inl (c,d))) (jf (.inr a.1))
def zWE(b:SPr)(c:Int)(d:jl)(a:Int):Option (Int⊕(Unit⊕xG)):=cond (a<b.zA.length) ((zIS (b.zA.length:Int) a).bind fun e=>(ixO b.zA c).bind fun f=>(zE (zWD b c f) (e,0)).bind fun g=>(zIS (b.zA.length:Int) a).bind fun h=>(zIR b h d).bind fun i=>(zLw g i).bind fun j=>cond (!j) (jf (.inr (.inr (xG.mk 4 c a 0)))) ((rng (a+1)).bind fun k=>jf (.inl k))) (jf (.inr (.inl ())))
def f_o(f:SPr)(a:Int):Option xG:=(rng (a+1)).bind fun k=>(zE (zWA f a) k).bind fun b=>match b with|(.inl _b)=>(rng (a+1)).bind fun g=>(zE (zWC f a) g).bind fun c=>(match c with|(.inl _c)=>(ixO f.zQ a).bind fun e=>(f_K f a e).bind fun h=>(zLw h e).bind fun i=>cond (!i) (jf (xG.mk 3 a 0 0)) ((rng (a+1)).bind fun j=>(zE (zWE f a e) j).bind fun d=>(match d with|(.inl _d)=>jf (xG.mk 0 0 0 0)|(.inr d)=>jf d))|(.inr c)=>jf c)|(.inr b)=>jf b
def zN1(c:SPr)(a:Int):Option (Int⊕Int):=cond (a> 0) ((rng (a-1)).bind fun d=>(f_o c d).bind fun b=>cond (b.Kind==0&&(b.yAI==0&&(b.yAJ==0&&b.zXJ==0))) ((rng (a-1)).bind fun e=>jf (.inl e)) (jf (.inr a))) (jf (.inr a))
def yC2(a:SPr):Option Int:=(zE (zN1 a) (a.zA.length:Int)).bind fun b=>jf b
def zSD(a:SPr):Option Bool:=(f_u a).bind fun b=>cond b ((yC2 a).bind fun c=>jf (c==0)) (jf ji)
def zWF(a:zF)(b:Int):Option zI:=(ixO a.zM b).bind fun c=>jf (zI.mk a.Prime a.Dim c)
def zR8(b:jl)(c a:Int):Option (Int⊕(Unit⊕Bool)):=cond (a<b.length) ((ixO b a).bind fun d=>(rng (c-1)).bind fun e=>(zSA d 0 e).bind fun f=>cond (!f) (jf (.inr (.inr ji))) ((rng (a+1)).bind fun g=>jf (.inl g))) (jf (.inr (.inl ())))
def zYY(b:jl)(c d:Int):Option Bool:=cond ((b.length:Int) != d) (jf ji) ((zE (zR8 b c) 0).bind fun a=>match a with|(.inl _a)=>jf jh|(.inr a)=>jf a)
def zN2(a:zI)(b:Int):Option (Int⊕(Unit⊕Bool)):=cond (b<a.Rows.length) ((ixO a.Rows b).bind fun c=>(zYY c a.Prime a.xF).bind fun d=>cond (!d) (jf (.inr (.inr ji))) ((rng (b+1)).bind fun e=>jf (.inl e))) (jf (.inr (.inl ())))
def zYZ(a:zI):Option Bool:=(zWx a.Prime).bind fun c=>cond (!c) (jf ji) ((zSA a.xF 0 8).bind fun d=>cond (!d) (jf ji) (cond ((a.Rows.length:Int)> 8) (jf ji) ((zE (zN2 a) 0).bind fun b=>match b with|(.inl _b)=>jf jh|(.inr b)=>jf b)))
def yFb(a b:Int):Option (Int×Int):=jf ((IntKind.wrap .u64 ((IntKind.wrap .u64 ((IntKind.wrap .u64 ((Ga a (2 ^ (min (32:Int).toNat (IntKind.bits .u64))))*(Ga b (2 ^ (min (32:Int).toNat (IntKind.bits .u64))))))+(Ga (IntKind.wrap .u64 ((IntKind.wrap .u64 ((Ga a (2 ^ (min (32:Int).toNat (IntKind.bits .u64))))*(zGw .u64 b 4294967295)))+(Ga (IntKind.wrap .u64 ((zGw .u64 a 4294967295)*(zGw .u64 b 4294967295))) (2 ^ (min (32:Int).toNat (IntKind.bits .u64)))))) (2 ^ (min (32:Int).toNat (IntKind.bits .u64))))))+(Ga (IntKind.wrap .u64 ((zGw .u64 (IntKind.wrap .u64 ((IntKind.wrap .u64 ((Ga a (2 ^ (min (32:Int).toNat (IntKind.bits .u64))))*(zGw .u64 b 4294967295)))+(Ga (IntKind.wrap .u64 ((zGw .u64 a 4294967295)*(zGw .u64 b 4294967295))) (2 ^ (min (32:Int).toNat (IntKind.bits .u64)))))) 4294967295)+(IntKind.wrap .u64 ((zGw .u64 a 4294967295)*(Ga b (2 ^ (min (32:Int).toNat (IntKind.bits .u64)))))))) (2 ^ (min (32:Int).toNat (IntKind.bits .u64)))))),(IntKind.wrap .u64 (a*b)))
def zWG(b c:Int):Option (Int×Int):=(yFb b c).bind fun a=>jf (a.1,a.2)
def zBN(a:jl×Int):Option ((jl×Int)⊕jl):=cond (a.2<a.1.length) ((zS a.1 a.2 a.1.length).bind fun _=>(zS a.1 0 a.2).bind fun b=>(rng (a.2+((min b.length (((a.1.length:Int).toNat)-((a.2:Int).toNat)):Nat):Int))).bind fun c=>jf (.inl (wQ a.1 ((a.2:Int).toNat) (b.take (((a.1.length:Int).toNat)-((a.2:Int).toNat))),c))) (jf (.inr a.1))
def f_k(a:jl)(d:Int):Option jl:=cond (d<0) (jg) ((zWG (IntKind.wrap .u64 (a.length:Int)) (IntKind.wrap .u64 d)).bind fun b=>cond (b.1> 0) (jg) (cond (b.2> 9223372036854775807) (jg) ((yG (IntKind.wrap .i64 b.2)).bind fun c=>(zE zBN (wQ (J1 c (0:Int)) 0 (a.take (((J1 c (0:Int)).length)-0)),((min a.length (((J1 c (0:Int)).length)-0):Nat):Int))).bind fun e=>jf e)))
def zWH(b:jl×Int)(c:Int)(a:jl×Int):Option ((jl×Int)⊕jl):=cond (a.2<c) ((rng (b.2+1)).bind fun d=>(yH a.1 [d]).bind fun e=>(rng (a.2+1)).bind fun f=>jf (.inl (e,f))) (jf (.inr a.1))
def zWI(b:jl)(a:jl×Int):Option ((jl×Int)⊕jl):=cond (a.2<b.length) ((ixO b a.2).bind fun c=>(zE (zWH a c) (a.1,0)).bind fun d=>(rng (a.2+1)).bind fun e=>jf (.inl (d,e))) (jf (.inr a.1))
def f_C(a:jl):Option jl:=(zE (zWI a) ([],0)).bind fun b=>jf b
def zWJ(b:SPr)(a:(List (jl×jl))×Int):Option (((List (jl×jl))×Int)⊕(List (jl×jl))):=cond (a.2<b.zA.length) ((ixO b.zA a.2).bind fun c=>(rng (a.2+1)).bind fun d=>(f_k [d] c).bind fun e=>(ixO b.zQ a.2).bind fun f=>(f_C f).bind fun g=>(yH a.1 [(e,g)]).bind fun h=>(rng (a.2+1)).bind fun i=>jf (.inl (h,i))) (jf (.inr a.1))
def zWK(j:(List (jl×jl))×Int)(k:jm)(a:(List (jl×jl))×Int):Option (((List (jl×jl))×Int)⊕(List (jl×jl))):=cond (a.2<k.length) ((ixO k a.2).bind fun c=>(rng (j.2+1)).bind fun b=>(rng (j.2+a.2)).bind fun d=>(rng (d+2)).bind fun e=>(f_C c).bind fun f=>(yH [b] f).bind fun g=>(yH a.1 [([e,b],g)]).bind fun h=>(rng (a.2+1)).bind fun i=>jf (.inl (h,i))) (jf (.inr a.1))
def zWL(d:SPr)(a:(List (jl×jl))×Int):Option (((List (jl×jl))×Int)⊕(List (jl×jl))):=cond (a.2<d.zA.length) ((ixO d.zG a.2).bind fun e=>(zE (zWK a e) (a.1,0)).bind fun b=>(rng (a.2+1)).bind fun c=>jf (.inl (b,c))) (jf (.inr a.1))
def f_D(b:SPr):Option (List (jl×jl)):=(zE (zWJ b) ([],0)).bind fun c=>(zE (zWL b) (c,0)).bind fun a=>jf a
def zLy(b:Int)(a:jm×Int):Option ((jm×Int)⊕jm):=cond (a.2<b) ((yG b).bind fun c=>(ixO (J1 c (0:Int)) a.2).bind fun _=>(yH a.1 [(J1 c (0:Int)).set a.2.toNat 1]).bind fun d=>(rng (a.2+1)).bind fun e=>jf (.inl (d,e))) (jf (.inr a.1))
def f_O(b a:Int):Option zI:=(zE (zLy a) ([],0)).bind fun c=>jf (zI.mk b a c)
def zLz(b a:Int):Option Int:=(vD b a).bind fun c=>(rng (c+a)).bind fun d=>(vD d a).bind fun e=>jf e
def zN3(b c:jl)(d e:Int)(a:jl×Int):Option ((jl×Int)⊕jl):=cond (a.2<b.length) ((ixO a.1 a.2).bind fun f=>(ixO c a.2).bind fun g=>(rng (d*g)).bind fun h=>(rng (f+h)).bind fun i=>(zLz i e).bind fun j=>(ixO a.1 a.2).bind fun _=>(rng (a.2+1)).bind fun k=>jf (.inl (a.1.set a.2.toNat j,k))) (jf (.inr a.1))
def f_A(a b:jl)(c d:Int):Option jl:=(zE (zN3 a b c d) (a,0)).bind fun e=>jf e
def zN4(b:jl)(c:zI)(a:jl×Int):Option ((jl×Int)⊕jl):=cond (a.2<b.length) ((ixO b a.2).bind fun d=>(ixO c.Rows a.2).bind fun e=>(f_A a.1 e d c.Prime).bind fun f=>(rng (a.2+1)).bind fun g=>jf (.inl (f,g))) (jf (.inr a.1))
def zWM(b:jl)(a:zI):Option jl:=(yG a.xF).bind fun c=>(zE (zN4 b a) (J1 c (0:Int),0)).bind fun d=>jf d
def zN5(b c:zI)(a:jm×Int):Option ((jm×Int)⊕jm):=cond (a.2<b.Rows.length) ((ixO b.Rows a.2).bind fun d=>(zWM d c).bind fun e=>(yH a.1 [e]).bind fun f=>(rng (a.2+1)).bind fun g=>jf (.inl (f,g))) (jf (.inr a.1))
def zZa(a b:zI):Option zI:=(zE (zN5 a b) ([],0)).bind fun c=>jf (zI.mk a.Prime b.xF c)
def zN6(d:zF)(c:jl)(a:Int×Int×jm×Int):Option ((Int×Int×jm×Int)⊕(Int×Int×jm)):=cond (a.2.2.2<c.length) ((ixO c a.2.2.2).bind fun e=>(rng (e-1)).bind fun f=>(zWF d f).bind fun g=>(zZa (zI.mk a.1 a.2.1 a.2.2.1) g).bind fun b=>(rng (a.2.2.2+1)).bind fun h=>jf (.inl (b.Prime,b.xF,b.Rows,h))) (jf (.inr (a.1,a.2.1,a.2.2.1)))
def zPB(a:zF)(d:jl):Option zI:=(f_O a.Prime a.Dim).bind fun b=>(zE (zN6 a d) (b.Prime,b.xF,b.Rows,0)).bind fun c=>jf (zI.mk c.1 c.2.1 c.2.2)
def zWN(b c:jm)(a:Int):Option (Int⊕(Unit⊕Bool)):=cond (a<b.length) ((ixO b a).bind fun d=>(ixO c a).bind fun e=>(zLw d e).bind fun f=>cond (!f) (jf (.inr (.inr ji))) ((rng (a+1)).bind fun g=>jf (.inl g))) (jf (.inr (.inl ())))
def yC3(b c:jm):Option Bool:=cond ((b.length:Int) != c.length) (jf ji) ((zE (zWN b c) 0).bind fun a=>match a with|(.inl _a)=>jf jh|(.inr a)=>jf a)
def zWO(a b:jm):Option Bool:=(yC3 a b).bind fun c=>jf c
def zWP(a:Int):Option jl:=cond (a<0) (jg) ((rng (0-0)).bind fun c=>(rng (a-c)).bind fun b=>cond (b> 0) ((wK [] b (0:Int)).bind fun d=>(zS d 0 0).bind fun e=>jf e) (jf []))
def zWQ(b:jm)(a:Int×Int):Option ((Int×Int)⊕Int):=cond (a.2<b.length) ((ixO b a.2).bind fun d=>(rng (a.1+d.length)).bind fun c=>cond (c<0) (jg) ((rng (a.2+1)).bind fun e=>jf (.inl (c,e)))) (jf (.inr a.1))
def zWR(b:jm)(a:jl×Int):Option ((jl×Int)⊕jl):=cond (a.2<b.length) ((ixO b a.2).bind fun c=>(yH a.1 c).bind fun d=>(rng (a.2+1)).bind fun e=>jf (.inl (d,e))) (jf (.inr a.1))
def f_t(a:jm):Option jl:=(zE (zWQ a) (0,0)).bind fun b=>(zWP b).bind fun c=>(zE (zWR a) (c,0)).bind fun d=>jf d
def zZb(a:jl)(b c:Int):Option jl:=(yG b).bind fun d=>(yG c).bind fun e=>(f_t [J1 d (0:Int),a,J1 e (0:Int)]).bind fun f=>jf f
def zWS(b c:jl)(a:Int):Option (Int⊕(Unit⊕Bool)):=cond (a<b.length) ((ixO b a).bind fun d=>(ixO c a).bind fun e=>cond (d != e) (jf (.inr (.inr ji))) ((rng (a+1)).bind fun f=>jf (.inl f))) (jf (.inr (.inl ())))
def zWT(b c:jl):Option Bool:=cond ((b.length:Int) != c.length) (jf ji) ((zE (zWS b c) 0).bind fun a=>match a with|(.inl _a)=>jf jh|(.inr a)=>jf a)
def zWU(b c:jm)(a:Int):Option (Int⊕(Unit⊕Bool)):=cond (a<b.length) ((ixO b a).bind fun d=>(ixO c a).bind fun e=>(zWT d e).bind fun f=>cond (!f) (jf (.inr (.inr ji))) ((rng (a+1)).bind fun g=>jf (.inl g))) (jf (.inr (.inl ())))
def zSE(b c:jm):Option Bool:=cond ((b.length:Int) != c.length) (jf ji) ((zE (zWU b c) 0).bind fun a=>match a with|(.inl _a)=>jf jh|(.inr a)=>jf a)
def zWV(b c:List jm)(a:Int):Option (Int⊕(Unit⊕Bool)):=cond (a<b.length) ((ixO b a).bind fun d=>(ixO c a).bind fun e=>(zSE d e).bind fun f=>cond (!f) (jf (.inr (.inr ji))) ((rng (a+1)).bind fun g=>jf (.inl g))) (jf (.inr (.inl ())))
def yC4(b c:List jm):Option Bool:=cond ((b.length:Int) != c.length) (jf ji) ((zE (zWV b c) 0).bind fun a=>match a with|(.inl _a)=>jf jh|(.inr a)=>jf a)
def zZc(a b:SPr):Option Bool:=(zWT a.zA b.zA).bind fun c=>cond (!c) (jf ji) ((zSE a.zQ b.zQ).bind fun d=>cond (!d) (jf ji) ((yC4 a.zG b.zG).bind fun e=>cond (!e) (jf ji) (jf jh)))
def b_j(g_j:SPr->Int->jl->Option jl)(b:SPr)(a:Int)(c:jl):Option jl:=cond (a>=b.zA.length) ((yG (b.zA.length:Int)).bind fun m=>jf (J1 m (0:Int))) ((f_z c).bind fun j=>(ixO j a).bind fun _=>(rng (a+1)).bind fun n=>(g_j b n (j.set a.toNat 0)).bind fun k=>(ixO c a).bind fun o=>cond (o==0) (jf k) ((yG (b.zA.length:Int)).bind fun l=>(ixO b.zA a).bind fun p=>(ixO c a).bind fun q=>(rng (p-q)).bind fun d=>(ixO (J1 l (0:Int)) a).bind fun _=>(f_a b a k ((J1 l (0:Int)).set a.toNat d)).bind fun e=>(rng (a+1)).bind fun f=>(ixO b.zQ a).bind fun g=>(g_j b f g).bind fun h=>(f_a b a e h).bind fun i=>jf i))
def zPC:Nat->SPr->Int->jl->Option jl|0=>fun _ _ _=>jg|n+1=>b_j (zPC n)
def f_j(a:SPr)(b:Int)(c:jl):Option jl:=zCo fun n=>zPC n a b c
def zSF(a:SPr)(b:jl):Option jl:=(f_j a 0 b).bind fun c=>jf c
def zN7(d:jm)(a:jm×Int):Option ((jm×Int)⊕jm):=cond (a.2<d.length) ((ixO d a.2).bind fun b=>(rng ((b.length:Int)+d.length)).bind fun f=>(yG f).bind fun c=>(rng ((b.length:Int)+a.2)).bind fun e=>(ixO (wQ (J1 c (0:Int)) 0 (b.take (((J1 c (0:Int)).length)-0))) e).bind fun _=>(yH a.1 [(wQ (J1 c (0:Int)) 0 (b.take (((J1 c (0:Int)).length)-0))).set e.toNat 1]).bind fun g=>(rng (a.2+1)).bind fun h=>jf (.inl (g,h))) (jf (.inr a.1))
def zZd(a:jm):Option jm:=(zE (zN7 a) ([],0)).bind fun b=>jf b
def zN8(b:jm)(a:jm×Int):Option ((jm×Int)⊕jm):=cond (a.2<b.length) ((ixO b a.2).bind fun c=>(f_B c).bind fun d=>(yH a.1 [d]).bind fun e=>(rng (a.2+1)).bind fun f=>jf (.inl (e,f))) (jf (.inr a.1))
def zWW(a:jm):Option jm:=(zE (zN8 a) ([],0)).bind fun b=>jf b
def zJV(a:Int×Int×Int×Int):Option ((Int×Int×Int×Int)⊕(Int×Int)):=cond (a.2.1 != 0) ((vN a.1 a.2.1).bind fun b=>(rng (b*a.2.1)).bind fun c=>(rng (a.1-c)).bind fun d=>(rng (b*a.2.2.2)).bind fun e=>(rng (a.2.2.1-e)).bind fun f=>jf (.inl (a.2.1,d,a.2.2.2,f))) (jf (.inr (a.1,a.2.2.1)))
def zN9(c a:Int):Option (Int×Bool):=(zE zJV (a,c,0,1)).bind fun b=>(zLz b.2 a).bind fun d=>jf (d,(b.1==1))
def zIT(b:jm×Int×Int)(a:Int):Option (Int⊕Int):=cond (a<b.1.length) ((ixO b.1 a).bind fun c=>(ixO c b.2.2).bind fun d=>cond (d==0) ((rng (a+1)).bind fun e=>jf (.inl e)) (jf (.inr a))) (jf (.inr a))
def zNA(k:Int)(b:jm×Int×Int)(d:Int×Bool)(e:jl)(a:jm×Int):Option ((jm×Int)⊕jm):=cond (a.2<e.length) ((ixO a.1 b.2.1).bind fun c=>(ixO a.1 b.2.1).bind fun f=>(ixO f a.2).bind fun g=>(rng (g*d.1)).bind fun h=>(vD h k).bind fun i=>(ixO c a.2).bind fun _=>(rng (a.2+1)).bind fun j=>jf (.inl (a.1.set b.2.1.toNat (c.set a.2.toNat i),j))) (jf (.inr a.1))
def zPD(l:Int)(b:jm×Int×Int)(c:jm)(a:jm×Int):Option ((jm×Int)⊕jm):=cond (a.2<c.length) (cond (a.2 != b.2.1) ((ixO a.1 a.2).bind fun d=>(ixO a.1 b.2.1).bind fun e=>(ixO a.1 a.2).bind fun f=>(ixO f b.2.2).bind fun g=>(rng (0-g)).bind fun h=>(f_A d e h l).bind fun i=>(rng (a.2+1)).bind fun j=>jf (.inl (a.1.set a.2.toNat i,j))) ((rng (a.2+1)).bind fun k=>jf (.inl (a.1,k)))) (jf (.inr a.1))
def zPE(d:Int)(a:jm×Int×Int):Option ((jm×Int×Int)⊕(jm×Int)):=cond ((a.1.length:Int)> 0) ((ixO a.1 0).bind fun n=>cond (a.2.2<n.length) (cond (a.2.1<a.1.length) ((zE (zIT a) a.2.1).bind fun b=>cond (b==a.1.length) ((rng (a.2.2+1)).bind fun o=>jf (.inl (a.1,a.2.1,o))) ((ixO a.1 b).bind fun e=>(ixO a.1 a.2.1).bind fun f=>(ixO (jB a.1 a.2.1 b e f) a.2.1).bind fun g=>(ixO g a.2.2).bind fun h=>(zN9 h d).bind fun i=>(ixO (jB a.1 a.2.1 b e f) a.2.1).bind fun j=>(zE (zNA d a i j) (jB a.1 a.2.1 b e f,0)).bind fun c=>(zE (zPD d a c) (c,0)).bind fun k=>(rng (a.2.1+1)).bind fun l=>(rng (a.2.2+1)).bind fun m=>jf (.inl (k,l,m)))) (jf (.inr (a.1,a.2.1)))) (jf (.inr (a.1,a.2.1)))) (jf (.inr (a.1,a.2.1)))
def f_i(c:Int)(d:jm):Option jm:=(zWW d).bind fun e=>(zE (zPE c) (e,0,0)).bind fun a=>(zS a.1 0 a.2).bind fun b=>jf b
def zWX(c b:Int):Option Int:=(vD c b).bind fun a=>cond (a<0) ((rng (a+b)).bind fun d=>jf d) (jf a)
def zIU(b:jl)(a:Int):Option (Int⊕(Unit⊕Int)):=cond (a<b.length) ((ixO b a).bind fun c=>cond (c != 0) (jf (.inr (.inr a))) ((rng (a+1)).bind fun d=>jf (.inl d))) (jf (.inr (.inl ())))
def f_I(b:jl):Option Int:=(zE (zIU b) 0).bind fun a=>match a with|(.inl _a)=>jf (b.length:Int)|(.inr a)=>jf a
def zWY(c d:Int)(b:jl)(a:jl×Int):Option ((jl×Int)⊕jl):=cond (a.2<a.1.length) (cond (a.2<b.length) ((ixO a.1 a.2).bind fun e=>(ixO b a.2).bind fun f=>(rng (d*f)).bind fun g=>(rng (e+g)).bind fun h=>(zWX h c).bind fun i=>(ixO a.1 a.2).bind fun _=>(rng (a.2+1)).bind fun j=>jf (.inl (a.1.set a.2.toNat i,j))) (jf (.inr a.1))) (jf (.inr a.1))
def f_x(a:Int)(b:jl)(c:Int)(d:jl):Option jl:=(f_z b).bind fun e=>(zE (zWY a c d) (e,0)).bind fun f=>jf f
def zNB(f:Int)(b:jm)(a:jl×Int):Option ((jl×Int)⊕jl):=cond (a.2<b.length) ((ixO b a.2).bind fun g=>(f_I g).bind fun c=>cond (c<a.1.length) ((ixO a.1 c).bind fun h=>cond (h != 0) ((ixO a.1 c).bind fun i=>(rng (f-i)).bind fun j=>(ixO b a.2).bind fun k=>(f_x f a.1 j k).bind fun l=>(rng (a.2+1)).bind fun m=>jf (.inl (l,m))) ((rng (a.2+1)).bind fun d=>jf (.inl (a.1,d)))) ((rng (a.2+1)).bind fun e=>jf (.inl (a.1,e)))) (jf (.inr a.1))
def zSG(b:Int)(c:jm)(d:jl):Option jl:=(f_z d).bind fun e=>(zE (zNB b c) (e,0)).bind fun a=>jf a
def zNC(c b a:Int):Option (Int⊕(Unit⊕Int)):=cond (a<b) ((zWX c b).bind fun d=>(rng (d*a)).bind fun e=>(vD e b).bind fun f=>cond (f==1) (jf (.inr (.inr a))) ((rng (a+1)).bind fun g=>jf (.inl g))) (jf (.inr (.inl ())))
def zWZ(b c:Int):Option Int:=(zE (zNC b c) 1).bind fun a=>match a with|(.inl _a)=>jf 0|(.inr a)=>jf a
def zZe(b c:Int)(a:jl):Option jl:=(yG (a.length:Int)).bind fun d=>(f_x b (J1 d (0:Int)) c a).bind fun e=>jf e
def zIV(c:Int)(b:jm×Int)(d:Int)(e:jl)(a:jm×Bool×Int):Option ((jm×Bool×Int)⊕(jm×Bool)):=cond (a.2.2<b.1.length) (cond (!a.2.1) ((ixO b.1 a.2.2).bind fun C=>(f_I C).bind fun D=>cond (D> d) ((yH a.1 [e]).bind fun f=>(ixO b.1 a.2.2).bind fun g=>(ixO b.1 a.2.2).bind fun h=>(ixO h d).bind fun i=>(rng (c-i)).bind fun j=>(f_x c g j e).bind fun k=>(yH f [k]).bind fun l=>(rng (a.2.2+1)).bind fun m=>jf (.inl (l,jh,m))) ((ixO b.1 a.2.2).bind fun n=>(ixO b.1 a.2.2).bind fun o=>(ixO o d).bind fun p=>(rng (c-p)).bind fun q=>(f_x c n q e).bind fun r=>(yH a.1 [r]).bind fun s=>(rng (a.2.2+1)).bind fun t=>jf (.inl (s,a.2.1,t)))) ((ixO b.1 a.2.2).bind fun u=>(ixO b.1 a.2.2).bind fun v=>(ixO v d).bind fun w=>(rng (c-w)).bind fun x=>(f_x c u x e).bind fun y=>(yH a.1 [y]).bind fun z=>(rng (a.2.2+1)).bind fun A=>jf (.inl (z,a.2.1,A)))) (jf (.inr (a.1,a.2.1)))
def zSH(c:Int)(i:jm)(a:jm×Int):Option ((jm×Int)⊕jm):=cond (a.2<i.length) ((ixO i a.2).bind fun k=>(zSG c a.1 k).bind fun d=>(f_I d).bind fun e=>cond (e==d.length) ((rng (a.2+1)).bind fun l=>jf (.inl (a.1,l))) ((ixO d e).bind fun m=>(zWZ m c).bind fun n=>(zZe c n d).bind fun j=>(zE (zIV c a e j) ([],ji,0)).bind fun b=>cond (!b.2) ((yH b.1 [j]).bind fun f=>(rng (a.2+1)).bind fun g=>jf (.inl (f,g))) ((rng (a.2+1)).bind fun h=>jf (.inl (b.1,h))))) (jf (.inr a.1))
def f_q(b:Int)(c:jm):Option jm:=(zE (zSH b c) ([],0)).bind fun a=>jf a
def zND(b c:jm)(a:jm×Int):Option ((jm×Int)⊕jm):=cond (a.2<b.length) ((ixO b a.2).bind fun d=>(f_z d).bind fun e=>(ixO c a.2).bind fun f=>(yH e f).bind fun g=>(yH a.1 [g]).bind fun h=>(rng (a.2+1)).bind fun i=>jf (.inl (h,i))) (jf (.inr a.1))
def zZf(b:Int)(a:jm):Option jm:=(f_v (a.length:Int)).bind fun c=>(zE (zND a c) ([],0)).bind fun d=>(f_q b d).bind fun e=>jf e
def zJW(c:Int)(b:jm)(a:jm×Int):Option ((jm×Int)⊕jm):=cond (a.2<b.length) ((ixO b a.2).bind fun e=>(f_I e).bind fun f=>cond (f>=c) ((ixO b a.2).bind fun d=>(zS d c d.length).bind fun g=>(f_z g).bind fun h=>(yH a.1 [h]).bind fun i=>(rng (a.2+1)).bind fun j=>jf (.inl (i,j))) ((rng (a.2+1)).bind fun k=>jf (.inl (a.1,k)))) (jf (.inr a.1))
def zZg(b:Int)(c:jm)(d:Int):Option jm:=(zZf b c).bind fun e=>(zE (zJW d e) ([],0)).bind fun a=>jf a
def zXa(a:SPr):Option Int:=(rng ((a.zA.length:Int)-1)).bind fun b=>(rng ((a.zA.length:Int)*b)).bind fun c=>(vN c 2).bind fun d=>(rng ((a.zA.length:Int)+d)).bind fun e=>jf e
def yC5(b a c:Int):Option Int:=(rng (a*b)).bind fun d=>(rng (b+d)).bind fun e=>(rng (a+1)).bind fun f=>(rng (a*f)).bind fun g=>(vN g 2).bind fun h=>(rng (e-h)).bind fun i=>(rng (i+c)).bind fun j=>(rng (j-a)).bind fun k=>(rng (k-1)).bind fun l=>jf l
def zXb(a:SPr):Option Int:=(rng ((a.zA.length:Int)+1)).bind fun b=>(rng ((a.zA.length:Int)*b)).bind fun c=>(vN c 2).bind fun d=>jf d
def zNE(b:jl)(c:Int)(a:jm×Int):Option ((jm×Int)⊕jm):=cond (a.2<b.length) ((rng (a.2+c)).bind fun d=>(zS b a.2 d).bind fun e=>(f_B e).bind fun f=>(yH a.1 [f]).bind fun g=>(rng (a.2+c)).bind fun h=>jf (.inl (g,h))) (jf (.inr a.1))
def zSI(a:jl)(b:Int):Option jm:=(zE (zNE a b) ([],0)).bind fun c=>jf c
def zSJ(b:jl)(a:jm×Int):Option ((jm×Int)⊕jm):=cond (a.2<b.length) ((zIS (b.length:Int) a.2).bind fun c=>(yH a.1 [c]).bind fun d=>(rng (a.2+1)).bind fun e=>jf (.inl (d,e))) (jf (.inr a.1))
def zSK(b:jl)(a:jm×(List jm)×Int):Option ((jm×(List jm)×Int)⊕(jm×(List jm))):=cond (a.2.2<b.length) ((yG (b.length:Int)).bind fun d=>(yH a.1 [J1 d (0:Int)]).bind fun e=>(rng (a.2.2+1)).bind fun f=>(zE (zSJ b) ([],f)).bind fun g=>(yH a.2.1 [g]).bind fun h=>(rng (a.2.2+1)).bind fun c=>jf (.inl (e,h,c))) (jf (.inr (a.1,a.2.1)))
def f_P(b:jl):Option SPr:=(f_B b).bind fun c=>(zE (zSK b) ([],[],0)).bind fun a=>jf (SPr.mk c a.1 a.2)
def zPF(c:SPr)(d:jm)(a:jm×Int×Int):Option ((jm×Int×Int)⊕(jm×Int)):=cond (a.2.2<c.zQ.length) ((ixO c.zQ a.2.2).bind fun e=>(ixO d a.2.1).bind fun f=>(f_t [e,f]).bind fun g=>(ixO a.1 a.2.2).bind fun _=>(rng (a.2.1+1)).bind fun h=>(rng (a.2.2+1)).bind fun b=>jf (.inl (a.1.set a.2.2.toNat g,h,b))) (jf (.inr (a.1,a.2.1)))
def zPG(j:jm)(b:(List jm)×Int×Int)(c:jm)(a:(List jm)×Int×Int):Option (((List jm)×Int×Int)⊕((List jm)×Int)):=cond (a.2.2<c.length) ((ixO c a.2.2).bind fun e=>(ixO a.1 b.2.2).bind fun d=>(ixO j a.2.1).bind fun f=>(f_t [e,f]).bind fun g=>(ixO d a.2.2).bind fun _=>(rng (a.2.1+1)).bind fun h=>(rng (a.2.2+1)).bind fun i=>jf (.inl (a.1.set b.2.2.toNat (d.set a.2.2.toNat g),h,i))) (jf (.inr (a.1,a.2.1)))
def zPH(k:SPr)(b:(List jm)×Int×Int)(c:jm)(a:(List jm)×Int):Option (((List jm)×Int)⊕(List jm)):=cond (a.2<c.length) ((ixO c a.2).bind fun f=>(ixO a.1 b.2.2).bind fun d=>(rng ((k.zA.length:Int)-1)).bind fun g=>(rng (g-b.2.2)).bind fun h=>(rng (h+a.2)).bind fun e=>(zZb f (k.zA.length:Int) 0).bind fun i=>(ixO d e).bind fun _=>(rng (a.2+1)).bind fun j=>jf (.inl (a.1.set b.2.2.toNat (d.set e.toNat i),j))) (jf (.inr a.1))
def zPI(c:SPr)(h:zF)(i:jm)(a:(List jm)×Int×Int):Option (((List jm)×Int×Int)⊕(List jm)):=cond (a.2.2<c.zA.length) ((ixO c.zG a.2.2).bind fun d=>(zE (zPG i a d) (a.1,a.2.1,0)).bind fun b=>(ixO h.zM a.2.2).bind fun e=>(zE (zPH c a e) (b.1,0)).bind fun f=>(rng (a.2.2+1)).bind fun g=>jf (.inl (f,b.2,g))) (jf (.inr a.1))
def f_m(b:SPr)(c:zF)(f:jm):Option SPr:=(f_B b.zA).bind fun g=>(f_k [c.Prime] c.Dim).bind fun h=>(yH g h).bind fun i=>(f_P i).bind fun d=>(zE (zPF b f) (d.zQ,0,0)).bind fun a=>(zE (zPI b c f) (d.zG,a.2,0)).bind fun e=>jf (SPr.mk d.zA a.1 e)
def zNF(a:zF)(c:jm)(d:jl)(b:Int):Option jl:=(ixO a.zM b).bind fun e=>(f_R a.Prime d e a.Dim).bind fun f=>(ixO c b).bind fun g=>(f_x a.Prime f 1 g).bind fun h=>jf h
def zXc(c:zF)(d:jm)(e:jl)(b:jl×Int)(a:jl×Int):Option ((jl×Int)⊕jl):=(ixO e b.2).bind fun f=>cond (a.2<f) ((zNF c d a.1 b.2).bind fun g=>(rng (a.2+1)).bind fun h=>jf (.inl (g,h))) (jf (.inr a.1))
def zXd(c:zF)(d:jm)(b:jl)(a:jl×Int):Option ((jl×Int)⊕jl):=cond (a.2<b.length) ((zE (zXc c d b a) (a.1,0)).bind fun e=>(rng (a.2+1)).bind fun f=>jf (.inl (e,f))) (jf (.inr a.1))
def f_S(a:zF)(b:jm)(c d:jl):Option jl:=(zE (zXd a b d) (c,0)).bind fun e=>jf e
def zNG(b:zF)(e:jm)(c:jl)(a:jl×Int):Option ((jl×Int)⊕jl):=cond (a.2<c.length) ((ixO c a.2).bind fun d=>(rng (d-1)).bind fun f=>(zWF b f).bind fun g=>(zWM a.1 g).bind fun h=>(rng (d-1)).bind fun i=>(ixO e i).bind fun j=>(f_A h j 1 b.Prime).bind fun k=>(rng (a.2+1)).bind fun l=>jf (.inl (k,l))) (jf (.inr a.1))
def zXe(b:zF)(c:jm)(d:jl):Option jl:=(yG b.Dim).bind fun e=>(zE (zNG b c d) (J1 e (0:Int),0)).bind fun a=>jf a
def zNH(b:zF)(c:jm)(d:(List (jl×jl)))(a:jm×Int):Option ((jm×Int)⊕jm):=cond (a.2<d.length) ((ixO d a.2).bind fun e=>(zXe b c e.1).bind fun f=>(zXe b c e.2).bind fun g=>(f_A f g (-1) b.Prime).bind fun h=>(yH a.1 [h]).bind fun i=>(rng (a.2+1)).bind fun j=>jf (.inl (i,j))) (jf (.inr a.1))
def zZh(a:SPr)(b:zF)(c:jm):Option jm:=(f_D a).bind fun d=>(zE (zNH b c d) ([],0)).bind fun e=>jf e
def zI4(a:zP):Option zC:=cond ((a.zOb.length:Int)> 0) ((ixO a.zOb 0).bind fun b=>(yG (a.p.zA.length:Int)).bind fun c=>(yG (b.length:Int)).bind fun d=>jf (zC.mk (J1 c (0:Int)) (J1 d (0:Int)))) ((yG (a.p.zA.length:Int)).bind fun e=>(yG 0).bind fun f=>jf (zC.mk (J1 e (0:Int)) (J1 f (0:Int))))
def zL0(a:zP)(b c:Int):Option zC:=(ixO a.p.zG b).bind fun d=>(rng (c-b)).bind fun e=>(rng (e-1)).bind fun f=>(ixO d f).bind fun g=>(yC5 (a.p.zA.length:Int) b c).bind fun h=>(ixO a.zOb h).bind fun i=>jf (zC.mk g i)
def zD7(b:zF)(c:jl)(d:Int)(a:jl×Int):Option ((jl×Int)⊕jl):=cond (a.2<c.length) ((rng (a.2+b.Dim)).bind fun e=>(zS c a.2 e).bind fun f=>(ixO b.zM d).bind fun g=>(f_R b.Prime f g b.Dim).bind fun h=>(yH a.1 h).bind fun i=>(rng (a.2+b.Dim)).bind fun j=>jf (.inl (i,j))) (jf (.inr a.1))
def zXf(a:zF)(b:jl)(c:Int):Option jl:=(zE (zD7 a b c) ([],0)).bind fun d=>jf d
def zPJ(a:zP)(b:Int):Option zC:=(ixO a.p.zQ b).bind fun c=>(ixO a.zOb b).bind fun d=>jf (zC.mk c d)
def zZi(g_b:zP->Int->zC->zC->Option zC)(b:zP)(c:Int)(f:zC)(d:jl×jl×Int)(a:jl×jl×Int):Option ((jl×jl×Int)⊕(jl×jl)):=(ixO f.x d.2.2).bind fun g=>cond (a.2.2<g) ((rng (c+1)).bind fun h=>(zL0 b c d.2.2).bind fun i=>(g_b b h (zC.mk a.1 a.2.1) i).bind fun e=>(rng (a.2.2+1)).bind fun j=>jf (.inl (e.x,e.v,j))) (jf (.inr (a.1,a.2.1)))
def zXg(g_b:zP->Int->zC->zC->Option zC)(d:zP)(e:Int)(b:zC)(a:jl×jl×Int):Option ((jl×jl×Int)⊕(jl×jl)):=cond (a.2.2<b.x.length) ((zE (zZi g_b d e b a) (a.1,a.2.1,0)).bind fun c=>(rng (a.2.2+1)).bind fun f=>jf (.inl (c.1,c.2,f))) (jf (.inr (a.1,a.2.1)))
def b_h(g_b:zP->Int->zC->zC->Option zC)(b:zP)(c:Int)(f:zC):Option zC:=(zI4 b).bind fun g=>(rng (c+1)).bind fun h=>(zE (zXg g_b b c f) (g.x,g.v,h)).bind fun a=>(zXf b.m f.v c).bind fun d=>(f_x b.m.Prime a.2 1 d).bind fun e=>jf (zC.mk a.1 e)
def zSL(g_h:zP->Int->zC->Option zC)(d:zP)(b:Int)(e:zC)(a:jl×jl×Int):Option ((jl×jl×Int)⊕(jl×jl)):=(ixO e.x b).bind fun f=>cond (a.2.2<f) ((g_h d b (zC.mk a.1 a.2.1)).bind fun c=>(rng (a.2.2+1)).bind fun g=>jf (.inl (c.x,c.v,g))) (jf (.inr (a.1,a.2.1)))
def b_b(g_h:zP->Int->zC->Option zC)(g_b:zP->Int->zC->zC->Option zC)(b:zP)(a:Int)(j e:zC):Option zC:=cond (a>=b.p.zA.length) ((yG (b.p.zA.length:Int)).bind fun y=>(f_x b.m.Prime j.v 1 e.v).bind fun z=>jf (zC.mk (J1 y (0:Int)) z)) ((f_z j.x).bind fun u=>(f_z e.x).bind fun w=>(ixO u a).bind fun _=>(ixO w a).bind fun _=>(zE (zSL g_h b a e) (u.set a.toNat 0,j.v,0)).bind fun f=>(rng (a+1)).bind fun k=>(g_b b k (zC.mk f.1 f.2) (zC.mk (w.set a.toNat 0) e.v)).bind fun c=>(ixO j.x a).bind fun l=>(ixO e.x a).bind fun n=>(rng (l+n)).bind fun d=>(ixO b.p.zA a).bind fun o=>cond (d>=o) ((ixO b.p.zA a).bind fun q=>(rng (d-q)).bind fun r=>(rng (a+1)).bind fun s=>(zPJ b a).bind fun t=>(g_b b s t c).bind fun g=>(f_z g.x).bind fun h=>(ixO h a).bind fun _=>jf (zC.mk (h.set a.toNat r) g.v)) ((f_z c.x).bind fun i=>(ixO i a).bind fun _=>jf (zC.mk (i.set a.toNat d) c.v)))
mutual
def zPK:Nat->zP->Int->zC->Option zC|0=>fun _ _ _=>jg|n+1=>b_h (zPL n)
def zPL:Nat->zP->Int->zC->zC->Option zC|0=>fun _ _ _ _=>jg|n+1=>b_b (zPK n) (zPL n)
end
def f_h(a:zP)(b:Int)(c:zC):Option zC:=zCo fun n=>zPK n a b c
def f_b(a:zP)(b:Int)(c d:zC):Option zC:=zCo fun n=>zPL n a b c d
def zI5(a:zP)(b c:zC):Option jl:=(rng (a.m.Prime-1)).bind fun d=>(f_x a.m.Prime b.v d c.v).bind fun e=>jf e
def zSM(b:zP)(c:Int)(d:jm×Int)(a:jl×jl×Int):Option ((jl×jl×Int)⊕(jl×jl)):=(ixO b.p.zA d.2).bind fun f=>cond (a.2.2<f) ((rng (c+1)).bind fun g=>(zL0 b c d.2).bind fun h=>(f_b b g (zC.mk a.1 a.2.1) h).bind fun e=>(rng (a.2.2+1)).bind fun i=>jf (.inl (e.x,e.v,i))) (jf (.inr (a.1,a.2.1)))
def zSN(b:zP)(c:Int)(o:jm×Int)(a:jm×Int):Option ((jm×Int)⊕jm):=cond (a.2<b.p.zA.length) ((zL0 b c o.2).bind fun d=>(zL0 b c a.2).bind fun e=>(zL0 b o.2 a.2).bind fun f=>(f_h b c f).bind fun g=>(rng (c+1)).bind fun h=>(f_b b h e d).bind fun i=>(rng (c+1)).bind fun j=>(f_b b j d g).bind fun k=>(zI5 b i k).bind fun l=>(yH a.1 [l]).bind fun m=>(rng (a.2+1)).bind fun n=>jf (.inl (m,n))) (jf (.inr a.1))
def zXh(b:zP)(c:Int)(a:jm×Int):Option ((jm×Int)⊕jm):=cond (a.2<b.p.zA.length) ((zI4 b).bind fun j=>(zE (zSM b c a) (j.x,j.v,0)).bind fun k=>(zPJ b a.2).bind fun l=>(f_h b c l).bind fun d=>(zI5 b (zC.mk k.1 k.2) d).bind fun e=>(yH a.1 [e]).bind fun f=>(rng (a.2+1)).bind fun g=>(zE (zSN b c a) (f,g)).bind fun h=>(rng (a.2+1)).bind fun i=>jf (.inl (h,i))) (jf (.inr a.1))
def zXi(e:zP)(f:Int)(a:jl×jl×Int):Option ((jl×jl×Int)⊕(jl×jl)):=(ixO e.p.zA f).bind fun c=>cond (a.2.2<c) ((f_h e f (zC.mk a.1 a.2.1)).bind fun b=>(rng (a.2.2+1)).bind fun d=>jf (.inl (b.x,b.v,d))) (jf (.inr (a.1,a.2.1)))
def zSO(c:zP)(f:Int)(d:zC)(a:jm×Int):Option ((jm×Int)⊕jm):=cond (a.2<c.p.zA.length) ((zI4 c).bind fun b=>(ixO b.x a.2).bind fun _=>(zE (zXi c f) (b.x.set a.2.toNat 1,b.v,0)).bind fun e=>(rng (f+1)).bind fun g=>(f_b c g d (zC.mk e.1 e.2)).bind fun h=>(rng (f+1)).bind fun i=>(f_b c i (zC.mk (b.x.set a.2.toNat 1) b.v) d).bind fun j=>(zI5 c h j).bind fun k=>(yH a.1 [k]).bind fun l=>(rng (a.2+1)).bind fun m=>jf (.inl (l,m))) (jf (.inr a.1))
def f_l(c:zP)(b:Int):Option jm:=(rng (b+1)).bind fun j=>(zE (zXh c b) ([],j)).bind fun d=>(zPJ c b).bind fun a=>(f_h c b a).bind fun e=>(zI5 c e a).bind fun f=>(yH d [f]).bind fun g=>(rng (b+1)).bind fun h=>(zE (zSO c b a) (g,h)).bind fun i=>jf i
def zJX(b:zP)(a:jm×Int):Option ((jm×Int)⊕jm):=cond (a.2<b.p.zA.length) ((f_l b a.2).bind fun c=>(yH a.1 c).bind fun d=>(rng (a.2+1)).bind fun e=>jf (.inl (d,e))) (jf (.inr a.1))
def zL1(a:zP):Option jm:=(zE (zJX a) ([],0)).bind fun b=>jf b
def zZj(b:zI)(c:Int):Option Int:=(zWe b.Rows c).bind fun a=>cond (a<0) (jf (-1)) (jf a)
def zSP(a:zI):Option zI:=(zP5 a.Rows).bind fun b=>jf (zI.mk a.Prime a.xF b)
def zNI(a:zI)(b:Int):Option (Int⊕(Unit⊕Bool)):=cond (b<a.Rows.length) ((ixO a.Rows b).bind fun c=>(zYW a.Prime a.xF c).bind fun d=>cond (!d) (jf (.inr (.inr ji))) ((rng (b+1)).bind fun e=>jf (.inl e))) (jf (.inr (.inl ())))
def zZk(a:zI):Option Bool:=(zYT a.Prime).bind fun c=>cond (!c) (jf ji) ((zWi a.xF 0 8).bind fun d=>cond (!d) (jf ji) (cond ((a.Rows.length:Int)> 8) (jf ji) ((zE (zNI a) 0).bind fun b=>match b with|(.inl _b)=>jf jh|(.inr b)=>jf b)))
def zZl(a:zI):Option Bool:=(zZk a).bind fun b=>cond b ((f_q a.Prime a.Rows).bind fun c=>(yCx c a.Rows).bind fun d=>jf d) (jf ji)
def zNJ(b:jm)(a:jm×Int):Option ((jm×Int)⊕jm):=cond (a.2<b.length) ((ixO b a.2).bind fun c=>(f_z c).bind fun d=>(yH a.1 [d]).bind fun e=>(rng (a.2+1)).bind fun f=>jf (.inl (e,f))) (jf (.inr a.1))
def zPM(a:jm):Option jm:=(zE (zNJ a) ([],0)).bind fun b=>jf b
def zPN(a b:Int)(c:jm):Option zI:=(f_i a c).bind fun d=>jf (zI.mk a b d)
def yC6(a:zI):Option zI:=(zPN a.Prime a.xF a.Rows).bind fun b=>jf b
def zZm(a:zI):Option Bool:=(zYZ a).bind fun b=>cond b ((yC6 a).bind fun c=>(zWO c.Rows a.Rows).bind fun d=>jf d) (jf ji)
def zSQ(a:Int):Option Bool:=jf (a != 0)
def zGq(b:jl)(a:Int):Option (Int⊕(Unit⊕Int)):=cond (a<b.length) ((ixO b a).bind fun c=>(zSQ c).bind fun d=>cond d (jf (.inr (.inr a))) ((rng (a+1)).bind fun e=>jf (.inl e))) (jf (.inr (.inl ())))
def zSR(b:jl):Option Int:=(zE (zGq b) 0).bind fun a=>match a with|(.inl _a)=>jf (-1)|(.inr a)=>jf a
def zIW(b:jm)(a:jl×Int):Option ((jl×Int)⊕jl):=cond (a.2<b.length) ((ixO b a.2).bind fun c=>(zSR c).bind fun d=>(yH a.1 [d]).bind fun e=>(rng (a.2+1)).bind fun f=>jf (.inl (e,f))) (jf (.inr a.1))
def f_Q(a:jm):Option jl:=(zE (zIW a) ([],0)).bind fun b=>jf b
def zJY(b:zI)(c:jl)(a:jl×Int):Option ((jl×Int)⊕jl):=cond (a.2<c.length) ((ixO c a.2).bind fun d=>(ixO b.Rows a.2).bind fun e=>(ixO a.1 d).bind fun f=>(rng (0-f)).bind fun g=>(f_A a.1 e g b.Prime).bind fun h=>(rng (a.2+1)).bind fun i=>jf (.inl (h,i))) (jf (.inr a.1))
def zZn(a:zI)(b:jl):Option jl:=(f_B b).bind fun c=>(f_Q a.Rows).bind fun d=>(zE (zJY a d) (c,0)).bind fun e=>jf e
def zZo(a b:zI):Option Bool:=cond (a.Prime != b.Prime) (jf ji) (cond (a.xF != b.xF) (jf ji) ((zSE a.Rows b.Rows).bind fun c=>cond (!c) (jf ji) (jf jh)))
def zNK(b:jm)(a:jl×Int):Option ((jl×Int)⊕jl):=cond (a.2<b.length) ((ixO b a.2).bind fun c=>(yH a.1 c).bind fun d=>(rng (a.2+1)).bind fun e=>jf (.inl (d,e))) (jf (.inr a.1))
def zZp(a:jm):Option jl:=(zE (zNK a) ([],0)).bind fun b=>jf b
def zSS(c:Int)(d:jm)(a:jm×Int):Option ((jm×Int)⊕jm):=cond (a.2<d.length) ((ixO d a.2).bind fun b=>(zS b 0 c).bind fun e=>(zWy e).bind fun f=>cond f ((zS b c b.length).bind fun g=>(yH a.1 [g]).bind fun h=>(rng (a.2+1)).bind fun i=>jf (.inl (h,i))) ((rng (a.2+1)).bind fun j=>jf (.inl (a.1,j)))) (jf (.inr a.1))
def f_Z(c:Int)(d:jm)(e:Int):Option jm:=(zZd d).bind fun f=>(f_i c f).bind fun g=>(zE (zSS e g) ([],0)).bind fun a=>(f_i c a).bind fun b=>jf b
def zNL(c:jl)(b:Int)(a:jm×Int):Option ((jm×Int)⊕jm):=(rng (a.2+b)).bind fun d=>cond (d<=c.length) ((rng (a.2+b)).bind fun e=>(zS c a.2 e).bind fun f=>(f_z f).bind fun g=>(yH a.1 [g]).bind fun h=>(rng (a.2+b)).bind fun i=>jf (.inl (h,i))) (jf (.inr a.1))
def zXj(a:jl)(b:Int):Option jm:=(zE (zNL a b) ([],0)).bind fun c=>jf c
def zXk(c:SPr)(d:zF)(e:jm)(b:jm×Int)(a:jl×Int):Option ((jl×Int)⊕jl):=(ixO c.zA b.2).bind fun f=>cond (a.2<f) ((zNF d e a.1 b.2).bind fun g=>(rng (a.2+1)).bind fun h=>jf (.inl (g,h))) (jf (.inr a.1))
def zXl(c:SPr)(b:zF)(f:jm)(g:Nat)(a:jm×Int):Option ((jm×Int)⊕jm):=cond (a.2<c.zA.length) ((zE (zXk c b f a) (J1 g (0:Int),0)).bind fun h=>(rng (b.Prime-1)).bind fun i=>(ixO c.zQ a.2).bind fun j=>(f_S b f (J1 g (0:Int)) j).bind fun k=>(f_x b.Prime h i k).bind fun l=>(yH a.1 [l]).bind fun d=>(rng (a.2+1)).bind fun e=>jf (.inl (d,e))) (jf (.inr a.1))
def zXm(q:SPr)(c:zF)(d:jm)(r:Nat)(b:jm×Int)(a:jm×Int):Option ((jm×Int)⊕jm):=cond (a.2<q.zA.length) ((zNF c d (J1 r (0:Int)) a.2).bind fun e=>(zNF c d e b.2).bind fun f=>(zNF c d (J1 r (0:Int)) b.2).bind fun g=>(ixO q.zG b.2).bind fun h=>(rng (a.2-b.2)).bind fun i=>(rng (i-1)).bind fun j=>(ixO h j).bind fun k=>(f_S c d g k).bind fun l=>(rng (c.Prime-1)).bind fun m=>(f_x c.Prime f m l).bind fun n=>(yH a.1 [n]).bind fun o=>(rng (a.2+1)).bind fun p=>jf (.inl (o,p))) (jf (.inr a.1))
def zXn(e:SPr)(f:zF)(g:jm)(h:Nat)(a:jm×Int):Option ((jm×Int)⊕jm):=cond (a.2<e.zA.length) ((rng (a.2+1)).bind fun b=>(zE (zXm e f g h a) (a.1,b)).bind fun c=>(rng (a.2+1)).bind fun d=>jf (.inl (c,d))) (jf (.inr a.1))
def f_s(d:SPr)(a:zF)(e:jm):Option jm:=(yG a.Dim).bind fun f=>(zE (zXl d a e f) ([],0)).bind fun b=>(zE (zXn d a e f) (b,0)).bind fun c=>jf c
def zNM(e:SPr)(b:zF)(c:Int)(a:jm×Int):Option ((jm×Int)⊕jm):=cond (a.2<c) ((yG c).bind fun d=>(ixO (J1 d (0:Int)) a.2).bind fun _=>(zXj ((J1 d (0:Int)).set a.2.toNat 1) b.Dim).bind fun f=>(f_s e b f).bind fun g=>(zZp g).bind fun h=>(yH a.1 [h]).bind fun i=>(rng (a.2+1)).bind fun j=>jf (.inl (i,j))) (jf (.inr a.1))
def zZq(a:SPr)(b:zF):Option jm:=(rng ((a.zA.length:Int)*b.Dim)).bind fun c=>(zE (zNM a b c) ([],0)).bind fun d=>jf d
def zPO(b:SPr)(a:zF):Option jm:=(zZq b a).bind fun c=>(f_q a.Prime c).bind fun d=>jf d
def zNN(d:SPr)(b:zF)(c:Int)(a:jm×Int):Option ((jm×Int)⊕jm):=cond (a.2<c) ((zIS c a.2).bind fun e=>(zSI e b.Dim).bind fun f=>(zZh d b f).bind fun g=>(f_t g).bind fun h=>(yH a.1 [h]).bind fun i=>(rng (a.2+1)).bind fun j=>jf (.inl (i,j))) (jf (.inr a.1))
def zXo(a:SPr)(b:zF):Option jm:=(rng ((a.zA.length:Int)*b.Dim)).bind fun c=>(zE (zNN a b c) ([],0)).bind fun d=>jf d
def zXp(b:SPr)(a:zF)(c:jl):Option jm:=(zXo b a).bind fun d=>(zPN a.Prime a.Dim d).bind fun e=>(zZn e c).bind fun f=>(zSI f a.Dim).bind fun g=>jf g
structure zJ where
 Word:jl
 Left:jl
 yFf:jl
abbrev zL(x:zJ):T:=.agg [(L 1 I) x.Word,(L 1 I) x.Left,(L 1 I) x.yFf]
instance:Enc zL:=.of fun _=>zMe ⟨Enc.t (f:=(L 1 I)) inferInstance _,Enc.t (f:=(L 1 I)) inferInstance _,Enc.t (f:=(L 1 I)) inferInstance _,trivial⟩
structure yY where
 p:SPr
 m:zF
 sums:List zI
abbrev zJZ(x:yY):T:=.agg [(Pt yW) x.p,(Pt xT) x.m,(L 3 xU) x.sums]
instance:Enc zJZ:=.of fun _=>zMe ⟨Enc.t (f:=(Pt yW)) inferInstance _,Enc.t (f:=(Pt xT)) inferInstance _,Enc.t (f:=(L 3 xU)) inferInstance _,trivial⟩
def zST(b:zF)(e:jm×Int)(a:jl×Int):Option ((jl×Int)⊕jl):=cond (a.2<b.Dim) ((rng (e.2*b.Dim)).bind fun f=>(rng (f+a.2)).bind fun g=>(rng (g*b.Dim)).bind fun h=>(rng (h+a.2)).bind fun d=>(ixO a.1 d).bind fun _=>(rng (a.2+1)).bind fun c=>jf (.inl (a.1.set d.toNat 1,c))) (jf (.inr a.1))
def zSU(e:zF)(f g:Int)(a:jm×Int):Option ((jm×Int)⊕jm):=cond (a.2<f) ((rng (g*e.Dim)).bind fun h=>(yG h).bind fun i=>(zE (zST e a) (J1 i (0:Int),0)).bind fun b=>(yH a.1 [b]).bind fun c=>(rng (a.2+1)).bind fun d=>jf (.inl (c,d))) (jf (.inr a.1))
def zSV(k:zF)(b:jm)(c:jm×Int)(a:jl×Int):Option ((jl×Int)⊕jl):=cond (a.2<b.length) ((ixO b a.2).bind fun d=>(rng (c.2*k.Dim)).bind fun e=>(rng (c.2+1)).bind fun f=>(rng (f*k.Dim)).bind fun g=>(zS d e g).bind fun h=>(yH a.1 h).bind fun i=>(rng (a.2+1)).bind fun j=>jf (.inl (i,j))) (jf (.inr a.1))
def zXq(f:zF)(g:Int)(b:jm)(a:jm×Int):Option ((jm×Int)⊕jm):=cond (a.2<g) ((zE (zSV f b a) ([],0)).bind fun c=>(yH a.1 [c]).bind fun d=>(rng (a.2+1)).bind fun e=>jf (.inl (d,e))) (jf (.inr a.1))
def f_n(g:SPr)(a:zF):Option jm:=(zXa g).bind fun h=>(rng (h*a.Dim)).bind fun i=>(zE (zSU a h i) ([],0)).bind fun c=>(zL1 (zP.mk g a c)).bind fun b=>(zE (zXq a i b) ([],0)).bind fun d=>(rng ((b.length:Int)*a.Dim)).bind fun e=>(zZg a.Prime d e).bind fun f=>jf f
def zSW(c:SPr)(a:jl)(b:Int):Option jl:=(rng (b+1)).bind fun F=>cond (F<a.length) ((ixO a b).bind fun g=>(rng (b+1)).bind fun f=>(ixO a f).bind fun h=>cond (g> h) ((ixO a b).bind fun i=>(rng (i-1)).bind fun G=>(rng (b+1)).bind fun j=>(ixO a j).bind fun k=>(rng (k-1)).bind fun d=>(zS a 0 b).bind fun l=>(rng (d+1)).bind fun m=>(ixO c.zG d).bind fun n=>(rng (G-d)).bind fun o=>(rng (o-1)).bind fun p=>(ixO n p).bind fun q=>(f_C q).bind fun r=>(rng (b+2)).bind fun s=>(zS a s a.length).bind fun t=>(f_t [l,[m],r,t]).bind fun u=>jf u) ((ixO a b).bind fun v=>(rng (v-1)).bind fun e=>(zS a 0 b).bind fun w=>(ixO c.zQ e).bind fun x=>(f_C x).bind fun y=>(ixO c.zA e).bind fun z=>(rng (b+z)).bind fun A=>(zS a A a.length).bind fun C=>(f_t [w,y,C]).bind fun D=>jf D)) ((ixO a b).bind fun g=>(rng (g-1)).bind fun f=>(zS a 0 b).bind fun h=>(ixO c.zQ f).bind fun i=>(f_C i).bind fun H=>(ixO c.zA f).bind fun j=>
 (rng (b+j)).bind fun k=>(zS a k a.length).bind fun d=>(f_t [h,H,d]).bind fun E=>jf E)
def zNO(a:jl)(c:Int)(d:List zJ)(b:SPr):Option (List zJ):=(zSW b a 0).bind fun e=>(zSW b a c).bind fun f=>(yH d [(zJ.mk a e f)]).bind fun g=>jf g
def zNP(a b:Int):Option jl:=(f_k [a] b).bind fun c=>jf c
def zSX(d:SPr)(b:(List zJ)×Int)(c:(List zJ)×Int)(a:(List zJ)×Int):Option (((List zJ)×Int)⊕(List zJ)):=cond (a.2<=d.zA.length) ((zNO [a.2,c.2,b.2] 1 a.1 d).bind fun e=>(rng (a.2+1)).bind fun f=>jf (.inl (e,f))) (jf (.inr a.1))
def zSY(c:SPr)(b:(List zJ)×Int)(a:(List zJ)×Int):Option (((List zJ)×Int)⊕(List zJ)):=cond (a.2<=c.zA.length) ((rng (a.2+1)).bind fun d=>(zE (zSX c b a) (a.1,d)).bind fun e=>(rng (a.2+1)).bind fun f=>jf (.inl (e,f))) (jf (.inr a.1))
def zSZ(b:SPr)(a:(List zJ)×Int):Option (((List zJ)×Int)⊕(List zJ)):=cond (a.2<=b.zA.length) ((rng (a.2+1)).bind fun c=>(zE (zSY b a) (a.1,c)).bind fun d=>(rng (a.2+1)).bind fun e=>jf (.inl (d,e))) (jf (.inr a.1))
def zTa(b:SPr)(c:(List zJ)×Int)(a:(List zJ)×Int):Option (((List zJ)×Int)⊕(List zJ)):=cond (a.2<=b.zA.length) ((rng (a.2-1)).bind fun d=>(ixO b.zA d).bind fun e=>(zNP a.2 e).bind fun f=>(yH f [c.2]).bind fun g=>(rng (a.2-1)).bind fun h=>(ixO b.zA h).bind fun i=>(rng (i-1)).bind fun j=>(zNO g j a.1 b).bind fun k=>(rng (a.2+1)).bind fun l=>jf (.inl (k,l))) (jf (.inr a.1))
def zTb(e:SPr)(a:(List zJ)×Int):Option (((List zJ)×Int)⊕(List zJ)):=cond (a.2<=e.zA.length) ((rng (a.2+1)).bind fun b=>(zE (zTa e a) (a.1,b)).bind fun c=>(rng (a.2+1)).bind fun d=>jf (.inl (c,d))) (jf (.inr a.1))
def zTc(c:SPr)(b:(List zJ)×Int)(a:(List zJ)×Int):Option (((List zJ)×Int)⊕(List zJ)):=cond (a.2<=c.zA.length) ((rng (b.2-1)).bind fun d=>(ixO c.zA d).bind fun e=>(zNP b.2 e).bind fun f=>(yH [a.2] f).bind fun g=>(zNO g 1 a.1 c).bind fun h=>(rng (a.2+1)).bind fun i=>jf (.inl (h,i))) (jf (.inr a.1))
def zTd(e:SPr)(a:(List zJ)×Int):Option (((List zJ)×Int)⊕(List zJ)):=cond (a.2<=e.zA.length) ((rng (a.2+1)).bind fun b=>(zE (zTc e a) (a.1,b)).bind fun c=>(rng (a.2+1)).bind fun d=>jf (.inl (c,d))) (jf (.inr a.1))
def zTe(b:SPr)(a:(List zJ)×Int):Option (((List zJ)×Int)⊕(List zJ)):=cond (a.2<=b.zA.length) ((rng (a.2-1)).bind fun c=>(ixO b.zA c).bind fun d=>(rng (d+1)).bind fun e=>(zNP a.2 e).bind fun f=>(zNO f 1 a.1 b).bind fun g=>(rng (a.2+1)).bind fun h=>jf (.inl (g,h))) (jf (.inr a.1))
def f_e(a:SPr):Option (List zJ):=(zE (zSZ a) ([],1)).bind fun e=>(zE (zTb a) (e,1)).bind fun b=>(zE (zTd a) (b,1)).bind fun c=>(zE (zTe a) (c,1)).bind fun d=>jf d
def zZr(s:yY)(a:jl)(b:Int):Option Int:=(rng (b+1)).bind fun t=>cond (t<a.length) ((ixO a b).bind fun d=>(rng (b+1)).bind fun e=>(ixO a e).bind fun u=>cond (d> u) ((ixO a b).bind fun v=>(rng (v-1)).bind fun w=>(rng (b+1)).bind fun x=>(ixO a x).bind fun y=>(rng (y-1)).bind fun c=>(rng ((s.p.zA.length:Int)-1)).bind fun f=>(rng (c*f)).bind fun g=>(rng ((s.p.zA.length:Int)+g)).bind fun h=>(rng (c-1)).bind fun i=>(rng (c*i)).bind fun j=>(vN j 2).bind fun k=>(rng (h-k)).bind fun l=>(rng (l+w)).bind fun m=>(rng (m-c)).bind fun n=>(rng (n-1)).bind fun o=>jf o) ((ixO a b).bind fun q=>(rng (q-1)).bind fun r=>jf r)) ((ixO a b).bind fun d=>(rng (d-1)).bind fun e=>jf e)
def zXr(i:yY)(j g:Int)(h:zI)(b:(List zI)×Int):Option (((List zI)×Int)⊕(List zI)):=cond (b.2<h.Rows.length) ((ixO h.Rows b.2).bind fun c=>(ixO b.1 g).bind fun a=>(ixO a.Rows b.2).bind fun d=>(f_A d c j i.m.Prime).bind fun e=>(rng (b.2+1)).bind fun f=>jf (.inl (b.1.set g.toNat (zI.mk a.Prime a.xF (a.Rows.set b.2.toNat e)),f))) (jf (.inr b.1))
def zXs(i:yY)(j h:Int)(c:zI)(b:(List zI)×Int):Option (((List zI)×Int)⊕(List zI)):=cond (b.2<c.Rows.length) ((ixO c.Rows b.2).bind fun d=>(ixO b.1 h).bind fun a=>(ixO a.Rows b.2).bind fun e=>(f_A e d j i.m.Prime).bind fun f=>(rng (b.2+1)).bind fun g=>jf (.inl (b.1.set h.toNat (zI.mk a.Prime a.xF (a.Rows.set b.2.toNat f)),g))) (jf (.inr b.1))
def zXt(i:yY)(j h:Int)(c:zI)(b:(List zI)×Int):Option (((List zI)×Int)⊕(List zI)):=cond (b.2<c.Rows.length) ((ixO c.Rows b.2).bind fun d=>(ixO b.1 h).bind fun a=>(ixO a.Rows b.2).bind fun e=>(f_A e d j i.m.Prime).bind fun f=>(rng (b.2+1)).bind fun g=>jf (.inl (b.1.set h.toNat (zI.mk a.Prime a.xF (a.Rows.set b.2.toNat f)),g))) (jf (.inr b.1))
def f_r(a:yY)(b:jl)(c d:Int):Option (jl×yY):=(zZr a b c).bind fun e=>(zSW a.p b c).bind fun f=>(rng (c+1)).bind fun w=>cond (w>=b.length) ((ixO b c).bind fun g=>(rng (g-1)).bind fun h=>(ixO a.p.zA h).bind fun i=>(rng (c+i)).bind fun j=>(zS b j b.length).bind fun k=>(zPB a.m k).bind fun x=>(zE (zXr a d e x) (a.sums,0)).bind fun l=>jf (f,(yY.mk a.p a.m l))) ((ixO b c).bind fun g=>(rng (c+1)).bind fun h=>(ixO b h).bind fun i=>cond (g<=i) ((ixO b c).bind fun j=>(rng (j-1)).bind fun k=>(ixO a.p.zA k).bind fun y=>(rng (c+y)).bind fun n=>(zS b n b.length).bind fun o=>(zPB a.m o).bind fun q=>(zE (zXs a d e q) (a.sums,0)).bind fun r=>jf (f,(yY.mk a.p a.m r))) ((rng (c+2)).bind fun s=>(zS b s b.length).bind fun t=>(zPB a.m t).bind fun u=>(zE (zXt a d e u) (a.sums,0)).bind fun v=>jf (f,(yY.mk a.p a.m v))))
def zPP(f:jl)(g:Int)(a:jl)(b:Int):Option (Int⊕(Unit⊕Bool)):=cond (b<a.length) ((ixO a b).bind fun c=>(ixO f g).bind fun d=>cond (c != d) (jf (.inr (.inr ji))) ((rng (b+1)).bind fun e=>jf (.inl e))) (jf (.inr (.inl ())))
def zPQ(d:jl)(e:Int)(c:jl)(a:Int):Option (Int⊕(Unit⊕Bool)):=cond (a<c.length) ((ixO c a).bind fun f=>(ixO d e).bind fun g=>cond (f != g) (jf (.inr (.inr ji))) ((rng (a+1)).bind fun b=>jf (.inl b))) (jf (.inr (.inl ())))
def f_J(l:SPr)(b:jl)(a:Int):Option Bool:=(rng (a+1)).bind fun m=>cond (m<b.length) ((ixO b a).bind fun g=>(rng (a+1)).bind fun h=>(ixO b h).bind fun e=>cond (g> e) (jf jh) ((ixO b a).bind fun i=>(rng (i-1)).bind fun j=>(ixO l.zA j).bind fun f=>(rng (a+f)).bind fun n=>cond (n> b.length) (jf ji) ((rng (a+f)).bind fun o=>(zS b a o).bind fun k=>(zE (zPP b a k) 0).bind fun c=>match c with|(.inl _c)=>jf jh|(.inr c)=>jf c))) ((ixO b a).bind fun g=>(rng (g-1)).bind fun h=>(ixO l.zA h).bind fun e=>(rng (a+e)).bind fun i=>cond (i> b.length) (jf ji) ((rng (a+e)).bind fun j=>(zS b a j).bind fun f=>(zE (zPQ b a f) 0).bind fun d=>(match d with|(.inl _d)=>jf jh|(.inr d)=>jf d)))
def zNQ(c:SPr)(b:jl)(a:Int):Option (Int⊕(Unit⊕Int)):=cond (a<b.length) ((f_J c b a).bind fun d=>cond d (jf (.inr (.inr a))) ((rng (a+1)).bind fun e=>jf (.inl e))) (jf (.inr (.inl ())))
def zTf(b:SPr)(c:jl):Option Int:=(zE (zNQ b c) 0).bind fun a=>match a with|(.inl _a)=>jf (-1)|(.inr a)=>jf a
def zXu(c:Int)(a:SPr×zF×(List zI)×jl×Int):Option ((SPr×zF×(List zI)×jl×Int)⊕(SPr×zF×(List zI))):=cond (a.2.2.2.2>=0) ((f_r (yY.mk a.1 a.2.1 a.2.2.1) a.2.2.2.1 a.2.2.2.2 c).bind fun b=>(zTf b.2.p b.1).bind fun d=>jf (.inl (b.2.p,b.2.m,b.2.sums,b.1,d))) (jf (.inr (a.1,a.2.1,a.2.2.1)))
def f_L(a:yY)(c:jl)(d:Int):Option yY:=(zTf a.p c).bind fun e=>(zE (zXu d) (a.p,a.m,a.sums,c,e)).bind fun b=>jf (yY.mk b.1 b.2.1 b.2.2)
def zTg(c:zI)(a:jm×Int):Option ((jm×Int)⊕jm):=cond (a.2<c.Rows.length) ((ixO a.1 a.2).bind fun b=>(ixO b a.2).bind fun _=>(rng (a.2+1)).bind fun d=>jf (.inl (a.1.set a.2.toNat (b.set a.2.toNat 0),d))) (jf (.inr a.1))
def zPR(f:zF)(g:Int)(a:(List zI)×Int):Option (((List zI)×Int)⊕(List zI)):=cond (a.2<g) ((f_O f.Prime f.Dim).bind fun b=>(zE (zTg b) (b.Rows,0)).bind fun c=>(yH a.1 [(zI.mk b.Prime b.xF c)]).bind fun d=>(rng (a.2+1)).bind fun e=>jf (.inl (d,e))) (jf (.inr a.1))
def zTh(j:zF)(d:jm×Int)(b:zI)(a:jm×Int):Option ((jm×Int)⊕jm):=cond (a.2<b.Rows.length) ((ixO b.Rows a.2).bind fun e=>(rng (d.2*j.Dim)).bind fun f=>(rng (f+a.2)).bind fun c=>(ixO a.1 c).bind fun g=>(yH g e).bind fun h=>(rng (a.2+1)).bind fun i=>jf (.inl (a.1.set c.toNat h,i))) (jf (.inr a.1))
def zNR(f:zF)(b:yY)(a:jm×Int):Option ((jm×Int)⊕jm):=cond (a.2<b.sums.length) ((ixO b.sums a.2).bind fun c=>(zE (zTh f a c) (a.1,0)).bind fun d=>(rng (a.2+1)).bind fun e=>jf (.inl (d,e))) (jf (.inr a.1))
def yFc(j:zF)(d:jm×Int)(b:zI)(a:jm×Int):Option ((jm×Int)⊕jm):=cond (a.2<b.Rows.length) ((ixO b.Rows a.2).bind fun e=>(rng (d.2*j.Dim)).bind fun f=>(rng (f+a.2)).bind fun c=>(ixO a.1 c).bind fun g=>(yH g e).bind fun h=>(rng (a.2+1)).bind fun i=>jf (.inl (a.1.set c.toNat h,i))) (jf (.inr a.1))
def yC7(f:zF)(b:yY)(a:jm×Int):Option ((jm×Int)⊕jm):=cond (a.2<b.sums.length) ((ixO b.sums a.2).bind fun c=>(zE (yFc f a c) (a.1,0)).bind fun d=>(rng (a.2+1)).bind fun e=>jf (.inl (d,e))) (jf (.inr a.1))
def yFd(j:zF)(d:jm×Int)(b:zI)(a:jm×Int):Option ((jm×Int)⊕jm):=cond (a.2<b.Rows.length) ((ixO b.Rows a.2).bind fun e=>(rng (d.2*j.Dim)).bind fun f=>(rng (f+a.2)).bind fun c=>(ixO a.1 c).bind fun g=>(yH g e).bind fun h=>(rng (a.2+1)).bind fun i=>jf (.inl (a.1.set c.toNat h,i))) (jf (.inr a.1))
def yC8(f:zF)(b:yY)(a:jm×Int):Option ((jm×Int)⊕jm):=cond (a.2<b.sums.length) ((ixO b.sums a.2).bind fun c=>(zE (yFd f a c) (a.1,0)).bind fun d=>(rng (a.2+1)).bind fun e=>jf (.inl (d,e))) (jf (.inr a.1))
def zTi(l:SPr)(d:zF)(D:Int)(C:(List zJ))(a:jm×Int):Option ((jm×Int)⊕jm):=cond (a.2<C.length) ((ixO C a.2).bind fun b=>(zE (zPR d D) ([],0)).bind fun e=>(ixO b.Word 0).bind fun f=>(ixO b.Word 1).bind fun m=>cond (f==m) ((rng ((b.Word.length:Int)-1)).bind fun n=>(ixO b.Word n).bind fun o=>cond (o != f) ((rng ((b.Word.length:Int)-2)).bind fun p=>(f_r (yY.mk l d e) b.Word 0 1).bind fun c=>(f_L c.2 c.1 1).bind fun q=>(f_r q b.Word p (-1)).bind fun g=>(f_L g.2 g.1 (-1)).bind fun r=>(zE (zNR d r) (a.1,0)).bind fun s=>(rng (a.2+1)).bind fun t=>jf (.inl (s,t))) ((f_r (yY.mk l d e) b.Word 0 1).bind fun h=>(f_L h.2 h.1 1).bind fun u=>(f_r u b.Word 1 (-1)).bind fun i=>(f_L i.2 i.1 (-1)).bind fun v=>(zE (yC7 d v) (a.1,0)).bind fun w=>(rng (a.2+1)).bind fun x=>jf (.inl (w,x)))) ((f_r (yY.mk l d e) b.Word 0 1).bind fun j=>(f_L j.2 j.1 1).bind fun y=>(f_r y b.Word 1 (-1)).bind fun k=>(f_L k.2 k.1 (-1)).bind fun c=>
 (zE (yC8 d c) (a.1,0)).bind fun z=>(rng (a.2+1)).bind fun A=>jf (.inl (z,A)))) (jf (.inr a.1))
def f_f(c:SPr)(b:zF):Option jm:=(zXb c).bind fun g=>(rng (g*b.Dim)).bind fun h=>(yG h).bind fun i=>(f_e c).bind fun j=>(zE (zTi c b g j) (J1 i ([]:jl),0)).bind fun a=>cond ((a.length:Int)> 0) ((ixO a 0).bind fun d=>(f_Z b.Prime a (d.length:Int)).bind fun e=>jf e) ((f_Z b.Prime a 0).bind fun f=>jf f)
def yAG(a:SPr)(b:Int):Option (Int⊕(Unit⊕Bool)):=cond (b<a.zA.length) ((ixO a.zA b).bind fun c=>(ixO a.zA 0).bind fun d=>cond (c != d) (jf (.inr (.inr ji))) ((rng (b+1)).bind fun e=>jf (.inl e))) (jf (.inr (.inl ())))
def zZs(b:SPr):Option Bool:=(zS9 b).bind fun c=>cond (!c) (jf ji) (cond ((b.zA.length:Int)==0) (jf ji) ((zE (yAG b) 0).bind fun a=>match a with|(.inl _a)=>jf jh|(.inr a)=>jf a))
def zXv(b:SPr)(a:Int×Int):Option ((Int×Int)⊕Int):=cond (a.2<b.zA.length) ((ixO b.zA a.2).bind fun c=>(rng (a.1*c)).bind fun d=>(rng (a.2+1)).bind fun e=>jf (.inl (d,e))) (jf (.inr a.1))
def yC9(a:SPr):Option Int:=(zE (zXv a) (1,0)).bind fun b=>jf b
def zZt(a:SPr):Option Int:=(zS9 a).bind fun b=>cond (!b) (jf 1) ((zZs a).bind fun c=>cond (!c) (jf 5) ((yC9 a).bind fun d=>cond (d> 81) (jf 3) (jf 0)))
def zL2(b:SPr)(c:Int)(a:(List jm)×Int):Option (((List jm)×Int)⊕(List jm)):=cond (a.2<b.zA.length) ((f_v c).bind fun d=>(yH a.1 [d]).bind fun e=>(rng (a.2+1)).bind fun f=>jf (.inl (e,f))) (jf (.inr a.1))
def f_T(b:SPr)(c a:Int):Option zF:=(zE (zL2 b a) ([],0)).bind fun d=>jf (zF.mk c a d)
def zZu(a:SPr):Option zF:=(ixO a.zA 0).bind fun b=>(f_T a b 1).bind fun c=>jf c
def zGr(c:zF)(d b:jm)(a:jm×Int):Option ((jm×Int)⊕jm):=cond (a.2<b.length) ((ixO b a.2).bind fun e=>(zSG c.Prime d e).bind fun f=>(yH a.1 [f]).bind fun g=>(rng (a.2+1)).bind fun h=>jf (.inl (g,h))) (jf (.inr a.1))
def zXw(b:SPr)(a:zF):Option jm:=(zPO b a).bind fun c=>(f_n b a).bind fun d=>(zE (zGr a c d) ([],0)).bind fun e=>(f_q a.Prime e).bind fun f=>jf f
def zI6(a:SPr):Option jm:=(zZu a).bind fun b=>(zXw a b).bind fun c=>jf c
def yAH(a:SPr)(b:Int):Option (Int⊕(Unit⊕Bool)):=cond (b<a.zA.length) ((ixO a.zA b).bind fun c=>(ixO a.zA 0).bind fun d=>cond (c != d) (jf (.inr (.inr ji))) ((rng (b+1)).bind fun e=>jf (.inl e))) (jf (.inr (.inl ())))
def zZv(b:SPr):Option Bool:=(zSD b).bind fun c=>cond (!c) (jf ji) (cond ((b.zA.length:Int)==0) (jf ji) ((zE (yAH b) 0).bind fun a=>match a with|(.inl _a)=>jf jh|(.inr a)=>jf a))
def zXx(b:SPr)(a:Int×Int):Option ((Int×Int)⊕Int):=cond (a.2<b.zA.length) ((ixO b.zA a.2).bind fun c=>(rng (a.1*c)).bind fun d=>(rng (a.2+1)).bind fun e=>jf (.inl (d,e))) (jf (.inr a.1))
def yCA(a:SPr):Option Int:=(zE (zXx a) (1,0)).bind fun b=>jf b
def zZw(a:SPr):Option Int:=(zSD a).bind fun b=>cond (!b) (jf 1) ((zZv a).bind fun c=>cond (!c) (jf 5) ((yCA a).bind fun d=>cond (d> 81) (jf 3) (jf 0)))
def zGs(b:SPr)(c d:Int)(a:(List jm)×Int):Option (((List jm)×Int)⊕(List jm)):=cond (a.2<b.zA.length) ((f_O c d).bind fun e=>(yH a.1 [e.Rows]).bind fun f=>(rng (a.2+1)).bind fun g=>jf (.inl (f,g))) (jf (.inr a.1))
def zPS(c:SPr)(a b:Int):Option zF:=(zE (zGs c a b) ([],0)).bind fun d=>jf (zF.mk a b d)
def zXy(c:SPr)(d:zF)(b:jm)(a:jm×Int):Option ((jm×Int)⊕jm):=cond (a.2<b.length) ((ixO b a.2).bind fun e=>(zXp c d e).bind fun f=>(f_t f).bind fun g=>(yH a.1 [g]).bind fun h=>(rng (a.2+1)).bind fun i=>jf (.inl (h,i))) (jf (.inr a.1))
def zZx(a:SPr):Option jm:=(ixO a.zA 0).bind fun d=>(zPS a d 1).bind fun b=>(f_f a b).bind fun e=>(zE (zXy a b e) ([],0)).bind fun f=>(f_i b.Prime f).bind fun c=>jf c
def zNS(c:SPr)(d:zF)(b:jm)(a:jm×Int):Option ((jm×Int)⊕jm):=cond (a.2<b.length) ((ixO b a.2).bind fun e=>(zXp c d e).bind fun f=>(f_t f).bind fun g=>(yH a.1 [g]).bind fun h=>(rng (a.2+1)).bind fun i=>jf (.inl (h,i))) (jf (.inr a.1))
def zXz(b:jm)(c:jm×Int)(a:jl×Int):Option ((jl×Int)⊕jl):=cond (a.2<b.length) ((ixO b a.2).bind fun d=>(ixO d c.2).bind fun e=>(yH a.1 [e]).bind fun f=>(rng (a.2+1)).bind fun g=>jf (.inl (f,g))) (jf (.inr a.1))
def zX0(b:SPr)(c:jm)(a:jm×Int):Option ((jm×Int)⊕jm):=(zXa b).bind fun d=>cond (a.2<d) ((zE (zXz c a) ([],0)).bind fun e=>(yH a.1 [e]).bind fun f=>(rng (a.2+1)).bind fun g=>jf (.inl (f,g))) (jf (.inr a.1))
def f_U(a:SPr)(b:jm):Option jm:=(zE (zX0 a b) ([],0)).bind fun c=>jf c
def zX1(b:jm)(c:jm×Int)(a:jl×Int):Option ((jl×Int)⊕jl):=cond (a.2<b.length) ((ixO b a.2).bind fun d=>(ixO d c.2).bind fun e=>(yH a.1 [e]).bind fun f=>(rng (a.2+1)).bind fun g=>jf (.inl (f,g))) (jf (.inr a.1))
def zTj(b:jm)(c:Int)(a:jm×Int):Option ((jm×Int)⊕jm):=cond (a.2<c) ((zE (zX1 b a) ([],0)).bind fun d=>(yH a.1 [d]).bind fun e=>(rng (a.2+1)).bind fun f=>jf (.inl (e,f))) (jf (.inr a.1))
def f_V(a:SPr)(e:jm):Option SPr:=(zXb a).bind fun f=>(zE (zTj e f) ([],0)).bind fun g=>(ixO a.zA 0).bind fun b=>(zPS a b (e.length:Int)).bind fun c=>(f_m a c g).bind fun d=>jf d
structure xD where
 p:SPr
 base:jm
abbrev zI7(x:xD):T:=.agg [(Pt yW) x.p,(L 1 (Nz 1 I)) x.base]
instance:Enc zI7:=.of fun _=>zMe ⟨Enc.t (f:=(Pt yW)) inferInstance _,Enc.t (f:=(L 1 (Nz 1 I))) inferInstance _,trivial⟩
def zI8(a:SPr)(c:jl)(b:Int):Option jl:=cond (b<0) ((zSF a c).bind fun d=>(rng (0-b)).bind fun e=>(zNz a 0 d e).bind fun f=>jf f) ((zNz a 0 c b).bind fun g=>jf g)
def zIX(a:SPr)(b c:jl):Option jl:=(f_a a 0 b c).bind fun d=>jf d
def zNT(d:SPr)(b:jm)(a:jl×Int):Option ((jl×Int)⊕(jl⊕(Int×jl))):=cond (a.2<b.length) ((ixO a.1 a.2).bind fun e=>cond (e==0) ((rng (a.2+1)).bind fun f=>jf (.inl (a.1,f))) ((ixO b a.2).bind fun g=>cond ((g.length:Int)==0) (jf (.inr (.inr (a.2,a.1)))) ((ixO b a.2).bind fun h=>(ixO a.1 a.2).bind fun i=>(rng (0-i)).bind fun j=>(zI8 d h j).bind fun k=>(zIX d a.1 k).bind fun l=>(rng (a.2+1)).bind fun c=>jf (.inl (l,c))))) (jf (.inr (.inl a.1)))
def zZy(c:SPr)(b:jm)(d:jl):Option (Int×jl):=(f_z d).bind fun e=>(zE (zNT c b) (e,0)).bind fun a=>match a with|(.inl a)=>jf ((b.length:Int),a)|(.inr a)=>jf a
def zPT(a:SPr)(b c:jl):Option jl:=(zIX a c b).bind fun d=>(zSF a d).bind fun e=>(zIX a b c).bind fun f=>(zIX a e f).bind fun g=>jf g
def zX2(i:SPr)(k:jm)(j:jm×Int)(a:jl×Int):Option ((jl×Int)⊕jl):=cond (a.2<k.length) ((ixO j.1 a.2).bind fun l=>cond ((l.length:Int)> 0) ((ixO a.1 a.2).bind fun m=>cond (m != 0) ((ixO j.1 a.2).bind fun n=>(ixO a.1 a.2).bind fun b=>(rng (0-b)).bind fun c=>(zI8 i n c).bind fun d=>(zIX i a.1 d).bind fun e=>(rng (a.2+1)).bind fun f=>jf (.inl (e,f))) ((rng (a.2+1)).bind fun g=>jf (.inl (a.1,g)))) ((rng (a.2+1)).bind fun h=>jf (.inl (a.1,h)))) (jf (.inr a.1))
def zZz(e:SPr)(b:jm)(a:jm×Int):Option ((jm×Int)⊕jm):=cond (a.2>=0) ((ixO b a.2).bind fun f=>cond ((f.length:Int)==0) ((rng (a.2-1)).bind fun g=>jf (.inl (a.1,g))) ((ixO b a.2).bind fun h=>(rng (a.2+1)).bind fun i=>(zE (zX2 e b a) (h,i)).bind fun c=>(ixO a.1 a.2).bind fun _=>(rng (a.2-1)).bind fun d=>jf (.inl (a.1.set a.2.toNat c,d)))) (jf (.inr a.1))
def zTk(b:jm)(a:jm×Int):Option ((jm×Int)⊕jm):=cond (a.2<b.length) ((ixO b a.2).bind fun c=>cond ((c.length:Int)> 0) ((ixO b a.2).bind fun d=>(yH a.1 [d]).bind fun e=>(rng (a.2+1)).bind fun f=>jf (.inl (e,f))) ((rng (a.2+1)).bind fun g=>jf (.inl (a.1,g)))) (jf (.inr a.1))
def f_F(d:SPr)(a:jm):Option jm:=(yG (a.length:Int)).bind fun e=>(rng ((a.length:Int)-1)).bind fun f=>(zE (zZz d a) (J1 e ([]:jl),f)).bind fun b=>(zE (zTk b) ([],0)).bind fun c=>jf c
def zTl(i:SPr)(k:jm×jm)(j:Int×jl)(b:jl)(a:jm×Int):Option ((jm×Int)⊕jm):=cond (a.2<i.zA.length) (cond (a.2 != j.1) ((ixO (k.1.set j.1.toNat b) a.2).bind fun c=>cond ((c.length:Int)> 0) ((zPT i b c).bind fun d=>(yH a.1 [d]).bind fun e=>(rng (a.2+1)).bind fun f=>jf (.inl (e,f))) ((rng (a.2+1)).bind fun g=>jf (.inl (a.1,g)))) ((rng (a.2+1)).bind fun h=>jf (.inl (a.1,h)))) (jf (.inr a.1))
def zTm(d:SPr)(a:jm×jm):Option ((jm×jm)⊕jm):=cond ((a.2.length:Int)> 0) ((rng ((a.2.length:Int)-1)).bind fun i=>(ixO a.2 i).bind fun l=>(zS a.2 0 i).bind fun j=>(zZy d a.1 l).bind fun b=>cond (b.1==d.zA.length) (jf (.inl (a.1,j))) ((ixO b.2 b.1).bind fun m=>(ixO d.zA b.1).bind fun k=>(zWZ m k).bind fun n=>(zI8 d b.2 n).bind fun c=>(ixO a.1 b.1).bind fun _=>(yH j [b.2]).bind fun e=>(zI8 d c k).bind fun f=>(yH e [f]).bind fun g=>(zE (zTl d a b c) (g,0)).bind fun h=>jf (.inl (a.1.set b.1.toNat c,h)))) (jf (.inr a.1))
def f_H(a:SPr)(d:jm):Option jm:=(yG (a.zA.length:Int)).bind fun e=>(zPM d).bind fun f=>(zE (zTm a) (J1 e ([]:jl),f)).bind fun b=>(f_F a b).bind fun c=>jf c
def zX3(a:SPr):Option xD:=(yG (a.zA.length:Int)).bind fun b=>jf (xD.mk a (J1 b ([]:jl)))
def zX4(a:jm):Option jm:=(yH [] a).bind fun b=>jf b
def zNU(b:jl)(a:Int):Option (Int⊕(Unit⊕Int)):=cond (a<b.length) ((ixO b a).bind fun c=>cond (c != 0) (jf (.inr (.inr a))) ((rng (a+1)).bind fun d=>jf (.inl d))) (jf (.inr (.inl ())))
def zPU(b:jl):Option Int:=(zE (zNU b) 0).bind fun a=>match a with|(.inl _a)=>jf (b.length:Int)|(.inr a)=>jf a
def zR9(b:xD)(a:jl×Int):Option ((jl×Int)⊕jl):=cond (a.2<a.1.length) ((ixO b.base a.2).bind fun l=>cond (!l.isEmpty) ((ixO b.base a.2).bind fun m=>(ixO b.p.zA a.2).bind fun n=>(ixO a.1 a.2).bind fun o=>(rng (n-o)).bind fun q=>(f_Y b.p m q).bind fun r=>(zLx b.p r a.1).bind fun c=>(ixO c a.2).bind fun s=>cond (s != 0) ((ixO b.base a.2).bind fun e=>(ixO b.p.zA a.2).bind fun f=>(ixO c a.2).bind fun g=>(rng (f-g)).bind fun h=>(f_Y b.p e h).bind fun i=>(zLx b.p i c).bind fun d=>(zPU d).bind fun j=>jf (.inl (d,j))) ((zPU c).bind fun k=>jf (.inl (c,k)))) (jf (.inr a.1))) (jf (.inr a.1))
def zZ0(b:xD)(c:jl):Option (jl×xD):=(zPU c).bind fun d=>(zE (zR9 b) (c,d)).bind fun a=>jf (a,b)
def zNV(a:SPr)(b c:jl):Option jl:=(f_N a b).bind fun d=>(zIR a b c).bind fun e=>(zLx a d e).bind fun f=>jf f
def zTn(c:jl×xD)(d:jl)(a:jm×Int):Option ((jm×Int)⊕jm):=cond (a.2<c.2.base.length) ((ixO c.2.base a.2).bind fun b=>cond (!b.isEmpty) ((zNV c.2.p b d).bind fun e=>(yH a.1 [e]).bind fun f=>(rng (a.2+1)).bind fun g=>jf (.inl (f,g))) ((rng (a.2+1)).bind fun h=>jf (.inl (a.1,h)))) (jf (.inr a.1))
def zTo(b:SPr×jm×Bool×jm):Option ((SPr×jm×Bool×jm)⊕(SPr×jm×Bool)):=cond ((b.2.2.2.length:Int)> 0) ((ixO b.2.2.2 0).bind fun j=>(zZ0 (xD.mk b.1 b.2.1) j).bind fun a=>(zS b.2.2.2 1 b.2.2.2.length).bind fun i=>(zPU a.1).bind fun d=>cond (d==a.1.length) (jf (.inl (a.2.p,a.2.base,b.2.2.1,i))) ((ixO a.1 d).bind fun k=>(ixO a.2.p.zA d).bind fun l=>(zN9 k l).bind fun m=>(yH i [a.1]).bind fun n=>(f_Y a.2.p a.1 m.1).bind fun c=>(ixO a.2.p.zA d).bind fun e=>(f_Y a.2.p c e).bind fun f=>(yH n [f]).bind fun g=>(zE (zTn a c) (g,0)).bind fun h=>(ixO a.2.base d).bind fun _=>(neO c).bind fun _=>jf (.inl (a.2.p,a.2.base.set d.toNat c,jh,h)))) (jf (.inr (b.1,b.2.1,b.2.2.1)))
def f_E(b:xD)(c:jm):Option (Bool×xD):=(zX4 c).bind fun d=>(zE zTo (b.p,b.base,ji,d)).bind fun a=>jf (a.2.2,(xD.mk a.1 a.2.1))
def zTp(b:SPr)(c:jm)(d:jl×Int)(e:Int)(a:jl):Option (jl⊕jl):=(ixO a e).bind fun f=>cond (f != 0) ((ixO c d.2).bind fun g=>(f_c b a g).bind fun h=>jf (.inl h)) (jf (.inr a))
def zPV(c:SPr)(d:jm)(b:jl)(a:jl×Int):Option ((jl×Int)⊕jl):=cond (a.2<b.length) ((ixO b a.2).bind fun e=>(zE (zTp c d a e) a.1).bind fun f=>(rng (a.2+1)).bind fun g=>jf (.inl (f,g))) (jf (.inr a.1))
def f_M(b:SPr)(a:jm)(c:jl):Option jl:=(f_B c).bind fun d=>(f_Q a).bind fun e=>(zE (zPV b a e) (d,0)).bind fun f=>jf f
def zRA(b:xD)(a:jm×Int):Option ((jm×Int)⊕jm):=cond (a.2>=0) ((ixO b.base a.2).bind fun c=>cond (!c.isEmpty) ((ixO b.base a.2).bind fun d=>(f_M b.p a.1 d).bind fun e=>(yH [e] a.1).bind fun f=>(rng (a.2-1)).bind fun g=>jf (.inl (f,g))) ((rng (a.2-1)).bind fun h=>jf (.inl (a.1,h)))) (jf (.inr a.1))
def zTq(a:xD):Option jm:=(rng ((a.base.length:Int)-1)).bind fun b=>(zE (zRA a) ([],b)).bind fun c=>jf c
def zX5(a:SPr)(b:jm):Option jm:=(zX3 a).bind fun c=>(f_E c b).bind fun d=>(zTq d.2).bind fun e=>jf e
def zZ1(a:SPr):Option (jm×Int):=(zZt a).bind fun b=>cond (b != 0) (jf ([],b)) ((zI6 a).bind fun c=>cond ((c.length:Int)> 8) (jf ([],3)) (jf (c,0)))
def zX6(a:SPr):Option jm:=(f_v (a.zA.length:Int)).bind fun b=>jf b
def zX7(a:SPr)(c b:jl):Option jl:=(zSF a b).bind fun d=>(zIX a c b).bind fun e=>(zIX a d e).bind fun f=>jf f
def zX8(d:SPr)(e b:jm)(c:jm×Int)(a:jm×Int):Option ((jm×Int)⊕jm):=cond (a.2<b.length) ((ixO b a.2).bind fun f=>(ixO e c.2).bind fun g=>(zX7 d f g).bind fun h=>(yH a.1 [h]).bind fun i=>(rng (a.2+1)).bind fun j=>jf (.inl (i,j))) (jf (.inr a.1))
def zTr(d:SPr)(c b:jm)(a:jm×Int):Option ((jm×Int)⊕jm):=cond (a.2<c.length) ((zE (zX8 d c b a) (a.1,0)).bind fun e=>(rng (a.2+1)).bind fun f=>jf (.inl (e,f))) (jf (.inr a.1))
def zZ2(c:SPr)(d a:jm):Option (jm⊕jm):=(zPM a).bind fun e=>(zE (zTr c d a) (e,0)).bind fun f=>(f_H c f).bind fun b=>cond ((b.length:Int)==a.length) (jf (.inr b)) (jf (.inl b))
def f_G(b:SPr)(c d:jm):Option jm:=(zE (zZ2 b d) c).bind fun a=>jf a
def zX9(c:SPr)(d b:jm)(e:jm×Int)(a:jm×Int):Option ((jm×Int)⊕jm):=cond (a.2<b.length) ((ixO d e.2).bind fun f=>(ixO b a.2).bind fun g=>(zPT c f g).bind fun h=>(yH a.1 [h]).bind fun i=>(rng (a.2+1)).bind fun j=>jf (.inl (i,j))) (jf (.inr a.1))
def zTs(c:SPr)(b d:jm)(a:jm×Int):Option ((jm×Int)⊕jm):=cond (a.2<b.length) ((zE (zX9 c b d a) (a.1,0)).bind fun e=>(rng (a.2+1)).bind fun f=>jf (.inl (e,f))) (jf (.inr a.1))
def f_X(a:SPr)(e f:jm):Option jm:=(zE (zTs a e f) ([],0)).bind fun g=>(f_H a g).bind fun h=>(zPM e).bind fun b=>(yH b f).bind fun c=>(f_G a h c).bind fun d=>jf d
def zKa(c:SPr)(b:jm)(d:Int)(a:jm×Int):Option ((jm×Int)⊕jm):=cond (a.2<b.length) ((ixO b a.2).bind fun e=>(zI8 c e d).bind fun f=>(yH a.1 [f]).bind fun g=>(rng (a.2+1)).bind fun h=>jf (.inl (g,h))) (jf (.inr a.1))
def zXA(a:SPr)(b:jm)(c:Int):Option jm:=(zX6 a).bind fun d=>(f_X a b d).bind fun e=>(zE (zKa a b c) (e,0)).bind fun f=>(f_H a f).bind fun g=>jf g
def zI9(d:SPr)(e:Int)(a:(List jm)):Option ((List jm)⊕(List jm)):=(rng ((a.length:Int)-1)).bind fun f=>(ixO a f).bind fun b=>(zXA d b e).bind fun c=>cond ((c.length:Int)==b.length) (jf (.inr a)) ((yH a [c]).bind fun g=>jf (.inl g))
def zPW(a:SPr)(b:Int):Option (List jm):=(zX6 a).bind fun c=>(zE (zI9 a b) [c]).bind fun d=>jf d
def zXB(d:SPr)(e:Int)(f:zF)(g:jm)(h:zC)(i:jl)(a:jl×jl×Int):Option ((jl×jl×Int)⊕(jl×jl)):=cond (a.2.2<e) ((f_b (zP.mk d f g) 0 (zC.mk a.1 a.2.1) (zC.mk i h.v)).bind fun c=>(rng (a.2.2+1)).bind fun b=>jf (.inl (c.x,c.v,b))) (jf (.inr (a.1,a.2.1)))
def zXC(b:SPr)(e:zF)(f:jm)(d:zC)(l:jl)(a:jm×Int):Option ((jm×Int)⊕jm):=cond (a.2<b.zA.length) ((zWo (b.zA.length:Int) a.2).bind fun c=>(f_b (zP.mk b e f) 0 (zC.mk l d.v) (zC.mk c d.v)).bind fun g=>(f_b (zP.mk b e f) 0 (zC.mk c d.v) (zC.mk l d.v)).bind fun h=>(zI5 (zP.mk b e f) g h).bind fun i=>(yH a.1 [i]).bind fun j=>(rng (a.2+1)).bind fun k=>jf (.inl (j,k))) (jf (.inr a.1))
def zXD(g:SPr)(l:Int)(h:jm)(i:zF)(j:jm)(b:zC)(a:jm×Int):Option ((jm×Int)⊕jm):=cond (a.2<h.length) ((ixO h a.2).bind fun k=>(zE (zXB g l i j b k) (b.x,b.v,0)).bind fun c=>(yH a.1 [c.2]).bind fun d=>(zE (zXC g i j b k) (d,0)).bind fun e=>(rng (a.2+1)).bind fun f=>jf (.inl (e,f))) (jf (.inr a.1))
def f_y(a:SPr)(e:jm):Option jm:=(ixO a.zA 0).bind fun b=>(zPW a b).bind fun f=>(rng ((f.length:Int)-2)).bind fun i=>(ixO f i).bind fun j=>(f_T a b (e.length:Int)).bind fun g=>(f_U a e).bind fun h=>(zI4 (zP.mk a g h)).bind fun k=>(zE (zXD a b j g h k) ([],0)).bind fun c=>(f_q b c).bind fun d=>jf d
def zZ3(a:SPr):Option (jm×Int):=(zZw a).bind fun b=>cond (b != 0) (jf ([],b)) ((zZx a).bind fun c=>cond ((c.length:Int)> 8) (jf ([],3)) (jf (c,0)))
def zNW(b:SPr)(a:jm×Int):Option ((jm×Int)⊕jm):=cond (a.2<b.zA.length) ((zIS (b.zA.length:Int) a.2).bind fun c=>(yH a.1 [c]).bind fun d=>(rng (a.2+1)).bind fun e=>jf (.inl (d,e))) (jf (.inr a.1))
def yCB(a:SPr):Option jm:=(zE (zNW a) ([],0)).bind fun b=>jf b
def zXE(a:SPr):Option jm:=(yCB a).bind fun b=>jf b
def zXF(a:Int):Option jm:=cond (a<0) (jg) ((rng (0-0)).bind fun c=>(rng (a-c)).bind fun b=>cond (b> 0) ((wK [] b ([]:jl)).bind fun d=>(zS d 0 0).bind fun e=>jf e) (jf []))
def zNX(b:List jm)(a:Int×Int):Option ((Int×Int)⊕Int):=cond (a.2<b.length) ((ixO b a.2).bind fun d=>(rng (a.1+d.length)).bind fun c=>cond (c<0) (jg) ((rng (a.2+1)).bind fun e=>jf (.inl (c,e)))) (jf (.inr a.1))
def zNY(b:List jm)(a:jm×Int):Option ((jm×Int)⊕jm):=cond (a.2<b.length) ((ixO b a.2).bind fun c=>(yH a.1 c).bind fun d=>(rng (a.2+1)).bind fun e=>jf (.inl (d,e))) (jf (.inr a.1))
def zZ4(a:List jm):Option jm:=(zE (zNX a) (0,0)).bind fun b=>(zXF b).bind fun c=>(zE (zNY a) (c,0)).bind fun d=>jf d
def zNZ(c:SPr)(b:jm)(d:jl)(a:jm×Int):Option ((jm×Int)⊕jm):=cond (a.2<b.length) ((ixO b a.2).bind fun e=>(zIR c e d).bind fun f=>(yH a.1 [f]).bind fun g=>(rng (a.2+1)).bind fun h=>jf (.inl (g,h))) (jf (.inr a.1))
def zZ5(a:SPr)(b:jm)(c:jl):Option jm:=(zE (zNZ a b c) ([],0)).bind fun d=>jf d
def zKb(d:SPr)(c e:jm)(a:SPr×jm×Bool×Int):Option ((SPr×jm×Bool×Int)⊕(SPr×jm×Bool)):=cond (a.2.2.2<c.length) ((ixO c a.2.2.2).bind fun f=>(zZ5 d e f).bind fun g=>(f_E (xD.mk a.1 a.2.1) g).bind fun b=>cond b.1 ((rng (a.2.2.2+1)).bind fun h=>jf (.inl (b.2.p,b.2.base,jh,h))) ((rng (a.2.2.2+1)).bind fun i=>jf (.inl (b.2.p,b.2.base,a.2.2.1,i)))) (jf (.inr (a.1,a.2.1,a.2.2.1)))
def zRB(c:SPr)(d:jm)(a:SPr×jm×Bool):Option ((SPr×jm×Bool)⊕(SPr×jm)):=cond a.2.2 ((zTq (xD.mk a.1 a.2.1)).bind fun e=>(zE (zKb c d e) (a.1,a.2.1,ji,0)).bind fun b=>jf (.inl (b.1,b.2.1,b.2.2))) (jf (.inr (a.1,a.2.1)))
def zZ6(c:SPr)(e f:jm):Option jm:=(zX3 c).bind fun g=>(f_E g e).bind fun d=>(zE (zRB c f) (d.2.p,d.2.base,jh)).bind fun a=>(zTq (xD.mk a.1 a.2)).bind fun b=>jf b
def zXG(c:SPr)(b:jm)(d:jl)(a:jm×Int):Option ((jm×Int)⊕jm):=cond (a.2<b.length) ((ixO b a.2).bind fun e=>(zNV c d e).bind fun f=>(yH a.1 [f]).bind fun g=>(rng (a.2+1)).bind fun h=>jf (.inl (g,h))) (jf (.inr a.1))
def zTt(c:SPr)(b d:jm)(a:jm×Int):Option ((jm×Int)⊕jm):=cond (a.2<b.length) ((ixO b a.2).bind fun e=>(zE (zXG c d e) (a.1,0)).bind fun f=>(rng (a.2+1)).bind fun g=>jf (.inl (f,g))) (jf (.inr a.1))
def f_W(b:SPr)(c d:jm):Option jm:=(zE (zTt b c d) ([],0)).bind fun e=>(zZ4 [c,d]).bind fun f=>(zZ6 b e f).bind fun a=>jf a
def zKc(b:jm)(c:SPr)(d:Int)(a:jm×Int):Option ((jm×Int)⊕jm):=cond (a.2<b.length) ((ixO b a.2).bind fun e=>(f_Y c e d).bind fun f=>(yH a.1 [f]).bind fun g=>(rng (a.2+1)).bind fun h=>jf (.inl (g,h))) (jf (.inr a.1))
def zXH(b:jm)(a:SPr)(c:Int):Option jm:=(zXE a).bind fun d=>(f_W a b d).bind fun e=>(zE (zKc b a c) (e,0)).bind fun f=>(zX5 a f).bind fun g=>jf g
def zRC(b:SPr×Int)(a:(List jm)):Option ((List jm)⊕(List jm)):=(rng ((a.length:Int)-1)).bind fun d=>(ixO a d).bind fun e=>(zXH e b.1 b.2).bind fun c=>(rng ((a.length:Int)-1)).bind fun f=>(ixO a f).bind fun g=>(zWO c g).bind fun h=>cond h (jf (.inr a)) ((yH a [c]).bind fun i=>jf (.inl i))
def zZ7(a:jm)(b:SPr×Int):Option (List jm):=(zE (zRC b) [a]).bind fun c=>jf c
def zOa(a:SPr)(b:Int):Option (List jm):=(zXE a).bind fun c=>(zZ7 c (a,b)).bind fun d=>jf d
def zKd(h:SPr)(f:jm)(a:jm×Int):Option ((jm×Int)⊕jm):=cond (a.2<f.length) ((ixO f a.2).bind fun g=>(zS g (h.zA.length:Int) g.length).bind fun b=>(f_B b).bind fun c=>(yH a.1 [c]).bind fun d=>(rng (a.2+1)).bind fun e=>jf (.inl (d,e))) (jf (.inr a.1))
def zZ8(a:SPr)(c:jm):Option zI:=(f_V a c).bind fun d=>(ixO a.zA 0).bind fun e=>(zOa a e).bind fun f=>(rng ((f.length:Int)-1)).bind fun g=>(ixO a.zA 0).bind fun h=>(ixO a.zA 0).bind fun i=>(zOa d i).bind fun j=>(ixO j g).bind fun k=>(zE (zKd a k) ([],0)).bind fun b=>jf (zI.mk h (c.length:Int) b)
def yCC(b:SPr)(c:zI):Option (jm×Int):=(zS9 b).bind fun d=>cond (!d) (jf ([],1)) ((zZl c).bind fun e=>cond (!e) (jf ([],1)) ((zZ1 b).bind fun a=>cond (a.2 != 0) (jf ([],a.2)) ((ixO b.zA 0).bind fun f=>cond (c.Prime != f) (jf ([],2)) (cond (c.xF != a.1.length) (jf ([],2)) (jf (a.1,0))))))
def yCD(c:Int)(a d:jm)(b:Int):Option Bool:=(zPM a).bind fun e=>(yH e d).bind fun f=>cond ((a.length:Int)<b) ((f_q c f).bind fun g=>jf ((g.length:Int)==b)) (jf ji)
def zTu(c:SPr)(b:zI):Option (Bool×Int):=(yCC c b).bind fun a=>cond (a.2 != 0) (jf (ji,a.2)) ((f_y c a.1).bind fun d=>(yCD b.Prime b.Rows d (a.1.length:Int)).bind fun e=>jf (e,0))
def yCE(a b:zI):Option zI:=(zWW a.Rows).bind fun c=>(yH c b.Rows).bind fun d=>(zPN a.Prime a.xF d).bind fun e=>jf e
def yCF(b a:zI):Option Bool:=cond ((a.Rows.length:Int)<a.xF) ((yCE b a).bind fun c=>jf ((c.Rows.length:Int)==a.xF)) (jf ji)
def zXI(a:SPr)(b:zI):Option (Bool×Int):=(zSD a).bind fun d=>cond (!d) (jf (ji,1)) ((zZm b).bind fun e=>cond (!e) (jf (ji,1)) ((zZ3 a).bind fun c=>cond (c.2 != 0) (jf (ji,c.2)) ((ixO a.zA 0).bind fun f=>cond (b.Prime != f) (jf (ji,2)) (cond (b.xF != c.1.length) (jf (ji,2)) ((zZ8 a c.1).bind fun g=>(yCF g b).bind fun h=>jf (h,0))))))
def zZ9(a:SPr)(b:zI):Option Bool:=(zYR a 1048576).bind fun f=>cond (f<0) (jf jh) ((zZj b f).bind fun k=>cond (k<0) (jf jh) ((zS8 a).bind fun l=>(zSP b).bind fun m=>(zTu l m).bind fun g=>(zS8 a).bind fun h=>(zSP b).bind fun i=>(zXI h i).bind fun j=>cond (j.1 != g.1) (jf ji) (cond (j.2 != g.2) (jf ji) ((zS8 a).bind fun n=>(zZc h n).bind fun c=>cond (!c) (jf ji) ((zSP b).bind fun d=>(zZo i d).bind fun e=>cond (!e) (jf ji) (jf jh))))))
end Go.Wk
