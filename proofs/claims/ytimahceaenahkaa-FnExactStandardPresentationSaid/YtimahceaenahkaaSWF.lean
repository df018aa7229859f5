/- x -/
import Derived.Test.YtimahceaenahkaaSAbC
open List renaming replicate→J1
open Option renaming some→df,none→dg
open Bool renaming true→dh,false→di
noncomputable section
namespace Go.Wk
open Go Go.Ab
abbrev dn:=List Int
abbrev dp:=List dn
structure SPr where
 zA:dn
 zV:dp
 zB:List dp
abbrev wH(x:SPr):T:=.agg [(L 1 I) x.zA,(L 1 (L 1 I)) x.zV,(L 1 (L 1 (L 1 I))) x.zB]
instance:Enc wH:=.of fun _=>zMp ⟨Enc.t (f:=(L 1 I)) inferInstance _,Enc.t (f:=(L 1 (L 1 I))) inferInstance _,Enc.t (f:=(L 1 (L 1 (L 1 I)))) inferInstance _,trivial⟩
structure yD where
 Kind:Int
 zNR:Int
 zNS:Int
 zLS:Int
abbrev zCB(x:yD):T:=.agg [I x.Kind,I x.zNR,I x.zNS,I x.zLS]
instance:Enc zCB:=.of fun _=>zMp ⟨Enc.t (f:=I) inferInstance _,Enc.t (f:=I) inferInstance _,Enc.t (f:=I) inferInstance _,Enc.t (f:=I) inferInstance _,trivial⟩
def zKX(b:dn)(c:Int):Option Int:=(rng (c-b.length)).bind fun a=>cond (a<0) (df (-1)) (df a)
def zNP(b:dp)(a:Int×Int):Option ((Int×Int)⊕(Int⊕Int)):=cond (a.2<b.length) ((ixO b a.2).bind fun d=>(zKX d a.1).bind fun c=>cond (c<0) (df (.inr (.inr (-1)))) ((rng (a.2+1)).bind fun e=>df (.inl (c,e)))) (df (.inr (.inl a.1)))
def zMO(b:dp)(d:Int):Option Int:=(rng (d-b.length)).bind fun c=>cond (c<0) (df (-1)) ((zC (zNP b) (c,0)).bind fun a=>match a with|(.inl a)=>df a|(.inr a)=>df a)
def zNQ(b:List dp)(a:Int×Int):Option ((Int×Int)⊕(Int⊕Int)):=cond (a.2<b.length) ((ixO b a.2).bind fun d=>(zMO d a.1).bind fun c=>cond (c<0) (df (.inr (.inr (-1)))) ((rng (a.2+1)).bind fun e=>df (.inl (c,e)))) (df (.inr (.inl a.1)))
def zOM(b:List dp)(d:Int):Option Int:=(rng (d-b.length)).bind fun c=>cond (c<0) (df (-1)) ((zC (zNQ b) (c,0)).bind fun a=>match a with|(.inl a)=>df a|(.inr a)=>df a)
def zMP(a:SPr)(e:Int):Option Int:=(zKX a.zA e).bind fun b=>cond (b<0) (df (-1)) ((zMO a.zV b).bind fun c=>cond (c<0) (df (-1)) ((zOM a.zB c).bind fun d=>cond (d<0) (df (-1)) (df d)))
def zON(b:dn)(a:dn×Int):Option ((dn×Int)⊕dn):=cond (a.2<b.length) ((ixO b a.2).bind fun c=>(ixO a.1 a.2).bind fun _=>(rng (a.2+1)).bind fun d=>df (.inl (a.1.set a.2.toNat c,d))) (df (.inr a.1))
def f_L(a:dn):Option dn:=(yF (a.length:Int)).bind fun b=>(zC (zON a) (J1 b (0:Int),0)).bind fun c=>df c
def zOO(b:dp)(a:dp×Int):Option ((dp×Int)⊕dp):=cond (a.2<b.length) ((ixO b a.2).bind fun c=>(f_L c).bind fun d=>(ixO a.1 a.2).bind fun _=>(rng (a.2+1)).bind fun e=>df (.inl (a.1.set a.2.toNat d,e))) (df (.inr a.1))
def f_M(a:dp):Option dp:=(yF (a.length:Int)).bind fun b=>(zC (zOO a) (J1 b ([]:dn),0)).bind fun c=>df c
def zKY(b:List dp)(a:(List dp)×Int):Option (((List dp)×Int)⊕(List dp)):=cond (a.2<b.length) ((ixO b a.2).bind fun c=>(f_M c).bind fun d=>(ixO a.1 a.2).bind fun _=>(rng (a.2+1)).bind fun e=>df (.inl (a.1.set a.2.toNat d,e))) (df (.inr a.1))
def zMQ(a:List dp):Option (List dp):=(yF (a.length:Int)).bind fun b=>(zC (zKY a) (J1 b ([]:dp),0)).bind fun c=>df c
def zHy(a:SPr):Option SPr:=(f_L a.zA).bind fun b=>(f_M a.zV).bind fun c=>(zMQ a.zB).bind fun d=>df (SPr.mk b c d)
def zOP(a:Int):Option Bool:=cond (a==2) (df dh) (cond (a==3) (df dh) (cond (a==5) (df dh) (df (a==7))))
def zKZ(b:dn)(a:Int×Int):Option ((Int×Int)⊕Int):=cond (a.2<b.length) (cond (a.1≤729) ((ixO b a.2).bind fun c=>(rng (a.1*c)).bind fun d=>(rng (a.2+1)).bind fun e=>df (.inl (d,e))) ((rng (a.2+1)).bind fun f=>df (.inl (a.1,f)))) (df (.inr a.1))
def f_P(a:dn):Option Int:=(zC (zKZ a) (1,0)).bind fun b=>df b
def zOQ(a b c:Int):Option Bool:=cond (a≥b) (df (a≤c)) (df di)
def zMR(d b:dn)(e a:Int):Option (Int⊕(Unit⊕Bool)):=cond (a<b.length) ((ixO b a).bind fun f=>(ixO d a).bind fun g=>(rng (g-1)).bind fun h=>(zOQ f 0 h).bind fun i=>cond (!i) (df (.inr (.inr di))) (cond (a≤e) ((ixO b a).bind fun c=>cond (c != 0) (df (.inr (.inr di))) ((rng (a+1)).bind fun j=>df (.inl j))) ((rng (a+1)).bind fun c=>df (.inl c)))) (df (.inr (.inl ())))
def f_O(b c:dn)(d:Int):Option Bool:=cond ((c.length:Int) != b.length) (df di) ((zC (zMR b c d) 0).bind fun a=>match a with|(.inl _)=>df dh|(.inr a)=>df a)
def zLa(b:SPr)(a:Int):Option (Int⊕(Unit⊕Bool)):=cond (a<b.zA.length) ((ixO b.zA a).bind fun c=>(zOP c).bind fun d=>cond (!d) (df (.inr (.inr di))) ((rng (a+1)).bind fun e=>df (.inl e))) (df (.inr (.inl ())))
def zLb(a:SPr)(b c:Int):Option (Int⊕(Unit⊕Bool)):=(ixO a.zB b).bind fun d=>cond (c<d.length) ((ixO a.zB b).bind fun e=>(ixO e c).bind fun f=>(f_O a.zA f b).bind fun g=>cond (!g) (df (.inr (.inr di))) ((rng (c+1)).bind fun h=>df (.inl h))) (df (.inr (.inl ())))
def zHz(c:SPr)(b:Int):Option (Int⊕(Unit⊕Bool)):=cond (b<c.zA.length) ((ixO c.zV b).bind fun f=>(f_O c.zA f b).bind fun g=>cond (!g) (df (.inr (.inr di))) ((ixO c.zB b).bind fun h=>(rng ((c.zA.length:Int)-1)).bind fun i=>(rng (i-b)).bind fun d=>cond ((h.length:Int) != d) (df (.inr (.inr di))) ((zC (zLb c b) 0).bind fun a=>match a with|(.inl _)=>(rng (b+1)).bind fun e=>df (.inl e)|(.inr a)=>df (.inr (.inr a))))) (df (.inr (.inl ())))
def f_k(b:SPr):Option Bool:=cond ((b.zA.length:Int)> 6) (df di) (cond ((b.zV.length:Int) != b.zA.length) (df di) (cond ((b.zB.length:Int) != b.zA.length) (df di) ((zC (zLa b) 0).bind fun c=>match c with|(.inl _)=>(f_P b.zA).bind fun d=>cond (d> 729) (df di) ((zC (zHz b) 0).bind fun a=>(match a with|(.inl _)=>df dh|(.inr a)=>df a))|(.inr c)=>df c)))
def f_A(a:dn):Option dn:=(yQ [] a).bind fun b=>df b
def zLc(g_a:SPr→Int→dn→dn→Option dn)(d:SPr)(b:Int)(f:dn)(e:dn×Int)(a:dn×Int):Option ((dn×Int)⊕dn):=(ixO f e.2).bind fun g=>cond (a.2<g) ((rng (b+1)).bind fun h=>(ixO d.zB b).bind fun i=>(rng (e.2-b)).bind fun j=>(rng (j-1)).bind fun k=>(ixO i k).bind fun l=>(g_a d h a.1 l).bind fun m=>(rng (a.2+1)).bind fun c=>df (.inl (m,c))) (df (.inr a.1))
def zLd(g_a:SPr→Int→dn→dn→Option dn)(d:SPr)(e:Int)(f:dn)(a:dn×Int):Option ((dn×Int)⊕dn):=cond (a.2<d.zA.length) ((zC (zLc g_a d e f a) (a.1,0)).bind fun b=>(rng (a.2+1)).bind fun c=>df (.inl (b,c))) (df (.inr a.1))
def b_e(g_a:SPr→Int→dn→dn→Option dn)(b:SPr)(c:Int)(d:dn):Option dn:=(yF (b.zA.length:Int)).bind fun e=>(rng (c+1)).bind fun f=>(zC (zLd g_a b c d) (J1 e (0:Int),f)).bind fun a=>df a
def zMS(g_e:SPr→Int→dn→Option dn)(c:SPr)(b:Int)(d:dn)(a:dn×Int):Option ((dn×Int)⊕dn):=(ixO d b).bind fun e=>cond (a.2<e) ((g_e c b a.1).bind fun f=>(rng (a.2+1)).bind fun g=>df (.inl (f,g))) (df (.inr a.1))
def b_a(g_e:SPr→Int→dn→Option dn)(g_a:SPr→Int→dn→dn→Option dn)(b:SPr)(a:Int)(q g:dn):Option dn:=cond (a≥(b.zA.length:Int)) ((yF (b.zA.length:Int)).bind fun t=>df (J1 t (0:Int))) ((f_A q).bind fun r=>(f_A g).bind fun s=>(ixO r a).bind fun _=>(ixO s a).bind fun _=>(zC (zMS g_e b a g) (r.set a.toNat 0,0)).bind fun u=>(rng (a+1)).bind fun h=>(g_a b h u (s.set a.toNat 0)).bind fun d=>(ixO q a).bind fun i=>(ixO g a).bind fun j=>(rng (i+j)).bind fun c=>(ixO b.zA a).bind fun k=>cond (c≥k) ((ixO b.zA a).bind fun l=>(rng (c-l)).bind fun m=>(rng (a+1)).bind fun n=>(ixO b.zV a).bind fun o=>(g_a b n o d).bind fun p=>(f_A p).bind fun e=>(ixO e a).bind fun _=>df (e.set a.toNat m)) ((f_A d).bind fun f=>(ixO f a).bind fun _=>df (f.set a.toNat c)))
mutual
def zH0:Nat→SPr→Int→dn→Option dn|0=>fun _ _ _=>dg|n+1=>b_e (zH1 n)
def zH1:Nat→SPr→Int→dn→dn→Option dn|0=>fun _ _ _ _=>dg|n+1=>b_a (zH0 n) (zH1 n)
end
def f_e(a:SPr)(b:Int)(c:dn):Option dn:=zBn fun n=>zH0 n a b c
def f_a(a:SPr)(b:Int)(c d:dn):Option dn:=zBn fun n=>zH1 n a b c d
def zJg(b:SPr)(c:Int)(a:Int×dn×dn):Option ((Int×dn×dn)⊕dn):=cond (a.1> 0) ((wF a.1 2).bind fun d=>cond (d==1) ((f_a b c a.2.1 a.2.2).bind fun e=>(f_a b c a.2.2 a.2.2).bind fun f=>(wA a.1 2).bind fun g=>df (.inl (g,e,f))) ((f_a b c a.2.2 a.2.2).bind fun h=>(wA a.1 2).bind fun i=>df (.inl (i,a.2.1,h)))) (df (.inr a.2.1))
def f_x(a:SPr)(b:Int)(c:dn)(d:Int):Option dn:=(yF (a.zA.length:Int)).bind fun e=>(zC (zJg a b) (d,J1 e (0:Int),c)).bind fun f=>df f
def zQK(b c:dn)(a:Int):Option (Int⊕(Unit⊕Bool)):=cond (a<b.length) ((ixO b a).bind fun d=>(ixO c a).bind fun e=>cond (d != e) (df (.inr (.inr di))) ((rng (a+1)).bind fun f=>df (.inl f))) (df (.inr (.inl ())))
def f_Y(b c:dn):Option Bool:=cond ((b.length:Int) != c.length) (df di) ((zC (zQK b c) 0).bind fun a=>match a with|(.inl _)=>df dh|(.inr a)=>df a)
def zLe(c a:Int):Option dn:=(yF c).bind fun b=>(ixO (J1 b (0:Int)) a).bind fun _=>df ((J1 b (0:Int)).set a.toNat 1)
def zLf(a:SPr)(c b:Int):Option (Int⊕(Unit⊕yD)):=cond (b<a.zA.length) ((rng (c+1)).bind fun g=>(ixO a.zB c).bind fun h=>(rng (b-c)).bind fun i=>(rng (i-1)).bind fun j=>(ixO h j).bind fun k=>(ixO a.zA b).bind fun l=>(f_x a g k l).bind fun m=>(ixO a.zV b).bind fun n=>(f_e a c n).bind fun d=>(f_Y m d).bind fun e=>cond (!e) (df (.inr (.inr (yD.mk 1 c b 0)))) ((rng (b+1)).bind fun f=>df (.inl f))) (df (.inr (.inl ())))
def zLg(b:SPr)(a e c:Int):Option (Int⊕(Unit⊕yD)):=cond (c<b.zA.length) ((ixO b.zB a).bind fun f=>(rng (e-a)).bind fun g=>(rng (g-1)).bind fun h=>(ixO f h).bind fun d=>(ixO b.zB a).bind fun i=>(rng (c-a)).bind fun j=>(rng (j-1)).bind fun k=>(ixO i k).bind fun l=>(ixO b.zB e).bind fun m=>(rng (c-e)).bind fun n=>(rng (n-1)).bind fun o=>(ixO m o).bind fun p=>(f_e b a p).bind fun q=>(rng (a+1)).bind fun r=>(f_a b r l d).bind fun s=>(rng (a+1)).bind fun t=>(f_a b t d q).bind fun u=>(f_Y s u).bind fun v=>cond (!v) (df (.inr (.inr (yD.mk 2 a e c)))) ((rng (c+1)).bind fun w=>df (.inl w))) (df (.inr (.inl ())))
def zLh(e:SPr)(f b:Int):Option (Int⊕(Unit⊕yD)):=cond (b<e.zA.length) ((rng (b+1)).bind fun c=>(zC (zLg e f b) c).bind fun a=>match a with|(.inl _)=>(rng (b+1)).bind fun d=>df (.inl d)|(.inr a)=>df (.inr (.inr a))) (df (.inr (.inl ())))
def zLi(e:SPr)(f:Int)(a:dn×Int):Option ((dn×Int)⊕dn):=(ixO e.zA f).bind fun b=>cond (a.2<b) ((f_e e f a.1).bind fun c=>(rng (a.2+1)).bind fun d=>df (.inl (c,d))) (df (.inr a.1))
def zLj(b:SPr)(e:Int)(c:dn)(a:Int):Option (Int⊕(Unit⊕yD)):=cond (a<b.zA.length) ((zLe (b.zA.length:Int) a).bind fun d=>(zC (zLi b e) (d,0)).bind fun f=>(rng (e+1)).bind fun g=>(f_a b g c f).bind fun h=>(rng (e+1)).bind fun i=>(f_a b i d c).bind fun j=>(f_Y h j).bind fun k=>cond (!k) (df (.inr (.inr (yD.mk 4 e a 0)))) ((rng (a+1)).bind fun l=>df (.inl l))) (df (.inr (.inl ())))
def f_h(f:SPr)(a:Int):Option yD:=(rng (a+1)).bind fun k=>(zC (zLf f a) k).bind fun b=>match b with|(.inl _)=>(rng (a+1)).bind fun g=>(zC (zLh f a) g).bind fun c=>(match c with|(.inl _)=>(ixO f.zV a).bind fun e=>(f_e f a e).bind fun h=>(f_Y h e).bind fun i=>cond (!i) (df (yD.mk 3 a 0 0)) ((rng (a+1)).bind fun j=>(zC (zLj f a e) j).bind fun d=>(match d with|(.inl _)=>df (yD.mk 0 0 0 0)|(.inr d)=>df d))|(.inr c)=>df c)|(.inr b)=>df b
def zGF(c:SPr)(a:Int):Option (Int⊕(Unit⊕yD)):=cond (a≥0) ((f_h c a).bind fun b=>cond (b.Kind != 0) (df (.inr (.inr b))) ((rng (a-1)).bind fun d=>df (.inl d))) (df (.inr (.inl ())))
def zOR(b:SPr):Option yD:=(rng ((b.zA.length:Int)-1)).bind fun c=>(zC (zGF b) c).bind fun a=>match a with|(.inl _)=>df (yD.mk 0 0 0 0)|(.inr a)=>df a
def zOS(a:SPr):Option Bool:=(zOR a).bind fun b=>df (b.Kind==0)
def zMT(a:SPr):Option Bool:=(f_k a).bind fun b=>cond b ((zOS a).bind fun c=>df c) (df di)
def zMU(a:Int):Option Bool:=cond (a==2) (df dh) (cond (a==3) (df dh) (cond (a==5) (df dh) (df (a==7))))
def zMV(a b c:Int):Option Bool:=cond (a≥b) (df (a≤c)) (df di)
def zMW(c:SPr)(b:dn)(a:Int):Option (Int⊕(Unit⊕Bool)):=cond (a<b.length) ((ixO b a).bind fun d=>(ixO c.zA a).bind fun e=>(rng (e-1)).bind fun f=>(zMV d 0 f).bind fun g=>cond (!g) (df (.inr (.inr di))) ((rng (a+1)).bind fun h=>df (.inl h))) (df (.inr (.inl ())))
def f_X(b:SPr)(c:dn):Option Bool:=cond ((c.length:Int) != b.zA.length) (df di) ((zC (zMW b c) 0).bind fun a=>match a with|(.inl _)=>df dh|(.inr a)=>df a)
def zI8(b:dn)(a:Int):Option (Int⊕(Unit⊕Bool)):=cond (a<b.length) ((ixO b a).bind fun c=>cond (c != 0) (df (.inr (.inr di))) ((rng (a+1)).bind fun d=>df (.inl d))) (df (.inr (.inl ())))
def zOT(b:dn):Option Bool:=(zC (zI8 b) 0).bind fun a=>match a with|(.inl _)=>df dh|(.inr a)=>df a
def zLk(b:SPr)(c:Int)(a:dn):Option Bool:=(f_X b a).bind fun d=>cond d ((rng (c+1)).bind fun e=>(zS a 0 e).bind fun f=>(zOT f).bind fun g=>df g) (df di)
def zH2(c:SPr)(a:Int×Int):Option ((Int×Int)⊕(Unit⊕Bool)):=cond (a.2<c.zA.length) ((ixO c.zA a.2).bind fun b=>(zMU b).bind fun d=>cond (!d) (df (.inr (.inr di))) ((rng (a.1*b)).bind fun e=>cond (e> 729) (df (.inr (.inr di))) ((rng (a.1*b)).bind fun f=>(rng (a.2+1)).bind fun g=>df (.inl (f,g))))) (df (.inr (.inl ())))
def zLl(f:SPr)(g:Int)(a:dp)(b:Int):Option (Int⊕(Unit⊕Bool)):=cond (b<a.length) ((ixO a b).bind fun c=>(zLk f g c).bind fun d=>cond (!d) (df (.inr (.inr di))) ((rng (b+1)).bind fun e=>df (.inl e))) (df (.inr (.inl ())))
def zH3(c:SPr)(b:Int):Option (Int⊕(Unit⊕Bool)):=cond (b<c.zA.length) ((ixO c.zV b).bind fun h=>(zLk c b h).bind fun i=>cond (!i) (df (.inr (.inr di))) ((ixO c.zB b).bind fun j=>(rng ((c.zA.length:Int)-1)).bind fun d=>(rng (d-b)).bind fun e=>cond ((j.length:Int) != e) (df (.inr (.inr di))) ((ixO c.zB b).bind fun f=>(zC (zLl c b f) 0).bind fun a=>match a with|(.inl _)=>(rng (b+1)).bind fun g=>df (.inl g)|(.inr a)=>df (.inr (.inr a))))) (df (.inr (.inl ())))
def f_j(b:SPr):Option Bool:=cond ((b.zA.length:Int)> 6) (df di) (cond ((b.zV.length:Int) != b.zA.length) (df di) (cond ((b.zB.length:Int) != b.zA.length) (df di) ((zC (zH2 b) (1,0)).bind fun c=>match c with|(.inl _)=>(zC (zH3 b) 0).bind fun a=>(match a with|(.inl _)=>df dh|(.inr a)=>df a)|(.inr c)=>df c)))
def f_q(a:dn):Option dn:=(yQ [] a).bind fun b=>df b
def zLm(c:Int)(d:dn)(a:dn×Int):Option ((dn×Int)⊕dn):=cond (a.2<d.length) ((rng (c+1)).bind fun e=>(rng (e+a.2)).bind fun b=>(ixO a.1 b).bind fun _=>(rng (a.2+1)).bind fun f=>df (.inl (a.1.set b.toNat 0,f))) (df (.inr a.1))
def zOU(g_c:SPr→dn→dn→Option dn)(g:SPr)(h:Int)(i:dn×Int)(b:Int)(a:dn×Int):Option ((dn×Int)⊕dn):=cond (a.2<b) ((ixO g.zB h).bind fun c=>(ixO c i.2).bind fun d=>(g_c g a.1 d).bind fun e=>(rng (a.2+1)).bind fun f=>df (.inl (e,f))) (df (.inr a.1))
def zOV(g_c:SPr→dn→dn→Option dn)(f:SPr)(g:Int)(e:dn)(a:dn×Int):Option ((dn×Int)⊕dn):=cond (a.2<e.length) ((ixO e a.2).bind fun b=>(zC (zOU g_c f g a b) (a.1,0)).bind fun c=>(rng (a.2+1)).bind fun d=>df (.inl (c,d))) (df (.inr a.1))
def zOW(g_c:SPr→dn→dn→Option dn)(h:SPr)(i:Int)(b:dn×Int)(c:Int)(a:dn×Int):Option ((dn×Int)⊕dn):=cond (a.2<c) ((ixO h.zB i).bind fun d=>(ixO d b.2).bind fun e=>(g_c h a.1 e).bind fun f=>(rng (a.2+1)).bind fun g=>df (.inl (f,g))) (df (.inr a.1))
def zOX(g_c:SPr→dn→dn→Option dn)(f:SPr)(g:Int)(e:dn)(a:dn×Int):Option ((dn×Int)⊕dn):=cond (a.2<e.length) ((ixO e a.2).bind fun b=>(zC (zOW g_c f g a b) (a.1,0)).bind fun c=>(rng (a.2+1)).bind fun d=>df (.inl (c,d))) (df (.inr a.1))
def b_b(g_c:SPr→dn→dn→Option dn)(d:SPr)(e:dn)(a:Int):Option dn:=(rng (a+1)).bind fun m=>(zS e m e.length).bind fun n=>(f_q n).bind fun f=>(zC (zLm a f) (e,0)).bind fun c=>(ixO c a).bind fun o=>(rng (o+1)).bind fun b=>(ixO c a).bind fun _=>(ixO (c.set a.toNat b) a).bind fun g=>(ixO d.zA a).bind fun h=>cond (g==h) ((ixO (c.set a.toNat b) a).bind fun _=>(ixO d.zV a).bind fun i=>(g_c d ((c.set a.toNat b).set a.toNat 0) i).bind fun j=>(zC (zOV g_c d a f) (j,0)).bind fun k=>df k) ((zC (zOX g_c d a f) (c.set a.toNat b,0)).bind fun l=>df l)
def zLn(g_b:SPr→dn→Int→Option dn)(b:SPr)(c:dn×Int)(d:Int)(a:dn×Int):Option ((dn×Int)⊕dn):=cond (a.2<d) ((g_b b a.1 c.2).bind fun e=>(rng (a.2+1)).bind fun f=>df (.inl (e,f))) (df (.inr a.1))
def zLo(g_b:SPr→dn→Int→Option dn)(c:SPr)(b:dn)(a:dn×Int):Option ((dn×Int)⊕dn):=cond (a.2<b.length) ((ixO b a.2).bind fun d=>(zC (zLn g_b c a d) (a.1,0)).bind fun e=>(rng (a.2+1)).bind fun f=>df (.inl (e,f))) (df (.inr a.1))
def b_c(g_b:SPr→dn→Int→Option dn)(a:SPr)(b c:dn):Option dn:=(zC (zLo g_b a c) (b,0)).bind fun d=>df d
mutual
def zLp:Nat→SPr→dn→Int→Option dn|0=>fun _ _ _=>dg|n+1=>b_b (zJh n)
def zJh:Nat→SPr→dn→dn→Option dn|0=>fun _ _ _=>dg|n+1=>b_c (zLp n)
end
def f_b(a:SPr)(b:dn)(c:Int):Option dn:=zBn fun n=>zLp n a b c
def f_c(a:SPr)(b c:dn):Option dn:=zBn fun n=>zJh n a b c
def zLq(b:SPr)(c:dn)(d:Int)(a:dn×Int):Option ((dn×Int)⊕dn):=cond (a.2<d) ((f_c b a.1 c).bind fun e=>(rng (a.2+1)).bind fun f=>df (.inl (e,f))) (df (.inr a.1))
def f_Q(b:SPr)(a:dn)(c:Int):Option dn:=(yF (a.length:Int)).bind fun d=>(zC (zLq b a c) (J1 d (0:Int),0)).bind fun e=>df e
def zLr(b:SPr)(c:dn)(d:Int)(a:dn×Int):Option ((dn×Int)⊕dn):=cond (a.2<d) ((f_c b a.1 c).bind fun e=>(rng (a.2+1)).bind fun f=>df (.inl (e,f))) (df (.inr a.1))
def zLs(d:SPr)(e:Int)(f:dn)(c:dp)(a:dn×Int):Option ((dn×Int)⊕dn):=cond (a.2<c.length) ((ixO c a.2).bind fun g=>(rng (e+1)).bind fun h=>(rng (h+a.2)).bind fun i=>(ixO f i).bind fun j=>(zC (zLr d g j) (a.1,0)).bind fun k=>(rng (a.2+1)).bind fun b=>df (.inl (k,b))) (df (.inr a.1))
def f_o(b:SPr)(c:Int)(d:dn):Option dn:=(yF (d.length:Int)).bind fun e=>(ixO b.zB c).bind fun f=>(zC (zLs b c d f) (J1 e (0:Int),0)).bind fun a=>df a
def zOY(b c:dn)(a:Int):Option (Int⊕(Unit⊕Bool)):=cond (a<b.length) ((ixO b a).bind fun d=>(ixO c a).bind fun e=>cond (d != e) (df (.inr (.inr di))) ((rng (a+1)).bind fun f=>df (.inl f))) (df (.inr (.inl ())))
def f_I(b c:dn):Option Bool:=cond ((b.length:Int) != c.length) (df di) ((zC (zOY b c) 0).bind fun a=>match a with|(.inl _)=>df dh|(.inr a)=>df a)
def zJi(c:SPr)(b:dn×dn×Int)(a:dn×dn):Option ((dn×dn)⊕(dn×dn)):=(ixO a.1 b.2.2).bind fun d=>cond (d != 0) ((f_b c a.1 b.2.2).bind fun e=>(f_b c a.2 b.2.2).bind fun f=>df (.inl (e,f))) (df (.inr (a.1,a.2)))
def zLt(c:SPr)(d:dn)(a:dn×dn×Int):Option ((dn×dn×Int)⊕dn):=cond (a.2.2<d.length) ((zC (zJi c a) (a.1,a.2.1)).bind fun b=>(rng (a.2.2+1)).bind fun e=>df (.inl (b.1,b.2,e))) (df (.inr a.2.1))
def f_s(c:SPr)(a:dn):Option dn:=(f_q a).bind fun b=>(yF (a.length:Int)).bind fun d=>(zC (zLt c b) (b,J1 d (0:Int),0)).bind fun e=>df e
def zH4(a:SPr)(b c:dn):Option dn:=(f_q b).bind fun d=>(f_c a d c).bind fun e=>df e
def zLu(a:SPr)(c b:dn):Option dn:=(f_s a b).bind fun d=>(zH4 a c b).bind fun e=>(zH4 a d e).bind fun f=>df f
def zGG(c a:Int):Option dn:=(yF c).bind fun b=>(ixO (J1 b (0:Int)) a).bind fun _=>df ((J1 b (0:Int)).set a.toNat 1)
def zLv(a:SPr)(c b:Int):Option (Int⊕(Unit⊕yD)):=cond (b<a.zA.length) ((ixO a.zB c).bind fun f=>(rng (b-c)).bind fun g=>(rng (g-1)).bind fun h=>(ixO f h).bind fun i=>(ixO a.zA b).bind fun j=>(f_Q a i j).bind fun k=>(ixO a.zV b).bind fun l=>(f_o a c l).bind fun m=>(f_I k m).bind fun d=>cond (!d) (df (.inr (.inr (yD.mk 1 c b 0)))) ((rng (b+1)).bind fun e=>df (.inl e))) (df (.inr (.inl ())))
def zLw(a:SPr)(b d c:Int):Option (Int⊕(Unit⊕yD)):=cond (c<a.zA.length) ((ixO a.zB b).bind fun e=>(rng (c-b)).bind fun f=>(rng (f-1)).bind fun g=>(ixO e g).bind fun h=>(ixO a.zB b).bind fun i=>(rng (d-b)).bind fun j=>(rng (j-1)).bind fun k=>(ixO i k).bind fun l=>(zLu a h l).bind fun m=>(ixO a.zB d).bind fun n=>(rng (c-d)).bind fun o=>(rng (o-1)).bind fun p=>(ixO n p).bind fun q=>(f_o a b q).bind fun r=>(f_I m r).bind fun s=>cond (!s) (df (.inr (.inr (yD.mk 2 b d c)))) ((rng (c+1)).bind fun t=>df (.inl t))) (df (.inr (.inl ())))
def zLx(e:SPr)(f b:Int):Option (Int⊕(Unit⊕yD)):=cond (b<e.zA.length) ((rng (b+1)).bind fun c=>(zC (zLw e f b) c).bind fun a=>match a with|(.inl _)=>(rng (b+1)).bind fun d=>df (.inl d)|(.inr a)=>df (.inr (.inr a))) (df (.inr (.inl ())))
def zLy(e:SPr)(f b:Int)(a:dn×Int):Option ((dn×Int)⊕dn):=cond (a.2<b) ((f_o e f a.1).bind fun c=>(rng (a.2+1)).bind fun d=>df (.inl (c,d))) (df (.inr a.1))
def zLz(b:SPr)(c:Int)(d:dn)(a:Int):Option (Int⊕(Unit⊕yD)):=cond (a<b.zA.length) ((zGG (b.zA.length:Int) a).bind fun e=>(ixO b.zA c).bind fun f=>(zC (zLy b c f) (e,0)).bind fun g=>(zGG (b.zA.length:Int) a).bind fun h=>(zLu b h d).bind fun i=>(f_I g i).bind fun j=>cond (!j) (df (.inr (.inr (yD.mk 4 c a 0)))) ((rng (a+1)).bind fun k=>df (.inl k))) (df (.inr (.inl ())))
def f_g(f:SPr)(a:Int):Option yD:=(rng (a+1)).bind fun k=>(zC (zLv f a) k).bind fun b=>match b with|(.inl _)=>(rng (a+1)).bind fun g=>(zC (zLx f a) g).bind fun c=>(match c with|(.inl _)=>(ixO f.zV a).bind fun e=>(f_o f a e).bind fun h=>(f_I h e).bind fun i=>cond (!i) (df (yD.mk 3 a 0 0)) ((rng (a+1)).bind fun j=>(zC (zLz f a e) j).bind fun d=>(match d with|(.inl _)=>df (yD.mk 0 0 0 0)|(.inr d)=>df d))|(.inr c)=>df c)|(.inr b)=>df b
def zL0(c:SPr)(a:Int):Option (Int⊕Int):=cond (a> 0) ((rng (a-1)).bind fun d=>(f_g c d).bind fun b=>cond (b.Kind==0&&(b.zNR==0&&(b.zNS==0&&b.zLS==0))) ((rng (a-1)).bind fun e=>df (.inl e)) (df (.inr a))) (df (.inr a))
def f_Z(a:SPr):Option Int:=(zC (zL0 a) (a.zA.length:Int)).bind fun b=>df b
def zMX(a:SPr):Option Bool:=(f_j a).bind fun b=>cond b ((f_Z a).bind fun c=>df (c==0)) (df di)
def zL1(a:Int):Option dn:=cond (a<0) (dg) ((rng (0-0)).bind fun c=>(rng (a-c)).bind fun b=>cond (b> 0) ((xC [] b (0:Int)).bind fun d=>(zS d 0 0).bind fun e=>df e) (df []))
def zL2(b:dp)(a:Int×Int):Option ((Int×Int)⊕Int):=cond (a.2<b.length) ((ixO b a.2).bind fun d=>(rng (a.1+d.length)).bind fun c=>cond (c<0) (dg) ((rng (a.2+1)).bind fun e=>df (.inl (c,e)))) (df (.inr a.1))
def zL3(b:dp)(a:dn×Int):Option ((dn×Int)⊕dn):=cond (a.2<b.length) ((ixO b a.2).bind fun c=>(yQ a.1 c).bind fun d=>(rng (a.2+1)).bind fun e=>df (.inl (d,e))) (df (.inr a.1))
def f_v(a:dp):Option dn:=(zC (zL2 a) (0,0)).bind fun b=>(zL1 b).bind fun c=>(zC (zL3 a) (c,0)).bind fun d=>df d
def zJj(a:dn)(b c:Int):Option dn:=(yF b).bind fun d=>(yF c).bind fun e=>(f_v [J1 d (0:Int),a,J1 e (0:Int)]).bind fun f=>df f
def zOZ(b c:dn)(a:Int):Option (Int⊕(Unit⊕Bool)):=cond (a<b.length) ((ixO b a).bind fun d=>(ixO c a).bind fun e=>cond (d != e) (df (.inr (.inr di))) ((rng (a+1)).bind fun f=>df (.inl f))) (df (.inr (.inl ())))
def f_U(b c:dn):Option Bool:=cond ((b.length:Int) != c.length) (df di) ((zC (zOZ b c) 0).bind fun a=>match a with|(.inl _)=>df dh|(.inr a)=>df a)
def zPa(b c:dp)(a:Int):Option (Int⊕(Unit⊕Bool)):=cond (a<b.length) ((ixO b a).bind fun d=>(ixO c a).bind fun e=>(f_U d e).bind fun f=>cond (!f) (df (.inr (.inr di))) ((rng (a+1)).bind fun g=>df (.inl g))) (df (.inr (.inl ())))
def f_V(b c:dp):Option Bool:=cond ((b.length:Int) != c.length) (df di) ((zC (zPa b c) 0).bind fun a=>match a with|(.inl _)=>df dh|(.inr a)=>df a)
def zL4(b c:List dp)(a:Int):Option (Int⊕(Unit⊕Bool)):=cond (a<b.length) ((ixO b a).bind fun d=>(ixO c a).bind fun e=>(f_V d e).bind fun f=>cond (!f) (df (.inr (.inr di))) ((rng (a+1)).bind fun g=>df (.inl g))) (df (.inr (.inl ())))
def zPb(b c:List dp):Option Bool:=cond ((b.length:Int) != c.length) (df di) ((zC (zL4 b c) 0).bind fun a=>match a with|(.inl _)=>df dh|(.inr a)=>df a)
def zH5(a b:SPr):Option Bool:=(f_U a.zA b.zA).bind fun c=>cond (!c) (df di) ((f_V a.zV b.zV).bind fun d=>cond (!d) (df di) ((zPb a.zB b.zB).bind fun e=>cond (!e) (df di) (df dh)))
def zMY(a:dn×Int×Int):Option ((dn×Int×Int)⊕(dn×Int)):=cond (a.2.2<a.1.length) ((ixO a.1 a.2.2).bind fun _=>(rng (a.2.1+1)).bind fun b=>(rng (a.2.2+1)).bind fun c=>df (.inl (a.1.set a.2.2.toNat a.2.1,b,c))) (df (.inr (a.1,a.2.1)))
def f_H(b:dn)(c:Int):Option (Int×dn):=(zC zMY (b,c,0)).bind fun a=>df (a.2,a.1)
def zPc(a:dp×Int×Int):Option ((dp×Int×Int)⊕(dp×Int)):=cond (a.2.2<a.1.length) ((ixO a.1 a.2.2).bind fun c=>(f_H c a.2.1).bind fun b=>(rng (a.2.2+1)).bind fun d=>df (.inl (a.1.set a.2.2.toNat b.2,b.1,d))) (df (.inr (a.1,a.2.1)))
def f_N(b:dp)(c:Int):Option (Int×dp):=(zC zPc (b,c,0)).bind fun a=>df (a.2,a.1)
def zL5(a:(List dp)×Int×Int):Option (((List dp)×Int×Int)⊕((List dp)×Int)):=cond (a.2.2<a.1.length) ((ixO a.1 a.2.2).bind fun c=>(f_N c a.2.1).bind fun b=>(rng (a.2.2+1)).bind fun d=>df (.inl (a.1.set a.2.2.toNat b.2,b.1,d))) (df (.inr (a.1,a.2.1)))
def zMZ(b:List dp)(c:Int):Option (Int×(List dp)):=(zC zL5 (b,c,0)).bind fun a=>df (a.2,a.1)
def zL6(a:SPr)(e:Int):Option (Int×SPr):=(f_H a.zA e).bind fun b=>(f_N a.zV b.1).bind fun c=>(zMZ a.zB c.1).bind fun d=>df (d.1,(SPr.mk b.2 c.2 d.2))
def zL7(b:dn)(a:Int×Int):Option ((Int×Int)⊕(Int⊕Int)):=cond (a.2<b.length) ((ixO b a.2).bind fun c=>cond (c != a.1) (df (.inr (.inr (-1)))) ((rng (a.1+1)).bind fun d=>(rng (a.2+1)).bind fun e=>df (.inl (d,e)))) (df (.inr (.inl a.1)))
def f_C(b:dn)(c:Int):Option Int:=(zC (zL7 b) (c,0)).bind fun a=>match a with|(.inl a)=>df a|(.inr a)=>df a
def zPd(b:dp)(a:Int×Int):Option ((Int×Int)⊕(Int⊕Int)):=cond (a.2<b.length) ((ixO b a.2).bind fun d=>(f_C d a.1).bind fun c=>cond (c<0) (df (.inr (.inr (-1)))) ((rng (a.2+1)).bind fun e=>df (.inl (c,e)))) (df (.inr (.inl a.1)))
def f_W(b:dp)(c:Int):Option Int:=(zC (zPd b) (c,0)).bind fun a=>match a with|(.inl a)=>df a|(.inr a)=>df a
def zL8(b:List dp)(a:Int×Int):Option ((Int×Int)⊕(Int⊕Int)):=cond (a.2<b.length) ((ixO b a.2).bind fun d=>(f_W d a.1).bind fun c=>cond (c<0) (df (.inr (.inr (-1)))) ((rng (a.2+1)).bind fun e=>df (.inl (c,e)))) (df (.inr (.inl a.1)))
def zPe(b:List dp)(c:Int):Option Int:=(zC (zL8 b) (c,0)).bind fun a=>match a with|(.inl a)=>df a|(.inr a)=>df a
def b_f(g_f:SPr→Int→dn→Option dn)(b:SPr)(a:Int)(c:dn):Option dn:=cond (a≥(b.zA.length:Int)) ((yF (b.zA.length:Int)).bind fun m=>df (J1 m (0:Int))) ((f_A c).bind fun j=>(ixO j a).bind fun _=>(rng (a+1)).bind fun n=>(g_f b n (j.set a.toNat 0)).bind fun k=>(ixO c a).bind fun o=>cond (o==0) (df k) ((yF (b.zA.length:Int)).bind fun l=>(ixO b.zA a).bind fun p=>(ixO c a).bind fun q=>(rng (p-q)).bind fun d=>(ixO (J1 l (0:Int)) a).bind fun _=>(f_a b a k ((J1 l (0:Int)).set a.toNat d)).bind fun e=>(rng (a+1)).bind fun f=>(ixO b.zV a).bind fun g=>(g_f b f g).bind fun h=>(f_a b a e h).bind fun i=>df i))
def zH6:Nat→SPr→Int→dn→Option dn|0=>fun _ _ _=>dg|n+1=>b_f (zH6 n)
def f_f(a:SPr)(b:Int)(c:dn):Option dn:=zBn fun n=>zH6 n a b c
def zL9(a:SPr)(b:dn):Option dn:=(f_f a 0 b).bind fun c=>df c
def zLA(b:dn)(c:Int)(a:dp×Int):Option ((dp×Int)⊕dp):=cond (a.2<b.length) ((rng (a.2+c)).bind fun d=>(zS b a.2 d).bind fun e=>(f_q e).bind fun f=>(yQ a.1 [f]).bind fun g=>(rng (a.2+c)).bind fun h=>df (.inl (g,h))) (df (.inr a.1))
def f_D(a:dn)(b:Int):Option dp:=(zC (zLA a b) ([],0)).bind fun c=>df c
def zJk(b:dn)(a:dp×Int):Option ((dp×Int)⊕dp):=cond (a.2<b.length) ((zGG (b.length:Int) a.2).bind fun c=>(yQ a.1 [c]).bind fun d=>(rng (a.2+1)).bind fun e=>df (.inl (d,e))) (df (.inr a.1))
def zJl(b:dn)(a:dp×(List dp)×Int):Option ((dp×(List dp)×Int)⊕(dp×(List dp))):=cond (a.2.2<b.length) ((yF (b.length:Int)).bind fun d=>(yQ a.1 [J1 d (0:Int)]).bind fun e=>(rng (a.2.2+1)).bind fun f=>(zC (zJk b) ([],f)).bind fun g=>(yQ a.2.1 [g]).bind fun h=>(rng (a.2.2+1)).bind fun c=>df (.inl (e,h,c))) (df (.inr (a.1,a.2.1)))
def f_p(b:dn):Option SPr:=(f_q b).bind fun c=>(zC (zJl b) ([],[],0)).bind fun a=>df (SPr.mk c a.1 a.2)
def zLB(a:SPr)(e:Int):Option Int:=(f_C a.zA e).bind fun b=>cond (b<0) (df (-1)) ((f_W a.zV b).bind fun c=>cond (c<0) (df (-1)) ((zPe a.zB c).bind fun d=>cond (d<0) (df (-1)) (df d)))
def zPf(b:SPr)(a:Int×Int):Option ((Int×Int)⊕Int):=cond (a.2<b.zA.length) ((ixO b.zA a.2).bind fun c=>(rng (a.1*c)).bind fun d=>(rng (a.2+1)).bind fun e=>df (.inl (d,e))) (df (.inr a.1))
def f_t(a:SPr):Option Int:=(zC (zPf a) (1,0)).bind fun b=>df b
def zPg(b:SPr)(a:Int×Int):Option ((Int×Int)⊕Int):=cond (a.2<b.zA.length) ((ixO b.zA a.2).bind fun c=>(rng (a.1*c)).bind fun d=>(rng (a.2+1)).bind fun e=>df (.inl (d,e))) (df (.inr a.1))
def f_R(a:SPr):Option Int:=(zC (zPg a) (1,0)).bind fun b=>df b
def zJm(b c:dn)(a:Int):Option (Int⊕(Unit⊕Bool)):=cond (a<b.length) (cond (a<c.length) ((ixO b a).bind fun d=>(ixO c a).bind fun e=>cond (d != e) ((ixO b a).bind fun f=>(ixO c a).bind fun g=>df (.inr (.inr (f<g)))) ((rng (a+1)).bind fun h=>df (.inl h))) (df (.inr (.inl ())))) (df (.inr (.inl ())))
def f_G(b c:dn):Option Bool:=(zC (zJm b c) 0).bind fun a=>match a with|(.inl _)=>df ((b.length:Int)<c.length)|(.inr a)=>df a
def zLC(a:SPr)(c:dn)(b:Int):Option dn:=cond (b<0) ((zL9 a c).bind fun d=>(rng (0-b)).bind fun e=>(f_x a 0 d e).bind fun f=>df f) ((f_x a 0 c b).bind fun g=>df g)
def zH7(a:SPr)(b c:dn):Option dn:=(f_a a 0 b c).bind fun d=>df d
def zGH(a:SPr):Option dn:=(yF (a.zA.length:Int)).bind fun b=>df (J1 b (0:Int))
def zPh(b:SPr)(a:Int×dn×Int):Option ((Int×dn×Int)⊕dn):=cond (a.2.2≥0) ((ixO b.zA a.2.2).bind fun c=>(wF a.1 c).bind fun d=>(ixO a.2.1 a.2.2).bind fun _=>(ixO b.zA a.2.2).bind fun e=>(wA a.1 e).bind fun f=>(rng (a.2.2-1)).bind fun g=>df (.inl (f,a.2.1.set a.2.2.toNat d,g))) (df (.inr a.2.1))
def f_J(a:SPr)(c:Int):Option dn:=(zGH a).bind fun b=>(rng ((b.length:Int)-1)).bind fun d=>(zC (zPh a) (c,b,d)).bind fun e=>df e
def zBW(b:SPr)(a:Int×dn×Int):Option ((Int×dn×Int)⊕dn):=cond (a.2.2≥0) ((ixO b.zA a.2.2).bind fun c=>(wF a.1 c).bind fun d=>(ixO a.2.1 a.2.2).bind fun _=>(ixO b.zA a.2.2).bind fun e=>(wA a.1 e).bind fun f=>(rng (a.2.2-1)).bind fun g=>df (.inl (f,a.2.1.set a.2.2.toNat d,g))) (df (.inr a.2.1))
def f_l(a:SPr)(c:Int):Option dn:=(yF (a.zA.length:Int)).bind fun b=>(rng (((J1 b (0:Int)).length:Int)-1)).bind fun d=>(zC (zBW a) (c,J1 b (0:Int),d)).bind fun e=>df e
def zLD(b:SPr)(c:Int)(a:dp×Int):Option ((dp×Int)⊕dp):=cond (a.2<c) ((f_l b a.2).bind fun d=>(yQ a.1 [d]).bind fun e=>(rng (a.2+1)).bind fun f=>df (.inl (e,f))) (df (.inr a.1))
def f_E(a:SPr):Option dp:=(f_R a).bind fun b=>(zC (zLD a b) ([],0)).bind fun c=>df c
end Go.Wk

namespace Go.Wk
open Go Go.Ab
def zLE(b:dn)(a:dp×Int):Option ((dp×Int)⊕dp):=cond (a.2<b.length) ((zLe (b.length:Int) a.2).bind fun c=>(yQ a.1 [c]).bind fun d=>(rng (a.2+1)).bind fun e=>df (.inl (d,e))) (df (.inr a.1))
def zH8(b:dn)(a:dp×(List dp)×Int):Option ((dp×(List dp)×Int)⊕(dp×(List dp))):=cond (a.2.2<b.length) ((yF (b.length:Int)).bind fun d=>(yQ a.1 [J1 d (0:Int)]).bind fun e=>(rng (a.2.2+1)).bind fun f=>(zC (zLE b) ([],f)).bind fun g=>(yQ a.2.1 [g]).bind fun h=>(rng (a.2.2+1)).bind fun c=>df (.inl (e,h,c))) (df (.inr (a.1,a.2.1)))
def f_r(b:dn):Option SPr:=(f_A b).bind fun c=>(zC (zH8 b) ([],[],0)).bind fun a=>df (SPr.mk c a.1 a.2)
def zLF(c:SPr)(b:dn)(a:Int×Int):Option ((Int×Int)⊕Int):=cond (a.2<b.length) ((ixO b a.2).bind fun d=>(ixO c.zA a.2).bind fun e=>(rng (a.1*e)).bind fun f=>(rng (f+d)).bind fun g=>(rng (a.2+1)).bind fun h=>df (.inl (g,h))) (df (.inr a.1))
def f_S(a:SPr)(b:dn):Option Int:=(zC (zLF a b) (0,0)).bind fun c=>df c
def zNa(a:Int):Option Bool:=df (a != a)
def zNb(a b:Int):Option Int:=(zNa a).bind fun d=>(zNa b).bind fun c=>cond d (cond c (df 0) (df (-1))) (cond c (df 1) (cond (a<b) (df (-1)) (cond (a> b) (df 1) (df 0))))
structure zE where
 qP:dp
 wW:dp
abbrev tZ(x:zE):T:=.agg [(L 1 (L 1 I)) x.qP,(L 1 (L 1 I)) x.wW]
instance:Enc tZ:=.of fun _=>zMp ⟨Enc.t (f:=(L 1 (L 1 I))) inferInstance _,Enc.t (f:=(L 1 (L 1 I))) inferInstance _,trivial⟩
structure zL where
 wW:dp
abbrev zO(x:zL):T:=.agg [(L 1 (L 1 I)) x.wW]
instance:Enc zO:=.of fun _=>zMp ⟨Enc.t (f:=(L 1 (L 1 I))) inferInstance _,trivial⟩
def zLG(c:SPr)(b:dn)(a:Int×Int):Option ((Int×Int)⊕Int):=cond (a.2<b.length) ((ixO c.zA a.2).bind fun d=>(rng (a.1*d)).bind fun e=>(ixO b a.2).bind fun f=>(rng (e+f)).bind fun g=>(rng (a.2+1)).bind fun h=>df (.inl (g,h))) (df (.inr a.1))
def f_B(a:SPr)(b:dn):Option Int:=(zC (zLG a b) (0,0)).bind fun c=>df c
def zJn(c:SPr)(d:zE)(j k:dn)(a:dn×Int):Option ((dn×Int)⊕(dn⊕(dn×Bool))):=cond (a.2<d.qP.length) ((ixO d.qP a.2).bind fun l=>(zH7 c l j).bind fun e=>(zH7 c k e).bind fun f=>(f_B c f).bind fun g=>(ixO d.wW g).bind fun b=>cond ((b.length:Int)==0) (df (.inr (.inr ([],di)))) ((yQ a.1 b).bind fun h=>(rng (a.2+1)).bind fun i=>df (.inl (h,i)))) (df (.inr (.inl a.1)))
def f_K(b:SPr)(d:zE)(c:dn)(_:Int):Option (dn×Bool):=(ixO b.zA 0).bind fun f=>(f_B b c).bind fun g=>(ixO d.wW g).bind fun h=>cond ((h.length:Int)> 0) (df ([],di)) ((zL9 b c).bind fun i=>(zLC b c f).bind fun j=>(f_B b j).bind fun k=>(ixO d.wW k).bind fun e=>cond ((e.length:Int)==0) (df ([],di)) ((f_A e).bind fun l=>(zC (zJn b d c i) (l,0)).bind fun a=>match a with|(.inl a)=>df (a,dh)|(.inr a)=>df a))
def zGI(c:SPr)(d:zE)(h:Int)(i:dp×dn×Int)(a:dp×Int):Option ((dp×Int)⊕dp):=cond (a.2<d.wW.length) ((ixO d.wW a.2).bind fun k=>cond ((k.length:Int)> 0) ((ixO d.wW a.2).bind fun l=>(f_A l).bind fun j=>(ixO j h).bind fun _=>(f_J c a.2).bind fun m=>(zH7 c i.2.1 m).bind fun e=>(f_B c e).bind fun b=>(ixO a.1 b).bind fun _=>(rng (a.2+1)).bind fun f=>df (.inl (a.1.set b.toNat (j.set h.toNat i.2.2),f))) ((rng (a.2+1)).bind fun g=>df (.inl (a.1,g)))) (df (.inr a.1))
def zJo(b:SPr)(f:zE)(g:dn)(h:Int)(a:dp×dn×Int):Option ((dp×dn×Int)⊕dp):=(ixO b.zA 0).bind fun i=>cond (a.2.2<i) ((zC (zGI b f h a) (a.1,0)).bind fun c=>(zH7 b a.2.1 g).bind fun d=>(rng (a.2.2+1)).bind fun e=>df (.inl (c,d,e))) (df (.inr a.1))
def f_n(c:SPr)(a:zE)(d:dn)(e:Int):Option zE:=(yQ [d] a.qP).bind fun f=>(yF (a.wW.length:Int)).bind fun g=>(zGH c).bind fun h=>(zC (zJo c a d e) (J1 g ([]:dn),h,0)).bind fun b=>df (zE.mk f b)
def zJp(a:dn×(List zE)×Int)(b:dn×Bool)(_:Unit):Option (Unit⊕Bool):=cond (!b.2) (df (.inr dh)) (cond ((a.1.length:Int)> 0) ((f_G a.1 b.1).bind fun c=>df (.inr c)) (df (.inr di)))
def zLH(a:dn×(List zE)×Int)(b:dn×Bool)(_:Unit):Option (Unit⊕Bool):=cond ((a.1.length:Int)==0) (df (.inr dh)) ((f_G b.1 a.1).bind fun c=>df (.inr c))
def zLI(a:dn×(List zE)×Int)(b:dn×Bool)(_:Unit):Option (Unit⊕(dn×(List zE))):=(zC (zLH a b) ()).bind fun c=>cond c (df (.inr (b.1,[]))) (df (.inr (a.1,a.2.1)))
def zLJ(a:dp×(List dp)×(List zE)×Int)(b:dn×(List zE))(_:Unit):Option (Unit⊕Bool):=cond (a.2.2.2> 0) (df (.inr dh)) (df (.inr ((b.2.length:Int)==0)))
def zJq(f:SPr)(b:dp×(List dp)×(List zE)×Int)(d:dn×(List zE)×Int)(a:dn×(List zE)×Int):Option ((dn×(List zE)×Int)⊕(dn×(List zE))):=(f_t f).bind fun p=>cond (a.2.2<p) ((f_J f a.2.2).bind fun o=>(ixO b.2.2.1 d.2.2).bind fun q=>(f_K f q o b.2.2.2).bind fun e=>(zC (zJp a e) ()).bind fun g=>cond g ((rng (a.2.2+1)).bind fun h=>df (.inl (a.1,a.2.1,h))) ((zC (zLI a e) ()).bind fun c=>(zC (zLJ b c) ()).bind fun i=>cond i ((ixO b.2.2.1 d.2.2).bind fun j=>(f_n f j o b.2.2.2).bind fun k=>(yQ c.2 [k]).bind fun l=>(rng (a.2.2+1)).bind fun m=>df (.inl (c.1,l,m))) ((rng (a.2.2+1)).bind fun n=>df (.inl (c.1,c.2,n))))) (df (.inr (a.1,a.2.1)))
def zLK(e:SPr)(b:dp×(List dp)×(List zE)×Int)(a:dn×(List zE)×Int):Option ((dn×(List zE)×Int)⊕(dn×(List zE))):=cond (a.2.2<b.2.2.1.length) ((zC (zJq e b a) (a.1,a.2.1,0)).bind fun c=>(rng (a.2.2+1)).bind fun d=>df (.inl (c.1,c.2,d))) (df (.inr (a.1,a.2.1)))
def zH9(e:SPr)(b:dp×(List dp)×(List zE)×Int)(f:dn×(List zE))(a:(List dp)×Int):Option (((List dp)×Int)⊕(List dp)):=cond (a.2<e.zA.length) ((ixO a.1 b.2.2.2).bind fun c=>(rng (a.2-b.2.2.2)).bind fun g=>(rng (g-1)).bind fun d=>(rng (a.2-b.2.2.2)).bind fun h=>(rng ((e.zA.length:Int)*h)).bind fun i=>(rng (a.2-b.2.2.2)).bind fun j=>(rng (j+1)).bind fun k=>(rng ((e.zA.length:Int)*k)).bind fun l=>(zS f.1 i l).bind fun m=>(f_A m).bind fun n=>(ixO c d).bind fun _=>(rng (a.2+1)).bind fun o=>df (.inl (a.1.set b.2.2.2.toNat (c.set d.toNat n),o))) (df (.inr a.1))
def zDU(c:SPr)(a:dp×(List dp)×(List zE)×Int):Option ((dp×(List dp)×(List zE)×Int)⊕(dp×(List dp))):=cond (a.2.2.2≥0) ((zC (zLK c a) ([],[],0)).bind fun b=>(zS b.1 0 (c.zA.length:Int)).bind fun d=>(f_A d).bind fun e=>(ixO a.1 a.2.2.2).bind fun _=>(rng (a.2.2.2+1)).bind fun f=>(zC (zH9 c a b) (a.2.1,f)).bind fun g=>(rng (a.2.2.2-1)).bind fun h=>df (.inl (a.1.set a.2.2.2.toNat e,g,b.2,h))) (df (.inr (a.1,a.2.1)))
def f_d(a:SPr):Option SPr:=(f_r a.zA).bind fun c=>(f_t a).bind fun e=>(yF e).bind fun d=>(zGH a).bind fun f=>(ixO (J1 d ([]:dn)) 0).bind fun _=>(rng ((a.zA.length:Int)-1)).bind fun g=>(zC (zDU a) (c.zV,c.zB,[(zE.mk [] ((J1 d ([]:dn)).set (0:Int).toNat f))],g)).bind fun b=>df (SPr.mk c.zA b.1 b.2)
def zFv(a:SPr)(b:Int):Option (Int⊕(Unit⊕(SPr×Int))):=cond (b<a.zA.length) ((ixO a.zA b).bind fun c=>(ixO a.zA 0).bind fun d=>cond (c != d) (df (.inr (.inr ((SPr.mk [] [] []),5)))) ((rng (b+1)).bind fun e=>df (.inl e))) (df (.inr (.inl ())))
def f_z(a:SPr):Option (SPr×Int):=(zMT a).bind fun c=>cond (!c) (df ((SPr.mk [] [] []),1)) ((f_t a).bind fun d=>cond (d> 27) (df ((SPr.mk [] [] []),3)) ((zC (zFv a) 1).bind fun b=>match b with|(.inl _)=>(f_d a).bind fun e=>df (e,0)|(.inr b)=>df b))
def zLL(b:SPr)(c:dp)(d:dn)(a:dn×Int):Option ((dn×Int)⊕dn):=cond (a.2<c.length) ((ixO c a.2).bind fun e=>(zH4 b d e).bind fun f=>(f_S b f).bind fun g=>(yQ a.1 [g]).bind fun h=>(rng (a.2+1)).bind fun i=>df (.inl (h,i))) (df (.inr a.1))
def zLM(d:SPr)(b:dp)(a:dp×Int):Option ((dp×Int)⊕dp):=cond (a.2<b.length) ((ixO b a.2).bind fun e=>(zC (zLL d b e) ([],0)).bind fun f=>(yQ a.1 [f]).bind fun g=>(rng (a.2+1)).bind fun c=>df (.inl (g,c))) (df (.inr a.1))
def f_u(b:SPr):Option dp:=(f_E b).bind fun c=>(zC (zLM b c) ([],0)).bind fun a=>df a
def zJr(b:zL)(c:dn)(d:Int×Int)(e:Int)(a:Int×Int):Option ((Int×Int)⊕Int):=cond (a.2<e) ((ixO b.wW a.1).bind fun f=>(ixO c d.2).bind fun g=>(ixO f g).bind fun h=>(rng (a.2+1)).bind fun i=>df (.inl (h,i))) (df (.inr a.1))
def zNc(c:zL)(d b:dn)(a:Int×Int):Option ((Int×Int)⊕Int):=cond (a.2<b.length) ((ixO b a.2).bind fun e=>(zC (zJr c d a e) (a.1,0)).bind fun f=>(rng (a.2+1)).bind fun g=>df (.inl (f,g))) (df (.inr a.1))
def f_y(a:zL)(b c:dn):Option Int:=(zC (zNc a b c) (0,0)).bind fun d=>df d
def zLN(a:zL)(b c:Int):Option Int:=(f_y a [b] [c]).bind fun d=>df d
def zJs(c:zL)(d e:Int)(a:Int×dn)(b:(List (Int×dn))×Int):Option (((List (Int×dn))×Int)⊕(List (Int×dn))):=cond (b.2<d) ((ixO c.wW a.1).bind fun f=>(zLN c e b.2).bind fun g=>(ixO f g).bind fun h=>(f_q a.2).bind fun i=>(yQ i [b.2]).bind fun j=>(zGb b.1 h j).bind fun k=>(rng (b.2+1)).bind fun l=>df (.inl (k,l))) (df (.inr b.1))
def yJ(c:zL)(d e:Int)(a:Int×dn)(b:List (Int×dn)):Option (List (Int×dn)):=zC (zJs c d e a) (b,0)
def zLO(e:zL)(d:dn)(f:Int)(a:(List (Int×dn))×Int):Option (((List (Int×dn))×Int)⊕(List (Int×dn))):=cond (a.2<d.length) ((ixO d a.2).bind fun g=>(qX List.Perm (yJ e f g) a.1 []).bind fun b=>(rng (a.2+1)).bind fun c=>df (.inl (b,c))) (df (.inr a.1))
def f_m(b:zL)(c:dn)(d:Int):Option (List (Int×dn)):=(zGb [] 0 []).bind fun e=>(zC (zLO b c d) (e,0)).bind fun a=>df a
def yH(c:zL)(d f g:Int)(a:Int×dn)(e:dn):Option dn:=(ixO c.wW g).bind fun h=>(ixO h d).bind fun i=>(ixO c.wW d).bind fun j=>(ixO j a.1).bind fun k=>cond (i==k) ((zJj a.2 f 0).bind fun l=>(yQ e l).bind fun b=>df b) (df e)
def zJt(e:zL)(d:dn)(f:List (Int×dn))(g h:Int)(a:dn×Int):Option ((dn×Int)⊕dn):=cond (a.2<d.length) ((ixO d a.2).bind fun i=>(qX Eq (yH e g h i) f a.1).bind fun b=>(rng (a.2+1)).bind fun c=>df (.inl (b,c))) (df (.inr a.1))
def f_w(g:zL)(c:dn)(b:List (Int×dn))(d k h:Int):Option (dn×Bool):=cond ((kV b d).isSome) (df ([],di)) ((zLN g d k).bind fun i=>cond (!(kV b i).isSome) (df ([],di)) ((rng (h-c.length)).bind fun j=>(zJj ((kV b i).getD []) j 0).bind fun l=>(zC (zJt g c b d j) (l,0)).bind fun a=>(rng (1+c.length)).bind fun e=>(rng (h*e)).bind fun f=>df (a,((a.length:Int)==f))))
def zJu(b c:dn)(a:Int):Option (Int⊕(Unit⊕Int)):=cond (a<b.length) ((ixO b a).bind fun e=>cond (a≥(c.length:Int)) (df (.inr (.inr 1))) ((ixO c a).bind fun f=>(zNb e f).bind fun d=>cond (d != 0) (df (.inr (.inr d))) ((rng (a+1)).bind fun g=>df (.inl g)))) (df (.inr (.inl ())))
def f_F(b c:dn):Option Int:=(zC (zJu b c) 0).bind fun a=>match a with|(.inl _)=>cond ((b.length:Int)<c.length) (df (-1)) (df 0)|(.inr a)=>df a
def zJv(v:SPr)(u:dp)(w:Int)(c:dn)(x:(List (Int×dn)))(a:dn×dp×Int):Option ((dn×dp×Int)⊕(dn×dp)):=cond (a.2.2<u.length) ((f_w (zL.mk u) c x a.2.2 w (v.zA.length:Int)).bind fun b=>cond (!b.2) ((rng (a.2.2+1)).bind fun y=>df (.inl (a.1,a.2.1,y))) (cond (!a.1.isEmpty) ((f_F b.1 a.1).bind fun d=>cond (d<0) ((neO b.1).bind fun _=>cond (d≤0) ((yQ [a.2.2] c).bind fun e=>(yQ [] [e]).bind fun f=>(rng (a.2.2+1)).bind fun g=>df (.inl (b.1,f,g))) ((rng (a.2.2+1)).bind fun h=>df (.inl (b.1,[],h)))) (cond (d≤0) ((yQ [a.2.2] c).bind fun i=>(yQ a.2.1 [i]).bind fun j=>(rng (a.2.2+1)).bind fun k=>df (.inl (a.1,j,k))) ((rng (a.2.2+1)).bind fun l=>df (.inl (a.1,a.2.1,l))))) (cond ((-1)<0) ((neO b.1).bind fun _=>cond ((-1)≤0) ((yQ [a.2.2] c).bind fun m=>(yQ [] [m]).bind fun n=>(rng (a.2.2+1)).bind fun o=>df (.inl (b.1,n,o))) ((rng (a.2.2+1)).bind fun p=>
 df (.inl (b.1,[],p)))) (cond (decide ((-1)≤0)) ((yQ [a.2.2] c).bind fun q=>(yQ a.2.1 [q]).bind fun r=>(rng (a.2.2+1)).bind fun s=>df (.inl (a.1,r,s))) ((rng (a.2.2+1)).bind fun t=>df (.inl (a.1,a.2.1,t))))))) (df (.inr (a.1,a.2.1)))
def zLP(h:SPr)(e:dp)(f:Int)(b:dp×dp×(List dp)×Int)(a:dn×dp×Int):Option ((dn×dp×Int)⊕(dn×dp)):=cond (a.2.2<b.1.length) ((ixO b.1 a.2.2).bind fun g=>(f_m (zL.mk e) g f).bind fun i=>(zC (zJv h e f g i) (a.1,a.2.1,0)).bind fun c=>(rng (a.2.2+1)).bind fun d=>df (.inl (c.1,c.2,d))) (df (.inr (a.1,a.2.1)))
def zFw(g:SPr)(h:dp)(i:Int)(a:dp×dp×(List dp)×Int):Option ((dp×dp×(List dp)×Int)⊕(dp×(List dp))):=cond (a.2.2.2≥0) ((zC (zLP g h i a) ([],[],0)).bind fun c=>(f_D c.1 (g.zA.length:Int)).bind fun b=>(ixO b 0).bind fun d=>(ixO a.2.1 a.2.2.2).bind fun _=>(zS b 1 b.length).bind fun e=>(ixO a.2.2.1 a.2.2.2).bind fun _=>(rng (a.2.2.2-1)).bind fun f=>df (.inl (c.2,a.2.1.set a.2.2.2.toNat d,a.2.2.1.set a.2.2.2.toNat e,f))) (df (.inr (a.2.1,a.2.2.1)))
def f_i(a:SPr):Option SPr:=cond ((a.zA.length:Int)==0) (df (SPr.mk [] [] [])) ((f_u a).bind fun d=>(ixO a.zA 0).bind fun e=>(f_p a.zA).bind fun c=>(rng ((a.zA.length:Int)-1)).bind fun f=>(zC (zFw a d e) ([[]],c.zV,c.zB,f)).bind fun b=>df (SPr.mk c.zA b.1 b.2))
def zPi(a:SPr)(b:Int):Option (Int⊕(Unit⊕(SPr×Int))):=cond (b<a.zA.length) ((ixO a.zA b).bind fun c=>(ixO a.zA 0).bind fun d=>cond (c != d) (df (.inr (.inr ((SPr.mk [] [] []),5)))) ((rng (b+1)).bind fun e=>df (.inl e))) (df (.inr (.inl ())))
def f_T(a:SPr):Option (SPr×Int):=(zMX a).bind fun c=>cond (!c) (df ((SPr.mk [] [] []),1)) ((f_R a).bind fun d=>cond (d> 27) (df ((SPr.mk [] [] []),3)) ((zC (zPi a) 0).bind fun b=>match b with|(.inl _)=>(f_i a).bind fun e=>df (e,0)|(.inr b)=>df b))
def zNd(c:SPr):Option Bool:=(zMP c 1048576).bind fun l=>cond (l<0) (df dh) ((zHy c).bind fun m=>(f_z m).bind fun b=>(zHy c).bind fun h=>(f_T h).bind fun d=>(zH5 d.1 b.1).bind fun n=>cond (!n) (df di) (cond (d.2 != b.2) (df di) ((zHy c).bind fun o=>(zH5 h o).bind fun p=>cond (!p) (df di) ((zL6 h 1).bind fun q=>cond (q.1<0) (df di) ((zH5 d.1 b.1).bind fun i=>cond (!i) (df di) (cond (d.2 != b.2) (df di) ((zL6 d.1 1).bind fun a=>(zLB a.2 1).bind fun e=>cond (e<0) (df di) (cond (e != a.1) (df di) ((zHy c).bind fun j=>(f_T j).bind fun f=>(zH5 f.1 b.1).bind fun k=>cond (!k) (df di) (cond (f.2 != b.2) (df di) ((zLB a.2 1).bind fun g=>cond (g<0) (df di) (cond (g != a.1) (df di) (df dh)))))))))))))
end Go.Wk
