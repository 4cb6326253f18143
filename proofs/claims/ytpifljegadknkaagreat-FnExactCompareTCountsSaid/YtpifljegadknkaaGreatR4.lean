/-
  For every circuit, the program's CompareTCounts returns what the reference's returns and leaves its argument as it was.
-/
import Derived.Test.YtpifljegadknkaaGreatR3
import Derived.Test.YtpifljegadknkaaGreatR2
import Derived.Test.YtpifljegadknkaaGreatR1
import Derived.Shelf.SlSortCmp.WholeK
import Derived.Shelf.SlSortCmp.NoneTotal
import Derived.Shelf.SlGeneric
set_option linter.unusedVariables false
set_option linter.unusedSimpArgs false
set_option maxRecDepth 4000
set_option linter.unusedSectionVars false
namespace Go.Proofs.YtpifljegadknkaaGreat
open Go.RowKit
theorem Xmd{N M:Nat}{ws:List Wr}(h:RgW N ws)(hN:N≤M) : RgW M ws:=fun x hx=>by have:=h x hx;omega
def BrG(x:Br) : Prop:=RgW x.d.ns.length x.d.ws
theorem Xik{n:Nat}{x:Br}(h:BrOk n x)(hg:BrG x){k p q:Int}(hq:0≤q∧q.toNat<n) : BrG (nodB x k p q):=by
 have h1:=h.at hq;have hl:=(X60 x k p q).1
 unfold BrG
 rw [hl]
 exact X9g (Xmd hg (by omega)) (by omega) (by omega)
theorem Xhz{n:Nat}{x:Br}(h:BrOk n x)(hg:BrG x){q:Int}(hq:0≤q∧q.toNat<n) : BrG (plcB x q):=by
 unfold plcB
 split
 ·exact Xik h hg hq
 ·exact hg
theorem Xc0{n:Nat}{x:Br}(h:BrOk n x)(hg:BrG x){q:Int}(hq:0≤q∧q.toNat<n)(m:Int) : BrG (trnB x q m):=by
 have h1:=Xhz h hg hq
 show RgW (adN _ _ _).length (plcB x q).d.ws
 rw [X1s]
 exact h1
theorem Xpe{n:Nat}{x:Br}(h:BrOk n x)(hg:BrG x){p q:Int}(hp:0≤p∧p.toNat<n)(hq:0≤q∧q.toNat<n) : BrG (czB x p q):=by
 have k1:=X31 h p
 have k2:=X31 k1 q
 have h1:=Xhz k1 (Xhz h hg hp) hq
 have a1:=k1.at hp
 have a2:=k2.at hq
 have l2:=X2t (plcB x p) q
 unfold czB
 dsimp only
 split
 ·exact Xdv h1 _
 ·exact X9g (N:=(plcB (plcB x p) q).d.ns.length) h1 ⟨a1.1,by omega⟩ ⟨a2.1,by omega⟩
theorem Xwv{n:Nat}{x:Br}(h:BrOk n x)(hx:BrG x){g:Gt}(hg:gOk (n:Int) g=true) : BrG (gtB x g):=by
 have ha:=Xbc hg;have hb:=Xb9 hg
 unfold gtB
 split
 ·exact hx
 split
 ·exact Xc0 (X1v h _) hx ha _
 split
 ·exact Xc0 (X1v (X4s h _ _) _) (Xc0 h hx ha _) ha _
 split
 ·exact Xpe (X1v h _) hx ha hb
 split
 ·exact Xpe h hx ha hb
 split
 ·exact hx
 split
 ·exact hx
 ·exact Xc0 h hx ha _
theorem Xj0{n:Nat} : ∀ (l:List Gt) (x:Br),BrOk n x→BrG x→(∀ g ∈ l,gOk (n:Int) g=true)→BrOk n (l.foldl gtB x)∧BrG (l.foldl gtB x)∧(l.foldl gtB x).d.ns.length≤x.d.ns.length+3*l.length∧(l.foldl gtB x).d.ws.length≤x.d.ws.length+3*l.length
 | [],x,h,hg,_=>⟨h,hg,by simp,by simp⟩
 | g::l,x,h,hg,hl=>by
  have h0:=hl g (by simp)
  have h1:=Xj0 l (gtB x g) (Xig h h0) (Xwv h hg h0) fun z hz=>hl z (by simp [hz])
  have h2:=Xcr x g
  rw [List.foldl_cons,Qs]
  exact ⟨h1.1,h1.2.1,by omega,by omega⟩
theorem Xok{c:Cx}(hc:cOk c=true) : ∀ j,j≤c.n.toNat→BrOk c.n.toNat (ofK c j)∧BrG (ofK c j)∧(ofK c j).d.ns.length≤c.n.toNat+3*c.gs.length+j∧(ofK c j).d.ws.length≤3*c.gs.length+j
 | 0,_=>by
  obtain ⟨n9,hn9,hn1,hn5⟩:=Xar hc
  have hcn:c.n=((c.n.toNat:Nat) : Int):=by omega
  have h:=Xj0 c.gs (ofB0 c) (Xa0 ⟨by omega,by omega⟩) (fun x hx=>by cases hx) (fun g hg=>by
   obtain ⟨i,hi⟩:=List.mem_iff_getElem?.1 hg
   exact Xgk hc hcn hi)
  have e1:(ofB0 c).d.ns.length=c.n.toNat:=X51 _
  have e2:(ofB0 c).d.ws.length=0:=rfl
  refine ⟨h.1,h.2.1,?_,?_⟩
  ·show (ofB1 c).d.ns.length≤_
   have:=h.2.2.1
   unfold ofB1
   omega
  ·show (ofB1 c).d.ws.length≤_
   have:=h.2.2.2
   unfold ofB1
   omega
 | j+1,hj=>by
  obtain ⟨n9,hn9,hn1,hn5⟩:=Xar hc
  obtain ⟨h1,h2,h3,h4⟩:=Xok hc j (by omega)
  have h5:=X60 (ofK c j) 2 (j:Int) (j:Int)
  rw [Xgx]
  exact ⟨X9p h1 ⟨by omega,by omega⟩,Xik h1 h2 ⟨by omega,by omega⟩,by omega,by omega⟩
theorem Xnc{c:Cx}(hc:cOk c=true) : RgW (ofD c).ns.length (ofD c).ws∧(ofD c).ns.length≤2000∧(ofD c).ws.length≤2000:=by
 obtain ⟨n9,hn9,hn1,hn5⟩:=Xar hc;have hl:=X9v hc;obtain ⟨_,h2,h3,h4⟩:=Xok hc c.n.toNat (Qb _)
 refine ⟨h2,?_,?_⟩
 ·show (ofK c c.n.toNat).d.ns.length≤_;omega
 ·show (ofK c c.n.toNat).d.ws.length≤_;omega
theorem Xta{c:Cx}(hc:cOk c=true) : ∀ x ∈ (ofD c).ws,-1000000≤x.b∧x.b≤1000000:=fun x hx=>by
 have h:=Xnc hc
 have:=h.1 x hx
 omega
def dgC(c:Cx) : Bool:=cOk c&&goodD (ofD c)
theorem Xow{c:Cx}(h:cOk c=false) : dgC c=false:=by unfold dgC;rw [h];rfl
theorem Xss{c:Cx}(h:goodD (ofD c)=false) : dgC c=false:=by unfold dgC;rw [h,Bool.and_false]
theorem Xvy{c:Cx}(h:cOk c=true)(h2:goodD (ofD c)=true) : dgC c=true:=by unfold dgC;rw [h,h2];rfl
theorem X3p{c:Cx}(h:dgC c=true) : goodD (ofD c)=true:=by unfold dgC at h;simp only [Qd] at h;exact h.2
theorem Xoj{c:Cx}(h:dgC c=true) : cOk c=true:=by unfold dgC at h;simp only [Qd] at h;exact h.1
def oddP(d:Dg)(s k:Int) : Int:=s+(d.ns.getD k.toNat nZ).p % 2
def oddD(d:Dg) : Int:=(spL d.ns).foldl (oddP d) 0
theorem Xcg{d:Dg} : ∀ (l:List Int) (s:Int),s≤l.foldl (oddP d) s∧l.foldl (oddP d) s≤s+l.length
 | [],s=>by simp
 | k::l,s=>by
  have h:=Xcg (d:=d) l (oddP d s k)
  rw [List.foldl_cons,Qs]
  have:oddP d s k=s+(d.ns.getD k.toNat nZ).p % 2:=rfl
  omega
theorem Xhe{ns:List Nd}{j:Nat}{u:Int}(h:(spL ns)[j]? = some u) : 0≤u∧u.toNat<ns.length:=by
 have hm:=Qe h
 unfold spL spK at hm
 obtain ⟨i,hi,rfl⟩:=W6.1 hm
 have:=W2.1 (List.mem_filter.1 hi).1
 omega
def alR5:List Int:=[1,2,3,4,5]
def vfC(a b:Cx) : Option Cx:=(invO b).bind (conO a)
def vfO(a b:Cx) : Bool:=(vfC a b).isSome&&dgC ((vfC a b).getD cZ)
def vfV(a b:Cx) : Bool:=vfO a b&&plD (siD (ofD ((vfC a b).getD cZ)) alR5)
theorem Xvl(w0:World)(c:Cx)(Ac:Option Addr)(cc:Nat)(E:Rd w0 w0.heap.size 123 encG Ac c.gs) : Ret Tryz.prog 36 [.agg #[vi c.n,.slice Ac c.gs.length cc]] w0 (fun v w=>∃ A c1 B e,v=.tuple #[.agg #[vi (if (dgC c)=true then ofD c else zD).n,.slice A (if (dgC c)=true then ofD c else zD).ns.length c1,.slice B (if (dgC c)=true then ofD c else zD).ws.length e,vi (if (dgC c)=true then ofD c else zD).t,vi (if (dgC c)=true then ofD c else zD).r],.bool (dgC c)]∧Rd w w.heap.size 81 encNd A (if (dgC c)=true then ofD c else zD).ns∧Rd w w.heap.size 83 encWr B (if (dgC c)=true then ofD c else zD).ws∧(if (dgC c)=true then ofD c else zD).ws.length≤e∧Below w0.heap.size w0 w):=by
 refine enter Tryz.func36 rfl 16 rfl rfl ?_;intro a k
 have g:=bz w0
 refine Zs k fun _ aJ=>?_;refine Zf (X0h (zs:=[vi c.n,.slice Ac c.gs.length cc]) rfl rfl) ?_;rintro _ w1 ⟨b3,rfl,aK,m,q⟩;have aP:=Q0 g.size aK;have g:=btr g m;refine Zf (X00 (zs:=[vi 0,.slice none 0 0,.slice none 0 0,vi 0,vi 0]) X0o rfl) ?_;rintro _ w2 ⟨b6,rfl,aL,m,b⟩;have x:=Q0 g.size aL;have q:=q.below m;have g:=btr g m;refine Za rfl<|ZX aJ fun a k _ aM=>?_;refine Zs k fun _ aN=>?_;refine Ze (Vn X3a q)<|Zf (Vc (F53 _ c Ac cc (E.below' g).top) Xv7) ?_;rintro _ w3 ⟨rfl,m⟩;have q:=q.below m;have b:=b.below m;have g:=btr g m;refine Ze (X0y rfl)<|Zt aN fun a k=>?_
 refine Xh k rfl (fun o=>?_) (fun o=>?_)
 ·have aA:=o
  have a6:dgC c=false:=Xow (by have h8:=o;simpa using h8)
  refine Zs k fun _ aB=>?_;refine Ze (X16 (ps:=[]) (cs:=[vi 0,.slice none 0 0,.slice none 0 0,vi 0,vi 0]) rfl (fun _=>by first|rfl|kernel_rfl))<|Zo (Vw [vi 0,.slice none 0 0,.slice none 0 0,vi 0,vi 0] Xl b) ?_;rintro _ w4 ⟨u,hb⟩;have i:=b;have g:=Below.only g u x;have b:=hb;refine Za rfl<|Zt aB fun a k=>?_;refine Q6<|X7<|X5 k (X1o k rfl (ResV.cellN (l:=[vi 0,.slice none 0 0,.slice none 0 0,vi 0,vi 0]) rfl X2 (b.at 0) rfl) rfl) ?_
  rw [a6,Q3 Bool.false_ne_true]
  exact ⟨none,0,none,0,rfl,(Rd.nil _ _ _ _ _),(Rd.nil _ _ _ _ _),(Qf _),g⟩
 have aA:=o
 have o:cOk c=true:=by have h8:=o;simpa using h8
 refine Q7<|aM _ _<|Zs k fun _ aC=>?_;refine Ze (Vn X3a q)<|Zf (Vc (Xua _ c Ac cc (E.below' g).top o) Xjx) ?_;rintro _ w5 ⟨y,h,C,D,rfl,d,f,G,m⟩;have b:=b.below m;have g:=btr g m;refine Zf (X00 (zs:=[vi 0,.slice none 0 0,.slice none 0 0,vi 0,vi 0]) X0o rfl) ?_;rintro _ w6 ⟨b18,rfl,aD,m,j⟩
 have aE:b6≠b18:=by have:=b.lt;omega
 have a7:=Q0 g.size aD;have b:=b.below m;have d:=d.below m;have f:=f.below m;have g:=btr g m;refine Zo (Vw [vi ((ofD c).n),.slice y ((ofD c).ns).length h,.slice C ((ofD c).ws).length D,vi ((ofD c).t),vi ((ofD c).r)] Xl j) ?_;rintro _ w7 ⟨u,hb⟩;have i:=j;have b:=b.only u (by omega);have d:=d.onlyT u i rfl;have f:=f.onlyT u i rfl;have g:=Below.only g u a7;have j:=hb;refine ZX aC fun a k _ aF=>?_;refine Zs k fun _ aG=>?_;refine Ze (Vn X2 j)<|Zf (Vc (Xoy _ (ofD c) (((ofD c).ns).length) rfl y h d.top C D f.top G (by have:=Xnc o;omega) (Xta o)) Xd6) ?_;rintro _ w8 ⟨rfl,m⟩;have b:=b.below m;have j:=j.below m;have d:=d.below m;have f:=f.below m;have g:=btr g m;refine Ze (X0y rfl)<|Zt aG fun a k=>?_
 refine Xh k rfl (fun p=>?_) (fun p=>?_)
 ·have a8:=p
  have a6:dgC c=false:=Xss (by have h8:=p;simpa using h8)
  refine Zs k fun _ aH=>?_;refine Ze (X16 (ps:=[]) (cs:=[vi 0,.slice none 0 0,.slice none 0 0,vi 0,vi 0]) rfl (fun _=>by first|rfl|kernel_rfl))<|Zo (Vw [vi 0,.slice none 0 0,.slice none 0 0,vi 0,vi 0] Xl b) ?_;rintro _ w9 ⟨u,hb⟩;have i:=b;have g:=Below.only g u x;have b:=hb;refine Za rfl<|Zt aH fun a k=>?_;refine Q6<|X7<|X5 k (X1o k rfl (ResV.cellN (l:=[vi 0,.slice none 0 0,.slice none 0 0,vi 0,vi 0]) rfl X2 (b.at 0) rfl) rfl) ?_
  rw [a6,Q3 Bool.false_ne_true]
  exact ⟨none,0,none,0,rfl,(Rd.nil _ _ _ _ _),(Rd.nil _ _ _ _ _),(Qf _),g⟩
 have a8:=p
 have aO:dgC c=true:=Xvy o (by have h8:=p;simpa using h8)
 refine Q7<|aF _ _<|Zs k fun _ aI=>?_;refine Ze (Vn X2 j)<|Zo (Vw [vi ((ofD c).n),.slice y ((ofD c).ns).length h,.slice C ((ofD c).ws).length D,vi ((ofD c).t),vi ((ofD c).r)] Xl b) ?_;rintro _ aQ ⟨u,hb⟩;have i:=b;have d:=d.onlyT u i rfl;have f:=f.onlyT u i rfl;have g:=Below.only g u x;have b:=hb;refine Za rfl<|Zt aI fun a k=>?_
 refine Q6 (X5 k (X1o k rfl (ResV.cellN (l:=[vi ((ofD c).n),.slice y ((ofD c).ns).length h,.slice C ((ofD c).ws).length D,vi ((ofD c).t),vi ((ofD c).r)]) rfl X2 (b.at 0) rfl) rfl) ?_)
 rw [aO,Q4 rfl]
 exact ⟨y,h,C,D,rfl,d.top,f.top,G,g⟩
theorem Xjb(x:World)(d:Dg)(md:Nat)(y:md=d.ns.length)(Ad:Option Addr)(cd:Nat)(h:Rd x x.heap.size 81 encNd Ad d.ns)(Bd:Option Addr)(dd:Nat)(aB:Rd x x.heap.size 83 encWr Bd d.ws)(j:d.ws.length≤dd)(hG:goodD d=true) : Ret Tryz.prog 40 [.agg #[vi d.n,.slice Ad md cd,.slice Bd d.ws.length dd,vi d.t,vi d.r]] x (fun v w=>v=vi (oddD d)∧Below x.heap.size x w):=by
 have hD:=X15 hG;have aU:=hD.m;have aI:=X70 d.ns d.ns.length;refine enter Tryz.func40 rfl 24 rfl rfl ?_;intro a g
 have o:=bz x
 refine Zs g fun _ aJ=>?_;refine Zf (X0h (zs:=[vi d.n,.slice Ad md cd,.slice Bd d.ws.length dd,vi d.t,vi d.r]) rfl rfl) ?_;rintro _ w1 ⟨b4,rfl,aK,hE,i⟩;have aR:=Q0 o.size aK;have o:=btr o hE;refine Za rfl<|Zx aJ fun a g _ aL=>?_;refine Za rfl<|ZX aL fun a g _ aM=>?_;refine Zs g fun _ aN=>?_;refine Ze (Vn X2 i)<|Zf (Vc (Xvg _ d md y Ad cd (h.below' o).top Bd dd (aB.below' o).top j (by omega)) Xlx) ?_;rintro _ w2 ⟨A8,c8,rfl,q,hE⟩;have q:=q.lower o.size;have i:=i.below hE;have o:=btr o hE;refine Ze (X0c rfl Xj)<|Zm rfl<|Zt aN fun a g=>?_;refine Q8<|X01 (σ:=Nat×Int) (fun (s:Nat×Int) (a:Act) (w:World)=>match s with|(k,c)=>Fr a 24 [(1,.pointer (some ⟨b4,0,none⟩)),(3,vi c),(7,.slice A8 (spL d.ns).length c8),(8,vi ((spL d.ns).length:Int)),(9,vi (k:Int))]∧(k≤(spL d.ns).length)∧(c=((spL d.ns).take k).foldl (oddP d) 0)∧Blk w b4 39 [vi d.n,.slice Ad md cd,.slice Bd d.ws.length dd,vi d.t,vi d.r]∧Own w x.heap.size 3 1 encI A8 c8 (spL d.ns)∧d.ws.length≤dd∧Below x.heap.size x w) (fun (s:Nat×Int)=>match s with|(k,c)=>(spL d.ns).length-k) (0,0) ?_ ?_
 ·exact ⟨g.sb,(Qf _),rfl,i,q,j,o⟩
 rintro ⟨k,c⟩ a w3 ⟨g,hk,hc,i,q,j,o⟩;refine Zs g fun _ aO=>?_;refine Ze (X0m rfl rfl)<|ZX aO fun a g _ aC=>?_
 refine Xh g rfl (fun e=>?_) (fun e=>?_)
 ·have a6:=e;have e:=Q2 e
  obtain ⟨aW,aS⟩:=X4 (l:=(spL d.ns)) (k:=k) (by omega)
  obtain ⟨u9,a7⟩:=X4 (l:=spL d.ns) (k:=k) (by have:=e;omega)
  have aX:=Xhe a7;have aP:=X1i hD.p u9.toNat;have aD:=X1z (f:=oddP d) (b:=0) a7
  rw [← hc] at aD
  have aQ:=Xcg (d:=d) ((spL d.ns).take k) 0
  rw [← hc,Qn] at aQ
  have aT:(spL d.ns).length≤d.ns.length:=aI
  refine Q7<|aC _ _<|Q5 fun _ aE=>?_;refine Q8<|Zs g fun _ aF=>?_;refine Zi (k:=k) (u:=u9) (enc:=encI) (l:=(spL d.ns)) trivial rfl rfl Xj X08 Xa q.rd a7 rfl ?_;intro aY a8;refine Ze (X0 rfl X9 a8)<|Za rfl<|Zt aF fun a g=>?_;refine Zr g<|Zm rfl<|Ze (Vd rfl Xi 1)<|Ze (X0 rfl Xz (i.at 1))<|Zm rfl<|Zj (k:=u9.toNat) (u:=(d.ns.getD u9.toNat nZ)) (enc:=encNd) (l:=d.ns) trivial rfl y rfl Xo X07 Xt (h.below' o) (Xb (by omega)) (by omega) ?_;intro aZ aA;refine Ze (X21 rfl X04)<|Ze (X0 rfl X9 (aA.drop 1))<|Ze (Vx (X3y rfl rfl rfl) (Int.tmod_eq_emod_of_nonneg aP.1))<|Ze (Xu rfl rfl (by omega) (by omega))<|Za rfl ?_;refine Zn fun a g=>?_;refine Xd<|aE _ _<|Zr g<|Ze (Xu rfl rfl (by omega) (by omega))<|Zm rfl ?_;refine Zn fun a g=>?_;refine Xf ?_;exact ⟨(k+1,c+((d.ns.getD u9.toNat nZ).p % 2)),⟨g.sb,(by omega),(by rw [aD];rfl),i,q,j,o⟩,(by first|omega|(dsimp only;omega))⟩
 have a6:=e;have e:=Q1 e
 have aG:oddD d=c:=by rw [hc,Qi (by have:=e;omega)];rfl
 refine Q9<|Xk<|Xk<|X03 ?_;refine aM _ _<|Zs g fun _ aH=>?_;refine Zm rfl<|Za rfl<|Zt aH fun a g=>?_
 refine Q6 (X5 g (Xr g rfl rfl) ?_)
 exact ⟨by rw [aG],o⟩
abbrev wrV(x:Wr) : Value:=.agg #[.int .i64 x.a,.int .i64 x.b,.bool x.h]
abbrev ndV(x:Nd) : Value:=.agg #[.int .i64 x.k,.int .i64 x.p]
theorem Xmy(d:Nat)(x y:Nd)(w:World) : (Op.equalIn (d+2) 81 (ndV x) (ndV y)).run Tryz.prog w=.ok (decide (x=y)) w:=by
 have hf:=Xfw Tryz.underlying81;refine (run_equalIn_struct w (d+1) 81 _ _ (by rw [hf];exact Tryz.underlying81) (by kernel_rfl)).trans ?_
 rw [hf]
 have:decide (x=y)=(decide (x.k=y.k)&&(decide (x.p=y.p)&&true)):=by
  obtain ⟨a,b⟩:=x;obtain ⟨a',b'⟩:=y
  simp
 rw [this]
 refine X6a (by decide) X9 Tryz.underlying3 rfl rfl fun _=>?_;refine X6a (by decide) X9 Tryz.underlying3 rfl rfl fun _=>?_
 rfl
theorem Xn2:Tryz.prog.eqGuardType Tryz.prog.depth 81=false:=by kernel_rfl
def cmW(x y:Wr) : Int:=if cmI x.a y.a≠0 then cmI x.a y.a else cmI x.b y.b
def orI:List Int→Int
 | []=>0
 | x::l=>if x≠0 then x else orI l
theorem Xng:∀ {l:List Int} {k:Nat} {u:Int},(∀ x ∈ l.take k,x=0)→l[k]? = some u→u≠0→orI l=u
 | [],_,_,_,h,_=>by simp at h
 | x::l,0,u,_,h,hu=>by
  simp only [List.getElem?_cons_zero,Option.some.injEq] at h
  subst h
  exact Q4 hu
 | x::l,k+1,u,ha,h,hu=>by
  have hx:x=0:=ha x (by simp)
  unfold orI
  rw [Q3 (by simpa using hx)]
  exact Xng (l:=l) (k:=k) (fun z hz=>ha z (by simp [hz])) (by simpa using h) hu
theorem Xu7:∀ {l:List Int},(∀ x ∈ l,x=0)→orI l=0
 | [],_=>rfl
 | x::l,ha=>by
  have hx:x=0:=ha x (by simp)
  unfold orI
  rw [Q3 (by simpa using hx)]
  exact Xu7 fun z hz=>ha z (by simp [hz])
theorem Xn4(x y:Wr) : orI [cmI x.a y.a,cmI x.b y.b]=cmW x y:=by
 unfold orI cmW
 split
 ·rfl
 ·unfold orI
  split
  ·rfl
  ·rename_i h;simp only [ne_eq,Decidable.not_not] at h;rw [h];rfl
def fnI(ns:List Nd)(x:Nd) : Int:=idxF ns fun y=>decide (x=y)
def nokI(n:Int)(x:Nd) : Bool:=if (x.k==0)=true then x.p==0 else if (x.k==1||x.k==2)=true then inR x.p 0 (n-1) else if (x.k==3)=true then inR x.p 0 7 else false
def bnI(ns:List Nd) : Int:=((ns.filter fun x=>x.k==1||x.k==2).length:Int)
theorem Xx2{ns:List Nd}{j:Nat}{x:Nd}(hj:ns[j]? = some x)(h:(x.k==1||x.k==2)=true) : bnI (ns.take (j+1))=bnI (ns.take j)+1:=by
 unfold bnI
 rw [X30 (q:=fun x=>x.k==1||x.k==2) hj,Q4 h,Qh]
 rfl
theorem Xwf{ns:List Nd}{j:Nat}{x:Nd}(hj:ns[j]? = some x)(h:(x.k==1||x.k==2)=false) : bnI (ns.take (j+1))=bnI (ns.take j):=by
 unfold bnI
 rw [X30 (q:=fun x=>x.k==1||x.k==2) hj,Q3 (by rw [h];decide),List.append_nil]
theorem Xvp(ns:List Nd)(j:Nat) : 0≤bnI (ns.take j)∧bnI (ns.take j)≤j:=by
 have h1:=List.length_filter_le (fun x:Nd=>x.k==1||x.k==2) (ns.take j)
 rw [Qn] at h1
 unfold bnI
 omega
def heQ(d:Dg)(q:Nat) : Bool:=!(decide (fnI d.ns ⟨1,q⟩<0)||decide (fnI d.ns ⟨2,q⟩<0))
def heD(d:Dg) : Bool:=(List.range d.n.toNat).all (heQ d)&&bnI d.ns==2*d.n
theorem Xf6{α:Type}{l:List α}{q:α→Bool} : decide (0≤idxF l q)=l.any q:=by
 rcases X4h l q with ⟨h1,h2⟩|⟨k,x,h1,h2,h3⟩
 ·rw [h1,W7.2 fun x hx=>by rw [h2 x hx];decide]
  rfl
 ·rw [h1,List.any_eq_true.2 ⟨x,Qe h2,h3⟩]
  simp
def wvQ(d:Dg)(i:Nat) : Bool:=!(decide ((d.ws.getD i wZ).a<0)||decide ((d.ws.getD i wZ).b≤(d.ws.getD i wZ).a)||decide ((d.ns.length:Int)≤(d.ws.getD i wZ).b)||(decide (0<(i:Int))&&decide (0≤cmW (d.ws.getD (i-1) wZ) (d.ws.getD i wZ))))
def nvQ(d:Dg)(i:Nat) : Bool:=!(((d.ns.getD i nZ).k==0&&cnW d.ws (i:Int) != 0)||(((d.ns.getD i nZ).k==1||(d.ns.getD i nZ).k==2)&&cnW d.ws (i:Int) != 1))
def hvQ(d:Dg) : Bool:=!(!(inR d.n 1 5)||decide (40<(d.ns.length:Int))||!(inR d.t 0 7)||!(inR d.r (-60) 60)||(d.ns.any fun x=>!nokI d.n x)||!(heD d))
def ivD(d:Dg) : Bool:=hvQ d&&(List.range d.ws.length).all (wvQ d)&&(List.range d.ns.length).all (nvQ d)
theorem Xoo{d:Dg}{i:Nat}{u:Wr}(hu:d.ws[i]? = some u) : wvQ d i = !(decide (u.a<0)||decide (u.b≤u.a)||decide ((d.ns.length:Int)≤u.b)||(decide (0<(i:Int))&&decide (0≤cmW (d.ws.getD (i-1) wZ) u))):=by
 have h:d.ws.getD i wZ=u:=by rw [Qa,hu];rfl
 unfold wvQ
 rw [h]
theorem Xno{d:Dg}{i:Nat}{u:Nd}(hu:d.ns[i]? = some u) : nvQ d i = !((u.k==0&&cnW d.ws (i:Int) != 0)||((u.k==1||u.k==2)&&cnW d.ws (i:Int) != 1)):=by
 have h:d.ns.getD i nZ=u:=by rw [Qa,hu];rfl
 unfold nvQ
 rw [h]
theorem Xwk{d:Dg}(h:(!(inR d.n 1 5)||decide (40<(d.ns.length:Int))||!(inR d.t 0 7)||!(inR d.r (-60) 60)||(d.ns.any fun x=>!nokI d.n x)||!(heD d))=true) : ivD d=false:=by
 unfold ivD hvQ;rw [h];rfl
theorem Xwx{d:Dg}{i:Nat}(hi:i<d.ws.length)(h:wvQ d i=false) : ivD d=false:=by
 unfold ivD
 rw [X4w (q:=wvQ d) hi h,Bool.and_false,Bool.false_and]
theorem Xws{d:Dg}{i:Nat}(hi:i<d.ns.length)(h:nvQ d i=false) : ivD d=false:=by
 unfold ivD
 rw [X4w (q:=nvQ d) hi h,Bool.and_false]
theorem Xw8{d:Dg}(h:(!(inR d.n 1 5)||decide (40<(d.ns.length:Int))||!(inR d.t 0 7)||!(inR d.r (-60) 60)||(d.ns.any fun x=>!nokI d.n x)||!(heD d))=false)(h2:∀ i,i<d.ws.length→wvQ d i=true)(h3:∀ i:Nat,i<d.ns.length→nvQ d i=true) : ivD d=true:=by
 unfold ivD hvQ
 rw [h,X4j (q:=wvQ d) h2,X4j (q:=nvQ d) h3]
 rfl
theorem Xnh(i:World)(Al:Option Addr)(cl:Nat)(l:List Wr)(aA:Rd i i.heap.size 83 encWr Al l)(kq:FuncId)(pq:List Value)(Fq:FuncF Tryz.prog kq)(q:Wr→Bool)(hq:∀ x w,Below i.heap.size i w→Ret Tryz.prog kq ([wrV x]++pq) w (fun v w'=>v=.bool (q x)∧Below w.heap.size w w'))(aN:l.length≤1000000000) : Ret Tryz.prog 160 [.slice Al l.length cl,.func (.func kq) #[] pq.toArray] i (fun v w=>v=vi (idxF l q)∧Below i.heap.size i w):=by
 refine enter Tryz.func160 rfl 19 rfl rfl ?_;intro a c
 have j:=bz i
 refine Zs c fun _ aG=>?_;refine Za rfl<|ZX aG fun a c _ aH=>?_;refine Zs c fun _ aI=>?_;refine Zm rfl<|Ze (X0c rfl Xv)<|Zm rfl<|Zt aI fun a c=>?_;refine Q8<|X01 (σ:=Nat) (fun (k:Nat) (a:Act) (w:World)=>Fr a 19 [(0,.slice Al l.length cl),(1,.func (.func kq) #[] pq.toArray),(7,vi (l.length:Int)),(8,vi (k:Int))]∧(k≤l.length)∧(((l.take k).all fun x=>!q x)=true)∧Below i.heap.size i w) (fun (k:Nat)=>l.length-k) 0 ?_ ?_
 ·exact ⟨c.sb,(Qf _),rfl,j⟩
 rintro k a w1 ⟨c,hk,f,j⟩;refine Zs c fun _ aJ=>?_;refine Ze (X0m rfl rfl)<|ZX aJ fun a c _ aK=>?_
 refine Xh c rfl (fun d=>?_) (fun d=>?_)
 ·have aB:=d;have d:=Q2 d
  obtain ⟨u8,aO⟩:=X4 (l:=l) (k:=k) (by omega)
  obtain ⟨m,a6⟩:=X4 (l:=l) (k:=k) (by have:=d;omega)
  refine Q7<|aK _ _<|Q5 fun _ aL=>?_;refine Q8<|Zs c fun _ aC=>?_;refine Zm rfl<|Za rfl<|Zx aC fun a c _ aD=>?_;refine Zm rfl<|Zm rfl<|Zm rfl<|Zi (k:=k) (u:=m) (enc:=encWr) (l:=l) trivial rfl rfl Xv X0b Xx (aA.below' j) a6 rfl ?_;intro aP a7;refine Ze (X02 (l:=[vi m.a,vi m.b,.bool m.h]) rfl X17 a7 rfl)<|Zf (X4q (cs:=pq) (vs:=[.agg #[vi m.a,vi m.b,.bool m.h]]) rfl rfl Fq (hq m _ j)) ?_;rintro _ w2 ⟨rfl,hE⟩;have j:=btr j hE;refine Zt aD fun a c=>?_
  refine Xh c rfl (fun e=>?_) (fun e=>?_)
  ·have a8:=e
   have g:idxF l q=(k:Int):=X82 f a6 e
   refine Zs c fun _ aE=>?_;refine Zm rfl<|Za rfl<|Zt aE fun a c=>?_;refine Q6<|Xq<|X7<|X7 ?_;refine Xq<|X7<|X5 c (Xr c rfl rfl) ?_;exact ⟨by rw [g],j⟩
  have a8:=e;have aM:=X6e f a6 e;refine Q7<|Xd<|aL _ _<|Zr c ?_;refine Ze (Xu rfl rfl (by omega) (by omega))<|Zm rfl ?_;refine Zn fun a c=>?_;refine Xf ?_;exact ⟨k+1,⟨c.sb,(by omega),aM,j⟩,(by omega)⟩
 have aB:=d;have d:=Q1 d
 have g:idxF l q = -1:=X7h f (by have:=d;omega)
 refine Q9<|Xk<|Xk<|X03 ?_;refine aH _ _<|Zs c fun _ aF=>?_;refine Za rfl<|Zt aF fun a c=>?_
 refine Q6 (X5 c (Xr c rfl rfl) ?_)
 exact ⟨by rw [g],j⟩
theorem Xtl(g:World)(Al:Option Addr)(cl:Nat)(l:List Nd)(aA:Rd g g.heap.size 81 encNd Al l)(kq:FuncId)(pq:List Value)(Fq:FuncF Tryz.prog kq)(q:Nd→Bool)(hq:∀ x w,Below g.heap.size g w→Ret Tryz.prog kq ([ndV x]++pq) w (fun v w'=>v=.bool (q x)∧Below w.heap.size w w'))(aN:l.length≤1000000000) : Ret Tryz.prog 148 [.slice Al l.length cl,.func (.func kq) #[] pq.toArray] g (fun v w=>v=vi (idxF l q)∧Below g.heap.size g w):=by
 refine enter Tryz.func148 rfl 19 rfl rfl ?_;intro a b
 have i:=bz g
 refine Zs b fun _ aG=>?_;refine Za rfl<|ZX aG fun a b _ aH=>?_;refine Zs b fun _ aI=>?_;refine Zm rfl<|Ze (X0c rfl Xo)<|Zm rfl<|Zt aI fun a b=>?_;refine Q8<|X01 (σ:=Nat) (fun (k:Nat) (a:Act) (w:World)=>Fr a 19 [(0,.slice Al l.length cl),(1,.func (.func kq) #[] pq.toArray),(7,vi (l.length:Int)),(8,vi (k:Int))]∧(k≤l.length)∧(((l.take k).all fun x=>!q x)=true)∧Below g.heap.size g w) (fun (k:Nat)=>l.length-k) 0 ?_ ?_
 ·exact ⟨b.sb,(Qf _),rfl,i⟩
 rintro k a w1 ⟨b,hk,e,i⟩;refine Zs b fun _ aJ=>?_;refine Ze (X0m rfl rfl)<|ZX aJ fun a b _ aK=>?_
 refine Xh b rfl (fun c=>?_) (fun c=>?_)
 ·have aB:=c;have c:=Q2 c
  obtain ⟨u8,aO⟩:=X4 (l:=l) (k:=k) (by omega)
  obtain ⟨u9,a6⟩:=X4 (l:=l) (k:=k) (by have:=c;omega)
  refine Q7<|aK _ _<|Q5 fun _ aL=>?_;refine Q8<|Zs b fun _ aC=>?_;refine Zm rfl<|Za rfl<|Zx aC fun a b _ aD=>?_;refine Zm rfl<|Zm rfl<|Zm rfl<|Zi (k:=k) (u:=u9) (enc:=encNd) (l:=l) trivial rfl rfl Xo X07 Xt (aA.below' i) a6 rfl ?_;intro aP a7;refine Ze (X02 (l:=[vi u9.k,vi u9.p]) rfl X2i a7 rfl)<|Zf (X4q (cs:=pq) (vs:=[.agg #[vi u9.k,vi u9.p]]) rfl rfl Fq (hq u9 _ i)) ?_;rintro _ w2 ⟨rfl,hE⟩;have i:=btr i hE;refine Zt aD fun a b=>?_
  refine Xh b rfl (fun d=>?_) (fun d=>?_)
  ·have a8:=d
   have f:idxF l q=(k:Int):=X82 e a6 d
   refine Zs b fun _ aE=>?_;refine Zm rfl<|Za rfl<|Zt aE fun a b=>?_;refine Q6<|Xq<|X7<|X7 ?_;refine Xq<|X7<|X5 b (Xr b rfl rfl) ?_;exact ⟨by rw [f],i⟩
  have a8:=d;have aM:=X6e e a6 d;refine Q7<|Xd<|aL _ _<|Zr b ?_;refine Ze (Xu rfl rfl (by omega) (by omega))<|Zm rfl ?_;refine Zn fun a b=>?_;refine Xf ?_;exact ⟨k+1,⟨b.sb,(by omega),aM,i⟩,(by omega)⟩
 have aB:=c;have c:=Q1 c
 have f:idxF l q = -1:=X7h e (by have:=c;omega)
 refine Q9<|Xk<|Xk<|X03 ?_;refine aH _ _<|Zs b fun _ aF=>?_;refine Za rfl<|Zt aF fun a b=>?_
 refine Q6 (X5 b (Xr b rfl rfl) ?_)
 exact ⟨by rw [f],i⟩
theorem Xsn(w0:World)(x:Wr)(p q:Int)(ba bb:Nat)(d:Blk w0 ba 3 [vi p])(e:Blk w0 bb 3 [vi q]) : Ret Tryz.prog 199 [.agg #[vi x.a,vi x.b,.bool x.h],.pointer (some ⟨ba,0,none⟩),.pointer (some ⟨bb,0,none⟩)] w0 (fun v w=>v=.bool (isW p q x)∧Below w0.heap.size w0 w):=by
 have a7:=d.lt;have a8:=e.lt;refine enter Tryz.func199 rfl 19 rfl rfl ?_;intro a f
 have hW:=bz w0
 refine Zs f fun _ aA=>?_;refine Zf (X0h (zs:=[vi x.a,vi x.b,.bool x.h]) rfl rfl) ?_;rintro _ w1 ⟨b2,rfl,aB,hE,a6⟩;have aD:=Q0 hW.size aB;have d:=d.below hE;have e:=e.below hE;have hW:=btr hW hE;refine Za rfl<|ZX aA fun a f _ aC=>?_;refine X09 (fun a w=>Fr a 19 [(4,.bool ((x.a==(min p q))&&(x.b==(max p q))))]∧w1=w) ?_ ?_
 ·refine Zr f<|Ze (Vd rfl X0s 0)<|Ze (X0 rfl X9 (a6.at 0))<|Ze (X0 rfl X9 (d.at 0))<|Ze (X0 rfl X9 (e.at 0))<|Ze (Xjz rfl rfl)<|Ze (X0a rfl rfl)<|Zm rfl ?_
  refine Zg 11 rfl (fun c=>?_) (fun c=>?_)
  ·refine Zv (gW c) (Vd rfl X0v 1) ?_;refine Zv (gW c) (X0 rfl X9 (a6.at 1)) ?_;refine Zv (gW c) (X0 rfl X9 (d.at 0)) ?_;refine Zv (gW c) (X0 rfl X9 (e.at 0)) ?_;refine Zv (gW c) (Xqy rfl rfl) ?_;refine Zv (gW c) (X0a rfl rfl) ?_;refine Ze (X8 rfl c rfl)<|Za rfl ?_;refine Zn fun a f=>?_;exact ⟨f.sub ⟨X1 rfl (by first|rfl|(simp only [c,bs];done)|simp [c]),trivial⟩,rfl⟩
  refine Zp (gP c) ?_;refine Zp (gP c) ?_;refine Zp (gP c) ?_;refine Zp (gP c) ?_;refine Zp (gP c) ?_;refine Zp (gP c) ?_;refine Ze (Xe rfl c rfl)<|Za rfl ?_;refine Zn fun a f=>?_;exact ⟨f.sub ⟨X1 rfl (by first|rfl|(simp only [c,bs];done)|simp [c]),trivial⟩,rfl⟩
 rintro a _ ⟨f,rfl⟩;refine aC _ _ ?_
 refine Q6 (X5 f (Xr f rfl rfl) ?_)
 exact ⟨rfl,hW⟩
theorem Xeu(g:World)(d:Dg)(md:Nat)(aG:md=d.ns.length)(Ad:Option Addr)(cd:Nat)(aH:Rd g g.heap.size 81 encNd Ad d.ns)(Bd:Option Addr)(dd:Nat)(a6:Rd g g.heap.size 83 encWr Bd d.ws)(aI:d.ws.length≤dd)(p:Int)(q:Int)(a8:d.ws.length≤1000000000) : Ret Tryz.prog 165 [.agg #[vi d.n,.slice Ad md cd,.slice Bd d.ws.length dd,vi d.t,vi d.r],vi p,vi q] g (fun v w=>v=vi (fdW d.ws p q)∧Below g.heap.size g w):=by
 refine enter Tryz.func165 rfl 11 rfl rfl ?_;intro a hf
 have b:=bz g
 refine Zs hf fun _ aA=>?_;refine Zf (X0h (zs:=[vi d.n,.slice Ad md cd,.slice Bd d.ws.length dd,vi d.t,vi d.r]) rfl rfl) ?_;rintro _ w1 ⟨b4,rfl,aB,e,c⟩;have aJ:=Q0 b.size aB;have b:=btr b e;refine Zf (X0h (zs:=[vi p]) rfl rfl) ?_;rintro _ w2 ⟨b5,rfl,aC,e,f⟩;have aK:=Q0 b.size aC;have c:=c.below e;have b:=btr b e;refine Zf (X0h (zs:=[vi q]) rfl rfl) ?_;rintro _ w3 ⟨b6,rfl,aD,e,aE⟩
 have a7:b5≠b6:=by have:=f.lt;omega
 have aL:=Q0 b.size aD;have c:=c.below e;have f:=f.below e;have b:=btr b e;refine Za rfl<|Zx aA fun a hf _ aF=>?_;refine Ze (Vd rfl Xm 2)<|Ze (X0 rfl X0j (c.at 2))<|Ze (X38 (vs:=[.pointer (some ⟨b5,0,none⟩),.pointer (some ⟨b6,0,none⟩)]) rfl)<|Zf (Vc (Xnh _ Bd dd d.ws (a6.below' b).top 199 [.pointer (some ⟨b5,0,none⟩),.pointer (some ⟨b6,0,none⟩)] Xk1 (isW p q) (fun x w' hE'=>Xsn w' x p q _ _ (f.below hE') (aE.below hE')) a8) Xe7) ?_;rintro _ w4 ⟨rfl,e⟩;have b:=btr b e;refine Za rfl<|Zt aF fun a hf=>?_
 refine Q6 (X5 hf (Xr hf rfl rfl) ?_)
 exact ⟨rfl,b⟩
theorem X6c(g:World)(d:Dg)(md:Nat)(a7:md=d.ns.length)(Ad:Option Addr)(cd:Nat)(a8:Rd g g.heap.size 81 encNd Ad d.ns)(Bd:Option Addr)(dd:Nat)(i:Rd g g.heap.size 83 encWr Bd d.ws)(aA:d.ws.length≤dd)(p:Int)(q:Int)(aD:d.ws.length≤1000000000) : Ret Tryz.prog 116 [.agg #[vi d.n,.slice Ad md cd,.slice Bd d.ws.length dd,vi d.t,vi d.r],vi p,vi q] g (fun v w=>v=vi (tyW d.ws p q)∧Below g.heap.size g w):=by
 have aL:=X6x d.ws p q
 have aE:∀ x:Bool,(if x=true then (1:Int) else 0)=0∨(if x=true then (1:Int) else 0)=1:=fun x=>by cases x;exact .inl rfl;exact .inr rfl
 refine enter Tryz.func116 rfl 22 rfl rfl ?_;intro a c
 have e:=bz g
 refine Zs c fun _ aF=>?_;refine Zf (X0h (zs:=[vi d.n,.slice Ad md cd,.slice Bd d.ws.length dd,vi d.t,vi d.r]) rfl rfl) ?_;rintro _ w1 ⟨b4,rfl,aG,hE,f⟩;have aM:=Q0 e.size aG;have e:=btr e hE;refine Za rfl<|Zx aF fun a c _ aH=>?_;refine Ze (Vn X2 f)<|Zm rfl<|Zm rfl<|Zf (Vc (Xeu _ d md a7 Ad cd (a8.below' e).top Bd dd (i.below' e).top aA p q aD) X77) ?_;rintro _ w2 ⟨rfl,hE⟩;have f:=f.below hE;have e:=btr e hE;refine Za rfl<|ZX aH fun a c _ aI=>?_;refine Zs c fun _ aJ=>?_;refine Zm rfl<|Ze (X0m rfl rfl)<|Zt aJ fun a c=>?_
 refine Xh c rfl (fun b=>?_) (fun b=>?_)
 ·have aB:=b;have b:=Q2 b
  have hz:tyW d.ws p q=0:=by unfold tyW;exact Q4 (by simpa using b)
  refine Zs c fun _ aK=>?_;refine Za rfl<|Zt aK fun a c=>?_;refine Q6<|X7<|X5 c (Xr c rfl rfl) ?_;exact ⟨by rw [hz],e⟩
 have aB:=b;have b:=Q1 b
 have aN:0≤fdW d.ws p q:=by have h9:=b;simp at h9;omega
 have hz:tyW d.ws p q=1+(if (d.ws.getD (fdW d.ws p q).toNat wZ).h=true then 1 else 0):=by unfold tyW;rw [Q3 (by omega)];cases (d.ws.getD (fdW d.ws p q).toNat wZ).h<;>rfl
 have aO:=aE (d.ws.getD (fdW d.ws p q).toNat wZ).h;refine Q7<|aI _ _<|Zs c fun _ aC=>?_;refine Ze (Vd rfl Xm 2)<|Ze (X0 rfl X0j (f.at 2))<|Zm rfl<|Zi (k:=(fdW d.ws p q).toNat) (u:=(d.ws.getD (fdW d.ws p q).toNat wZ)) (enc:=encWr) (l:=d.ws) trivial rfl rfl Xv X0b Xx (i.below' e) (Xb (by omega)) (by omega) ?_;intro aP a6;refine Ze (X21 rfl X6r)<|Ze (X0 rfl X6l (a6.drop 2))<|Zf (Vc (F59 _ ((d.ws.getD (fdW d.ws p q).toNat wZ).h)) Xb1) ?_;rintro _ _ ⟨rfl,rfl⟩;refine Ze (Xu rfl rfl (by omega) (by omega))<|Za rfl<|Zt aC fun a c=>?_
 refine Q6 (X5 c (Xr c rfl rfl) ?_)
 exact ⟨by rw [hz],e⟩
theorem X5m(e:World)(d:Dg)(md:Nat)(f:md=d.ns.length)(Ad:Option Addr)(cd:Nat)(a6:Rd e e.heap.size 81 encNd Ad d.ns)(Bd:Option Addr)(dd:Nat)(aD:Rd e e.heap.size 83 encWr Bd d.ws)(aE:d.ws.length≤dd)(p:Int)(hN:md≤1000) : Ret Tryz.prog 74 [.agg #[vi d.n,.slice Ad md cd,.slice Bd d.ws.length dd,vi d.t,vi d.r],vi p] e (fun v w=>v=.bool (spI d.ns p)∧Below e.heap.size e w):=by
 refine enter Tryz.func74 rfl 20 rfl rfl ?_;intro a c
 have hW:=bz e
 refine Zs c fun _ aA=>?_;refine Zf (X0h (zs:=[vi d.n,.slice Ad md cd,.slice Bd d.ws.length dd,vi d.t,vi d.r]) rfl rfl) ?_;rintro _ w1 ⟨b4,rfl,aB,hE,a7⟩;have aF:=Q0 hW.size aB;have hW:=btr hW hE;refine Za rfl<|ZX aA fun a c _ aC=>?_;refine X09 (fun a w=>Fr a 20 [(4,.bool ((inR p 0 ((md:Int)-1))&&(((d.ns.getD p.toNat nZ).k)==3)))]∧w1=w) ?_ ?_
 ·refine Zr c<|Zm rfl<|Ze (Vd rfl Xi 1)<|Ze (X0 rfl Xz (a7.at 1))<|Ze (X0c rfl Xo)<|Ze (X1h rfl rfl (by omega) (by omega))<|Zf (Vc (F91 _ p 0 ((md:Int)-1)) X3h) ?_;rintro _ _ ⟨rfl,rfl⟩;refine Zm rfl ?_
  refine Zg 11 rfl (fun b=>?_) (fun b=>?_)
  ·have aG:=X0e.1 b;refine Zv (gW b) (Vd rfl Xi 1) ?_;refine Zv (gW b) (X0 rfl Xz (a7.at 1)) ?_;refine Zv (gW b) (X3 rfl) ?_;refine Zj (k:=p.toNat) (u:=(d.ns.getD p.toNat nZ)) (enc:=encNd) (l:=d.ns) ⟨_,_,rfl,rfl,b⟩ rfl f rfl Xo X07 Xt (a6.below' hW) (Xb (by omega)) (by omega) ?_;intro p8 a8;refine Zv (gW b) (X21 rfl X10) ?_;refine Zv (gW b) (X0 rfl X9 (a8.drop 0)) ?_;refine Zv (gW b) (X0a rfl rfl) ?_;refine Ze (X8 rfl b rfl)<|Za rfl ?_;refine Zn fun a c=>?_;exact ⟨c.sub ⟨X1 rfl (by first|rfl|(simp only [b,bs];done)|simp [b]),trivial⟩,rfl⟩
  refine Zp (gP b) ?_;refine Zp (gP b) ?_;refine Zp (gP b) ?_;refine Zp (gP b) ?_;refine Zp (gP b) ?_;refine Zp (gP b) ?_;refine Zp (gP b) ?_;refine Ze (Xe rfl b rfl)<|Za rfl ?_;refine Zn fun a c=>?_;exact ⟨c.sub ⟨X1 rfl (by first|rfl|(simp only [b,bs];done)|simp [b]),trivial⟩,rfl⟩
 rintro a _ ⟨c,rfl⟩;refine aC _ _ ?_
 refine Q6 (X5 c (Xr c rfl rfl) ?_)
 exact ⟨by unfold spI;rw [f],hW⟩
theorem X88(y:World)(d:Dg)(md:Nat)(aP:md=d.ns.length)(Ad:Option Addr)(cd:Nat)(aQ:Rd y y.heap.size 81 encNd Ad d.ns)(Bd:Option Addr)(dd:Nat)(B:Rd y y.heap.size 83 encWr Bd d.ws)(q:d.ws.length≤dd)(p:Int)(aU:d.ws.length≤1000000000) : Ret Tryz.prog 102 [.agg #[vi d.n,.slice Ad md cd,.slice Bd d.ws.length dd,vi d.t,vi d.r],vi p] y (fun v w=>v=vi (cnW d.ws p)∧Below y.heap.size y w):=by
 refine enter Tryz.func102 rfl 29 rfl rfl ?_;intro a f
 have o:=bz y
 refine Zs f fun _ aH=>?_;refine Zf (X0h (zs:=[vi d.n,.slice Ad md cd,.slice Bd d.ws.length dd,vi d.t,vi d.r]) rfl rfl) ?_;rintro _ w1 ⟨b4,rfl,aI,hE,aJ⟩;have aR:=Q0 o.size aI;have o:=btr o hE;refine Za rfl<|Zx aH fun a f _ aK=>?_;refine Za rfl<|ZX aK fun a f _ aL=>?_;refine Zs f fun _ aM=>?_;refine Ze (Vd rfl Xm 2)<|Ze (X0 rfl X0j (aJ.at 2))<|Ze (X0c rfl Xv)<|Zm rfl<|Zt aM fun a f=>?_;refine Q8<|X01 (σ:=Nat×Int) (fun (s:Nat×Int) (a:Act) (w:World)=>match s with|(k,c)=>Fr a 29 [(1,vi p),(5,vi c),(9,.slice Bd d.ws.length dd),(10,vi (d.ws.length:Int)),(11,vi (k:Int))]∧(k≤d.ws.length)∧(c=cnW (d.ws.take k) p)∧d.ws.length≤dd∧Below y.heap.size y w) (fun (s:Nat×Int)=>match s with|(k,c)=>d.ws.length-k) (0,0) ?_ ?_
 ·exact ⟨f.sb,(Qf _),rfl,q,o⟩
 rintro ⟨k,c⟩ a w2 ⟨f,hk,hc,q,o⟩;have aB:=Xe5 d.ws p k
 rw [← hc] at aB
 refine Zs f fun _ aN=>?_;refine Ze (X0m rfl rfl)<|ZX aN fun a f _ aO=>?_
 refine Xh f rfl (fun g=>?_) (fun g=>?_)
 ·have i:=g;have g:=Q2 g
  obtain ⟨aW,aS⟩:=X4 (l:=d.ws) (k:=k) (by omega)
  obtain ⟨A,a6⟩:=X4 (l:=d.ws) (k:=k) (by have:=g;omega)
  have aB:=Xe5 d.ws p k;refine Q7<|aO _ _<|Q5 fun _ C=>?_;refine Q8<|Zs f fun _ aC=>?_;refine Zi (k:=k) (u:=A) (enc:=encWr) (l:=d.ws) trivial rfl rfl Xv X0b Xx (B.below' o) a6 rfl ?_;intro aX a7;refine Ze (X02 (l:=[vi A.a,vi A.b,.bool A.h]) rfl X17 a7 rfl)<|Zf (X00 (zs:=[vi 0,vi 0,.bool false]) X32 rfl) ?_;rintro _ w3 ⟨aY,rfl,D,hE,j⟩;have a8:=Q0 o.size D;have aD:=(B.below' o).away D;have o:=btr o hE;refine Zo (Vw [vi A.a,vi A.b,.bool A.h] X0b j) ?_;rintro _ w4 ⟨ho,hb⟩;have aT:=j;have o:=Below.only o ho a8;have j:=hb;refine ZX aC fun a f _ aE=>?_;refine X09 (fun a w=>Fr a 29 [(1,vi p),(5,vi c),(9,.slice Bd d.ws.length dd),(10,vi (d.ws.length:Int)),(11,vi (k:Int)),(24,.bool ((A.a==p)||(A.b==p)))]∧w4=w) ?_ ?_
  ·refine Zr f<|Ze (Vd rfl X0s 0)<|Ze (X0 rfl X9 (j.at 0))<|Zm rfl<|Ze (X0a rfl rfl)<|Zm rfl ?_
   refine Zg 19 rfl (fun e=>?_) (fun e=>?_)
   ·refine Zp (gP e) ?_;refine Zp (gP e) ?_;refine Zp (gP e) ?_;refine Zp (gP e) ?_;refine Ze (X8 rfl e rfl) ?_;refine Zn fun a f=>?_;exact ⟨f.sub ⟨rfl,rfl,rfl,rfl,rfl,X1 rfl (by first|rfl|(simp only [i,e,bs];done)|simp [i,e]),trivial⟩,rfl⟩
   refine Zv (gW e) (Vd rfl X0v 1) ?_;refine Zv (gW e) (X0 rfl X9 (j.at 1)) ?_;refine Zv (gW e) (X3 rfl) ?_;refine Zv (gW e) (X0a rfl rfl) ?_;refine Ze (Xe rfl e rfl) ?_;refine Zn fun a f=>?_;exact ⟨f.sub ⟨rfl,rfl,rfl,rfl,rfl,X1 rfl (by first|rfl|(simp only [i,e,bs];done)|simp [i,e]),trivial⟩,rfl⟩
  rintro a _ ⟨f,rfl⟩;refine aE _ _ ?_
  refine Xh f rfl (fun m=>?_) (fun m=>?_)
  ·have aA:=m;have x:=Xsa a6 m
   rw [← hc] at x
   refine Zr f<|Zm rfl<|Ze (Xu rfl rfl (by omega) (by omega))<|Za rfl ?_;refine Zn fun a f=>?_;refine Xd<|C _ _<|Zr f<|Ze (Xu rfl rfl (by omega) (by omega))<|Zm rfl ?_;refine Zn fun a f=>?_;refine Xf ?_;exact ⟨(k+1,c+1),⟨f.sb,(by omega),(by rw [x]),q,o⟩,(by first|omega|(dsimp only;omega))⟩
  have aA:=m;have x:=Xv0 a6 m
  rw [← hc] at x
  refine Q7<|Xd<|C _ _<|Zr f ?_;refine Ze (Xu rfl rfl (by omega) (by omega))<|Zm rfl ?_;refine Zn fun a f=>?_;refine Xf ?_;exact ⟨(k+1,c),⟨f.sb,(by omega),(by rw [x]),q,o⟩,(by first|omega|(dsimp only;omega))⟩
 have i:=g;have g:=Q1 g
 have aF:c=cnW d.ws p:=by rw [hc,Qi (by have:=g;omega)]
 refine Q9<|Xk<|Xk<|X03 ?_;refine aL _ _<|Zs f fun _ aG=>?_;refine Zm rfl<|Za rfl<|Zt aG fun a f=>?_
 refine Q6 (X5 f (Xr f rfl rfl) ?_)
 exact ⟨by rw [aF],o⟩
theorem Xrt(m:World)(Al:Option Addr)(cl:Nat)(l:List Nd)(n:Rd m m.heap.size 81 encNd Al l)(x:Nd)(aO:l.length≤1000000000) : Ret Tryz.prog 167 [.slice Al l.length cl,.agg #[vi x.k,vi x.p]] m (fun v w=>v=vi (fnI l x)∧Below m.heap.size m w):=by
 refine enter Tryz.func167 rfl 19 rfl rfl ?_;intro a c
 have f:=bz m
 refine Zs c fun _ aH=>?_;refine Zf (X0h (zs:=[vi x.k,vi x.p]) rfl rfl) ?_;rintro _ w1 ⟨b3,rfl,a8,hE,e⟩;have aN:=Q0 f.size a8;have aG:=(n.below' f).away a8;have f:=btr f hE;refine Za rfl<|ZX aH fun a c _ aI=>?_;refine Zs c fun _ aJ=>?_;refine Zm rfl<|Ze (X0c rfl Xo)<|Zm rfl<|Zt aJ fun a c=>?_;refine Q8<|X01 (σ:=Nat) (fun (k:Nat) (a:Act) (w:World)=>Fr a 19 [(0,.slice Al l.length cl),(3,.pointer (some ⟨b3,0,none⟩)),(7,vi (l.length:Int)),(8,vi (k:Int))]∧(k≤l.length)∧(((l.take k).all fun y=>!decide (x=y))=true)∧Blk w b3 81 [vi x.k,vi x.p]∧Below m.heap.size m w) (fun (k:Nat)=>l.length-k) 0 ?_ ?_
 ·exact ⟨c.sb,(Qf _),rfl,e,f⟩
 rintro k a w2 ⟨c,hk,g,e,f⟩;refine Zs c fun _ aK=>?_;refine Ze (X0m rfl rfl)<|ZX aK fun a c _ aL=>?_
 refine Xh c rfl (fun d=>?_) (fun d=>?_)
 ·have aA:=d;have d:=Q2 d
  obtain ⟨u9,j⟩:=X4 (l:=l) (k:=k) (by omega)
  obtain ⟨u9,j⟩:=X4 (l:=l) (k:=k) (by have:=d;omega)
  refine Q7<|aL _ _<|Q5 fun _ aB=>?_;refine Q8<|Zs c fun _ aC=>?_;refine Zm rfl<|Za rfl<|ZX aC fun a c _ aD=>?_;refine X05 none (fun _=>false) mixed ?_;intro w3 hE;have e:=e.below hE;have f:=btr f hE;refine Yb c<|Ye 0 rfl (Vn X2i e)<|Yo 1 rfl (fun _=>X3 rfl)<|Yo 2 rfl (fun _=>X3 rfl)<|Yi (k:=k) (u:=u9) (enc:=encNd) (l:=l) 3 rfl trivial rfl rfl Xo X07 Xt (n.below' f) j rfl ?_;intro aP a6;refine Ye 4 rfl (X02 (l:=[vi u9.k,vi u9.p]) rfl X2i a6 rfl)<|Yo 5 rfl (fun _=>Xsw rfl rfl Xn2 (fun w=>Xmy 9998 x u9 w)) ?_;refine Yd fun a c=>?_;refine aD _ _ ?_
  refine Xh c rfl (fun b=>?_) (fun b=>?_)
  ·have a7:=b;have b:=Q2 b
   have i:fnI l x=(k:Int):=X82 g j (by simpa using b)
   refine Zs c fun _ aE=>?_;refine Zm rfl<|Za rfl<|Zt aE fun a c=>?_;refine Q6<|Xq<|X7<|X7 ?_;refine Xq<|X7<|X5 c (Xr c rfl rfl) ?_;exact ⟨by rw [i],f⟩
  have a7:=b;have b:=Q1 b
  have aM:=X6e (q:=fun y=>decide (x=y)) g j (by simpa using b)
  refine Q7<|Xd<|aB _ _<|Zr c ?_;refine Ze (Xu rfl rfl (by omega) (by omega))<|Zm rfl ?_;refine Zn fun a c=>?_;refine Xf ?_;exact ⟨k+1,⟨c.sb,(by omega),aM,e,f⟩,(by omega)⟩
 have aA:=d;have d:=Q1 d
 have i:fnI l x = -1:=X7h g (by have:=d;omega)
 refine Q9<|Xk<|Xk<|X03 ?_;refine aI _ _<|Zs c fun _ aF=>?_;refine Za rfl<|Zt aF fun a c=>?_
 refine Q6 (X5 c (Xr c rfl rfl) ?_)
 exact ⟨by rw [i],f⟩
theorem Xvj(w0:World)(n:Int)(x:Nd)(hn:1≤n∧n≤1000) : Ret Tryz.prog 99 [vi n,.agg #[vi x.k,vi x.p]] w0 (fun v w=>v=.bool (nokI n x)∧Below w0.heap.size w0 w):=by
 refine enter Tryz.func99 rfl 25 rfl rfl ?_;intro a b
 have l:=bz w0
 refine Zs b fun _ aG=>?_;refine Zf (X0h (zs:=[vi x.k,vi x.p]) rfl rfl) ?_;rintro _ w1 ⟨b2,rfl,aH,hE,g⟩;have aN:=Q0 l.size aH;have l:=btr l hE;refine Za rfl<|ZX aG fun a b _ aI=>?_;refine Zs b fun _ aJ=>?_;refine Ze (Vd rfl X10 0)<|Ze (X0 rfl X9 (g.at 0))<|Zt aJ fun a b=>?_;refine Q8<|Zs b fun _ aK=>?_;refine Ze (X0a rfl rfl)<|Za rfl<|Zt aK fun a b=>?_
 refine Xh b rfl (fun i=>?_) (fun i=>?_)
 ·have a8:=i
  have c:nokI n x=_:=Q4 i
  refine Zs b fun _ aL=>?_;refine Ze (Vd rfl X04 1)<|Ze (X0 rfl X9 (g.at 1))<|Ze (X0a rfl rfl)<|Za rfl<|Zt aL fun a b=>?_;refine Q6<|Xq<|X7<|X5 b (Xr b rfl rfl) ?_;exact ⟨by rw [c],l⟩
 have a8:=i
 have g0:=i
 refine Q5 fun _ aA=>?_;refine Zs b fun _ aM=>?_;refine Ze (X0a rfl rfl)<|Za rfl<|Zt aM fun a b=>?_
 refine Xh b rfl (fun d=>?_) (fun d=>?_)
 ·have j:=d
  have c:nokI n x=inR x.p 0 (n-1):=by unfold nokI;rw [g0,d];rfl
  refine Q7<|aA _ _<|Xhj b (X1 rfl j) ?_;refine Zs b fun _ aB=>?_;refine Ze (Vd rfl X04 1)<|Ze (X0 rfl X9 (g.at 1))<|Zm rfl<|Ze (X1h rfl rfl (by omega) (by omega))<|Zf (Vc (F91 _ x.p 0 (n-1)) X3h) ?_;rintro _ _ ⟨rfl,rfl⟩;refine Za rfl<|Zt aB fun a b=>?_;refine Q6<|Xq<|X7<|X5 b (Xr b rfl rfl) ?_;exact ⟨by rw [c],l⟩
 have j:=d
 have g1:=d
 refine Zr b<|Ze (X0a rfl rfl)<|Za rfl<|Zt aA fun a b=>?_
 refine Xh b rfl (fun e=>?_) (fun e=>?_)
 ·have a6:=e
  have c:nokI n x=inR x.p 0 (n-1):=by unfold nokI;rw [g0,g1,e];rfl
  refine Zs b fun _ aC=>?_;refine Ze (Vd rfl X04 1)<|Ze (X0 rfl X9 (g.at 1))<|Zm rfl<|Ze (X1h rfl rfl (by omega) (by omega))<|Zf (Vc (F91 _ x.p 0 (n-1)) X3h) ?_;rintro _ _ ⟨rfl,rfl⟩;refine Za rfl<|Zt aC fun a b=>?_;refine Q6<|Xq<|X7<|X5 b (Xr b rfl rfl) ?_;exact ⟨by rw [c],l⟩
 have a6:=e
 have g2:=e
 refine Zs b fun _ aD=>?_;refine Ze (X0a rfl rfl)<|Za rfl<|Zt aD fun a b=>?_
 refine Xh b rfl (fun f=>?_) (fun f=>?_)
 ·have a7:=f
  have c:nokI n x=inR x.p 0 7:=by unfold nokI;rw [g0,g1,g2,f];rfl
  refine Zs b fun _ aE=>?_;refine Ze (Vd rfl X04 1)<|Ze (X0 rfl X9 (g.at 1))<|Zf (Vc (F91 _ x.p 0 7) X3h) ?_;rintro _ _ ⟨rfl,rfl⟩;refine Za rfl<|Zt aE fun a b=>?_;refine Q6<|Xq<|X7<|X5 b (Xr b rfl rfl) ?_;exact ⟨by rw [c],l⟩
 have a7:=f
 have c:nokI n x=false:=by unfold nokI;rw [g0,g1,g2,f];rfl
 refine Q7<|Xd<|aI _ _<|Zs b fun _ aF=>?_;refine Za rfl<|Zt aF fun a b=>?_
 refine Q6 (X5 b (Xr b rfl rfl) ?_)
 exact ⟨by rw [c],l⟩
theorem Xop(w0:World)(Al:Option Addr)(cl:Nat)(l:List Int)(a8:Rd w0 w0.heap.size 3 encI Al l)(aM:l.length≤1000000000) : Ret Tryz.prog 149 [.slice Al l.length cl] w0 (fun v w=>v=vi (orI l)∧w0=w):=by
 have f:w0=w0:=rfl
 refine enter Tryz.func149 rfl 18 rfl rfl ?_;intro a b
 have hW:=bz w0
 refine Zs b fun _ aG=>?_;refine Za rfl<|Zx aG fun a b _ aH=>?_;refine Za rfl<|ZX aH fun a b _ aI=>?_;refine Zs b fun _ aJ=>?_;refine Zm rfl<|Ze (X0c rfl Xj)<|Zm rfl<|Zt aJ fun a b=>?_;refine Q8<|X01 (σ:=Nat) (fun (k:Nat) (a:Act) (w:World)=>Fr a 18 [(3,vi 0),(6,.slice Al l.length cl),(7,vi (l.length:Int)),(8,vi (k:Int))]∧(k≤l.length)∧(∀ x ∈ l.take k,x=0)∧w0=w∧Below w0.heap.size w0 w) (fun (k:Nat)=>l.length-k) 0 ?_ ?_
 ·exact ⟨b.sb,(Qf _),(by simp),f,hW⟩
 rintro k a w1 ⟨b,hk,e,f,hW⟩;refine Zs b fun _ aK=>?_;refine Ze (X0m rfl rfl)<|ZX aK fun a b _ aL=>?_
 refine Xh b rfl (fun c=>?_) (fun c=>?_)
 ·have aA:=c;have c:=Q2 c
  obtain ⟨u9,i⟩:=X4 (l:=l) (k:=k) (by omega)
  obtain ⟨u9,i⟩:=X4 (l:=l) (k:=k) (by have:=c;omega)
  refine Q7<|aL _ _<|Q5 fun _ aB=>?_;refine Q8<|Zs b fun _ aC=>?_;refine Zi (k:=k) (u:=u9) (enc:=encI) (l:=l) trivial rfl rfl Xj X08 Xa (a8.below' hW) i rfl ?_;intro aN a6;refine Ze (X0 rfl X9 a6)<|Za rfl<|Zx aC fun a b _ aD=>?_;refine Zm rfl<|Zm rfl<|Ze (X18 rfl rfl)<|Zt aD fun a b=>?_
  refine Xh b rfl (fun d=>?_) (fun d=>?_)
  ·have a7:=d
   have g:orI l=u9:=Xng e i (by simpa using d)
   refine Zs b fun _ aE=>?_;refine Zm rfl<|Za rfl<|Zt aE fun a b=>?_;refine Q6<|Xq<|X7<|X7 ?_;refine Xq<|X7<|X5 b (Xr b rfl rfl) ?_;exact ⟨by rw [g],f⟩
  have a7:=d
  have aO:u9=0:=by have h9:=d;simpa using h9
  refine Q7<|Xd<|aB _ _<|Zr b ?_;refine Ze (Xu rfl rfl (by omega) (by omega))<|Zm rfl ?_;refine Zn fun a b=>?_;refine Xf ?_;exact ⟨k+1,⟨b.sb,(by omega),(fun x hx=>by rw [Qt,i] at hx;rcases Qu.1 hx with hx|hx;exact e x hx;simp at hx;omega),f,hW⟩,(by omega)⟩
 have aA:=c;have c:=Q1 c
 have g:orI l=0:=Xu7 (by rw [Qi (by have:=c;omega)] at e;exact e)
 refine Q9<|Xk<|Xk<|X03 ?_;refine aI _ _<|Zs b fun _ aF=>?_;refine Zm rfl<|Za rfl<|Zt aF fun a b=>?_
 refine Q6 (X5 b (Xr b rfl rfl) ?_)
 exact ⟨by rw [g],f⟩
theorem Xva(w0:World)(x:Wr)(y:Wr) : Ret Tryz.prog 101 [.agg #[vi x.a,vi x.b,.bool x.h],.agg #[vi y.a,vi y.b,.bool y.h]] w0 (fun v w=>v=vi (cmW x y)∧Below w0.heap.size w0 w):=by
 refine enter Tryz.func101 rfl 17 rfl rfl ?_;intro a hf
 have d:=bz w0
 refine Zs hf fun _ a8=>?_;refine Zf (X0h (zs:=[vi x.a,vi x.b,.bool x.h]) rfl rfl) ?_;rintro _ w1 ⟨b2,rfl,aA,e,c⟩;have aE:=Q0 d.size aA;have d:=btr d e;refine Zf (X0h (zs:=[vi y.a,vi y.b,.bool y.h]) rfl rfl) ?_;rintro _ w2 ⟨b3,rfl,aB,e,f⟩
 have a7:b2≠b3:=by have:=c.lt;omega
 have aF:=Q0 d.size aB;have c:=c.below e;have d:=btr d e;refine Za rfl<|ZX a8 fun a hf _ aC=>?_;refine X05 none (fun _=>false) mixed ?_;intro w3 e;have c:=c.below e;have f:=f.below e;have d:=btr d e;refine Yb hf<|Yo 0 rfl (fun _=>Vd rfl X0s 0)<|Ye 1 rfl (X0 rfl X9 (c.at 0))<|Yo 2 rfl (fun _=>Vd rfl X0s 0)<|Ye 3 rfl (X0 rfl X9 (f.at 0))<|Yo 5 rfl (fun _=>Vd rfl X0v 1)<|Ye 6 rfl (X0 rfl X9 (c.at 1))<|Yo 7 rfl (fun _=>Vd rfl X0v 1)<|Ye 8 rfl (X0 rfl X9 (f.at 1))<|Y1 4 ?_;refine Yz rfl trivial (Vc (Xde _ x.a y.a) X75) ?_;refine Y1 9<|Yz rfl trivial (Vc (Xde _ x.b y.b) X75) ?_;refine Y1 10<|Yk rfl trivial (Xp (k:=2) (vs:=[vi (cmI x.a y.a),vi (cmI x.b y.b)]) (zs:=[vi (cmI x.a y.a),vi (cmI x.b y.b)]) rfl Xj X1g rfl rfl) (fun _ _ ⟨_,_,_,h,_⟩=>h) ?_;rintro _ w4 ⟨b5,rfl,aD,e,a6⟩;have aG:=Q0 d.size aD;have d:=btr d e;refine Y1 11<|Yz rfl trivial (Vc (Xop _ (some ⟨b5,0,none⟩) 2 ([cmI x.a y.a,cmI x.b y.b]) (Rd.of_blk a6 rfl _ a6.lt) (by simp)) Xd8) ?_;refine Yo 12 rfl (fun _=>X0l rfl) ?_;refine Yd fun a hf=>?_;refine aC _ _ ?_
 refine Q6 (X5 hf (Xr hf rfl rfl) ?_)
 exact ⟨by rw [Xn4],d⟩
theorem Xoz(b:World)(d:Dg)(md:Nat)(a6:md=d.ns.length)(Ad:Option Addr)(cd:Nat)(a7:Rd b b.heap.size 81 encNd Ad d.ns)(Bd:Option Addr)(dd:Nat)(aD:Rd b b.heap.size 83 encWr Bd d.ws)(aE:d.ws.length≤dd)(p:Int)(q:Int)(hN:md≤1000000000) : Ret Tryz.prog 117 [.agg #[vi d.n,.slice Ad md cd,.slice Bd d.ws.length dd,vi d.t,vi d.r],vi p,vi q] b (fun v w=>v=vi (fnI d.ns ⟨p,q⟩)∧Below b.heap.size b w):=by
 subst a6
 refine enter Tryz.func117 rfl 13 rfl rfl ?_;intro a hf
 have hW:=bz b
 refine Zs hf fun _ a8=>?_;refine Zf (X0h (zs:=[vi d.n,.slice Ad d.ns.length cd,.slice Bd d.ws.length dd,vi d.t,vi d.r]) rfl rfl) ?_;rintro _ w1 ⟨b4,rfl,aA,hE,aB⟩;have aF:=Q0 hW.size aA;have hW:=btr hW hE;refine Za rfl<|Zx a8 fun a hf _ aC=>?_;refine Ze (Vd rfl Xi 1)<|Ze (X0 rfl Xz (aB.at 1))<|Zm rfl<|Zm rfl<|Ze (X16 (ps:=[(0,vi p),(1,vi q)]) (cs:=[vi p,vi q]) rfl (fun _=>by first|rfl|kernel_rfl))<|Zf (Vc (Xrt _ Ad cd d.ns (a7.below' hW).top (⟨p,q⟩ : Nd) hN) Xlv) ?_;rintro _ w2 ⟨rfl,hE⟩;have hW:=btr hW hE;refine Za rfl<|Zt aC fun a hf=>?_
 refine Q6 (X5 hf (Xr hf rfl rfl) ?_)
 exact ⟨rfl,hW⟩
theorem Xty(I:World)(d:Dg)(md:Nat)(J:md=d.ns.length)(Ad:Option Addr)(cd:Nat)(E:Rd I I.heap.size 81 encNd Ad d.ns)(Bd:Option Addr)(dd:Nat)(N:Rd I I.heap.size 83 encWr Bd d.ws)(o:d.ws.length≤dd)(hN:md≤1000)(hn:1≤d.n∧d.n≤1000) : Ret Tryz.prog 100 [.agg #[vi d.n,.slice Ad md cd,.slice Bd d.ws.length dd,vi d.t,vi d.r]] I (fun v w=>v=.bool (heD d)∧Below I.heap.size I w):=by
 refine enter Tryz.func100 rfl 46 rfl rfl ?_;intro a b
 have x:=bz I
 refine Zs b fun _ aQ=>?_;refine Zf (X0h (zs:=[vi d.n,.slice Ad md cd,.slice Bd d.ws.length dd,vi d.t,vi d.r]) rfl rfl) ?_;rintro _ w1 ⟨b4,rfl,aR,G,f⟩;have b2:=Q0 x.size aR;have x:=btr x G;refine Za rfl<|Zx aQ fun a b _ aS=>?_;refine Za rfl<|ZX aS fun a b _ aT=>?_;refine Zs b fun _ aU=>?_;refine Ze (Vd rfl Xi 1)<|Ze (X0 rfl Xz (f.at 1))<|Ze (X0c rfl Xo)<|Zm rfl<|Zt aU fun a b=>?_;refine Q8<|X01 (σ:=Nat×Int) (fun (s:Nat×Int) (a:Act) (w:World)=>match s with|(k,c)=>Fr a 46 [(1,.pointer (some ⟨b4,0,none⟩)),(3,vi c),(8,.slice Ad md cd),(9,vi (md:Int)),(10,vi (k:Int))]∧(k≤d.ns.length)∧(c=bnI (d.ns.take k))∧Blk w b4 39 [vi d.n,.slice Ad md cd,.slice Bd d.ws.length dd,vi d.t,vi d.r]∧d.ws.length≤dd∧Below I.heap.size I w) (fun (s:Nat×Int)=>match s with|(k,c)=>d.ns.length-k) (0,0) ?_ ?_
 ·exact ⟨b.sb,(Qf _),rfl,f,o,x⟩
 rintro ⟨k,c⟩ a w2 ⟨b,hk,hc,f,o,x⟩;have aW:=Xvp d.ns k
 rw [← hc] at aW
 refine Zs b fun _ aX=>?_;refine Ze (X0m rfl rfl)<|ZX aX fun a b _ aY=>?_
 refine Xh b rfl (fun y=>?_) (fun y=>?_)
 ·have m:=y;have y:=Q2 y
  obtain ⟨u9,a6⟩:=X4 (l:=d.ns) (k:=k) (by have:=y;omega)
  refine Q7<|aY _ _<|Q5 fun _ Q=>?_;refine Q8<|Zs b fun _ aD=>?_;refine Zj (k:=k) (u:=u9) (enc:=encNd) (l:=d.ns) trivial rfl J rfl Xo X07 Xt (E.below' x) a6 (by omega) ?_;intro b3 a7;refine Ze (X02 (l:=[vi u9.k,vi u9.p]) rfl X2i a7 rfl)<|Zf (X00 (zs:=[vi 0,vi 0]) X6m rfl) ?_;rintro _ w3 ⟨b5,rfl,U,G,B⟩;have a8:=Q0 x.size U;have aE:=(E.below' x).away U;have f:=f.below G;have x:=btr x G;refine Zo (Vw [vi u9.k,vi u9.p] X07 B) ?_;rintro _ w4 ⟨ho,hb⟩;have aF:=B;have f:=f.only ho (Blk.ne f aF rfl);have x:=Below.only x ho a8;have B:=hb;refine ZX aD fun a b _ aG=>?_;refine X09 (fun a w=>Fr a 46 [(1,.pointer (some ⟨b4,0,none⟩)),(3,vi c),(8,.slice Ad md cd),(9,vi (md:Int)),(10,vi (k:Int)),(21,.bool ((u9.k==1)||(u9.k==2)))]∧w4=w) ?_ ?_
  ·refine Zr b<|Ze (Vd rfl X10 0)<|Ze (X0 rfl X9 (B.at 0))<|Ze (X0a rfl rfl)<|Zm rfl ?_
   refine Zg 17 rfl (fun g=>?_) (fun g=>?_)
   ·refine Zp (gP g) ?_;refine Zp (gP g) ?_;refine Zp (gP g) ?_;refine Ze (X8 rfl g rfl) ?_;refine Zn fun a b=>?_;exact ⟨b.sub ⟨rfl,rfl,rfl,rfl,rfl,X1 rfl (by first|rfl|(simp only [m,g,bs];done)|simp [m,g]),trivial⟩,rfl⟩
   refine Zv (gW g) (Vd rfl X10 0) ?_;refine Zv (gW g) (X0 rfl X9 (B.at 0)) ?_;refine Zv (gW g) (X0a rfl rfl) ?_;refine Ze (Xe rfl g rfl) ?_;refine Zn fun a b=>?_;exact ⟨b.sub ⟨rfl,rfl,rfl,rfl,rfl,X1 rfl (by first|rfl|(simp only [m,g,bs];done)|simp [m,g]),trivial⟩,rfl⟩
  rintro a _ ⟨b,rfl⟩;refine aG _ _ ?_
  refine Xh b rfl (fun C=>?_) (fun C=>?_)
  ·have aA:=C;have L:=Xx2 a6 C
   rw [← hc] at L
   refine Zr b<|Zm rfl<|Ze (Xu rfl rfl (by omega) (by omega))<|Za rfl ?_;refine Zn fun a b=>?_;refine Xd<|Q _ _<|Zr b<|Ze (Xu rfl rfl (by omega) (by omega))<|Zm rfl ?_;refine Zn fun a b=>?_;refine Xf ?_;exact ⟨(k+1,c+1),⟨b.sb,(by omega),(by rw [L]),f,o,x⟩,(by first|omega|(dsimp only;omega))⟩
  have aA:=C;have L:=Xwf a6 C
  rw [← hc] at L
  refine Q7<|Xd<|Q _ _<|Zr b ?_;refine Ze (Xu rfl rfl (by omega) (by omega))<|Zm rfl ?_;refine Zn fun a b=>?_;refine Xf ?_;exact ⟨(k+1,c),⟨b.sb,(by omega),(by rw [L]),f,o,x⟩,(by first|omega|(dsimp only;omega))⟩
 have m:=y;have y:=Q1 y
 have aZ:c=bnI d.ns:=by rw [hc,Qi (by have:=y;omega)]
 refine Q9<|Xk<|Xk<|X03 ?_;refine aT _ _<|Q5 fun _ aH=>?_;refine Zs b fun _ aI=>?_;refine Ze (Vd rfl X2h 0)<|Ze (X0 rfl X9 (f.at 0))<|Zm rfl<|Zt aI fun a b=>?_;refine Q8<|X01 (σ:=Nat) (fun (j:Nat) (a:Act) (w:World)=>Fr a 46 [(1,.pointer (some ⟨b4,0,none⟩)),(3,vi c),(26,vi d.n),(27,vi (j:Int))]∧((j:Int)≤d.n)∧(∀ i:Nat,i<j→heQ d i=true)∧Blk w b4 39 [vi d.n,.slice Ad md cd,.slice Bd d.ws.length dd,vi d.t,vi d.r]∧d.ws.length≤dd∧Below I.heap.size I w) (fun (j:Nat)=>d.n.toNat-j) 0 ?_ ?_
 ·exact ⟨b.sb,(by omega),(fun i hi=>by omega),f,o,x⟩
 rintro j a w5 ⟨b,hj,W,f,o,x⟩;refine Zs b fun _ aJ=>?_;refine Ze (X0m rfl rfl)<|ZX aJ fun a b _ aK=>?_
 refine Xh b rfl (fun h=>?_) (fun h=>?_)
 ·have A:=h;have h:=Q2 h;have b6:=h;refine Q7<|aK _ _<|Q5 fun _ aL=>?_;refine Q8<|Zs b fun _ aM=>?_;refine Zm rfl<|Za rfl<|ZX aM fun a b _ aN=>?_;refine X09 (fun a w=>Fr a 46 [(1,.pointer (some ⟨b4,0,none⟩)),(3,vi c),(26,vi d.n),(27,vi (j:Int)),(39,.bool ((decide ((fnI d.ns ⟨1,(j:Int)⟩)<0))||(decide ((fnI d.ns ⟨2,(j:Int)⟩)<0))))]∧Below w5.heap.size w5 w) ?_ ?_
  ·have H:Below w5.heap.size w5 w5:=Below.refl _ _
   refine Zr b<|Ze (Vn X2 f)<|Zm rfl<|Zf (Vc (Xoz _ d md J Ad cd (E.below' x).top Bd dd (N.below' x).top o 1 (j:Int) (by omega)) Xee) ?_;rintro _ w6 ⟨rfl,G⟩;have f:=f.below G;have x:=btr x G;have H:=btr H G;refine Ze (X0m rfl rfl)<|Zm rfl ?_
   refine Zg 34 rfl (fun e=>?_) (fun e=>?_)
   ·refine Zp (gP e) ?_;refine Zp (gP e) ?_;refine Zp (gP e) ?_;refine Zp (gP e) ?_;refine Ze (X8 rfl e rfl) ?_;refine Zn fun a b=>?_
    have aB:Below w5.heap.size w5 w6:=H
    exact ⟨b.sub ⟨rfl,rfl,rfl,rfl,X1 rfl (by first|rfl|(simp only [m,A,e,bs];done)|simp [m,A,e]),trivial⟩,aB⟩
   refine Zv (gW e) (Vn X2 f) ?_;refine Zv (gW e) (X3 rfl) ?_;refine Zk (gW e) (Vc (Xoz _ d md J Ad cd (E.below' x).top Bd dd (N.below' x).top o 2 (j:Int) (by omega)) Xee) ?_;rintro _ w7 ⟨rfl,G⟩;have x:=btr x G;have H:=btr H G;refine Zv (gW e) (X0m rfl rfl) ?_;refine Ze (Xe rfl e rfl) ?_;refine Zn fun a b=>?_
   have aB:Below w5.heap.size w5 w7:=H
   exact ⟨b.sub ⟨rfl,rfl,rfl,rfl,X1 rfl (by first|rfl|(simp only [m,A,e,bs];done)|simp [m,A,e]),trivial⟩,aB⟩
  rintro a w8 ⟨b,G⟩;have f:=f.below G;have x:=btr x G;refine aN _ _ ?_
  refine Xh b rfl (fun D=>?_) (fun D=>?_)
  ·have aC:=D
   have M:heD d=false:=by unfold heD;rw [X4w (q:=heQ d) (k:=j) (by omega) (by unfold heQ;rw [D];rfl),Bool.false_and]
   refine Zs b fun _ aO=>?_;refine Za rfl<|Zt aO fun a b=>?_;refine Q6<|Xq<|X7<|X7 ?_;refine Xq<|X7<|X5 b (Xr b rfl rfl) ?_;exact ⟨by rw [M],x⟩
  have aC:=D
  have b0:heQ d j=true:=by unfold heQ;rw [D];rfl
  refine Q7<|Xd<|aL _ _<|Zr b ?_;refine Ze (Xu rfl rfl (by omega) (by omega))<|Zm rfl ?_;refine Zn fun a b=>?_;refine Xf ?_;exact ⟨j+1,⟨b.sb,(by omega),(fun i hi=>by by_cases h9:i=j;rw [h9];exact b0;exact W i (by omega)),f,o,x⟩,(by omega)⟩
 have A:=h;have h:=Q1 h
 have b1:(List.range d.n.toNat).all (heQ d)=true:=X4j fun i hi=>W i (by have:=h;omega)
 have M:heD d=(c==2*d.n):=by unfold heD;rw [b1,Qw,aZ]
 refine Q9<|Xk<|Xk<|X03 ?_;refine aH _ _<|Zs b fun _ aP=>?_;refine Zm rfl<|Ze (Vd rfl X2h 0)<|Ze (X0 rfl X9 (f.at 0))<|Ze (Xbk rfl rfl (by omega) (by omega))<|Ze (X0a rfl rfl)<|Za rfl<|Zt aP fun a b=>?_
 refine Q6 (X5 b (Xr b rfl rfl) ?_)
 exact ⟨by rw [M],x⟩
theorem Xuu(w0:World)(x:Nd)(n:Int)(ba:Nat)(v1 v2 v3 v4:Value)(b:Blk w0 ba 39 [vi n,v1,v2,v3,v4])(hn:1≤n∧n≤1000) : Ret Tryz.prog 98 [.agg #[vi x.k,vi x.p],.pointer (some ⟨ba,0,none⟩)] w0 (fun v w=>v=.bool (!nokI n x)∧Below w0.heap.size w0 w):=by
 have a6:=b.lt;refine enter Tryz.func98 rfl 9 rfl rfl ?_;intro a hf
 have hW:=bz w0
 refine Zs hf fun _ a7=>?_;refine Zf (X0h (zs:=[vi x.k,vi x.p]) rfl rfl) ?_;rintro _ w1 ⟨b2,rfl,a8,hE,aA⟩;have aC:=Q0 hW.size a8;have b:=b.below hE;have hW:=btr hW hE;refine Za rfl<|Zx a7 fun a hf _ aB=>?_;refine Ze (Vd rfl X2h 0)<|Ze (X0 rfl X9 (b.at 0))<|Ze (Vn X2i aA)<|Zf (Vc (Xvj _ n x hn) Xjv) ?_;rintro _ w2 ⟨rfl,hE⟩;have hW:=btr hW hE;refine Ze (X0y rfl)<|Za rfl<|Zt aB fun a hf=>?_
 refine Q6 (X5 hf (Xr hf rfl rfl) ?_)
 exact ⟨rfl,hW⟩
theorem Xuv(b:World)(Al:Option Addr)(cl:Nat)(l:List Nd)(a6:Rd b b.heap.size 81 encNd Al l)(kq:FuncId)(pq:List Value)(Fq:FuncF Tryz.prog kq)(q:Nd→Bool)(hq:∀ x w,Below b.heap.size b w→Ret Tryz.prog kq ([ndV x]++pq) w (fun v w'=>v=.bool (q x)∧Below w.heap.size w w'))(a7:l.length≤1000000000) : Ret Tryz.prog 97 [.slice Al l.length cl,.func (.func kq) #[] pq.toArray] b (fun v w=>v=.bool (l.any q)∧Below b.heap.size b w):=by
 refine enter Tryz.func97 rfl 9 rfl rfl ?_;intro a hf
 have hW:=bz b
 refine Zs hf fun _ a8=>?_;refine Za rfl<|Zx a8 fun a hf _ aA=>?_;refine Zm rfl<|Zm rfl<|Zf (Vc (Xtl _ Al cl l (a6.below' hW).top kq pq Fq q (fun x w' hE'=>hq x w' (hW.trans (hE'.mono hW.size))) a7) Xmf) ?_;rintro _ w1 ⟨rfl,hE⟩;have hW:=btr hW hE;refine Ze (X4m rfl rfl)<|Za rfl<|Zt aA fun a hf=>?_
 refine Q6 (X5 hf (Xr hf rfl rfl) ?_)
 exact ⟨by rw [Xf6],hW⟩
theorem Xjq(w0:World)(d:Dg)(md:Nat)(b1:md=d.ns.length)(Ad:Option Addr)(cd:Nat)(aB:Rd w0 w0.heap.size 81 encNd Ad d.ns)(Bd:Option Addr)(dd:Nat)(aC:Rd w0 w0.heap.size 83 encWr Bd d.ws)(a7:d.ws.length≤dd)(aJ:d.ws.length≤1000000000) : Ret Tryz.prog 50 [.agg #[vi d.n,.slice Ad md cd,.slice Bd d.ws.length dd,vi d.t,vi d.r]] w0 (fun v w=>v=.bool (ivD d)∧Below w0.heap.size w0 w):=by
 subst b1
 refine enter Tryz.func50 rfl 116 rfl rfl ?_;intro a m
 have D:=bz w0
 refine Zs m fun _ bU=>?_;refine Zf (X0h (zs:=[vi d.n,.slice Ad d.ns.length cd,.slice Bd d.ws.length dd,vi d.t,vi d.r]) rfl rfl) ?_;rintro _ w1 ⟨b4,rfl,bW,I,g⟩;have cC:=Q0 D.size bW;have D:=btr D I;refine Za rfl<|ZX bU fun a m _ bX=>?_;refine Q5 fun _ bY=>?_;refine X09 (fun a w=>Fr a 116 [(1,.pointer (some ⟨b4,0,none⟩)),(39,.bool (!(inR d.n 1 5)||decide (40<(d.ns.length:Int))||!(inR d.t 0 7)||!(inR d.r (-60) 60)||(d.ns.any fun x=>!nokI d.n x)||!(heD d)))]∧Below w1.heap.size w1 w) ?_ ?_
 ·have q:Below w1.heap.size w1 w1:=Below.refl _ _
  refine Zr m<|Ze (Vd rfl X2h 0)<|Ze (X0 rfl X9 (g.at 0))<|Zf (Vc (F91 _ d.n 1 5) X3h) ?_;rintro _ _ ⟨rfl,rfl⟩;refine Ze (X0y rfl)<|Zm rfl ?_
  refine Zg 11 rfl (fun J=>?_) (fun J=>?_)
  ·refine Zp (gP J) ?_;refine Zp (gP J) ?_;refine Zp (gP J) ?_;refine Zp (gP J) ?_;refine Ze (X8 rfl J rfl)<|Zm rfl<|Zp (gP rfl) ?_;refine Zp (gP rfl) ?_;refine Zp (gP rfl) ?_;refine Zp (gP rfl) ?_;refine Ze (X8 rfl rfl rfl)<|Zm rfl<|Zp (gP rfl) ?_;refine Zp (gP rfl) ?_;refine Zp (gP rfl) ?_;refine Zp (gP rfl) ?_;refine Ze (X8 rfl rfl rfl)<|Zm rfl<|Zp (gP rfl) ?_;refine Zp (gP rfl) ?_;refine Zp (gP rfl) ?_;refine Zp (gP rfl) ?_;refine Ze (X8 rfl rfl rfl)<|Zm rfl<|Zp (gP rfl) ?_;refine Zp (gP rfl) ?_;refine Zp (gP rfl) ?_;refine Ze (X8 rfl rfl rfl) ?_;refine Zn fun a m=>?_
   have A:Below w1.heap.size w1 w1:=q
   exact ⟨m.sub ⟨rfl,X1 rfl (by first|rfl|(simp only [J,bs];done)|simp [J]),trivial⟩,A⟩
  have c4:1≤d.n∧d.n≤5:=X0e.1 (by have h8:=J;simpa using h8)
  refine Zv (gW J) (Vd rfl Xi 1) ?_;refine Zv (gW J) (X0 rfl Xz (g.at 1)) ?_;refine Zv (gW J) (X0c rfl Xo) ?_;refine Zv (gW J) (X7x rfl rfl) ?_;refine Ze (Xe rfl J rfl)<|Zm rfl ?_
  refine Zg 17 rfl (fun U=>?_) (fun U=>?_)
  ·refine Zp (gP U) ?_;refine Zp (gP U) ?_;refine Zp (gP U) ?_;refine Zp (gP U) ?_;refine Ze (X8 rfl U rfl)<|Zm rfl<|Zp (gP rfl) ?_;refine Zp (gP rfl) ?_;refine Zp (gP rfl) ?_;refine Zp (gP rfl) ?_;refine Ze (X8 rfl rfl rfl)<|Zm rfl<|Zp (gP rfl) ?_;refine Zp (gP rfl) ?_;refine Zp (gP rfl) ?_;refine Zp (gP rfl) ?_;refine Ze (X8 rfl rfl rfl)<|Zm rfl<|Zp (gP rfl) ?_;refine Zp (gP rfl) ?_;refine Zp (gP rfl) ?_;refine Ze (X8 rfl rfl rfl) ?_;refine Zn fun a m=>?_
   have A:Below w1.heap.size w1 w1:=q
   exact ⟨m.sub ⟨rfl,X1 rfl (by first|rfl|(simp only [J,U,bs];done)|simp [J,U]),trivial⟩,A⟩
  have b2:d.ns.length≤40:=by have h8:=U;simp at h8;omega
  refine Zv (gW U) (Vd rfl X0q 3) ?_;refine Zv (gW U) (X0 rfl X9 (g.at 3)) ?_;refine Zk (gW U) (Vc (F91 _ d.t 0 7) X3h) ?_;rintro _ _ ⟨rfl,rfl⟩;refine Zv (gW U) (X0y rfl) ?_;refine Ze (Xe rfl U rfl)<|Zm rfl ?_
  refine Zg 23 rfl (fun a6=>?_) (fun a6=>?_)
  ·refine Zp (gP a6) ?_;refine Zp (gP a6) ?_;refine Zp (gP a6) ?_;refine Zp (gP a6) ?_;refine Ze (X8 rfl a6 rfl)<|Zm rfl<|Zp (gP rfl) ?_;refine Zp (gP rfl) ?_;refine Zp (gP rfl) ?_;refine Zp (gP rfl) ?_;refine Ze (X8 rfl rfl rfl)<|Zm rfl<|Zp (gP rfl) ?_;refine Zp (gP rfl) ?_;refine Zp (gP rfl) ?_;refine Ze (X8 rfl rfl rfl) ?_;refine Zn fun a m=>?_
   have A:Below w1.heap.size w1 w1:=q
   exact ⟨m.sub ⟨rfl,X1 rfl (by first|rfl|(simp only [J,U,a6,bs];done)|simp [J,U,a6]),trivial⟩,A⟩
  refine Zv (gW a6) (Vd rfl Xy 4) ?_;refine Zv (gW a6) (X0 rfl X9 (g.at 4)) ?_;refine Zk (gW a6) (Vc (F91 _ d.r (-60) 60) X3h) ?_;rintro _ _ ⟨rfl,rfl⟩;refine Zv (gW a6) (X0y rfl) ?_;refine Ze (Xe rfl a6 rfl)<|Zm rfl ?_
  refine Zg 29 rfl (fun H=>?_) (fun H=>?_)
  ·refine Zp (gP H) ?_;refine Zp (gP H) ?_;refine Zp (gP H) ?_;refine Zp (gP H) ?_;refine Ze (X8 rfl H rfl)<|Zm rfl<|Zp (gP rfl) ?_;refine Zp (gP rfl) ?_;refine Zp (gP rfl) ?_;refine Ze (X8 rfl rfl rfl) ?_;refine Zn fun a m=>?_
   have A:Below w1.heap.size w1 w1:=q
   exact ⟨m.sub ⟨rfl,X1 rfl (by first|rfl|(simp only [J,U,a6,H,bs];done)|simp [J,U,a6,H]),trivial⟩,A⟩
  refine Zv (gW H) (Vd rfl Xi 1) ?_;refine Zv (gW H) (X0 rfl Xz (g.at 1)) ?_;refine Zv (gW H) (X38 (vs:=[.pointer (some ⟨b4,0,none⟩)]) rfl) ?_;refine Zk (gW H) (Vc (Xuv _ Ad cd d.ns (aB.below' D).top 98 [.pointer (some ⟨b4,0,none⟩)] Xkt (fun x=>!nokI d.n x) (fun x w' hE'=>Xuu w' x d.n _ _ _ _ _ (g.below hE') ⟨by omega,by omega⟩) (by omega)) Xlz) ?_;rintro _ w2 ⟨rfl,I⟩;have g:=g.below I;have D:=btr D I;have q:=btr q I;refine Ze (Xe rfl H rfl)<|Zm rfl ?_
  refine Zg 35 rfl (fun W=>?_) (fun W=>?_)
  ·refine Zp (gP W) ?_;refine Zp (gP W) ?_;refine Zp (gP W) ?_;refine Ze (X8 rfl W rfl) ?_;refine Zn fun a m=>?_
   have A:Below w1.heap.size w1 w2:=q
   exact ⟨m.sub ⟨rfl,X1 rfl (by first|rfl|(simp only [J,U,a6,H,W,bs];done)|simp [J,U,a6,H,W]),trivial⟩,A⟩
  refine Zv (gW W) (Vn X2 g) ?_;refine Zk (gW W) (Vc (Xty _ d d.ns.length rfl Ad cd (aB.below' D).top Bd dd (aC.below' D).top a7 (by omega) ⟨by omega,by omega⟩) Xl4) ?_;rintro _ w3 ⟨rfl,I⟩;have D:=btr D I;have q:=btr q I;refine Zv (gW W) (X0y rfl) ?_;refine Ze (Xe rfl W rfl) ?_;refine Zn fun a m=>?_
  have A:Below w1.heap.size w1 w3:=q
  exact ⟨m.sub ⟨rfl,X1 rfl (by first|rfl|(simp only [J,U,a6,H,W,bs];done)|simp [J,U,a6,H,W]),trivial⟩,A⟩
 rintro a w4 ⟨m,I⟩;have g:=g.below I;have D:=btr D I;refine bY _ _ ?_
 refine Xh m rfl (fun aG=>?_) (fun aG=>?_)
 ·have c:=aG
  have aF:ivD d=false:=Xwk aG
  refine Zs m fun _ b3=>?_;refine Za rfl<|Zt b3 fun a m=>?_;refine Q6<|X7<|X5 m (Xr m rfl rfl) ?_;exact ⟨by rw [aF],D⟩
 have c:=aG;have b5:=aG;have b6:=b5
 simp only [Bool.or_eq_false_iff,decide_eq_false_iff_not,Bool.not_eq_false'] at b6
 have c4:=X0e.1 b6.1.1.1.1.1
 have b2:d.ns.length≤40:=by omega
 refine Q7<|bX _ _<|Q5 fun _ b7=>?_;refine Zs m fun _ b8=>?_;refine Ze (Vd rfl Xm 2)<|Ze (X0 rfl X0j (g.at 2))<|Ze (X0c rfl Xv)<|Zm rfl<|Zt b8 fun a m=>?_;refine Q8<|X01 (σ:=Nat) (fun (k:Nat) (a:Act) (w:World)=>Fr a 116 [(1,.pointer (some ⟨b4,0,none⟩)),(41,.slice Bd d.ws.length dd),(42,vi (d.ws.length:Int)),(43,vi (k:Int))]∧(k≤d.ws.length)∧(∀ i:Nat,i<k→wvQ d i=true)∧Blk w b4 39 [vi d.n,.slice Ad d.ns.length cd,.slice Bd d.ws.length dd,vi d.t,vi d.r]∧d.ws.length≤dd∧Below w0.heap.size w0 w) (fun (k:Nat)=>d.ws.length-k) 0 ?_ ?_
 ·exact ⟨m.sb,(Qf _),(fun i hi=>by omega),g,a7,D⟩
 rintro k a w5 ⟨m,hk,aL,g,a7,D⟩;refine Zs m fun _ b9=>?_;refine Ze (X0m rfl rfl)<|ZX b9 fun a m _ bA=>?_
 refine Xh m rfl (fun aD=>?_) (fun aD=>?_)
 ·have e:=aD;have aD:=Q2 aD
  obtain ⟨cF,cD⟩:=X4 (l:=d.ws) (k:=k) (by omega)
  obtain ⟨u9,aP⟩:=X4 (l:=d.ws) (k:=k) (by have:=aD;omega)
  have cA:=(Qg.1 aP).1;have bB:=Xoo aP;refine Q7<|bA _ _<|Q5 fun _ bC=>?_;refine Q8<|Zs m fun _ bD=>?_;refine Zm rfl<|Zi (k:=k) (u:=u9) (enc:=encWr) (l:=d.ws) trivial rfl rfl Xv X0b Xx (aC.below' D) aP rfl ?_;intro cG aQ;refine Ze (X02 (l:=[vi u9.a,vi u9.b,.bool u9.h]) rfl X17 aQ rfl)<|Zf (X00 (zs:=[vi 0,vi 0,.bool false]) X32 rfl) ?_;rintro _ w6 ⟨cH,rfl,aM,I,a8⟩;have aR:=Q0 D.size aM;have bE:=(aC.below' D).away aM;have g:=g.below I;have D:=btr D I;refine Za rfl<|Zo (Vw [vi u9.a,vi u9.b,.bool u9.h] X0b a8) ?_;rintro _ w7 ⟨ho,hb⟩;have aK:=a8;have g:=g.only ho (Blk.ne g aK rfl);have D:=Below.only D ho aR;have a8:=hb;refine ZX bD fun a m _ bF=>?_;refine X09 (fun a w=>Fr a 116 [(1,.pointer (some ⟨b4,0,none⟩)),(41,.slice Bd d.ws.length dd),(42,vi (d.ws.length:Int)),(43,vi (k:Int)),(80,.bool (decide (u9.a<0)||decide (u9.b≤u9.a)||decide ((d.ns.length:Int)≤u9.b)||(decide (0<(k:Int))&&decide (0≤cmW (d.ws.getD (k-1) wZ) u9))))]∧Below w7.heap.size w7 w) ?_ ?_
  ·have q:Below w7.heap.size w7 w7:=Below.refl _ _
   refine X05 none (fun _=>false) mixed ?_;intro w8 I;have g:=g.below I;have a8:=a8.below I;have D:=btr D I;have q:=btr q I;refine Yb m<|Yo 0 rfl (fun _=>Vd rfl X0s 0)<|Ye 1 rfl (X0 rfl X9 (a8.at 0))<|Yo 2 rfl (fun _=>X0m rfl rfl)<|Yo 3 rfl (fun _=>X3 rfl) ?_
   refine Yl 51 rfl (fun B=>?_) (fun B=>?_)
   ·refine Yp 4 rfl (gP B) ?_;refine Yp 5 rfl (gP B) ?_;refine Yp 6 rfl (gP B) ?_;refine Yp 7 rfl (gP B) ?_;refine Yp 8 rfl (gP B) ?_;refine Yo 9 rfl (fun _=>X8 rfl B rfl)<|Yo 10 rfl (fun _=>X3 rfl)<|Yp 11 rfl (gP rfl) ?_;refine Yp 12 rfl (gP rfl) ?_;refine Yp 13 rfl (gP rfl) ?_;refine Yp 14 rfl (gP rfl) ?_;refine Yp 15 rfl (gP rfl) ?_;refine Yp 16 rfl (gP rfl) ?_;refine Yo 17 rfl (fun _=>X8 rfl rfl rfl)<|Yo 18 rfl (fun _=>X3 rfl)<|Yp 19 rfl (gP rfl) ?_;refine Yp 20 rfl (gP rfl) ?_;refine Yp 21 rfl (gP rfl) ?_;refine Yp 22 rfl (gP trivial) ?_;refine Yp 23 rfl (gP trivial) ?_;refine Yp 24 rfl (gP trivial) ?_;refine Yp 25 rfl (gP trivial) ?_;refine Yp 26 rfl (gP trivial) ?_;refine Yp 27 rfl (gP trivial) ?_;refine Yp 28 rfl (gP trivial) ?_;refine Y1 29<|Yq rfl ⟨_,_,rfl,rfl,trivial⟩ ?_;refine Yp 30 rfl (gP trivial) ?_;refine Yp 31 rfl (gP rfl) ?_;refine Yo 32 rfl (fun _=>X8 rfl rfl rfl) ?_;refine Yd fun a m=>?_
    have A:Below w7.heap.size w7 w8:=q
    exact ⟨m.sub ⟨rfl,rfl,rfl,rfl,X1 rfl (by first|rfl|(simp only [c,e,B,bs];done)|simp [c,e,B]),trivial⟩,A⟩
   refine Yu 4 rfl (gW B) (fun _=>Vd rfl X0s 0) ?_;refine Yv 5 rfl (gW B) (X0 rfl X9 (a8.at 0)) ?_;refine Yu 6 rfl (gW B) (fun _=>Vd rfl X0v 1) ?_;refine Yv 7 rfl (gW B) (X0 rfl X9 (a8.at 1)) ?_;refine Yu 8 rfl (gW B) (fun _=>X4m rfl rfl) ?_;refine Yo 9 rfl (fun _=>Xe rfl B rfl)<|Yo 10 rfl (fun _=>X3 rfl) ?_
   refine Yl 58 rfl (fun C=>?_) (fun C=>?_)
   ·refine Yp 11 rfl (gP C) ?_;refine Yp 12 rfl (gP C) ?_;refine Yp 13 rfl (gP C) ?_;refine Yp 14 rfl (gP C) ?_;refine Yp 15 rfl (gP C) ?_;refine Yp 16 rfl (gP C) ?_;refine Yo 17 rfl (fun _=>X8 rfl C rfl)<|Yo 18 rfl (fun _=>X3 rfl)<|Yp 19 rfl (gP rfl) ?_;refine Yp 20 rfl (gP rfl) ?_;refine Yp 21 rfl (gP rfl) ?_;refine Yp 22 rfl (gP trivial) ?_;refine Yp 23 rfl (gP trivial) ?_;refine Yp 24 rfl (gP trivial) ?_;refine Yp 25 rfl (gP trivial) ?_;refine Yp 26 rfl (gP trivial) ?_;refine Yp 27 rfl (gP trivial) ?_;refine Yp 28 rfl (gP trivial) ?_;refine Y1 29<|Yq rfl ⟨_,_,rfl,rfl,trivial⟩ ?_;refine Yp 30 rfl (gP trivial) ?_;refine Yp 31 rfl (gP rfl) ?_;refine Yo 32 rfl (fun _=>X8 rfl rfl rfl) ?_;refine Yd fun a m=>?_
    have A:Below w7.heap.size w7 w8:=q
    exact ⟨m.sub ⟨rfl,rfl,rfl,rfl,X1 rfl (by first|rfl|(simp only [c,e,B,C,bs];done)|simp [c,e,B,C]),trivial⟩,A⟩
   refine Yu 11 rfl (gW C) (fun _=>Vd rfl X0v 1) ?_;refine Yv 12 rfl (gW C) (X0 rfl X9 (a8.at 1)) ?_;refine Yu 13 rfl (gW C) (fun _=>Vd rfl Xi 1) ?_;refine Yv 14 rfl (gW C) (X0 rfl Xz (g.at 1)) ?_;refine Yu 15 rfl (gW C) (fun _=>X0c rfl Xo) ?_;refine Yu 16 rfl (gW C) (fun _=>X4m rfl rfl) ?_;refine Yo 17 rfl (fun _=>Xe rfl C rfl)<|Yo 18 rfl (fun _=>X3 rfl) ?_
   refine Yl 66 rfl (fun G=>?_) (fun G=>?_)
   ·refine Yp 19 rfl (gP G) ?_;refine Yp 20 rfl (gP G) ?_;refine Yp 21 rfl (gP G) ?_;refine Yp 22 rfl (gP trivial) ?_;refine Yp 23 rfl (gP trivial) ?_;refine Yp 24 rfl (gP trivial) ?_;refine Yp 25 rfl (gP trivial) ?_;refine Yp 26 rfl (gP trivial) ?_;refine Yp 27 rfl (gP trivial) ?_;refine Yp 28 rfl (gP trivial) ?_;refine Y1 29<|Yq rfl ⟨_,_,rfl,rfl,trivial⟩ ?_;refine Yp 30 rfl (gP trivial) ?_;refine Yp 31 rfl (gP G) ?_;refine Yo 32 rfl (fun _=>X8 rfl G rfl) ?_;refine Yd fun a m=>?_
    have A:Below w7.heap.size w7 w8:=q
    exact ⟨m.sub ⟨rfl,rfl,rfl,rfl,X1 rfl (by first|rfl|(simp only [c,e,B,C,G,bs];done)|simp [c,e,B,C,G]),trivial⟩,A⟩
   refine Yu 19 rfl (gW G) (fun _=>X3 rfl) ?_;refine Yu 20 rfl (gW G) (fun _=>X7x rfl rfl) ?_;refine Yu 21 rfl (gW G) (fun _=>X3 rfl) ?_
   refine Yl 69 rfl (fun o=>?_) (fun o=>?_)
   ·have cJ:0<k:=by have h8:=o;simpa using h8
    refine Yu 22 rfl (gW o) (fun _=>Vd rfl Xm 2) ?_;refine Yv 23 rfl (gW o) (X0 rfl X0j (g.at 2)) ?_;refine Yu 24 rfl (gW o) (fun _=>X3 rfl) ?_;refine Yu 25 rfl (gW o) (fun _=>X1h rfl rfl (by omega) (by omega)) ?_;refine Yi (k:=(k-1)) (u:=(d.ws.getD (k-1) wZ)) (enc:=encWr) (l:=d.ws) 26 rfl ⟨_,_,rfl,rfl,o⟩ rfl rfl Xv X0b Xx (aC.below' D) (Xb (by omega)) (by omega) ?_;intro cK aS;refine Yv 27 rfl (gW o) (X02 (l:=[vi ((d.ws.getD (k-1) wZ).a),vi ((d.ws.getD (k-1) wZ).b),.bool ((d.ws.getD (k-1) wZ).h)]) rfl X17 aS rfl) ?_;refine Yv 28 rfl (gW o) (Vn X17 a8) ?_;refine Y1 29<|Yk rfl ⟨_,_,rfl,rfl,o⟩ (Vc (Xva _ (d.ws.getD (k-1) wZ) u9) Xlw) (fun _ _ ⟨_,I⟩=>I) ?_;rintro _ w9 ⟨rfl,I⟩;have D:=btr D I;have q:=btr q I;refine Yu 30 rfl (gW o) (fun _=>X4m rfl rfl) ?_;refine Yu 31 rfl (gW G) (fun _=>X8 rfl o rfl) ?_;refine Yo 32 rfl (fun _=>Xe rfl G rfl) ?_;refine Yd fun a m=>?_
    have A:Below w7.heap.size w7 w9:=q
    exact ⟨m.sub ⟨rfl,rfl,rfl,rfl,X1 rfl (by first|rfl|(simp only [c,e,B,C,G,o,bs];done)|simp [c,e,B,C,G,o]),trivial⟩,A⟩
   refine Yp 22 rfl (gP o) ?_;refine Yp 23 rfl (gP o) ?_;refine Yp 24 rfl (gP o) ?_;refine Yp 25 rfl (gP o) ?_;refine Yp 26 rfl (gP o) ?_;refine Yp 27 rfl (gP o) ?_;refine Yp 28 rfl (gP o) ?_;refine Y1 29<|Yq rfl ⟨_,_,rfl,rfl,o⟩ ?_;refine Yp 30 rfl (gP o) ?_;refine Yu 31 rfl (gW G) (fun _=>Xe rfl o rfl) ?_;refine Yo 32 rfl (fun _=>Xe rfl G rfl) ?_;refine Yd fun a m=>?_
   have A:Below w7.heap.size w7 w8:=q
   exact ⟨m.sub ⟨rfl,rfl,rfl,rfl,X1 rfl (by first|rfl|(simp only [c,e,B,C,G,o,bs];done)|simp [c,e,B,C,G,o]),trivial⟩,A⟩
  rintro a cL ⟨m,I⟩;have g:=g.below I;have D:=btr D I;refine bF _ _ ?_
  refine Xh m rfl (fun aH=>?_) (fun aH=>?_)
  ·have aT:=aH
   have aF:ivD d=false:=Xwx cA (by rw [bB,aH];rfl)
   refine Zs m fun _ bG=>?_;refine Za rfl<|Zt bG fun a m=>?_;refine Q6<|Xq<|X7<|X7 ?_;refine Xq<|X7<|X5 m (Xr m rfl rfl) ?_;exact ⟨by rw [aF],D⟩
  have aT:=aH
  have aU:wvQ d k=true:=by rw [bB,aH];rfl
  refine Q7<|Xd<|bC _ _<|Zr m ?_;refine Ze (Xu rfl rfl (by omega) (by omega))<|Zm rfl ?_;refine Zn fun a m=>?_;refine Xf ?_;exact ⟨k+1,⟨m.sb,(by omega),(fun i hi=>by by_cases h9:i=k;rw [h9];exact aU;exact aL i (by omega)),g,a7,D⟩,(by omega)⟩
 have e:=aD;have aD:=Q1 aD
 have aW:∀ i,i<d.ws.length→wvQ d i=true:=fun i hi=>aL i (by have:=aD;omega)
 refine Q9<|Xk<|Xk<|X03 ?_;refine b7 _ _<|Q5 fun _ bH=>?_;refine Zs m fun _ bJ=>?_;refine Ze (Vd rfl Xi 1)<|Ze (X0 rfl Xz (g.at 1))<|Ze (X0c rfl Xo)<|Zm rfl<|Zt bJ fun a m=>?_;refine Q8<|X01 (σ:=Nat) (fun (j:Nat) (a:Act) (w:World)=>Fr a 116 [(1,.pointer (some ⟨b4,0,none⟩)),(83,.slice Ad d.ns.length cd),(84,vi (d.ns.length:Int)),(85,vi (j:Int))]∧(j≤d.ns.length)∧(∀ i:Nat,i<j→nvQ d i=true)∧Blk w b4 39 [vi d.n,.slice Ad d.ns.length cd,.slice Bd d.ws.length dd,vi d.t,vi d.r]∧d.ws.length≤dd∧Below w0.heap.size w0 w) (fun (j:Nat)=>d.ns.length-j) 0 ?_ ?_
 ·exact ⟨m.sb,(Qf _),(fun i hi=>by omega),g,a7,D⟩
 rintro j a cM ⟨m,hj,aN,g,a7,D⟩;refine Zs m fun _ bK=>?_;refine Ze (X0m rfl rfl)<|ZX bK fun a m _ bL=>?_
 refine Xh m rfl (fun aE=>?_) (fun aE=>?_)
 ·have E:=aE;have aE:=Q2 aE
  obtain ⟨cN,cE⟩:=X4 (l:=d.ns) (k:=j) (by omega)
  obtain ⟨v9,aX⟩:=X4 (l:=d.ns) (k:=j) (by have:=aE;omega)
  have cB:=(Qg.1 aX).1;have bM:=Xno aX;refine Q7<|bL _ _<|Q5 fun _ bN=>?_;refine Q8<|Zs m fun _ bO=>?_;refine Zm rfl<|Zi (k:=j) (u:=v9) (enc:=encNd) (l:=d.ns) trivial rfl rfl Xo X07 Xt (aB.below' D) aX rfl ?_;intro cO aY;refine Ze (X02 (l:=[vi v9.k,vi v9.p]) rfl X2i aY rfl)<|Zf (X00 (zs:=[vi 0,vi 0]) X6m rfl) ?_;rintro _ cP ⟨cQ,rfl,aO,I,aA⟩;have aZ:=Q0 D.size aO;have bP:=(aB.below' D).away aO;have g:=g.below I;have D:=btr D I;refine Za rfl<|Zo (Vw [vi v9.k,vi v9.p] X07 aA) ?_;rintro _ w13 ⟨ho,hb⟩;have aK:=aA;have g:=g.only ho (Blk.ne g aK rfl);have D:=Below.only D ho aZ;have aA:=hb;refine ZX bO fun a m _ bR=>?_;refine X09 (fun a w=>Fr a 116 [(1,.pointer (some ⟨b4,0,none⟩)),(83,.slice Ad d.ns.length cd),(84,vi (d.ns.length:Int)),(85,vi (j:Int)),(114,.bool ((v9.k==0&&cnW d.ws (j:Int) != 0)||((v9.k==1||v9.k==2)&&cnW d.ws (j:Int) != 1)))]∧Below w13.heap.size w13 w) ?_ ?_
  ·have q:Below w13.heap.size w13 w13:=Below.refl _ _
   refine Zr m<|Ze (Vd rfl X10 0)<|Ze (X0 rfl X9 (aA.at 0))<|Ze (X0a rfl rfl)<|Zm rfl ?_
   refine Zg 93 rfl (fun y=>?_) (fun y=>?_)
   ·refine Zv (gW y) (Vn X2 g) ?_;refine Zv (gW y) (X3 rfl) ?_;refine Zk (gW y) (Vc (X88 _ d d.ns.length rfl Ad cd (aB.below' D).top Bd dd (aC.below' D).top a7 (j:Int) aJ) X4a) ?_;rintro _ w14 ⟨rfl,I⟩;have g:=g.below I;have aA:=aA.below I;have D:=btr D I;have q:=btr q I;refine Zv (gW y) (X18 rfl rfl) ?_;refine Ze (X8 rfl y rfl)<|Zm rfl ?_
    refine Zg 99 rfl (fun f=>?_) (fun f=>?_)
    ·refine Zp (gP f) ?_;refine Zp (gP f) ?_;refine Zp (gP f) ?_;refine Zp (gP f) ?_;refine Zp (gP trivial) ?_;refine Zp (gP trivial) ?_;refine Zp (gP trivial) ?_;refine Zp (gP f) ?_;refine Zp (gP f) ?_;refine Zp (gP trivial) ?_;refine Zp (gP trivial) ?_;refine Zp (gP trivial) ?_;refine Zp (gP trivial) ?_;refine Zp (gP f) ?_;refine Ze (X8 rfl f rfl) ?_;refine Zn fun a m=>?_
     have A:Below w13.heap.size w13 w14:=q
     exact ⟨m.sub ⟨rfl,rfl,rfl,rfl,X1 rfl (by first|rfl|(simp only [c,e,E,y,f,bs];done)|simp [c,e,E,y,f]),trivial⟩,A⟩
    refine Zv (gW f) (Vd rfl X10 0) ?_;refine Zv (gW f) (X0 rfl X9 (aA.at 0)) ?_;refine Zv (gW f) (X0a rfl rfl) ?_;refine Zv (gW f) (X3 rfl) ?_
    refine Zg 103 rfl (fun L=>?_) (fun L=>?_)
    ·refine Zp (gP L) ?_;refine Zp (gP L) ?_;refine Zp (gP L) ?_;refine Zv (gW f) (X8 rfl L rfl) ?_;refine Zv (gW f) (X3 rfl) ?_;refine Zv (gW rfl) (Vn X2 g) ?_;refine Zv (gW rfl) (X3 rfl) ?_;refine Zk (gW rfl) (Vc (X88 _ d d.ns.length rfl Ad cd (aB.below' D).top Bd dd (aC.below' D).top a7 (j:Int) aJ) X4a) ?_;rintro _ w15 ⟨rfl,I⟩;have D:=btr D I;have q:=btr q I;refine Zv (gW rfl) (X18 rfl rfl) ?_;refine Zv (gW f) (X8 rfl rfl rfl) ?_;refine Ze (Xe rfl f rfl) ?_;refine Zn fun a m=>?_
     have A:Below w13.heap.size w13 w15:=q
     exact ⟨m.sub ⟨rfl,rfl,rfl,rfl,X1 rfl (by first|rfl|(simp only [c,e,E,y,f,L,bs];done)|simp [c,e,E,y,f,L]),trivial⟩,A⟩
    refine Zv (gW L) (Vd rfl X10 0) ?_;refine Zv (gW L) (X0 rfl X9 (aA.at 0)) ?_;refine Zv (gW L) (X0a rfl rfl) ?_;refine Zv (gW f) (Xe rfl L rfl) ?_;refine Zv (gW f) (X3 rfl) ?_
    refine Zg 108 rfl (fun M=>?_) (fun M=>?_)
    ·refine Zv (gW M) (Vn X2 g) ?_;refine Zv (gW M) (X3 rfl) ?_;refine Zk (gW M) (Vc (X88 _ d d.ns.length rfl Ad cd (aB.below' D).top Bd dd (aC.below' D).top a7 (j:Int) aJ) X4a) ?_;rintro _ w16 ⟨rfl,I⟩;have D:=btr D I;have q:=btr q I;refine Zv (gW M) (X18 rfl rfl) ?_;refine Zv (gW f) (X8 rfl M rfl) ?_;refine Ze (Xe rfl f rfl) ?_;refine Zn fun a m=>?_
     have A:Below w13.heap.size w13 w16:=q
     exact ⟨m.sub ⟨rfl,rfl,rfl,rfl,X1 rfl (by first|rfl|(simp only [c,e,E,y,f,L,M,bs];done)|simp [c,e,E,y,f,L,M]),trivial⟩,A⟩
    refine Zp (gP M) ?_;refine Zp (gP M) ?_;refine Zp (gP M) ?_;refine Zp (gP M) ?_;refine Zv (gW f) (Xe rfl M rfl) ?_;refine Ze (Xe rfl f rfl) ?_;refine Zn fun a m=>?_
    have A:Below w13.heap.size w13 w14:=q
    exact ⟨m.sub ⟨rfl,rfl,rfl,rfl,X1 rfl (by first|rfl|(simp only [c,e,E,y,f,L,M,bs];done)|simp [c,e,E,y,f,L,M]),trivial⟩,A⟩
   refine Zp (gP y) ?_;refine Zp (gP y) ?_;refine Zp (gP y) ?_;refine Zp (gP y) ?_;refine Ze (Xe rfl y rfl)<|Zm rfl<|Zv (gW rfl) (Vd rfl X10 0) ?_;refine Zv (gW rfl) (X0 rfl X9 (aA.at 0)) ?_;refine Zv (gW rfl) (X0a rfl rfl) ?_;refine Zv (gW rfl) (X3 rfl) ?_
   refine Zg 103 rfl (fun N=>?_) (fun N=>?_)
   ·refine Zp (gP N) ?_;refine Zp (gP N) ?_;refine Zp (gP N) ?_;refine Zv (gW rfl) (X8 rfl N rfl) ?_;refine Zv (gW rfl) (X3 rfl) ?_;refine Zv (gW rfl) (Vn X2 g) ?_;refine Zv (gW rfl) (X3 rfl) ?_;refine Zk (gW rfl) (Vc (X88 _ d d.ns.length rfl Ad cd (aB.below' D).top Bd dd (aC.below' D).top a7 (j:Int) aJ) X4a) ?_;rintro _ w17 ⟨rfl,I⟩;have D:=btr D I;have q:=btr q I;refine Zv (gW rfl) (X18 rfl rfl) ?_;refine Zv (gW rfl) (X8 rfl rfl rfl) ?_;refine Ze (Xe rfl rfl rfl) ?_;refine Zn fun a m=>?_
    have A:Below w13.heap.size w13 w17:=q
    exact ⟨m.sub ⟨rfl,rfl,rfl,rfl,X1 rfl (by first|rfl|(simp only [c,e,E,y,N,bs];done)|simp [c,e,E,y,N]),trivial⟩,A⟩
   refine Zv (gW N) (Vd rfl X10 0) ?_;refine Zv (gW N) (X0 rfl X9 (aA.at 0)) ?_;refine Zv (gW N) (X0a rfl rfl) ?_;refine Zv (gW rfl) (Xe rfl N rfl) ?_;refine Zv (gW rfl) (X3 rfl) ?_
   refine Zg 108 rfl (fun Q=>?_) (fun Q=>?_)
   ·refine Zv (gW Q) (Vn X2 g) ?_;refine Zv (gW Q) (X3 rfl) ?_;refine Zk (gW Q) (Vc (X88 _ d d.ns.length rfl Ad cd (aB.below' D).top Bd dd (aC.below' D).top a7 (j:Int) aJ) X4a) ?_;rintro _ w18 ⟨rfl,I⟩;have D:=btr D I;have q:=btr q I;refine Zv (gW Q) (X18 rfl rfl) ?_;refine Zv (gW rfl) (X8 rfl Q rfl) ?_;refine Ze (Xe rfl rfl rfl) ?_;refine Zn fun a m=>?_
    have A:Below w13.heap.size w13 w18:=q
    exact ⟨m.sub ⟨rfl,rfl,rfl,rfl,X1 rfl (by first|rfl|(simp only [c,e,E,y,N,Q,bs];done)|simp [c,e,E,y,N,Q]),trivial⟩,A⟩
   refine Zp (gP Q) ?_;refine Zp (gP Q) ?_;refine Zp (gP Q) ?_;refine Zp (gP Q) ?_;refine Zv (gW rfl) (Xe rfl Q rfl) ?_;refine Ze (Xe rfl rfl rfl) ?_;refine Zn fun a m=>?_
   have A:Below w13.heap.size w13 w13:=q
   exact ⟨m.sub ⟨rfl,rfl,rfl,rfl,X1 rfl (by first|rfl|(simp only [c,e,E,y,N,Q,bs];done)|simp [c,e,E,y,N,Q]),trivial⟩,A⟩
  rintro a cR ⟨m,I⟩;have g:=g.below I;have D:=btr D I;refine bR _ _ ?_
  refine Xh m rfl (fun aI=>?_) (fun aI=>?_)
  ·have b0:=aI
   have aF:ivD d=false:=Xws cB (by rw [bM,aI];rfl)
   refine Zs m fun _ bS=>?_;refine Za rfl<|Zt bS fun a m=>?_;refine Q6<|Xq<|X7<|X7 ?_;refine Xq<|X7<|X5 m (Xr m rfl rfl) ?_;exact ⟨by rw [aF],D⟩
  have b0:=aI
  have aU:nvQ d j=true:=by rw [bM,aI];rfl
  refine Q7<|Xd<|bN _ _<|Zr m ?_;refine Ze (Xu rfl rfl (by omega) (by omega))<|Zm rfl ?_;refine Zn fun a m=>?_;refine Xf ?_;exact ⟨j+1,⟨m.sb,(by omega),(fun i hi=>by by_cases h9:i=j;rw [h9];exact aU;exact aN i (by omega)),g,a7,D⟩,(by omega)⟩
 have E:=aE;have aE:=Q1 aE
 have aF:ivD d=true:=Xw8 b5 aW fun i hi=>aN i (by have:=aE;omega)
 refine Q9<|Xk<|Xk<|X03 ?_;refine bH _ _<|Zs m fun _ bT=>?_;refine Za rfl<|Zt bT fun a m=>?_
 refine Q6 (X5 m (Xr m rfl rfl) ?_)
 exact ⟨by rw [aF],D⟩
theorem Xi8(Q:World)(d:Dg)(md:Nat)(aQ:md=d.ns.length)(Ad:Option Addr)(cd:Nat)(M:Rd Q Q.heap.size 81 encNd Ad d.ns)(Bd:Option Addr)(dd:Nat)(J:Rd Q Q.heap.size 83 encWr Bd d.ws)(U:d.ws.length≤dd)(bA:d.ns.length≤1000000000∧d.ws.length≤1000000000) : Ret Tryz.prog 75 [.agg #[vi d.n,.slice Ad md cd,.slice Bd d.ws.length dd,vi d.t,vi d.r]] Q (fun v w=>∃ A c B e,v=.agg #[vi d.n,.slice A d.ns.length c,.slice B d.ws.length e,vi d.t,vi d.r]∧Own w Q.heap.size 81 2 encNd A c d.ns∧Own w Q.heap.size 83 3 encWr B e d.ws∧Below Q.heap.size Q w):=by
 subst aQ
 refine enter Tryz.func75 rfl 14 rfl rfl ?_;intro a W
 have i:=bz Q
 refine Zs W fun _ b3=>?_;refine Zf (X0h (zs:=[vi d.n,.slice Ad d.ns.length cd,.slice Bd d.ws.length dd,vi d.t,vi d.r]) rfl rfl) ?_;rintro _ w1 ⟨b4,rfl,b5,g,b⟩;have L:=Q0 i.size b5;have i:=btr i g;refine Zf (X00 (zs:=[vi 0,.slice none 0 0,.slice none 0 0,vi 0,vi 0]) X0o rfl) ?_;rintro _ w2 ⟨b7,rfl,b6,g,f⟩
 have b1:b4≠b7:=by have:=b.lt;omega
 have aR:=Q0 i.size b6;have b:=b.below g;have i:=btr i g;refine ZX b3 fun a W _ b8=>?_;refine X09 (fun a w=>∃ E G H I,Fr a 14 [(1,.pointer (some ⟨b4,0,none⟩)),(2,.pointer (some ⟨b7,0,none⟩))]∧Own w Q.heap.size 81 2 encNd E G d.ns∧Own w Q.heap.size 83 3 encWr H I d.ws∧Blk w b4 39 [vi d.n,.slice E d.ns.length G,.slice H d.ws.length I,vi d.t,vi d.r]∧Blk w b7 39 [vi 0,.slice none 0 0,.slice none 0 0,vi 0,vi 0]∧d.ws.length≤dd∧Below Q.heap.size Q w) ?_ ?_
 ·refine X05 none (fun j=>[9,11].contains j) mixed ?_;intro w3 g;have b:=b.below g;have f:=f.below g;have i:=btr i g;refine Yb W<|Yo 1 rfl (fun _=>Vd rfl Xi 1)<|Ye 2 rfl (X0 rfl Xz (b.at 1))<|Yo 5 rfl (fun _=>Vd rfl Xm 2)<|Ye 6 rfl (X0 rfl X0j (b.at 2)) ?_;refine Y2 0 4 ?_ ?_
  ·refine Yk rfl trivial (Xp (k:=0) (vs:=[]) (zs:=[]) rfl Xo X1f rfl rfl) (fun _ _ ⟨_,_,_,h,_⟩=>h) ?_;rintro _ w4 ⟨b9,rfl,aS,g,aC⟩;have aH:=Q0 i.size aS;have b2:=(M.below' i).away aS;have b:=b.below g;have f:=f.below g;have i:=btr i g;refine Y2 3 4 ?_ ?_
   ·refine Yk rfl trivial (X37 (enc:=encNd) (l2:=(d.ns)) rfl rfl Xo X1f Xt X2f aC (M.below' i) (by simp only [maxLen];omega) (by omega)) (fun _ _ ⟨E,G,_,o,g,q⟩=>g) ?_;rintro _ w5 ⟨E,G,rfl,o,g,q⟩;clear q;have o:=o.lower aH;have b:=b.below g;have f:=f.below g;have i:=btr i g;refine Yo 8 rfl (fun _=>Vd rfl Xi 1)<|Y1 4 ?_;refine Yk rfl trivial (Xp (k:=0) (vs:=[]) (zs:=[]) rfl Xv X0x rfl rfl) (fun _ _ ⟨_,_,_,h,_⟩=>h) ?_;rintro _ w6 ⟨bB,rfl,aI,g,aT⟩;have aM:=Q0 i.size aI;have aU:=(J.below' i).away aI;have b:=b.below g;have f:=f.below g;have o:=o.below g;have i:=btr i g;refine Y1 7<|Yk rfl trivial (X37 (enc:=encWr) (l2:=(d.ws)) rfl rfl Xv X0x Xx X1c aT (J.below' i) (by simp only [maxLen];omega) (by omega)) (fun _ _ ⟨H,I,_,p,g,q⟩=>g) ?_;rintro _ w7 ⟨H,I,rfl,p,g,q⟩;clear q;have p:=p.lower aM;have b:=b.below g;have f:=f.below g;have o:=o.below g;have i:=btr i g;refine Y1 9<|Yh rfl trivial rfl (Vu (vs:=[.slice E d.ns.length G]) (l':=[vi d.n,.slice E d.ns.length G,.slice Bd d.ws.length dd,vi d.t,vi d.r]) rfl rfl X3i b) ?_;rintro _ w8 ⟨u,hb⟩;have m:=b;have f:=f.only u (by omega);have o:=o.onlyT u m rfl;have p:=p.onlyT u m rfl;have i:=Below.only i u L;have b:=hb;refine Yo 10 rfl (fun _=>Vd rfl Xm 2)<|Y1 11 ?_;refine Yh rfl trivial rfl (Vu (vs:=[.slice H d.ws.length I]) (l':=[vi d.n,.slice E d.ns.length G,.slice H d.ws.length I,vi d.t,vi d.r]) rfl rfl X19 b) ?_;rintro _ w9 ⟨u,hb⟩;have m:=b;have f:=f.only u (by omega)
    have o:=o.onlyT u m rfl;have p:=p.onlyT u m rfl;have i:=Below.only i u L;have b:=hb;refine Yd fun a W=>?_;exact ⟨E,G,H,I,W.sb,o,p,b,f,U,i⟩
   refine Yk rfl trivial (Xp (k:=0) (vs:=[]) (zs:=[]) rfl Xv X0x rfl rfl) (fun _ _ ⟨_,_,_,h,_⟩=>h) ?_;rintro _ bC ⟨bD,rfl,aJ,g,a6⟩;have aN:=Q0 i.size aJ;have aW:=(J.below' i).away aJ;have b:=b.below g;have f:=f.below g;have aC:=aC.below g;have i:=btr i g;refine Y1 3<|Yk rfl trivial (X37 (enc:=encNd) (l2:=(d.ns)) rfl rfl Xo X1f Xt X2f aC (M.below' i) (by simp only [maxLen];omega) (by omega)) (fun _ _ ⟨a7,a8,_,x,g,q⟩=>g) ?_;rintro _ bE ⟨a7,a8,rfl,x,g,q⟩;clear q;have x:=x.lower aH;have b:=b.below g;have f:=f.below g;have a6:=a6.below g;have i:=btr i g;refine Yo 8 rfl (fun _=>Vd rfl Xi 1)<|Y1 7 ?_;refine Yk rfl trivial (X37 (enc:=encWr) (l2:=(d.ws)) rfl rfl Xv X0x Xx X1c a6 (J.below' i) (by simp only [maxLen];omega) (by omega)) (fun _ _ ⟨aD,aE,_,C,g,q⟩=>g) ?_;rintro _ bF ⟨aD,aE,rfl,C,g,q⟩;clear q;have C:=C.lower aN;have b:=b.below g;have f:=f.below g;have x:=x.below g;have i:=btr i g;refine Y1 9<|Yh rfl trivial rfl (Vu (vs:=[.slice a7 d.ns.length a8]) (l':=[vi d.n,.slice a7 d.ns.length a8,.slice Bd d.ws.length dd,vi d.t,vi d.r]) rfl rfl X3i b) ?_;rintro _ bG ⟨u,hb⟩;have m:=b;have f:=f.only u (by omega);have x:=x.onlyT u m rfl;have C:=C.onlyT u m rfl;have i:=Below.only i u L;have b:=hb;refine Yo 10 rfl (fun _=>Vd rfl Xm 2)<|Y1 11 ?_;refine Yh rfl trivial rfl (Vu (vs:=[.slice aD d.ws.length aE]) (l':=[vi d.n,.slice a7 d.ns.length a8,.slice aD d.ws.length aE,vi d.t,vi d.r]) rfl rfl X19 b) ?_;rintro _ bH ⟨u,hb⟩;have m:=b
   have f:=f.only u (by omega);have x:=x.onlyT u m rfl;have C:=C.onlyT u m rfl;have i:=Below.only i u L;have b:=hb;refine Yd fun a W=>?_;exact ⟨a7,a8,aD,aE,W.sb,x,C,b,f,U,i⟩
  refine Yk rfl trivial (Xp (k:=0) (vs:=[]) (zs:=[]) rfl Xv X0x rfl rfl) (fun _ _ ⟨_,_,_,h,_⟩=>h) ?_;rintro _ bJ ⟨bK,rfl,aK,g,N⟩;have aO:=Q0 i.size aK;have aX:=(J.below' i).away aK;have b:=b.below g;have f:=f.below g;have i:=btr i g;refine Y1 0<|Yk rfl trivial (Xp (k:=0) (vs:=[]) (zs:=[]) rfl Xo X1f rfl rfl) (fun _ _ ⟨_,_,_,h,_⟩=>h) ?_;rintro _ bL ⟨bM,rfl,aL,g,aY⟩;have aP:=Q0 i.size aL;have aZ:=(M.below' i).away aL;have b:=b.below g;have f:=f.below g;have N:=N.below g;have i:=btr i g;refine Y1 3<|Yk rfl trivial (X37 (enc:=encNd) (l2:=(d.ns)) rfl rfl Xo X1f Xt X2f aY (M.below' i) (by simp only [maxLen];omega) (by omega)) (fun _ _ ⟨aA,aB,_,y,g,q⟩=>g) ?_;rintro _ bN ⟨aA,aB,rfl,y,g,q⟩;clear q;have y:=y.lower aP;have b:=b.below g;have f:=f.below g;have N:=N.below g;have i:=btr i g;refine Yo 8 rfl (fun _=>Vd rfl Xi 1)<|Y1 7 ?_;refine Yk rfl trivial (X37 (enc:=encWr) (l2:=(d.ws)) rfl rfl Xv X0x Xx X1c N (J.below' i) (by simp only [maxLen];omega) (by omega)) (fun _ _ ⟨aF,aG,_,D,g,q⟩=>g) ?_;rintro _ bO ⟨aF,aG,rfl,D,g,q⟩;clear q;have D:=D.lower aO;have b:=b.below g;have f:=f.below g;have y:=y.below g;have i:=btr i g;refine Y1 9<|Yh rfl trivial rfl (Vu (vs:=[.slice aA d.ns.length aB]) (l':=[vi d.n,.slice aA d.ns.length aB,.slice Bd d.ws.length dd,vi d.t,vi d.r]) rfl rfl X3i b) ?_;rintro _ bP ⟨u,hb⟩;have m:=b;have f:=f.only u (by omega);have y:=y.onlyT u m rfl;have D:=D.onlyT u m rfl
  have i:=Below.only i u L;have b:=hb;refine Yo 10 rfl (fun _=>Vd rfl Xm 2)<|Y1 11 ?_;refine Yh rfl trivial rfl (Vu (vs:=[.slice aF d.ws.length aG]) (l':=[vi d.n,.slice aA d.ns.length aB,.slice aF d.ws.length aG,vi d.t,vi d.r]) rfl rfl X19 b) ?_;rintro _ bR ⟨u,hb⟩;have m:=b;have f:=f.only u (by omega);have y:=y.onlyT u m rfl;have D:=D.onlyT u m rfl;have i:=Below.only i u L;have b:=hb;refine Yd fun a W=>?_;exact ⟨aA,aB,aF,aG,W.sb,y,D,b,f,U,i⟩
 rintro a bS ⟨E,G,H,I,W,o,p,b,f,U,i⟩;refine b8 _ _<|Zs W fun _ b0=>?_;refine Ze (Vn X2 b)<|Zo (Vw [vi d.n,.slice E d.ns.length G,.slice H d.ws.length I,vi d.t,vi d.r] Xl f) ?_;rintro _ bT ⟨u,hb⟩;have m:=f;have o:=o.onlyT u m rfl;have p:=p.onlyT u m rfl;have i:=Below.only i u aR;have f:=hb;refine Zt b0 fun a W=>?_
 refine Q6 (X5 W (Xr W rfl (ResV.cellN (l:=[vi d.n,.slice E d.ns.length G,.slice H d.ws.length I,vi d.t,vi d.r]) rfl X2 (f.at 0) rfl)) ?_)
 exact ⟨E,G,H,I,rfl,o,p,i⟩
theorem Xot(j:World)(d:Dg)(md:Nat)(a7:md=d.ns.length)(Ad:Option Addr)(cd:Nat)(k:Rd j j.heap.size 81 encNd Ad d.ns)(Bd:Option Addr)(dd:Nat)(m:Rd j j.heap.size 83 encWr Bd d.ws)(o:d.ws.length≤dd)(aD:d.ws.length≤1000000000) : Ret Tryz.prog 77 [.agg #[vi d.n,.slice Ad md cd,.slice Bd d.ws.length dd,vi d.t,vi d.r]] j (fun v w=>∃ A c1 B e,v=.tuple #[.agg #[vi (if (ivD d)=true then d else zD).n,.slice A (if (ivD d)=true then d else zD).ns.length c1,.slice B (if (ivD d)=true then d else zD).ws.length e,vi (if (ivD d)=true then d else zD).t,vi (if (ivD d)=true then d else zD).r],.bool (ivD d)]∧Rd w w.heap.size 81 encNd A (if (ivD d)=true then d else zD).ns∧Rd w w.heap.size 83 encWr B (if (ivD d)=true then d else zD).ws∧(if (ivD d)=true then d else zD).ws.length≤e∧Below j.heap.size j w):=by
 subst a7
 refine enter Tryz.func77 rfl 9 rfl rfl ?_;intro a i
 have c:=bz j
 refine Zs i fun _ aE=>?_;refine Zf (X0h (zs:=[vi d.n,.slice Ad d.ns.length cd,.slice Bd d.ws.length dd,vi d.t,vi d.r]) rfl rfl) ?_;rintro _ w1 ⟨b4,rfl,aF,p,g⟩;have aL:=Q0 c.size aF;have c:=btr c p;refine Zf (X00 (zs:=[vi 0,.slice none 0 0,.slice none 0 0,vi 0,vi 0]) X0o rfl) ?_;rintro _ w2 ⟨b7,rfl,aG,p,b⟩
 have aC:b4≠b7:=by have:=g.lt;omega
 have q:=Q0 c.size aG;have g:=g.below p;have c:=btr c p;refine Za rfl<|ZX aE fun a i _ aH=>?_;refine Zs i fun _ aI=>?_;refine Ze (Vn X2 g)<|Zf (Vc (Xjq _ d d.ns.length rfl Ad cd (k.below' c).top Bd dd (m.below' c).top o aD) Xa4) ?_;rintro _ w3 ⟨rfl,p⟩;have g:=g.below p;have b:=b.below p;have c:=btr c p;refine Ze (X0y rfl)<|Zt aI fun a i=>?_
 refine Xh i rfl (fun f=>?_) (fun f=>?_)
 ·have a6:=f
  have aJ:ivD d=false:=by have h8:=f;simpa using h8
  refine Zs i fun _ a8=>?_;refine Ze (X16 (ps:=[]) (cs:=[vi 0,.slice none 0 0,.slice none 0 0,vi 0,vi 0]) rfl (fun _=>by first|rfl|kernel_rfl))<|Zo (Vw [vi 0,.slice none 0 0,.slice none 0 0,vi 0,vi 0] Xl b) ?_;rintro _ w4 ⟨ho,hb⟩;have aA:=b;have c:=Below.only c ho q;have b:=hb;refine Za rfl<|Zt a8 fun a i=>?_;refine Q6<|X7<|X5 i (X1o i rfl (ResV.cellN (l:=[vi 0,.slice none 0 0,.slice none 0 0,vi 0,vi 0]) rfl X2 (b.at 0) rfl) rfl) ?_
  rw [aJ,Q3 Bool.false_ne_true]
  exact ⟨none,0,none,0,rfl,(Rd.nil _ _ _ _ _),(Rd.nil _ _ _ _ _),(Qf _),c⟩
 have a6:=f
 have aK:ivD d=true:=by have h8:=f;simpa using h8
 refine Q7<|aH _ _<|Zs i fun _ aB=>?_;refine Ze (Vn X2 g)<|Zo (Vw [vi d.n,.slice Ad d.ns.length cd,.slice Bd d.ws.length dd,vi d.t,vi d.r] Xl b) ?_;rintro _ w5 ⟨ho,hb⟩;have aA:=b;have c:=Below.only c ho q;have b:=hb;refine Za rfl<|Zt aB fun a i=>?_
 refine Q6 (X5 i (X1o i rfl (ResV.cellN (l:=[vi d.n,.slice Ad d.ns.length cd,.slice Bd d.ws.length dd,vi d.t,vi d.r]) rfl X2 (b.at 0) rfl) rfl) ?_)
 rw [aK,Q4 rfl]
 exact ⟨Ad,cd,Bd,dd,rfl,(k.below' c).top,(m.below' c).top,o,c⟩
theorem Xts(j:World)(d:Dg)(md:Nat)(aE:md=d.ns.length)(Ad:Option Addr)(cd:Nat)(E:Rd j j.heap.size 81 encNd Ad d.ns)(Bd:Option Addr)(dd:Nat)(b2:Rd j j.heap.size 83 encWr Bd d.ws)(o:d.ws.length≤dd)(hN:md≤1000) : Ret Tryz.prog 69 [.agg #[vi d.n,.slice Ad md cd,.slice Bd d.ws.length dd,vi d.t,vi d.r]] j (fun v w=>∃ A c,v=.slice A (spL d.ns).length c∧Own w j.heap.size 3 1 encI A c (spL d.ns)∧Below j.heap.size j w):=by
 refine enter Tryz.func69 rfl 24 rfl rfl ?_;intro a f
 have g:=bz j
 refine Zs f fun _ aR=>?_;refine Zf (X0h (zs:=[vi d.n,.slice Ad md cd,.slice Bd d.ws.length dd,vi d.t,vi d.r]) rfl rfl) ?_;rintro _ w1 ⟨b4,rfl,aS,D,a6⟩;have b3:=Q0 g.size aS;have g:=btr g D;refine Za rfl<|Zx aR fun a f _ aT=>?_;refine Zf (Xp (k:=0) (vs:=[]) (zs:=[]) rfl Xj X1g rfl rfl) ?_;rintro _ w2 ⟨b7,rfl,aU,D,aW⟩;have aF:=Q0 g.size aU;have a6:=a6.below D;have g:=btr g D;refine Za rfl<|ZX aT fun a f _ aX=>?_;refine Zs f fun _ aG=>?_;refine Ze (Vd rfl Xi 1)<|Ze (X0 rfl Xz (a6.at 1))<|Ze (X0c rfl Xo)<|Zm rfl<|Zt aG fun a f=>?_;refine Q8<|X01 (σ:=Nat×(List Int)) (fun (s:Nat×(List Int)) (a:Act) (w:World)=>match s with|(k,m)=>∃ y h,Fr a 24 [(3,.slice y m.length h),(8,.slice Ad md cd),(9,vi (md:Int)),(10,vi (k:Int))]∧(k≤d.ns.length)∧(m=spK d.ns k)∧Own w j.heap.size 3 1 encI y h m∧d.ws.length≤dd∧Below j.heap.size j w) (fun (s:Nat×(List Int))=>match s with|(k,m)=>d.ns.length-k) (0,[]) ?_ ?_
 ·exact ⟨some ⟨b7,0,none⟩,0,f.sb,(Qf _),rfl,(Own.empty aW aF),o,g⟩
 rintro ⟨k,m⟩ a w3 ⟨y,h,f,hk,hm,b,o,g⟩;have aY:=X70 d.ns k
 rw [← hm] at aY
 refine Zs f fun _ aH=>?_;refine Ze (X0m rfl rfl)<|ZX aH fun a f _ aI=>?_
 refine Xh f rfl (fun e=>?_) (fun e=>?_)
 ·have a7:=e;have e:=Q2 e
  obtain ⟨u9,a8⟩:=X4 (l:=d.ns) (k:=k) (by have:=e;omega)
  refine Q7<|aI _ _<|Q5 fun _ G=>?_;refine Q8<|Zs f fun _ aJ=>?_;refine Zm rfl<|Zj (k:=k) (u:=u9) (enc:=encNd) (l:=d.ns) trivial rfl aE rfl Xo X07 Xt (E.below' g) a8 (by omega) ?_;intro b5 aA;refine Ze (X02 (l:=[vi u9.k,vi u9.p]) rfl X2i aA rfl)<|Zf (X00 (zs:=[vi 0,vi 0]) X6m rfl) ?_;rintro _ w4 ⟨b6,rfl,H,D,q⟩;have aB:=Q0 g.size H;have aK:=(E.below' g).away H;have b:=b.below D;have g:=btr g D;refine Za rfl<|Zo (Vw [vi u9.k,vi u9.p] X07 q) ?_;rintro _ w5 ⟨ho,hb⟩;have aL:=q;have b:=b.onlyT ho aL rfl;have g:=Below.only g ho aB;have q:=hb;refine Zx aJ fun a f _ aM=>?_;refine Ze (Vd rfl X10 0)<|Ze (X0 rfl X9 (q.at 0))<|Ze (X0a rfl rfl)<|Zt aM fun a f=>?_
  refine Xh f rfl (fun i=>?_) (fun i=>?_)
  ·have aC:=i;have B:=Xoi a8 i
   rw [← hm] at B
   refine Zr f<|Zm rfl<|Zm rfl<|Zf (Xp (k:=1) (vs:=[vi (k:Int)]) (zs:=[vi (k:Int)]) rfl Xj X1g rfl rfl) ?_;rintro _ w6 ⟨b8,rfl,I,D,C⟩;have aZ:=Q0 g.size I;have x:=b.away I;have b:=b.below D;have g:=btr g D;refine Zf (X0r (enc:=encI) (l:=(m)) (l2:=([(k:Int)])) (B0:=j.heap.size) rfl rfl Xj X1g Xa X1w b (Rd.of_blk C rfl _ C.lt) (by simp only [maxLen];simp;omega) (by simp;omega) g.size) ?_;rintro _ w7 ⟨b0,b1,rfl,aN,hg,aO⟩
   have J:Own _ j.heap.size 3 1 encI _ _ (m):=b
   have aD:=aO _ C.lt x;clear aO;have g:=Below.app g J hg (Qb _) g.size;clear J hg;refine Za rfl ?_;refine Zn fun a f=>?_;refine Xd<|G _ _<|Zr f<|Ze (Xu rfl rfl (by omega) (by omega))<|Zm rfl ?_;refine Zn fun a f=>?_;refine Xf ?_;exact ⟨(k+1,m++([(k:Int)])),⟨b0,b1,f.sb,(by omega),(by rw [B]),aN,o,g⟩,(by first|omega|(dsimp only;omega))⟩
  have aC:=i;have B:=Xne a8 i
  rw [← hm] at B
  refine Q7<|Xd<|G _ _<|Zr f ?_;refine Ze (Xu rfl rfl (by omega) (by omega))<|Zm rfl ?_;refine Zn fun a f=>?_;refine Xf ?_;exact ⟨(k+1,m),⟨y,h,f.sb,(by omega),(by rw [B]),b,o,g⟩,(by first|omega|(dsimp only;omega))⟩
 have a7:=e;have e:=Q1 e
 have aP:m=spL d.ns:=by rw [hm,show k=d.ns.length by have:=e;omega];rfl
 refine Q9<|Xk<|Xk<|X03 ?_;refine aX _ _<|Zs f fun _ aQ=>?_;refine Zm rfl<|Za rfl<|Zt aQ fun a f=>?_
 refine Q6 (X5 f (Xr f rfl rfl) ?_)
 rw [← aP]
 exact ⟨y,h,rfl,b,g⟩
theorem Xm4{l:List Int}(h:l.Pairwise (·≤·)) : sortI l=l:=by
 unfold sortI
 exact List.mergeSort_of_pairwise (h.imp fun h=>by simpa using h)
theorem Xpq{l:List Int}(h:Inc l) : l.Pairwise (·≤·):=List.Pairwise.imp (fun h=>Int.le_of_lt h) h
theorem Xg6{ws:List Wr}(h:InW ws)(k:Int) : sortI (nearW ws k)=nearW ws k:=Xm4 (Xpq (X3d h))
theorem Xqh{α:Type}{l:List α}{q:α→Bool}{k:Nat}{u:α}(h:(l.take k).any q=false)(hu:l[k]? = some u)(hq:q u=false) : (l.take (k+1)).any q=false:=by
 rw [Qt,hu,Option.toList_some,List.any_append,h,List.any_cons,hq]
 rfl
theorem Xma{α:Type}{l:List α}{q:α→Bool}{k:Nat}(h:(l.take k).any q=false)(hk:l.length≤k) : l.any q=false:=by rwa [Qi hk] at h
theorem Xkd{α:Type}{l:List α}{q:α→Bool}{k:Nat}{u:α}(hu:l[k]? = some u)(hq:q u=true) : l.any q=true:=List.any_eq_true.2 ⟨u,Qe hu,hq⟩
def prQ(d:Dg)(l:List Int)(i:Nat) : Bool:=(l.take i).any fun y=>tyW d.ws (l.getD i 0) y==1
def prD(d:Dg)(l:List Int) : Bool:=(List.range l.length).any (prQ d l)
theorem Xqd{d:Dg}{l:List Int}(h:∀ j,j<l.length→prQ d l j=false) : prD d l=false:=W7.2 fun j hj=>by rw [h j (W2.1 hj)];decide
theorem Xlb{d:Dg}{l:List Int}{k:Nat}(hk:k<l.length)(h:prQ d l k=true) : prD d l=true:=List.any_eq_true.2 ⟨k,W2.2 hk,h⟩
theorem X93(q:World)(d:Dg)(md:Nat)(bG:md=d.ns.length)(Ad:Option Addr)(cd:Nat)(bH:Rd q q.heap.size 81 encNd Ad d.ns)(Bd:Option Addr)(dd:Nat)(a6:Rd q q.heap.size 83 encWr Bd d.ws)(x:d.ws.length≤dd)(p:Int)(hI:InW d.ws)(bL:d.ws.length≤1000000000) : Ret Tryz.prog 151 [.agg #[vi d.n,.slice Ad md cd,.slice Bd d.ws.length dd,vi d.t,vi d.r],vi p] q (fun v w=>∃ A c,v=.slice A (nearW d.ws p).length c∧Own w q.heap.size 3 1 encI A c (nearW d.ws p)∧Below q.heap.size q w):=by
 refine enter Tryz.func151 rfl 39 rfl rfl ?_;intro a f
 have g:=bz q
 refine Zs f fun _ b1=>?_;refine Zf (X0h (zs:=[vi d.n,.slice Ad md cd,.slice Bd d.ws.length dd,vi d.t,vi d.r]) rfl rfl) ?_;rintro _ w1 ⟨b4,rfl,b2,E,aC⟩;have bJ:=Q0 g.size b2;have g:=btr g E;refine Za rfl<|Zx b1 fun a f _ b3=>?_;refine Zf (Xp (k:=0) (vs:=[]) (zs:=[]) rfl Xj X1g rfl rfl) ?_;rintro _ w2 ⟨b7,rfl,b5,E,b6⟩;have aK:=Q0 g.size b5;have aC:=aC.below E;have g:=btr g E;refine Za rfl<|ZX b3 fun a f _ b8=>?_;refine Zs f fun _ aL=>?_;refine Ze (Vd rfl Xm 2)<|Ze (X0 rfl X0j (aC.at 2))<|Ze (X0c rfl Xv)<|Zm rfl<|Zt aL fun a f=>?_;refine Q8<|X01 (σ:=Nat×(List Int)) (fun (s:Nat×(List Int)) (a:Act) (w:World)=>match s with|(k,m)=>∃ G H,Fr a 39 [(1,vi p),(5,.slice G m.length H),(10,.slice Bd d.ws.length dd),(11,vi (d.ws.length:Int)),(12,vi (k:Int))]∧(k≤d.ws.length)∧(m=nearW (d.ws.take k) p)∧Own w q.heap.size 3 1 encI G H m∧d.ws.length≤dd∧Below q.heap.size q w) (fun (s:Nat×(List Int))=>match s with|(k,m)=>d.ws.length-k) (0,[]) ?_ ?_
 ·exact ⟨some ⟨b7,0,none⟩,0,f.sb,(Qf _),(by simp [nearW]),(Own.empty b6 aK),x,g⟩
 rintro ⟨k,m⟩ a w3 ⟨G,H,f,hk,hm,e,x,g⟩;have aM:=X1y (d.ws.take k) p
 rw [← hm,Qn] at aM
 refine Zs f fun _ aN=>?_;refine Ze (X0m rfl rfl)<|ZX aN fun a f _ aO=>?_
 refine Xh f rfl (fun i=>?_) (fun i=>?_)
 ·have aD:=i;have i:=Q2 i
  obtain ⟨bM,bK⟩:=X4 (l:=d.ws) (k:=k) (by omega)
  obtain ⟨D,W⟩:=X4 (l:=d.ws) (k:=k) (by have:=i;omega)
  refine Q7<|aO _ _<|Q5 fun _ L=>?_;refine Q8<|Zs f fun _ aP=>?_;refine Zi (k:=k) (u:=D) (enc:=encWr) (l:=d.ws) trivial rfl rfl Xv X0b Xx (a6.below' g) W rfl ?_;intro bN aE;refine Ze (X02 (l:=[vi D.a,vi D.b,.bool D.h]) rfl X17 aE rfl)<|Zf (X00 (zs:=[vi 0,vi 0,.bool false]) X32 rfl) ?_;rintro _ w4 ⟨bO,rfl,a7,E,o⟩;have aF:=Q0 g.size a7;have aQ:=(a6.below' g).away a7;have e:=e.below E;have g:=btr g E;refine Zo (Vw [vi D.a,vi D.b,.bool D.h] X0b o) ?_;rintro _ w5 ⟨ho,hb⟩;have aR:=o;have e:=e.onlyT ho aR rfl;have g:=Below.only g ho aF;have o:=hb;refine Zx aP fun a f _ aS=>?_;refine Zm rfl<|Zt aS fun a f=>?_;refine Q8<|Zs f fun _ aT=>?_;refine Ze (Vd rfl X0s 0)<|Ze (X0 rfl X9 (o.at 0))<|Ze (X0a rfl rfl)<|Za rfl<|Zt aT fun a f=>?_
  refine Xh f rfl (fun y=>?_) (fun y=>?_)
  ·have aG:=y
   have B:=Xc4 W (by simpa using y)
   rw [← hm] at B
   refine Zr f<|Zm rfl<|Ze (Vd rfl X0v 1)<|Ze (X0 rfl X9 (o.at 1))<|Zf (Xp (k:=1) (vs:=[vi D.b]) (zs:=[vi D.b]) rfl Xj X1g rfl rfl) ?_;rintro _ w6 ⟨bP,rfl,a8,E,M⟩;have b9:=Q0 g.size a8;have I:=e.away a8;have e:=e.below E;have g:=btr g E;refine Zf (X0r (enc:=encI) (l:=(m)) (l2:=([D.b])) (B0:=q.heap.size) rfl rfl Xj X1g Xa X1w e (Rd.of_blk M rfl _ M.lt) (by simp only [maxLen];simp;omega) (by simp;omega) g.size) ?_;rintro _ w7 ⟨bA,bB,rfl,aU,hg,N⟩
   have j:Own _ q.heap.size 3 1 encI _ _ (m):=e
   have aI:=N _ M.lt I;clear N;have g:=Below.app g j hg (Qb _) g.size;clear j hg;refine Za rfl ?_;refine Zn fun a f=>?_;refine Xd<|Xd<|L _ _<|Zr f ?_;refine Ze (Xu rfl rfl (by omega) (by omega))<|Zm rfl ?_;refine Zn fun a f=>?_;refine Xf ?_;exact ⟨(k+1,m++([D.b])),⟨bA,bB,f.sb,(by omega),(by rw [B]),aU,x,g⟩,(by first|omega|(dsimp only;omega))⟩
  have aG:=y;have aW:=y;refine Zs f fun _ aX=>?_;refine Ze (Vd rfl X0v 1)<|Ze (X0 rfl X9 (o.at 1))<|Ze (X0a rfl rfl)<|Za rfl<|Zt aX fun a f=>?_
  refine Xh f rfl (fun C=>?_) (fun C=>?_)
  ·have aH:=C
   have B:=Xc1 W (by simpa using aW) (by simpa using C)
   rw [← hm] at B
   refine Zr f<|Zm rfl<|Ze (Vd rfl X0s 0)<|Ze (X0 rfl X9 (o.at 0))<|Zf (Xp (k:=1) (vs:=[vi D.a]) (zs:=[vi D.a]) rfl Xj X1g rfl rfl) ?_;rintro _ w8 ⟨bR,rfl,aA,E,Q⟩;have bC:=Q0 g.size aA;have J:=e.away aA;have e:=e.below E;have g:=btr g E;refine Zf (X0r (enc:=encI) (l:=(m)) (l2:=([D.a])) (B0:=q.heap.size) rfl rfl Xj X1g Xa X1w e (Rd.of_blk Q rfl _ Q.lt) (by simp only [maxLen];simp;omega) (by simp;omega) g.size) ?_;rintro _ w9 ⟨bD,bE,rfl,aY,hg,N⟩
   have j:Own _ q.heap.size 3 1 encI _ _ (m):=e
   have aJ:=N _ Q.lt J;clear N;have g:=Below.app g j hg (Qb _) g.size;clear j hg;refine Za rfl ?_;refine Zn fun a f=>?_;refine Xd<|Xd<|L _ _<|Zr f ?_;refine Ze (Xu rfl rfl (by omega) (by omega))<|Zm rfl ?_;refine Zn fun a f=>?_;refine Xf ?_;exact ⟨(k+1,m++([D.a])),⟨bD,bE,f.sb,(by omega),(by rw [B]),aY,x,g⟩,(by first|omega|(dsimp only;omega))⟩
  have aH:=C
  have B:=X8m W (by simpa using aW) (by simpa using C)
  rw [← hm] at B
  refine Q7<|Xd<|Xd<|L _ _ ?_;refine Zr f<|Ze (Xu rfl rfl (by omega) (by omega))<|Zm rfl ?_;refine Zn fun a f=>?_;refine Xf ?_;exact ⟨(k+1,m),⟨G,H,f.sb,(by omega),(by rw [B]),e,x,g⟩,(by first|omega|(dsimp only;omega))⟩
 have aD:=i;have i:=Q1 i
 have U:m=nearW d.ws p:=by rw [hm,Qi (by have:=i;omega)]
 have bS:m.length≤d.ws.length:=by rw [U];exact X1y _ _
 have bF:sortI m=m:=by rw [U];exact Xg6 hI p
 refine Q9<|Xk<|Xk<|X03 ?_;refine b8 _ _<|Zs f fun _ aZ=>?_;refine Zm rfl<|Zf (Vc (F94 _ q.heap.size G H m e (by have:=X1y d.ws p;omega)) Xo1) ?_;rintro _ bT ⟨aB,hg⟩;have j:=e;have g:=Below.app g j hg (Qb _) g.size
 clear j hg;clear e;have e:=aB;clear aB;refine Zx aZ fun a f _ b0=>?_;refine Zm rfl<|Za rfl<|Zt b0 fun a f=>?_
 refine Q6 (X5 f (Xr f rfl rfl) ?_)
 rw [← U]
 exact ⟨G,H,rfl,bF▸e,g⟩
theorem Xuj(c:World)(x:Int)(d:Dg)(md:Nat)(m:md=d.ns.length)(Ad:Option Addr)(cd:Nat)(o:Rd c c.heap.size 81 encNd Ad d.ns)(Bd:Option Addr)(dd:Nat)(q:Rd c c.heap.size 83 encWr Bd d.ws)(u:d.ws.length≤dd)(p:Int)(ba bb:Nat)(f:Blk c ba 39 [vi d.n,.slice Ad md cd,.slice Bd d.ws.length dd,vi d.t,vi d.r])(j:Blk c bb 3 [vi p])(hN:md≤1000)(a7:d.ws.length≤1000000000) : Ret Tryz.prog 227 [vi x,.pointer (some ⟨ba,0,none⟩),.pointer (some ⟨bb,0,none⟩)] c (fun v w=>v=.bool (!(spI d.ns x)||tyW d.ws p x != 2)∧Below c.heap.size c w):=by
 have a8:=f.lt;have aA:=j.lt;refine enter Tryz.func227 rfl 16 rfl rfl ?_;intro a i
 have g:=bz c
 refine Zs i fun _ aB=>?_;refine Za rfl<|ZX aB fun a i _ aC=>?_;refine X09 (fun a w=>Fr a 16 [(4,.bool ((!(spI d.ns x))||((tyW d.ws p x) != 2)))]∧Below c.heap.size c w) ?_ ?_
 ·have e:=bz c
  refine Zr i<|Ze (X02 (l:=[vi d.n,.slice Ad md cd,.slice Bd d.ws.length dd,vi d.t,vi d.r]) rfl X2 (f.at 0) rfl)<|Zm rfl<|Zf (Vc (X5m _ d md m Ad cd (o.below' g).top Bd dd (q.below' g).top u x hN) X2v) ?_;rintro _ w1 ⟨rfl,k⟩;have f:=f.below k;have j:=j.below k;have g:=btr g k;have e:=btr e k;refine Ze (X0y rfl)<|Zm rfl ?_
  refine Zg 9 rfl (fun b=>?_) (fun b=>?_)
  ·refine Zp (gP b) ?_;refine Zp (gP b) ?_;refine Zp (gP b) ?_;refine Zp (gP b) ?_;refine Zp (gP b) ?_;refine Ze (X8 rfl b rfl)<|Za rfl ?_;refine Zn fun a i=>?_
   have a6:Below c.heap.size c w1:=e
   exact ⟨i.sub ⟨X1 rfl (by first|rfl|(simp only [b,bs];done)|simp [b]),trivial⟩,a6⟩
  refine Zv (gW b) (X02 (l:=[vi d.n,.slice Ad md cd,.slice Bd d.ws.length dd,vi d.t,vi d.r]) rfl X2 (f.at 0) rfl) ?_;refine Zv (gW b) (X0 rfl X9 (j.at 0)) ?_;refine Zv (gW b) (X3 rfl) ?_;refine Zk (gW b) (Vc (X6c _ d md m Ad cd (o.below' g).top Bd dd (q.below' g).top u p x a7) X33) ?_;rintro _ w2 ⟨rfl,k⟩;have g:=btr g k;have e:=btr e k;refine Zv (gW b) (X18 rfl rfl) ?_;refine Ze (Xe rfl b rfl)<|Za rfl ?_;refine Zn fun a i=>?_
  have a6:Below c.heap.size c w2:=e
  exact ⟨i.sub ⟨X1 rfl (by first|rfl|(simp only [b,bs];done)|simp [b]),trivial⟩,a6⟩
 rintro a w3 ⟨i,k⟩;have g:=btr g k;refine aC _ _ ?_
 refine Q6 (X5 i (Xr i rfl rfl) ?_)
 exact ⟨rfl,g⟩
theorem Xgr(c:World)(d:Dg)(md:Nat)(a7:md=d.ns.length)(Ad:Option Addr)(cd:Nat)(a8:Rd c c.heap.size 81 encNd Ad d.ns)(Bd:Option Addr)(dd:Nat)(aA:Rd c c.heap.size 83 encWr Bd d.ws)(aB:d.ws.length≤dd)(p:Int)(Al:Option Addr)(cl:Nat)(l:List Int)(e:Rd c c.heap.size 3 encI Al l)(hN:md≤1000)(aE:d.ws.length≤1000000000)(aL:l.length≤1000000000) : Ret Tryz.prog 203 [.agg #[vi d.n,.slice Ad md cd,.slice Bd d.ws.length dd,vi d.t,vi d.r],vi p,.slice Al l.length cl] c (fun v w=>v=.bool (!(l.any fun x=>!(spI d.ns x)||tyW d.ws p x != 2))∧Below c.heap.size c w):=by
 refine enter Tryz.func203 rfl 11 rfl rfl ?_;intro a hf
 have b:=bz c
 refine Zs hf fun _ aF=>?_;refine Zf (X0h (zs:=[vi d.n,.slice Ad md cd,.slice Bd d.ws.length dd,vi d.t,vi d.r]) rfl rfl) ?_;rintro _ w1 ⟨b5,rfl,aG,hE,a6⟩;have aJ:=Q0 b.size aG;have b:=btr b hE;refine Zf (X0h (zs:=[vi p]) rfl rfl) ?_;rintro _ w2 ⟨b6,rfl,aC,hE,aH⟩;have aK:=Q0 b.size aC;have aD:=(e.below' b).away aC;have a6:=a6.below hE;have b:=btr b hE;refine Za rfl<|Zx aF fun a hf _ aI=>?_;refine Zm rfl<|Ze (X38 (vs:=[.pointer (some ⟨b5,0,none⟩),.pointer (some ⟨b6,0,none⟩)]) rfl)<|Zf (Vc (Xx0 _ Al cl l (e.below' b).top 227 [.pointer (some ⟨b5,0,none⟩),.pointer (some ⟨b6,0,none⟩)] Xm0 (fun x=>!(spI d.ns x)||tyW d.ws p x != 2) (fun x w' hE'=>Xuj w' x d md a7 Ad cd (((a8.below' b).top).below hE').top Bd dd (((aA.below' b).top).below hE').top aB p _ _ (a6.below hE') (aH.below hE') hN aE) (by omega)) Xp1) ?_;rintro _ w3 ⟨rfl,hE⟩;have b:=btr b hE;refine Ze (X0y rfl)<|Za rfl<|Zt aI fun a hf=>?_
 refine Q6 (X5 hf (Xr hf rfl rfl) ?_)
 exact ⟨rfl,b⟩
theorem Xob(q:World)(d:Dg)(md:Nat)(aE:md=d.ns.length)(Ad:Option Addr)(cd:Nat)(aF:Rd q q.heap.size 81 encNd Ad d.ns)(Bd:Option Addr)(dd:Nat)(aG:Rd q q.heap.size 83 encWr Bd d.ws)(f:d.ws.length≤dd)(Al:Option Addr)(cl:Nat)(l:List Int)(h:Rd q q.heap.size 3 encI Al l)(aS:d.ws.length≤1000000000)(b7:l.length≤1000000000)(aT:l.length≤cl) : Ret Tryz.prog 204 [.agg #[vi d.n,.slice Ad md cd,.slice Bd d.ws.length dd,vi d.t,vi d.r],.slice Al l.length cl] q (fun v w=>v=.bool (prD d l)∧Below q.heap.size q w):=by
 refine enter Tryz.func204 rfl 31 rfl rfl ?_;intro a b
 have o:=bz q
 refine Zs b fun _ aU=>?_;refine Zf (X0h (zs:=[vi d.n,.slice Ad md cd,.slice Bd d.ws.length dd,vi d.t,vi d.r]) rfl rfl) ?_;rintro _ w1 ⟨b5,rfl,aW,hE,m⟩;have b3:=Q0 o.size aW;have o:=btr o hE;refine Za rfl<|ZX aU fun a b _ aX=>?_;refine Zs b fun _ aY=>?_;refine Zm rfl<|Ze (X0c rfl Xj)<|Zm rfl<|Zt aY fun a b=>?_;refine Q8<|X01 (σ:=Nat) (fun (k:Nat) (a:Act) (w:World)=>Fr a 31 [(1,.slice Al l.length cl),(2,.pointer (some ⟨b5,0,none⟩)),(9,.slice Al l.length cl),(10,vi (l.length:Int)),(11,vi (k:Int))]∧(k≤l.length)∧(∀ j:Nat,j<k→prQ d l j=false)∧Blk w b5 39 [vi d.n,.slice Ad md cd,.slice Bd d.ws.length dd,vi d.t,vi d.r]∧d.ws.length≤dd∧Below q.heap.size q w) (fun (k:Nat)=>l.length-k) 0 ?_ ?_
 ·exact ⟨b.sb,(Qf _),(fun j hj=>by omega),m,f,o⟩
 rintro k a w2 ⟨b,hk,A,m,f,o⟩;refine Zs b fun _ aZ=>?_;refine Ze (X0m rfl rfl)<|ZX aZ fun a b _ b0=>?_
 refine Xh b rfl (fun c=>?_) (fun c=>?_)
 ·have a6:=c;have c:=Q2 c
  obtain ⟨b8,b4⟩:=X4 (l:=l) (k:=k) (by omega)
  obtain ⟨u9,a7⟩:=X4 (l:=l) (k:=k) (by have:=c;omega)
  have aH:l.getD k 0=u9:=by rw [Qa,a7];rfl
  refine Q7<|b0 _ _<|Q5 fun _ aI=>?_;refine Q8<|Zs b fun _ aJ=>?_;refine Zm rfl<|Zi (k:=k) (u:=u9) (enc:=encI) (l:=l) trivial rfl rfl Xj X08 Xa (h.below' o) a7 rfl ?_;intro b9 a8;refine Ze (X0 rfl X9 a8)<|Za rfl<|Za rfl<|Zx aJ fun a b _ aK=>?_;refine Zm rfl<|Zm rfl ?_;have g:=((h.below' o).top).takeK Xa k;refine Ze (X2o (l:=l) (k:=k) rfl rfl Xj X08 rfl hk aT)<|Ze (X0c rfl Xj)<|Zm rfl<|Zt aK fun a b=>?_;refine Q8<|X01 (σ:=Nat) (fun (j:Nat) (a:Act) (w:World)=>Fr a 31 [(1,.slice Al l.length cl),(2,.pointer (some ⟨b5,0,none⟩)),(6,vi u9),(9,.slice Al l.length cl),(10,vi (l.length:Int)),(11,vi (k:Int)),(18,.slice Al (l.take k).length cl),(19,vi ((l.take k).length:Int)),(20,vi (j:Int))]∧(j≤(l.take k).length)∧(((l.take k).take j).any (fun y=>tyW d.ws u9 y==1)=false)∧Blk w b5 39 [vi d.n,.slice Ad md cd,.slice Bd d.ws.length dd,vi d.t,vi d.r]∧Rd w w2.heap.size 3 encI Al (l.take k)∧d.ws.length≤dd∧Below q.heap.size q w) (fun (j:Nat)=>(l.take k).length-j) 0 ?_ ?_
  ·exact ⟨b.sb,(Qf _),rfl,m,g,f,o⟩
  rintro j a w3 ⟨b,hj,B,m,g,f,o⟩;refine Zs b fun _ aL=>?_;refine Ze (X0m rfl rfl)<|ZX aL fun a b _ aM=>?_
  refine Xh b rfl (fun e=>?_) (fun e=>?_)
  ·have aA:=e;have e:=Q2 e
   obtain ⟨bA,b6⟩:=X4 (l:=(l.take k)) (k:=j) (by omega)
   have bB:(l.take k).length≤1000000000:=by rw [Qn];omega
   obtain ⟨v9,aB⟩:=X4 (l:=l.take k) (k:=j) (by have:=e;omega)
   refine Q7<|aM _ _<|Q5 fun _ aN=>?_;refine Q8<|Zs b fun _ aO=>?_;refine Zi (k:=j) (u:=v9) (enc:=encI) (l:=(l.take k)) trivial rfl rfl Xj X08 Xa g aB rfl ?_;intro bC aC;refine Ze (X0 rfl X9 aC)<|Za rfl<|Zx aO fun a b _ aP=>?_;refine Ze (Vn X2 m)<|Zm rfl<|Zm rfl<|Zf (Vc (X6c _ d md aE Ad cd (aF.below' o).top Bd dd (aG.below' o).top f u9 v9 aS) X33) ?_;rintro _ w4 ⟨rfl,hE⟩;have m:=m.below hE;have g:=g.below hE;have o:=btr o hE;refine Ze (X0a rfl rfl)<|Zt aP fun a b=>?_
   refine Xh b rfl (fun p=>?_) (fun p=>?_)
   ·have aD:=p
    have x:prD d l=true:=Xlb (k:=k) (by have:=(Qg.1 a7).1;omega) (by unfold prQ;rw [aH];exact Xkd aB (by have h9:=p;simpa using h9))
    refine Zs b fun _ aQ=>?_;refine Za rfl<|Zt aQ fun a b=>?_;refine Q6<|Xq<|X7<|X7 ?_;refine Xq<|Xq<|X7<|X7 ?_;refine Xq<|X7<|X5 b (Xr b rfl rfl) ?_;exact ⟨by rw [x],o⟩
   have aD:=p
   have b1:(tyW d.ws u9 v9==1)=false:=by have h9:=p;simpa using h9
   refine Q7<|Xd<|aN _ _<|Zr b ?_;refine Ze (Xu rfl rfl (by omega) (by omega))<|Zm rfl ?_;refine Zn fun a b=>?_;refine Xf ?_;exact ⟨j+1,⟨b.sb,(by omega),(Xqh B aB b1),m,g,f,o⟩,(by omega)⟩
  have aA:=e;have e:=Q1 e
  have b2:prQ d l k=false:=by unfold prQ;rw [aH];exact Xma B (by have:=e;omega)
  refine Q9<|Xk<|Xk<|X03 ?_;refine Xd<|aI _ _<|Zr b<|Ze (Xu rfl rfl (by omega) (by omega))<|Zm rfl ?_;refine Zn fun a b=>?_;refine Xf ?_;exact ⟨k+1,⟨b.sb,(by omega),(fun i hi=>by by_cases h9:i=k;rw [h9];exact b2;exact A i (by omega)),m,f,o⟩,(by omega)⟩
 have a6:=c;have c:=Q1 c
 have x:prD d l=false:=Xqd fun j hj=>A j (by have:=c;omega)
 refine Q9<|Xk<|Xk<|X03 ?_;refine aX _ _<|Zs b fun _ aR=>?_;refine Za rfl<|Zt aR fun a b=>?_
 refine Q6 (X5 b (Xr b rfl rfl) ?_)
 exact ⟨by rw [x],o⟩
variable {α : Type} {P : Program} {a : Act} {w : World} {n : Nat} {e : Env} {ty : TypeId} {pos : String} {af : Array Edge} {g : Option (Nat × Bool)} {d : Option Tmp}
theorem Own.takeK{B0:Nat}{E:TypeId}{sz:Nat}{enc:α→List Value}{A:Option Addr}{c:Nat}{l:List α}(h:Own w B0 E sz enc A c l)(hsz:∀ x,(enc x).length=sz){k:Nat}(hk:k≤l.length) : Own w B0 E sz enc A c (l.take k):=by
 refine ⟨Xn hsz _,?_⟩
 have hl:(l.take k).length=k:=by rw [Qn];omega
 rcases h.2 with ⟨h1,h2⟩|⟨gg,cap,cur,h1,h2,h3,h4,h5,h6,h7⟩
 ·have:k=0:=by omega
  subst this
  injection h1 with h1 _ h1'
  exact .inl ⟨by rw [h1,h1'];rfl,rfl⟩
 ·injection h1 with h1 _ h1'
  refine .inr ⟨gg,cap,cur,by rw [h1,h1'],h2,h3,by omega,h5,h6,?_⟩
  rw [hl]
  have e:(l.take k).flatMap enc=(l.flatMap enc).take (k*sz):=by
   have h8:l.flatMap enc=(l.take k).flatMap enc++(l.drop k).flatMap enc:=by rw [← List.flatMap_append,W9]
   have h9:((l.take k).flatMap enc).length=k*sz:=by rw [Xn hsz,hl]
   rw [h8,List.take_append_of_le_length (by rw [h9];exact Qb _)]
   exact (Qi (by rw [h9];exact Qb _)).symm
  rw [e,← h7,List.take_take]
  congr 1
  have:=Nat.mul_le_mul_right sz hk
  omega
theorem X8f{z:Array Value}{n:Nat}(hz:z.toList.all one=true)(hn:z≠#[]) : (Builtin.zeroCells z n).toList.length=n*z.size∧(Builtin.zeroCells z n).toList.all one=true:=by
 unfold Builtin.zeroCells
 refine ⟨by simp,?_⟩
 rw [W1]
 intro v hv
 simp only [Array.toList_map,W6] at hv
 obtain ⟨i,_,rfl⟩:=hv
 have hs:0<z.size:=Array.size_pos_iff.2 hn
 have hi:i % z.size<z.size:=Nat.mod_lt _ hs
 rw [getElem!_pos z _ hi]
 exact (W1.1 hz) _ (Array.mem_toList_iff.2 (Array.getElem_mem hi))
theorem Xhg{T E:TypeId}{sz B0 k cc L:Nat}{x:Operand}{z:Value}{enc:α→List Value}{A:Option Addr}{c:Nat}{l:List α}(hf:Fr a n e)(hx:ev e x=some (.slice (if c=k then A else A.map (·.add (k*sz))) L cc))(hT:SliceT P T E)(hZ:ZeroT P E z)
  (ho:Own w B0 E sz enc A c l) (hz1:z.cells.toList.all one=true) (hz2:z.cells.size=sz) (hsz:∀ x,(enc x).length=sz) (hp:0<sz) (hk:k≤l.length) (hL:k+L≤c) :
  Ef P ⟨d,.call ⟨.builtin .clear,#[x],#[T]⟩,ty,pos,af,g⟩ a w (fun _ w'=>Own w' B0 E sz enc A c (l.take k)∧w.grownBy w' (Value.slice A l.length c).ownBlock):=by
 by_cases hkl:L=0
 ·subst hkl
  have hrun:(Builtin.clear_ #[T] ty #[.slice (if c=k then A else A.map (·.add (k*sz))) 0 cc]).run P w=.ok (.tuple #[]) w:=by
   cases (if c=k then A else A.map (·.add (k*sz)))<;>simp [Builtin.clear_,X0u hT]
  refine (Ef.of_run (v:=.tuple #[]) (w':=w) ?_).mono fun v w' ⟨_,e2⟩=>?_
  ·simp [execOp,resolve,invoke,builtin,hf.ev hx,hrun]
  ·subst e2
   rcases ho.2 with ⟨h1,h2⟩|⟨gg,cap,cur,h1,h2,h3,h4,h5,h6,h7⟩
   ·exact ⟨ho.takeK hsz hk,World.grownBy.refl _ _⟩
   ·exact ⟨ho.takeK hsz hk,World.grownBy.refl _ _⟩
 ·have hot:=ho.takeK hsz hk
  rcases ho.2 with ⟨h1,h2⟩|⟨gg,cap,cur,h1,h2,h3,h4,h5,h6,h7⟩
  ·injection h1 with _ _ h1'
   omega
  ·injection h1 with h1 _ h1'
   subst h1'
   subst h1
   have hck:¬ c=k:=by omega
   rw [Q3 hck] at hx
   have hcl:cur.toList.length=c*sz:=Array.length_toList.trans h6
   have hb:Blk w gg E cur.toList:=by unfold Blk;rw [h3]
   have hzz:=X8f (z:=z.cells) (n:=L) hz1 (fun h=>by rw [h] at hz2;simp at hz2;omega)
   have hle:k*sz+L*z.cells.size≤cur.toList.length:=by
    rw [hcl,hz2,← Wb]
    exact Nat.mul_le_mul_right _ hL
   obtain ⟨w',hr,hO,hB⟩:=X3b (P:=P) (b:=gg) (off:=k*sz) (T:=E) (Builtin.zeroCells z.cells L).toList w cur.toList 0 hb (by rw [hzz.1];omega) hzz.2
   have hpos:∃ m,L=m+1:=⟨L-1,by omega⟩
   obtain ⟨m,hm⟩:=hpos
   have hzv:(zeroValue E).run P w=.ok z w:=by
    obtain ⟨i,hi,hi2⟩:=hZ
    simp [zeroValue,typeInfo,hi,hi2]
   have ha:((⟨gg,0,none⟩ : Addr).add (k*sz))=⟨gg,k*sz,none⟩:=by rw [X1e];simp
   have hrun:(Builtin.clear_ #[T] ty #[.slice (some ⟨gg,k*sz,none⟩) (m+1) cc]).run P w=.ok (.tuple #[]) w':=by
    rw [hm] at hr
    simp [Builtin.clear_,X0u hT,hzv,hr]
   refine (Ef.of_run (v:=.tuple #[]) (w':=w') ?_).mono fun v w1 ⟨_,e2⟩=>?_
   ·rw [hm] at hx
    simp only [Option.map_some,ha] at hx
    simp [execOp,resolve,invoke,builtin,hf.ev hx,hrun]
   ·subst e2
    have hlt:(l.take k).length=k:=by rw [Qn];omega
    have hsl:(splice cur.toList (k*sz) (Builtin.zeroCells z.cells L).toList).length=c*sz:=by rw [X2x (by rw [hzz.1];exact hle),hcl]
    refine ⟨⟨Xn hsz _,.inr ⟨gg,c,(splice cur.toList (k*sz) (Builtin.zeroCells z.cells L).toList).toArray,rfl,h2,?_,by omega,h5,?_,?_⟩⟩,?_⟩
    ·unfold Blk at hB
     simpa using hB
    ·rw [List.size_toArray,hsl]
    ·rw [hlt]
     have e7:cur.toList.take (k*sz)=(l.take k).flatMap enc:=by
      rcases hot.2 with ⟨q1,q2⟩|⟨g2,cap2,cur2,q1,q2,q3,q4,q5,q6,q7⟩
      ·simp at q1
      ·injection q1 with q1 _ q1'
       injection q1 with q1
       injection q1 with q1
       subst q1
       rw [h3] at q3
       injection q3 with q3
       injection q3 with q3
       subst q3
       rw [hlt] at q7
       exact q7
     rw [← e7]
     show ((splice cur.toList (k*sz) _).toArray.toList).take (k*sz)=_
     rw [List.toList_toArray]
     apply List.ext_getElem?
     intro i
     rw [List.getElem?_take,List.getElem?_take]
     split
     ·rename_i hi
      rw [X2q (by rw [hzz.1];exact hle),Q4 (by omega)]
     ·rfl
    ·exact ⟨hO.os,hO.tape,hO.output,by rw [hO.size];exact Qb _,fun q _ hne=>hO.block q fun e=>hne (by rw [e];rfl)⟩
theorem Xct{T E:TypeId}{sz B0 k cc L:Nat}{x:Operand}{z:Value}{enc:α→List Value}{A:Option Addr}{c:Nat}{l:List α}(hx:ev e x=some (.slice (if c=k then A else A.map (·.add (k*sz))) L cc))(hT:SliceT P T E)(hZ:ZeroT P E z)(ho:Own w B0 E sz enc A c l)(hz1:z.cells.toList.all one=true)(hz2:z.cells.size=sz)(hsz:∀ x,(enc x).length=sz)(hp:0<sz)(hk:k≤l.length)(hL:k+L≤c) : EfW P ⟨d,.call ⟨.builtin .clear,#[x],#[T]⟩,ty,pos,af,g⟩ n e w (fun _ w'=>Own w' B0 E sz enc A c (l.take k)∧w.grownBy w' (Value.slice A l.length c).ownBlock):=fun a hf=>Xhg hf hx hT hZ ho hz1 hz2 hsz hp hk hL
theorem Xfx{T E sz q c k m:Nat}{x y z:Operand}{A:Option Addr}{i j:Int}(hf:Fr a n e)(hx:ev e x=some (.slice A q c))(hy:ev e y=some (.int .i64 i))(hz:ev e z=some (.int .i64 j))(hT:SliceT P T E)(hs:SizeT P E sz)(hi:i=(k:Int))(hj:j=(m:Int))(hk:k≤m)(hm:m≤c) :
  Ev P ⟨d,.slice T x (some y) (some z) none,ty,pos,af,g⟩ a w (.slice (if c=k then A else A.map (·.add (k*sz))) (m-k) (c-k)):=fun w' _=>by
 subst hi;subst hj
 simp [execOp,Instr.sliceAt,Instr.slice,Instr.sliceBounds,run_sliceBound,X0u hT,run_sizeOf' hs,hf.ev hx,hf.ev hy,hf.ev hz,hk,hm]
theorem Xlj{T E sz q c k m:Nat}{x y z:Operand}{A:Option Addr}{i j:Int}(hx:ev e x=some (.slice A q c))(hy:ev e y=some (.int .i64 i))(hz:ev e z=some (.int .i64 j))(hT:SliceT P T E)(hs:SizeT P E sz)(hi:i=(k:Int))(hj:j=(m:Int))(hk:k≤m)(hm:m≤c) : EvW P ⟨d,.slice T x (some y) (some z) none,ty,pos,af,g⟩ n e w (.slice (if c=k then A else A.map (·.add (k*sz))) (m-k) (c-k)):=fun a hf=>Xfx hf hx hy hz hT hs hi hj hk hm
theorem Xfp{T E sz q c k m r:Nat}{x y z u:Operand}{A:Option Addr}{i j s:Int}(hf:Fr a n e)(hx:ev e x=some (.slice A q c))(hy:ev e y=some (.int .i64 i))(hz:ev e z=some (.int .i64 j))(hu:ev e u=some (.int .i64 s))(hT:SliceT P T E)(hs:SizeT P E sz)(hi:i=(k:Int))(hj:j=(m:Int))(hr:s=(r:Int))(hk:k≤m)(hm:m≤r)(hrc:r≤c) :
  Ev P ⟨d,.slice T x (some y) (some z) (some u),ty,pos,af,g⟩ a w (.slice (if r=k then A else A.map (·.add (k*sz))) (m-k) (r-k)):=fun w' _=>by
 subst hi;subst hj;subst hr
 simp [execOp,Instr.sliceAt,Instr.slice,Instr.sliceBounds,run_sliceBound,X0u hT,run_sizeOf' hs,hf.ev hx,hf.ev hy,hf.ev hz,hf.ev hu,hk,hm,hrc]
theorem Xlg{T E sz q c k m r:Nat}{x y z u:Operand}{A:Option Addr}{i j s:Int}(hx:ev e x=some (.slice A q c))(hy:ev e y=some (.int .i64 i))(hz:ev e z=some (.int .i64 j))(hu:ev e u=some (.int .i64 s))(hT:SliceT P T E)(hs:SizeT P E sz)(hi:i=(k:Int))(hj:j=(m:Int))(hr:s=(r:Int))(hk:k≤m)(hm:m≤r)(hrc:r≤c) : EvW P ⟨d,.slice T x (some y) (some z) (some u),ty,pos,af,g⟩ n e w (.slice (if r=k then A else A.map (·.add (k*sz))) (m-k) (r-k)):=fun a hf=>Xfp hf hx hy hz hu hT hs hi hj hr hk hm hrc
theorem Xbx{T E:TypeId}{sz B B0:Nat}{x y:Operand}{enc:α→List Value}{A A2:Option Addr}{c c2:Nat}{l l2:List α}(hf:Fr a n e)(hx:ev e x=some (.slice A l.length c))(hy:ev e y=some (.slice A2 l2.length c2))
  (hT:SliceT P T E) (hs:SizeT P E sz) (hsz:∀ x,(enc x).length=sz) (hone:∀ x,(enc x).all one=true) (ho:Own w B0 E sz enc A c l) (hr:Rd w B E enc A2 l2) (hroom:l.length+l2.length≤c) :
  Ef P ⟨d,.call ⟨.builtin .append,#[x,y],#[T,T]⟩,ty,pos,af,g⟩ a w (fun v w'=>v=.slice A (l++l2).length c∧Own w' B0 E sz enc A c (l++l2)∧w.grownBy w' (Value.slice A l.length c).ownBlock):=by
 obtain ⟨i,hi1,hi2⟩:=hs
 rcases ho.2 with ⟨h1,h2⟩|⟨gg,cap,cur,h1,h2,h3,h4,h5,h6,h7⟩
 ·injection h1 with h1 _ h1'
  subst h1;subst h1'
  have e1:l=[]:=List.eq_nil_of_length_eq_zero h2
  have e2:l2=[]:=List.eq_nil_of_length_eq_zero (by omega)
  subst e1;subst e2
  have hrun:(Builtin.append_ #[T,T] ty #[.slice none 0 0,.slice A2 0 c2]).run P w=.ok (.slice none 0 0) w:=by
   cases A2<;>simp [Builtin.append_,X0u hT,sizeOf,typeInfo,hi1,Builtin.lenOf,Builtin.firstCells,loadCells,loadCellsFrom]
  refine (Ef.of_run (v:=.slice none 0 0) (w':=w) ?_).mono fun v w' ⟨e1,e2⟩=>?_
  ·simp only [List.length_nil] at hx hy
   simp [execOp,resolve,invoke,builtin,hf.ev hx,hf.ev hy,hrun]
  ·subst e1;subst e2
   exact ⟨rfl,ho,World.grownBy.refl w' _⟩
 ·injection h1 with h1 _ h1'
  subst h1;subst h1'
  by_cases hl2:l2=[]
  ·subst hl2
   have hrun:(Builtin.append_ #[T,T] ty #[.slice (some ⟨gg,0,none⟩) l.length c,.slice A2 0 c2]).run P w=.ok (.slice (some ⟨gg,0,none⟩) l.length c) w:=by
    cases A2<;>simp [Builtin.append_,X0u hT,sizeOf,typeInfo,hi1,Builtin.lenOf,Builtin.firstCells,loadCells,loadCellsFrom,h4,storeCells]
   refine (Ef.of_run (v:=.slice (some ⟨gg,0,none⟩) l.length c) (w':=w) ?_).mono fun v w' ⟨e1,e2⟩=>?_
   ·simp only [List.length_nil] at hy
    simp [execOp,resolve,invoke,builtin,hf.ev hx,hf.ev hy,hrun]
   ·subst e1;subst e2
    exact ⟨by simp,by simpa using ho,World.grownBy.refl w' _⟩
  ·obtain ⟨b,off,cs,fz,rfl,g2,g3,g4⟩:=hr hl2;obtain ⟨w',hrun,hown,hg⟩:=run_append_fits (P:=P) (w:=w) B0 T ty E i sz hT hi1 hi2 gg l.length c (l.flatMap enc) ho ⟨b,off,none⟩ l2.length c2 (l2.flatMap enc) (Xn hsz l2)
    (fun j u hu=>by
     have:=g4 j u hu
     rw [X1e]
     simp [World.cell?,g3,this])
    (fun u hu=>by
     obtain ⟨x,_,hx⟩:=List.mem_flatMap.1 hu
     have:=W1.1 (hone x) u hx
     cases u<;>simp_all [Value.oneCell',one]) hroom
   refine (Ef.of_run (v:=.slice (some ⟨gg,0,none⟩) (l.length+l2.length) c) (w':=w') ?_).mono fun v w1 ⟨e1,e2⟩=>?_
   ·simp [execOp,resolve,invoke,builtin,hf.ev hx,hf.ev hy,hrun]
   ·subst e1;subst e2
    refine ⟨by rw [Qh],?_,hg⟩
    unfold Own
    rw [List.flatMap_append,Qh]
    exact hown
theorem Xfi{T E:TypeId}{sz B B0:Nat}{x y:Operand}{enc:α→List Value}{A A2:Option Addr}{c c2:Nat}{l l2:List α}(hx:ev e x=some (.slice A l.length c))(hy:ev e y=some (.slice A2 l2.length c2))(hT:SliceT P T E)(hs:SizeT P E sz)(hsz:∀ x,(enc x).length=sz)(hone:∀ x,(enc x).all one=true)(ho:Own w B0 E sz enc A c l)(hr:Rd w B E enc A2 l2)(hroom:l.length+l2.length≤c) : EfW P ⟨d,.call ⟨.builtin .append,#[x,y],#[T,T]⟩,ty,pos,af,g⟩ n e w (fun v w'=>v=.slice A (l++l2).length c∧Own w' B0 E sz enc A c (l++l2)∧w.grownBy w' (Value.slice A l.length c).ownBlock):=fun a hf=>Xbx hf hx hy hT hs hsz hone ho hr hroom
theorem Xa7{α:Type}{l:List α}{q:α→Bool}{j:Nat}{u:α}(hu:l[j]? = some u)(h:q u=true) : (l.take (j+1)).filter (fun x=>!q x)=(l.take j).filter fun x=>!q x:=by
 rw [X30 (q:=fun x=>!q x) hu,Q3 (by rw [h];decide),List.append_nil]
theorem Xhm{α:Type}{l:List α}{q:α→Bool}{j:Nat}{u:α}(hu:l[j]? = some u)(h:q u=false) : (l.take (j+1)).filter (fun x=>!q x)=((l.take j).filter fun x=>!q x)++[u]:=by
 rw [X30 (q:=fun x=>!q x) hu,Q4 (by rw [h];rfl)]
structure Strk {α:Type} (l:List α) (q:α→Bool) (i j:Nat) (m:List α) : Prop where
 len:m.length=l.length
 ie:i=((l.take j).filter fun x=>!q x).length
 lt:i<j
 jl:j≤l.length
 tk:m.take i=(l.take j).filter fun x=>!q x
 dr:∀ t,j≤t→m[t]? = l[t]?
theorem Strk.at{α:Type}{l m:List α}{q:α→Bool}{i j:Nat}(h:Strk l q i j m){u:α}(hu:l[j]? = some u) : m[j]? = some u:=(h.dr j (Qb _)).trans hu
theorem Strk.no{α:Type}{l m:List α}{q:α→Bool}{i j:Nat}(h:Strk l q i j m){u:α}(hu:l[j]? = some u)(hq:q u=true) : Strk l q i (j+1) m:=
 ⟨h.len,by rw [Xa7 hu hq];exact h.ie,by have:=h.lt;omega,(Qg.1 hu).1,by rw [Xa7 hu hq];exact h.tk,fun t ht=>h.dr t (by omega)⟩
theorem Strk.yes{α:Type}{l m:List α}{q:α→Bool}{i j:Nat}(h:Strk l q i j m){u:α}(hu:l[j]? = some u)(hq:q u=false) : Strk l q (i+1) (j+1) (m.set i u):=by
 have hj:=(Qg.1 hu).1;have hl:=h.lt;have hm:=h.len
 refine ⟨List.length_set.trans h.len,by rw [Xhm hu hq,Qh,← h.ie];rfl,by omega,hj,?_,fun t ht=>?_⟩
 ·rw [Xhm hu hq,← h.tk,Qt,List.getElem?_set_self (by omega)]
  rw [List.take_set_of_le (Qb _)]
  rfl
 ·rw [List.getElem?_set_ne (by omega)]
  exact h.dr t (by omega)
theorem Strk.init{α:Type}{l:List α}{q:α→Bool}{k:Nat}{u:α}(ha:((l.take k).all fun x=>!q x)=true)(hu:l[k]? = some u)(hq:q u=true) : Strk l q k (k+1) l:=by
 have hk:=(Qg.1 hu).1
 have e:(l.take k).filter (fun x=>!q x)=l.take k:=List.filter_eq_self.2 fun x hx=>W1.1 ha x hx
 exact ⟨rfl,by rw [Xa7 hu hq,e,Qn];omega,by omega,hk,by rw [Xa7 hu hq,e],fun _ _=>rfl⟩
theorem Strk.fin{α:Type}{l m:List α}{q:α→Bool}{i j:Nat}(h:Strk l q i j m)(hj:l.length≤j) : m.take i=(l.filter fun x=>!q x)∧(l.take i).length=(l.filter fun x=>!q x).length:=by
 have e:=h.tk
 have e2:=h.ie
 rw [Qi hj] at e e2
 have:=h.lt
 have:=h.jl
 exact ⟨e,by rw [← e2,Qn];omega⟩
theorem Xey{α:Type}{l:List α}{q:α→Bool}(h:(idxF l q == -1)=false) : ∃ k u,idxF l q=(k:Nat)∧l[k]? = some u∧q u=true∧((l.take k).all fun x=>!q x)=true:=by
 unfold idxF at h ⊢
 cases hf:l.findIdx? q with
 | none=>rw [hf] at h;simp at h
 | some k=>
  obtain ⟨h1,h2,h3⟩:=List.findIdx?_eq_some_iff_getElem.1 hf
  refine ⟨k,l[k],rfl,Qc h1,h2,?_⟩
  rw [W1]
  intro x hx;obtain ⟨t,ht⟩:=List.mem_iff_getElem?.1 hx
  rw [List.getElem?_take] at ht
  split at ht
  ·rename_i htk
   obtain ⟨h5,h6⟩:=Qg.1 ht
   have:=h3 t htk
   rw [← h6]
   simpa using this
  ·cases ht
theorem X8r{α:Type}{l:List α}{q:α→Bool}(h:(idxF l q == -1)=true) : (l.filter fun x=>!q x)=l:=by
 rcases X4h l q with ⟨_,h2⟩|⟨k,x,h1,_⟩
 ·exact List.filter_eq_self.2 fun x hx=>by rw [h2 x hx];rfl
 ·rw [h1] at h;simp at h
theorem Xve(G:World)(A:Option Addr)(c B0:Nat)(l:List Wr)(d:Own G B0 83 3 encWr A c l)(bA:B0≤G.heap.size)(kq:FuncId)(pq:List Value)(Fq:FuncF Tryz.prog kq)(q:Wr→Bool)(hq:∀ x w,G.grownBy w (Value.slice A l.length c).ownBlock→Ret Tryz.prog kq ([wrV x]++pq) w (fun v w'=>v=.bool (q x)∧Below w.heap.size w w'))(aP:l.length≤1000000000) : Ret Tryz.prog 208 [.slice A l.length c,.func (.func kq) #[] pq.toArray] G (fun v w=>v=.slice A (l.filter fun x=>!q x).length c∧Own w B0 83 3 encWr A c (l.filter fun x=>!q x)∧G.grownBy w (Value.slice A l.length c).ownBlock):=by
 have aE:=d.cap;refine enter Tryz.func208 rfl 42 rfl rfl ?_;intro a e
 have n:G.grownBy G (Value.slice A l.length c).ownBlock:=World.grownBy.refl _ _
 refine Zs e fun _ aQ=>?_;refine Za rfl<|Zx aQ fun a e _ aR=>?_;refine Zm rfl<|Zm rfl<|Zf (Vc (Xnh _ A c l d.rd.top kq pq Fq q (fun x w' hE'=>hq x w' (gbel n hE')) aP) Xe7) ?_;rintro _ w1 ⟨rfl,E⟩;have d:=d.below E;have n:=gbel n E;refine Za rfl<|ZX aR fun a e _ aS=>?_;refine Zs e fun _ aT=>?_;refine Zm rfl<|Ze (X0a rfl rfl)<|Zt aT fun a e=>?_
 refine Xh e rfl (fun y=>?_) (fun y=>?_)
 ·have aF:=y;have B:=X8r y;refine Zs e fun _ aU=>?_;refine Zm rfl<|Za rfl<|Zt aU fun a e=>?_;refine Q6<|X7<|X5 e (Xr e rfl rfl) ?_;exact ⟨by rw [B],by rw [B];exact d,n⟩
 have aF:=y;obtain ⟨k9,u0,aW,aG,aX,aY⟩:=Xey y;have bB:=(Qg.1 aG).1;refine Q7<|aS _ _<|Q5 fun _ aZ=>?_;refine Zs e fun _ aH=>?_;refine Zm rfl<|Ze (Xu rfl rfl (by omega) (by omega))<|Za rfl<|Zt aH fun a e=>?_;refine Q8 ?_
 rw [aW] at e
 refine X01 (σ:=Nat×Nat×(List Wr)) (fun (s:Nat×Nat×(List Wr)) (a:Act) (w:World)=>match s with|(i,j,m)=>Fr a 42 [(0,.slice A l.length c),(1,.func (.func kq) #[] pq.toArray),(5,vi (i:Int)),(6,vi (j:Int))]∧(Strk l q i j m)∧Own w B0 83 3 encWr A c m∧G.grownBy w (Value.slice A l.length c).ownBlock) (fun (s:Nat×Nat×(List Wr))=>match s with|(i,j,m)=>l.length-j) (k9,(k9+1),l) ?_ ?_
 ·exact ⟨e.sb,(Strk.init aY aG aX),d,n⟩
 rintro ⟨i,j,m⟩ a w2 ⟨e,hs,d,n⟩;refine Q5 fun _ aI=>?_;refine Zs e fun _ aJ=>?_;refine Zm rfl<|Zm rfl<|Ze (X0c rfl Xv)<|Ze (X0m rfl rfl)<|Zt aJ fun a e=>?_
 refine Xh e rfl (fun f=>?_) (fun f=>?_)
 ·have a6:=f;have f:=Q2 f
  obtain ⟨bC,b6⟩:=X4 (l:=l) (k:=j) (by omega)
  obtain ⟨o,a7⟩:=X4 (l:=l) (k:=j) (by have:=f;omega)
  have b0:=hs.at a7;have b1:=hs.len;have b2:=hs.lt;have b3:=hs.jl;refine Q7<|aI _ _<|Q5 fun _ H=>?_;refine Q8<|Zs e fun _ aK=>?_;refine Zm rfl<|Zm rfl<|Zj (k:=j) (u:=o) (enc:=encWr) (l:=m) trivial rfl (by omega) rfl Xv X0b Xx d.rd b0 (by omega) ?_;intro bD a8;refine Ze (X02 (l:=[vi o.a,vi o.b,.bool o.h]) rfl X17 a8 rfl)<|Zf (X00 (zs:=[vi 0,vi 0,.bool false]) X32 rfl) ?_;rintro _ w3 ⟨bE,rfl,I,E,g⟩;have aA:=Q0 n.size I;have C:=d.away I;have d:=d.below E;have n:=gbel n E;refine Zo (Vw [vi o.a,vi o.b,.bool o.h] X0b g) ?_;rintro _ w4 ⟨ho,hb⟩;have b7:=g;have d:=d.onlyA ho C;have n:=gonly n ho aA;have g:=hb;refine Zx aK fun a e _ aL=>?_;refine Zm rfl<|Ze (Vn X17 g)<|Zf (X4q (cs:=pq) (vs:=[.agg #[vi o.a,vi o.b,.bool o.h]]) rfl rfl Fq (hq o _ n)) ?_;rintro _ w5 ⟨rfl,E⟩;have g:=g.below E;have d:=d.below E;have n:=gbel n E;refine Ze (X0y rfl)<|Zt aL fun a e=>?_
  refine Xh e rfl (fun p=>?_) (fun p=>?_)
  ·have aB:=p
   have aC:q o=false:=by have h8:=p;simpa using h8
   have aD:=hs.yes a7 aC;refine Zs e fun _ aM=>?_;refine Zm rfl<|Zm rfl<|Ze (Vn X17 g)<|Ze (Xg (k:=i) rfl rfl Xv X0b d (by omega) (by omega) (by omega))<|Zo (X0g (enc:=encWr) (l:=m) (vs:=[vi o.a,vi o.b,.bool o.h]) (x0:=(m.getD i wZ)) (u:=o) (k:=i) (j:=0) (n1:=3) rfl rfl X0b d Xx rfl rfl rfl rfl (by decide) (Xb (by omega)) rfl) ?_;rintro _ w6 ⟨t,hg⟩;have D:=d;have n:=gtr n hg
   clear D hg;clear d;have d:=t;clear t;refine Zt aM fun a e=>?_;refine Zr e<|Zm rfl<|Ze (Xu rfl rfl (by omega) (by omega))<|Za rfl ?_;refine Zn fun a e=>?_;refine Xd<|H _ _<|Zr e<|Zm rfl<|Ze (Xu rfl rfl (by omega) (by omega))<|Za rfl ?_;refine Zn fun a e=>?_;refine Xf ?_;exact ⟨(i+1,j+1,(m.set i o)),⟨e.sb,aD,d,n⟩,(by first|omega|(dsimp only;omega))⟩
  have aB:=p
  have aC:q o=true:=by have h8:=p;simpa using h8
  have aD:=hs.no a7 aC;refine Q7<|Xd<|H _ _<|Zr e ?_;refine Zm rfl<|Ze (Xu rfl rfl (by omega) (by omega))<|Za rfl ?_;refine Zn fun a e=>?_;refine Xf ?_;exact ⟨(i,j+1,m),⟨e.sb,aD,d,n⟩,(by first|omega|(dsimp only;omega))⟩
 have a6:=f;have f:=Q1 f
 obtain ⟨b4,b5⟩:=hs.fin (by have:=f;omega)
 have b1:=hs.len;have b2:=hs.lt;have b3:=hs.jl;refine Q9<|Xk<|Xk<|X03 ?_;refine aZ _ _<|Zs e fun _ aN=>?_;refine Zm rfl<|Zm rfl ?_;have b8:=(d.rd.top).dropK Xx (c:=c) d.cap i;refine Ze (X6j (l:=l) (k:=i) rfl rfl Xv X0b (by omega) (by omega))<|Zo (Xct (enc:=encWr) (l:=m) (k:=i) (L:=(l.drop i).length) rfl Xv X32 d rfl rfl Xx (by decide) (by omega) (by rw [List.length_drop];omega)) ?_;rintro _ w7 ⟨t,hg⟩;have D:=d;have n:=gtr n hg
 clear D hg;clear d;have d:=t;clear t;refine Zx aN fun a e _ aO=>?_;refine Zm rfl<|Zm rfl ?_;have b9:=(d.rd.top).takeK Xx i;refine Ze (X2o (l:=l) (k:=i) rfl rfl Xv X0b (by omega) (by omega) aE)<|Za rfl<|Zt aO fun a e=>?_
 refine Q6 (X5 e (Xr e rfl rfl) ?_)
 exact ⟨by rw [b5],b4▸d,n⟩
theorem Xvo(g:World)(Al:Option Addr)(cl:Nat)(l:List Int)(aA:Rd g g.heap.size 3 encI Al l)(kq:FuncId)(pq:List Value)(Fq:FuncF Tryz.prog kq)(q:Int→Bool)(hq:∀ x w,Below g.heap.size g w→Ret Tryz.prog kq ([vi x]++pq) w (fun v w'=>v=.bool (q x)∧Below w.heap.size w w'))(aN:l.length≤1000000000) : Ret Tryz.prog 253 [.slice Al l.length cl,.func (.func kq) #[] pq.toArray] g (fun v w=>v=vi (idxF l q)∧Below g.heap.size g w):=by
 refine enter Tryz.func253 rfl 19 rfl rfl ?_;intro a b
 have i:=bz g
 refine Zs b fun _ aG=>?_;refine Za rfl<|ZX aG fun a b _ aH=>?_;refine Zs b fun _ aI=>?_;refine Zm rfl<|Ze (X0c rfl Xj)<|Zm rfl<|Zt aI fun a b=>?_;refine Q8<|X01 (σ:=Nat) (fun (k:Nat) (a:Act) (w:World)=>Fr a 19 [(0,.slice Al l.length cl),(1,.func (.func kq) #[] pq.toArray),(7,vi (l.length:Int)),(8,vi (k:Int))]∧(k≤l.length)∧(((l.take k).all fun x=>!q x)=true)∧Below g.heap.size g w) (fun (k:Nat)=>l.length-k) 0 ?_ ?_
 ·exact ⟨b.sb,(Qf _),rfl,i⟩
 rintro k a w1 ⟨b,hk,e,i⟩;refine Zs b fun _ aJ=>?_;refine Ze (X0m rfl rfl)<|ZX aJ fun a b _ aK=>?_
 refine Xh b rfl (fun c=>?_) (fun c=>?_)
 ·have aB:=c;have c:=Q2 c
  obtain ⟨u8,aO⟩:=X4 (l:=l) (k:=k) (by omega)
  obtain ⟨u9,a6⟩:=X4 (l:=l) (k:=k) (by have:=c;omega)
  refine Q7<|aK _ _<|Q5 fun _ aL=>?_;refine Q8<|Zs b fun _ aC=>?_;refine Zm rfl<|Za rfl<|Zx aC fun a b _ aD=>?_;refine Zm rfl<|Zm rfl<|Zm rfl<|Zi (k:=k) (u:=u9) (enc:=encI) (l:=l) trivial rfl rfl Xj X08 Xa (aA.below' i) a6 rfl ?_;intro aP a7;refine Ze (X0 rfl X9 a7)<|Zf (X4q (cs:=pq) (vs:=[vi u9]) rfl rfl Fq (hq u9 _ i)) ?_;rintro _ w2 ⟨rfl,hE⟩;have i:=btr i hE;refine Zt aD fun a b=>?_
  refine Xh b rfl (fun d=>?_) (fun d=>?_)
  ·have a8:=d
   have f:idxF l q=(k:Int):=X82 e a6 d
   refine Zs b fun _ aE=>?_;refine Zm rfl<|Za rfl<|Zt aE fun a b=>?_;refine Q6<|Xq<|X7<|X7 ?_;refine Xq<|X7<|X5 b (Xr b rfl rfl) ?_;exact ⟨by rw [f],i⟩
  have a8:=d;have aM:=X6e e a6 d;refine Q7<|Xd<|aL _ _<|Zr b ?_;refine Ze (Xu rfl rfl (by omega) (by omega))<|Zm rfl ?_;refine Zn fun a b=>?_;refine Xf ?_;exact ⟨k+1,⟨b.sb,(by omega),aM,i⟩,(by omega)⟩
 have aB:=c;have c:=Q1 c
 have f:idxF l q = -1:=X7h e (by have:=c;omega)
 refine Q9<|Xk<|Xk<|X03 ?_;refine aH _ _<|Zs b fun _ aF=>?_;refine Za rfl<|Zt aF fun a b=>?_
 refine Q6 (X5 b (Xr b rfl rfl) ?_)
 exact ⟨by rw [f],i⟩
theorem Xv8(y:World)(A:Option Addr)(c B0:Nat)(l:List Int)(b:Own y B0 3 1 encI A c l)(b8:B0≤y.heap.size)(kq:FuncId)(pq:List Value)(Fq:FuncF Tryz.prog kq)(q:Int→Bool)(hq:∀ x w,y.grownBy w (Value.slice A l.length c).ownBlock→Ret Tryz.prog kq ([vi x]++pq) w (fun v w'=>v=.bool (q x)∧Below w.heap.size w w'))(aO:l.length≤1000000000) : Ret Tryz.prog 228 [.slice A l.length c,.func (.func kq) #[] pq.toArray] y (fun v w=>v=.slice A (l.filter fun x=>!q x).length c∧Own w B0 3 1 encI A c (l.filter fun x=>!q x)∧y.grownBy w (Value.slice A l.length c).ownBlock):=by
 have aD:=b.cap;refine enter Tryz.func228 rfl 42 rfl rfl ?_;intro a d
 have n:y.grownBy y (Value.slice A l.length c).ownBlock:=World.grownBy.refl _ _
 refine Zs d fun _ aP=>?_;refine Za rfl<|Zx aP fun a d _ aQ=>?_;refine Zm rfl<|Zm rfl<|Zf (Vc (Xvo _ A c l b.rd.top kq pq Fq q (fun x w' hE'=>hq x w' (gbel n hE')) aO) Xh4) ?_;rintro _ w1 ⟨rfl,hE⟩;have b:=b.below hE;have n:=gbel n hE;refine Za rfl<|ZX aQ fun a d _ aR=>?_;refine Zs d fun _ aS=>?_;refine Zm rfl<|Ze (X0a rfl rfl)<|Zt aS fun a d=>?_
 refine Xh d rfl (fun o=>?_) (fun o=>?_)
 ·have aE:=o;have p:=X8r o;refine Zs d fun _ aT=>?_;refine Zm rfl<|Za rfl<|Zt aT fun a d=>?_;refine Q6<|X7<|X5 d (Xr d rfl rfl) ?_;exact ⟨by rw [p],by rw [p];exact b,n⟩
 have aE:=o;obtain ⟨k9,u0,aU,aF,aW,aX⟩:=Xey o;have b9:=(Qg.1 aF).1;refine Q7<|aR _ _<|Q5 fun _ aY=>?_;refine Zs d fun _ aG=>?_;refine Zm rfl<|Ze (Xu rfl rfl (by omega) (by omega))<|Za rfl<|Zt aG fun a d=>?_;refine Q8 ?_
 rw [aU] at d
 refine X01 (σ:=Nat×Nat×(List Int)) (fun (s:Nat×Nat×(List Int)) (a:Act) (w:World)=>match s with|(i,j,m)=>Fr a 42 [(0,.slice A l.length c),(1,.func (.func kq) #[] pq.toArray),(5,vi (i:Int)),(6,vi (j:Int))]∧(Strk l q i j m)∧Own w B0 3 1 encI A c m∧y.grownBy w (Value.slice A l.length c).ownBlock) (fun (s:Nat×Nat×(List Int))=>match s with|(i,j,m)=>l.length-j) (k9,(k9+1),l) ?_ ?_
 ·exact ⟨d.sb,(Strk.init aX aF aW),b,n⟩
 rintro ⟨i,j,m⟩ a w2 ⟨d,hs,b,n⟩;refine Q5 fun _ aH=>?_;refine Zs d fun _ aI=>?_;refine Zm rfl<|Zm rfl<|Ze (X0c rfl Xj)<|Ze (X0m rfl rfl)<|Zt aI fun a d=>?_
 refine Xh d rfl (fun e=>?_) (fun e=>?_)
 ·have a6:=e;have e:=Q2 e
  obtain ⟨bA,b5⟩:=X4 (l:=l) (k:=j) (by omega)
  obtain ⟨h,a7⟩:=X4 (l:=l) (k:=j) (by have:=e;omega)
  have aZ:=hs.at a7;have b0:=hs.len;have b1:=hs.lt;have b2:=hs.jl;refine Q7<|aH _ _<|Q5 fun _ B=>?_;refine Q8<|Zs d fun _ aJ=>?_;refine Zm rfl<|Zm rfl<|Zj (k:=j) (u:=h) (enc:=encI) (l:=m) trivial rfl (by omega) rfl Xj X08 Xa b.rd aZ (by omega) ?_;intro bB a8;refine Ze (X0 rfl X9 a8)<|Za rfl<|Zx aJ fun a d _ aK=>?_;refine Zm rfl<|Zm rfl<|Zf (X4q (cs:=pq) (vs:=[vi h]) rfl rfl Fq (hq h _ n)) ?_;rintro _ w3 ⟨rfl,hE⟩;have b:=b.below hE;have n:=gbel n hE;refine Ze (X0y rfl)<|Zt aK fun a d=>?_
  refine Xh d rfl (fun f=>?_) (fun f=>?_)
  ·have aA:=f
   have aB:q h=false:=by have h8:=f;simpa using h8
   have aC:=hs.yes a7 aB;refine Zs d fun _ aL=>?_;refine Zm rfl<|Zm rfl<|Zm rfl<|Ze (Xg (k:=i) rfl rfl Xj X08 b (by omega) (by omega) (by omega))<|Zo (X0g (enc:=encI) (l:=m) (vs:=[vi h]) (x0:=(m.getD i 0)) (u:=h) (k:=i) (j:=0) (n1:=1) rfl rfl X08 b Xa rfl rfl rfl rfl (by decide) (Xb (by omega)) rfl) ?_;rintro _ w4 ⟨g,hg⟩;have t:=b;have n:=gtr n hg
   clear t hg;clear b;have b:=g;clear g;refine Zt aL fun a d=>?_;refine Zr d<|Zm rfl<|Ze (Xu rfl rfl (by omega) (by omega))<|Za rfl ?_;refine Zn fun a d=>?_;refine Xd<|B _ _<|Zr d<|Zm rfl<|Ze (Xu rfl rfl (by omega) (by omega))<|Za rfl ?_;refine Zn fun a d=>?_;refine Xf ?_;exact ⟨(i+1,j+1,(m.set i h)),⟨d.sb,aC,b,n⟩,(by first|omega|(dsimp only;omega))⟩
  have aA:=f
  have aB:q h=true:=by have h8:=f;simpa using h8
  have aC:=hs.no a7 aB;refine Q7<|Xd<|B _ _<|Zr d ?_;refine Zm rfl<|Ze (Xu rfl rfl (by omega) (by omega))<|Za rfl ?_;refine Zn fun a d=>?_;refine Xf ?_;exact ⟨(i,j+1,m),⟨d.sb,aC,b,n⟩,(by first|omega|(dsimp only;omega))⟩
 have a6:=e;have e:=Q1 e
 obtain ⟨b3,b4⟩:=hs.fin (by have:=e;omega)
 have b0:=hs.len;have b1:=hs.lt;have b2:=hs.jl;refine Q9<|Xk<|Xk<|X03 ?_;refine aY _ _<|Zs d fun _ aM=>?_;refine Zm rfl<|Zm rfl ?_;have b6:=(b.rd.top).dropK Xa (c:=c) b.cap i;refine Ze (X6j (l:=l) (k:=i) rfl rfl Xj X08 (by omega) (by omega))<|Zo (Xct (enc:=encI) (l:=m) (k:=i) (L:=(l.drop i).length) rfl Xj z_3 b rfl rfl Xa (by decide) (by omega) (by rw [List.length_drop];omega)) ?_;rintro _ w5 ⟨g,hg⟩;have t:=b;have n:=gtr n hg
 clear t hg;clear b;have b:=g;clear g;refine Zx aM fun a d _ aN=>?_;refine Zm rfl<|Zm rfl ?_;have b7:=(b.rd.top).takeK Xa i;refine Ze (X2o (l:=l) (k:=i) rfl rfl Xj X08 (by omega) (by omega) aD)<|Za rfl<|Zt aN fun a d=>?_
 refine Q6 (X5 d (Xr d rfl rfl) ?_)
 exact ⟨by rw [b4],b3▸b,n⟩
theorem Xoa(w0:World)(A:Option Addr)(c B0:Nat)(l:List Wr)(d:Own w0 B0 83 3 encWr A c l)(aJ:B0≤w0.heap.size)(p:Int)(hp:0≤p∧p<(l.length:Int))(aK:l.length≤1000000000) : Ret Tryz.prog 185 [.slice A l.length c,vi p,vi (p+1)] w0 (fun v w=>v=.slice A (ctW l p.toNat).length c∧Own w B0 83 3 encWr A c (ctW l p.toNat)∧w0.grownBy w (Value.slice A l.length c).ownBlock):=by
 have n:=d.cap
 have a6:=Xqo (l:=l) (i:=p.toNat) (by omega)
 have aC:l.take p.toNat++l.drop (p.toNat+1)=ctW l p.toNat:=rfl
 have aL:(l.take p.toNat++l.drop (p.toNat+1)).length+1=l.length:=a6
 have aM:=Qn (i:=p.toNat) (l:=l);have aN:=List.length_drop (i:=p.toNat+1) (l:=l);refine enter Tryz.func185 rfl 33 rfl rfl ?_;intro a e
 have hW:w0.grownBy w0 (Value.slice A l.length c).ownBlock:=World.grownBy.refl _ _
 refine Zs e fun _ aD=>?_;refine Za rfl<|Zx aD fun a e _ aE=>?_;refine Zm rfl<|Zm rfl<|Zm rfl<|Zm rfl<|Ze (X0c rfl Xv)<|Ze (Xlg (k:=p.toNat) (m:=(p.toNat+1)) (r:=l.length) rfl rfl rfl rfl Xv X0b (by omega) (by omega) rfl (by omega) (by omega) n)<|ZX aE fun a e _ aF=>?_;refine Zs e fun _ aG=>?_;refine Zm rfl<|Zm rfl<|Ze (X0a rfl rfl)<|Zt aG fun a e=>?_
 refine Xh e rfl (fun g=>?_) (fun g=>?_)
 ·have a7:=g;exact absurd (beq_iff_eq.1 g) (by omega)
 have a7:=g;refine Q7<|aF _ _<|Zs e fun _ aH=>?_;refine Zm rfl<|Ze (X0c rfl Xv)<|Za rfl<|ZX aH fun a e _ aI=>?_;refine X05 none (fun j=>[6,6].contains j) mixed ?_;intro w1 hE;have d:=d.below hE;have hW:=gbel hW hE;refine Yb e<|Yo 0 rfl (fun _=>X3 rfl)<|Yo 1 rfl (fun _=>X3 rfl) ?_
 have o:=d.takeK Xx (k:=p.toNat) (by omega)
 refine Yo 2 rfl (fun _=>X2o (l:=l) (k:=p.toNat) rfl rfl Xv X0b (by omega) (by omega) d.cap)<|Yo 3 rfl (fun _=>X3 rfl)<|Yo 4 rfl (fun _=>X3 rfl) ?_;have a8:=(d.rd.top).dropK Xx (c:=c) d.cap (p.toNat+1);refine Yo 5 rfl (fun _=>X6j (l:=l) (k:=(p.toNat+1)) rfl rfl Xv X0b (by omega) (by omega))<|Y1 6 ?_;refine Yt rfl trivial rfl (Xfi (enc:=encWr) (l:=((l.take p.toNat))) (l2:=((l.drop (p.toNat+1)))) rfl rfl Xv X0b Xx X1c o a8 (by omega)) ?_;rintro _ w2 ⟨rfl,b,hg⟩;have f:=o;have hW:=gtr hW hg;clear f hg;refine Yo 7 rfl (fun _=>X0l rfl) ?_;refine Yd fun a e=>?_;refine aI _ _<|Zs e fun _ aA=>?_;refine Zm rfl<|Zm rfl<|Ze (X0c rfl Xv)<|Zm rfl<|Ze (Xlj (k:=(l.take p.toNat++l.drop (p.toNat+1)).length) (m:=l.length) rfl rfl rfl Xv X0b rfl rfl (by omega) n)<|Zo (Xct (enc:=encWr) (l:=((l.take p.toNat)++(l.drop (p.toNat+1)))) (k:=(l.take p.toNat++l.drop (p.toNat+1)).length) (L:=(l.length-(l.take p.toNat++l.drop (p.toNat+1)).length)) rfl Xv X32 b rfl rfl Xx (by decide) (Qb _) (by omega)) ?_;rintro _ w3 ⟨q,hg⟩;have f:=b;have hW:=gtr hW hg
 clear f hg;clear b;have b:=q;clear q;refine Zx aA fun a e _ aB=>?_;refine Zm rfl<|Za rfl<|Zt aB fun a e=>?_
 refine Q6 (X5 e (Xr e rfl rfl) ?_)
 exact ⟨rfl,by rw [← aC];exact (List.take_length (l:=l.take p.toNat++l.drop (p.toNat+1)))▸b,hW⟩
end Go.Proofs.YtpifljegadknkaaGreat
namespace Go.Proofs.YtpifljegadknkaaGreat
open Go.RowKit Go.Sort Go.Shelf Go.Lib
def sortWr_ren:Go.Shelf.Ren:=⟨fun|6=>184|15=>222|14=>221|28=>242|29=>243|20=>234|21=>235|22=>236|23=>237|24=>238|25=>239|26=>240|27=>241|46=>254|47=>255|48=>256|49=>257|50=>258|57=>262|n=>n,fun|22=>37|24=>83|25=>141|3=>3|39=>147|0=>0|53=>237|55=>101|4=>4|46=>231|45=>230|50=>76|5=>5|9=>9|66=>244|70=>248|76=>252|77=>253|n=>n,fun|n=>n⟩
theorem Xia:SlLaysF0.n6 Tryz.prog sortWr_ren:={
 mixed:=by kernel_rfl
 f6:=⟨Tryz.f184.name,by decide,Tryz.func184.trans (congrArg some (by kernel_rfl))⟩
 f14:=⟨Tryz.f221.name,by decide,Tryz.func221.trans (congrArg some (by kernel_rfl))⟩
 f15:=Tryz.func222.trans (congrArg some (by kernel_rfl))
 f20:=⟨Tryz.f234.name,by decide,Tryz.func234.trans (congrArg some (by kernel_rfl))⟩
 f21:=⟨Tryz.f235.name,by decide,Tryz.func235.trans (congrArg some (by kernel_rfl))⟩
 f22:=⟨Tryz.f236.name,by decide,Tryz.func236.trans (congrArg some (by kernel_rfl))⟩
 f23:=⟨Tryz.f237.name,by decide,Tryz.func237.trans (congrArg some (by kernel_rfl))⟩
 f24:=⟨Tryz.f238.name,by decide,Tryz.func238.trans (congrArg some (by kernel_rfl))⟩
 f25:=⟨Tryz.f239.name,by decide,Tryz.func239.trans (congrArg some (by kernel_rfl))⟩
 f26:=⟨Tryz.f240.name,by decide,Tryz.func240.trans (congrArg some (by kernel_rfl))⟩
 f27:=⟨Tryz.f241.name,by decide,Tryz.func241.trans (congrArg some (by kernel_rfl))⟩
 f28:=Tryz.func242.trans (congrArg some (by kernel_rfl))
 f29:=Tryz.func243.trans (congrArg some (by kernel_rfl))
 f46:=⟨Tryz.f254.name,by decide,Tryz.func254.trans (congrArg some (by kernel_rfl))⟩
 f47:=Tryz.func255.trans (congrArg some (by kernel_rfl))
 f48:=Tryz.func256.trans (congrArg some (by kernel_rfl))
 f49:=⟨Tryz.f257.name,by decide,Tryz.func257.trans (congrArg some (by kernel_rfl))⟩
 f50:=⟨Tryz.f258.name,by decide,Tryz.func258.trans (congrArg some (by kernel_rfl))⟩
 f57:=⟨Tryz.f262.name,by decide,Tryz.func262.trans (congrArg some (by kernel_rfl))⟩
 t0:=Tryz.underlying0
 a0:=Tryz.isAgg0
 z0:=Tryz.sizeOf0
 v0:=Tryz.zeroValue0
 t3:=Tryz.underlying3
 a3:=Tryz.isAgg3
 z3:=Tryz.sizeOf3
 v3:=Tryz.zeroValue3
 t4:=Tryz.underlying4
 a4:=Tryz.isAgg4
 z4:=Tryz.sizeOf4
 v4:=Tryz.zeroValue4
 t5:=Tryz.underlying5
 a5:=Tryz.isAgg5
 z5:=Tryz.sizeOf5
 v5:=Tryz.zeroValue5
 t9:=Tryz.underlying9
 a9:=Tryz.isAgg9
 z9:=Tryz.sizeOf9
 v9:=Tryz.zeroValue9
 t22:=Tryz.underlying37
 a22:=Tryz.isAgg37
 z22:=Tryz.sizeOf37
 v22:=Tryz.zeroValue37
 t25:=Tryz.underlying141
 a25:=Tryz.isAgg141
 z25:=Tryz.sizeOf141
 v25:=Tryz.zeroValue141
 t39:=Tryz.underlying147
 a39:=Tryz.isAgg147
 z39:=Tryz.sizeOf147
 v39:=Tryz.zeroValue147
 t45:=Tryz.underlying230
 a45:=Tryz.isAgg230
 z45:=Tryz.sizeOf230
 v45:=Tryz.zeroValue230
 t46:=Tryz.underlying231
 a46:=Tryz.isAgg231
 z46:=Tryz.sizeOf231
 v46:=Tryz.zeroValue231
 t50:=Tryz.underlying76
 a50:=Tryz.isAgg76
 z50:=Tryz.sizeOf76
 v50:=Tryz.zeroValue76
 t53:=Tryz.underlying237
 a53:=Tryz.isAgg237
 z53:=Tryz.sizeOf237
 v53:=Tryz.zeroValue237
 t55:=Tryz.underlying101
 a55:=Tryz.isAgg101
 z55:=Tryz.sizeOf101
 v55:=Tryz.zeroValue101
 t66:=Tryz.underlying244
 a66:=Tryz.isAgg244
 z66:=Tryz.sizeOf244
 v66:=Tryz.zeroValue244
 t70:=Tryz.underlying248
 a70:=Tryz.isAgg248
 z70:=Tryz.sizeOf248
 v70:=Tryz.zeroValue248
 t76:=Tryz.underlying252
 a76:=Tryz.isAgg252
 z76:=Tryz.sizeOf252
 v76:=Tryz.zeroValue252
 t77:=Tryz.underlying253
 a77:=Tryz.isAgg253
 z77:=Tryz.sizeOf253
 v77:=Tryz.zeroValue253 }
section
variable {P : Program} {a : Act} {w : World} {n : Nat} {e : Env} {ty : TypeId} {pos : String} {af : Array Edge} {g : Option (Nat × Bool)} {d : Option Tmp}
theorem Xl6{T:TypeId}{x:Operand}{v:Value}{zs:List Value}(hf:Fr a n e)(hx:ev e x=some v)(hzs:v.cells.toList=zs) : Ef P ⟨d,.box T x,ty,pos,af,g⟩ a w (fun v w'=>∃ b,v=.pointer (some ⟨b,0,none⟩)∧w.heap.size≤b∧Below w.heap.size w w'∧Blk w' b T zs∧w'.drawn=w.drawn):=by
 subst hzs
 have h:(execOp a.eval ⟨d,.box T x,ty,pos,af,g⟩).run P w=.ok (.value (.pointer (some ⟨w.heap.size,0,none⟩))) (w.alloc (.cells v.cells T)):=by
  simp [execOp,Instr.box,X5v,hf.ev hx]
 refine (Ef.of_run h).mono fun v' w' ⟨e1,e2⟩=>?_
 subst e1;subst e2
 have h9:=X43 w T v.cells.toList;exact ⟨_,rfl,Qb _,(Below.refl _ _).alloc (Qb _) _,by simpa using h9,rfl⟩
theorem Xo0{T:TypeId}{x:Operand}{v:Value}{zs:List Value}(hx:ev e x=some v)(hzs:v.cells.toList=zs) : EfW P ⟨d,.box T x,ty,pos,af,g⟩ n e w (fun v w'=>∃ b,v=.pointer (some ⟨b,0,none⟩)∧w.heap.size≤b∧Below w.heap.size w w'∧Blk w' b T zs∧w'.drawn=w.drawn):=fun a hf=>Xl6 hf hx hzs
theorem X7j{T E sz bytes:Nat}{k:Nat}{parts:List (Nat×Operand)}{vs zs:List Value}(hf:Fr a n e)(hp:evp e parts=some (numb 0 vs))(hT:SliceT P T E)(hi:InfoT P E sz bytes)(hv:(vs.all (fun v=>Nat.beq v.cells.size sz)&&Nat.beq vs.length k&&Nat.ble (k*sz) 1000)=true)(hz:vs.flatMap (fun v=>v.cells.toList)=zs) :
  Ef P ⟨d,.buildSlice T k parts.toArray,ty,pos,af,g⟩ a w (fun v w'=>∃ b,v=.slice (some ⟨b,0,none⟩) k k∧w.heap.size≤b∧Below w.heap.size w w'∧Blk w' b E zs∧w'.drawn=w.drawn):=by
 subst hz
 obtain ⟨i,z,hi1,hi2,hi3,hi4,hi5,hi6⟩:=hi
 simp only [Qd,W1] at hv
 obtain ⟨⟨hv1,hv2⟩,hv3⟩:=hv
 have hk:vs.length=k:=Nat.eq_of_beq_eq_true hv2
 have hk3:k*sz≤1000:=Nat.le_of_ble_eq_true hv3
 have h1:=hf.evp hp
 have hfill:=X6o sz vs 0 ((Array.range (k*sz)).map fun j=>z.cells[j % z.cells.size]!) (fun v hv=>Nat.eq_of_beq_eq_true (hv1 v hv)) (by simp [hk])
 simp only [Nat.zero_mul,List.take_zero,List.nil_append] at hfill
 refine (Ef.of_run (v:=.slice (some ⟨w.heap.size,0,none⟩) k k) (w':=w.alloc (.cells (vs.flatMap fun v=>v.cells.toList).toArray E)) ?_).mono fun v w' ⟨e1,e2⟩=>?_
 ·simp only [execOp,List.map_toArray]
  rw [show (List.map (fun x:Nat×Operand=>match x with|(i,x)=>(i,a.eval x)) parts)=numb 0 vs from h1]
  have h24:¬ (16777216<k*sz):=by omega
  by_cases h0:k*sz=0
  ·have hf0:Instr.fill (fun i=>some (i*sz,sz)) #[] (numb 0 vs)=some (vs.flatMap fun v=>v.cells.toList).toArray:=by
    rw [← hfill,h0]
    congr 1
    simp [Array.range_zero']
   simp [Instr.buildSlice,X0u hT,sizeOf,typeInfo,hi1,hi3,h0,newRow,newObj,Sem.run,Array.range_zero',hf0]
  ·simp [Instr.buildSlice,X0u hT,sizeOf,typeInfo,hi1,hi3,h24,h0,zeroValue,hi2,newRow,newObj,Sem.run,hfill]
 ·subst e1;subst e2
  exact ⟨_,rfl,Qb _,(Below.refl _ _).alloc (Qb _) _,X43 w E _,rfl⟩
theorem Xa2{T E sz bytes:Nat}{k:Nat}{parts:List (Nat×Operand)}{vs zs:List Value}(hp:evp e parts=some (numb 0 vs))(hT:SliceT P T E)(hi:InfoT P E sz bytes)(hv:(vs.all (fun v=>Nat.beq v.cells.size sz)&&Nat.beq vs.length k&&Nat.ble (k*sz) 1000)=true)(hz:vs.flatMap (fun v=>v.cells.toList)=zs) : EfW P ⟨d,.buildSlice T k parts.toArray,ty,pos,af,g⟩ n e w (fun v w'=>∃ b,v=.slice (some ⟨b,0,none⟩) k k∧w.heap.size≤b∧Below w.heap.size w w'∧Blk w' b E zs∧w'.drawn=w.drawn):=fun a hf=>X7j hf hp hT hi hv hz
theorem Xgv(V:Option Vk)(tl:Nat→Bool){id:Nat}{l:List Oper}{Q':Exit→Act→World→Prop}(hm:P.follows .mixedOrders=true)
  (h:∀ w',Below w.heap.size w w'→w.drawn≤w'.drawn→wpS P l.toArray V tl (Q' .normal) l.length (mask l.toArray []) a w') : (Code.region id l.toArray true).wp P Q' a w:=by
 refine wp_region_any hm ?_
 rw [Xbn]
 exact X2m (fun _ _ h=>h) _ _ _ _ (by simpa using h w.drew (Below.refl _ _).drew (Nat.le_succ _))
end
theorem Xrd(w0:World)(x:Wr)(y:Wr) : Ret Tryz.prog 101 [.agg #[vi x.a,vi x.b,.bool x.h],.agg #[vi y.a,vi y.b,.bool y.h]] w0 (fun v w=>v=vi (cmW x y)∧Below w0.heap.size w0 w∧w0.drawn≤w.drawn):=by
 refine enter Tryz.func101 rfl 17 rfl rfl ?_;intro a hf
 have hW:Below w0.heap.size w0 w0:=Below.refl _ _
 have hDr:w0.drawn≤w0.drawn:=Qb _
 refine Zs hf fun _ hK1=>?_;refine Zf (Xo0 (zs:=[vi x.a,vi x.b,.bool x.h]) rfl rfl) ?_;rintro _ w1 ⟨b2,rfl,hl2,hE,hB2,hd⟩;replace hDr:=Q0 hDr (Nat.le_of_eq hd.symm);clear hd;have hlo2:=Q0 hW.size hl2;replace hW:=btr hW hE;clear hE;refine Zf (Xo0 (zs:=[vi y.a,vi y.b,.bool y.h]) rfl rfl) ?_;rintro _ w2 ⟨b3,rfl,hl3,hE,hB3,hd⟩;replace hDr:=Q0 hDr (Nat.le_of_eq hd.symm);clear hd
 have hne2_3:b2≠b3:=by have:=hB2.lt;omega
 have hlo3:=Q0 hW.size hl3;replace hB2:=hB2.below hE;replace hW:=btr hW hE;clear hE;refine Za rfl ?_;refine Zt hK1 fun a hf=>?_;refine Q5 fun _ hK4=>?_;refine Xgv none (fun _=>false) mixed ?_;intro w3 hE hd;replace hDr:=Q0 hDr hd;clear hd;replace hB2:=hB2.below hE;replace hB3:=hB3.below hE;replace hW:=btr hW hE;clear hE;refine Yb hf ?_;refine Yo 0 rfl (fun _=>Vd rfl X0s 0) ?_;refine Ye 1 rfl (X0 rfl X9 (hB2.at 0)) ?_;refine Yo 2 rfl (fun _=>Vd rfl X0s 0) ?_;refine Ye 3 rfl (X0 rfl X9 (hB3.at 0)) ?_;refine Yo 5 rfl (fun _=>Vd rfl X0v 1) ?_;refine Ye 6 rfl (X0 rfl X9 (hB2.at 1)) ?_;refine Yo 7 rfl (fun _=>Vd rfl X0v 1) ?_;refine Ye 8 rfl (X0 rfl X9 (hB3.at 1)) ?_;refine Y1 4 ?_;refine Yz rfl trivial (Vc (Xde _ x.a y.a) X75) ?_;refine Y1 9 ?_;refine Yz rfl trivial (Vc (Xde _ x.b y.b) X75) ?_;refine Y1 10 ?_;refine Yk rfl trivial (Xa2 (k:=2) (vs:=[vi (cmI x.a y.a),vi (cmI x.b y.b)]) (zs:=[vi (cmI x.a y.a),vi (cmI x.b y.b)]) rfl Xj X1g rfl rfl) (fun _ _ ⟨_,_,_,h,_⟩=>h) ?_;rintro _ w4 ⟨b5,rfl,hl5,hE,hB5,hd⟩;replace hDr:=Q0 hDr (Nat.le_of_eq hd.symm);clear hd;have hlo5:=Q0 hW.size hl5;replace hB2:=hB2.below hE;replace hB3:=hB3.below hE;replace hW:=btr hW hE;clear hE;refine Y1 11 ?_;refine Yz rfl trivial (Vc (Xop _ (some ⟨b5,0,none⟩) 2 ([cmI x.a y.a,cmI x.b y.b]) (Rd.of_blk hB5 rfl _ hB5.lt) (by simp)) Xd8) ?_;refine Yo 12 rfl (fun _=>X0l rfl) ?_;refine Yd fun a hf=>?_;refine hK4 _ _ ?_;refine Q6 ?_;refine X5 hf (Xr hf rfl rfl) ?_;exact ⟨by rw [Xn4],hW,hDr⟩
theorem Xci{w w':World}(h:Below w.heap.size w w')(hd:w.drawn≤w'.drawn) : ∃ q os',w'=grow (w.drewN q) os':=by
 refine ⟨w'.drawn-w.drawn,(w'.heap.extract w.heap.size w'.heap.size),?_⟩
 have h1:w.heap++w'.heap.extract w.heap.size w'.heap.size=w'.heap:=by
  apply Array.ext_getElem?
  intro k
  rw [Array.getElem?_append]
  split
  ·rename_i hk
   exact (h.block k hk).symm
  ·rename_i hk
   rw [Array.getElem?_extract]
   have:=h.size
   by_cases h9:k<w'.heap.size
   ·rw [Q4 (by omega)]
    congr 1
    omega
   ·rw [Q3 (by omega),We (by omega)]
 cases w' with
 | mk hp tp dr os out=>
  unfold grow World.drewN
  have e1:=h.os
  have e2:=h.tape
  have e3:=h.output
  dsimp only at e1 e2 e3 h1 hd ⊢
  rw [h1,e1,e2,e3]
  congr 1
  omega
theorem Xqb(x y:Wr)(W:World) : Calls Tryz.prog 101 #[.agg #[.int .i64 x.a,.int .i64 x.b,.bool x.h],.agg #[.int .i64 y.a,.int .i64 y.b,.bool y.h]] W fun e w'=>e=.returned (.int .i64 (cmW x y))∧∃ q os',w'=grow (W.drewN q) os':=
 Calls.mono (Xrd W x y) fun e w ⟨v,h1,h2,h3,h4⟩=>⟨by rw [h1,h2],Xci h3 h4⟩
instance:Inhabited Wr:=⟨wZ⟩
theorem Xiv(x y:Wr) : decide (cmW x y<0)=wlt x y:=by
 unfold cmW cmI wlt
 apply Bool.eq_iff_iff.2
 simp only [Qr,Bool.or_eq_true,Qd,beq_iff_eq]
 by_cases h1:x.a<y.a
 ·simp [h1]
 by_cases h2:y.a<x.a
 ·have:¬ x.a=y.a:=by omega
  simp [h1,h2,this]
 have h3:x.a=y.a:=by omega
 by_cases h4:x.b<y.b
 ·simp [h3,h4]
 by_cases h5:y.b<x.b
 ·simp [h3,h4,h5]
 ·simp [h3,h4,h5]
theorem ltW(x y:Wr) : ltOf cmW x y=wlt x y:=by
 unfold ltOf
 exact Xiv x y
theorem Xwg:SWO (ltOf cmW) where
 irrefl x:=by rw [ltW,X6u];omega
 trans x y z h1 h2:=by rw [ltW] at *;exact Xd2 h1 h2
 ntrans x y z h1 h2:=by rw [ltW,X6u] at *;omega
theorem Xji(blk off size:Nat)(w:World) : CmpLays Tryz.prog 101 #[] encWr 3 cmW blk off size w:=fun _ _ _ _ x y=>Xqb x y _
theorem Xo8(w0:World)(B0:Nat)(A:Option Addr)(c:Nat)(l:List Wr)(ho:Own w0 B0 83 3 encWr A c l)(hl:l.length≤100000000) :
  Ret Tryz.prog 184 [.slice A l.length c,.func (.func 101) #[] #[]] w0 (fun v w=>v=.tuple #[]∧(∃ l',l'.Perm l∧(l'.Pairwise fun x y=>wlt y x=false)∧Own w B0 83 3 encWr A c l')∧w0.grownBy w (Value.slice A l.length c).ownBlock):=by
 by_cases h0:l=[]
 ·subst h0
  refine Calls.mono (AnyF.slices_SortFunc_none Xia A c _ w0) fun e w ⟨e1,e2⟩=>⟨_,e1,?_⟩
  subst e2
  exact ⟨rfl,⟨[],List.Perm.refl _,List.Pairwise.nil,ho⟩,World.grownBy.refl w _⟩
 ·rcases ho.2 with ⟨h1,h2⟩|⟨g,cap,cur,h1,h2,h3,h4,h5,h6,h7⟩
  ·exact absurd (List.eq_nil_of_length_eq_zero h2) h0
  ·injection h1 with h1 _ h1''
   subst h1;subst h1''
   have hfl:(flatK encWr 3 l.toArray).toList=l.flatMap encWr:=X7n Xx l
   have hfs:(flatK encWr 3 l.toArray).size=l.length*3:=by simp
   have hH:HoldsK encWr 3 w0 g 0 l.toArray:=Xrg h3 (by rw [hfs,hfl];exact h7)
   have eg:Enters Tryz.prog 101:=enters_of Tryz.func101 (by kernel_rfl) rfl
   have hcon:=AnyQ.slices_SortFunc Xia 3 Tryz.isAgg83 Tryz.sizeOf83 encWr Xx (fun x v hv=>by simp [encWr] at hv;rcases hv with rfl|rfl|rfl<;>rfl) cmW Xwg _ #[] g 0 c l.toArray w0 eg (Xji _ _ _ _) hH (Qp.1 h3).1 (by simp;omega)
   have hcon2:Calls Tryz.prog 184 #[.slice (some ⟨g,0,none⟩) l.length c,.func (.func 101) #[] #[]] w0 fun e w'=>e=.returned (.tuple #[])∧∃ d' n os,PermIn 0 l.toArray.size l.toArray d'∧SortedIn (ltOf cmW) 0 l.toArray.size d'∧w'=sortWorldK encWr 3 w0 g 0 n d' os:=by
    have e:l.toArray.size=l.length:=by simp
    rw [e] at hcon ⊢
    exact hcon
   refine Calls.mono hcon2 fun e w ⟨e1,d',n,os,hp,hs,e2⟩=>⟨_,e1,rfl,?_⟩
   subst e2
   have hd:d'.size=l.length:=by rw [hp.1];simp
   have hpl:d'.toList.Perm l:=by
    have:=hp.2.2
    rw [← hp.1] at this
    simpa [Qi (show l.length≤d'.size by omega)] using this
   have hfs2:(flatK encWr 3 d').size=l.length*3:=by simp [hd]
   have hfl2:(flatK encWr 3 d').toList=d'.toList.flatMap encWr:=by
    have:=X7n Xx d'.toList
    rw [Array.toArray_toList] at this
    exact this
   have hcur:(flatK encWr 3 d').size≤cur.size:=by
    have:=congrArg List.length h7
    rw [Qn,Xn Xx] at this
    rw [hfs2]
    have h8:cur.toList.length=cur.size:=Array.length_toList
    omega
   have hlen:d'.toList.length=l.length:=by simp [hd]
   refine ⟨⟨d'.toList,hpl,?_,⟨Xn Xx _,.inr ⟨g,c,_,by rw [hlen],h2,Xg8 _ h3,by rw [hlen];omega,h5,by simp [putCells,h6],?_⟩⟩⟩,?_⟩
   ·rw [W0]
    intro i j hi hj hij
    have hi':i<d'.size:=by simpa using hi
    have hj':j<d'.size:=by simpa using hj
    have h9:=hs i j (Qf _) hij (by rw [← hp.1];exact hj')
    rw [ltW] at h9
    rw [getElem!_pos d' i hi',getElem!_pos d' j hj'] at h9
    exact h9
   ·have:=Xg2 cur (flatK encWr 3 d') hcur
    rw [hfs2,hfl2] at this
    rw [hlen];exact this
   ·exact Xcq _
end Go.Proofs.YtpifljegadknkaaGreat
namespace Go.Proofs.YtpifljegadknkaaGreat
open Go.RowKit
theorem X8l:∀ (l:List Wr) (x:Wr),(insW l x).Perm (x::l)
 | [],x=>List.Perm.refl _
 | y::l,x=>by
  unfold insW
  split
  ·exact ((X8l l x).cons y).trans (List.Perm.swap x y l)
  ·exact List.Perm.refl _
theorem Xjl{l:List Wr}(h:WSd l){x y:Wr}(hx:x ∈ l)(hy:y ∈ l)(h1:wlt x y=false)(h2:wlt y x=false) : x=y:=by
 obtain ⟨i,hi,rfl⟩:=List.mem_iff_getElem.1 hx;obtain ⟨j,hj,rfl⟩:=List.mem_iff_getElem.1 hy;have hp:=W0.1 h
 rcases Nat.lt_trichotomy i j with h9|h9|h9
 ·rw [hp i j hi hj h9] at h1;cases h1
 ·subst h9;rfl
 ·rw [hp j i hj hi h9] at h2;cases h2
theorem Xas{ws l:List Wr}{x:Wr}(hp:l.Perm (ws++[x]))(hs:l.Pairwise fun x y=>wlt y x=false)(hw:WSd ws)(ha:∀ y ∈ ws,¬ (y.a=x.a∧y.b=x.b)) : l=insW ws x:=by
 have hi:=Xd0 hw ha
 have hpp:l.Perm (insW ws x):=(hp.trans (List.perm_append_singleton x ws)).trans (X8l ws x).symm
 refine List.Perm.eq_of_pairwise (le:=fun x y=>wlt y x=false) (fun a b h1 h2 h3 h4=>?_) hs (hi.imp fun {a b} h=>?_) hpp
 ·exact Xjl hi (hpp.mem_iff.1 h1) h2 h4 h3
 ·rw [X6u]
  rw [X3k] at h
  omega
theorem Xht{ws:List Wr}{p q:Int}(h:fdW ws p q<0){x:Bool} : ∀ y ∈ ws,¬ (y.a=(⟨min p q,max p q,x⟩ : Wr).a∧y.b=(⟨min p q,max p q,x⟩ : Wr).b):=fun y hy h9=>by
 have h1:=Xir h y hy
 have h2:isW p q y=true:=X3j.2 h9
 rw [h2] at h1
 cases h1
def Dgm(w:World)(b B0:Nat)(A0:Option Addr)(c0:Nat)(A1:Option Addr)(c1 m:Nat)(d:Dg) : Prop:=
 Blk w b 39 [.int .i64 d.n,.slice A0 m c0,.slice A1 d.ws.length c1,.int .i64 d.t,.int .i64 d.r]∧Own w B0 81 2 encNd A0 c0 d.ns∧Own w B0 83 3 encWr A1 c1 d.ws∧m=d.ns.length
def ctO(ws:List Wr)(p q:Int) : List Wr:=if 0≤fdW ws p q then ctW ws (fdW ws p q).toNat else ws
theorem Xtb(l:List Wr)(k:Int) : (l.filter fun x=>!(x.a==k||x.b==k))=dpW l k:=by
 unfold dpW
 congr 1
 funext x
 simp only [bne,Bool.not_or]
theorem X7v{ws:List Wr}{p q:Int}(h:0≤fdW ws p q) : ctO ws p q=ctW ws (fdW ws p q).toNat:=Q4 h
theorem Xjo{ws:List Wr}{p q:Int}(h:¬ 0≤fdW ws p q) : ctO ws p q=ws:=Q3 h
theorem Xkv{ws:List Wr}{p q:Int}(h:tyW ws p q=0) : fdW ws p q<0:=by
 unfold tyW at h
 split at h
 ·assumption
 ·split at h<;>omega
theorem Xfo{ws:List Wr}{p q:Int}(h:tyW ws p q≠0) : 0≤fdW ws p q:=by
 unfold tyW at h
 split at h
 ·exact absurd rfl h
 ·omega
def tgI(d:Dg)(p q:Int) : Dg:=if tyW d.ws p q=1 then d else tgD d p q
theorem Xuq{d:Dg}{p q:Int}(h:tyW d.ws p q=0) : tgI d p q = { d with ws:=jnW d.ws p q true,r:=wr (d.r+1) }:=by
 unfold tgI
 rw [Q3 (by omega)]
 exact Xrz (by have:=Xkv h;omega)
theorem Xus{d:Dg}{p q:Int}(h:tyW d.ws p q=1) : tgI d p q=d:=Q4 h
theorem Xsp{d:Dg}{p q:Int}(h0:tyW d.ws p q≠0)(h1:tyW d.ws p q≠1) : tgI d p q = { d with ws:=ctO d.ws p q,r:=wr (d.r-1) }:=by
 unfold tgI
 rw [Q3 h1,Xuc (Xfo h0),X7v (Xfo h0)]
theorem Xm6{ws:List Wr}{p q:Int}(h:0≤fdW ws p q) : tyW ws p q=if (ws.getD (fdW ws p q).toNat wZ).h=true then 2 else 1:=by
 unfold tyW
 rw [Q3 (by omega)]
theorem Xqf{ws:List Wr}(hw:WSd ws){p q:Int} : fdW (ctO ws p q) p q<0:=by
 by_cases h:0≤fdW ws p q
 ·obtain ⟨w,h1,h2,_⟩:=Xbi h
  rw [X7v h,Xf3 hw h1 h2]
  omega
 ·rw [Xjo h];omega
theorem Xr5{ws:List Wr}(hw:WSd ws)(p q:Int) : WSd (ctO ws p q):=by
 unfold ctO
 split
 ·exact Xc9 hw _
 ·exact hw
theorem Xme(ws:List Wr)(p q:Int) : (ctO ws p q).length≤ws.length:=by
 unfold ctO
 split
 ·exact (X3t _ _).length_le
 ·exact Qb _
theorem Xu8{d:Dg}{p q:Int}{x:Bool}(h:tyW d.ws p q=0) : lkD d p q x = { d with ws:=jnW d.ws p q x }:=Xrp (Xkv h)
theorem Xtp{d:Dg}{p q:Int}{x:Bool}(h:(tyW d.ws p q==1&&!x)=true) : lkD d p q x=d:=by
 rw [Qd,beq_iff_eq] at h
 have h0:=Xfo (ws:=d.ws) (p:=p) (q:=q) (by omega)
 have h2:=Xm6 h0
 cases hh:(d.ws.getD (fdW d.ws p q).toNat wZ).h with
 | true=>rw [hh] at h2;simp at h2;omega
 | false=>
  have hx:x=false:=by simpa using h.2
  subst hx
  exact Xsx (by omega) (by rw [hh];rfl) (by rw [hh];rfl)
theorem Xsk{d:Dg}{p q:Int}{x:Bool}(h:(tyW d.ws p q==2&&x)=true) : lkD d p q x = { d with ws:=ctO d.ws p q,r:=wr (d.r-2) }:=by
 rw [Qd,beq_iff_eq] at h
 have h0:=Xfo (ws:=d.ws) (p:=p) (q:=q) (by omega)
 have h2:=Xm6 h0
 cases hh:(d.ws.getD (fdW d.ws p q).toNat wZ).h with
 | false=>rw [hh] at h2;simp at h2;omega
 | true=>rw [Xu6 (by omega) (by rw [hh,h.2];rfl),X7v h0]
theorem Xtk{d:Dg}{p q:Int}{x:Bool}(h0:tyW d.ws p q≠0)(h1:(tyW d.ws p q==1&&!x)=false)(h2:(tyW d.ws p q==2&&x)=false) : lkD d p q x = { d with ns:=adN d.ns (min p q) 4,ws:=jnW (ctO d.ws p q) p q false,r:=wr (d.r-1) }:=by
 have g0:=Xfo h0
 have g2:=Xm6 g0
 rw [X7v g0]
 cases hh:(d.ws.getD (fdW d.ws p q).toNat wZ).h with
 | false=>
  rw [hh] at g2
  have g3:tyW d.ws p q=1:=by simpa using g2
  have hx:x=true:=by rw [g3] at h1;simpa using h1
  subst hx
  exact Xpp (by omega) (by rw [hh];rfl) (by rw [hh];rfl)
 | true=>
  rw [hh] at g2
  have g3:tyW d.ws p q=2:=by simpa using g2
  have hx:x=false:=by rw [g3] at h2;simpa using h2
  subst hx
  exact Xpp (by omega) (by rw [hh];rfl) (by rw [hh];rfl)
section
variable {α β : Type} {w w' : World} {b B0 B1 : Nat} {A A' : Option Addr} {l : List (Option Addr)} {E E' T : TypeId} {sz sz' c c' : Nat} {enc : α → List Value} {enc' : β → List Value} {r : List α} {r' : List β} {bcs : List Value}
theorem X0k(ho:Own w B0 E' sz' enc' A' c' r')(hE:Nat.beq E' E=false) : ∀ k cs fz,ownB A'=some k→w.heap[k]? = some (.cells cs E fz)→False:=fun k cs fz hk hh=>by
 obtain ⟨_,_,cs',fz',h3⟩:=ho.block (k:=k) (by rw [X4g];exact hk)
 rw [h3] at hh;injection hh with hh;injection hh with _ e _;subst e;simp at hE
theorem Own.tu(h:Own w B0 E sz enc A c r)(hts:TurnS (SB b l) w w')(hb:Blk w b T bcs)(h1:Nat.beq T E=false)(hr:∀ A' ∈ l,∀ k cs fz,ownB A'=some k→w.heap[k]? = some (.cells cs E fz)→False) : Own w' B0 E sz enc A c r:=by
 refine ⟨h.1,?_⟩
 rcases h.2 with h2|⟨g,cap,cur,e1,e2,e3,e4⟩
 ·exact .inl h2
 ·refine .inr ⟨g,cap,cur,e1,e2,?_,e4⟩
  have hlt:g<w.heap.size:=(Qp.1 e3).1
  rw [hts.block g hlt fun hk=>?_]
  ·exact e3
  ·rcases hk with e|⟨A',hA,hk⟩
   ·subst e
    unfold Blk at hb
    rw [hb] at e3;injection e3 with e3;injection e3 with _ e _;subst e;simp at h1
   ·exact hr A' hA g _ _ hk e3
theorem Rd.tu{B:Nat}(h:Rd w B E enc A r)(hts:TurnS (SB b l) w w')(hb:Blk w b T bcs)(h1:Nat.beq T E=false)(hr:∀ A' ∈ l,∀ k cs fz,ownB A'=some k→w.heap[k]? = some (.cells cs E fz)→False) : Rd w' B E enc A r:=fun hl=>by
 obtain ⟨g,off,cs,fz,e1,e2,e3,e4⟩:=h hl
 refine ⟨g,off,cs,fz,e1,e2,?_,e4⟩
 have hlt:g<w.heap.size:=(Qp.1 e3).1
 rw [hts.block g hlt fun hk=>?_]
 ·exact e3
 ·rcases hk with e|⟨A',hA,hk⟩
  ·subst e
   unfold Blk at hb
   rw [hb] at e3;injection e3 with e3;injection e3 with _ e _;subst e;simp at h1
  ·exact hr A' hA g _ _ hk e3
end
theorem X64:∀ {ws:List Wr} {k:Int},(∀ w ∈ ws,w.a<w.b)→cnW ws k=((nearW ws k).length:Int)
 | [],_,_=>rfl
 | w::ws,k,h=>by
  have ih:=X64 (ws:=ws) (k:=k) fun x hx=>h x (by simp [hx])
  have hw:=h w (by simp)
  unfold cnW nearW at ih ⊢
  rw [List.filter_cons,List.filterMap_cons]
  by_cases h1:k=w.a
  ·have e:otW k w=some w.b:=Q4 h1
   have e2:(w.a==k||w.b==k)=true:=by simp [h1]
   rw [e,e2]
   simp only [if_true,Qs]
   omega
  ·by_cases h2:k=w.b
   ·have e:otW k w=some w.a:=by unfold otW;rw [Q3 h1,Q4 h2]
    have e2:(w.a==k||w.b==k)=true:=by simp [h2]
    rw [e,e2]
    simp only [if_true,Qs]
    omega
   ·have e:otW k w=none:=by unfold otW;rw [Q3 h1,Q3 h2]
    have e2:(w.a==k||w.b==k)=false:=by simp [Ne.symm h1,Ne.symm h2]
    rw [e,e2]
    simp only [Bool.false_eq_true,if_false]
    exact ih
theorem Xch{d:Dg}(hG:goodD d=true){a v:Int}(hv:v ∈ nearW d.ws a)(hs:spI d.ns v=false) : ∀ w ∈ dpW d.ws a,w.a≠v∧w.b≠v:=by
 have hD:=X15 hG;have hr:=X2u hD hv
 have hx:d.ns[v.toNat]? = some (d.ns.getD v.toNat nZ):=Xb hr.2
 have hq:=(X4d hG).2.2.1 v.toNat hr.2
 have hvt:((v.toNat:Nat) : Int)=v:=by omega
 rw [hvt] at hq
 obtain ⟨w0,hw0,ho⟩:=X67.1 hv;have hab:=hD.w.l
 have hk:(d.ns.getD v.toNat nZ).k≠3:=fun h3=>by
  have:spI d.ns v=true:=by
   unfold spI
   rw [h3,X0e.2 ⟨hr.1,by omega⟩]
   rfl
  rw [this] at hs;cases hs
 have htouch:(w0.a==v||w0.b==v)=true:=by
  rcases X4z ho with ⟨_,h2⟩|⟨_,h2⟩<;>simp [h2]
 have hmem:w0 ∈ d.ws.filter (fun w=>w.a==v||w.b==v):=List.mem_filter.2 ⟨hw0,htouch⟩
 have hone:cnW d.ws v=1:=by
  unfold ndQ at hq
  split at hq
  ·simp only [Qd,beq_iff_eq] at hq
   have h0:=hq.2
   unfold cnW at h0
   have:=List.length_pos_of_mem hmem
   omega
  ·split at hq
   ·simp only [Qd,beq_iff_eq] at hq
    exact hq.2
   ·simp only [Qd,beq_iff_eq] at hq
    exact absurd hq.1 hk
 intro w hw;have hw2:=List.mem_filter.1 hw
 have hna:w.a≠a∧w.b≠a:=by simpa using hw2.2
 by_cases ht:(w.a==v||w.b==v)=true
 ·exfalso
  have hmw:w ∈ d.ws.filter (fun w=>w.a==v||w.b==v):=List.mem_filter.2 ⟨hw2.1,ht⟩
  unfold cnW at hone
  obtain ⟨z,hz⟩:=List.length_eq_one_iff.1 (show (d.ws.filter (fun w=>w.a==v||w.b==v)).length=1 by omega)
  rw [hz] at hmem hmw
  have e1:=Qm.1 hmem
  have e2:=Qm.1 hmw
  subst e1
  subst e2
  rcases X4z ho with ⟨h2,_⟩|⟨h2,_⟩
  ·exact hna.1 h2.symm
  ·exact hna.2 h2.symm
 ·simpa using ht
theorem Xdi{ns:List Nd}{a v:Int}(hv:0≤v)(ha:0≤a)(hne:v≠a) : spI (dpN ns a) v=spI ns v:=by
 unfold spI
 rw [X1m]
 unfold dpN
 rw [Qa,List.getElem?_set_ne (by omega),← Qa]
theorem Xa3{d:Dg}(hD:InD d){a v:Int}(hv:v ∈ nearW d.ws a) : v≠a:=by
 obtain ⟨w0,hw0,ho⟩:=X67.1 hv
 have:=hD.w.l w0 hw0
 rcases X4z ho with ⟨_,h2⟩|⟨_,h2⟩<;>omega
theorem X9m{ws:List Wr}{u v:Int}(h:(∀ w ∈ ws,w.a≠u∧w.b≠u)∨∀ w ∈ ws,w.a≠v∧w.b≠v) : fdW ws u v<0:=by
 have:fdW ws u v = -1:=Xn8 fun w hw=>by
  cases hh:isW u v w with
  | false=>rfl
  | true=>
   have h2:=X3j.1 hh
   rcases h with h|h
   ·have:=h w hw;omega
   ·have:=h w hw;omega
 omega
theorem Xko{d:Dg}(hG:goodD d=true){a u v:Int}(ha:0≤a)(hu:u ∈ nearW d.ws a)(hv:v ∈ nearW d.ws a)(h:(spI (id0 d a).ns u&&spI (id0 d a).ns v)=false) : fdW (id0 d a).ws u v<0:=by
 have hD:=X15 hG
 have ru:=X2u hD hu
 have rv:=X2u hD hv
 have e1:spI (id0 d a).ns u=spI d.ns u:=Xdi ru.1 ha (Xa3 hD hu)
 have e2:spI (id0 d a).ns v=spI d.ns v:=Xdi rv.1 ha (Xa3 hD hv)
 rw [e1,e2,Bool.and_eq_false_iff] at h
 rcases h with h|h
 ·exact X9m (.inl (Xch hG hu h))
 ·exact X9m (.inr (Xch hG hv h))
theorem Xf5{ws:List Wr}{k:Int}{j:Nat}(hj:j<(nearW ws k).length) : (nearW ws k).getD j 0 ∈ nearW ws k:=Qe (Xb (d:=0) hj)
theorem Xtr{d:Dg}(hD:InD d){a:Int}(h:(!(spI d.ns a)||(d.ns.getD a.toNat nZ).p != 0||cnW d.ws a != 2)=true) : idC d a=false:=by
 rw [X64 hD.w.l] at h
 rw [Bool.or_eq_true] at h
 rcases h with h|h
 ·exact (Xco h).1
 ·exact Xgm h
theorem Xqk{d:Dg}(hD:InD d){a:Int}(h:(!(spI d.ns a)||(d.ns.getD a.toNat nZ).p != 0||cnW d.ws a != 2)=false) : idC d a=true∧(nearW d.ws a).length=2∧0≤a∧a.toNat<d.ns.length:=by
 rw [X64 hD.w.l] at h
 rw [Bool.or_eq_false_iff] at h
 have h1:=Xao h.1;have h2:=Xf8 h1 h.2;have h3:=X11 h1.1;exact ⟨h2.1,h2.2,h3.1,h3.2.1⟩
theorem Xay(w0:World)(bV B0:Nat)(A0:Option Addr)(c0:Nat)(A1:Option Addr)(c1 m0:Nat)(d:Dg)(a7:Dgm w0 bV B0 A0 c0 A1 c1 m0 d)(aD:B0≤w0.heap.size)(p:Int)(f:Int)(hp:0≤p∧p.toNat<d.ns.length)(a8:PhN d.ns)(aE:-8≤f∧f≤900) : Ret Tryz.prog 201 [.pointer (some ⟨bV,0,none⟩),vi p,vi f] w0 (fun v w=>∃ A c,TurnS (SB bV [A0,A1]) w0 w∧Us (SB bV [A0,A1]) w0 A∧Dgm w bV B0 A0 c0 A c m0 ({ d with ns:=adN d.ns p f } : Dg)):=by
 obtain ⟨e,b,g,a6⟩:=a7;have aC:=e.lt
 have aA:Us (SB bV [A0,A1]) w0 A0:=SB.us (by simp)
 have aB:Us (SB bV [A0,A1]) w0 A1:=SB.us (by simp)
 have aF:=X1i a8 p.toNat;refine enter Tryz.func201 rfl 25 rfl rfl ?_;intro a hf
 have hW:TurnS (SB bV [A0,A1]) w0 w0:=TurnS.refl _ _
 refine X05 none (fun j=>[19].contains j) mixed ?_;intro w1 hE;have e:=e.below hE;have b:=b.below hE;have g:=g.below hE;have hW:=tsbel hW hE;refine Yb hf<|Yo 0 rfl (fun _=>X3 rfl)<|Yo 1 rfl (fun _=>Xw rfl)<|Yo 2 rfl (fun _=>Vd rfl Xi 1)<|Ye 3 rfl (X0 rfl Xz (e.at 1))<|Yo 4 rfl (fun _=>X3 rfl)<|Yo 5 rfl (fun _=>X3 rfl)<|Yo 6 rfl (fun _=>Xw rfl)<|Yo 7 rfl (fun _=>Vd rfl Xi 1)<|Ye 8 rfl (X0 rfl Xz (e.at 1))<|Yo 9 rfl (fun _=>X3 rfl) ?_;refine Yo 10 rfl (fun _=>Xg (k:=p.toNat) rfl rfl Xo X07 b a6 (by omega) (by omega))<|Yo 11 rfl (fun _=>X0z rfl X04 (m':=p.toNat*2+1) rfl)<|Ye 12 rfl (X0 rfl X9 (X0d b Xt (Xb (d:=nZ) (by omega)) 1 rfl))<|Yo 13 rfl (fun _=>X3 rfl)<|Yo 14 rfl (fun _=>Xu rfl rfl (by omega) (by omega))<|Yo 15 rfl (fun _=>Xu rfl rfl (by omega) (by omega))<|Yo 16 rfl (fun _=>Vx (X3y rfl rfl rfl) (Xwb (by omega)))<|Yo 17 rfl (fun _=>Xg (k:=p.toNat) rfl rfl Xo X07 b a6 (by omega) (by omega))<|Yo 18 rfl (fun _=>X0z rfl X04 (m':=p.toNat*2+1) rfl)<|Y1 19 ?_;refine Yh rfl trivial rfl (X0g (enc:=encNd) (l:=d.ns) (vs:=[vi (((d.ns.getD p.toNat nZ).p+f) % 8)]) (x0:=(d.ns.getD p.toNat nZ)) (u:=(⟨(d.ns.getD p.toNat nZ).k,(((d.ns.getD p.toNat nZ).p+f) % 8)⟩ : Nd)) (k:=p.toNat) (j:=1) (n1:=1) rfl rfl X08 b Xt rfl rfl rfl rfl (by decide) (Xb (d:=nZ) (by omega)) rfl) ?_;rintro _ w2 ⟨m,hg⟩;have i:=b;have e:=e.appT i hg rfl;have g:=g.appT i hg rfl;have hW:=tsrow hW hg aA
 clear i hg;clear b;have b:=m;clear m;refine Yd fun a hf=>?_;refine X13 hf (X1n rfl) ?_;exact ⟨A1,c1,hW,aB,⟨e,b,g,(a6.trans List.length_set.symm)⟩⟩
theorem Xdn(w0:World)(bV B0:Nat)(A0:Option Addr)(c0:Nat)(A1:Option Addr)(c1 m0:Nat)(d:Dg)(aF:Dgm w0 bV B0 A0 c0 A1 c1 m0 d)(aG:B0≤w0.heap.size)(p:Int)(q:Int)(x:Bool)(aH:WSd d.ws)(hab:fdW d.ws p q<0)(aN:d.ws.length≤90000000) : Ret Tryz.prog 130 [.pointer (some ⟨bV,0,none⟩),vi p,vi q,.bool x] w0 (fun v w=>∃ A c,TurnS (SB bV [A0,A1]) w0 w∧Us (SB bV [A0,A1]) w0 A∧Dgm w bV B0 A0 c0 A c m0 ({ d with ws:=jnW d.ws p q x } : Dg)):=by
 obtain ⟨b,f,j,aI⟩:=aF;have aL:=b.lt
 have aO:Us (SB bV [A0,A1]) w0 A0:=SB.us (by simp)
 have aA:Us (SB bV [A0,A1]) w0 A1:=SB.us (by simp)
 refine enter Tryz.func130 rfl 30 rfl rfl ?_;intro a hf
 have i:TurnS (SB bV [A0,A1]) w0 w0:=TurnS.refl _ _
 refine Zs hf fun _ aJ=>?_;refine Zm rfl<|Zm rfl<|Ze (Xw rfl)<|Ze (Vd rfl Xm 2)<|Ze (X0 rfl X0j (b.at 2))<|Zm rfl<|Zm rfl<|Ze (Xjz rfl rfl)<|Zm rfl<|Zm rfl ?_;refine Ze (Xqy rfl rfl)<|Zm rfl<|Ze (X16 (ps:=[(0,vi (min p q)),(1,vi (max p q)),(2,.bool x)]) (cs:=[vi (min p q),vi (max p q),.bool x]) rfl (fun _=>by first|rfl|kernel_rfl))<|Zf (Xp (k:=1) (vs:=[.agg #[vi (min p q),vi (max p q),.bool x]]) (zs:=[vi (min p q),vi (max p q),.bool x]) rfl Xv X0x rfl rfl) ?_;rintro _ w1 ⟨b4,rfl,aB,hE,a6⟩;have aM:=Q0 i.size aB;have m:=j.away aB;have b:=b.below hE;have f:=f.below hE;have j:=j.below hE;have i:=tsbel i hE;refine Zf (X0r (enc:=encWr) (l:=(d.ws)) (l2:=([(⟨min p q,max p q,x⟩ : Wr)])) (B0:=B0) rfl rfl Xv X0x Xx X1c j (Rd.of_blk a6 rfl _ a6.lt) (by simp only [maxLen];simp;omega) (by simp;omega) (Q0 aG i.size)) ?_;rintro _ w2 ⟨A6,c6,rfl,g,o,a7⟩
 have e:Own _ B0 83 3 encWr _ _ (d.ws):=j
 have aE:=a7 _ a6.lt m;have aC:=Us.app aA a7 i.size;clear a7;have b:=b.appT e o rfl;have f:=f.appT e o rfl;have i:=tsrow i o aA;clear e o;refine Ze (Xw rfl)<|Ze (Vd rfl Xm 2)<|Zo (X12 (vs:=[.slice A6 (d.ws++([(⟨min p q,max p q,x⟩ : Wr)])).length c6]) (l':=[vi d.n,.slice A0 m0 c0,.slice A6 (d.ws++([(⟨min p q,max p q,x⟩ : Wr)])).length c6,vi d.t,vi d.r]) rfl rfl X19 b rfl rfl rfl rfl rfl) ?_;rintro _ w3 ⟨ho,hb⟩;have h:=b;have f:=f.onlyT ho h rfl;have g:=g.onlyT ho h rfl;have i:=tsonly i ho (.inl (.inl rfl));have b:=hb;refine Zt aJ fun a hf=>?_;refine Zr hf<|Zm rfl<|Ze (Xw rfl)<|Ze (Vd rfl Xm 2)<|Ze (X0 rfl X0j (b.at 2))<|Zf (Vc (Xo8 _ B0 A6 c6 (d.ws++([(⟨min p q,max p q,x⟩ : Wr)])) g (by simp;omega)) Xd3) ?_;rintro _ w4 ⟨rfl,⟨aK,u,y,B⟩,o⟩;have e:=g;have b:=b.appT e o rfl;have f:=f.appT e o rfl;have i:=tsrow i o aC
 clear e o;clear g;have g:=B;clear B;refine Zn fun a hf=>?_;refine X13 hf (X1n rfl) ?_
 have aD:aK=jnW d.ws p q x:=Xas u y aH (Xht hab)
 subst aD
 have a8:(d.ws++[(⟨min p q,max p q,x⟩ : Wr)]).length=(jnW d.ws p q x).length:=by rw [X4e,Qh];rfl
 rw [a8] at b
 exact ⟨A6,c6,i,aC,⟨b,f,g,aI⟩⟩
theorem Xhy(w0:World)(bV B0:Nat)(A0:Option Addr)(c0:Nat)(A1:Option Addr)(c1 m0:Nat)(d:Dg)(aC:Dgm w0 bV B0 A0 c0 A1 c1 m0 d)(aD:B0≤w0.heap.size)(p:Int)(q:Int)(aH:d.ws.length≤90000000) : Ret Tryz.prog 131 [.pointer (some ⟨bV,0,none⟩),vi p,vi q] w0 (fun v w=>∃ A c,TurnS (SB bV [A0,A1]) w0 w∧Us (SB bV [A0,A1]) w0 A∧Dgm w bV B0 A0 c0 A c m0 ({ d with ws:=ctO d.ws p q } : Dg)):=by
 obtain ⟨b,f,e,a6⟩:=aC;have aG:=b.lt
 have aI:Us (SB bV [A0,A1]) w0 A0:=SB.us (by simp)
 have a7:Us (SB bV [A0,A1]) w0 A1:=SB.us (by simp)
 have aA:=X6x d.ws p q;refine enter Tryz.func131 rfl 26 rfl rfl ?_;intro a k
 have j:TurnS (SB bV [A0,A1]) w0 w0:=TurnS.refl _ _
 refine Zs k fun _ aE=>?_;refine Zm rfl<|Ze (Xw rfl)<|Ze (X02 (l:=[vi d.n,.slice A0 m0 c0,.slice A1 d.ws.length c1,vi d.t,vi d.r]) rfl X2 (b.at 0) rfl)<|Zm rfl<|Zm rfl<|Zf (Vc (Xeu _ d m0 a6 A0 c0 f.rd.top A1 c1 e.rd.top e.cap p q (by omega)) X77) ?_;rintro _ w1 ⟨rfl,hE⟩;have b:=b.below hE;have f:=f.below hE;have e:=e.below hE;have j:=tsbel j hE;refine Za rfl<|Zx aE fun a k _ aF=>?_;refine Zm rfl<|Ze (X4m rfl rfl)<|Zt aF fun a k=>?_
 refine Xh k rfl (fun g=>?_) (fun g=>?_)
 ·have aB:=g;have g:=Q2 g;have a8:=X7v g;refine Zr k<|Zm rfl<|Zm rfl<|Ze (Xw rfl)<|Ze (Vd rfl Xm 2)<|Ze (X0 rfl X0j (b.at 2))<|Zm rfl<|Zm rfl<|Ze (Xu rfl rfl (by omega) (by omega))<|Zf (Vc (Xoa _ A1 c1 B0 d.ws e (Q0 aD j.size) (fdW d.ws p q) ⟨by omega,aA⟩ (by omega)) Xeg) ?_;rintro _ w2 ⟨rfl,m,hg⟩;have i:=e;have b:=b.appT i hg rfl;have f:=f.appT i hg rfl;have j:=tsrow j hg a7
  clear i hg;clear e;have e:=m;clear m;refine Ze (Xw rfl)<|Ze (Vd rfl Xm 2)<|Zo (X12 (vs:=[.slice A1 (ctW d.ws (fdW d.ws p q).toNat).length c1]) (l':=[vi d.n,.slice A0 m0 c0,.slice A1 (ctW d.ws (fdW d.ws p q).toNat).length c1,vi d.t,vi d.r]) rfl rfl X19 b rfl rfl rfl rfl rfl) ?_;rintro _ w3 ⟨ho,hb⟩;have o:=b;have f:=f.onlyT ho o rfl;have e:=e.onlyT ho o rfl;have j:=tsonly j ho (.inl (.inl rfl));have b:=hb;refine Zn fun a k=>?_;refine X13 k (X1n rfl) ?_
  rw [a8]
  exact ⟨A1,c1,j,a7,⟨b,f,e,a6⟩⟩
 have aB:=g;have g:=Q1 g
 have a8:=Xjo (ws:=d.ws) (p:=p) (q:=q) (by have:=g;omega)
 refine Q7<|X13 k (X1n rfl) ?_
 rw [a8]
 exact ⟨A1,c1,j,a7,⟨b,f,e,a6⟩⟩
theorem Xtt(w0:World)(x:Wr)(k:Int)(ba:Nat)(d:Blk w0 ba 3 [vi k]) : Ret Tryz.prog 209 [.agg #[vi x.a,vi x.b,.bool x.h],.pointer (some ⟨ba,0,none⟩)] w0 (fun v w=>v=.bool (x.a==k||x.b==k)∧Below w0.heap.size w0 w):=by
 have a7:=d.lt;refine enter Tryz.func209 rfl 14 rfl rfl ?_;intro a e
 have hW:=bz w0
 refine Zs e fun _ a8=>?_;refine Zf (X0h (zs:=[vi x.a,vi x.b,.bool x.h]) rfl rfl) ?_;rintro _ w1 ⟨b2,rfl,aA,hE,a6⟩;have aC:=Q0 hW.size aA;have d:=d.below hE;have hW:=btr hW hE;refine Za rfl<|ZX a8 fun a e _ aB=>?_;refine X09 (fun a w=>Fr a 14 [(3,.bool ((x.a==k)||(x.b==k)))]∧w1=w) ?_ ?_
 ·refine Zr e<|Ze (Vd rfl X0s 0)<|Ze (X0 rfl X9 (a6.at 0))<|Ze (X0 rfl X9 (d.at 0))<|Ze (X0a rfl rfl)<|Zm rfl ?_
  refine Zg 8 rfl (fun c=>?_) (fun c=>?_)
  ·refine Zp (gP c) ?_;refine Zp (gP c) ?_;refine Zp (gP c) ?_;refine Zp (gP c) ?_;refine Ze (X8 rfl c rfl)<|Za rfl ?_;refine Zn fun a e=>?_;exact ⟨e.sub ⟨X1 rfl (by first|rfl|(simp only [c,bs];done)|simp [c]),trivial⟩,rfl⟩
  refine Zv (gW c) (Vd rfl X0v 1) ?_;refine Zv (gW c) (X0 rfl X9 (a6.at 1)) ?_;refine Zv (gW c) (X0 rfl X9 (d.at 0)) ?_;refine Zv (gW c) (X0a rfl rfl) ?_;refine Ze (Xe rfl c rfl)<|Za rfl ?_;refine Zn fun a e=>?_;exact ⟨e.sub ⟨X1 rfl (by first|rfl|(simp only [c,bs];done)|simp [c]),trivial⟩,rfl⟩
 rintro a _ ⟨e,rfl⟩;refine aB _ _ ?_
 refine Q6 (X5 e (Xr e rfl rfl) ?_)
 exact ⟨rfl,hW⟩
theorem X91(w0:World)(bV B0:Nat)(A0:Option Addr)(c0:Nat)(A1:Option Addr)(c1 m0:Nat)(d:Dg)(a8:Dgm w0 bV B0 A0 c0 A1 c1 m0 d)(aA:B0≤w0.heap.size)(k:Int)(hk:0≤k∧k.toNat<d.ns.length)(aI:d.ws.length≤90000000) : Ret Tryz.prog 174 [.pointer (some ⟨bV,0,none⟩),vi k] w0 (fun v w=>∃ A c,TurnS (SB bV [A0,A1]) w0 w∧Us (SB bV [A0,A1]) w0 A∧Dgm w bV B0 A0 c0 A c m0 (id0 d k)):=by
 obtain ⟨e,f,g,a6⟩:=a8;have aG:=e.lt
 have aB:Us (SB bV [A0,A1]) w0 A0:=SB.us (by simp)
 have a7:Us (SB bV [A0,A1]) w0 A1:=SB.us (by simp)
 refine enter Tryz.func174 rfl 20 rfl rfl ?_;intro a hf
 have o:TurnS (SB bV [A0,A1]) w0 w0:=TurnS.refl _ _
 refine Zs hf fun _ aC=>?_;refine Zf (X0h (zs:=[vi k]) rfl rfl) ?_;rintro _ w1 ⟨b4,rfl,aD,q,p⟩;have aH:=Q0 o.size aD;have e:=e.below q;have f:=f.below q;have g:=g.below q;have o:=tsbel o q;refine ZX aC fun a hf _ aE=>?_;refine X05 none (fun j=>[7].contains j) mixed ?_;intro w2 q;have e:=e.below q;have p:=p.below q;have f:=f.below q;have g:=g.below q;have o:=tsbel o q;refine Yb hf<|Yo 0 rfl (fun _=>X3 rfl)<|Yo 1 rfl (fun _=>Xw rfl)<|Yo 2 rfl (fun _=>Vd rfl Xi 1)<|Ye 3 rfl (X0 rfl Xz (e.at 1))<|Ye 4 rfl (X0 rfl X9 (p.at 0))<|Yo 5 rfl (fun _=>X16 (ps:=[]) (cs:=[vi 0,vi 0]) rfl (fun _=>by first|rfl|kernel_rfl))<|Yo 6 rfl (fun _=>Xg (k:=k.toNat) rfl rfl Xo X07 f a6 (by omega) (by omega))<|Y1 7 ?_;refine Yh rfl trivial rfl (X0g (enc:=encNd) (l:=d.ns) (vs:=[vi 0,vi 0]) (x0:=(d.ns.getD k.toNat nZ)) (u:=(⟨0,0⟩ : Nd)) (k:=k.toNat) (j:=0) (n1:=2) rfl rfl X07 f Xt rfl rfl rfl rfl (by decide) (Xb (d:=nZ) (by omega)) rfl) ?_;rintro _ w3 ⟨m,y⟩;have i:=f;have e:=e.appT i y rfl;have p:=p.appT i y rfl;have g:=g.appT i y rfl;have o:=tsrow o y aB
 clear i y;clear f;have f:=m;clear m;refine Yd fun a hf=>?_;refine aE _ _<|Zr hf<|Zm rfl<|Zm rfl<|Ze (Xw rfl)<|Ze (Vd rfl Xm 2)<|Ze (X0 rfl X0j (e.at 2))<|Ze (X38 (vs:=[.pointer (some ⟨b4,0,none⟩)]) rfl)<|Zf (X5p (vs:=[.slice A1 d.ws.length c1,.func (.func 209) #[] #[.pointer (some ⟨b4,0,none⟩)]]) rfl Xjt (by have h9:=Xve _ A1 c1 B0 d.ws g (Q0 aA o.size) 209 [.pointer (some ⟨b4,0,none⟩)] Xl5 (fun w=>w.a==k||w.b==k) (fun x w' aF=>Xtt w' x k _ (p.appT g aF rfl)) (by omega);rw [Xtb] at h9;exact h9)) ?_;rintro _ w4 ⟨rfl,m,y⟩;have i:=g;have e:=e.appT i y rfl;have f:=f.appT i y rfl;have o:=tsrow o y a7
 clear i y;clear g;have g:=m;clear m;refine Ze (Xw rfl)<|Ze (Vd rfl Xm 2)<|Zo (X12 (vs:=[.slice A1 (dpW d.ws k).length c1]) (l':=[vi d.n,.slice A0 m0 c0,.slice A1 (dpW d.ws k).length c1,vi d.t,vi d.r]) rfl rfl X19 e rfl rfl rfl rfl rfl) ?_;rintro _ w5 ⟨ho,hb⟩;have h:=e;have f:=f.onlyT ho h rfl;have g:=g.onlyT ho h rfl;have o:=tsonly o ho (.inl (.inl rfl));have e:=hb;refine Zn fun a hf=>?_;refine X13 hf (X1n rfl) ?_;exact ⟨A1,c1,o,a7,⟨e,f,g,(a6.trans List.length_set.symm)⟩⟩
theorem Xnp(w0:World)(bV B0:Nat)(A0:Option Addr)(c0:Nat)(A1:Option Addr)(c1 H:Nat)(d:Dg)(aN:Dgm w0 bV B0 A0 c0 A1 c1 H d)(aB:B0≤w0.heap.size)(p:Int)(q:Int)(aO:WSd d.ws)(aU:d.ws.length≤80000000) : Ret Tryz.prog 76 [.pointer (some ⟨bV,0,none⟩),vi p,vi q] w0 (fun v w=>∃ A c,v=.bool (tyW d.ws p q != 1)∧TurnS (SB bV [A0,A1]) w0 w∧Us (SB bV [A0,A1]) w0 A∧Dgm w bV B0 A0 c0 A c H (tgI d p q)):=by
 obtain ⟨b,e,o,G⟩:=aN;have aT:=b.lt
 have aC:Us (SB bV [A0,A1]) w0 A0:=SB.us (by simp)
 have a6:Us (SB bV [A0,A1]) w0 A1:=SB.us (by simp)
 refine enter Tryz.func76 rfl 39 rfl rfl ?_;intro a f
 have g:TurnS (SB bV [A0,A1]) w0 w0:=TurnS.refl _ _
 refine Zs f fun _ aP=>?_;refine Za rfl<|ZX aP fun a f _ aD=>?_;refine Zs f fun _ aQ=>?_;refine Zm rfl<|Ze (Xw rfl)<|Ze (X02 (l:=[vi d.n,.slice A0 H c0,.slice A1 d.ws.length c1,vi d.t,vi d.r]) rfl X2 (b.at 0) rfl)<|Zm rfl<|Zm rfl<|Zf (Vc (X6c _ d H G A0 c0 e.rd.top A1 c1 o.rd.top o.cap p q (by omega)) X33) ?_;rintro _ w1 ⟨rfl,hE⟩;have b:=b.below hE;have e:=e.below hE;have o:=o.below hE;have g:=tsbel g hE;refine Zt aQ fun a f=>?_;refine Q8<|Zs f fun _ aR=>?_;refine Ze (X0a rfl rfl)<|Za rfl<|Zt aR fun a f=>?_
 refine Xh f rfl (fun y=>?_) (fun y=>?_)
 ·have aE:=y
  have h0:tyW d.ws p q=0:=by simpa using y
  have i:(tyW d.ws p q != 1)=true:=by rw [h0];rfl
  have h:=Xuq h0;refine Zs f fun _ aS=>?_;refine Zm rfl<|Zm rfl<|Zm rfl<|Zf (Vc (Xdn _ bV B0 A0 c0 A1 c1 H d ⟨b,e,o,G⟩ (Q0 aB g.size) p q true aO (Xkv h0) (by omega)) X50) ?_;rintro _ w2 ⟨A9,c9,B,C,D,j,a7,aF⟩;have u:=SB.lift (S:=SB bV [A0,A1]) (w0:=w0) (.inl (.inl rfl)) (alc aC (alc a6 al0));have C:=Us.trans C u g.size
  have g:=tstr g B u;clear u
  clear B b;have b:=D;clear D
  clear e;have e:=j;clear j;refine Zt aS fun a f=>?_;refine Zr f<|Zm rfl<|Ze (Xw rfl)<|Ze (Vd rfl Xy 4)<|Ze (X0 rfl X9 (b.at 4))<|Ze (X3u rfl rfl)<|Ze (Xw rfl)<|Ze (Vd rfl Xy 4)<|Zo (X12 (vs:=[vi (wr ((({ d with ws:=jnW d.ws p q true } : Dg).r)+1))]) (l':=[vi (({ d with ws:=jnW d.ws p q true } : Dg).n),.slice A0 H c0,.slice A9 (({ d with ws:=jnW d.ws p q true } : Dg).ws).length c9,vi (({ d with ws:=jnW d.ws p q true } : Dg).t),vi (wr ((({ d with ws:=jnW d.ws p q true } : Dg).r)+1))]) rfl rfl X08 b rfl rfl rfl rfl rfl) ?_;rintro _ w3 ⟨ho,hb⟩;have k:=b;have e:=e.onlyT ho k rfl;have a7:=a7.onlyT ho k rfl;have g:=tsonly g ho (.inl (.inl rfl));have b:=hb;refine Zn fun a f=>?_;refine Xd<|aD _ _<|Zs f fun _ aG=>?_;refine Za rfl<|Zt aG fun a f=>?_
  refine Q6 (X5 f (Xr f rfl rfl) ?_)
  rw [i,h]
  exact ⟨A9,c9,rfl,g,C,⟨b,e,a7,aF⟩⟩
 have aE:=y
 have h0:tyW d.ws p q≠0:=by simpa using y
 refine Zs f fun _ aH=>?_;refine Ze (X0a rfl rfl)<|Za rfl<|Zt aH fun a f=>?_
 refine Xh f rfl (fun m=>?_) (fun m=>?_)
 ·have a8:=m
  have h1:tyW d.ws p q=1:=by simpa using m
  have i:(tyW d.ws p q != 1)=false:=by rw [h1];rfl
  have h:=Xus h1;refine Zs f fun _ aI=>?_;refine Za rfl<|Zt aI fun a f=>?_;refine Q6<|Xq<|X7<|X5 f (Xr f rfl rfl) ?_
  rw [i,h]
  exact ⟨A1,c1,rfl,g,a6,⟨b,e,o,G⟩⟩
 have a8:=m
 have h1:tyW d.ws p q≠1:=by simpa using m
 have i:(tyW d.ws p q != 1)=true:=by simpa using h1
 have h:=Xsp h0 h1;refine Zs f fun _ aJ=>?_;refine Zm rfl<|Zm rfl<|Zm rfl<|Zf (Vc (Xhy _ bV B0 A0 c0 A1 c1 H d ⟨b,e,o,G⟩ (Q0 aB g.size) p q (by omega)) X79) ?_;rintro _ w4 ⟨aK,aL,B,x,D,j,E,aA⟩;have u:=SB.lift (S:=SB bV [A0,A1]) (w0:=w0) (.inl (.inl rfl)) (alc aC (alc a6 al0));have x:=Us.trans x u g.size
 have g:=tstr g B u;clear u
 clear B b;have b:=D;clear D
 clear e;have e:=j;clear j;refine Zt aJ fun a f=>?_;refine Zr f<|Zm rfl<|Ze (Xw rfl)<|Ze (Vd rfl Xy 4)<|Ze (X0 rfl X9 (b.at 4))<|Ze (Xb5 rfl rfl)<|Ze (Xw rfl)<|Ze (Vd rfl Xy 4)<|Zo (X12 (vs:=[vi (wr ((({ d with ws:=ctO d.ws p q } : Dg).r)-1))]) (l':=[vi (({ d with ws:=ctO d.ws p q } : Dg).n),.slice A0 H c0,.slice aK (({ d with ws:=ctO d.ws p q } : Dg).ws).length aL,vi (({ d with ws:=ctO d.ws p q } : Dg).t),vi (wr ((({ d with ws:=ctO d.ws p q } : Dg).r)-1))]) rfl rfl X08 b rfl rfl rfl rfl rfl) ?_;rintro _ w5 ⟨ho,hb⟩;have k:=b;have e:=e.onlyT ho k rfl;have E:=E.onlyT ho k rfl;have g:=tsonly g ho (.inl (.inl rfl));have b:=hb;refine Zn fun a f=>?_;refine Xd<|aD _ _<|Zs f fun _ aM=>?_;refine Za rfl<|Zt aM fun a f=>?_
 refine Q6 (X5 f (Xr f rfl rfl) ?_)
 rw [i,h]
 exact ⟨aK,aL,rfl,g,x,⟨b,e,E,aA⟩⟩
theorem Xtj(w0:World)(bV B0:Nat)(A0:Option Addr)(c0:Nat)(A1:Option Addr)(c1 L:Nat)(d:Dg)(aT:Dgm w0 bV B0 A0 c0 A1 c1 L d)(M:B0≤w0.heap.size)(p:Int)(q:Int)(x:Bool)(aB:WSd d.ws)(b6:d.ws.length≤80000000)(aU:(0≤p∧p.toNat<d.ns.length)∧(0≤q∧q.toNat<d.ns.length))(aW:PhN d.ns) : Ret Tryz.prog 225 [.pointer (some ⟨bV,0,none⟩),vi p,vi q,.bool x] w0 (fun v w=>∃ A c,TurnS (SB bV [A0,A1]) w0 w∧Us (SB bV [A0,A1]) w0 A∧Dgm w bV B0 A0 c0 A c L (lkD d p q x)):=by
 obtain ⟨b,e,h,N⟩:=aT;have b5:=b.lt
 have Q:Us (SB bV [A0,A1]) w0 A0:=SB.us (by simp)
 have aA:Us (SB bV [A0,A1]) w0 A1:=SB.us (by simp)
 have b7:=Xme d.ws p q;refine enter Tryz.func225 rfl 67 rfl rfl ?_;intro a i
 have j:TurnS (SB bV [A0,A1]) w0 w0:=TurnS.refl _ _
 refine Zs i fun _ aX=>?_;refine Zm rfl<|Ze (Xw rfl)<|Ze (X02 (l:=[vi d.n,.slice A0 L c0,.slice A1 d.ws.length c1,vi d.t,vi d.r]) rfl X2 (b.at 0) rfl)<|Zm rfl<|Zm rfl<|Zf (Vc (X6c _ d L N A0 c0 e.rd.top A1 c1 h.rd.top h.cap p q (by omega)) X33) ?_;rintro _ w1 ⟨rfl,hE⟩;have b:=b.below hE;have e:=e.below hE;have h:=h.below hE;have j:=tsbel j hE;refine Za rfl<|Zt aX fun a i=>?_;refine Q8<|Zs i fun _ aY=>?_;refine Zm rfl<|Ze (X0a rfl rfl)<|Za rfl<|Zt aY fun a i=>?_
 refine Xh i rfl (fun U=>?_) (fun U=>?_)
 ·have k:=U
  have h0:tyW d.ws p q=0:=by simpa using U
  have E:=Xu8 (x:=x) h0;refine Zr i<|Zm rfl<|Zm rfl<|Zm rfl<|Zm rfl<|Zf (Vc (Xdn _ bV B0 A0 c0 A1 c1 L d ⟨b,e,h,N⟩ (Q0 M j.size) p q x aB (Xkv h0) (by omega)) X50) ?_;rintro _ w2 ⟨A6,c6,m,W,o,f,aZ,aH⟩;have g:=SB.lift (S:=SB bV [A0,A1]) (w0:=w0) (.inl (.inl rfl)) (alc Q (alc aA al0));have W:=Us.trans W g j.size
  have j:=tstr j m g;clear g
  clear m b;have b:=o;clear o
  clear e;have e:=f;clear f;refine Zn fun a i=>?_;refine Xd<|X13 i (X1n rfl) ?_
  rw [E]
  exact ⟨A6,c6,j,W,⟨b,e,aZ,aH⟩⟩
 have k:=U
 have h0:tyW d.ws p q≠0:=by simpa using U
 refine Q5 fun _ b0=>?_;refine X09 (fun a w=>Fr a 67 [(0,.pointer (some ⟨bV,0,none⟩)),(1,vi p),(2,vi q),(3,.bool x),(8,vi (tyW d.ws p q)),(43,.bool (((tyW d.ws p q)==1)&&(!x)))]∧w1=w) ?_ ?_
 ·refine Zr i<|Zm rfl<|Ze (X0a rfl rfl)<|Zm rfl ?_
  refine Zg 46 rfl (fun y=>?_) (fun y=>?_)
  ·refine Zv (gW y) (X3 rfl) ?_;refine Zv (gW y) (X0y rfl) ?_;refine Ze (X8 rfl y rfl)<|Za rfl ?_;refine Zn fun a i=>?_;exact ⟨i.sub ⟨rfl,rfl,rfl,rfl,rfl,X1 rfl (by first|rfl|(simp only [k,y,bs];done)|simp [k,y]),trivial⟩,rfl⟩
  refine Zp (gP y) ?_;refine Zp (gP y) ?_;refine Ze (Xe rfl y rfl)<|Za rfl ?_;refine Zn fun a i=>?_;exact ⟨i.sub ⟨rfl,rfl,rfl,rfl,rfl,X1 rfl (by first|rfl|(simp only [k,y,bs];done)|simp [k,y]),trivial⟩,rfl⟩
 rintro a _ ⟨i,rfl⟩;refine b0 _ _ ?_
 refine Xh i rfl (fun a6=>?_) (fun a6=>?_)
 ·have B:=a6;have E:=Xtp a6;refine Q7<|Xd<|X13 i (X1n rfl) ?_
  rw [E]
  exact ⟨A1,c1,j,aA,⟨b,e,h,N⟩⟩
 have B:=a6;have h1:=a6;refine Q5 fun _ aI=>?_;refine X09 (fun a w=>Fr a 67 [(0,.pointer (some ⟨bV,0,none⟩)),(1,vi p),(2,vi q),(50,.bool (((tyW d.ws p q)==2)&&x))]∧w1=w) ?_ ?_
 ·refine Zr i<|Zm rfl<|Ze (X0a rfl rfl)<|Zm rfl ?_
  refine Zg 53 rfl (fun u=>?_) (fun u=>?_)
  ·refine Zv (gW u) (X3 rfl) ?_;refine Ze (X8 rfl u rfl)<|Za rfl ?_;refine Zn fun a i=>?_;exact ⟨i.sub ⟨rfl,rfl,rfl,X1 rfl (by first|rfl|(simp only [k,B,u,bs];done)|simp [k,B,u]),trivial⟩,rfl⟩
  refine Zp (gP u) ?_;refine Ze (Xe rfl u rfl)<|Za rfl ?_;refine Zn fun a i=>?_;exact ⟨i.sub ⟨rfl,rfl,rfl,X1 rfl (by first|rfl|(simp only [k,B,u,bs];done)|simp [k,B,u]),trivial⟩,rfl⟩
 rintro a _ ⟨i,rfl⟩;refine aI _ _ ?_
 refine Xh i rfl (fun C=>?_) (fun C=>?_)
 ·have aC:=C;have E:=Xsk C;refine Zs i fun _ aJ=>?_;refine Zm rfl<|Zm rfl<|Zm rfl<|Zf (Vc (Xhy _ bV B0 A0 c0 A1 c1 L d ⟨b,e,h,N⟩ (Q0 M j.size) p q (by omega)) X79) ?_;rintro _ w3 ⟨aK,aL,m,G,o,f,a7,aD⟩;have g:=SB.lift (S:=SB bV [A0,A1]) (w0:=w0) (.inl (.inl rfl)) (alc Q (alc aA al0));have G:=Us.trans G g j.size
  have j:=tstr j m g;clear g
  clear m b;have b:=o;clear o
  clear e;have e:=f;clear f;refine Zt aJ fun a i=>?_;refine Zr i<|Zm rfl<|Ze (Xw rfl)<|Ze (Vd rfl Xy 4)<|Ze (X0 rfl X9 (b.at 4))<|Ze (Xb5 rfl rfl)<|Ze (Xw rfl)<|Ze (Vd rfl Xy 4)<|Zo (X12 (vs:=[vi (wr ((({ d with ws:=ctO d.ws p q } : Dg).r)-2))]) (l':=[vi (({ d with ws:=ctO d.ws p q } : Dg).n),.slice A0 L c0,.slice aK (({ d with ws:=ctO d.ws p q } : Dg).ws).length aL,vi (({ d with ws:=ctO d.ws p q } : Dg).t),vi (wr ((({ d with ws:=ctO d.ws p q } : Dg).r)-2))]) rfl rfl X08 b rfl rfl rfl rfl rfl) ?_;rintro _ w4 ⟨ho,hb⟩;have D:=b;have e:=e.onlyT ho D rfl;have a7:=a7.onlyT ho D rfl;have j:=tsonly j ho (.inl (.inl rfl));have b:=hb;refine Zn fun a i=>?_;refine Xd<|X13 i (X1n rfl) ?_
  rw [E]
  exact ⟨aK,aL,j,G,⟨b,e,a7,aD⟩⟩
 have aC:=C;have E:=Xtk h0 h1 C;refine Zs i fun _ aM=>?_;refine Zm rfl<|Zm rfl<|Zm rfl<|Zf (Vc (Xhy _ bV B0 A0 c0 A1 c1 L d ⟨b,e,h,N⟩ (Q0 M j.size) p q (by omega)) X79) ?_;rintro _ w5 ⟨b1,b2,m,H,o,f,aN,aE⟩;have g:=SB.lift (S:=SB bV [A0,A1]) (w0:=w0) (.inl (.inl rfl)) (alc Q (alc aA al0));have H:=Us.trans H g j.size
 have j:=tstr j m g;clear g
 clear m b;have b:=o;clear o
 clear e;have e:=f;clear f;refine Zx aM fun a i _ aO=>?_;refine Zm rfl<|Zm rfl<|Zm rfl<|Zf (Vc (Xdn _ bV B0 A0 c0 b1 b2 L ({ d with ws:=ctO d.ws p q } : Dg) ⟨b,e,aN,aE⟩ (Q0 M j.size) p q false (Xr5 aB p q) (Xqf aB) (by dsimp only;omega)) X50) ?_;rintro _ w6 ⟨b3,b4,m,I,o,f,aP,aF⟩;have g:=SB.lift (S:=SB bV [A0,A1]) (w0:=w0) (.inl (.inl rfl)) (alc Q (alc H al0));have I:=Us.trans I g j.size
 have j:=tstr j m g;clear g
 clear m b;have b:=o;clear o
 clear e;have e:=f;clear f;refine Zx aO fun a i _ aQ=>?_;refine Zm rfl<|Zm rfl<|Zm rfl<|Ze (Xjz rfl rfl)<|Zf (Vc (Xay _ bV B0 A0 c0 b3 b4 L ({ ({ d with ws:=ctO d.ws p q } : Dg) with ws:=jnW ({ d with ws:=ctO d.ws p q } : Dg).ws p q false } : Dg) ⟨b,e,aP,aF⟩ (Q0 M j.size) (min p q) 4 (Xhi aU) aW ⟨by decide,by decide⟩) X6f) ?_;rintro _ w7 ⟨aR,aS,m,J,o,f,a8,aG⟩;have g:=SB.lift (S:=SB bV [A0,A1]) (w0:=w0) (.inl (.inl rfl)) (alc Q (alc I al0));have J:=Us.trans J g j.size
 have j:=tstr j m g;clear g
 clear m b;have b:=o;clear o
 clear e;have e:=f;clear f;refine Zt aQ fun a i=>?_;refine Zr i<|Zm rfl<|Ze (Xw rfl)<|Ze (Vd rfl Xy 4)<|Ze (X0 rfl X9 (b.at 4))<|Ze (Xb5 rfl rfl)<|Ze (Xw rfl)<|Ze (Vd rfl Xy 4)<|Zo (X12 (vs:=[vi (wr ((({ ({ ({ d with ws:=ctO d.ws p q } : Dg) with ws:=jnW ({ d with ws:=ctO d.ws p q } : Dg).ws p q false } : Dg) with ns:=adN ({ ({ d with ws:=ctO d.ws p q } : Dg) with ws:=jnW ({ d with ws:=ctO d.ws p q } : Dg).ws p q false } : Dg).ns (min p q) 4 } : Dg).r)-1))]) (l':=[vi (({ ({ ({ d with ws:=ctO d.ws p q } : Dg) with ws:=jnW ({ d with ws:=ctO d.ws p q } : Dg).ws p q false } : Dg) with ns:=adN ({ ({ d with ws:=ctO d.ws p q } : Dg) with ws:=jnW ({ d with ws:=ctO d.ws p q } : Dg).ws p q false } : Dg).ns (min p q) 4 } : Dg).n),.slice A0 L c0,.slice aR (({ ({ ({ d with ws:=ctO d.ws p q } : Dg) with ws:=jnW ({ d with ws:=ctO d.ws p q } : Dg).ws p q false } : Dg) with ns:=adN ({ ({ d with ws:=ctO d.ws p q } : Dg) with ws:=jnW ({ d with ws:=ctO d.ws p q } : Dg).ws p q false } : Dg).ns (min p q) 4 } : Dg).ws).length aS,vi (({ ({ ({ d with ws:=ctO d.ws p q } : Dg) with ws:=jnW ({ d with ws:=ctO d.ws p q } : Dg).ws p q false } : Dg) with ns:=adN ({ ({ d with ws:=ctO d.ws p q } : Dg) with ws:=jnW ({ d with ws:=ctO d.ws p q } : Dg).ws p q false } : Dg).ns (min p q) 4 } : Dg).t),vi (wr ((({ ({ ({ d with ws:=ctO d.ws p q } : Dg) with ws:=jnW ({ d with ws:=ctO d.ws p q } : Dg).ws p q false } : Dg) with ns:=adN ({ ({ d with ws:=ctO d.ws p q } : Dg) with ws:=jnW ({ d with ws:=ctO d.ws p q } : Dg).ws p q false } : Dg).ns (min p q) 4 } : Dg).r)-1))]) rfl rfl X08 b rfl rfl rfl rfl rfl) ?_;rintro _ w8 ⟨ho,hb⟩;have D:=b;have e:=e.onlyT ho D rfl;have a8:=a8.onlyT ho D rfl;have j:=tsonly j ho (.inl (.inl rfl));have b:=hb;refine Zn fun a i=>?_;refine Xd<|X13 i (X1n rfl) ?_
 rw [E]
 exact ⟨aR,aS,j,J,⟨b,e,a8,aG⟩⟩
theorem Xov(w0:World)(bV B0:Nat)(A0:Option Addr)(c0:Nat)(A1:Option Addr)(c1 G:Nat)(d:Dg)(aH:Dgm w0 bV B0 A0 c0 A1 c1 G d)(a8:B0≤w0.heap.size)(p:Int)(q:Int)(x:Bool)(aA:WSd d.ws)(aI:d.ws.length≤80000000)(aJ:(0≤p∧p.toNat<d.ns.length)∧(0≤q∧q.toNat<d.ns.length))(aK:PhN d.ns)(hN:G≤1000)(hab:(spI d.ns p&&spI d.ns q)=false→fdW d.ws p q<0) : Ret Tryz.prog 202 [.pointer (some ⟨bV,0,none⟩),vi p,vi q,.bool x] w0 (fun v w=>∃ A c,TurnS (SB bV [A0,A1]) w0 w∧Us (SB bV [A0,A1]) w0 A∧Dgm w bV B0 A0 c0 A c G (mtD d p q x)):=by
 obtain ⟨e,f,g,H⟩:=aH;have aO:=e.lt
 have aB:Us (SB bV [A0,A1]) w0 A0:=SB.us (by simp)
 have aC:Us (SB bV [A0,A1]) w0 A1:=SB.us (by simp)
 refine enter Tryz.func202 rfl 30 rfl rfl ?_;intro a m
 have j:TurnS (SB bV [A0,A1]) w0 w0:=TurnS.refl _ _
 refine Q5 fun _ aL=>?_;refine X09 (fun a w=>Fr a 30 [(0,.pointer (some ⟨bV,0,none⟩)),(1,vi p),(2,vi q),(3,.bool x),(19,.bool ((spI d.ns p)&&(spI d.ns q)))]∧Below w0.heap.size w0 w) ?_ ?_
 ·have o:=bz w0
  refine Zr m<|Zm rfl<|Ze (Xw rfl)<|Ze (X02 (l:=[vi d.n,.slice A0 G c0,.slice A1 d.ws.length c1,vi d.t,vi d.r]) rfl X2 (e.at 0) rfl)<|Zm rfl<|Zf (Vc (X5m _ d G H A0 c0 f.rd.top A1 c1 g.rd.top g.cap p hN) X2v) ?_;rintro _ w1 ⟨rfl,u⟩;have e:=e.below u;have f:=f.below u;have g:=g.below u;have j:=tsbel j u;have o:=btr o u;refine Zm rfl ?_
  refine Zg 13 rfl (fun b=>?_) (fun b=>?_)
  ·refine Zv (gW b) (X3 rfl) ?_;refine Zv (gW b) (Xw rfl) ?_;refine Zv (gW b) (X02 (l:=[vi d.n,.slice A0 G c0,.slice A1 d.ws.length c1,vi d.t,vi d.r]) rfl X2 (e.at 0) rfl) ?_;refine Zv (gW b) (X3 rfl) ?_;refine Zk (gW b) (Vc (X5m _ d G H A0 c0 f.rd.top A1 c1 g.rd.top g.cap q hN) X2v) ?_;rintro _ w2 ⟨rfl,u⟩;have j:=tsbel j u;have o:=btr o u;refine Ze (X8 rfl b rfl) ?_;refine Zn fun a m=>?_
   have a6:Below w0.heap.size w0 w2:=o
   exact ⟨m.sub ⟨rfl,rfl,rfl,rfl,X1 rfl (by first|rfl|(simp only [b,bs];done)|simp [b]),trivial⟩,a6⟩
  refine Zp (gP b) ?_;refine Zp (gP b) ?_;refine Zp (gP b) ?_;refine Zp (gP b) ?_;refine Zp (gP b) ?_;refine Ze (Xe rfl b rfl) ?_;refine Zn fun a m=>?_
  have a6:Below w0.heap.size w0 w1:=o
  exact ⟨m.sub ⟨rfl,rfl,rfl,rfl,X1 rfl (by first|rfl|(simp only [b,bs];done)|simp [b]),trivial⟩,a6⟩
 rintro a w3 ⟨m,u⟩;have e:=e.below u;have f:=f.below u;have g:=g.below u;have j:=tsbel j u;refine aL _ _ ?_
 refine Xh m rfl (fun y=>?_) (fun y=>?_)
 ·have aD:=y;have a7:=Xv5 (h:=x) y;refine Zr m<|Zm rfl<|Zm rfl<|Zm rfl<|Zm rfl<|Zf (Vc (Xtj _ bV B0 A0 c0 A1 c1 G d ⟨e,f,g,H⟩ (Q0 a8 j.size) p q x aA aI aJ aK) Xlq) ?_;rintro _ w4 ⟨A6,c6,B,C,D,i,aM,aE⟩;have k:=SB.lift (S:=SB bV [A0,A1]) (w0:=w0) (.inl (.inl rfl)) (alc aB (alc aC al0));have C:=Us.trans C k j.size
  have j:=tstr j B k;clear k
  clear B e;have e:=D;clear D
  clear f;have f:=i;clear i;refine Zn fun a m=>?_;refine X13 m (X1n rfl) ?_
  rw [a7]
  exact ⟨A6,c6,j,C,⟨e,f,aM,aE⟩⟩
 have aD:=y;have aF:=y;have a7:=Xui (h:=x) aF;refine Zr m<|Zm rfl<|Zm rfl<|Zm rfl<|Zm rfl<|Zf (Vc (Xdn _ bV B0 A0 c0 A1 c1 G d ⟨e,f,g,H⟩ (Q0 a8 j.size) p q x aA (hab aF) (by omega)) X50) ?_;rintro _ w5 ⟨A7,c7,B,E,D,i,aN,aG⟩;have k:=SB.lift (S:=SB bV [A0,A1]) (w0:=w0) (.inl (.inl rfl)) (alc aB (alc aC al0));have E:=Us.trans E k j.size
 have j:=tstr j B k;clear k
 clear B e;have e:=D;clear D
 clear f;have f:=i;clear i;refine Zn fun a m=>?_;refine X13 m (X1n rfl) ?_
 rw [a7]
 exact ⟨A7,c7,j,E,⟨e,f,aN,aG⟩⟩
theorem Xt2(w0:World)(bV B0:Nat)(A0:Option Addr)(c0:Nat)(A1:Option Addr)(c1 H:Nat)(d:Dg)(aN:Dgm w0 bV B0 A0 c0 A1 c1 H d)(aA:B0≤w0.heap.size)(p:Int)(hG:goodD d=true) : Ret Tryz.prog 171 [.pointer (some ⟨bV,0,none⟩),vi p] w0 (fun v w=>∃ A c,v=.bool (idC d p)∧TurnS (SB bV [A0,A1]) w0 w∧Us (SB bV [A0,A1]) w0 A∧Dgm w bV B0 A0 c0 A c H (if idC d p=true then idD d p else d)):=by
 obtain ⟨e,f,i,y⟩:=aN;have aZ:=e.lt
 have aB:Us (SB bV [A0,A1]) w0 A0:=SB.us (by simp)
 have aC:Us (SB bV [A0,A1]) w0 A1:=SB.us (by simp)
 have N:=X15 hG;have b0:=N.m;have b1:=N.len;have b2:=X23 d.ws p;refine enter Tryz.func171 rfl 66 rfl rfl ?_;intro a u
 have x:TurnS (SB bV [A0,A1]) w0 w0:=TurnS.refl _ _
 refine Zs u fun _ aO=>?_;refine Za rfl<|ZX aO fun a u _ aP=>?_;refine Q5 fun _ aQ=>?_;refine X09 (fun a w=>Fr a 66 [(0,.pointer (some ⟨bV,0,none⟩)),(1,vi p),(31,.bool (((!(spI d.ns p))||(((d.ns.getD p.toNat nZ).p) != 0))||((cnW d.ws p) != 2)))]∧Below w0.heap.size w0 w) ?_ ?_
 ·have B:=bz w0
  refine Zr u<|Zm rfl<|Ze (Xw rfl)<|Ze (X02 (l:=[vi d.n,.slice A0 H c0,.slice A1 d.ws.length c1,vi d.t,vi d.r]) rfl X2 (e.at 0) rfl)<|Zm rfl<|Zf (Vc (X5m _ d H y A0 c0 f.rd.top A1 c1 i.rd.top i.cap p (by omega)) X2v) ?_;rintro _ w1 ⟨rfl,o⟩;have e:=e.below o;have f:=f.below o;have i:=i.below o;have x:=tsbel x o;have B:=btr B o;refine Ze (X0y rfl)<|Zm rfl ?_
  refine Zg 13 rfl (fun g=>?_) (fun g=>?_)
  ·refine Zp (gP g) ?_;refine Zp (gP g) ?_;refine Zp (gP g) ?_;refine Zp (gP g) ?_;refine Zp (gP g) ?_;refine Zp (gP g) ?_;refine Zp (gP g) ?_;refine Zp (gP g) ?_;refine Zp (gP g) ?_;refine Ze (X8 rfl g rfl)<|Zm rfl<|Zp (gP rfl) ?_;refine Zp (gP rfl) ?_;refine Zp (gP rfl) ?_;refine Zp (gP rfl) ?_;refine Zp (gP rfl) ?_;refine Zp (gP rfl) ?_;refine Ze (X8 rfl rfl rfl) ?_;refine Zn fun a u=>?_
   have J:Below w0.heap.size w0 w1:=B
   exact ⟨u.sub ⟨rfl,rfl,X1 rfl (by first|rfl|(simp only [g,bs];done)|simp [g]),trivial⟩,J⟩
  have a6:0≤p∧p.toNat<d.ns.length:=by have h9:=X11 (ns:=d.ns) (k:=p) (by simpa using g);exact ⟨h9.1,h9.2.1⟩
  refine Zv (gW g) (X3 rfl) ?_;refine Zv (gW g) (Xw rfl) ?_;refine Zv (gW g) (Vd rfl Xi 1) ?_;refine Zv (gW g) (X0 rfl Xz (e.at 1)) ?_;refine Zv (gW g) (X3 rfl) ?_;refine Zv (gW g) (Xg (k:=p.toNat) rfl rfl Xo X07 f y (by omega) (by omega)) ?_;refine Zv (gW g) (X0z rfl X04 (m':=p.toNat*2+1) rfl) ?_;refine Zv (gW g) (X0 rfl X9 (X0d f Xt (Xb (d:=nZ) (by omega)) 1 rfl)) ?_;refine Zv (gW g) (X18 rfl rfl) ?_;refine Ze (Xe rfl g rfl)<|Zm rfl ?_
  refine Zg 24 rfl (fun q=>?_) (fun q=>?_)
  ·refine Zp (gP q) ?_;refine Zp (gP q) ?_;refine Zp (gP q) ?_;refine Zp (gP q) ?_;refine Zp (gP q) ?_;refine Zp (gP q) ?_;refine Ze (X8 rfl q rfl) ?_;refine Zn fun a u=>?_
   have J:Below w0.heap.size w0 w1:=B
   exact ⟨u.sub ⟨rfl,rfl,X1 rfl (by first|rfl|(simp only [g,q,bs];done)|simp [g,q]),trivial⟩,J⟩
  refine Zv (gW q) (X3 rfl) ?_;refine Zv (gW q) (Xw rfl) ?_;refine Zv (gW q) (X02 (l:=[vi d.n,.slice A0 H c0,.slice A1 d.ws.length c1,vi d.t,vi d.r]) rfl X2 (e.at 0) rfl) ?_;refine Zv (gW q) (X3 rfl) ?_;refine Zk (gW q) (Vc (X88 _ d H y A0 c0 f.rd.top A1 c1 i.rd.top i.cap p (by omega)) X4a) ?_;rintro _ w2 ⟨rfl,o⟩;have x:=tsbel x o;have B:=btr B o;refine Zv (gW q) (X18 rfl rfl) ?_;refine Ze (Xe rfl q rfl) ?_;refine Zn fun a u=>?_
  have J:Below w0.heap.size w0 w2:=B
  exact ⟨u.sub ⟨rfl,rfl,X1 rfl (by first|rfl|(simp only [g,q,bs];done)|simp [g,q]),trivial⟩,J⟩
 rintro a w3 ⟨u,o⟩;have e:=e.below o;have f:=f.below o;have i:=i.below o;have x:=tsbel x o;refine aQ _ _ ?_
 refine Xh u rfl (fun L=>?_) (fun L=>?_)
 ·have aD:=L;have aR:=Xtr N L;refine Zs u fun _ aS=>?_;refine Za rfl<|Zt aS fun a u=>?_;refine Q6<|X7<|X5 u (Xr u rfl rfl) ?_
  rw [aR,Q3 Bool.false_ne_true]
  exact ⟨A1,c1,rfl,x,aC,⟨e,f,i,y⟩⟩
 have aD:=L;obtain ⟨aT,b3,a6⟩:=Xqk N L
 have aE:=X7f N (k:=p) (j:=0) (by omega)
 have aF:=X7f N (k:=p) (j:=1) (by omega)
 have aG:(id0 d p).ns.length=d.ns.length:=X1m _ _
 refine Q7<|aP _ _<|Zs u fun _ aH=>?_;refine Zm rfl<|Ze (Xw rfl)<|Ze (X02 (l:=[vi d.n,.slice A0 H c0,.slice A1 d.ws.length c1,vi d.t,vi d.r]) rfl X2 (e.at 0) rfl)<|Zm rfl<|Zf (Vc (X93 _ d H y A0 c0 f.rd.top A1 c1 i.rd.top i.cap p N.w (by omega)) X5e) ?_;rintro _ w4 ⟨b4,b5,rfl,b,o⟩;have b:=b.lower x.size;have e:=e.below o;have f:=f.below o;have i:=i.below o;have x:=tsbel x o;refine Za rfl<|ZX aH fun a u _ aI=>?_;refine X05 none (fun _=>false) mixed ?_;intro w5 o;have e:=e.below o;have f:=f.below o;have i:=i.below o;have b:=b.below o;have x:=tsbel x o;refine Yb u<|Yo 0 rfl (fun _=>X3 rfl)<|Yo 1 rfl (fun _=>Xw rfl)<|Ye 2 rfl (X02 (l:=[vi d.n,.slice A0 H c0,.slice A1 d.ws.length c1,vi d.t,vi d.r]) rfl X2 (e.at 0) rfl)<|Yo 3 rfl (fun _=>X3 rfl)<|Yo 4 rfl (fun _=>X3 rfl)<|Yo 5 rfl (fun _=>Xg (k:=0) rfl rfl Xj X08 b rfl rfl (by omega))<|Ye 6 rfl (X0 rfl X9 (X0d b Xa (Xb (k:=0) (d:=(0:Int)) (by omega)) 0 rfl))<|Yo 8 rfl (fun _=>X3 rfl)<|Yo 9 rfl (fun _=>Xw rfl)<|Ye 10 rfl (X02 (l:=[vi d.n,.slice A0 H c0,.slice A1 d.ws.length c1,vi d.t,vi d.r]) rfl X2 (e.at 0) rfl) ?_;refine Yo 11 rfl (fun _=>X3 rfl)<|Yo 12 rfl (fun _=>X3 rfl)<|Yo 13 rfl (fun _=>Xg (k:=1) rfl rfl Xj X08 b rfl rfl (by omega))<|Ye 14 rfl (X0 rfl X9 (X0d b Xa (Xb (k:=1) (d:=(0:Int)) (by omega)) 0 rfl))<|Y1 7 ?_;refine Yk rfl trivial (Vc (X6c _ d H y A0 c0 f.rd.top A1 c1 i.rd.top i.cap p ((nearW d.ws p).getD 0 0) (by omega)) X33) (fun _ _ ⟨_,o⟩=>o) ?_;rintro _ w6 ⟨rfl,o⟩;have e:=e.below o;have f:=f.below o;have i:=i.below o
 have b:=b.below o;have x:=tsbel x o;refine Y1 15<|Yk rfl trivial (Vc (X6c _ d H y A0 c0 f.rd.top A1 c1 i.rd.top i.cap p ((nearW d.ws p).getD 1 0) (by omega)) X33) (fun _ _ ⟨_,o⟩=>o) ?_;rintro _ w7 ⟨rfl,o⟩;have e:=e.below o;have f:=f.below o;have i:=i.below o;have b:=b.below o;have x:=tsbel x o;refine Yo 16 rfl (fun _=>X18 rfl rfl)<|Yo 17 rfl (fun _=>X0l rfl) ?_;refine Yd fun a u=>?_;refine aI _ _<|Zs u fun _ aJ=>?_;refine Zm rfl<|Zm rfl<|Zf (Vc (X91 _ bV B0 A0 c0 A1 c1 H d ⟨e,f,i,y⟩ (Q0 aA x.size) p a6 (by omega)) X56) ?_;rintro _ w8 ⟨aU,aW,C,D,M,h,I,a7⟩;have b:=b.tu C e rfl (alc (X0k f rfl) (alc (X0k i rfl) al0));have E:=SB.lift (S:=SB bV [A0,A1]) (w0:=w0) (.inl (.inl rfl)) (alc aB (alc aC al0));have D:=Us.trans D E x.size
 have x:=tstr x C E;clear E
 clear C e;have e:=M;clear M
 clear f;have f:=h;clear h;refine ZX aJ fun a u _ aK=>?_;refine X05 none (fun j=>[8].contains j) mixed ?_;intro w9 o;have e:=e.below o;have f:=f.below o;have b:=b.below o;have I:=I.below o;have x:=tsbel x o;refine Yb u<|Yo 0 rfl (fun _=>X3 rfl)<|Yo 1 rfl (fun _=>X3 rfl)<|Yo 2 rfl (fun _=>Xg (k:=0) rfl rfl Xj X08 b rfl rfl (by omega))<|Ye 3 rfl (X0 rfl X9 (X0d b Xa (Xb (k:=0) (d:=(0:Int)) (by omega)) 0 rfl))<|Yo 4 rfl (fun _=>X3 rfl)<|Yo 5 rfl (fun _=>Xg (k:=1) rfl rfl Xj X08 b rfl rfl (by omega))<|Ye 6 rfl (X0 rfl X9 (X0d b Xa (Xb (k:=1) (d:=(0:Int)) (by omega)) 0 rfl))<|Yo 7 rfl (fun _=>X3 rfl)<|Y1 8 ?_;refine Yt rfl trivial rfl (Vc (Xov _ bV B0 A0 c0 aU aW H (id0 d p) ⟨e,f,I,a7⟩ (Q0 aA x.size) ((nearW d.ws p).getD 0 0) ((nearW d.ws p).getD 1 0) ((tyW d.ws p ((nearW d.ws p).getD 0 0)) != (tyW d.ws p ((nearW d.ws p).getD 1 0))) (List.Pairwise.filter _ N.w.s) (by show (dpW d.ws p).length≤_;omega) ⟨⟨aE.1,by rw [aG];exact aE.2⟩,⟨aF.1,by rw [aG];exact aF.2⟩⟩ (X4y N.p p) (by omega) (Xko hG a6.1 (Xf5 (by omega)) (Xf5 (by omega)))) Xdu) ?_;rintro _ b6 ⟨aX,aY,C,G,M,h,aL,a8⟩;have b:=b.tu C e rfl (alc (X0k f rfl) (alc (X0k I rfl) al0));have E:=SB.lift (S:=SB bV [A0,A1]) (w0:=w0) (.inl (.inl rfl)) (alc aB (alc D al0));have G:=Us.trans G E x.size
 have x:=tstr x C E;clear E
 clear C e;have e:=M;clear M
 clear f;have f:=h;clear h;refine Yd fun a u=>?_;refine aK _ _<|Zs u fun _ aM=>?_;refine Za rfl<|Zt aM fun a u=>?_
 refine Q6 (X5 u (Xr u rfl rfl) ?_)
 rw [aT,Q4 rfl]
 exact ⟨aX,aY,rfl,x,G,⟨e,f,aL,a8⟩⟩
theorem Xm8(l:List Wr)(a b:Int)(h:Bool) : jnW l a b h=jnW l b a h:=by unfold jnW;rw [Int.min_comm,Int.max_comm]
theorem Xdr(d:Dg)(a b:Int) : tgD d a b=tgD d b a:=by unfold tgD;rw [Xdp,Xm8]
def NoPl(ws:List Wr)(l:List Int) : Prop:=∀ w ∈ ws,∀ u ∈ l,∀ v ∈ l,isW u v w=true→w.h=true
theorem NoPl.ty{ws:List Wr}{l:List Int}(h:NoPl ws l){u v:Int}(hu:u ∈ l)(hv:v ∈ l) : tyW ws u v≠1:=by
 unfold tyW
 split
 ·decide
 ·rename_i h0
  obtain ⟨w,h1,h2,_⟩:=Xbi (l:=ws) (a:=u) (b:=v) (by omega)
  have h3:=h w (Qe h1) u hu v hv h2
  rw [show ws.getD (fdW ws u v).toNat wZ=w from by rw [Qa,h1];rfl,h3]
  decide
theorem NoPl.tgI{d:Dg}{l:List Int}(h:NoPl d.ws l){u v:Int}(hu:u ∈ l)(hv:v ∈ l) : tgI d u v=tgD d u v:=by
 unfold Go.Proofs.YtpifljegadknkaaGreat.tgI
 rw [Q3 (h.ty hu hv)]
theorem NoPl.sub{ws ws':List Wr}{l:List Int}(h:NoPl ws l)(hs:∀ w ∈ ws',w ∈ ws) : NoPl ws' l:=fun w hw=>h w (hs w hw)
theorem NoPl.tg{d:Dg}{l:List Int}(h:NoPl d.ws l)(u v:Int) : NoPl (tgD d u v).ws l:=by
 unfold tgD
 split
 ·exact h.sub fun w hw=>(X3t _ _).subset hw
 ·intro w hw
  rcases X7y.1 hw with rfl|hw
  ·intro _ _ _ _ _;rfl
  ·exact h w hw
theorem Xsl{d:Dg}(hw:WSd d.ws)(u v:Int) : WSd (tgD d u v).ws:=by
 unfold tgD
 split
 ·exact Xc9 hw _
 ·rename_i h
  exact X8y hw (by omega)
theorem Xc5{d:Dg}(hD:InD d){l:List Int}(h:rdyD d l=true) : NoPl d.ws l:=by
 intro w hw u hu v hv hwv
 unfold rdyD at h
 rw [W1] at h
 have key:∀ i j (hi:i<l.length) (hj:j<i),tyW d.ws (l.getD i 0) (l.getD j 0)≠1:=fun i j hi hj=>by
  have h1:=h i (W2.2 hi)
  unfold rdQ at h1
  rw [Qd,W1] at h1
  have h2:=h1.2 (l.getD j 0) (by
   have:(l.take i)[j]? = some (l.getD j 0):=by rw [Wg hj];exact Xb (by omega)
   exact Qe this)
  simpa using h2
 have hiw:=X3j.1 hwv;have hab:=hD.w.l w hw
 have hne:u≠v:=fun e=>by subst e;rw [hiw.1,hiw.2,Int.min_self,Int.max_self] at hab;omega
 obtain ⟨i,hi,rfl⟩:=List.mem_iff_getElem.1 hu;obtain ⟨j,hj,rfl⟩:=List.mem_iff_getElem.1 hv
 have gi:l.getD i 0=l[i]:=by rw [Qa,Qc hi];rfl
 have gj:l.getD j 0=l[j]:=by rw [Qa,Qc hj];rfl
 have hty:tyW d.ws l[i] l[j]≠1:=by
  rcases Nat.lt_trichotomy i j with h9|h9|h9
  ·have:=key j i hj h9
   rw [gi,gj,Xem] at this
   exact this
  ·subst h9;exact absurd rfl hne
  ·have:=key i j hi h9
   rw [gi,gj] at this
   exact this
 have hfd:0≤fdW d.ws l[i] l[j]:=by
  rcases X4t d.ws l[i] l[j] with ⟨_,h2⟩|⟨k,x,h1,_⟩
  ·rw [h2 w hw] at hwv;cases hwv
  ·omega
 obtain ⟨x,h1,h2,_⟩:=Xbi hfd;have hx:=X3j.1 h2
 have e:x=w:=by
  refine Xjl hD.w.s (Qe h1) hw ?_ ?_
  ·rw [X6u];omega
  ·rw [X6u];omega
 subst e
 rw [Xm6 hfd,show d.ws.getD (fdW d.ws l[i] l[j]).toNat wZ=x from by rw [Qa,h1];rfl] at hty
 cases hh:x.h with
 | true=>rfl
 | false=>rw [hh] at hty;simp at hty
theorem Xpb(ns:List Nd)(x p:Int) : adN ns x (-p)=adN ns x (8-p):=by
 unfold adN
 congr 2
 omega
theorem Xod{L:List Int}{x:Int}(hx:x ∈ L) : ∀ (r:List Int) (o:Dg),NoPl o.ws L→(∀ y ∈ r,y ∈ L)→r.foldl (fun o y=>tgI o y x) o=tgL o x r∧NoPl (tgL o x r).ws L
 | [],o,h,_=>⟨rfl,h⟩
 | y::r,o,h,hr=>by
  have hy:=hr y (by simp)
  have e:tgI o y x=tgD o x y:=by rw [h.tgI hy hx,Xdr]
  have ih:=Xod hx r (tgD o x y) (h.tg x y) fun z hz=>hr z (by simp [hz])
  rw [List.foldl_cons,e]
  exact ih
def lcI(p:Int)(l:List Int)(o:Dg) : Nat→Dg
 | 0=>o
 | i+1=>(l.take i).foldl (fun o y=>tgI o y (l.getD i 0)) { lcI p l o i with ns:=adN (lcI p l o i).ns (l.getD i 0) (-p) }
theorem Xi2{p:Int}{l:List Int}{o:Dg}(h:NoPl o.ws l) : ∀ i,i≤l.length→lcI p l o i=lcS p l o i∧NoPl (lcS p l o i).ws l
 | 0,_=>⟨rfl,h⟩
 | i+1,hi=>by
  obtain ⟨h1,h2⟩:=Xi2 (p:=p) h i (by omega)
  have hx:l.getD i 0 ∈ l:=Qe (Xb (d:=0) (by omega))
  have h3:=Xod hx (l.take i) { lcS p l o i with ns:=adN (lcS p l o i).ns (l.getD i 0) (8-p) } h2 fun y hy=>Wd hy
  show (l.take i).foldl (fun o y=>tgI o y (l.getD i 0)) { lcI p l o i with ns:=adN (lcI p l o i).ns (l.getD i 0) (-p) }=_∧_
  rw [h1,Xpb]
  exact h3
theorem Xc8(d:Dg)(a:Int)(l:List Int)(hl:l=nearW d.ws a) : (!(l.any fun x=>!(spI d.ns x)||tyW d.ws a x != 2)&&!(prD d l))=(hadD d a&&rdyD d l):=by
 apply Bool.eq_iff_iff.2
 unfold hadD rdyD prD
 rw [← hl]
 simp only [Qd,Bool.not_eq_true',W7,W1,W2]
 constructor
 ·rintro ⟨h1,h2⟩
  refine ⟨fun v hv=>?_,fun i hi=>?_⟩
  ·have:=h1 v hv
   simp only [Bool.or_eq_true,not_or,Bool.not_eq_true',Bool.not_eq_false] at this
   simpa using this.2
  ·have hm:l.getD i 0 ∈ l:=Qe (Xb (d:=0) hi)
   have h3:=h1 _ hm
   simp only [Bool.or_eq_true,not_or,Bool.not_eq_true',Bool.not_eq_false] at h3
   have h4:=h2 i hi
   unfold prQ at h4
   unfold rdQ
   rw [Qd,W1]
   refine ⟨h3.1,fun y hy=>?_⟩
   rw [Bool.not_eq_true,W7] at h4
   have:=h4 y hy
   simpa [bne] using this
 ·rintro ⟨h1,h2⟩
  refine ⟨fun v hv=>?_,fun i hi=>?_⟩
  ·obtain ⟨i,hi,rfl⟩:=List.mem_iff_getElem.1 hv;have h3:=h2 i hi
   unfold rdQ at h3
   rw [Qd] at h3
   have g:l.getD i 0=l[i]:=by rw [Qa,Qc hi];rfl
   rw [g] at h3
   have h4:=h1 _ hv
   rw [h3.1]
   simpa using h4
  ·have h3:=h2 i hi
   unfold rdQ at h3
   rw [Qd,W1] at h3
   unfold prQ
   rw [Bool.not_eq_true,W7]
   intro y hy
   have:=h3.2 y hy
   simpa [bne] using this
theorem Xqp{d:Dg}{a:Int}(h:(!(!((nearW d.ws a).any fun x=>!(spI d.ns x)||tyW d.ws a x != 2))||prD d (nearW d.ws a))=true) : lcC d a=false:=by
 have e:=Xc8 d a (nearW d.ws a) rfl
 unfold lcC
 rw [Bool.and_assoc,← e]
 generalize ((nearW d.ws a).any fun x=>!(spI d.ns x)||tyW d.ws a x != 2)=u at h ⊢
 generalize prD d (nearW d.ws a)=v at h ⊢
 cases u<;>cases v<;>simp at h ⊢
theorem Xjw{d:Dg}(hD:InD d){a:Int}(h1:spI d.ns a=true∧((d.ns.getD a.toNat nZ).p=2∨(d.ns.getD a.toNat nZ).p=6))(h:(!(!((nearW d.ws a).any fun x=>!(spI d.ns x)||tyW d.ws a x != 2))||prD d (nearW d.ws a))=false) : lcC d a=true∧NoPl (id0 d a).ws (nearW d.ws a):=by
 have e:=Xc8 d a (nearW d.ws a) rfl
 have h3:(hadD d a&&rdyD d (nearW d.ws a))=true:=by
  rw [← e]
  generalize ((nearW d.ws a).any fun x=>!(spI d.ns x)||tyW d.ws a x != 2)=u at h ⊢
  generalize prD d (nearW d.ws a)=v at h ⊢
  cases u<;>cases v<;>simp at h ⊢
 rw [Qd] at h3
 exact ⟨Xed h1 (by rw [h3.1,h3.2];rfl),(Xc5 hD h3.2).sub fun w hw=>(List.mem_filter.1 hw).1⟩
theorem Xgf{p u:Int}{l:List Int}{o:Dg}{k:Nat}(hu:l[k]? = some u) : lcI p l o (k+1)=(l.take k).foldl (fun o y=>tgI o y u) { lcI p l o k with ns:=adN (lcI p l o k).ns u (-p) }:=by
 have e:l.getD k 0=u:=by rw [Qa,hu];rfl
 show (l.take k).foldl (fun o y=>tgI o y (l.getD k 0)) { lcI p l o k with ns:=adN (lcI p l o k).ns (l.getD k 0) (-p) }=_
 rw [e]
theorem X9x(d:Dg)(a b:Int) : (tgI d a b).ns=d.ns:=by
 unfold tgI
 split
 ·rfl
 ·exact (X2p d a b).1
theorem Xea(d:Dg)(a b:Int) : (tgI d a b).ws.length≤d.ws.length+1:=by
 unfold tgI
 split
 ·omega
 ·exact (X2p d a b).2
theorem Xhq{d:Dg}(h:WSd d.ws)(a b:Int) : WSd (tgI d a b).ws:=by
 unfold tgI
 split
 ·exact h
 ·exact Xsl h a b
theorem Xte(w0:World)(bV B0:Nat)(A0:Option Addr)(c0:Nat)(A1:Option Addr)(c1 m0:Nat)(d:Dg)(bW:Dgm w0 bV B0 A0 c0 A1 c1 m0 d)(aO:B0≤w0.heap.size)(p:Int)(hG:goodD d=true) : Ret Tryz.prog 172 [.pointer (some ⟨bV,0,none⟩),vi p] w0 (fun v w=>∃ A c,v=.bool (lcC d p)∧TurnS (SB bV [A0,A1]) w0 w∧Us (SB bV [A0,A1]) w0 A∧Dgm w bV B0 A0 c0 A c m0 (if lcC d p=true then outD (lcD d p) else d)):=by
 obtain ⟨b,f,B,U⟩:=bW;have cV:=b.lt
 have aP:Us (SB bV [A0,A1]) w0 A0:=SB.us (by simp)
 have aQ:Us (SB bV [A0,A1]) w0 A1:=SB.us (by simp)
 have hD:=X15 hG;have d5:=hD.m;have d6:=hD.len;have bX:=X23 d.ws p;have cW:=X34 hD p;have d7:=X1i hD.p p.toNat;refine enter Tryz.func172 rfl 107 rfl rfl ?_;intro a i
 have C:TurnS (SB bV [A0,A1]) w0 w0:=TurnS.refl _ _
 refine Zs i fun _ bY=>?_;refine Za rfl<|ZX bY fun a i _ c4=>?_;refine Q5 fun _ cA=>?_;refine X09 (fun a w=>Fr a 107 [(0,.pointer (some ⟨bV,0,none⟩)),(1,vi p),(28,.bool ((!(spI d.ns p))||((((d.ns.getD p.toNat nZ).p).tmod 4) != 2)))]∧Below w0.heap.size w0 w) ?_ ?_
 ·have M:=bz w0
  refine Zr i<|Zm rfl<|Ze (Xw rfl)<|Ze (X02 (l:=[vi d.n,.slice A0 m0 c0,.slice A1 d.ws.length c1,vi d.t,vi d.r]) rfl X2 (b.at 0) rfl)<|Zm rfl<|Zf (Vc (X5m _ d m0 U A0 c0 f.rd.top A1 c1 B.rd.top B.cap p (by omega)) X2v) ?_;rintro _ w1 ⟨rfl,D⟩;have b:=b.below D;have f:=f.below D;have C:=tsbel C D;have M:=btr M D;refine Ze (X0y rfl)<|Zm rfl ?_
  refine Zg 17 rfl (fun q=>?_) (fun q=>?_)
  ·refine Zp (gP q) ?_;refine Zp (gP q) ?_;refine Zp (gP q) ?_;refine Zp (gP q) ?_;refine Zp (gP q) ?_;refine Zp (gP q) ?_;refine Zp (gP q) ?_;refine Zp (gP q) ?_;refine Zp (gP q) ?_;refine Zp (gP q) ?_;refine Ze (X8 rfl q rfl) ?_;refine Zn fun a i=>?_
   have aC:Below w0.heap.size w0 w1:=M
   exact ⟨i.sub ⟨rfl,rfl,X1 rfl (by first|rfl|(simp only [q,bs];done)|simp [q]),trivial⟩,aC⟩
  have b3:0≤p∧p.toNat<d.ns.length:=by have h9:=X11 (ns:=d.ns) (k:=p) (by simpa using q);exact ⟨h9.1,h9.2.1⟩
  refine Zv (gW q) (X3 rfl) ?_;refine Zv (gW q) (Xw rfl) ?_;refine Zv (gW q) (Vd rfl Xi 1) ?_;refine Zv (gW q) (X0 rfl Xz (b.at 1)) ?_;refine Zv (gW q) (X3 rfl) ?_;refine Zv (gW q) (Xg (k:=p.toNat) rfl rfl Xo X07 f U (by omega) (by omega)) ?_;refine Zv (gW q) (X0z rfl X04 (m':=p.toNat*2+1) rfl) ?_;refine Zv (gW q) (X0 rfl X9 (X0d f Xt (Xb (d:=nZ) (by omega)) 1 rfl)) ?_;refine Zv (gW q) (X3y rfl rfl rfl) ?_;refine Zv (gW q) (X18 rfl rfl) ?_;refine Ze (Xe rfl q rfl) ?_;refine Zn fun a i=>?_
  have aC:Below w0.heap.size w0 w1:=M
  exact ⟨i.sub ⟨rfl,rfl,X1 rfl (by first|rfl|(simp only [q,bs];done)|simp [q]),trivial⟩,aC⟩
 rintro a w2 ⟨i,D⟩;have b:=b.below D;have f:=f.below D;have B:=B.below D;have C:=tsbel C D;refine cA _ _ ?_
 refine Xh i rfl (fun aJ=>?_) (fun aJ=>?_)
 ·have a6:=aJ;have aR:=Xj6 hD aJ;refine Zs i fun _ cB=>?_;refine Za rfl<|Zt cB fun a i=>?_;refine Q6<|X7<|X5 i (Xr i rfl rfl) ?_
  rw [aR,Q3 Bool.false_ne_true]
  exact ⟨A1,c1,rfl,C,aQ,⟨b,f,B,U⟩⟩
 have a6:=aJ;have aK:=Xf4 hD aJ
 have b3:0≤p∧p.toNat<d.ns.length:=⟨(X11 aK.1).1,(X11 aK.1).2.1⟩
 refine Q7<|c4 _ _<|Q5 fun _ cC=>?_;refine X05 none (fun _=>false) mixed ?_;intro w3 D;have b:=b.below D;have f:=f.below D;have B:=B.below D;have C:=tsbel C D;refine Yb i<|Yo 0 rfl (fun _=>X3 rfl)<|Yo 1 rfl (fun _=>Xw rfl)<|Ye 2 rfl (X02 (l:=[vi d.n,.slice A0 m0 c0,.slice A1 d.ws.length c1,vi d.t,vi d.r]) rfl X2 (b.at 0) rfl)<|Yo 3 rfl (fun _=>X3 rfl)<|Yo 5 rfl (fun _=>X3 rfl)<|Yo 6 rfl (fun _=>Xw rfl)<|Yo 7 rfl (fun _=>Vd rfl Xi 1)<|Ye 8 rfl (X0 rfl Xz (b.at 1))<|Yo 9 rfl (fun _=>X3 rfl)<|Yo 10 rfl (fun _=>Xg (k:=p.toNat) rfl rfl Xo X07 f U (by omega) (by omega)) ?_;refine Yo 11 rfl (fun _=>X0z rfl X04 (m':=p.toNat*2+1) rfl)<|Ye 12 rfl (X0 rfl X9 (X0d f Xt (Xb (d:=nZ) (by omega)) 1 rfl))<|Y1 4 ?_;refine Yk rfl trivial (Vc (X93 _ d m0 U A0 c0 f.rd.top A1 c1 B.rd.top B.cap p hD.w (by omega)) X5e) (fun _ _ ⟨J,N,_,g,D⟩=>D) ?_;rintro _ w4 ⟨J,N,rfl,g,D⟩;have g:=g.lower C.size;have b:=b.below D;have f:=f.below D;have B:=B.below D;have C:=tsbel C D;refine Yo 13 rfl (fun _=>X0l rfl)<|Yo 14 rfl (fun _=>X0l rfl) ?_;refine Yd fun a i=>?_;refine cC _ _<|Q5 fun _ b4=>?_;refine Q5 fun _ b5=>?_;refine X09 (fun a w=>Fr a 107 [(0,.pointer (some ⟨bV,0,none⟩)),(1,vi p),(5,.slice J (nearW d.ws p).length N),(6,vi ((d.ns.getD p.toNat nZ).p)),(55,.bool ((!(!((nearW d.ws p).any fun x=>!(spI d.ns x)||tyW d.ws p x != 2)))||(prD d (nearW d.ws p))))]∧Below w4.heap.size w4 w) ?_ ?_
 ·have M:Below w4.heap.size w4 w4:=Below.refl _ _
  refine Zr i<|Zm rfl<|Ze (Xw rfl)<|Ze (X02 (l:=[vi d.n,.slice A0 m0 c0,.slice A1 d.ws.length c1,vi d.t,vi d.r]) rfl X2 (b.at 0) rfl)<|Zm rfl<|Zm rfl<|Zf (Vc (Xgr _ d m0 U A0 c0 f.rd.top A1 c1 B.rd.top B.cap p J N (nearW d.ws p) g.rd.top (by omega) (by omega) (by omega)) Xaa) ?_;rintro _ w5 ⟨rfl,D⟩;have b:=b.below D;have f:=f.below D;have B:=B.below D;have g:=g.below D;have C:=tsbel C D;have M:=btr M D;refine Ze (X0y rfl)<|Zm rfl ?_
  refine Zg 49 rfl (fun h=>?_) (fun h=>?_)
  ·refine Zp (gP h) ?_;refine Zp (gP h) ?_;refine Zp (gP h) ?_;refine Zp (gP h) ?_;refine Zp (gP h) ?_;refine Ze (X8 rfl h rfl) ?_;refine Zn fun a i=>?_
   have aC:Below w4.heap.size w4 w5:=M
   exact ⟨i.sub ⟨rfl,rfl,rfl,rfl,X1 rfl (by first|rfl|(simp only [a6,h,bs];done)|simp [a6,h]),trivial⟩,aC⟩
  refine Zv (gW h) (X3 rfl) ?_;refine Zv (gW h) (Xw rfl) ?_;refine Zv (gW h) (X02 (l:=[vi d.n,.slice A0 m0 c0,.slice A1 d.ws.length c1,vi d.t,vi d.r]) rfl X2 (b.at 0) rfl) ?_;refine Zv (gW h) (X3 rfl) ?_;refine Zk (gW h) (Vc (Xob _ d m0 U A0 c0 f.rd.top A1 c1 B.rd.top B.cap J N (nearW d.ws p) g.rd.top (by omega) (by omega) g.cap) Xen) ?_;rintro _ w6 ⟨rfl,D⟩;have C:=tsbel C D;have M:=btr M D;refine Ze (Xe rfl h rfl) ?_;refine Zn fun a i=>?_
  have aC:Below w4.heap.size w4 w6:=M
  exact ⟨i.sub ⟨rfl,rfl,rfl,rfl,X1 rfl (by first|rfl|(simp only [a6,h,bs];done)|simp [a6,h]),trivial⟩,aC⟩
 rintro a w7 ⟨i,D⟩;have b:=b.below D;have f:=f.below D;have B:=B.below D;have g:=g.below D;have C:=tsbel C D;refine b5 _ _ ?_
 refine Xh i rfl (fun a7=>?_) (fun a7=>?_)
 ·have aS:=a7
  have aR:lcC d p=false:=Xqp a7
  refine Zs i fun _ b6=>?_;refine Za rfl<|Zt b6 fun a i=>?_;refine Q6<|X7<|X5 i (Xr i rfl rfl) ?_
  rw [aR,Q3 Bool.false_ne_true]
  exact ⟨A1,c1,rfl,C,aQ,⟨b,f,B,U⟩⟩
 have aS:=a7;obtain ⟨cD,cE⟩:=Xjw hD aK a7;refine Q7<|b4 _ _<|Zs i fun _ b7=>?_;refine Zm rfl<|Zm rfl<|Zf (Vc (X91 _ bV B0 A0 c0 A1 c1 m0 d ⟨b,f,B,U⟩ (Q0 aO C.size) p b3 (by omega)) X56) ?_;rintro _ w8 ⟨cF,cG,L,aD,a8,I,b8,cH⟩;have g:=g.tu L b rfl (alc (X0k f rfl) (alc (X0k B rfl) al0));have Q:=SB.lift (S:=SB bV [A0,A1]) (w0:=w0) (.inl (.inl rfl)) (alc aP (alc aQ al0));have aD:=Us.trans aD Q C.size
 have C:=tstr C L Q;clear Q
 clear L b;have b:=a8;clear a8
 clear f;have f:=I;clear I;refine ZX b7 fun a i _ b9=>?_;refine Zs i fun _ bA=>?_;refine Zm rfl<|Ze (X0c rfl Xj)<|Zm rfl<|Zt bA fun a i=>?_;refine Q8<|X01 (σ:=Nat×Dg) (fun (s:Nat×Dg) (a:Act) (w:World)=>match s with|(k,o)=>∃ aA aE,Fr a 107 [(0,.pointer (some ⟨bV,0,none⟩)),(5,.slice J (nearW d.ws p).length N),(6,vi ((d.ns.getD p.toNat nZ).p)),(59,.slice J (nearW d.ws p).length N),(60,vi ((nearW d.ws p).length:Int)),(61,vi (k:Int))]∧(k≤(nearW d.ws p).length)∧(o=lcI (d.ns.getD p.toNat nZ).p (nearW d.ws p) (id0 d p) k)∧(m0=o.ns.length)∧(o.ws.length≤d.ws.length+k*1000)∧(PhN o.ns)∧(WSd o.ws)∧Blk w bV 39 [vi o.n,.slice A0 m0 c0,.slice aA o.ws.length aE,vi o.t,vi o.r]∧Own w B0 81 2 encNd A0 c0 o.ns∧Own w w0.heap.size 3 1 encI J N (nearW d.ws p)∧Own w B0 83 3 encWr aA aE o.ws∧Us (SB bV [A0,A1]) w0 aA∧TurnS (SB bV [A0,A1]) w0 w) (fun (s:Nat×Dg)=>match s with|(k,o)=>(nearW d.ws p).length-k) (0,(id0 d p)) ?_ ?_
 ·exact ⟨cF,cG,i.sb,(Qf _),rfl,(U.trans (X1m _ _).symm),(Q0 bX (by omega)),(X4y hD.p p),(List.Pairwise.filter _ hD.w.s),b,f,g,b8,aD,C⟩
 rintro ⟨k,o⟩ a w9 ⟨aA,aE,i,hk,bB,aT,cJ,aU,cK,b,f,g,E,aM,C⟩;refine Zs i fun _ bC=>?_;refine Ze (X0m rfl rfl)<|ZX bC fun a i _ bD=>?_
 refine Xh i rfl (fun G=>?_) (fun G=>?_)
 ·have aW:=G;have G:=Q2 G
  obtain ⟨d8,cX⟩:=X4 (l:=(nearW d.ws p)) (k:=k) (by omega)
  obtain ⟨u9,aX⟩:=X4 (l:=(nearW d.ws p)) (k:=k) (by have:=G;omega)
  have cL:=X61 hD aX;have d9:=X1i aU u9.toNat;refine Q7<|bD _ _<|Q5 fun _ bE=>?_;refine Q8<|Zs i fun _ bF=>?_;refine Zm rfl<|Ze (Xg (k:=k) rfl rfl Xj X08 g rfl rfl (by omega))<|Ze (X0 rfl X9 (X0d g Xa aX 0 rfl))<|Za rfl<|Za rfl<|Zx bF fun a i _ bG=>?_;refine Zm rfl<|Zm rfl<|Zm rfl<|Ze (Vx (Xvx rfl) (IntWalk.i64_in _ ⟨by omega,by omega⟩))<|Zf (Vc (Xay _ bV B0 A0 c0 aA aE m0 o ⟨b,f,E,aT⟩ (Q0 aO C.size) u9 (-(d.ns.getD p.toNat nZ).p) ⟨cL.1,by omega⟩ aU ⟨by omega,by omega⟩) X6f) ?_;rintro _ cM ⟨cN,cO,L,aF,a8,I,bH,cP⟩;have g:=g.tu L b rfl (alc (X0k f rfl) (alc (X0k E rfl) al0));have Q:=SB.lift (S:=SB bV [A0,A1]) (w0:=w0) (.inl (.inl rfl)) (alc aP (alc aM al0));have aF:=Us.trans aF Q C.size
  have C:=tstr C L Q;clear Q
  clear L b;have b:=a8;clear a8
  clear f;have f:=I;clear I;refine Zx bG fun a i _ bJ=>?_;refine Zm rfl<|Zm rfl ?_;have W:=(g.rd.top).takeK Xa k;refine Ze (X2o (l:=(nearW d.ws p)) (k:=k) rfl rfl Xj X08 rfl hk g.cap)<|Ze (X0c rfl Xj)<|Zm rfl<|Zt bJ fun a i=>?_;refine Q8<|X01 (σ:=Nat×Dg) (fun (s:Nat×Dg) (a:Act) (w:World)=>match s with|(j,z)=>∃ aI aL,Fr a 107 [(0,.pointer (some ⟨bV,0,none⟩)),(5,.slice J (nearW d.ws p).length N),(6,vi ((d.ns.getD p.toNat nZ).p)),(8,vi u9),(59,.slice J (nearW d.ws p).length N),(60,vi ((nearW d.ws p).length:Int)),(61,vi (k:Int)),(73,.slice J ((nearW d.ws p).take k).length N),(74,vi (((nearW d.ws p).take k).length:Int)),(75,vi (j:Int))]∧(j≤((nearW d.ws p).take k).length)∧(z=(((nearW d.ws p).take k).take j).foldl (fun o y=>tgI o y u9) ({ o with ns:=adN o.ns u9 (-(d.ns.getD p.toNat nZ).p) } : Dg))∧(m0=z.ns.length)∧(z.ws.length≤o.ws.length+j)∧(PhN z.ns)∧(WSd z.ws)∧Blk w bV 39 [vi z.n,.slice A0 m0 c0,.slice aI z.ws.length aL,vi z.t,vi z.r]∧Own w B0 81 2 encNd A0 c0 z.ns∧Own w w0.heap.size 3 1 encI J N (nearW d.ws p)∧Rd w cM.heap.size 3 encI J ((nearW d.ws p).take k)∧Own w B0 83 3 encWr aI aL z.ws∧Us (SB bV [A0,A1]) w0 aI∧TurnS (SB bV [A0,A1]) w0 w) (fun (s:Nat×Dg)=>match s with|(j,z)=>((nearW d.ws p).take k).length-j) (0,({ o with ns:=adN o.ns u9 (-(d.ns.getD p.toNat nZ).p) } : Dg)) ?_ ?_
  ·exact ⟨cN,cO,i.sb,(Qf _),rfl,(aT.trans (X1s _ _ _).symm),(Qb _),(X5n aU _ _),cK,b,f,g,W,bH,aF,C⟩
  rintro ⟨j,z⟩ a dB ⟨aI,aL,i,hj,hz,aY,cQ,bK,aZ,b,f,g,W,aH,aN,C⟩;refine Zs i fun _ bL=>?_;refine Ze (X0m rfl rfl)<|ZX bL fun a i _ bM=>?_
  refine Xh i rfl (fun H=>?_) (fun H=>?_)
  ·have b0:=H;have H:=Q2 H
   obtain ⟨dC,cY⟩:=X4 (l:=((nearW d.ws p).take k)) (k:=j) (by omega)
   obtain ⟨v9,b1⟩:=X4 (l:=(nearW d.ws p).take k) (k:=j) (by have:=H;omega)
   have dD:j<k:=by have:=(Qg.1 b1).1;rw [Qn] at this;omega
   refine Q7<|bM _ _<|Q5 fun _ bN=>?_;refine Q8<|Zs i fun _ bO=>?_;refine Zi (k:=j) (u:=v9) (enc:=encI) (l:=((nearW d.ws p).take k)) trivial rfl rfl Xj X08 Xa W b1 rfl ?_;intro dE b2;refine Ze (X0 rfl X9 b2)<|Za rfl<|Zt bO fun a i=>?_;refine Zr i<|Zm rfl<|Zm rfl<|Zm rfl<|Zf (Vc (Xnp _ bV B0 A0 c0 aI aL m0 z ⟨b,f,aH,aY⟩ (Q0 aO C.size) v9 u9 aZ (by have:=cQ;have:=cJ;rw [Qn] at hj;omega)) Xds) ?_;rintro _ dF ⟨cR,cS,rfl,L,aG,a8,I,bP,cT⟩;have g:=g.tu L b rfl (alc (X0k f rfl) (alc (X0k aH rfl) al0));have W:=W.tu L b rfl (alc (X0k f rfl) (alc (X0k aH rfl) al0));have Q:=SB.lift (S:=SB bV [A0,A1]) (w0:=w0) (.inl (.inl rfl)) (alc aP (alc aN al0));have aG:=Us.trans aG Q C.size
   have C:=tstr C L Q;clear Q
   clear L b;have b:=a8;clear a8
   clear f;have f:=I;clear I;refine Zn fun a i=>?_;refine Xd<|bN _ _<|Zr i<|Ze (Xu rfl rfl (by omega) (by omega))<|Zm rfl ?_;refine Zn fun a i=>?_;refine Xf ?_;exact ⟨(j+1,(tgI z v9 u9)),⟨cR,cS,i.sb,(by omega),(by rw [X1z b1,← hz]),(by rw [X9x];exact aY),(by have:=Xea z v9 u9;omega),(by rw [X9x];exact bK),(Xhq aZ v9 u9),b,f,g,W,bP,aG,C⟩,(by first|omega|(dsimp only;omega))⟩
  have b0:=H;have H:=Q1 H
  have dG:j≤k:=by rw [Qn] at hj;omega
  have cU:z=lcI (d.ns.getD p.toNat nZ).p (nearW d.ws p) (id0 d p) (k+1):=by rw [hz,Qi (by have:=H;omega),bB,Xgf aX]
  refine Q9<|Xk<|Xk<|X03 ?_;refine Xd<|bE _ _<|Zr i<|Ze (Xu rfl rfl (by omega) (by omega))<|Zm rfl ?_;refine Zn fun a i=>?_;refine Xf ?_;exact ⟨(k+1,z),⟨aI,aL,i.sb,(by omega),cU,aY,(by omega),bK,aZ,b,f,g,aH,aN,C⟩,(by first|omega|(dsimp only;omega))⟩
 have aW:=G;have G:=Q1 G
 have bR:o=lcS (d.ns.getD p.toNat nZ).p (nearW d.ws p) (id0 d p) (nearW d.ws p).length:=by rw [bB,show k=(nearW d.ws p).length by have:=G;omega];exact (Xi2 cE _ (Qb _)).1
 refine Q9<|Xk<|Xk<|X03 ?_;refine b9 _ _<|Q5 fun _ bS=>?_;refine X05 none (fun j=>[12].contains j) mixed ?_;intro dH D;have b:=b.below D;have f:=f.below D;have E:=E.below D;have C:=tsbel C D;refine Yb i<|Yo 0 rfl (fun _=>X3 rfl)<|Yo 1 rfl (fun _=>X3 rfl)<|Yo 2 rfl (fun _=>Xw rfl)<|Yo 3 rfl (fun _=>Vd rfl X0q 3)<|Ye 4 rfl (X0 rfl X9 (b.at 3))<|Yo 5 rfl (fun _=>X16 (ps:=[(2,vi 1),(6,vi 7)]) (cs:=[vi 0,vi 0,vi 1,vi 0,vi 0,vi 0,vi 7]) rfl (fun _=>by first|rfl|kernel_rfl))<|Yo 6 rfl (fun _=>X3 rfl)<|Yo 7 rfl (fun _=>Xrs (k:=(d.ns.getD p.toNat nZ).p.toNat) (vs:=[vi 0,vi 0,vi 1,vi 0,vi 0,vi 0,vi 7]) (v:=vi (if (d.ns.getD p.toNat nZ).p=2 then 1 else 7)) rfl rfl Tryz.underlying211 X08 X9 (by omega) (by rcases aK.2 with e|e<;>rw [e]<;>decide) (by rcases aK.2 with e|e<;>rw [e]<;>rfl))<|Yo 8 rfl (fun _=>X3u rfl rfl)<|Yo 9 rfl (fun _=>X3y rfl rfl rfl) ?_;refine Yo 10 rfl (fun _=>Xw rfl)<|Yo 11 rfl (fun _=>Vd rfl X0q 3)<|Y1 12 ?_;refine Yh rfl trivial rfl (X12 (vs:=[vi ((wr (o.t+(if (d.ns.getD p.toNat nZ).p=2 then 1 else 7))).tmod 8)]) (l':=[vi o.n,.slice A0 m0 c0,.slice aA o.ws.length aE,vi ((wr (o.t+(if (d.ns.getD p.toNat nZ).p=2 then 1 else 7))).tmod 8),vi o.r]) rfl rfl X08 b rfl rfl rfl rfl rfl) ?_;rintro _ dI ⟨ho,hb⟩;have aB:=b;have f:=f.onlyT ho aB rfl;have E:=E.onlyT ho aB rfl;have C:=tsonly C ho (.inl (.inl rfl));have b:=hb;refine Yd fun a i=>?_;refine bS _ _<|Zs i fun _ bT=>?_;refine Zm rfl<|Ze (Xw rfl)<|Ze (Vd rfl Xy 4)<|Ze (X0 rfl X9 (b.at 4))<|Zm rfl<|Ze (X0c rfl Xj)<|Ze (X1h rfl rfl (by omega) (by omega))<|Ze (X3u rfl rfl)<|Ze (Xw rfl)<|Ze (Vd rfl Xy 4) ?_
 refine Zo (X12 (vs:=[vi (wr (o.r+(1-((nearW d.ws p).length:Int))))]) (l':=[vi o.n,.slice A0 m0 c0,.slice aA o.ws.length aE,vi ((wr (o.t+(if (d.ns.getD p.toNat nZ).p=2 then 1 else 7))).tmod 8),vi (wr (o.r+(1-((nearW d.ws p).length:Int))))]) rfl rfl X08 b rfl rfl rfl rfl rfl) ?_;rintro _ dJ ⟨ho,hb⟩;have aB:=b;have f:=f.onlyT ho aB rfl;have E:=E.onlyT ho aB rfl;have C:=tsonly C ho (.inl (.inl rfl));have b:=hb;refine Zx bT fun a i _ bU=>?_;refine Za rfl<|Zt bU fun a i=>?_
 refine Q6 (X5 i (Xr i rfl rfl) ?_)
 rw [cD,Q4 rfl,Xi5 bR]
 exact ⟨aA,aE,rfl,C,aM,⟨b,f,E,aT⟩⟩
theorem Xs6(w0:World)(x k:Int)(ba:Nat)(a6:Blk w0 ba 3 [vi k]) : Ret Tryz.prog 230 [vi x,.pointer (some ⟨ba,0,none⟩)] w0 (fun v w=>v=.bool (x==k)∧Below w0.heap.size w0 w):=by
 have a7:=a6.lt;refine enter Tryz.func230 rfl 7 rfl rfl ?_;intro a hf
 have hW:=bz w0
 refine Zs hf fun _ a8=>?_;refine Za rfl<|Zx a8 fun a hf _ aA=>?_;refine Zm rfl<|Ze (X0 rfl X9 (a6.at 0))<|Ze (X0a rfl rfl)<|Za rfl<|Zt aA fun a hf=>?_
 refine Q6 (X5 hf (Xr hf rfl rfl) ?_)
 exact ⟨rfl,hW⟩
theorem Xnd(g:World)(Al:Option Addr)(cl:Nat)(l:List Int)(i:Rd g g.heap.size 3 encI Al l)(k:Int)(a6:l.length≤1000000000) : Ret Tryz.prog 205 [.slice Al l.length cl,vi k] g (fun v w=>∃ A c,v=.slice A (l.filter fun v=>v != k).length c∧Own w g.heap.size 3 1 encI A c (l.filter fun v=>v != k)∧Below g.heap.size g w):=by
 refine enter Tryz.func205 rfl 9 rfl rfl ?_;intro a hf
 have d:=bz g
 refine Zs hf fun _ aA=>?_;refine Zf (X0h (zs:=[vi k]) rfl rfl) ?_;rintro _ w1 ⟨b3,rfl,a7,hE,e⟩;have aD:=Q0 d.size a7;have a8:=(i.below' d).away a7;have d:=btr d hE;refine Za rfl<|Zx aA fun a hf _ aB=>?_;refine Zm rfl<|Zf (Vc (Xw4 _ Al cl l (i.below' d).top a6) Xpa) ?_;rintro _ w2 ⟨A6,c6,rfl,b,hE⟩;have f:=b.awayNew e.lt;have b:=b.lower d.size;have e:=e.below hE;have d:=btr d hE;refine Ze (X38 (vs:=[.pointer (some ⟨b3,0,none⟩)]) rfl)<|Zf (Vc (Xv8 _ A6 c6 g.heap.size l b d.size 230 [.pointer (some ⟨b3,0,none⟩)] Xlf (fun v=>v==k) (fun x w' aC=>Xs6 w' x k _ (e.appA aC f)) a6) Xk5) ?_;rintro _ w3 ⟨rfl,j,hg⟩;have m:=b;have d:=Below.app d m hg (Qb _) d.size
 clear m hg;clear b;have b:=j;clear j;refine Za rfl<|Zt aB fun a hf=>?_
 refine Q6 (X5 hf (Xr hf rfl rfl) ?_)
 exact ⟨A6,c6,rfl,b,d⟩
def Off(w:World)(b:Nat)(l:List (Option Addr))(A:Option Addr) : Prop:=∀ k,ownB A=some k→k<w.heap.size∧¬ SB b l k
section
variable {α : Type} {w w' : World} {b B : Nat} {l l' : List (Option Addr)} {A : Option Addr} {E : TypeId} {sz c : Nat} {enc : α → List Value} {r : List α}
theorem X7o(h:Own w B E sz enc A c r){k:Nat}(hk:ownB A=some k) : k<w.heap.size:=by
 obtain ⟨_,_,_,_,h3⟩:=h.block (k:=k) (by rw [X4g];exact hk)
 exact (Qp.1 h3).1
theorem Off.mono(h:Off w b l A)(hs:w.heap.size≤w'.heap.size) : Off w' b l A:=fun k hk=>⟨Nat.lt_of_lt_of_le (h k hk).1 hs,(h k hk).2⟩
theorem Off.new{B':Nat}(h:Own w' B' E sz enc A c r)(hB:w.heap.size≤B')(hb:b<w.heap.size)(hl:∀ A' ∈ l,∀ k,ownB A'=some k→k<w.heap.size) : Off w' b l A:=fun k hk=>⟨X7o h hk,fun hs=>by
 have h9:=X1l h hk
 rcases hs with rfl|⟨A',h1,h2⟩
 ·omega
 ·have:=hl A' h1 k h2;omega⟩
theorem Own.off(h:Own w B E sz enc A c r)(hts:TurnS (SB b l) w w')(ho:Off w b l A) : Own w' B E sz enc A c r:=by
 refine ⟨h.1,?_⟩
 rcases h.2 with h2|⟨g,cap,cur,e1,e2,e3,e4⟩
 ·exact .inl h2
 ·refine .inr ⟨g,cap,cur,e1,e2,?_,e4⟩
  have hA:ownB A=some g:=by injection e1 with e1;subst e1;rfl
  have:=ho g hA
  rw [hts.block g this.1 this.2]
  exact e3
theorem Rd.off(h:Rd w B E enc A r)(hts:TurnS (SB b l) w w')(ho:Off w b l A) : Rd w' B E enc A r:=fun hl=>by
 obtain ⟨g,off,cs,fz,e1,e2,e3,e4⟩:=h hl
 refine ⟨g,off,cs,fz,e1,e2,?_,e4⟩
 subst e1
 have:=ho g rfl
 rw [hts.block g this.1 this.2]
 exact e3
theorem Off.tu(ho:Off w b l A)(hts:TurnS (SB b l) w w')(hl:∀ A' ∈ l',Us (SB b l) w A') : Off w' b l' A:=fun k hk=>⟨Nat.lt_of_lt_of_le (ho k hk).1 hts.size,fun hs=>by
 rcases hs with rfl|⟨A',h1,h2⟩
 ·exact (ho _ hk).2 (.inl rfl)
 ·rcases hl A' h1 k h2 with h3|h3
  ·exact (ho k hk).2 h3
  ·have:=(ho k hk).1;omega⟩
end
theorem Blk.tuN{w w':World}{b b2:Nat}{l:List (Option Addr)}{T2:TypeId}{cs:List Value}(h:Blk w b2 T2 cs)(hts:TurnS (SB b l) w w')(hne:b2≠b)(hr:∀ A ∈ l,ownB A≠some b2) : Blk w' b2 T2 cs:=by
 refine (hts.block b2 h.lt fun hk=>?_).trans h
 rcases hk with e|⟨A,hA,hk⟩
 ·exact hne e
 ·exact hr A hA hk
theorem Xsb(o:Dg)(a v:Int)(h:Bool)(u:Int) : spI (mtD o a v h).ns u=spI o.ns u:=by
 unfold mtD lkD
 split
 ·split
  ·rfl
  ·split
   ·rfl
   ·split
    ·exact Xnv _ _ _
    ·rfl
 ·rfl
theorem Xsr{o:Dg}{a v:Int}{h:Bool}{w:Wr}(hw:w ∈ (mtD o a v h).ws) : w ∈ o.ws∨(w.a=min a v∧w.b=max a v):=by
 unfold mtD lkD at hw
 split at hw
 ·split at hw
  ·rcases X7y.1 hw with rfl|hw
   ·exact .inr ⟨rfl,rfl⟩
   ·exact .inl hw
  ·split at hw
   ·exact .inl ((X3t _ _).subset hw)
   ·split at hw
    ·rcases X7y.1 hw with rfl|hw
     ·exact .inr ⟨rfl,rfl⟩
     ·exact .inl ((X3t _ _).subset hw)
    ·exact .inl hw
 ·rcases X7y.1 hw with rfl|hw
  ·exact .inr ⟨rfl,rfl⟩
  ·exact .inl hw
theorem Xwy{o:Dg}{a v:Int}{h:Bool}(hs:WSd o.ws)(hab:(spI o.ns a&&spI o.ns v)=false→fdW o.ws a v<0) : WSd (mtD o a v h).ws:=by
 unfold mtD lkD
 split
 ·split
  ·rename_i h1;exact X8y hs h1
  ·rename_i h1
   obtain ⟨w,h2,h3,_⟩:=Xbi (l:=o.ws) (a:=a) (b:=v) (by omega)
   split
   ·exact Xc9 hs _
   ·split
    ·exact X8y (Xc9 hs _) (by rw [Xf3 hs h2 h3];omega)
    ·exact hs
 ·rename_i h1
  exact X8y hs (hab (by simpa using h1))
structure FuI (d:Dg) (a b:Int) (k:Nat) (o:Dg) : Prop where
 s:WSd o.ws
 p:PhN o.ns
 l:o.ns.length=d.ns.length
 c:o.ws.length≤d.ws.length+k
 sp:∀ v,spI o.ns v=spI (dpN d.ns b) v
 bd:∀ j v,k≤j→(nearW d.ws b)[j]? = some v→spI d.ns v=false→∀ w ∈ o.ws,w.a≠v∧w.b≠v
theorem Xcc{d:Dg}{a b:Int}(h:fuC d a b=true) : spI d.ns a=true∧spI d.ns b=true∧a<b:=by
 unfold fuC at h
 simp only [Qd,Qr] at h
 exact ⟨h.1.1.1,h.1.1.2,h.1.2⟩
theorem FuI.init{d:Dg}(hG:goodD d=true){a b:Int} : FuI d a b 0 (fu0 d a b):=by
 have hD:=X15 hG
 refine ⟨List.Pairwise.filter _ hD.w.s,Xh9 hD a b,(X6g d a b).1,(X6g d a b).2,fun v=>Xnv _ _ _,fun j v _ hv hs=>?_⟩
 exact Xch hG (Qe hv) hs
theorem FuI.hab{d o:Dg}{a b v:Int}{k:Nat}(h:FuI d a b k o)(hD:InD d)(hc:fuC d a b=true)(hv:(nearW d.ws b)[k]? = some v)(hs:(spI o.ns a&&spI o.ns v)=false) : fdW o.ws a v<0:=by
 have h1:=Xcc hc;have h2:=Xca hc;have hvm:=Qe hv;have hvr:=X2u hD hvm
 rw [h.sp,h.sp,Xdi h2.1.1 h2.2.1 (by omega),Xdi hvr.1 h2.2.1 (Xa3 hD hvm),h1.1,Qw] at hs
 exact X9m (.inr (h.bd k v (Qb _) hv hs))
theorem Xqv{l:List Int}(h:Inc l){i j:Nat}{x y:Int}(hi:l[i]? = some x)(hj:l[j]? = some y)(hij:i<j) : x<y:=by
 obtain ⟨h1,rfl⟩:=Qg.1 hi;obtain ⟨h2,rfl⟩:=Qg.1 hj;exact W0.1 h i j h1 h2 hij
theorem FuI.step{d o:Dg}{a b v:Int}{k:Nat}{x:Bool}(h:FuI d a b k o)(hD:InD d)(hc:fuC d a b=true)(hv:(nearW d.ws b)[k]? = some v) : FuI d a b (k+1) (mtD o a v x):=by
 have hl:=X5x o a v x
 refine ⟨Xwy h.s (h.hab hD hc hv),Xjd h.p _ _ _,hl.1.trans h.l,by have:=h.c;omega,fun u=>(Xsb o a v x u).trans (h.sp u),fun j u hj hu hs w hw=>?_⟩
 rcases Xsr hw with hw|⟨e1,e2⟩
 ·exact h.bd j u (by omega) hu hs w hw
 ·have hlt:=Xqv (X3d (k:=b) hD.w) hv hu (by omega)
  have hua:u≠a:=fun e=>by rw [e,(Xcc hc).1] at hs;cases hs
  omega
theorem FuI.skip{d o:Dg}{a b:Int}{k:Nat}(h:FuI d a b k o) : FuI d a b (k+1) o:=⟨h.s,h.p,h.l,by have:=h.c;omega,h.sp,fun j u hj=>h.bd j u (by omega)⟩
theorem Xhn{d:Dg}(h:0≤d.t∧d.t≤7) : outD d=d:=by
 unfold outD
 rw [Int.tmod_eq_emod_of_nonneg h.1,Int.emod_eq_of_lt h.1 (by omega)]
theorem Xoh(o:Dg)(a v:Int)(h:Bool) : (mtD o a v h).t=o.t:=by
 unfold mtD lkD
 split
 ·split
  ·rfl
  ·split
   ·rfl
   ·split<;>rfl
 ·rfl
theorem Xna{d:Dg}{a b:Int} : ∀ (l:List Int) (o:Dg),(fuS d a b l o).t=o.t
 | [],_=>rfl
 | v::l,o=>by
  show (fuS d a b l (fuT d a b o v)).t=o.t
  rw [Xna l]
  unfold fuT
  split
  ·rfl
  ·exact Xoh _ _ _ _
theorem Xpu{d:Dg}{a b:Int}(h:(decide (a<0)||decide (b≤a)||!(spI d.ns a)||!(spI d.ns b)||tyW d.ws a b != 1)=true) : fuC d a b=false:=by
 cases hc:fuC d a b with
 | false=>rfl
 | true=>
  have h1:=Xcc hc;have h2:=Xca hc
  unfold fuC at hc
  simp only [Qd,beq_iff_eq] at hc
  simp [h1.1,h1.2.1,hc.2] at h
  omega
theorem Xka{d:Dg}{a b:Int}(h:(decide (a<0)||decide (b≤a)||!(spI d.ns a)||!(spI d.ns b)||tyW d.ws a b != 1)=false) : fuC d a b=true:=by
 unfold fuC
 simp only [Bool.or_eq_false_iff,Bool.not_eq_false',decide_eq_false_iff_not,bne_eq_false_iff_eq] at h
 rw [h.1.1.2,h.1.2,h.2,decide_eq_true (by omega)]
 rfl
theorem Xlp{d:Dg}(h:InD d)(a b:Int) : Inc (othW d.ws a b):=List.Pairwise.filter _ (X3d h.w)
theorem Xph{d:Dg}(h:InD d)(a b:Int) : unionI (othW d.ws a b) (othW d.ws b a)=pvL d a b:=
 Xab _ _ (Xfg _ _) (Xbs _ _ (Xlp h a b)) fun x=>by
  rw [Xft]
  exact (X6d _ _ _).symm
theorem Xe1{ns:List Nd}{x f e:Int}(hx:x.toNat<ns.length) : adN (adN ns x f) x e=adN ns x (f+e):=by
 have h:(adN ns x f).getD x.toNat nZ=⟨(ns.getD x.toNat nZ).k,((ns.getD x.toNat nZ).p+f) % 8⟩:=by
  unfold adN
  rw [Qa,List.getElem?_set_self hx]
  rfl
 unfold adN at h ⊢
 rw [h,List.set_set]
 congr 2
 dsimp only
 omega
theorem Xu2{ns:List Nd}(hp:PhN ns){x m:Int}(hm:m % 8=0) : adN ns x m=ns:=by
 by_cases hx:x.toNat<ns.length
 ·have h:=X1i hp x.toNat
  unfold adN
  rw [show ((ns.getD x.toNat nZ).p+m) % 8=(ns.getD x.toNat nZ).p by omega]
  apply List.ext_getElem?
  intro i
  rw [List.getElem?_set]
  split
  ·rename_i h1
   subst h1
   rw [Qa,Qc hx]
   simp
  ·rfl
 ·unfold adN
  rw [List.set_eq_of_length_le (by omega)]
theorem Xag{ns:List Nd}{x m m':Int}(h:m % 8=m' % 8) : adN ns x m=adN ns x m':=by
 unfold adN
 congr 2
 omega
theorem X78(l:List Int)(x:Int) : (l.any fun y=>x==y)=l.any fun v=>v==x:=by congr 1;funext y;exact Bool.beq_comm
def pvG(e f:Int)(p q:Bool) : Int:=(f*(if p=true then 1 else 0)+e*(if q=true then 1 else 0)+4*(if (p&&q)=true then 1 else 0)).tmod 8
theorem Xqc{e f:Int}(he:e=0∨e=4)(hf:f=0∨f=4)(p q:Bool) : 0≤pvG e f p q∧pvG e f p q≤7∧(0≤f*(if p=true then 1 else 0)∧f*(if p=true then 1 else 0)≤4)∧(0≤e*(if q=true then 1 else 0)∧e*(if q=true then 1 else 0)≤4)∧(0≤4*(if (p&&q)=true then 1 else 0:Int)∧4*(if (p&&q)=true then 1 else 0:Int)≤4):=by
 rcases he with rfl|rfl<;>rcases hf with rfl|rfl<;>cases p<;>cases q<;>decide
theorem Xi9(c:Bool)(o:Dg)(x m:Int) : stN c o x m = { o with ns:=if c=true then adN o.ns x m else o.ns }:=by
 unfold stN
 split<;>rfl
theorem Xq4{e f:Int}{l m:List Int}{x:Int}{o:Dg}(hp:PhN o.ns)(hx:x.toNat<o.ns.length)(he:e=0∨e=4)(hf:f=0∨f=4) : pv3 e f l m x o = { o with ns:=adN o.ns x (pvG e f (l.any fun v=>v==x) (m.any fun v=>v==x)) }:=by
 unfold pv3
 generalize (l.any fun v=>v==x)=p
 generalize (m.any fun v=>v==x)=q
 rw [Xi9,Xi9,Xi9]
 dsimp only
 congr 1
 cases p<;>cases q<;>simp only [Bool.and_true,Bool.and_false,Qw,if_true,Bool.false_eq_true,if_false]
 ·rcases he with rfl|rfl<;>rcases hf with rfl|rfl<;>exact (Xu2 hp (by decide)).symm
 ·rcases he with rfl|rfl<;>rcases hf with rfl|rfl<;>exact Xag (by decide)
 ·rcases he with rfl|rfl<;>rcases hf with rfl|rfl<;>exact Xag (by decide)
 ·rw [Xe1 (by rw [X1s];exact hx),Xe1 hx]
  rcases he with rfl|rfl<;>rcases hf with rfl|rfl<;>exact Xag (by decide)
def pvJ(l m:List Int)(x:Int)(o:Dg)(y:Int) : Dg:=if (((l.any fun v=>v==x)&&(m.any fun v=>v==y)) != ((m.any fun v=>v==x)&&(l.any fun v=>v==y)))=true then tgI o y x else o
theorem Xrm{l m:List Int}{x y:Int}{o:Dg}(h:(((l.any fun v=>v==x)&&(m.any fun v=>v==y)) != ((m.any fun v=>v==x)&&(l.any fun v=>v==y)))=true) : pvJ l m x o y=tgI o y x:=Q4 h
theorem Xrr{l m:List Int}{x y:Int}{o:Dg}(h:(((l.any fun v=>v==x)&&(m.any fun v=>v==y)) != ((m.any fun v=>v==x)&&(l.any fun v=>v==y)))=false) : pvJ l m x o y=o:=Q3 (by rw [h];decide)
def pvI(e f:Int)(l m r:List Int)(o:Dg) : Nat→Dg
 | 0=>o
 | i+1=>(r.take i).foldl (pvJ l m (r.getD i 0)) { pvI e f l m r o i with ns:=adN (pvI e f l m r o i).ns (r.getD i 0) (pvG e f (l.any fun v=>v==r.getD i 0) (m.any fun v=>v==r.getD i 0)) }
theorem Xaz{e f u:Int}{l m r:List Int}{o:Dg}{k:Nat}(hu:r[k]? = some u) : pvI e f l m r o (k+1)=(r.take k).foldl (pvJ l m u) { pvI e f l m r o k with ns:=adN (pvI e f l m r o k).ns u (pvG e f (l.any fun v=>v==u) (m.any fun v=>v==u)) }:=by
 have h:r.getD k 0=u:=by rw [Qa,hu];rfl
 show (r.take k).foldl (pvJ l m (r.getD k 0)) { pvI e f l m r o k with ns:=adN (pvI e f l m r o k).ns (r.getD k 0) (pvG e f (l.any fun v=>v==r.getD k 0) (m.any fun v=>v==r.getD k 0)) }=_
 rw [h]
theorem Xnw{L l m:List Int}{x:Int}(hx:x ∈ L) : ∀ (r:List Int) (o:Dg),NoPl o.ws L→(∀ y ∈ r,y ∈ L)→r.foldl (pvJ l m x) o=pvF l m x r o∧NoPl (pvF l m x r o).ws L∧(pvF l m x r o).ns=o.ns∧(pvF l m x r o).t=o.t
 | [],o,h,_=>⟨rfl,h,rfl,rfl⟩
 | y::r,o,h,hr=>by
  have hy:=hr y (by simp)
  have key:pvJ l m x o y=pvT l m x o y∧NoPl (pvT l m x o y).ws L∧(pvT l m x o y).ns=o.ns∧(pvT l m x o y).t=o.t:=by
   unfold pvJ pvT
   split
   ·rw [h.tgI hy hx,Xdr]
    exact ⟨rfl,h.tg x y,(X2p o x y).1,by unfold tgD;split<;>rfl⟩
   ·exact ⟨rfl,h,rfl,rfl⟩
  have ih:=Xnw (l:=l) (m:=m) hx r (pvT l m x o y) key.2.1 fun z hz=>hr z (by simp [hz])
  rw [List.foldl_cons,key.1]
  exact ⟨ih.1,ih.2.1,ih.2.2.1.trans key.2.2.1,ih.2.2.2.trans key.2.2.2⟩
theorem Xgi{e f:Int}{l m r:List Int}{o:Dg}(h:NoPl o.ws r)(hp:PhN o.ns)(hr:∀ v ∈ r,v.toNat<o.ns.length)(he:e=0∨e=4)(hf:f=0∨f=4) : ∀ i,i≤r.length→pvI e f l m r o i=pvM e f l m r o i∧NoPl (pvM e f l m r o i).ws r∧PhN (pvM e f l m r o i).ns∧(pvM e f l m r o i).ns.length=o.ns.length∧(pvM e f l m r o i).t=o.t
 | 0,_=>⟨rfl,h,hp,rfl,rfl⟩
 | i+1,hi=>by
  obtain ⟨h1,h2,h3,h4,h5⟩:=Xgi (l:=l) (m:=m) h hp hr he hf i (by omega)
  have hu:r[i]? = some (r.getD i 0):=Xb (d:=0) (by omega)
  have hx:r.getD i 0 ∈ r:=Qe hu
  have h6:=Xq4 (l:=l) (m:=m) (x:=r.getD i 0) h3 (by rw [h4];exact hr _ hx) he hf
  have h7:=Xnw (l:=l) (m:=m) hx (r.take i) (pv3 e f l m (r.getD i 0) (pvM e f l m r o i)) (by rw [h6];exact h2) fun y hy=>Wd hy
  rw [Xaz hu,Xav hu,h1,← h6]
  refine ⟨h7.1,h7.2.1,?_,?_,?_⟩
  ·rw [h7.2.2.1,h6];exact X5n h3 _ _
  ·rw [h7.2.2.1,h6];exact (X1s _ _ _).trans h4
  ·rw [h7.2.2.2,h6];exact h5
theorem Xfn(d:Dg)(l:List Int) : rdyD d l=true↔(∀ v ∈ l,spI d.ns v=true)∧prD d l=false:=by
 unfold rdyD prD
 rw [W1,W7]
 constructor
 ·intro h
  refine ⟨fun v hv=>?_,fun i hi=>?_⟩
  ·obtain ⟨i,hi,rfl⟩:=List.mem_iff_getElem.1 hv;have h3:=h i (W2.2 hi)
   unfold rdQ at h3
   rw [Qd] at h3
   have g:l.getD i 0=l[i]:=by rw [Qa,Qc hi];rfl
   rw [g] at h3
   exact h3.1
  ·have h3:=h i hi
   unfold rdQ at h3
   rw [Qd,W1] at h3
   unfold prQ
   rw [Bool.not_eq_true,W7]
   intro y hy
   have:=h3.2 y hy
   simpa [bne] using this
 ·rintro ⟨h1,h2⟩ i hi
  have hm:l.getD i 0 ∈ l:=Qe (Xb (d:=0) (W2.1 hi))
  have h4:=h2 i hi
  unfold prQ at h4
  unfold rdQ
  rw [Qd,W1]
  refine ⟨h1 _ hm,fun y hy=>?_⟩
  rw [Bool.not_eq_true,W7] at h4
  have:=h4 y hy
  simpa [bne] using this
theorem Xjs{d:Dg}{a:Int} : hadD d a=true↔∀ v ∈ nearW d.ws a,tyW d.ws a v=2:=by
 unfold hadD
 rw [W1]
 exact ⟨fun h v hv=>by simpa using h v hv,fun h v hv=>by simpa using h v hv⟩
theorem Xll{d:Dg}{a:Int}{l:List Int} : (l.any fun x=>!(spI d.ns x)||tyW d.ws a x != 2)=false↔(∀ v ∈ l,spI d.ns v=true)∧∀ v ∈ l,tyW d.ws a v=2:=by
 rw [W7]
 constructor
 ·intro h
  refine ⟨fun v hv=>?_,fun v hv=>?_⟩
  ·have:=h v hv
   simp only [Bool.or_eq_true,not_or,Bool.not_eq_true',Bool.not_eq_false] at this
   exact this.1
  ·have:=h v hv
   simp only [Bool.or_eq_true,not_or,Bool.not_eq_true',Bool.not_eq_false] at this
   simpa using this.2
 ·rintro ⟨h1,h2⟩ v hv
  rw [h1 v hv,h2 v hv]
  decide
theorem Xbf(d:Dg)(a b:Int)(h:tyW d.ws a b=2) : (!((othW d.ws a b).any fun x=>!(spI d.ns x)||tyW d.ws a x != 2)&&!((othW d.ws b a).any fun x=>!(spI d.ns x)||tyW d.ws b x != 2)&&!(prD d (pvL d a b)))=(hadD d a&&hadD d b&&rdyD d (pvL d a b)):=by
 have hm:∀ v,v ∈ pvL d a b↔v ∈ othW d.ws a b∨v ∈ othW d.ws b a:=fun v=>X6d _ _ _
 have ho:∀ x c v,v ∈ othW d.ws x c↔v ∈ nearW d.ws x∧v≠c:=fun x c v=>by unfold othW;rw [List.mem_filter];simp
 apply Bool.eq_iff_iff.2
 simp only [Qd,Bool.not_eq_true',Xll,Xfn,Xjs]
 constructor
 ·rintro ⟨⟨⟨h1,h2⟩,h3,h4⟩,h5⟩
  refine ⟨⟨fun v hv=>?_,fun v hv=>?_⟩,fun v hv=>?_,h5⟩
  ·by_cases e:v=b
   ·rw [e];exact h
   ·exact h2 v ((ho _ _ _).2 ⟨hv,e⟩)
  ·by_cases e:v=a
   ·rw [e,Xem];exact h
   ·exact h4 v ((ho _ _ _).2 ⟨hv,e⟩)
  ·rcases (hm v).1 hv with h9|h9
   ·exact h1 v h9
   ·exact h3 v h9
 ·rintro ⟨⟨h1,h2⟩,h3,h5⟩;exact ⟨⟨⟨fun v hv=>h3 v ((hm v).2 (.inl hv)),fun v hv=>h1 v ((ho _ _ _).1 hv).1⟩,fun v hv=>h3 v ((hm v).2 (.inr hv)),fun v hv=>h2 v ((ho _ _ _).1 hv).1⟩,h5⟩
theorem Xk3{d:Dg}(hd:InD d){a b:Int}(h:(decide (a<0)||decide (b≤a)||!(spI d.ns a)||!(spI d.ns b)||(tyW d.ws a b != 2)||((d.ns.getD a.toNat nZ).p.tmod 4 != 0)||((d.ns.getD b.toNat nZ).p.tmod 4 != 0))=true) : pvC d a b=false:=by
 cases hs:spI d.ns a
 ·unfold pvC;rw [hs];rfl
 refine Xiw hd ?_;have h0:=X11 hs
 rw [hs] at h ⊢
 rw [show decide (a<0)=false from decide_eq_false (by omega)] at h
 revert h
 generalize decide (b≤a)=x1
 generalize spI d.ns b=x2
 generalize (tyW d.ws a b != 2)=x3
 generalize ((d.ns.getD a.toNat nZ).p.tmod 4 != 0)=x4
 generalize ((d.ns.getD b.toNat nZ).p.tmod 4 != 0)=x5
 revert x1 x2 x3 x4 x5
 decide
theorem Xip{d:Dg}(hd:InD d){a b:Int}(h:(decide (a<0)||decide (b≤a)||!(spI d.ns a)||!(spI d.ns b)||(tyW d.ws a b != 2)||((d.ns.getD a.toNat nZ).p.tmod 4 != 0)||((d.ns.getD b.toNat nZ).p.tmod 4 != 0))=false) : (0≤a∧a.toNat<d.ns.length)∧(0≤b∧b.toNat<d.ns.length)∧(((d.ns.getD a.toNat nZ).p=0∨(d.ns.getD a.toNat nZ).p=4)∧((d.ns.getD b.toNat nZ).p=0∨(d.ns.getD b.toNat nZ).p=4))∧(spI d.ns a&&spI d.ns b&&decide (a<b)&&(d.ns.getD a.toNat nZ).p % 4==0&&(d.ns.getD b.toNat nZ).p % 4==0&&tyW d.ws a b==2)=true∧tyW d.ws a b=2∧a<b:=by
 have h2:(!(spI d.ns a)||!(spI d.ns b)||decide (b≤a)||((d.ns.getD a.toNat nZ).p.tmod 4 != 0)||((d.ns.getD b.toNat nZ).p.tmod 4 != 0)||(tyW d.ws a b != 2))=false:=by
  revert h
  generalize decide (a<0)=x0
  generalize spI d.ns a=x6
  generalize decide (b≤a)=x1
  generalize spI d.ns b=x2
  generalize (tyW d.ws a b != 2)=x3
  generalize ((d.ns.getD a.toNat nZ).p.tmod 4 != 0)=x4
  generalize ((d.ns.getD b.toNat nZ).p.tmod 4 != 0)=x5
  revert x0 x6 x1 x2 x3 x4 x5
  decide
 have h3:=Xer hd h2
 refine ⟨h3.1,h3.2.1,h3.2.2.1,h3.2.2.2,?_,?_⟩
 ·simp only [Bool.or_eq_false_iff,bne_eq_false_iff_eq] at h;exact h.1.1.2
 ·simp only [Bool.or_eq_false_iff,decide_eq_false_iff_not] at h;omega
theorem Xk2{d:Dg}{a b:Int}(h2:tyW d.ws a b=2)(h:(!(!((othW d.ws a b).any fun x=>!(spI d.ns x)||tyW d.ws a x != 2))||!(!((othW d.ws b a).any fun x=>!(spI d.ns x)||tyW d.ws b x != 2))||prD d (pvL d a b))=true) : pvC d a b=false:=by
 have e:=Xbf d a b h2
 refine Xgb ?_
 revert e h
 generalize ((othW d.ws a b).any fun x=>!(spI d.ns x)||tyW d.ws a x != 2)=x1
 generalize ((othW d.ws b a).any fun x=>!(spI d.ns x)||tyW d.ws b x != 2)=x2
 generalize prD d (pvL d a b)=x3
 generalize hadD d a=x4
 generalize hadD d b=x5
 generalize rdyD d (pvL d a b)=x6
 revert x1 x2 x3 x4 x5 x6
 decide
theorem Xgz{d:Dg}(hD:InD d){a b:Int}(h1:(spI d.ns a&&spI d.ns b&&decide (a<b)&&(d.ns.getD a.toNat nZ).p % 4==0&&(d.ns.getD b.toNat nZ).p % 4==0&&tyW d.ws a b==2)=true)(h2:tyW d.ws a b=2)(h:(!(!((othW d.ws a b).any fun x=>!(spI d.ns x)||tyW d.ws a x != 2))||!(!((othW d.ws b a).any fun x=>!(spI d.ns x)||tyW d.ws b x != 2))||prD d (pvL d a b))=false) : pvC d a b=true∧NoPl (id0 (id0 d a) b).ws (pvL d a b):=by
 have e:=Xbf d a b h2
 have h3:(hadD d a&&hadD d b&&rdyD d (pvL d a b))=true:=by
  rw [← e]
  revert h
  generalize ((othW d.ws a b).any fun x=>!(spI d.ns x)||tyW d.ws a x != 2)=x1
  generalize ((othW d.ws b a).any fun x=>!(spI d.ns x)||tyW d.ws b x != 2)=x2
  generalize prD d (pvL d a b)=x3
  revert x1 x2 x3
  decide
 rw [Qd] at h3
 refine ⟨Xfb h1 ?_,(Xc5 hD h3.2).sub fun w hw=>(List.mem_filter.1 (List.mem_filter.1 hw).1).1⟩
 rw [Qd] at h3
 rw [h3.1.1,h3.1.2,h3.2]
 rfl
theorem Xp7{d o:Dg}{a b:Int}(ht:0≤d.t∧d.t≤7)(h:o=pvM (d.ns.getD a.toNat nZ).p (d.ns.getD b.toNat nZ).p (othW d.ws a b) (othW d.ws b a) (pvL d a b) (id0 (id0 d a) b) (pvL d a b).length)(hot:o.t=d.t)(hp:((d.ns.getD a.toNat nZ).p=0∨(d.ns.getD a.toNat nZ).p=4)∧((d.ns.getD b.toNat nZ).p=0∨(d.ns.getD b.toNat nZ).p=4)) :
  outD (pvD d a b) = { o with t:=if ((d.ns.getD a.toNat nZ).p==4&&(d.ns.getD b.toNat nZ).p==4)=true then (wr (o.t+4)).tmod 8 else o.t,r:=wr (o.r+(1-((othW d.ws a b).length:Int)-((othW d.ws b a).length:Int))) }:=by
 rw [Xcf h]
 have e:((d.ns.getD a.toNat nZ).p+(d.ns.getD b.toNat nZ).p==8)=((d.ns.getD a.toNat nZ).p==4&&(d.ns.getD b.toNat nZ).p==4):=by
  rcases hp with ⟨h1|h1,h2|h2⟩<;>rw [h1,h2]<;>rfl
 unfold outD
 rw [e]
 dsimp only
 split
 ·rfl
 ·have:o.t.tmod 8=o.t:=by rw [hot,Int.tmod_eq_emod_of_nonneg ht.1,Int.emod_eq_of_lt ht.1 (by omega)]
  rw [this]
def smQ(f:Nat→Int) : Nat→Int
 | 0=>0
 | n+1=>smQ f n+f n
theorem Xf0(f g:Nat→Int) : ∀ n,smQ (fun j=>f j+g j) n=smQ f n+smQ g n
 | 0=>rfl
 | n+1=>by unfold smQ;rw [Xf0 f g n];omega
theorem X5f{f g:Nat→Int} : ∀ n,(∀ j,j<n→f j=g j)→smQ f n=smQ g n
 | 0,_=>rfl
 | n+1,h=>by unfold smQ;rw [X5f n fun j hj=>h j (by omega),h n (by omega)]
theorem Xeh(p:Int) : ∀ n:Nat,smQ (fun j=>if p=(j:Int) then 1 else 0) n=if 0≤p∧p<(n:Int) then 1 else 0
 | 0=>by rw [Q3 (by omega)];rfl
 | n+1=>by
  unfold smQ
  rw [Xeh p n]
  split<;>split<;>split<;>omega
theorem Xj4{f:Nat→Int} : ∀ n:Nat,(∀ j,j<n→2≤f j)→2*(n:Int)≤smQ f n∧(smQ f n=2*(n:Int)→∀ j,j<n→f j=2)
 | 0,_=>⟨by simp [smQ],fun _ j hj=>by omega⟩
 | n+1,h=>by
  have ih:=Xj4 n fun j hj=>h j (by omega)
  have hn:=h n (by omega)
  unfold smQ
  refine ⟨by omega,fun he j hj=>?_⟩
  by_cases e:j=n
  ·subst e;omega
  ·exact ih.2 (by omega) j (by omega)
theorem Xex{f:Nat→Int} : ∀ n:Nat,(∀ j,j<n→f j=2)→smQ f n=2*(n:Int)
 | 0,_=>rfl
 | n+1,h=>by
  have ih:=Xex n fun j hj=>h j (by omega)
  have hn:=h n (by omega)
  unfold smQ
  omega
theorem Xb3(x:Nd)(ns:List Nd)(k p:Int) : ctN (x::ns) k p=(if x.k=k∧x.p=p then 1 else 0)+ctN ns k p:=by
 unfold ctN
 rw [List.filter_cons]
 by_cases h:x.k=k∧x.p=p
 ·rw [Q4 h,Q4 (by simp [h.1,h.2]),Qs]
  omega
 ·rw [Q3 h,Q3 (by simpa using h)]
  omega
theorem Xis(x:Nd)(ns:List Nd) : bnI (x::ns)=(if x.k=1∨x.k=2 then 1 else 0)+bnI ns:=by
 unfold bnI
 rw [List.filter_cons]
 by_cases h:x.k=1∨x.k=2
 ·rw [Q4 h,Q4 (by simpa using h),Qs]
  omega
 ·rw [Q3 h,Q3 (by simpa using h)]
  omega
theorem Xtg{n:Int}{x:Nd}(h:nokI n x=true)(hk:x.k=1∨x.k=2) : 0≤x.p∧x.p<n:=by
 unfold nokI at h
 rw [Q3 (by rcases hk with e|e<;>rw [e]<;>decide),Q4 (by simpa using hk)] at h
 have:=X0e.1 h
 omega
theorem Xi4(n:Nat) : ∀ ns:List Nd,(∀ x ∈ ns,nokI (n:Int) x=true)→bnI ns=smQ (fun j=>ctN ns 1 (j:Int)+ctN ns 2 (j:Int)) n
 | [],_=>by
  have:∀ m,smQ (fun j=>ctN [] 1 (j:Int)+ctN [] 2 (j:Int)) m=0:=fun m=>by
   induction m with
   | zero=>rfl
   | succ m ih=>unfold smQ;rw [ih];rfl
  rw [this]
  rfl
 | x::ns,h=>by
  have ih:=Xi4 n ns fun y hy=>h y (by simp [hy])
  have hx:=h x (by simp)
  rw [Xis,ih]
  have e:∀ j:Nat,ctN (x::ns) 1 (j:Int)+ctN (x::ns) 2 (j:Int)=((if x.k=1∨x.k=2 then (if x.p=(j:Int) then 1 else 0) else 0))+(ctN ns 1 (j:Int)+ctN ns 2 (j:Int)):=fun j=>by
   rw [Xb3,Xb3]
   by_cases h1:x.k=1
   ·by_cases h2:x.p=(j:Int)
    ·simp [h1,h2];omega
    ·simp [h1,h2]
   ·by_cases h3:x.k=2
    ·by_cases h2:x.p=(j:Int)
     ·simp [h3,h2];omega
     ·simp [h3,h2]
    ·simp [h1,h3]
  have e2:=Xf0 (fun j:Nat=>if x.k=1∨x.k=2 then (if x.p=(j:Int) then (1:Int) else 0) else 0) (fun j=>ctN ns 1 (j:Int)+ctN ns 2 (j:Int)) n
  rw [X5f n fun j _=>e j]
  refine Eq.trans ?_ e2.symm
  congr 1
  by_cases hk:x.k=1∨x.k=2
  ·rw [Q4 hk,X5f n fun j _=>Q4 hk,Xeh,Q4 (Xtg hx hk)]
  ·have:∀ m,smQ (fun _=>(0:Int)) m=0:=fun m=>by
    induction m with
    | zero=>rfl
    | succ m ih=>unfold smQ;rw [ih];rfl
   rw [Q3 hk,X5f n fun j _=>Q3 hk,this]
theorem Xuz{ns:List Nd}{k p:Int} : decide (fnI ns ⟨k,p⟩<0)=decide (ctN ns k p<1):=by
 have h:decide (0≤fnI ns ⟨k,p⟩)=ns.any fun y=>decide ((⟨k,p⟩ : Nd)=y):=Xf6
 have h2:(ns.any fun y=>decide ((⟨k,p⟩ : Nd)=y))=decide (1≤ctN ns k p):=by
  rw [Bool.eq_iff_iff,List.any_eq_true,Qr]
  unfold ctN
  constructor
  ·rintro ⟨y,hy,he⟩
   have he:(⟨k,p⟩ : Nd)=y:=by simpa using he
   have hm:y ∈ ns.filter fun x=>x.k==k&&x.p==p:=List.mem_filter.2 ⟨hy,by subst he;simp⟩
   have:=List.length_pos_of_mem hm
   omega
  ·intro hl
   obtain ⟨y,hy⟩:=List.exists_mem_of_length_pos (l:=ns.filter fun x=>x.k==k&&x.p==p) (by omega)
   have hf:=List.mem_filter.1 hy
   refine ⟨y,hf.1,?_⟩
   have hk:y.k=k∧y.p=p:=by simpa using hf.2
   obtain ⟨k',p'⟩:=y
   simp only at hk
   simp [hk.1,hk.2]
 have h3:=h.trans h2
 rw [Bool.eq_iff_iff] at h3 ⊢
 simp only [Qr] at h3 ⊢
 omega
theorem Xpy{d:Dg}(hn:1≤d.n)(hok:∀ x ∈ d.ns,nokI d.n x=true) : heD d=endQ d:=by
 have hnn:d.n=((d.n.toNat:Nat) : Int):=by omega
 have hs:=Xi4 d.n.toNat d.ns (by rw [← hnn];exact hok)
 unfold heD endQ enQ heQ
 rw [Bool.eq_iff_iff]
 simp only [Qd,W1,W2,Xuz,Bool.not_eq_true',Bool.or_eq_false_iff,decide_eq_false_iff_not,beq_iff_eq]
 constructor
 ·rintro ⟨h1,h2⟩
  have h3:=Xj4 (f:=fun j=>ctN d.ns 1 (j:Int)+ctN d.ns 2 (j:Int)) d.n.toNat fun j hj=>by have:=h1 j hj;omega
  have h4:=h3.2 (by omega)
  refine ⟨fun j hj=>?_,fun j hj=>?_⟩
  ·have:=h1 j hj;have:=h4 j hj;omega
  ·have:=h1 j hj;have:=h4 j hj;omega
 ·rintro ⟨h1,h2⟩
  refine ⟨fun j hj=>by have:=h1 j hj;have:=h2 j hj;omega,?_⟩
  rw [hs,Xex d.n.toNat fun j hj=>by have:=h1 j hj;have:=h2 j hj;omega]
  omega
theorem Xix{d:Dg}{k:Nat}{x:Nd}(hx:d.ns[k]? = some x) : ndQ d (k:Int)=(nokI d.n x&&nvQ d k):=by
 have hg:d.ns.getD ((k:Int)).toNat nZ=x:=by rw [Qj,Qa,hx];rfl
 rw [Xno hx]
 unfold ndQ nokI
 rw [hg]
 cases h0:(x.k==0)
 ·cases h1:(x.k==1||x.k==2)
  ·cases h3:(x.k==3)
   ·simp
   ·simp
  ·simp [bne]
 ·have e:x.k=0:=by simpa using h0
  rw [e]
  simp [bne]
theorem Xoc{d:Dg}{i:Nat}{u:Wr}(hu:d.ws[i]? = some u) : wvQ d i=wrQ d i:=by
 rw [Xoo hu,Xio hu]
 have e1:decide (0≤cmW (d.ws.getD (i-1) wZ) u) = !(wlt (d.ws.getD (i-1) wZ) u):=by
  rw [← Xiv]
  rw [Bool.eq_iff_iff]
  simp
 rw [e1]
 congr 1
 have e2:(decide (u.a<0)||decide (u.b≤u.a)) = !(inR u.a 0 (u.b-1)):=by
  rw [Bool.eq_iff_iff]
  simp only [Bool.or_eq_true,Qr,Bool.not_eq_true',← Bool.not_eq_true,X0e]
  omega
 rw [e2]
theorem X76(d:Dg) : ivD d=goodD d:=by
 unfold ivD goodD
 have ew:(List.range d.ws.length).all (wvQ d)=(List.range d.ws.length).all (wrQ d):=by
  rw [Bool.eq_iff_iff,W1,W1]
  constructor
  ·intro h i hi
   have:=h i hi
   rwa [Xoc (Xb (d:=wZ) (W2.1 hi))] at this
  ·intro h i hi
   rw [Xoc (Xb (d:=wZ) (W2.1 hi))]
   exact h i hi
 have en:(List.range d.ns.length).all (fun k=>ndQ d (k:Int))=(!(d.ns.any fun x=>!nokI d.n x)&&(List.range d.ns.length).all (nvQ d)):=by
  rw [Bool.eq_iff_iff]
  simp only [Qd,Bool.not_eq_true',W7,W1,W2]
  constructor
  ·intro h
   refine ⟨fun x hx=>?_,fun i hi=>?_⟩
   ·obtain ⟨i,hi⟩:=List.mem_iff_getElem?.1 hx
    have:=h i (Qg.1 hi).1
    rw [Xix hi,Qd] at this
    rw [this.1]
    decide
   ·have:=h i hi
    rw [Xix (Xb (d:=nZ) hi),Qd] at this
    exact this.2
  ·rintro ⟨h1,h2⟩ i hi;have hx:=Xb (d:=nZ) hi
   rw [Xix hx,h2 i hi,Bool.and_true]
   have:=h1 _ (Qe hx)
   simpa using this
 rw [ew,en]
 unfold hvQ hdQ
 by_cases hok:∀ x ∈ d.ns,nokI d.n x=true
 ·by_cases hn:1≤d.n
  ·rw [Xpy hn hok]
   generalize inR d.n 1 5=x1
   generalize decide (40<(d.ns.length:Int))=x2
   generalize inR d.t 0 7=x3
   generalize inR d.r (-60) 60=x4
   generalize (d.ns.any fun x=>!nokI d.n x)=x5
   generalize endQ d=x6
   generalize (List.range d.ws.length).all (wrQ d)=x7
   generalize (List.range d.ns.length).all (nvQ d)=x8
   revert x1 x2 x3 x4 x5 x6 x7 x8
   decide
  ·have:inR d.n 1 5=false:=by rw [← Bool.not_eq_true,X0e];omega
   rw [this]
   simp
 ·have h5:(d.ns.any fun x=>!nokI d.n x)=true:=by
   rw [List.any_eq_true]
   obtain ⟨x,hx,h9⟩ : ∃ x,x ∈ d.ns∧nokI d.n x≠true:=Classical.byContradiction fun hn=>hok fun x hx=>Classical.byContradiction fun h9=>hn ⟨x,hx,h9⟩
   exact ⟨x,hx,by simpa using h9⟩
  rw [h5]
  simp
def secL(d:Dg)(u:Int)(a:Int) : List Int:=if (u==1||u==4)=true then nearW d.ws a else [0]
def stR(d:Dg)(u:Int)(a:Nat)(l:List Int) : List Rz:=(l.map fun b=>(⟨u,a,b⟩ : Rz)).filter (apC d)
def stA(d:Dg)(u:Int)(k:Nat) : List Rz:=(List.range k).flatMap fun a=>stR d u a (secL d u a)
theorem Xd7(d:Dg)(u:Int)(k:Nat) : stA d u (k+1)=stA d u k++stR d u k (secL d u k):=by
 unfold stA
 rw [List.range_succ,List.flatMap_append]
 simp
theorem Xvr{d:Dg}{u:Int}{a j:Nat}{l:List Int}{b:Int}(hb:l[j]? = some b)(h:apC d ⟨u,a,b⟩=true) : stR d u a (l.take (j+1))=stR d u a (l.take j)++[⟨u,a,b⟩]:=by
 unfold stR
 rw [Qt,hb,Option.toList_some,List.map_append,List.filter_append]
 simp [h]
theorem Xsf{d:Dg}{u:Int}{a j:Nat}{l:List Int}{b:Int}(hb:l[j]? = some b)(h:apC d ⟨u,a,b⟩=false) : stR d u a (l.take (j+1))=stR d u a (l.take j):=by
 unfold stR
 rw [Qt,hb,Option.toList_some,List.map_append,List.filter_append]
 simp [h]
theorem Xe8{ws:List Wr}(h:InW ws){a b:Int}(ht:tyW ws a b≠0) : b ∈ nearW ws a:=by
 obtain ⟨w,h1,h2,_⟩:=Xbi (Xfo ht);have h3:=X3j.1 h2;have hm:=Qe h1;have hl:=h.l w hm
 refine X67.2 ⟨w,hm,?_⟩
 unfold otW
 by_cases e:a≤b
 ·rw [Q4 (by omega)]
  congr 1
  omega
 ·rw [Q3 (by omega),Q4 (by omega)]
  congr 1
  omega
theorem Xq1{d:Dg}(hD:InD d){u a b:Int}(h:apC d ⟨u,a,b⟩=true) : b ∈ secL d u a:=by
 unfold apC at h
 rw [Qd] at h
 have hc:=h.1
 unfold doC at hc
 dsimp only at hc
 unfold secL
 split at hc
 ·rename_i h1
  rw [Q4 (by rw [h1];rfl)]
  unfold fuC at hc
  simp only [Qd,beq_iff_eq] at hc
  exact Xe8 hD.w (by omega)
 ·rename_i h1
  split at hc
  ·rename_i h4
   rw [Q4 (by rw [h4];simp)]
   unfold pvC at hc
   simp only [Qd,beq_iff_eq] at hc
   exact Xe8 hD.w (by omega)
  ·rename_i h4
   rw [Q3 (by simp only [Bool.or_eq_true,not_or];exact ⟨h1,h4⟩)]
   split at hc
   ·cases hc
   ·rename_i hb
    have:b=0:=by simpa using hb
    rw [this]
    simp
theorem Xks{d:Dg}(hD:InD d)(u a:Int) : Inc (secL d u a):=by
 unfold secL
 split
 ·exact X3d hD.w
 ·exact List.pairwise_singleton _ _
theorem Xpr{d:Dg}(hD:InD d)(hn:0<d.ns.length){u a b:Int}(hb:b ∈ secL d u a) : 0≤b∧b<(d.ns.length:Int):=by
 unfold secL at hb
 split at hb
 ·have:=X2u hD hb;omega
 ·have:b=0:=by simpa using hb
  omega
theorem Xh0(n:Nat) : Inc (ranI n):=by
 unfold ranI
 exact List.Pairwise.map _ (fun a b h=>by omega) List.pairwise_lt_range
theorem Xqq{d:Dg}(hD:InD d)(u:Int){a:Nat}(hn:0<d.ns.length) : stR d u a (secL d u a)=alR d u a d.ns.length:=by
 have h1:stR d u a (secL d u a)=((secL d u a).filter fun b=>apC d ⟨u,a,b⟩).map fun b=>(⟨u,a,b⟩ : Rz):=by
  unfold stR
  rw [List.filter_map]
  rfl
 have h2:alR d u a d.ns.length=((ranI d.ns.length).filter fun b=>apC d ⟨u,a,b⟩).map fun b=>(⟨u,a,b⟩ : Rz):=by
  unfold alR ranI
  rw [List.filter_map,List.filter_map,List.map_map]
  rfl
 rw [h1,h2]
 congr 1
 refine Xab _ _ (List.Pairwise.filter _ (Xks hD u a)) (List.Pairwise.filter _ (Xh0 _)) fun x=>?_
 rw [List.mem_filter,List.mem_filter]
 constructor
 ·rintro ⟨h3,h4⟩
  refine ⟨?_,h4⟩
  have:=Xpr hD hn h3
  unfold ranI
  rw [W6]
  exact ⟨x.toNat,W2.2 (by omega),by omega⟩
 ·rintro ⟨_,h4⟩;exact ⟨Xq1 hD h4,h4⟩
theorem Xgp{d:Dg}(hD:InD d)(u:Int) : stA d u d.ns.length=alL d u:=by
 unfold alL
 have h:∀ k,k≤d.ns.length→stA d u k=alS d u k:=fun k=>by
  induction k with
  | zero=>intro _;rfl
  | succ k ih=>
   intro hk
   rw [Xd7,Xj2,ih (by omega),Xqq hD u (by omega)]
 exact h _ (Qb _)
theorem Xsi{α:Type}{l m:List α}(h:m.length=1) : (m++l).take 1=m:=by
 rw [List.take_append_of_le_length (by omega),Qi (by omega)]
def brQ(d:Dg)(q:Nat) : Bool:=tyW d.ws (fnI d.ns ⟨1,(q:Int)⟩) (fnI d.ns ⟨2,(q:Int)⟩)==1
def brD(d:Dg) : Bool:=(List.range d.n.toNat).all (brQ d)&&((spL d.ns).length:Int)==0
section
variable {d : Dg}
end
section
variable {d : Dg} {r : Rz}
theorem ot9(hG:goodD d=true){o:Dg}(h:o.t=d.t) : outD o=o:=Xhn (by rw [h];exact (X7c hG).2.2.1)
theorem Xwq(h:(r.b != 0&&r.u != 1&&r.u != 4)=true) : doC d r=false:=by
 simp only [Qd,bne_iff_ne] at h
 exact Xtx (by simpa using h.1.2) (by simpa using h.2) (by simpa using h.1.1)
theorem Xwa(hG:goodD d=true)(h:(r.u==1)=true) : doC d r=fuC d r.a r.b∧outD (doD d r)=fuD d r.a r.b:=by
 obtain ⟨h1,h2⟩:=Xuw (d:=d) h;exact ⟨h1,by rw [h2];exact ot9 hG (Xna _ _)⟩
theorem X8b{m n:Int}(h:(r.u==m)=true)(hn:m≠n) : (r.u==n)=false:=by
 have:r.u=m:=by simpa using h
 rw [this]
 simpa using hn
theorem b_0(h17:(r.b != 0&&r.u != 1&&r.u != 4)=false){m:Int}(h:(r.u==m)=true)(h1:m≠1)(h4:m≠4) : (r.b != 0)=false:=by
 have:r.u=m:=by simpa using h
 rw [this,show (m != 1)=true from by simpa using h1,show (m != 4)=true from by simpa using h4] at h17
 simpa using h17
theorem Xw2(hG:goodD d=true)(h17:(r.b != 0&&r.u != 1&&r.u != 4)=false)(h:(r.u==2)=true) : doC d r=idC d r.a∧outD (doD d r)=idD d r.a:=by
 obtain ⟨h1,h2⟩:=Xs0 (d:=d) (X8b h (by decide)) (X8b h (by decide)) (b_0 h17 h (by decide) (by decide)) h
 exact ⟨h1,by rw [h2];exact ot9 hG (Xoh _ _ _ _)⟩
theorem Xw7(h17:(r.b != 0&&r.u != 1&&r.u != 4)=false)(h:(r.u==3)=true) : doC d r=lcC d r.a∧doD d r=lcD d r.a:=
 Xv1 (d:=d) (X8b h (by decide)) (X8b h (by decide)) (b_0 h17 h (by decide) (by decide)) (X8b h (by decide)) h
theorem Xwl(h:(r.u==4)=true) : doC d r=pvC d r.a r.b∧doD d r=pvD d r.a r.b:=Xsm (d:=d) (X8b h (by decide)) h
theorem Xwz(hG:goodD d=true)(h17:(r.b != 0&&r.u != 1&&r.u != 4)=false)(h:(r.u==5)=true) : doC d r=loC d r.a∧outD (doD d r)=loD d r.a:=by
 obtain ⟨h1,h2⟩:=Xs4 (d:=d) (X8b h (by decide)) (X8b h (by decide)) (b_0 h17 h (by decide) (by decide)) (X8b h (by decide)) (X8b h (by decide)) h
 exact ⟨h1,by rw [h2];exact ot9 hG rfl⟩
theorem Xwh(h1:(r.u==1)=false)(h2:(r.u==2)=false)(h3:(r.u==3)=false)(h4:(r.u==4)=false)(h5:(r.u==5)=false) : doC d r=false:=by
 unfold doC
 rw [h1,h2,h3,h4,h5]
 cases (r.b != 0)<;>rfl
theorem Xr1(hD:InD d){a:Int}(h:(!(spI d.ns a)||(d.ns.getD a.toNat nZ).p != 0||cnW d.ws a != 0)=true) : loC d a=false:=by
 rw [X64 hD.w.l] at h
 refine Xnq ?_
 rw [Bool.or_eq_true] at h ⊢
 rcases h with h|h
 ·exact .inl h
 ·right
  have:=bne_iff_ne.1 h
  exact decide_eq_true (by omega)
theorem Xmn(hD:InD d){a:Int}(h:(!(spI d.ns a)||(d.ns.getD a.toNat nZ).p != 0||cnW d.ws a != 0)=false) : loC d a=true∧0≤a∧a.toNat<d.ns.length:=by
 rw [X64 hD.w.l] at h
 refine Xj3 ?_
 rw [Bool.or_eq_false_iff] at h ⊢
 refine ⟨h.1,decide_eq_false ?_⟩
 have:=bne_eq_false_iff_eq.1 h.2
 omega
theorem Xqn{u:Int}(hD:InD d){k:Nat}(hk:k<d.ns.length)(j:Nat) : ∃ l,alL d u=(stA d u k++stR d u k ((secL d u k).take j))++l:=by
 have h1:∃ l,stR d u k (secL d u k)=stR d u k ((secL d u k).take j)++l:=by
  refine ⟨stR d u k ((secL d u k).drop j),?_⟩
  unfold stR
  rw [← List.filter_append,← List.map_append,W9]
 obtain ⟨l1,e1⟩:=h1
 have h2:∀ n,∃ l,stA d u (k+1+n)=stA d u (k+1)++l:=fun n=>by
  induction n with
  | zero=>exact ⟨[],by simp⟩
  | succ n ih=>
   obtain ⟨l,e⟩:=ih;exact ⟨l++stR d u (k+1+n) (secL d u ((k+1+n:Nat) : Int)),by rw [show k+1+(n+1)=(k+1+n)+1 from by omega,Xd7,e,Qx]⟩
 obtain ⟨l2,e2⟩:=h2 (d.ns.length-(k+1))
 refine ⟨l1++l2,?_⟩
 rw [← Xgp hD,show d.ns.length=k+1+(d.ns.length-(k+1)) by omega,e2,Xd7,e1]
 simp only [Qx]
theorem Xpn{u:Int}(hD:InD d){k:Nat}(hk:k<d.ns.length){j:Nat}{g:List Rz}(hg:g=stA d u k++stR d u k ((secL d u k).take j))(h1:g.length=1) : (alL d u).take 1=g:=by
 obtain ⟨l,e⟩:=Xqn (u:=u) hD hk j
 rw [e,← hg]
 exact Xsi h1
theorem Xi0{l:List Rz}(h:0<(l.take 1).length) : (l.take 1)[0]? = some (l.getD 0 rZ):=by
 cases l with
 | nil=>simp at h
 | cons x l=>rfl
theorem Xg9{l:List Rz}(h:0<(l.take 1).length) : 0<l.length:=by rw [Qn] at h;omega
theorem Xg7{l:List Rz}(h:¬ 0<(l.take 1).length) : l=[]:=by
 cases l with
 | nil=>rfl
 | cons x l=>simp at h
theorem Xug{l:List Int}(h:l=alR5){k:Nat}{u:Int}(hu:l[k]? = some u) : inR u 1 5=true∧((l.take k).any fun y=>u==y)=false:=by
 subst h
 match k,hu with
 | 0,hu=>injection hu with hu;subst hu;exact ⟨rfl,rfl⟩
 | 1,hu=>injection hu with hu;subst hu;exact ⟨rfl,rfl⟩
 | 2,hu=>injection hu with hu;subst hu;exact ⟨rfl,rfl⟩
 | 3,hu=>injection hu with hu;subst hu;exact ⟨rfl,rfl⟩
 | 4,hu=>injection hu with hu;subst hu;exact ⟨rfl,rfl⟩
 | k+5,hu=>simp [alR5] at hu
theorem Xt3{u:Int}{a:Int}(h:(u==1||u==4)=true) : secL d u a=nearW d.ws a:=Q4 h
theorem Xvn{u:Int}{a:Int}(h:(u==1||u==4)=false) : secL d u a=[0]:=Q3 (by rw [h];decide)
theorem Xjy(hD:InD d)(u a:Int) : (secL d u a).length≤1000001:=by
 unfold secL
 split
 ·have:=X34 hD a;have:=hD.m;omega
 ·simp
end
def Drx(w:World)(b B0:Nat)(A0:Option Addr)(c0:Nat)(A1:Option Addr)(c1:Nat)(A2:Option Addr)(c2:Nat)(A3:Option Addr)(c3 m n:Nat)(x:Br) : Prop:=
 Blk w b 131 [.int .i64 x.d.n,.slice A0 m c0,.slice A1 x.d.ws.length c1,.int .i64 x.d.t,.int .i64 x.d.r,.slice A2 n c2,.slice A3 n c3]∧Own w B0 81 2 encNd A0 c0 x.d.ns∧Own w B0 83 3 encWr A1 c1 x.d.ws∧Own w B0 3 1 encI A2 c2 x.la∧Own w B0 4 1 encB A3 c3 x.hd∧m=x.d.ns.length∧n=x.la.length∧n=x.hd.length
def Dg7(w:World)(b B0:Nat)(A0:Option Addr)(c0:Nat)(A1:Option Addr)(c1:Nat)(v5 v6:Value)(m:Nat)(d:Dg) : Prop:=
 Blk w b 131 [.int .i64 d.n,.slice A0 m c0,.slice A1 d.ws.length c1,.int .i64 d.t,.int .i64 d.r,v5,v6]∧Own w B0 81 2 encNd A0 c0 d.ns∧Own w B0 83 3 encWr A1 c1 d.ws∧m=d.ns.length
def BrS(x:Br) : Prop:=WSd x.d.ws∧RgW x.d.ns.length x.d.ws
theorem Xnm{x:Br}(hs:BrS x)(u:Int) : fdW x.d.ws u (x.d.ns.length:Int)<0:=X9m (.inr fun w hw=>by have:=hs.2 w hw;omega)
theorem Xor{n:Nat}{x:Br}(h:BrOk n x)(hs:BrS x){k p q:Int}(hq:0≤q∧q.toNat<n) : BrS (nodB x k p q):=⟨X8y hs.1 (Xnm hs _),Xik h hs.2 hq⟩
theorem Xbp{n:Nat}{x:Br}(h:BrOk n x)(hs:BrS x){q:Int}(hq:0≤q∧q.toNat<n) : BrS (plcB x q):=by
 unfold plcB
 split
 ·exact Xor h hs hq
 ·exact hs
theorem Xbr{n:Nat}{x:Br}(h:BrOk n x)(hs:BrS x){q:Int}(hq:0≤q∧q.toNat<n)(m:Int) : BrS (trnB x q m):=⟨(Xbp h hs hq).1,Xc0 h hs.2 hq m⟩
theorem Xs7{n:Nat}{x:Br}(h:BrOk n x)(hs:BrS x){p q:Int}(hp:0≤p∧p.toNat<n)(hq:0≤q∧q.toNat<n) : BrS (czB x p q):=by
 refine ⟨?_,Xpe h hs.2 hp hq⟩
 have h1:=Xbp (X31 h p) (Xbp h hs hp) hq
 unfold czB
 dsimp only
 split
 ·exact Xc9 h1.1 _
 ·rename_i h9
  exact X8y h1.1 (by omega)
theorem Xww{n:Nat}{x:Br}(h:BrOk n x)(hs:BrS x){g:Gt}(hg:gOk (n:Int) g=true) : BrS (gtB x g):=by
 have ha:=Xbc hg;have hb:=Xb9 hg
 unfold gtB
 split
 ·exact hs
 split
 ·exact Xbr (X1v h _) hs ha _
 split
 ·exact Xbr (X1v (X4s h _ _) _) (Xbr h hs ha _) ha _
 split
 ·exact Xs7 (X1v h _) hs ha hb
 split
 ·exact Xs7 h hs ha hb
 split
 ·exact hs
 split
 ·exact hs
 ·exact Xbr h hs ha _
theorem Xqt{x:Br}{q:Int}(h:((x.d.ns.getD (x.la.getD q.toNat 0).toNat nZ).k != 3||x.hd.getD q.toNat false)=false) : plcB x q=x:=Xnf (by rw [Bool.or_comm];exact h)
theorem Xr2{x:Br}{q:Int}(h:((x.d.ns.getD (x.la.getD q.toNat 0).toNat nZ).k != 3||x.hd.getD q.toNat false)=true) : plcB x q=nodB x 3 0 q:=Xn7 (by rw [Bool.or_comm];exact h)
theorem Xp8{x:Br}{p q:Int}(h:p.toNat≠q.toNat) : (plcB x q).la.getD p.toNat 0=x.la.getD p.toNat 0:=by
 unfold plcB
 split
 ·show (x.la.set q.toNat _).getD p.toNat 0=_
  rw [Qa,List.getElem?_set_ne (by omega),← Qa]
 ·rfl
theorem X7p(x:Br)(q:Int) : (plcB x q).d.t=x.d.t:=by unfold plcB;split<;>rfl
theorem X3s(x:Br)(q m:Int) : (trnB x q m).d.t=x.d.t:=X7p x q
theorem X8n(x:Br)(p q:Int) : (czB x p q).d.t=x.d.t:=by
 unfold czB
 dsimp only
 split
 ·exact (X7p _ _).trans (X7p _ _)
 ·exact (X7p _ _).trans (X7p _ _)
def reB(x:Br) : Br:={ x with d:=outD x.d }
def g8B(x:Br)(g:Gt) : Br:=reB (gtB x g)
theorem Xt7{x y:Br}(hx:0≤x.d.t∧x.d.t≤7)(h:y.d.t=x.d.t) : reB y=y:=by
 unfold reB
 rw [Xhn (by rw [h];exact hx)]
theorem Xur(x:Br)(g:Gt) : (gtB x g).d.t=(if (g.k==3)=true then wr (x.d.t+2) else if (g.k==12)=true then wr (x.d.t+1) else x.d.t):=by
 unfold gtB
 split
 ·rename_i h;rw [show g.k=1 by simpa using h];rfl
 split
 ·rename_i h;rw [show g.k=2 by simpa using h];exact X3s _ _ _
 split
 ·show wr ((yyB x g.a).d.t+2)=_
  rw [show (yyB x g.a).d.t=x.d.t from (X3s _ _ _).trans (X3s x g.a 4)]
 split
 ·rename_i h;rw [show g.k=9 by simpa using h];exact X8n _ _ _
 split
 ·rename_i h;rw [show g.k=10 by simpa using h];exact X8n _ _ _
 split
 ·rename_i h;rw [show g.k=11 by simpa using h];rfl
 split
 ·rfl
 ·exact X3s _ _ _
theorem X8z{x:Int}(h:-1000000≤x∧x≤1000000) : wr x=x:=IntWalk.i64_in _ ⟨by omega,by omega⟩
theorem Xja{x:Br}{g:Gt}{k:Nat}(h:0≤x.d.t∧x.d.t≤2*(k:Int))(hk:k≤1000) : 0≤(gtB x g).d.t∧(gtB x g).d.t≤2*((k+1:Nat) : Int):=by
 rw [Xur]
 have e1:=X8z (x:=x.d.t+1) (by omega)
 have e2:=X8z (x:=x.d.t+2) (by omega)
 split
 ·rw [e2];omega
 split
 ·rw [e1];omega
 ·omega
theorem Xr6(x:Br)(k p q:Int) : nodB (reB x) k p q=reB (nodB x k p q):=rfl
theorem Xcj(x:Br)(q:Int) : plcB (reB x) q=reB (plcB x q):=by
 unfold plcB
 split
 ·rename_i h
  have h2:(x.hd.getD q.toNat false||(x.d.ns.getD (x.la.getD q.toNat 0).toNat nZ).k != 3)=true:=h
  rw [Q4 h2]
  rfl
 ·rename_i h
  have h2:¬ (x.hd.getD q.toNat false||(x.d.ns.getD (x.la.getD q.toNat 0).toNat nZ).k != 3)=true:=h
  rw [Q3 h2]
theorem Xa8(x:Br)(q m:Int) : trnB (reB x) q m=reB (trnB x q m):=by
 unfold trnB
 rw [Xcj]
 rfl
theorem Xnr(x:Br)(p q:Int) : czB (reB x) p q=reB (czB x p q):=by
 unfold czB
 rw [Xcj,Xcj]
 dsimp only
 split
 ·rename_i h
  rw [Q4 (show 0≤fdW (plcB (plcB x p) q).d.ws ((plcB x p).la.getD p.toNat 0) ((plcB (plcB x p) q).la.getD q.toNat 0) from h)]
  rfl
 ·rename_i h
  rw [Q3 (show ¬ 0≤fdW (plcB (plcB x p) q).d.ws ((plcB x p).la.getD p.toNat 0) ((plcB (plcB x p) q).la.getD q.toNat 0) from h)]
  rfl
theorem X5r(x:Br)(q:Int) : flpB (reB x) q=reB (flpB x q):=rfl
theorem Xsg{x:Br}(h:0≤x.d.t∧x.d.t≤3000) : reB (reB x)=reB x:=by
 unfold reB outD
 dsimp only
 congr 2
 rw [Int.tmod_eq_emod_of_nonneg h.1,Int.tmod_eq_emod_of_nonneg (by omega)]
 omega
theorem Xrv{x:Br}(g:Gt)(h:0≤x.d.t∧x.d.t≤2000) : g8B (reB x) g=reB (gtB x g):=by
 have hr:(reB x).d.t=x.d.t % 8:=Int.tmod_eq_emod_of_nonneg h.1
 have e1:=X8z (x:=x.d.t+1) (by omega)
 have e2:=X8z (x:=x.d.t+2) (by omega)
 have key:∀ y:Br,y.d.t=x.d.t→reB (reB y)=reB y:=fun y hy=>Xsg (by rw [hy];omega)
 unfold g8B gtB
 split
 ·rw [X5r];exact key _ rfl
 split
 ·rw [X5r,Xa8,X5r];exact key _ (X3s _ _ _)
 split
 ·unfold yyB
  rw [Xa8,X5r,Xa8,X5r]
  have ht:(flpB (trnB (flpB (trnB x g.a 4) g.a) g.a 4) g.a).d.t=x.d.t:=(X3s _ _ _).trans (X3s x g.a 4)
  generalize flpB (trnB (flpB (trnB x g.a 4) g.a) g.a 4) g.a=y at ht
  unfold tnB reB outD
  dsimp only
  rw [ht,e2,Int.tmod_eq_emod_of_nonneg h.1,X8z (x:=x.d.t % 8+2) (by omega)]
  congr 2
  rw [Int.tmod_eq_emod_of_nonneg (by omega),Int.tmod_eq_emod_of_nonneg (by omega)]
  omega
 split
 ·rw [X5r,Xnr,X5r];exact key _ (X8n _ _ _)
 split
 ·rw [Xnr];exact key _ (X8n _ _ _)
 split
 ·exact key (swpB x g.a g.b) rfl
 split
 ·unfold tnB reB outD
  dsimp only
  rw [e1,Int.tmod_eq_emod_of_nonneg h.1,X8z (x:=x.d.t % 8+1) (by omega)]
  congr 2
  rw [Int.tmod_eq_emod_of_nonneg (by omega),Int.tmod_eq_emod_of_nonneg (by omega)]
  omega
 ·rw [Xa8];exact key _ (X3s _ _ _)
theorem Xo5:∀ (l:List Gt) (x:Br) (k:Nat),0≤x.d.t→x.d.t≤2*(k:Int)→k+l.length≤900→l.foldl g8B (reB x)=reB (l.foldl gtB x)
 | [],_,_,_,_,_=>rfl
 | g::l,x,k,h0,h1,hk=>by
  rw [Qs] at hk
  have h2:=Xja (x:=x) (g:=g) (k:=k) ⟨h0,h1⟩ (by omega)
  rw [List.foldl_cons,List.foldl_cons,Xrv g (by omega)]
  exact Xo5 l (gtB x g) (k+1) h2.1 h2.2 (by omega)
theorem Xvh{n:Nat}{x:Br}(h:BrOk n x){g:Gt}(hg:gOk (n:Int) g=true) : BrOk n (g8B x g):=by
 have h1:=Xig h hg;exact ⟨h1.la,h1.hd,h1.rg,h1.p⟩
theorem Xwp{n:Nat}{x:Br}(h:BrOk n x)(hs:BrS x){g:Gt}(hg:gOk (n:Int) g=true) : BrS (g8B x g):=Xww h hs hg
theorem Xrj(x:Br)(g:Gt) : (g8B x g).d.ns.length≤x.d.ns.length+3∧(g8B x g).d.ws.length≤x.d.ws.length+3:=Xcr x g
theorem Xwj{x:Br}{g:Gt}(h:0≤x.d.t∧x.d.t≤7) : 0≤(g8B x g).d.t∧(g8B x g).d.t≤7:=by
 have h2:=Xja (x:=x) (g:=g) (k:=4) ⟨h.1,by omega⟩ (by omega)
 have:(g8B x g).d.t=(gtB x g).d.t % 8:=Int.tmod_eq_emod_of_nonneg h2.1
 omega
section
variable {x : Br} {g : Gt}
theorem Xfk(h:0≤x.d.t∧x.d.t≤7){y:Br}(hy:gtB x g=y)(ht:y.d.t=x.d.t) : g8B x g=y:=by
 unfold g8B
 rw [hy]
 exact Xt7 h ht
end
def of8(c:Cx) : Br:=c.gs.foldl g8B (ofB0 c)
def ok8(c:Cx)(j:Nat) : Br:=(List.range j).foldl (fun x (q:Nat)=>nodB x 2 (q:Int) (q:Int)) (of8 c)
theorem Xo4(c:Cx)(j:Nat) : ok8 c (j+1)=nodB (ok8 c j) 2 (j:Int) (j:Int):=by unfold ok8;rw [List.range_succ,List.foldl_append];rfl
theorem Xq6{c:Cx}(hl:c.gs.length≤800) : of8 c=reB (ofB1 c):=Xo5 c.gs (ofB0 c) 0 (Int.le_refl _) (Int.le_refl _) (by omega)
theorem Xhp{c:Cx}(hl:c.gs.length≤800) : ∀ j,ok8 c j=reB (ofK c j)
 | 0=>Xq6 hl
 | j+1=>by rw [Xo4,Xgx,Xhp hl j,Xr6]
theorem Xvd{c:Cx}(hl:c.gs.length≤800) : (ok8 c c.n.toNat).d=ofD c:=by rw [Xhp hl];rfl
theorem Xpm(c:Cx) : BrS (ofB0 c):=⟨List.Pairwise.nil,fun x hx=>by cases hx⟩
def ctG(c:Cx) : Int:=((cntP isTk c.gs:Nat) : Int)
theorem Xgg{c:Cx} : ((c.gs.countP fun g=>inR g.k 7 8:Nat) : Int)=ctG c:=by
 have e:(fun g:Gt=>inR g.k 7 8)=fun g=>isTk g.k:=by
  funext g
  rw [Bool.eq_iff_iff,X0e]
  unfold isTk
  simp
  omega
 unfold ctG cntP
 rw [e,List.countP_eq_length_filter]
theorem Xv2{c:Cx}(h:dgC c=true) : cnC c=ctG c:=by
 unfold cnC ctG
 rw [Q4 (Xoj h)]
theorem Xvc{c:Cx}(h:(!(cOk c)||!(dgC c))=true) : dgC c=false:=by
 cases hd:dgC c with
 | false=>rfl
 | true=>rw [hd,Xoj hd] at h;cases h
theorem Xt0(w0:World)(bV B0:Nat)(A0:Option Addr)(c0:Nat)(A1:Option Addr)(c1 m0:Nat)(d:Dg)(bO:Dgm w0 bV B0 A0 c0 A1 c1 m0 d)(aX:B0≤w0.heap.size)(p:Int)(q:Int)(hG:goodD d=true) : Ret Tryz.prog 170 [.pointer (some ⟨bV,0,none⟩),vi p,vi q] w0 (fun v w=>∃ A c,v=.bool (fuC d p q)∧TurnS (SB bV [A0,A1]) w0 w∧Us (SB bV [A0,A1]) w0 A∧Dgm w bV B0 A0 c0 A c m0 (if fuC d p q=true then fuD d p q else d)):=by
 obtain ⟨i,g,h,aG⟩:=bO;have cF:=i.lt
 have aY:Us (SB bV [A0,A1]) w0 A0:=SB.us (by simp)
 have b5:Us (SB bV [A0,A1]) w0 A1:=SB.us (by simp)
 have hD:=X15 hG;have cJ:=hD.m;have cK:=hD.len;have cL:=X23 d.ws q;have cG:=X34 hD q;refine enter Tryz.func170 rfl 79 rfl rfl ?_;intro a D
 have H:TurnS (SB bV [A0,A1]) w0 w0:=TurnS.refl _ _
 refine Zs D fun _ bP=>?_;refine Za rfl<|ZX bP fun a D _ bR=>?_;refine Q5 fun _ bS=>?_;refine X09 (fun a w=>Fr a 79 [(0,.pointer (some ⟨bV,0,none⟩)),(1,vi p),(2,vi q),(41,.bool (((((decide (p<0))||(decide (q≤p)))||(!(spI d.ns p)))||(!(spI d.ns q)))||((tyW d.ws p q) != 1)))]∧Below w0.heap.size w0 w) ?_ ?_
 ·have N:=bz w0
  refine Zr D<|Zm rfl<|Ze (X0m rfl rfl)<|Zm rfl ?_
  refine Zg 12 rfl (fun I=>?_) (fun I=>?_)
  ·refine Zp (gP I) ?_;refine Zp (gP I) ?_;refine Zp (gP I) ?_;refine Ze (X8 rfl I rfl)<|Zm rfl<|Zp (gP rfl) ?_;refine Zp (gP rfl) ?_;refine Zp (gP rfl) ?_;refine Zp (gP rfl) ?_;refine Zp (gP rfl) ?_;refine Zp (gP rfl) ?_;refine Ze (X8 rfl rfl rfl)<|Zm rfl<|Zp (gP rfl) ?_;refine Zp (gP rfl) ?_;refine Zp (gP rfl) ?_;refine Zp (gP rfl) ?_;refine Zp (gP rfl) ?_;refine Zp (gP rfl) ?_;refine Ze (X8 rfl rfl rfl)<|Zm rfl<|Zp (gP rfl) ?_;refine Zp (gP rfl) ?_;refine Zp (gP rfl) ?_;refine Zp (gP rfl) ?_;refine Zp (gP rfl) ?_;refine Zp (gP rfl) ?_;refine Zp (gP rfl) ?_;refine Ze (X8 rfl rfl rfl) ?_;refine Zn fun a D=>?_
   have aA:Below w0.heap.size w0 w0:=N
   exact ⟨D.sub ⟨rfl,rfl,rfl,X1 rfl (by first|rfl|(simp only [I,bs];done)|simp [I]),trivial⟩,aA⟩
  refine Zv (gW I) (X3 rfl) ?_;refine Zv (gW I) (X3 rfl) ?_;refine Zv (gW I) (X4m rfl rfl) ?_;refine Ze (Xe rfl I rfl)<|Zm rfl ?_
  refine Zg 17 rfl (fun C=>?_) (fun C=>?_)
  ·refine Zp (gP C) ?_;refine Zp (gP C) ?_;refine Zp (gP C) ?_;refine Zp (gP C) ?_;refine Zp (gP C) ?_;refine Zp (gP C) ?_;refine Ze (X8 rfl C rfl)<|Zm rfl<|Zp (gP rfl) ?_;refine Zp (gP rfl) ?_;refine Zp (gP rfl) ?_;refine Zp (gP rfl) ?_;refine Zp (gP rfl) ?_;refine Zp (gP rfl) ?_;refine Ze (X8 rfl rfl rfl)<|Zm rfl<|Zp (gP rfl) ?_;refine Zp (gP rfl) ?_;refine Zp (gP rfl) ?_;refine Zp (gP rfl) ?_;refine Zp (gP rfl) ?_;refine Zp (gP rfl) ?_;refine Zp (gP rfl) ?_;refine Ze (X8 rfl rfl rfl) ?_;refine Zn fun a D=>?_
   have aA:Below w0.heap.size w0 w0:=N
   exact ⟨D.sub ⟨rfl,rfl,rfl,X1 rfl (by first|rfl|(simp only [I,C,bs];done)|simp [I,C]),trivial⟩,aA⟩
  refine Zv (gW C) (X3 rfl) ?_;refine Zv (gW C) (Xw rfl) ?_;refine Zv (gW C) (X02 (l:=[vi d.n,.slice A0 m0 c0,.slice A1 d.ws.length c1,vi d.t,vi d.r]) rfl X2 (i.at 0) rfl) ?_;refine Zv (gW C) (X3 rfl) ?_;refine Zk (gW C) (Vc (X5m _ d m0 aG A0 c0 g.rd.top A1 c1 h.rd.top h.cap p (by omega)) X2v) ?_;rintro _ w1 ⟨rfl,y⟩;have i:=i.below y;have g:=g.below y;have h:=h.below y;have H:=tsbel H y;have N:=btr N y;refine Zv (gW C) (X0y rfl) ?_;refine Ze (Xe rfl C rfl)<|Zm rfl ?_
  refine Zg 25 rfl (fun E=>?_) (fun E=>?_)
  ·refine Zp (gP E) ?_;refine Zp (gP E) ?_;refine Zp (gP E) ?_;refine Zp (gP E) ?_;refine Zp (gP E) ?_;refine Zp (gP E) ?_;refine Ze (X8 rfl E rfl)<|Zm rfl<|Zp (gP rfl) ?_;refine Zp (gP rfl) ?_;refine Zp (gP rfl) ?_;refine Zp (gP rfl) ?_;refine Zp (gP rfl) ?_;refine Zp (gP rfl) ?_;refine Zp (gP rfl) ?_;refine Ze (X8 rfl rfl rfl) ?_;refine Zn fun a D=>?_
   have aA:Below w0.heap.size w0 w1:=N
   exact ⟨D.sub ⟨rfl,rfl,rfl,X1 rfl (by first|rfl|(simp only [I,C,E,bs];done)|simp [I,C,E]),trivial⟩,aA⟩
  refine Zv (gW E) (X3 rfl) ?_;refine Zv (gW E) (Xw rfl) ?_;refine Zv (gW E) (X02 (l:=[vi d.n,.slice A0 m0 c0,.slice A1 d.ws.length c1,vi d.t,vi d.r]) rfl X2 (i.at 0) rfl) ?_;refine Zv (gW E) (X3 rfl) ?_;refine Zk (gW E) (Vc (X5m _ d m0 aG A0 c0 g.rd.top A1 c1 h.rd.top h.cap q (by omega)) X2v) ?_;rintro _ w2 ⟨rfl,y⟩;have i:=i.below y;have g:=g.below y;have h:=h.below y;have H:=tsbel H y;have N:=btr N y;refine Zv (gW E) (X0y rfl) ?_;refine Ze (Xe rfl E rfl)<|Zm rfl ?_
  refine Zg 33 rfl (fun G=>?_) (fun G=>?_)
  ·refine Zp (gP G) ?_;refine Zp (gP G) ?_;refine Zp (gP G) ?_;refine Zp (gP G) ?_;refine Zp (gP G) ?_;refine Zp (gP G) ?_;refine Zp (gP G) ?_;refine Ze (X8 rfl G rfl) ?_;refine Zn fun a D=>?_
   have aA:Below w0.heap.size w0 w2:=N
   exact ⟨D.sub ⟨rfl,rfl,rfl,X1 rfl (by first|rfl|(simp only [I,C,E,G,bs];done)|simp [I,C,E,G]),trivial⟩,aA⟩
  refine Zv (gW G) (X3 rfl) ?_;refine Zv (gW G) (Xw rfl) ?_;refine Zv (gW G) (X02 (l:=[vi d.n,.slice A0 m0 c0,.slice A1 d.ws.length c1,vi d.t,vi d.r]) rfl X2 (i.at 0) rfl) ?_;refine Zv (gW G) (X3 rfl) ?_;refine Zv (gW G) (X3 rfl) ?_;refine Zk (gW G) (Vc (X6c _ d m0 aG A0 c0 g.rd.top A1 c1 h.rd.top h.cap p q (by omega)) X33) ?_;rintro _ w3 ⟨rfl,y⟩;have H:=tsbel H y;have N:=btr N y;refine Zv (gW G) (X18 rfl rfl) ?_;refine Ze (Xe rfl G rfl) ?_;refine Zn fun a D=>?_
  have aA:Below w0.heap.size w0 w3:=N
  exact ⟨D.sub ⟨rfl,rfl,rfl,X1 rfl (by first|rfl|(simp only [I,C,E,G,bs];done)|simp [I,C,E,G]),trivial⟩,aA⟩
 rintro a w4 ⟨D,y⟩;have i:=i.below y;have g:=g.below y;have h:=h.below y;have H:=tsbel H y;refine bS _ _ ?_
 refine Xh D rfl (fun aC=>?_) (fun aC=>?_)
 ·have aZ:=aC;have bT:=Xpu aC;refine Zs D fun _ b6=>?_;refine Za rfl<|Zt b6 fun a D=>?_;refine Q6<|X7<|X5 D (Xr D rfl rfl) ?_
  rw [bT,Q3 Bool.false_ne_true]
  exact ⟨A1,c1,rfl,H,b5,⟨i,g,h,aG⟩⟩
 have aZ:=aC;have aR:=Xka aC;obtain ⟨aS,bU⟩:=Xca aR;have cM:=X1i hD.p q.toNat;refine Q7<|bR _ _<|Zs D fun _ b7=>?_;refine Zm rfl<|Ze (Xw rfl)<|Ze (X02 (l:=[vi d.n,.slice A0 m0 c0,.slice A1 d.ws.length c1,vi d.t,vi d.r]) rfl X2 (i.at 0) rfl)<|Zf (Vc (Xi8 _ d m0 aG A0 c0 g.rd.top A1 c1 h.rd.top h.cap ⟨by omega,by omega⟩) Xad) ?_;rintro _ w5 ⟨aI,aM,aJ,aN,rfl,u,x,y⟩
 have e:=Off.new (l:=[A0,A1]) u (Qb _) i.lt (alc (fun _ h9=>X7o g h9) (alc (fun _ h9=>X7o h h9) al0))
 have f:=Off.new (l:=[A0,A1]) x (Qb _) i.lt (alc (fun _ h9=>X7o g h9) (alc (fun _ h9=>X7o h h9) al0))
 have u:=u.lower H.size;have x:=x.lower H.size;have i:=i.below y;have g:=g.below y;have h:=h.below y;have H:=tsbel H y;refine Zf (X00 (zs:=[vi 0,.slice none 0 0,.slice none 0 0,vi 0,vi 0]) X0o rfl) ?_;rintro _ w6 ⟨b17,rfl,b8,y,j⟩
 have Q:bV≠b17:=by have:=i.lt;omega
 have b0:=Q0 H.size b8;have i:=i.below y;have g:=g.below y;have h:=h.below y;have u:=u.below y;have x:=x.below y;have e:=e.mono y.size;have f:=f.mono y.size;have H:=tsbel H y;refine Zo (Vw [vi d.n,.slice aI d.ns.length aM,.slice aJ d.ws.length aN,vi d.t,vi d.r] Xl j) ?_;rintro _ w7 ⟨ho,hb⟩;have aH:=j;have i:=i.only ho (by omega);have g:=g.onlyT ho aH rfl;have h:=h.onlyT ho aH rfl;have u:=u.onlyT ho aH rfl;have x:=x.onlyT ho aH rfl;have e:=e.mono (Nat.le_of_eq ho.size.symm);have f:=f.mono (Nat.le_of_eq ho.size.symm);have H:=tsonly H ho (.inr b0);have j:=hb;refine Zx b7 fun a D _ b9=>?_;refine Zm rfl<|Zm rfl<|Zf (Vc (X91 _ bV B0 A0 c0 A1 c1 m0 d ⟨i,g,h,aG⟩ (Q0 aX H.size) q bU (by omega)) X56) ?_;rintro _ w8 ⟨bW,bX,B,U,aD,M,aU,b1⟩;have j:=j.tuN B (Ne.symm Q) (alc (nrow g j rfl) (alc (nrow h j rfl) al0));have u:=u.off B e;have x:=x.off B f
 have e:=e.tu B (alc (SB.us (A:=A0) (by simp)) (alc U al0))
 have f:=f.tu B (alc (SB.us (A:=A0) (by simp)) (alc U al0))
 have W:=SB.lift (S:=SB bV [A0,A1]) (w0:=w0) (.inl (.inl rfl)) (alc aY (alc b5 al0));have U:=Us.trans U W H.size
 have H:=tstr H B W;clear W
 clear B i;have i:=aD;clear aD
 clear g;have g:=M;clear M;refine Zx b9 fun a D _ bA=>?_;refine Zm rfl<|Zm rfl<|Ze (Vd rfl Xi 1)<|Ze (X0 rfl Xz (j.at 1))<|Zm rfl<|Ze (Xg (k:=q.toNat) rfl rfl Xo X07 u rfl (by omega) (by omega))<|Ze (X0z rfl X04 (m':=q.toNat*2+1) rfl)<|Ze (X0 rfl X9 (X0d u Xt (Xb (d:=nZ) (by omega)) 1 rfl))<|Zf (Vc (Xay _ bV B0 A0 c0 bW bX m0 (id0 d q) ⟨i,g,aU,b1⟩ (Q0 aX H.size) p ((d.ns.getD q.toNat nZ).p) ⟨aS.1,by show p.toNat<(dpN d.ns q).length;rw [X1m];exact aS.2⟩ (X4y hD.p q) ⟨by omega,by omega⟩) X6f) ?_;rintro _ w9 ⟨bY,c4,B,a6,aD,M,aO,cA⟩;have j:=j.tuN B (Ne.symm Q) (alc (nrow g j rfl) (alc (nrow aU j rfl) al0));have u:=u.off B e;have x:=x.off B f
 have e:=e.tu B (alc (SB.us (A:=A0) (by simp)) (alc a6 al0))
 have f:=f.tu B (alc (SB.us (A:=A0) (by simp)) (alc a6 al0))
 have W:=SB.lift (S:=SB bV [A0,A1]) (w0:=w0) (.inl (.inl rfl)) (alc aY (alc U al0));have a6:=Us.trans a6 W H.size
 have H:=tstr H B W;clear W
 clear B i;have i:=aD;clear aD
 clear g;have g:=M;clear M;refine ZX bA fun a D _ bB=>?_;refine Zs D fun _ bC=>?_;refine Ze (Vn X2 j)<|Zm rfl<|Zf (Vc (X93 _ d d.ns.length rfl aI aM u.rd.top aJ aN x.rd.top x.cap q hD.w (by omega)) X5e) ?_;rintro _ cN ⟨bD,bE,rfl,J,y⟩;have J:=J.lower H.size;have i:=i.below y;have j:=j.below y;have g:=g.below y;have u:=u.below y;have x:=x.below y;have aO:=aO.below y;have e:=e.mono y.size;have f:=f.mono y.size;have H:=tsbel H y;refine Ze (X0c rfl Xj)<|Zm rfl<|Zt bC fun a D=>?_;refine Q8<|X01 (σ:=Nat×Dg) (fun (s:Nat×Dg) (a:Act) (w:World)=>match s with|(k,o)=>∃ aB aK,Fr a 79 [(0,.pointer (some ⟨bV,0,none⟩)),(1,vi p),(2,vi q),(7,.pointer (some ⟨b17,0,none⟩)),(60,.slice bD (nearW d.ws q).length bE),(61,vi ((nearW d.ws q).length:Int)),(62,vi (k:Int))]∧(k≤(nearW d.ws q).length)∧(o=fuS d p q ((nearW d.ws q).take k) (fu0 d p q))∧(m0=o.ns.length)∧(FuI d p q k o)∧Blk w bV 39 [vi o.n,.slice A0 m0 c0,.slice aB o.ws.length aK,vi o.t,vi o.r]∧Blk w b17 39 [vi d.n,.slice aI d.ns.length aM,.slice aJ d.ws.length aN,vi d.t,vi d.r]∧Own w B0 81 2 encNd A0 c0 o.ns∧Own w w0.heap.size 81 2 encNd aI aM d.ns∧Own w w0.heap.size 83 3 encWr aJ aN d.ws∧Own w w0.heap.size 3 1 encI bD bE (nearW d.ws q)∧Own w B0 83 3 encWr aB aK o.ws∧Off w bV [A0,aB] aI∧Off w bV [A0,aB] aJ∧Us (SB bV [A0,A1]) w0 aB∧TurnS (SB bV [A0,A1]) w0 w) (fun (s:Nat×Dg)=>match s with|(k,o)=>(nearW d.ws q).length-k) (0,(fu0 d p q)) ?_ ?_
 ·exact ⟨bY,c4,D.sb,(Qf _),rfl,(aG.trans (X6g d p q).1.symm),(FuI.init hG),i,j,g,u,x,J,aO,e,f,a6,H⟩
 rintro ⟨k,o⟩ a cO ⟨aB,aK,D,hk,b2,aT,aE,i,j,g,u,x,J,a7,e,f,aP,H⟩;refine Zs D fun _ bF=>?_;refine Ze (X0m rfl rfl)<|ZX bF fun a D _ bG=>?_
 refine Xh D rfl (fun L=>?_) (fun L=>?_)
 ·have b3:=L;have L:=Q2 L
  obtain ⟨cP,cH⟩:=X4 (l:=(nearW d.ws q)) (k:=k) (by omega)
  obtain ⟨u9,aL⟩:=X4 (l:=(nearW d.ws q)) (k:=k) (by have:=L;omega)
  have bH:=X61 hD aL;refine Q7<|bG _ _<|Q5 fun _ aW=>?_;refine Q8<|Zs D fun _ bJ=>?_;refine Ze (Xg (k:=k) rfl rfl Xj X08 J rfl rfl (by omega))<|Ze (X0 rfl X9 (X0d J Xa aL 0 rfl))<|Za rfl<|Zx bJ fun a D _ bK=>?_;refine Zm rfl<|Zm rfl<|Ze (X18 rfl rfl)<|Zt bK fun a D=>?_
  refine Xh D rfl (fun aF=>?_) (fun aF=>?_)
  ·have b4:=aF;have aQ:=X9s (d:=d) (a:=p) (b:=q) (o:=fu0 d p q) aL
   rw [← b2,Xnx aF] at aQ
   have cB:=X5x o p u9 (tyW d.ws q u9==2);refine Zr D<|Zm rfl<|Zm rfl<|Zm rfl<|Ze (Vn X2 j)<|Zm rfl<|Zm rfl<|Zf (Vc (X6c _ d d.ns.length rfl aI aM u.rd.top aJ aN x.rd.top x.cap q u9 (by omega)) X33) ?_;rintro _ cQ ⟨rfl,y⟩;have i:=i.below y;have j:=j.below y;have g:=g.below y;have u:=u.below y;have x:=x.below y;have J:=J.below y;have a7:=a7.below y;have e:=e.mono y.size;have f:=f.mono y.size;have H:=tsbel H y;refine Ze (X0a rfl rfl)<|Zf (Vc (Xov _ bV B0 A0 c0 aB aK m0 o ⟨i,g,a7,aT⟩ (Q0 aX H.size) p u9 ((tyW d.ws q u9)==2) aE.s (by have:=aE.c;omega) ⟨⟨aS.1,by rw [aE.l];exact aS.2⟩,⟨bH.1,by rw [aE.l];exact bH.2⟩⟩ aE.p (by omega) (aE.hab hD aR aL)) Xdu) ?_;rintro _ cR ⟨cC,cD,B,a8,aD,M,bL,cE⟩;have j:=j.tuN B (Ne.symm Q) (alc (nrow g j rfl) (alc (nrow a7 j rfl) al0));have u:=u.off B e;have x:=x.off B f;have J:=J.tu B i rfl (alc (X0k g rfl) (alc (X0k a7 rfl) al0))
   have e:=e.tu B (alc (SB.us (A:=A0) (by simp)) (alc a8 al0))
   have f:=f.tu B (alc (SB.us (A:=A0) (by simp)) (alc a8 al0))
   have W:=SB.lift (S:=SB bV [A0,A1]) (w0:=w0) (.inl (.inl rfl)) (alc aY (alc aP al0));have a8:=Us.trans a8 W H.size
   have H:=tstr H B W;clear W
   clear B i;have i:=aD;clear aD
   clear g;have g:=M;clear M;refine Zn fun a D=>?_;refine Xd<|aW _ _<|Zr D<|Ze (Xu rfl rfl (by omega) (by omega))<|Zm rfl ?_;refine Zn fun a D=>?_;refine Xf ?_;exact ⟨(k+1,(mtD o p u9 ((tyW d.ws q u9)==2))),⟨cC,cD,D.sb,(by omega),aQ.symm,(aT.trans cB.1.symm),(aE.step hD aR aL),i,j,g,u,x,J,bL,e,f,a8,H⟩,(by first|omega|(dsimp only;omega))⟩
  have b4:=aF;have aQ:=X9s (d:=d) (a:=p) (b:=q) (o:=fu0 d p q) aL
  rw [← b2,Xos aF] at aQ
  refine Q7<|Xd<|aW _ _<|Zr D ?_;refine Ze (Xu rfl rfl (by omega) (by omega))<|Zm rfl ?_;refine Zn fun a D=>?_;refine Xf ?_;exact ⟨(k+1,o),⟨aB,aK,D.sb,(by omega),aQ.symm,aT,aE.skip,i,j,g,u,x,J,a7,e,f,aP,H⟩,(by first|omega|(dsimp only;omega))⟩
 have b3:=L;have L:=Q1 L
 have bM:o=fuD d p q:=by rw [b2,Qi (by have:=L;omega)];rfl
 refine Q9<|Xk<|Xk<|X03 ?_;refine bB _ _<|Zs D fun _ bN=>?_;refine Za rfl<|Zt bN fun a D=>?_
 refine Q6 (X5 D (Xr D rfl rfl) ?_)
 rw [aR,Q4 rfl,← bM]
 exact ⟨aB,aK,rfl,H,aP,⟨i,g,a7,aT⟩⟩
end Go.Proofs.YtpifljegadknkaaGreat
