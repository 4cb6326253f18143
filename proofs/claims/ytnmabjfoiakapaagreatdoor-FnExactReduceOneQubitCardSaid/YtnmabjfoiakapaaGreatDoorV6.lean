/-
  What is proved: for every circuit, the program's ReduceOneQubit answers as the reference's does, leaves its argument as it was and hands out memory of its own; the argument and the variable half read as before. Conditions: none beside the variable's value, which the card ties to the program's text.
-/
import Derived.Test.YtnmabjfoiakapaaGreatDoorV5
import Derived.Test.YtnmabjfoiakapaaGreatDoorV3
import Derived.Test.YtnmabjfoiakapaaGreatDoorV2
import Derived.Test.YtnmabjfoiakapaaGreatDoorRows
import Derived.Test.YtnmabjfoiakapaaGreatDoorV4
import Derived.Lib.LaidU8
import Derived.ChangeVars
import Derived.MakeChecks
import Derived.Test.YtnmabjfoiakapaaGreatDoorCards
import Derived.Test.YtnmabjfoiakapaaGreatDoorTie
import Derived.Lay
set_option linter.unusedVariables false
set_option linter.unusedSimpArgs false
set_option maxRecDepth 4000
set_option linter.unusedSectionVars false
namespace Go.Proofs.YtnmabjfoiakapaaGreatDoor
open Go.RowKit
theorem Xro(H:World)(c:Cx)(Ac:Option Addr)(cc:Nat)(aD:Rd H H.heap.size 90 encG Ac c.gs)(aR:c.gs.length≤2305843009213693951)(aE:HalfT H) : Ret Tryz.prog 15 [.agg #[vi c.n,.slice Ac c.gs.length cc]] H (fun v w=>∃ A c1,v=.tuple #[.agg #[vi ((rdC c).getD cZ).n,.slice A ((rdC c).getD cZ).gs.length c1],.bool (rdC c).isSome]∧Own w H.heap.size 90 3 encG A c1 ((rdC c).getD cZ).gs∧Below H.heap.size H w):=by
 refine enter Tryz.func15 rfl 33 rfl rfl ?_;intro a i
 have e:=bz H
 refine Zs i fun _ aS=>?_;refine Zf (X09 (zs:=[vi c.n,.slice Ac c.gs.length cc]) rfl rfl) ?_;rintro _ w1 ⟨b3,rfl,aT,m,j⟩;have aY:=Q0 e.size aT;have e:=btr e m;refine Zf (X4 (zs:=[vi 0,.slice none 0 0]) X7h rfl) ?_;rintro _ w2 ⟨b5,rfl,aU,m,b⟩
 have aQ:b3≠b5:=by have:=j.lt;omega
 have h:=Q0 e.size aU;have j:=j.below m;have e:=btr e m;refine Za rfl<|Zx aS fun a i _ aW=>?_;refine Ze (Vn X1p j)<|Zf (Vc (F97 _ c Ac cc (aD.below' e).top aR) Xlz) ?_;rintro _ w3 ⟨A7,c7,rfl,B,m⟩;have j:=j.below m;have b:=b.below m;have e:=btr e m;refine Zm rfl<|Ze (X2 (vs:=[.agg #[vi (((opI c).getD mZ).rows),vi (((opI c).getD mZ).cols),.slice A7 (((opI c).getD mZ).cells).length c7],.bool ((opI c).isSome)]) rfl rfl)<|Ze (X2 (vs:=[.agg #[vi (((opI c).getD mZ).rows),vi (((opI c).getD mZ).cols),.slice A7 (((opI c).getD mZ).cells).length c7],.bool ((opI c).isSome)]) rfl rfl)<|Zf (X4 (zs:=[vi 0,vi 0,.slice none 0 0]) X12 rfl) ?_;rintro _ w4 ⟨b9,rfl,aX,m,E⟩;have aF:=Q0 e.size aX;have j:=j.below m;have b:=b.below m;have B:=B.below m;have e:=btr e m;refine Zo (Vw [vi (((opI c).getD mZ).rows),vi (((opI c).getD mZ).cols),.slice A7 (((opI c).getD mZ).cells).length c7] X0c E) ?_;rintro _ w5 ⟨y,G⟩;have g:=E;have j:=j.only y (Blk.ne j g rfl);have b:=b.only y (Blk.ne b g rfl);have B:=B.onlyT y g rfl;have e:=Below.only e y aF;have E:=G;refine Za rfl<|ZX aW fun a i _ aG=>?_;refine Q5 fun _ aH=>?_;refine X0a (fun a w=>Fr a 33 [(2,.pointer (some ⟨b5,0,none⟩)),(4,.pointer (some ⟨b9,0,none⟩)),(19,.bool ((!((opI c).isSome))||(c.n != 1)))]∧w5=w) ?_ ?_
 ·refine Zr i<|Zm rfl<|Ze (X0o rfl)<|Zm rfl ?_
  refine Zg 15 rfl (fun d=>?_) (fun d=>?_)
  ·refine Zp (gP d) ?_;refine Zp (gP d) ?_;refine Zp (gP d) ?_;refine Ze (Xh rfl d rfl) ?_;refine Zn fun a i=>?_;exact ⟨i.sub ⟨rfl,rfl,X1 rfl (by first|rfl|(simp only [d,bs];done)|simp [d]),trivial⟩,rfl⟩
  refine Zv (gW d) (Vd rfl X2i 0) ?_;refine Zv (gW d) (X0 rfl X8 (j.at 0)) ?_;refine Zv (gW d) (X2m rfl rfl) ?_;refine Ze (Xf rfl d rfl) ?_;refine Zn fun a i=>?_;exact ⟨i.sub ⟨rfl,rfl,X1 rfl (by first|rfl|(simp only [d,bs];done)|simp [d]),trivial⟩,rfl⟩
 rintro a _ ⟨i,rfl⟩;refine aH _ _ ?_
 refine Xl i rfl (fun o=>?_) (fun o=>?_)
 ·have a9:=o;have q:=Xr9 o;refine Zs i fun _ aI=>?_;refine Ze (Xg (ps:=[]) (cs:=[vi 0,.slice none 0 0]) rfl (fun _=>by first|rfl|kernel_rfl))<|Zo (Vw [vi 0,.slice none 0 0] X3d b) ?_;rintro _ w6 ⟨y,G⟩;have g:=b;have e:=Below.only e y h;have b:=G;refine Za rfl<|Zt aI fun a i=>?_;refine Q6<|X7<|X3 i (X0r i rfl (ResV.cellN (l:=[vi 0,.slice none 0 0]) rfl X1p (b.at 0) rfl) rfl) ?_
  rw [q]
  exact ⟨none,0,rfl,(Own.nil _ _ _ _ _),e⟩
 have a9:=o;have aA:=o;refine Q7<|aG _ _<|Zs i fun _ aJ=>?_;refine Ze (Vn Xp E)<|Zf (Vc (Xw6 _ A7 c7 ((opI c).getD mZ) B.top (Xag _) (aE.of e)) Xp0) ?_;rintro _ w7 ⟨rfl,m⟩;have b:=b.below m;have e:=btr e m;refine Zm rfl<|Ze (X2 (vs:=[.agg #[.string (tx (nfs ((opI c).getD mZ))),vi (nfk ((opI c).getD mZ) : Int),vi (nfp ((opI c).getD mZ) : Int)],.bool ((nfM ((opI c).getD mZ)).isSome)]) rfl rfl)<|Ze (X2 (vs:=[.agg #[.string (tx (nfs ((opI c).getD mZ))),vi (nfk ((opI c).getD mZ) : Int),vi (nfp ((opI c).getD mZ) : Int)],.bool ((nfM ((opI c).getD mZ)).isSome)]) rfl rfl)<|Zf (X4 (zs:=[.string (tx []),vi 0,vi 0]) X60 rfl) ?_;rintro _ w8 ⟨aZ,rfl,aK,m,z⟩;have aB:=Q0 e.size aK;have b:=b.below m;have e:=btr e m;refine Zo (Vw [.string (tx (nfs ((opI c).getD mZ))),vi (nfk ((opI c).getD mZ) : Int),vi (nfp ((opI c).getD mZ) : Int)] X3a z) ?_;rintro _ w9 ⟨y,G⟩;have g:=z;have b:=b.only y (Blk.ne b g rfl);have e:=Below.only e y aB;have z:=G;refine Za rfl<|ZX aJ fun a i _ aL=>?_;refine Zs i fun _ aM=>?_;refine Zm rfl<|Ze (X0o rfl)<|Zt aM fun a i=>?_
 refine Xl i rfl (fun u=>?_) (fun u=>?_)
 ·have aC:=u
  have q:=Xk5 (c:=c) (by have h9:=u;simpa using h9)
  refine Zs i fun _ aN=>?_;refine Ze (Xg (ps:=[]) (cs:=[vi 0,.slice none 0 0]) rfl (fun _=>by first|rfl|kernel_rfl))<|Zo (Vw [vi 0,.slice none 0 0] X3d b) ?_;rintro _ b0 ⟨y,G⟩;have g:=b;have e:=Below.only e y h;have b:=G;refine Za rfl<|Zt aN fun a i=>?_;refine Q6<|X7<|X3 i (X0r i rfl (ResV.cellN (l:=[vi 0,.slice none 0 0]) rfl X1p (b.at 0) rfl) rfl) ?_
  rw [q]
  exact ⟨none,0,rfl,(Own.nil _ _ _ _ _),e⟩
 have aC:=u
 have aO:(nfM ((opI c).getD mZ)).isSome=true:=by have h9:=u;simpa using h9
 have hA:=nfA aO;have q:=Xmq aA aO;refine Q7<|aL _ _<|Zs i fun _ aP=>?_;refine Ze (Vn X1w z)<|Zf (Vc (Xvu _ (nfs ((opI c).getD mZ)) (nfl ((opI c).getD mZ)) (nfk ((opI c).getD mZ)) (nfp ((opI c).getD mZ)) hA.k hA.s hA.t hA.l hA.p hA.f (aE.of e)) Xp6) ?_;rintro _ b1 ⟨C,D,rfl,x,m⟩;have x:=x.lower e.size;have b:=b.below m;have e:=btr e m;refine Ze (X2 (vs:=[.agg #[vi 1,.slice C (fmW (nfk ((opI c).getD mZ)) (nfl ((opI c).getD mZ)) (nfp ((opI c).getD mZ))).length D],.bool true]) rfl rfl)<|Ze (X2 (vs:=[.agg #[vi 1,.slice C (fmW (nfk ((opI c).getD mZ)) (nfl ((opI c).getD mZ)) (nfp ((opI c).getD mZ))).length D],.bool true]) rfl rfl)<|Zo (Vw [vi 1,.slice C (fmW (nfk ((opI c).getD mZ)) (nfl ((opI c).getD mZ)) (nfp ((opI c).getD mZ))).length D] X3d b) ?_;rintro _ b2 ⟨y,G⟩;have g:=b;have x:=x.onlyT y g rfl;have e:=Below.only e y h;have b:=G;refine Za rfl<|Zt aP fun a i=>?_
 refine Q6 (X3 i (X0r i rfl (ResV.cellN (l:=[vi 1,.slice C (fmW (nfk ((opI c).getD mZ)) (nfl ((opI c).getD mZ)) (nfp ((opI c).getD mZ))).length D]) rfl X1p (b.at 0) rfl) rfl) ?_)
 rw [q]
 exact ⟨C,D,rfl,x,e⟩
theorem Xye(w0:World)(c:Cx)(Ac:Option Addr)(cc:Nat)(aF:Rd w0 w0.heap.size 90 encG Ac c.gs)(aZ:c.gs.length≤2305843009213693951) : Ret Tryz.prog 13 [.agg #[vi c.n,.slice Ac c.gs.length cc]] w0 (fun v w=>∃ A c1,v=.tuple #[.agg #[vi ((rdC c).getD cZ).n,.slice A ((rdC c).getD cZ).gs.length c1],.bool (rdC c).isSome]∧Own w w0.heap.size 90 3 encG A c1 ((rdC c).getD cZ).gs∧Below w0.heap.size w0 w):=by
 refine enter Tryz.func13 rfl 31 rfl rfl ?_;intro a g
 have e:=bz w0
 refine Zs g fun _ aS=>?_;refine Zf (X09 (zs:=[vi c.n,.slice Ac c.gs.length cc]) rfl rfl) ?_;rintro _ w1 ⟨b3,rfl,aT,j,i⟩;have aY:=Q0 e.size aT;have e:=btr e j;refine Zf (X4 (zs:=[vi 0,.slice none 0 0]) X7h rfl) ?_;rintro _ w2 ⟨b5,rfl,aU,j,b⟩
 have aR:b3≠b5:=by have:=i.lt;omega
 have z:=Q0 e.size aU;have i:=i.below j;have e:=btr e j;refine Za rfl<|Zx aS fun a g _ aW=>?_;refine Ze (Vn X1p i)<|Zf (X1j (vs:=[.agg #[vi c.n,.slice Ac c.gs.length cc]]) rfl Xth (by have hq:=Xzr w2 c Ac cc (aF.below' e).top;rw [← (Xeo c).1] at hq;exact hq)) ?_;rintro _ w3 ⟨A7,c7,rfl,h,j⟩;have i:=i.below j;have b:=b.below j;have e:=btr e j;refine Zm rfl<|Ze (X2 (vs:=[.agg #[vi (((opI c).getD mZ).rows),vi (((opI c).getD mZ).cols),.slice A7 (((opI c).getD mZ).cells).length c7],.bool ((opI c).isSome)]) rfl rfl)<|Ze (X2 (vs:=[.agg #[vi (((opI c).getD mZ).rows),vi (((opI c).getD mZ).cols),.slice A7 (((opI c).getD mZ).cells).length c7],.bool ((opI c).isSome)]) rfl rfl)<|Zf (X4 (zs:=[vi 0,vi 0,.slice none 0 0]) X12 rfl) ?_;rintro _ w4 ⟨b9,rfl,aX,j,B⟩;have aG:=Q0 e.size aX;have i:=i.below j;have b:=b.below j;have h:=h.below j;have e:=btr e j;refine Zo (Vw [vi (((opI c).getD mZ).rows),vi (((opI c).getD mZ).cols),.slice A7 (((opI c).getD mZ).cells).length c7] X0c B) ?_;rintro _ w5 ⟨x,C⟩;have f:=B;have i:=i.only x (Blk.ne i f rfl);have b:=b.only x (Blk.ne b f rfl);have h:=h.onlyT x f rfl;have e:=Below.only e x aG;have B:=C;refine Za rfl<|ZX aW fun a g _ aH=>?_;refine Q5 fun _ aI=>?_;refine X0a (fun a w=>Fr a 31 [(2,.pointer (some ⟨b5,0,none⟩)),(4,.pointer (some ⟨b9,0,none⟩)),(19,.bool ((!((opI c).isSome))||(c.n != 1)))]∧w5=w) ?_ ?_
 ·refine Zr g<|Zm rfl<|Ze (X0o rfl)<|Zm rfl ?_
  refine Zg 15 rfl (fun d=>?_) (fun d=>?_)
  ·refine Zp (gP d) ?_;refine Zp (gP d) ?_;refine Zp (gP d) ?_;refine Ze (Xh rfl d rfl) ?_;refine Zn fun a g=>?_;exact ⟨g.sub ⟨rfl,rfl,X1 rfl (by first|rfl|(simp only [d,bs];done)|simp [d]),trivial⟩,rfl⟩
  refine Zv (gW d) (Vd rfl X2i 0) ?_;refine Zv (gW d) (X0 rfl X8 (i.at 0)) ?_;refine Zv (gW d) (X2m rfl rfl) ?_;refine Ze (Xf rfl d rfl) ?_;refine Zn fun a g=>?_;exact ⟨g.sub ⟨rfl,rfl,X1 rfl (by first|rfl|(simp only [d,bs];done)|simp [d]),trivial⟩,rfl⟩
 rintro a _ ⟨g,rfl⟩;refine aI _ _ ?_
 refine Xl g rfl (fun m=>?_) (fun m=>?_)
 ·have a9:=m;have o:=Xr9 m;refine Zs g fun _ aJ=>?_;refine Ze (Xg (ps:=[]) (cs:=[vi 0,.slice none 0 0]) rfl (fun _=>by first|rfl|kernel_rfl))<|Zo (Vw [vi 0,.slice none 0 0] X3d b) ?_;rintro _ w6 ⟨x,C⟩;have f:=b;have e:=Below.only e x z;have b:=C;refine Za rfl<|Zt aJ fun a g=>?_;refine Q6<|X7<|X3 g (X0r g rfl (ResV.cellN (l:=[vi 0,.slice none 0 0]) rfl X1p (b.at 0) rfl) rfl) ?_
  rw [o]
  exact ⟨none,0,rfl,(Own.nil _ _ _ _ _),e⟩
 have a9:=m;have aA:=m;refine Q7<|aH _ _<|Zs g fun _ aK=>?_;refine Ze (Vn Xp B)<|Zf (Vc (Xwi _ A7 c7 ((opI c).getD mZ) h.top (Xag _)) Xq0) ?_;rintro _ w7 ⟨rfl,j⟩;have b:=b.below j;have e:=btr e j;refine Zm rfl<|Ze (X2 (vs:=[.agg #[.string (tx (nfs ((opI c).getD mZ))),vi (nfk ((opI c).getD mZ) : Int),vi (nfp ((opI c).getD mZ) : Int)],.bool ((nfM ((opI c).getD mZ)).isSome)]) rfl rfl)<|Ze (X2 (vs:=[.agg #[.string (tx (nfs ((opI c).getD mZ))),vi (nfk ((opI c).getD mZ) : Int),vi (nfp ((opI c).getD mZ) : Int)],.bool ((nfM ((opI c).getD mZ)).isSome)]) rfl rfl)<|Zf (X4 (zs:=[.string (tx []),vi 0,vi 0]) X60 rfl) ?_;rintro _ w8 ⟨b0,rfl,aL,j,y⟩;have aB:=Q0 e.size aL;have b:=b.below j;have e:=btr e j;refine Zo (Vw [.string (tx (nfs ((opI c).getD mZ))),vi (nfk ((opI c).getD mZ) : Int),vi (nfp ((opI c).getD mZ) : Int)] X3a y) ?_;rintro _ w9 ⟨x,C⟩;have f:=y;have b:=b.only x (Blk.ne b f rfl);have e:=Below.only e x aB;have y:=C;refine Za rfl<|ZX aK fun a g _ aM=>?_;refine Zs g fun _ aN=>?_;refine Zm rfl<|Ze (X0o rfl)<|Zt aN fun a g=>?_
 refine Xl g rfl (fun q=>?_) (fun q=>?_)
 ·have aC:=q
  have o:=Xk5 (c:=c) (by have h9:=q;simpa using h9)
  refine Zs g fun _ aO=>?_;refine Ze (Xg (ps:=[]) (cs:=[vi 0,.slice none 0 0]) rfl (fun _=>by first|rfl|kernel_rfl))<|Zo (Vw [vi 0,.slice none 0 0] X3d b) ?_;rintro _ b1 ⟨x,C⟩;have f:=b;have e:=Below.only e x z;have b:=C;refine Za rfl<|Zt aO fun a g=>?_;refine Q6<|X7<|X3 g (X0r g rfl (ResV.cellN (l:=[vi 0,.slice none 0 0]) rfl X1p (b.at 0) rfl) rfl) ?_
  rw [o]
  exact ⟨none,0,rfl,(Own.nil _ _ _ _ _),e⟩
 have aC:=q
 have aP:(nfM ((opI c).getD mZ)).isSome=true:=by have h9:=q;simpa using h9
 have hA:=nfA aP;have o:=Xmq aA aP;refine Q7<|aM _ _<|Zs g fun _ aQ=>?_;refine Ze (Vn X1w y)<|Zf (Vc (Xrf _ (nfs ((opI c).getD mZ)) (nfl ((opI c).getD mZ)) (nfk ((opI c).getD mZ)) (nfp ((opI c).getD mZ)) hA.k hA.s hA.t hA.l hA.p) Xgi) ?_;rintro _ b2 ⟨aD,aE,rfl,u,j⟩;have u:=u.lower e.size;have b:=b.below j;have e:=btr e j;refine Zo (Vw [vi 1,.slice aD (fmW (nfk ((opI c).getD mZ)) (nfl ((opI c).getD mZ)) (nfp ((opI c).getD mZ))).length aE] X3d b) ?_;rintro _ b4 ⟨x,C⟩;have f:=b;have u:=u.onlyT x f rfl;have e:=Below.only e x z;have b:=C;refine Za rfl<|Zt aQ fun a g=>?_
 refine Q6 (X3 g (X0r g rfl (ResV.cellN (l:=[vi 1,.slice aD (fmW (nfk ((opI c).getD mZ)) (nfl ((opI c).getD mZ)) (nfp ((opI c).getD mZ))).length aE]) rfl X1p (b.at 0) rfl) rfl) ?_)
 rw [o]
 exact ⟨aD,aE,rfl,u,e⟩
theorem Xy5(w0:World){Xc:TypeId}(c:Cx)(Ac:Option Addr)(cc:Nat)(A:Rd w0 w0.heap.size Xc encG Ac c.gs)(d6:c.gs.length≤9223372036854775807)(bG:HalfT w0) : Ret Tryz.prog 4 [.agg #[vi c.n,.slice Ac c.gs.length cc]] w0 (fun v w=>v=.bool true∧Below w0.heap.size w0 w):=by
 refine enter Tryz.func4 rfl 96 rfl rfl ?_;intro a l
 have k:=bz w0
 refine Zs l fun _ d7=>?_;refine Zf (X09 (zs:=[vi c.n,.slice Ac c.gs.length cc]) rfl rfl) ?_;rintro _ w1 ⟨b3,rfl,bH,f,i⟩;have dH:=Q0 k.size bH;have d5:=(A.below' k).away bH;have k:=btr k f;refine Za rfl<|Zx d7 fun a l _ d8=>?_;refine Za rfl<|Zx d8 fun a l _ d9=>?_;refine Ze (Vn Xdx i)<|Zm rfl<|Zf (Vc (F14 _ c Ac cc (A.below' k).top 1048576 (by omega) d6) Xww) ?_;rintro _ w2 ⟨rfl,f⟩;have i:=i.below f;have k:=btr k f;refine Za rfl<|ZX d9 fun a l _ dA=>?_;refine Zs l fun _ dB=>?_;refine Zm rfl<|Ze (X14 rfl rfl)<|Zt dB fun a l=>?_
 refine Xl l rfl (fun Q=>?_) (fun Q=>?_)
 ·have q:=Q;have Q:=Q2 Q;refine Zs l fun _ dC=>?_;refine Za rfl<|Zt dC fun a l=>?_;refine Q6<|X7<|X3 l (Xt l rfl rfl) ?_;exact ⟨rfl,k⟩
 have q:=Q;have Q:=Q1 Q
 have N:c.gs.length≤1048576:=by have:=Xsv Q;omega
 refine Q7<|dA _ _<|Zs l fun _ bI=>?_;refine Ze (Vn Xdx i)<|Zf (Vc (F16 _ c Ac cc (A.below' k).top N) Xgt) ?_;rintro _ w3 ⟨dD,dE,rfl,aB,f⟩;have aB:=aB.lower k.size;have i:=i.below f;have k:=btr k f;refine Zf (Vc (Xye _ c dD dE aB.rd.top (Q0 N (by decide))) Xo3) ?_;rintro _ w4 ⟨aG,aH,rfl,b,f⟩;have aZ:=aB.apart b (Qb _);have b:=b.lower k.size;have i:=i.below f;have k:=btr k f;refine Zm rfl<|Ze (X2 (vs:=[.agg #[vi (((rdC c).getD cZ).n),.slice aG (((rdC c).getD cZ).gs).length aH],.bool ((rdC c).isSome)]) rfl rfl)<|Ze (X2 (vs:=[.agg #[vi (((rdC c).getD cZ).n),.slice aG (((rdC c).getD cZ).gs).length aH],.bool ((rdC c).isSome)]) rfl rfl)<|Zf (X4 (zs:=[vi 0,.slice none 0 0]) X7h rfl) ?_;rintro _ w5 ⟨aL,rfl,aQ,f,d⟩;have aU:=Q0 k.size aQ;have bJ:=(A.below' k).away aQ;have i:=i.below f;have b:=b.below f;have k:=btr k f;refine Zo (Vw [vi (((rdC c).getD cZ).n),.slice aG (((rdC c).getD cZ).gs).length aH] X3d d) ?_;rintro _ w6 ⟨I,hb⟩;have t:=d;have i:=i.only I (Blk.ne i t rfl);have b:=b.onlyT I t rfl;have k:=Below.only k I aU;have d:=hb;refine Za rfl<|Zx bI fun a l _ bK=>?_;refine Ze (Vn Xdx i)<|Zf (Vc (F16 _ c Ac cc (A.below' k).top N) Xgt) ?_;rintro _ w7 ⟨aM,aN,rfl,j,f⟩;have aI:=b.apart j (Qb _);have j:=j.lower k.size;have i:=i.below f;have d:=d.below f;have b:=b.below f;have k:=btr k f;refine Zf (X4 (zs:=[vi 0,.slice none 0 0]) X7h rfl) ?_;rintro _ w8 ⟨b18,rfl,aR,f,m⟩
 have b0:aL≠b18:=by have:=d.lt;omega
 have aW:=Q0 k.size aR;have bL:=(A.below' k).away aR;have i:=i.below f;have d:=d.below f;have b:=b.below f;have j:=j.below f;have k:=btr k f;refine Zo (Vw [vi c.n,.slice aM c.gs.length aN] X3d m) ?_;rintro _ w9 ⟨I,hb⟩;have t:=m;have i:=i.only I (Blk.ne i t rfl);have d:=d.only I (by omega);have b:=b.onlyT I t rfl;have j:=j.onlyT I t rfl;have k:=Below.only k I aW;have m:=hb;refine Zx bK fun a l _ bM=>?_;refine Ze (Vn X1p m)<|Zf (Vc (Xro _ c aM aN j.rd.top (Q0 N (by decide)) (bG.of k)) Xh6) ?_;rintro _ dI ⟨U,W,rfl,e,f⟩;have aJ:=b.apart e (Qb _);have aK:=j.apart e (Qb _);have e:=e.lower k.size;have i:=i.below f;have d:=d.below f;have m:=m.below f;have b:=b.below f;have j:=j.below f;have k:=btr k f;refine Zm rfl<|Ze (X2 (vs:=[.agg #[vi (((rdC c).getD cZ).n),.slice U (((rdC c).getD cZ).gs).length W],.bool ((rdC c).isSome)]) rfl rfl)<|Ze (X2 (vs:=[.agg #[vi (((rdC c).getD cZ).n),.slice U (((rdC c).getD cZ).gs).length W],.bool ((rdC c).isSome)]) rfl rfl)<|Zf (X4 (zs:=[vi 0,.slice none 0 0]) X7h rfl) ?_;rintro _ dJ ⟨b22,rfl,aS,f,g⟩
 have b1:aL≠b22:=by have:=d.lt;omega
 have b2:b18≠b22:=by have:=m.lt;omega
 have aX:=Q0 k.size aS;have bN:=(A.below' k).away aS;have i:=i.below f;have d:=d.below f;have m:=m.below f;have b:=b.below f;have j:=j.below f;have e:=e.below f;have k:=btr k f;refine Zo (Vw [vi (((rdC c).getD cZ).n),.slice U (((rdC c).getD cZ).gs).length W] X3d g) ?_;rintro _ w12 ⟨I,hb⟩;have t:=g;have i:=i.only I (Blk.ne i t rfl);have d:=d.only I (by omega);have m:=m.only I (by omega);have b:=b.onlyT I t rfl;have j:=j.onlyT I t rfl;have e:=e.onlyT I t rfl;have k:=Below.only k I aX;have g:=hb;refine Za rfl<|ZX bM fun a l _ bO=>?_;refine Q5 fun _ bP=>?_;refine X0a (fun a w=>Fr a 96 [(1,.pointer (some ⟨b3,0,none⟩)),(4,.pointer (some ⟨aL,0,none⟩)),(5,.bool ((rdC c).isSome)),(6,.pointer (some ⟨b18,0,none⟩)),(7,.pointer (some ⟨b22,0,none⟩)),(8,.bool ((rdC c).isSome)),(40,.bool ((!(eqC ((rdC c).getD cZ) ((rdC c).getD cZ)))||(((rdC c).isSome) != ((rdC c).isSome))))]∧Below w12.heap.size w12 w) ?_ ?_
 ·have C:Below w12.heap.size w12 w12:=Below.refl _ _
  refine Zr l<|Ze (Vn X1p g)<|Ze (Vn X1p d)<|Zf (Vc (F19 _ ((rdC c).getD cZ) U W e.rd.top ((rdC c).getD cZ) aG aH b.rd.top (Q0 (X7w c) (by decide))) Xht) ?_;rintro _ w13 ⟨rfl,f⟩;have k:=btr k f;have C:=btr C f;refine Ze (X0o rfl)<|Zm rfl ?_
  refine Zg 36 rfl (fun u=>?_) (fun u=>?_)
  ·refine Zp (gP u) ?_;refine Zp (gP u) ?_;refine Zp (gP u) ?_;refine Ze (Xh rfl u rfl) ?_;refine Zn fun a l=>?_
   have D:Below w12.heap.size w12 w13:=C
   exact ⟨l.sub ⟨rfl,rfl,rfl,rfl,rfl,rfl,X1 rfl (by first|rfl|(simp only [q,u,Qw,Bool.false_and,Bool.true_or,Bool.false_or];done)|(simp [q,u];done)|(exfalso;revert u;simp)),trivial⟩,D⟩
  refine Zv (gW u) (Xb rfl) ?_;refine Zv (gW u) (Xb rfl) ?_;refine Zv (gW u) (Xk2 Tryz.underlying4 rfl rfl) ?_;refine Ze (Xf rfl u rfl) ?_;refine Zn fun a l=>?_
  have D:Below w12.heap.size w12 w13:=C
  exact ⟨l.sub ⟨rfl,rfl,rfl,rfl,rfl,rfl,X1 rfl (by first|rfl|(simp only [q,u,Qw,Bool.false_and,Bool.true_or,Bool.false_or];done)|(simp [q,u];done)|(exfalso;revert u;simp)),trivial⟩,D⟩
 rintro a dK ⟨l,f⟩;have i:=i.below f;have d:=d.below f;have m:=m.below f;have g:=g.below f;have b:=b.below f;have j:=j.below f;have e:=e.below f;have k:=btr k f;refine bP _ _ ?_
 refine Xl l rfl (fun aC=>?_) (fun aC=>?_)
 ·have p:=aC
  simp [eqC] at aC
 have p:=aC;refine Q7<|bO _ _<|Q5 fun _ bQ=>?_;refine Q5 fun _ bR=>?_;refine X07 none (fun _=>false) mixed ?_;intro dL f;have i:=i.below f;have d:=d.below f;have m:=m.below f;have g:=g.below f;have b:=b.below f;have j:=j.below f;have e:=e.below f;have k:=btr k f;refine Yb l<|Ye 0 rfl (Vn X1p m)<|Ye 1 rfl (Vn Xdx i)<|Y1 2 ?_;refine Yk rfl trivial (Vc (F16 _ c Ac cc (A.below' k).top N) Xgt) (fun _ _ ⟨bS,bU,_,J,f⟩=>f) ?_;rintro _ dM ⟨bS,bU,rfl,J,f⟩;have b4:=b.apart J (Qb _);have b5:=j.apart J (Qb _);have b6:=e.apart J (Qb _);have J:=J.lower k.size;have i:=i.below f;have d:=d.below f;have m:=m.below f;have g:=g.below f;have b:=b.below f;have j:=j.below f;have e:=e.below f;have k:=btr k f;refine Y1 3<|Yk rfl trivial (Vc (F19 _ c aM aN j.rd.top c bS bU J.rd.top (Q0 N (by decide))) Xht) (fun _ _ ⟨_,f⟩=>f) ?_;rintro _ dN ⟨rfl,f⟩;have i:=i.below f;have d:=d.below f;have m:=m.below f;have g:=g.below f;have b:=b.below f;have j:=j.below f;have e:=e.below f;have k:=btr k f;refine Yo 4 rfl (fun _=>X0o rfl) ?_;refine Yd fun a l=>?_;refine bR _ _ ?_
 refine Xl l rfl (fun aD=>?_) (fun aD=>?_)
 ·have x:=aD
  simp [eqC] at aD
 have x:=aD;refine Q7<|bQ _ _<|Zs l fun _ bW=>?_;refine Za rfl<|Zx bW fun a l _ bZ=>?_;refine Ze (Vn X1p m)<|Zm rfl<|Zf (Vc (F23 _ w0.heap.size aM aN c.gs j c.n 1 (by decide) (Q0 N (by decide))) Xrh) ?_;rintro _ w18 ⟨rfl,a9,hg⟩;have h:=j;have i:=i.appT h hg rfl;have d:=d.appT h hg rfl;have g:=g.appT h hg rfl;have b:=b.appP hg aI;have e:=e.appP hg aK.symm;have k:=Below.app k h hg (Qb _) k.size
 clear h hg;clear j;have j:=a9;clear a9;refine Za rfl<|ZX bZ fun a l _ cA=>?_;refine Q5 fun _ cB=>?_;refine X0a (fun a w=>Fr a 96 [(1,.pointer (some ⟨b3,0,none⟩)),(4,.pointer (some ⟨aL,0,none⟩)),(5,.bool ((rdC c).isSome)),(7,.pointer (some ⟨b22,0,none⟩)),(61,.bool (((decide ((1+3*(c.gs.length:Int))<0))||(!(eqC ((rdC c).getD cZ) ((rdC c).getD cZ))))||(((rdC c).isSome) != ((rdC c).isSome))))]∧Below w18.heap.size w18 w) ?_ ?_
 ·have C:Below w18.heap.size w18 w18:=Below.refl _ _
  refine Zr l<|Zm rfl<|Ze (X14 rfl rfl)<|Zm rfl ?_
  refine Zg 51 rfl (fun o=>?_) (fun o=>?_)
  ·refine Zp (gP o) ?_;refine Zp (gP o) ?_;refine Zp (gP o) ?_;refine Zp (gP o) ?_;refine Ze (Xh rfl o rfl)<|Zm rfl<|Zp (gP rfl) ?_;refine Zp (gP rfl) ?_;refine Zp (gP rfl) ?_;refine Ze (Xh rfl rfl rfl) ?_;refine Zn fun a l=>?_
   have D:Below w18.heap.size w18 w18:=C
   exact ⟨l.sub ⟨rfl,rfl,rfl,rfl,X1 rfl (by first|rfl|(simp only [q,p,x,o,Qw,Bool.false_and,Bool.true_or,Bool.false_or];done)|(simp [q,p,x,o];done)|(exfalso;revert o;simp)),trivial⟩,D⟩
  refine Zv (gW o) (Vn X1p g) ?_;refine Zv (gW o) (Vn X1p d) ?_;refine Zk (gW o) (Vc (F19 _ ((rdC c).getD cZ) U W e.rd.top ((rdC c).getD cZ) aG aH b.rd.top (Q0 (X7w c) (by decide))) Xht) ?_;rintro _ w19 ⟨rfl,f⟩;have k:=btr k f;have C:=btr C f;refine Zv (gW o) (X0o rfl) ?_;refine Ze (Xf rfl o rfl)<|Zm rfl ?_
  refine Zg 57 rfl (fun y=>?_) (fun y=>?_)
  ·refine Zp (gP y) ?_;refine Zp (gP y) ?_;refine Zp (gP y) ?_;refine Ze (Xh rfl y rfl) ?_;refine Zn fun a l=>?_
   have D:Below w18.heap.size w18 w19:=C
   exact ⟨l.sub ⟨rfl,rfl,rfl,rfl,X1 rfl (by first|rfl|(simp only [q,p,x,o,y,Qw,Bool.false_and,Bool.true_or,Bool.false_or];done)|(simp [q,p,x,o,y];done)|(exfalso;revert y;simp)),trivial⟩,D⟩
  refine Zv (gW y) (Xb rfl) ?_;refine Zv (gW y) (Xb rfl) ?_;refine Zv (gW y) (Xk2 Tryz.underlying4 rfl rfl) ?_;refine Ze (Xf rfl y rfl) ?_;refine Zn fun a l=>?_
  have D:Below w18.heap.size w18 w19:=C
  exact ⟨l.sub ⟨rfl,rfl,rfl,rfl,X1 rfl (by first|rfl|(simp only [q,p,x,o,y,Qw,Bool.false_and,Bool.true_or,Bool.false_or];done)|(simp [q,p,x,o,y];done)|(exfalso;revert y;simp)),trivial⟩,D⟩
 rintro a dP ⟨l,f⟩;have i:=i.below f;have d:=d.below f;have g:=g.below f;have b:=b.below f;have e:=e.below f;have k:=btr k f;refine cB _ _ ?_
 refine Xl l rfl (fun aE=>?_) (fun aE=>?_)
 ·have L:=aE
  have h9:¬ (1+3*(c.gs.length:Int)<0):=by omega
  simp [h9,eqC] at aE
 have L:=aE;refine Q7<|cA _ _<|Zs l fun _ cC=>?_;refine Za rfl<|Zx cC fun a l _ cD=>?_;refine Ze (Vn X1p g)<|Zm rfl<|Zf (Vc (F23 _ w0.heap.size U W (((rdC c).getD cZ).gs) e (((rdC c).getD cZ).n) 1 (by decide) (Q0 (X7w c) (by decide))) Xrh) ?_;rintro _ dQ ⟨rfl,a9,hg⟩;have h:=e;have i:=i.appT h hg rfl;have d:=d.appT h hg rfl;have g:=g.appT h hg rfl;have b:=b.appP hg aJ;have k:=Below.app k h hg (Qb _) k.size
 clear h hg;clear e;have e:=a9;clear a9;refine Za rfl<|Zx cD fun a l _ cE=>?_;refine Za rfl<|Zx cE fun a l _ cF=>?_;refine Ze (Vn X1p g)<|Zm rfl<|Zf (Vc (F33 _ U W (((rdC c).getD cZ).gs).length (markG 1 (((rdC c).getD cZ).gs).length) (X6d _ _).symm e.rd.top (((rdC c).getD cZ).n) 1 (by decide) (by rw [X6d];exact (Q0 (X7w c) (by decide)))) Xr3) ?_;rintro _ dR ⟨rfl,f⟩;have i:=i.below f;have d:=d.below f;have g:=g.below f;have b:=b.below f;have e:=e.below f;have k:=btr k f;refine Za rfl<|ZX cF fun a l _ cG=>?_;refine Zs l fun _ cH=>?_;refine Zm rfl<|Ze (X14 rfl rfl)<|Zt cH fun a l=>?_
 refine Xl l rfl (fun H=>?_) (fun H=>?_)
 ·have E:=H;have H:=Q2 H
  rw [X6z] at H;omega
 have E:=H;have H:=Q1 H;refine Q7<|cG _ _<|Q5 fun _ cJ=>?_;refine Zs l fun _ cK=>?_;refine Zm rfl<|Zm rfl<|Ze (X2m rfl rfl)<|Zt cK fun a l=>?_
 refine Xl l rfl (fun aA=>?_) (fun aA=>?_)
 ·have G:=aA
  rw [X6z] at aA;simp at aA
 have G:=aA;refine Q7<|cJ _ _<|Zs l fun _ cM=>?_;refine Ze (Vn Xdx i)<|Zf (Vc (F16 _ c Ac cc (A.below' k).top N) Xgt) ?_;rintro _ dS ⟨dF,dG,rfl,M,f⟩;have b7:=b.apart M (Qb _);have b8:=e.apart M (Qb _);have M:=M.lower k.size;have d:=d.below f;have g:=g.below f;have b:=b.below f;have e:=e.below f;have k:=btr k f;refine Zf (Vc (Xro _ c dF dG M.rd.top (Q0 N (by decide)) (bG.of k)) Xh6) ?_;rintro _ dT ⟨aO,aP,rfl,B,f⟩;have b9:=b.apart B (Qb _);have bC:=e.apart B (Qb _);have bD:=M.apart B (Qb _);have B:=B.lower k.size;have d:=d.below f;have g:=g.below f;have b:=b.below f;have e:=e.below f;have k:=btr k f;refine Zm rfl<|Ze (X2 (vs:=[.agg #[vi (((rdC c).getD cZ).n),.slice aO (((rdC c).getD cZ).gs).length aP],.bool ((rdC c).isSome)]) rfl rfl)<|Ze (X2 (vs:=[.agg #[vi (((rdC c).getD cZ).n),.slice aO (((rdC c).getD cZ).gs).length aP],.bool ((rdC c).isSome)]) rfl rfl)<|Zf (X4 (zs:=[vi 0,.slice none 0 0]) X7h rfl) ?_;rintro _ dU ⟨b52,rfl,aT,f,aF⟩
 have bE:aL≠b52:=by have:=d.lt;omega
 have bF:b22≠b52:=by have:=g.lt;omega
 have aY:=Q0 k.size aT;have cO:=(A.below' k).away aT;have d:=d.below f;have g:=g.below f;have b:=b.below f;have e:=e.below f;have B:=B.below f;have k:=btr k f;refine Zo (Vw [vi (((rdC c).getD cZ).n),.slice aO (((rdC c).getD cZ).gs).length aP] X3d aF) ?_;rintro _ w26 ⟨I,hb⟩;have t:=aF;have d:=d.only I (by omega);have g:=g.only I (by omega);have b:=b.onlyT I t rfl;have e:=e.onlyT I t rfl;have B:=B.onlyT I t rfl;have k:=Below.only k I aY;have aF:=hb;refine Za rfl<|ZX cM fun a l _ cP=>?_;refine Q5 fun _ cQ=>?_;refine X0a (fun a w=>Fr a 96 [(7,.pointer (some ⟨b22,0,none⟩)),(10,vi (1+3*((((rdC c).getD cZ).gs).length:Int))),(87,.bool ((!(eqC ((rdC c).getD cZ) ((rdC c).getD cZ)))||(((rdC c).isSome) != ((rdC c).isSome))))]∧Below w26.heap.size w26 w) ?_ ?_
 ·have C:Below w26.heap.size w26 w26:=Below.refl _ _
  refine Zr l<|Ze (Vn X1p aF)<|Ze (Vn X1p d)<|Zf (Vc (F19 _ ((rdC c).getD cZ) aO aP B.rd.top ((rdC c).getD cZ) aG aH b.rd.top (Q0 (X7w c) (by decide))) Xht) ?_;rintro _ w27 ⟨rfl,f⟩;have k:=btr k f;have C:=btr C f;refine Ze (X0o rfl)<|Zm rfl ?_
  refine Zg 83 rfl (fun z=>?_) (fun z=>?_)
  ·refine Zp (gP z) ?_;refine Zp (gP z) ?_;refine Zp (gP z) ?_;refine Ze (Xh rfl z rfl) ?_;refine Zn fun a l=>?_
   have D:Below w26.heap.size w26 w27:=C
   exact ⟨l.sub ⟨rfl,rfl,X1 rfl (by first|rfl|(simp only [q,p,x,L,E,G,z,Qw,Bool.false_and,Bool.true_or,Bool.false_or];done)|(simp [q,p,x,L,E,G,z];done)|(exfalso;revert z;simp)),trivial⟩,D⟩
  refine Zv (gW z) (Xb rfl) ?_;refine Zv (gW z) (Xb rfl) ?_;refine Zv (gW z) (Xk2 Tryz.underlying4 rfl rfl) ?_;refine Ze (Xf rfl z rfl) ?_;refine Zn fun a l=>?_
  have D:Below w26.heap.size w26 w27:=C
  exact ⟨l.sub ⟨rfl,rfl,X1 rfl (by first|rfl|(simp only [q,p,x,L,E,G,z,Qw,Bool.false_and,Bool.true_or,Bool.false_or];done)|(simp [q,p,x,L,E,G,z];done)|(exfalso;revert z;simp)),trivial⟩,D⟩
 rintro a dW ⟨l,f⟩;have g:=g.below f;have e:=e.below f;have k:=btr k f;refine cQ _ _<|X3c l (X1 rfl p) ?_;refine Q7<|cP _ _<|Zs l fun _ cR=>?_;refine Za rfl<|Zx cR fun a l _ cS=>?_;refine Ze (Vn X1p g)<|Zm rfl<|Zf (Vc (F33 _ U W (((rdC c).getD cZ).gs).length (markG 1 (((rdC c).getD cZ).gs).length) (X6d _ _).symm e.rd.top (((rdC c).getD cZ).n) 1 (by decide) (by rw [X6d];exact (Q0 (X7w c) (by decide)))) Xr3) ?_;rintro _ dX ⟨rfl,f⟩;have k:=btr k f;refine Za rfl<|ZX cS fun a l _ cT=>?_;refine Zs l fun _ cU=>?_;refine Zm rfl<|Ze (X14 rfl rfl)<|Zt cU fun a l=>?_;refine X3c l (X1 rfl E) ?_;refine Q7<|cT _ _<|Q5 fun _ cV=>?_;refine Zs l fun _ cW=>?_;refine Zm rfl<|Zm rfl<|Ze (X2m rfl rfl)<|Zt cW fun a l=>?_;refine X3c l (X1 rfl G) ?_;refine Q7<|cV _ _<|Zs l fun _ cX=>?_;refine Za rfl<|Zt cX fun a l=>?_
 refine Q6 (X3 l (Xt l rfl rfl) ?_)
 exact ⟨rfl,k⟩
end Go.Proofs.YtnmabjfoiakapaaGreatDoor
namespace Go.Proofs.YtnmabjfoiakapaaGreatDoor
open Go.ChangeShapes Go.WideShapes Go.ChangeAt Go.RowKit Go.Deep Go.Joins
set_option linter.unusedVariables false
theorem Xgr : Tryz.prog.globalNamed "loop.example/g00864/impl.half" = some 0 := by kernel_rfl
theorem Xrd:(Tryz.prog.globals[0]?).map (·.type)=some (86:TypeId):=by kernel_rfl
theorem Xdc:Tryz.prog.cellsOf 84=4:=by kernel_rfl
theorem Xmf:Tryz.prog.cellsOf 86=5:=by kernel_rfl
section
variable {H : Type} {enc : TypeId × Value → H} {w : World} {base fuel : Nat} {spare : Nat → Bool} {held : Bool}
set_option maxRecDepth 100000 in
theorem Xp8{cs:List Value}{a b c d:Int}{p:List MemPlace}(h:DataW.trod enc Tryz.prog w base spare held fuel 84 cs=some (.agg [.lit (.int .i64 a),.lit (.int .i64 b),.lit (.int .i64 c),.lit (.int .i64 d)],p)) : cs=encR ⟨a,b,c,d⟩:=by
 obtain ⟨y0,y1,y2,y3,n,hx,hl,h0,h1,h2,h3⟩:=trod_struct4 Tryz.underlying84 h
 rw [Xdc] at hl
 match cs,hl with
 | [c0,c1,c2,c3],_=>
  simp only [Xcl] at h0 h1 h2 h3
  obtain ⟨a',e0,rfl,_⟩:=DataW.trod_int Tryz.underlying3 h0;obtain ⟨b',e1,rfl,_⟩:=DataW.trod_int Tryz.underlying3 h1;obtain ⟨c',e2,rfl,_⟩:=DataW.trod_int Tryz.underlying3 h2;obtain ⟨d',e3,rfl,_⟩:=DataW.trod_int Tryz.underlying3 h3
  simp at e0 e1 e2 e3 hx
  obtain ⟨⟨rfl,rfl,rfl,rfl⟩,_⟩:=hx
  rw [e0,e1,e2,e3]
  rfl
set_option maxRecDepth 100000 in
theorem Xq2{cs:List Value}{p:List MemPlace}(h:DataW.trod enc Tryz.prog w base spare held fuel 86 cs=some (Rows.laid_loop_example_g00864_impl_half,p)) : cs=encD dHf:=by
 obtain ⟨y0,y1,n,hx,hl,h0,h1⟩:=trod_struct2 Tryz.underlying86 h
 rw [Xmf] at hl
 match cs,hl with
 | [c0,c1,c2,c3,c4],_=>
  simp only [Xdc] at h0
  simp only [Xcl] at h1
  obtain ⟨z,e1,rfl,_⟩:=DataW.trod_int Tryz.underlying3 h1
  unfold Rows.laid_loop_example_g00864_impl_half at hx
  obtain ⟨y,py⟩:=y0
  simp at e1 hx
  obtain ⟨⟨rfl,rfl⟩,_⟩:=hx
  have e0:=Xp8 h0
  simp [encR] at e0
  obtain ⟨g0,g1,g2,g3⟩:=e0
  rw [g0,g1,g2,g3,e1]
  rfl
end
theorem Xpl {W : World} (h : laidMetH Tryz.prog [("loop.example/g00864/impl.half", Rows.laid_loop_example_g00864_impl_half)] W) : HalfT W := by
 rw [MakeChecks.laidMetH_plain _ _ _ (by kernel_rfl)] at h
 obtain ⟨g,t,cs,fuel,p,h1,h2,h3,h4⟩:=Lib.laidMet.reads h (.head _)
 rw [Xgr] at h1
 obtain rfl:=Option.some.inj h1
 rw [Xrd] at h2
 obtain rfl:=Option.some.inj h2
 have hc:=Xq2 h4
 unfold World.var? at h3
 rw [Xgr,Qz] at h3
 cases hh:W.heap[0]? with
 | none=>rw [hh] at h3;cases h3
 | some r=>
  rw [hh] at h3
  cases r with
  | cells cs' T F=>
   simp only [Option.some.injEq] at h3
   subst h3
   exact ⟨T,F,by rw [hh,← hc]⟩
  | _=>cases h3
theorem Xfh {H : Type} {enc : TypeId × Value → H} {W W' : World} {gs : List (DataW H)} {q : List MemPlace} (h : DataW.TrodVars enc Tryz.prog W (fun _ => true) ["loop.example/g00864/impl.half"] gs q) (hlt : ∀ x ∈ q, x.block < W.heap.size) (hb : Below W.heap.size W W') {sp : Nat → Bool} (hs : ∀ x ∈ q, sp x.block = true) : DataW.TrodVars enc Tryz.prog W' sp ["loop.example/g00864/impl.half"] gs q := by
 obtain ⟨g,t,cs,fuel,d,p,rfl,h1,h2,h3,h4,rfl⟩:=trodVars_one h
 have h1':=h1
 have h2':=h2
 rw [Xgr] at h1'
 obtain rfl:=Option.some.inj h1'
 rw [Xrd] at h2'
 obtain rfl:=Option.some.inj h2'
 have h3' : W'.var? Tryz.prog "loop.example/g00864/impl.half" = some cs := by
  unfold World.var? at h3 ⊢
  rw [Xgr,Qz] at h3 ⊢
  cases hh:W.heap[0]? with
  | none=>rw [hh] at h3;cases h3
  | some r=>rw [hb.block 0 (Qp.1 hh).1];exact h3
 exact trodVars_mk1 (fuel:=fuel) h1 h2 h3' (DataW.trod_stays (kids_book Xgd (by kernel_rfl)) (book_sized (by kernel_rfl)) (fun h=>by cases h) ⟨Q2 (by kernel_rfl),book_self _⟩ h4 (fun x hx=>hb.same (hlt x (Qu.2 (.inr hx)))) (fun x hx=>hs x (Qu.2 (.inr hx))))
set_option linter.unusedVariables false
set_option maxRecDepth 100000 in
theorem Xee(os:Os)(started:os.Started)(H:Type)(enc:TypeId×Value→H) :
  ReturnsInHanded {} Tryz.checked os 4 .any (fun w args=>(Rows.fnExactReduceOneQubitSpec.pre enc Tryz.prog Tryz.f4 [] false w args∧laidMetH Tryz.prog Rows.fnExactReduceOneQubitRow.laid w)∧sizedMet enc Tryz.prog Tryz.f4 (OpenSpec.ofChange Rows.fnExactReduceOneQubitSpec) false w args)
   (Rows.fnExactReduceOneQubitSpec.post enc Tryz.prog Tryz.f4 false true false false):=by
 refine returnsInHanded_of_change_and (C:=Tryz.checked) (X:=fun w _=>laidMetH Tryz.prog Rows.fnExactReduceOneQubitRow.laid w) (fun _ _ _ hh h=>h.of_heap hh) own started (by kernel_rfl) Tryz.func4
  (ChangeSpec.witness_shaped (enc:=enc) (C:=Tryz.checked) (os:=os) (X:=fun w _=>laidMetH Tryz.prog Rows.fnExactReduceOneQubitRow.laid w) false (World.laidAll Tryz.prog os Rows.fnExactReduceOneQubitRow.laid) #[.agg #[.int .i64 0,.slice none 0 0]] 8 (World.laidAll_os _ _ _)
   (World.shaped_of_ZipB (by kernel_rfl) (by kernel_rfl)) (by kernel_rfl) (by kernel_rfl) (by kernel_rfl)
   (by rw [MakeChecks.laidMetH_plain _ _ _ (by kernel_rfl)];exact laidMet_laidAll _ (by kernel_rfl) (by kernel_rfl))) ?_
 intro W base args ds gs before hval0 hW _ _ hL _
 have hval:∀ (j:Nat) t v,Tryz.f4.params[j]? = some t→args[j]? = some v→Value.okWide Tryz.prog W .any base t v:=hval0
 have hW':=hW
 obtain ⟨p,q,hA0,hV,rfl,hfz,hnd⟩:=hW
 have hA:DataW.TrodAll enc Tryz.prog W 0 (fun _=>true) true Tryz.f4.params.toList args.toList ds p:=hA0
 rw [Tryz.params4] at hA hval
 obtain ⟨v0,d0,rfl,rfl,h0⟩:=trodAll_one hA
 have hV' : DataW.TrodVars enc Tryz.prog W (fun _ => true) ["loop.example/g00864/impl.half"] gs q := hV
 obtain ⟨_,_,_,_,g1,_,hgs,_⟩:=trodVars_one hV'
 subst hgs
 have h0k:=h0
 obtain ⟨c,A,i,E,rfl,hr0,hl0⟩:=Xiz (hval 0 39 v0 rfl rfl) h0 (fun _=>rfl)
 clear hA0 hval0
 have hlt:∀ x ∈ p++q,x.block<W.heap.size:=fun x hx=>hW'.lt x hx
 refine Calls.mono (Xy5 W c A i hr0 hl0 (Xpl hL)) fun r W' ⟨v,he,hv,hb⟩=>?_
 subst hv
 refine ⟨_,he,Xfo (pa:=p) (pv:=q) hW' (fun _ _ _=>trodAll_mk1 (shut_bool Tryz.underlying4 true)) (fun sp hsp=>?_) (fun sp hsp=>Xfh hV' (fun x hx=>hlt x (Qu.2 (.inr hx))) hb (fun x hx=>hsp x (Qu.2 (.inr hx)))) rfl hb⟩
 exact trodAll_mk1 (WideElems.Trod_stays Xgd (by kernel_rfl) (Q2 (by kernel_rfl)) h0k (fun x hx=>hb.same (hlt x (Qu.2 (.inl hx)))) (fun x hx=>hsp x (Qu.2 (.inl hx))))
theorem Xmj:Rows.FnExactReduceOneQubitSaid:=
 OpenClaim.holds_of_wide 4 Tryz.f4 rfl rfl rfl rfl rfl rfl rfl ⟨rfl,rfl,rfl,rfl,rfl⟩ rfl rfl rfl rfl rfl (by kernel_rfl) Tryz.func4 (by kernel_rfl)
  (Q2 (by kernel_rfl)) (by unfold Func.isWrapper;first|(rw [Q4 (by decide +kernel)];kernel_rfl)|(rw [Q3 (by decide +kernel)];exact ⟨rfl,rfl⟩))
  (fun os started H enc _=>Xee os started H enc)
theorem Xox : Tryz.prog.funcNamed "loop.example/g00864/laws.FnExactReduceOneQubit" = some 4 := by kernel_rfl
theorem Xfk:Tryz.prog.wantsStandIn 39=false:=by kernel_rfl
theorem redq_holds:Rows.FnExactReduceOneQubitCardSaid:=
 Claim7.holds_tied_plain_at .later [] [.data] true (true, "d8f154f7491da93ed7e14c1fbf7b480e067dc0778ba72b2cde086a8153ae0209") false
  Xmj (fun _ h=>by cases h) (by kernel_rfl) (fun _ h=>by cases h) fnExactReduceOneQubit_row_tie rfl ⟨rfl,rfl⟩ (by kernel_rfl) rfl
  (fun f fn hf hfn=>by
   obtain rfl:f=4:=Option.some.inj (Xox.symm.trans hf) |>.symm
   obtain rfl:fn=Tryz.f4:=(Option.some.inj (Tryz.func4.symm.trans hfn)).symm
   exact ⟨by kernel_rfl,fun j t ht=>by
    rw [Tryz.params4] at ht
    have hm:=Array.mem_of_getElem? ht
    simp only [List.mem_toArray,Qv,List.mem_nil_iff,or_false] at hm
    subst hm;exact Xfk⟩)
  (by kernel_rfl)
end Go.Proofs.YtnmabjfoiakapaaGreatDoor
