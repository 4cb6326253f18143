/-
  What is proved: for every drawn matrix and circuit, the normal form, its matrix, its circuit and the count of T bear each other out, in the code as in the reference; a reduced circuit has the operator and no more T than before; the arguments and the variable half read as before. Conditions: none beside the variable's value, which the card ties to the program's text.
-/
import Derived.Test.YtnmabjfoiakapaaGreatDoorX3
import Derived.Test.YtnmabjfoiakapaaGreatDoorX2
import Derived.Test.YtnmabjfoiakapaaGreatDoorX1
set_option linter.unusedVariables false
set_option linter.unusedSimpArgs false
set_option maxHeartbeats 1000000
set_option maxRecDepth 4000
set_option linter.unusedSectionVars false
namespace Go.Proofs.YtnmabjfoiakapaaGreatDoor
open Go.RowKit
theorem Xrn(w0:World)(n:Int) : Ret Tryz.prog 151 [vi n] w0 (fun v w=>v=.bool (dimS n)∧Below w0.heap.size w0 w):=by
 refine enter Tryz.func151 rfl 6 rfl rfl ?_;intro a hf
 have hW:=bz w0
 refine Zs hf fun _ aA=>?_;refine Za rfl<|Zx aA fun a hf _ aB=>?_;refine Zf (X7 (k:=6) (vs:=[vi 1,vi 2,vi 4,vi 8,vi 16,vi 32]) (zs:=[vi 1,vi 2,vi 4,vi 8,vi 16,vi 32]) rfl X2r X4j rfl rfl) ?_;rintro _ w1 ⟨b3,rfl,aC,hE,a9⟩;have aD:=Q0 hW.size aC;have hW:=btr hW hE;refine Zm rfl<|Zf (Vc (Y0x _ (some ⟨b3,0,none⟩) 6 ([1,2,4,8,16,32]) (Rd.of_blk a9 rfl _ a9.lt) n (by simp)) Xvl) ?_;rintro _ w2 ⟨rfl,hE⟩;have hW:=btr hW hE;refine Za rfl<|Zt aB fun a hf=>?_
 refine Q6 (X4 hf (Xp hf rfl rfl) ?_)
 exact ⟨by simp [dimS],hW⟩
theorem Xxe(B:World)(m:Mx)(Am:Option Addr)(cm:Nat)(C:Rd B B.heap.size 86 encD Am m.cells)(b0:m.cells.length≤2305843009213693951) : Ret Tryz.prog 106 [.agg #[vi m.rows,vi m.cols,.slice Am m.cells.length cm]] B (fun v w=>v=.bool (mOk m)∧Below B.heap.size B w):=by
 refine enter Tryz.func106 rfl 37 rfl rfl ?_;intro a f
 have n:=bz B
 refine Zs f fun _ aR=>?_;refine Zf (X0b (zs:=[vi m.rows,vi m.cols,.slice Am m.cells.length cm]) rfl rfl) ?_;rintro _ w1 ⟨b3,rfl,aS,q,j⟩;have aY:=Q0 n.size aS;have n:=btr n q;refine Za rfl<|ZX aR fun a f _ aT=>?_;refine Q5 fun _ aU=>?_;refine X09 (fun a w=>Fr a 37 [(1,.pointer (some ⟨b3,0,none⟩)),(25,.bool (((!(dimS m.rows))||(!(dimS m.cols)))||((m.cells.length:Int) != (wr (m.rows*m.cols)))))]∧Below w1.heap.size w1 w) ?_ ?_
 ·have t:Below w1.heap.size w1 w1:=Below.refl _ _
  refine Zr f<|Ze (Vd rfl X13 0)<|Ze (X0 rfl X9 (j.at 0))<|Zf (Vc (Xrn _ m.rows) Xig) ?_;rintro _ w2 ⟨rfl,q⟩;have j:=j.below q;have n:=btr n q;have t:=btr t q;refine Ze (X0p rfl)<|Zm rfl ?_
  refine Zg 9 rfl (fun g=>?_) (fun g=>?_)
  ·refine Zp (gP g) ?_;refine Zp (gP g) ?_;refine Zp (gP g) ?_;refine Zp (gP g) ?_;refine Ze (Xh rfl g rfl)<|Zm rfl<|Zp (gP rfl) ?_;refine Zp (gP rfl) ?_;refine Zp (gP rfl) ?_;refine Zp (gP rfl) ?_;refine Zp (gP rfl) ?_;refine Zp (gP rfl) ?_;refine Zp (gP rfl) ?_;refine Zp (gP rfl) ?_;refine Zp (gP rfl) ?_;refine Ze (Xh rfl rfl rfl) ?_;refine Zn fun a f=>?_
   have z:Below w1.heap.size w1 w2:=t
   exact ⟨f.sub ⟨rfl,X2 rfl (by first|rfl|(simp only [g,bs];done)|simp [g]),trivial⟩,z⟩
  refine Zv (gW g) (Vd rfl X0w 1) ?_;refine Zv (gW g) (X0 rfl X9 (j.at 1)) ?_;refine Zk (gW g) (Vc (Xrn _ m.cols) Xig) ?_;rintro _ w3 ⟨rfl,q⟩;have j:=j.below q;have n:=btr n q;have t:=btr t q;refine Zv (gW g) (X0p rfl) ?_;refine Ze (Xd rfl g rfl)<|Zm rfl ?_
  refine Zg 15 rfl (fun e=>?_) (fun e=>?_)
  ·refine Zp (gP e) ?_;refine Zp (gP e) ?_;refine Zp (gP e) ?_;refine Zp (gP e) ?_;refine Zp (gP e) ?_;refine Zp (gP e) ?_;refine Zp (gP e) ?_;refine Zp (gP e) ?_;refine Zp (gP e) ?_;refine Ze (Xh rfl e rfl) ?_;refine Zn fun a f=>?_
   have z:Below w1.heap.size w1 w3:=t
   exact ⟨f.sub ⟨rfl,X2 rfl (by first|rfl|(simp only [g,e,bs];done)|simp [g,e]),trivial⟩,z⟩
  refine Zv (gW e) (Vd rfl X0m 2) ?_;refine Zv (gW e) (X0 rfl X0c (j.at 2)) ?_;refine Zv (gW e) (X22 rfl Xs) ?_;refine Zv (gW e) (Vd rfl X13 0) ?_;refine Zv (gW e) (X0 rfl X9 (j.at 0)) ?_;refine Zv (gW e) (Vd rfl X0w 1) ?_;refine Zv (gW e) (X0 rfl X9 (j.at 1)) ?_;refine Zv (gW e) (X30 rfl rfl) ?_;refine Zv (gW e) (X3w rfl rfl) ?_;refine Ze (Xd rfl e rfl) ?_;refine Zn fun a f=>?_
  have z:Below w1.heap.size w1 w3:=t
  exact ⟨f.sub ⟨rfl,X2 rfl (by first|rfl|(simp only [g,e,bs];done)|simp [g,e]),trivial⟩,z⟩
 rintro a w4 ⟨f,q⟩;have j:=j.below q;have n:=btr n q;refine aU _ _ ?_
 refine Xi f rfl (fun h=>?_) (fun h=>?_)
 ·have aE:=h
  have aF:mOk m=false:=by revert h;unfold mOk;rw [← X9i,← X9i];cases dimS m.rows<;>cases dimS m.cols<;>simp<;>exact fun h8 h9=>absurd h9 h8
  refine Zs f fun _ aW=>?_;refine Za rfl<|Zt aW fun a f=>?_;refine Q6<|X8<|X4 f (Xp f rfl rfl) ?_;exact ⟨by rw [aF],n⟩
 have aE:=h
 have aG:(isDimB m.rows&&isDimB m.cols&&(m.cells.length:Int)==wr (m.rows*m.cols))=true:=by revert h;rw [← X9i,← X9i];cases dimS m.rows<;>cases dimS m.cols<;>simp
 refine Q7<|aT _ _<|Q5 fun _ aH=>?_;refine Zs f fun _ aI=>?_;refine Ze (Vd rfl X0m 2)<|Ze (X0 rfl X0c (j.at 2))<|Ze (X22 rfl Xs)<|Zm rfl<|Zt aI fun a f=>?_;refine Q8<|X04 (σ:=Nat) (fun (k:Nat) (a:Act) (w:World)=>Fr a 37 [(27,.slice Am m.cells.length cm),(28,vi (m.cells.length:Int)),(29,vi (k:Int))]∧(k≤m.cells.length)∧((m.cells.take k).all (fun x=>dOk x)=true)∧Below B.heap.size B w) (fun (k:Nat)=>m.cells.length+1-k) 0 ?_ ?_
 ·exact ⟨f.sb,(Qf _),(by simp),n⟩
 rintro k a w5 ⟨f,hk,D,n⟩;refine Zs f fun _ aJ=>?_;refine Ze (X19 rfl rfl)<|ZX aJ fun a f _ aK=>?_
 refine Xi f rfl (fun o=>?_) (fun o=>?_)
 ·have a9:=o;have o:=Q2 o
  obtain ⟨i,A⟩:=Xr (l:=m.cells) (k:=k) (by omega)
  refine Q7<|aK _ _<|Q5 fun _ aL=>?_;refine Q8<|Zs f fun _ aM=>?_;refine Zi (k:=k) (u:=i) (enc:=encD) (l:=m.cells) trivial rfl rfl Xs Xb Xw (C.below' n) A rfl ?_;intro b1 aA;refine Ze (Xz (l:=[vi i.num.a,vi i.num.b,vi i.num.c,vi i.num.d,vi i.exp]) rfl X6 aA rfl)<|Zf (X3 (zs:=[vi 0,vi 0,vi 0,vi 0,vi 0]) X0l rfl) ?_;rintro _ w6 ⟨b2,rfl,E,q,y⟩;have aB:=Q0 n.size E;have aN:=(C.below' n).away E;have n:=btr n q;refine Zo (Vw [vi i.num.a,vi i.num.b,vi i.num.c,vi i.num.d,vi i.exp] Xb y) ?_;rintro _ w7 ⟨ho,hb⟩;have aZ:=y;have n:=Below.only n ho aB;have y:=hb;refine Zx aM fun a f _ aO=>?_;refine Ze (Vn X6 y)<|Zf (Vc (Xwn _ i) Xr6) ?_;rintro _ w8 ⟨rfl,q⟩;have n:=btr n q;refine Ze (X0p rfl)<|Zt aO fun a f=>?_
  refine Xi f rfl (fun p=>?_) (fun p=>?_)
  ·have aC:=p
   have aD:(m.cells.any fun x=>!dOk x)=true:=X5f A p
   refine Zs f fun _ aP=>?_;refine Za rfl<|Zt aP fun a f=>?_;refine Q6<|X00<|X8<|X8 ?_;refine X00<|X8<|X4 f (Xp f rfl rfl) ?_;exact ⟨by rw [mOk,aG,aD];rfl,n⟩
  have aC:=p
  have aX:dOk i=true:=by revert p;cases dOk i<;>simp
  refine Q7<|Xk<|aL _ _<|Zr f ?_;refine Ze (X02 rfl rfl (by omega) (by omega))<|Zm rfl ?_;refine Zn fun a f=>?_;refine Xn ?_;exact ⟨k+1,⟨f.sb,(by omega),(X3p D A aX),n⟩,(by omega)⟩
 have a9:=o;have o:=Q1 o;refine Q9<|Xm<|Xm<|X06 ?_;refine aH _ _<|Zs f fun _ aQ=>?_;refine Za rfl<|Zt aQ fun a f=>?_
 refine Q6 (X4 f (Xp f rfl rfl) ?_)
 have aD:(m.cells.any fun x=>!dOk x)=false:=X4c (by simpa using X3e D (by omega))
 exact ⟨by rw [mOk,aG,aD];rfl,n⟩
end Go.Proofs.YtnmabjfoiakapaaGreatDoor
namespace Go.Proofs.YtnmabjfoiakapaaGreatDoor
open Go.RowKit Go.ChangeShapes Go.WideShapes Go.Deep Go.Joins
section
variable {H : Type} {enc : TypeId × Value → H} {w : World} {base fuel : Nat} {spare : Nat → Bool} {held : Bool}
end
end Go.Proofs.YtnmabjfoiakapaaGreatDoor
namespace Go.Proofs.YtnmabjfoiakapaaGreatDoor
open Go.RowKit
theorem Xkx(w0:World)(x:Cx)(Ax:Option Addr)(cx:Nat)(aA:Rd w0 w0.heap.size 90 encG Ax x.gs)(hx:cOk x=true)(M9:Mx)(aB:opI x=some M9) : Ret Tryz.prog 67 [.agg #[vi x.n,.slice Ax x.gs.length cx]] w0 (fun v w=>∃ A c1,v=mV A c1 ((opI x).getD mZ)∧Rd w w.heap.size 86 encD A ((opI x).getD mZ).cells∧Below w0.heap.size w0 w):=by
 obtain ⟨hn,aK,aM⟩:=X1z hx;have t:=Xl8 hx aB
 obtain ⟨d,hd⟩ : ∃ d:Nat,d=2^x.n.toNat:=⟨_,rfl⟩
 rw [← hd] at t
 refine enter Tryz.func67 rfl 14 rfl rfl ?_;intro a hf
 have e:=bz w0
 refine Zs hf fun _ aE=>?_;refine Zf (X0b (zs:=[vi x.n,.slice Ax x.gs.length cx]) rfl rfl) ?_;rintro _ w1 ⟨b3,rfl,aF,c,f⟩;have aL:=Q0 e.size aF;have e:=btr e c;refine Zf (X3 (zs:=[vi 0,vi 0,.slice none 0 0]) X0n rfl) ?_;rintro _ w2 ⟨b5,rfl,aG,c,b⟩;have aC:=Q0 e.size aG;have f:=f.below c;have e:=btr e c;refine Zx aE fun a hf _ aH=>?_;refine Ze (Xf (ps:=[]) (cs:=[.bool false]) rfl (fun _=>by first|rfl|kernel_rfl))<|Zf (X0b (zs:=[.bool false]) rfl rfl) ?_;rintro _ w3 ⟨b7,rfl,aI,c,g⟩;have aD:=Q0 e.size aI;have f:=f.below c;have b:=b.below c;have e:=btr e c;refine Za rfl<|ZX aH fun a hf _ aJ=>?_;refine Xy (some b7) (fun j=>[8].contains j) mixed ?_;intro w4 c;have f:=f.below c;have b:=b.below c;have g:=g.below c;have e:=btr e c;refine Yb hf<|Yo 0 rfl (fun _=>Xa rfl) ?_;refine Yw 1 rfl trivial (fun w1 h1=>Xz (l:=[vi x.n,.slice Ax x.gs.length cx]) rfl X1i ((f.only h1 (Blk.ne f g rfl)).at 0) rfl) ?_;refine Yo 2 rfl (fun _=>Vd rfl X2x 0) ?_;refine Yw 3 rfl trivial (fun w1 h1=>X0 rfl X9 ((f.only h1 (Blk.ne f g rfl)).at 0)) ?_;refine Yo 4 rfl (fun _=>Xdy (m:=x.n.toNat) Tryz.underlying3 Tryz.underlying99 rfl (by omega) (by omega))<|Yo 5 rfl (fun _=>Xa7 (m:=x.n.toNat) (D:=d) rfl rfl rfl ⟨hd,by omega⟩)<|Y1 6 ?_;refine Yf rfl trivial (EfW.mono (Vc (Xk5 _ d (by rw [hd];exact X4f hn.2)) Xaz) (fun _ _ h=>⟨fun _=>by obtain ⟨A9,c9,rfl,o,c⟩:=h;exact Keep.of_below c,h⟩)) ?_;rintro _ w5 ⟨A9,c9,rfl,o,c⟩;have o:=o.lower e.size;have b:=b.below c;have g:=g.below c;have e:=btr e c;refine Y1 7<|Yf rfl trivial (EfW.mono (X0x (vs:=[.pointer (some ⟨b7,0,none⟩),.agg #[vi x.n,.slice Ax x.gs.length cx],.agg #[vi ((unitS d).rows),vi ((unitS d).cols),.slice A9 ((unitS d).cells).length c9]]) rfl Xg5 (by have hq:=Xzo w5 b7 false g x Ax cx (aA.below' e).top (unitS d) A9 c9 o.rd.top hx (X2m (by rw [hd];exact X26 hn)).2 (by rw [← hd];rfl);rw [t] at hq;dsimp only at hq;exact hq)) (fun _ _ h=>⟨fun _=>by obtain ⟨p,q,rfl,i,hK,a9⟩:=h;exact hK.keep,h⟩)) ?_;rintro _ w6 ⟨p,q,rfl,i,hK,a9⟩
 obtain ⟨wm,hO,hm,c⟩:=hK.mid;clear hm;have k:=g;have b:=b.only hO (Blk.ne b k rfl);have e:=Below.only e hO aD;have b:=b.below c;have e:=btr e c
 clear k c hO hK;have g:=a9;clear a9;refine Y1 8<|Yh rfl trivial rfl (Vw [vi M9.rows,vi M9.cols,.slice p M9.cells.length q] Xt b) ?_;rintro _ w7 ⟨ho,hb⟩;have k:=b;have i:=i.onlyT ho k rfl;have e:=Below.only e ho aC;have b:=hb;refine Yd fun a hf=>?_;refine aJ _ _ ?_
 refine Q6 (X4 hf (Xp hf rfl (ResV.cellN (l:=[vi M9.rows,vi M9.cols,.slice p M9.cells.length q]) rfl Xg (b.at 0) rfl)) ?_)
 rw [aB]
 exact ⟨p,q,rfl,i.top,e⟩
def HalfT(w:World) : Prop:=∃ T F,w.heap[0]? = some (.cells (encD dHf).toArray T F)
theorem HalfT.of{w0 w:World}(h:HalfT w0)(hW:Below w0.heap.size w0 w) : HalfT w:=by
 obtain ⟨T,F,h⟩:=h;exact ⟨T,F,(hW.block 0 (Qp.1 h).1).trans h⟩
theorem HalfT.at{w:World}(h:HalfT w)(k:Nat) : At w ⟨0,k,none⟩ ((encD dHf).drop k):=by
 obtain ⟨T,F,h⟩:=h;intro j v hj
 have e:w.cell? ⟨0,k+j,none⟩=(encD dHf)[k+j]?:=by simp [World.cell?,h]
 rw [X1y,e,← hj,List.getElem?_drop]
def dCjI(x:Dy) : Option Dy:=if dOk x=true then some (dCj x) else none
theorem Xut{x:Dy}(h:dOk x=false) : dCjI x=none:=by rw [dCjI,Q3 (by rw [h];decide)]
theorem Xi8{x:Dy}(h:dOk x=true) : dCjI x=some (dCj x):=by rw [dCjI,Q4 h]
theorem Xyt{x:Dy}(h:dOk x=true) : rIf1 (rCj x.num) [x.num]=rCj x.num:=by
 have h1:=(X25 h).1
 have:rIf2 (rCj x.num) [x.num]=true:=by simp [rIf2,h1,Xgg h1]
 rw [rIf1,Q4 this]
def adjI(m:Mx) : Option Mx:=if mOk m=true then matOf m.cols m.rows fun i j=>dCjI (m.at j i) else none
theorem Xc7{m:Mx}(h:mOk m=true) : adjI m=some (adjS m):=by
 have hd:=X1n h
 have e:(fun i j=>dCjI (m.at j i))=fun i j=>some (dCj (m.at j i)):=by
  funext i j;exact Xi8 (Mx.at_ok (X0z h) j i)
 rw [adjI,Q4 h,e,X5s hd.2 hd.1];rfl
theorem X9q{m:Mx}(h:mOk m=true) : m.cells.length≤2305843009213693951:=by
 have h1:=X2d h
 rw [h1.2.2]
 exact Q0 (Nat.mul_le_mul (show m.rows.toNat≤32 by omega) (show m.cols.toNat≤32 by omega)) (by decide)
theorem Xjx{m:Mx}(h:mOk m=true) : (adjS m).cells.length≤2305843009213693951:=X9q (X2t h)
theorem Xmy{m:Mx}(h:mOk m=true)(hrc:m.rows=m.cols) : idI m.rows=some (unitS m.rows.toNat)∧mOk (unitS m.rows.toNat)=true:=by
 have hd:=(X1n h).1;have h1:=X2a hd
 have e:m.rows=((m.rows.toNat:Nat) : Int):=by omega
 have:=X2m (d:=m.rows.toNat) (by rw [← e];exact hd)
 rw [← e] at this
 exact this
theorem Xih{a b c:Mx}(h:mulI a b=some c) : mOk c=true:=by
 have hc:(mOk a&&mOk b&&a.cols==b.rows)=true:=by unfold mulI at h;split at h;assumption;cases h
 simp only [Qd,beq_iff_eq] at hc
 exact ((X24 hc.1.1 hc.1.2 hc.2).1 c h).2.1
theorem Xq1{o:Option Mx}(h:∀ c,o=some c→mOk c=true) : (o.getD mZ).cells.length≤2305843009213693951:=by
 cases o with
 | none=>exact Qf _
 | some c=>exact X9q (h c rfl)
theorem X7z(a b:Mx) : ((mulI a b).getD mZ).cells.length≤2305843009213693951:=Xq1 fun _ h=>Xih h
theorem Xi1{m:Mx}(h:mOk m=false∨m.rows≠m.cols) : uniI m=(false,false):=by
 unfold uniI
 rw [Q3]
 simp only [Qd,beq_iff_eq]
 rintro ⟨h1,h2⟩
 rcases h with h|h
 ·rw [h1] at h;cases h
 ·exact h h2
theorem Xaj{m:Mx}(h:mOk m=true)(hrc:m.rows=m.cols) : uniI m=((mulI m (adjS m)).isSome&&eqM ((mulI m (adjS m)).getD mZ) (unitS m.rows.toNat),(mulI m (adjS m)).isSome):=by
 unfold uniI
 rw [Q4 (by rw [h,hrc];simp)]
 cases mulI m (adjS m)<;>rfl
theorem Xq6{m:Mx}(h:(mOk m=false∨m.rows≠2)∨m.cols≠2) : oneQ m=false:=by
 cases e:oneQ m with
 | false=>rfl
 | true=>
  obtain ⟨_,h1,h2,h3⟩:=X4a e
  rcases h with (h|h)|h
  ·rw [h1] at h;cases h
  ·exact absurd h2 h
  ·exact absurd h3 h
theorem Xln{m:Mx}(h:m.rows=2) : oneQ m=((uniI m).2&&(uniI m).1):=by
 unfold oneQ;rw [h];simp
theorem Xze(w0:World)(x:Rg) : Ret Tryz.prog 160 [.agg #[vi x.a,vi x.b,vi x.c,vi x.d]] w0 (fun v w=>v=.tuple #[rV (rIf1 (rCj x) [x]),.bool (rIf2 (rCj x) [x])]∧Below w0.heap.size w0 w):=by
 refine enter Tryz.func160 rfl 21 rfl rfl ?_;intro a hf
 have g:=bz w0
 refine Zs hf fun _ aE=>?_;refine Zf (X0b (zs:=[vi x.a,vi x.b,vi x.c,vi x.d]) rfl rfl) ?_;rintro _ w1 ⟨b2,rfl,aF,i,e⟩;have aJ:=Q0 g.size aF;have g:=btr g i;refine Zf (X3 (zs:=[vi 0,vi 0,vi 0,vi 0]) X1w rfl) ?_;rintro _ w2 ⟨b3,rfl,aG,i,f⟩
 have aB:b2≠b3:=by have:=e.lt;omega
 have a9:=Q0 g.size aG;have e:=e.below i;have g:=btr g i;refine Za rfl<|Zx aE fun a hf _ aH=>?_;refine Ze (Vd rfl X0h 0)<|Ze (X0 rfl X9 (e.at 0))<|Ze (Vd rfl X0e 3)<|Ze (X0 rfl X9 (e.at 3))<|Ze (X8k rfl)<|Ze (Vd rfl X0g 2)<|Ze (X0 rfl X9 (e.at 2))<|Ze (X8k rfl)<|Ze (Vd rfl X0d 1)<|Ze (X0 rfl X9 (e.at 1)) ?_;refine Ze (X8k rfl)<|Ze (Xf (ps:=[(0,vi x.a),(1,vi (wr (-x.d))),(2,vi (wr (-x.c))),(3,vi (wr (-x.b)))]) (cs:=[vi x.a,vi (wr (-x.d)),vi (wr (-x.c)),vi (wr (-x.b))]) rfl (fun _=>by first|rfl|kernel_rfl))<|Ze (Vn Xx e)<|Zf (X7 (k:=1) (vs:=[.agg #[vi x.a,vi x.b,vi x.c,vi x.d]]) (zs:=[vi x.a,vi x.b,vi x.c,vi x.d]) rfl X4v X4t rfl rfl) ?_;rintro _ w3 ⟨b5,rfl,aI,i,aA⟩
 have aC:b2≠b5:=by have:=e.lt;omega
 have aD:b3≠b5:=by have:=f.lt;omega
 have aK:=Q0 g.size aI;have f:=f.below i;have g:=btr g i;refine Zf (Vc (Xj2 _ (⟨x.a,wr (-x.d),wr (-x.c),wr (-x.b)⟩ : Rg) (some ⟨b5,0,none⟩) 1 ([x]) (Rd.of_blk aA rfl _ aA.lt) rfl (by simp) (by simp)) X8x) ?_;rintro _ w4 ⟨rfl,i⟩;have f:=f.below i;have g:=btr g i;refine Ze (X1 (vs:=[.agg #[vi ((rIf1 (⟨x.a,wr (-x.d),wr (-x.c),wr (-x.b)⟩ : Rg) ([x])).a),vi ((rIf1 (⟨x.a,wr (-x.d),wr (-x.c),wr (-x.b)⟩ : Rg) ([x])).b),vi ((rIf1 (⟨x.a,wr (-x.d),wr (-x.c),wr (-x.b)⟩ : Rg) ([x])).c),vi ((rIf1 (⟨x.a,wr (-x.d),wr (-x.c),wr (-x.b)⟩ : Rg) ([x])).d)],.bool (rIf2 (⟨x.a,wr (-x.d),wr (-x.c),wr (-x.b)⟩ : Rg) ([x]))]) rfl rfl)<|Ze (X1 (vs:=[.agg #[vi ((rIf1 (⟨x.a,wr (-x.d),wr (-x.c),wr (-x.b)⟩ : Rg) ([x])).a),vi ((rIf1 (⟨x.a,wr (-x.d),wr (-x.c),wr (-x.b)⟩ : Rg) ([x])).b),vi ((rIf1 (⟨x.a,wr (-x.d),wr (-x.c),wr (-x.b)⟩ : Rg) ([x])).c),vi ((rIf1 (⟨x.a,wr (-x.d),wr (-x.c),wr (-x.b)⟩ : Rg) ([x])).d)],.bool (rIf2 (⟨x.a,wr (-x.d),wr (-x.c),wr (-x.b)⟩ : Rg) ([x]))]) rfl rfl)<|Zo (Vw [vi ((rIf1 (⟨x.a,wr (-x.d),wr (-x.c),wr (-x.b)⟩ : Rg) ([x])).a),vi ((rIf1 (⟨x.a,wr (-x.d),wr (-x.c),wr (-x.b)⟩ : Rg) ([x])).b),vi ((rIf1 (⟨x.a,wr (-x.d),wr (-x.c),wr (-x.b)⟩ : Rg) ([x])).c),vi ((rIf1 (⟨x.a,wr (-x.d),wr (-x.c),wr (-x.b)⟩ : Rg) ([x])).d)] X0t f) ?_;rintro _ w5 ⟨ho,hb⟩;have aL:=f;have g:=Below.only g ho a9;have f:=hb;refine Za rfl<|Zt aH fun a hf=>?_
 refine Q6 (X4 hf (X0s hf rfl (ResV.cellN (l:=[vi ((rIf1 (⟨x.a,wr (-x.d),wr (-x.c),wr (-x.b)⟩ : Rg) ([x])).a),vi ((rIf1 (⟨x.a,wr (-x.d),wr (-x.c),wr (-x.b)⟩ : Rg) ([x])).b),vi ((rIf1 (⟨x.a,wr (-x.d),wr (-x.c),wr (-x.b)⟩ : Rg) ([x])).c),vi ((rIf1 (⟨x.a,wr (-x.d),wr (-x.c),wr (-x.b)⟩ : Rg) ([x])).d)]) rfl Xx (f.at 0) rfl) rfl) ?_)
 exact ⟨rfl,g⟩
theorem Xww(w0:World)(x:Dy) : Ret Tryz.prog 119 [.agg #[vi x.num.a,vi x.num.b,vi x.num.c,vi x.num.d,vi x.exp]] w0 (fun v w=>v=.tuple #[dV ((dCjI x).getD dZ),.bool ((dCjI x).isSome)]∧Below w0.heap.size w0 w):=by
 refine enter Tryz.func119 rfl 20 rfl rfl ?_;intro a j
 have g:=bz w0
 refine Zs j fun _ aE=>?_;refine Zf (X0b (zs:=[vi x.num.a,vi x.num.b,vi x.num.c,vi x.num.d,vi x.exp]) rfl rfl) ?_;rintro _ w1 ⟨b2,rfl,aF,i,f⟩;have aN:=Q0 g.size aF;have g:=btr g i;refine Zf (X3 (zs:=[vi 0,vi 0,vi 0,vi 0,vi 0]) X0l rfl) ?_;rintro _ w2 ⟨b3,rfl,aG,i,e⟩
 have aD:b2≠b3:=by have:=f.lt;omega
 have o:=Q0 g.size aG;have f:=f.below i;have g:=btr g i;refine Za rfl<|ZX aE fun a j _ aH=>?_;refine Zs j fun _ aI=>?_;refine Ze (Vn X6 f)<|Zf (Vc (Xbi _ x) X4z) ?_;rintro _ w3 ⟨rfl,i⟩;have f:=f.below i;have e:=e.below i;have g:=btr g i;refine Ze (X0p rfl)<|Zt aI fun a j=>?_
 refine Xi j rfl (fun m=>?_) (fun m=>?_)
 ·have a9:=m
  have aJ:dOk x=false:=by simpa using m
  refine Zs j fun _ aK=>?_;refine Ze (Xf (ps:=[]) (cs:=[vi 0,vi 0,vi 0,vi 0,vi 0]) rfl (fun _=>by first|rfl|kernel_rfl))<|Zo (Vw [vi 0,vi 0,vi 0,vi 0,vi 0] Xb e) ?_;rintro _ w4 ⟨ho,hb⟩;have k:=e;have g:=Below.only g ho o;have e:=hb;refine Za rfl<|Zt aK fun a j=>?_;refine Q6<|X8<|X4 j (X0s j rfl (ResV.cellN (l:=[vi 0,vi 0,vi 0,vi 0,vi 0]) rfl X6 (e.at 0) rfl) rfl) ?_;exact ⟨by rw [Xut aJ];rfl,g⟩
 have a9:=m
 have aA:dOk x=true:=by simpa using m
 refine Q7<|aH _ _<|Zs j fun _ aL=>?_;refine Ze (Vd rfl X1b 0)<|Ze (Xz (l:=[vi x.num.a,vi x.num.b,vi x.num.c,vi x.num.d]) rfl Xx ((f.at 0).take 4) rfl)<|Zf (Vc (Xze _ x.num) Xo4) ?_;rintro _ w5 ⟨rfl,i⟩;have f:=f.below i;have e:=e.below i;have g:=btr g i;refine Zm rfl<|Ze (X1 (vs:=[.agg #[vi ((rIf1 (rCj x.num) [x.num]).a),vi ((rIf1 (rCj x.num) [x.num]).b),vi ((rIf1 (rCj x.num) [x.num]).c),vi ((rIf1 (rCj x.num) [x.num]).d)],.bool (rIf2 (rCj x.num) [x.num])]) rfl rfl)<|Ze (X1 (vs:=[.agg #[vi ((rIf1 (rCj x.num) [x.num]).a),vi ((rIf1 (rCj x.num) [x.num]).b),vi ((rIf1 (rCj x.num) [x.num]).c),vi ((rIf1 (rCj x.num) [x.num]).d)],.bool (rIf2 (rCj x.num) [x.num])]) rfl rfl)<|Zf (X3 (zs:=[vi 0,vi 0,vi 0,vi 0]) X1w rfl) ?_;rintro _ w6 ⟨b9,rfl,aM,i,n⟩;have aB:=Q0 g.size aM;have f:=f.below i;have e:=e.below i;have g:=btr g i;refine Zo (Vw [vi ((rIf1 (rCj x.num) [x.num]).a),vi ((rIf1 (rCj x.num) [x.num]).b),vi ((rIf1 (rCj x.num) [x.num]).c),vi ((rIf1 (rCj x.num) [x.num]).d)] X0t n) ?_;rintro _ w7 ⟨ho,hb⟩;have k:=n;have f:=f.only ho (Blk.ne f k rfl);have e:=e.only ho (Blk.ne e k rfl);have g:=Below.only g ho aB;have n:=hb;refine Za rfl<|Zx aL fun a j _ aC=>?_;refine Ze (Vn Xx n)<|Ze (Vd rfl X11 4)<|Ze (X0 rfl X9 (f.at 4))<|Ze (Xf (ps:=[(0,.agg #[vi ((rIf1 (rCj x.num) [x.num]).a),vi ((rIf1 (rCj x.num) [x.num]).b),vi ((rIf1 (rCj x.num) [x.num]).c),vi ((rIf1 (rCj x.num) [x.num]).d)]),(1,vi x.exp)]) (cs:=[vi ((rIf1 (rCj x.num) [x.num]).a),vi ((rIf1 (rCj x.num) [x.num]).b),vi ((rIf1 (rCj x.num) [x.num]).c),vi ((rIf1 (rCj x.num) [x.num]).d),vi x.exp]) rfl (fun _=>by first|rfl|kernel_rfl))<|Zo (Vw [vi ((rIf1 (rCj x.num) [x.num]).a),vi ((rIf1 (rCj x.num) [x.num]).b),vi ((rIf1 (rCj x.num) [x.num]).c),vi ((rIf1 (rCj x.num) [x.num]).d),vi x.exp] Xb e) ?_;rintro _ w8 ⟨ho,hb⟩
 have k:=e;have g:=Below.only g ho o;have e:=hb;refine Za rfl<|Zt aC fun a j=>?_
 refine Q6 (X4 j (X0s j rfl (ResV.cellN (l:=[vi ((rIf1 (rCj x.num) [x.num]).a),vi ((rIf1 (rCj x.num) [x.num]).b),vi ((rIf1 (rCj x.num) [x.num]).c),vi ((rIf1 (rCj x.num) [x.num]).d),vi x.exp]) rfl X6 (e.at 0) rfl) rfl) ?_)
 exact ⟨by rw [Xi8 aA,Xyt aA];rfl,g⟩
theorem Xyy(w0:World)(p:Mx)(Aa:Option Addr)(ca:Nat)(ba:Nat)(a9:Rd w0 w0.heap.size 86 encD Aa p.cells)(g:Blk w0 ba 32 [vi p.rows,vi p.cols,.slice Aa p.cells.length ca])(aD:mOk p=true)(i j:Nat)(hi:(i:Int)<p.cols)(hj:(j:Int)<p.rows) : Ret Tryz.prog 118 [vi (i:Int),vi (j:Int),.pointer (some ⟨ba,0,none⟩)] w0 (fun v w=>v=.tuple #[dV ((dCjI (p.at j i)).getD dZ),.bool (dCjI (p.at j i)).isSome]∧Below w0.heap.size w0 w):=by
 have aE:=g.lt;refine enter Tryz.func118 rfl 14 rfl rfl ?_;intro a hf
 have f:=bz w0
 refine Zs hf fun _ aF=>?_;refine Zf (X3 (zs:=[vi 0,vi 0,vi 0,vi 0,vi 0]) X0l rfl) ?_;rintro _ w1 ⟨b3,rfl,aA,k,e⟩;have aB:=Q0 f.size aA;have aC:=(a9.below' f).away aA;have g:=g.below k;have f:=btr f k;refine Za rfl<|Zx aF fun a hf _ aG=>?_;refine Ze (Xz (l:=[vi p.rows,vi p.cols,.slice Aa p.cells.length ca]) rfl Xg (g.at 0) rfl)<|Zm rfl<|Zm rfl<|Zf (Vc (Xfw _ p Aa ca (a9.below' f).top j i aD hj hi) X79) ?_;rintro _ w2 ⟨rfl,k⟩;have e:=e.below k;have f:=btr f k;refine Zf (Vc (Xww _ (p.at j i)) Xra) ?_;rintro _ w3 ⟨rfl,k⟩;have e:=e.below k;have f:=btr f k;refine Ze (X1 (vs:=[.agg #[vi (((dCjI (p.at j i)).getD dZ).num.a),vi (((dCjI (p.at j i)).getD dZ).num.b),vi (((dCjI (p.at j i)).getD dZ).num.c),vi (((dCjI (p.at j i)).getD dZ).num.d),vi (((dCjI (p.at j i)).getD dZ).exp)],.bool ((dCjI (p.at j i)).isSome)]) rfl rfl)<|Ze (X1 (vs:=[.agg #[vi (((dCjI (p.at j i)).getD dZ).num.a),vi (((dCjI (p.at j i)).getD dZ).num.b),vi (((dCjI (p.at j i)).getD dZ).num.c),vi (((dCjI (p.at j i)).getD dZ).num.d),vi (((dCjI (p.at j i)).getD dZ).exp)],.bool ((dCjI (p.at j i)).isSome)]) rfl rfl)<|Zo (Vw [vi (((dCjI (p.at j i)).getD dZ).num.a),vi (((dCjI (p.at j i)).getD dZ).num.b),vi (((dCjI (p.at j i)).getD dZ).num.c),vi (((dCjI (p.at j i)).getD dZ).num.d),vi (((dCjI (p.at j i)).getD dZ).exp)] Xb e) ?_;rintro _ w4 ⟨ho,hb⟩;have aH:=e;have f:=Below.only f ho aB;have e:=hb;refine Za rfl<|Zt aG fun a hf=>?_
 refine Q6 (X4 hf (X0s hf rfl (ResV.cellN (l:=[vi (((dCjI (p.at j i)).getD dZ).num.a),vi (((dCjI (p.at j i)).getD dZ).num.b),vi (((dCjI (p.at j i)).getD dZ).num.c),vi (((dCjI (p.at j i)).getD dZ).num.d),vi (((dCjI (p.at j i)).getD dZ).exp)]) rfl X6 (e.at 0) rfl) rfl) ?_)
 exact ⟨rfl,f⟩
theorem Xsf(w0:World)(p:Mx)(Ap:Option Addr)(cp:Nat)(q:Rd w0 w0.heap.size 86 encD Ap p.cells)(aC:p.cells.length≤2305843009213693951) : Ret Tryz.prog 70 [.agg #[vi p.rows,vi p.cols,.slice Ap p.cells.length cp]] w0 (fun v w=>∃ A c,v=.tuple #[mV A c ((adjI p).getD mZ),.bool (adjI p).isSome]∧Own w w0.heap.size 86 5 encD A c ((adjI p).getD mZ).cells∧Below w0.heap.size w0 w):=by
 refine enter Tryz.func70 rfl 16 rfl rfl ?_;intro a g
 have d:=bz w0
 refine Zs g fun _ aD=>?_;refine Zf (X0b (zs:=[vi p.rows,vi p.cols,.slice Ap p.cells.length cp]) rfl rfl) ?_;rintro _ w1 ⟨b3,rfl,aE,k,e⟩;have aJ:=Q0 d.size aE;have d:=btr d k;refine Zf (X3 (zs:=[vi 0,vi 0,.slice none 0 0]) X0n rfl) ?_;rintro _ w2 ⟨b5,rfl,aF,k,b⟩
 have aB:b3≠b5:=by have:=e.lt;omega
 have t:=Q0 d.size aF;have e:=e.below k;have d:=btr d k;refine Za rfl<|ZX aD fun a g _ aG=>?_;refine Zs g fun _ aH=>?_;refine Ze (Vn Xg e)<|Zf (Vc (Xcz _ p Ap cp (q.below' d).top aC) X5i) ?_;rintro _ w3 ⟨rfl,k⟩;have e:=e.below k;have b:=b.below k;have d:=btr d k;refine Ze (X0p rfl)<|Zt aH fun a g=>?_
 refine Xi g rfl (fun m=>?_) (fun m=>?_)
 ·have a9:=m
  have hn:mOk p=false:=by simpa using m
  refine Zs g fun _ aI=>?_;refine Ze (Xf (ps:=[]) (cs:=[vi 0,vi 0,.slice none 0 0]) rfl (fun _=>by first|rfl|kernel_rfl))<|Zo (Vw [vi 0,vi 0,.slice none 0 0] Xt b) ?_;rintro _ w4 ⟨ho,hb⟩;have u:=b;have d:=Below.only d ho t;have b:=hb;refine Za rfl<|Zt aI fun a g=>?_;refine Q6<|X8<|X4 g (X0s g rfl (ResV.cellN (l:=[vi 0,vi 0,.slice none 0 0]) rfl Xg (b.at 0) rfl) rfl) ?_;exact ⟨none,0,by rw [adjI,hn];rfl,by rw [adjI,hn];exact (Own.nil _ _ _ _ _),d⟩
 have a9:=m
 have hy:mOk p=true:=by simpa using m
 refine Q7<|aG _ _<|Zs g fun _ aA=>?_;refine Ze (Vd rfl X0w 1)<|Ze (X0 rfl X9 (e.at 1))<|Ze (Vd rfl X13 0)<|Ze (X0 rfl X9 (e.at 0))<|Ze (X4b (vs:=[.pointer (some ⟨b3,0,none⟩)]) rfl)<|Zf (Vc (Xkk _ p.cols p.rows 118 [.pointer (some ⟨b3,0,none⟩)] Xq0 (fun i j=>dCjI (p.at j i)) (fun i j w' hi hj hE'=>Xyy w' p _ _ _ ((q.below' d).below hE').top (e.below hE') hy i j hi hj)) Xau) ?_;rintro _ w5 ⟨n,o,rfl,f,k⟩;have f:=f.lower d.size;have b:=b.below k;have d:=btr d k;refine Ze (X1 (vs:=[.agg #[vi (((matOf p.cols p.rows (fun i j=>dCjI (p.at j i))).getD mZ).rows),vi (((matOf p.cols p.rows (fun i j=>dCjI (p.at j i))).getD mZ).cols),.slice n (((matOf p.cols p.rows (fun i j=>dCjI (p.at j i))).getD mZ).cells).length o],.bool ((matOf p.cols p.rows (fun i j=>dCjI (p.at j i))).isSome)]) rfl rfl)<|Ze (X1 (vs:=[.agg #[vi (((matOf p.cols p.rows (fun i j=>dCjI (p.at j i))).getD mZ).rows),vi (((matOf p.cols p.rows (fun i j=>dCjI (p.at j i))).getD mZ).cols),.slice n (((matOf p.cols p.rows (fun i j=>dCjI (p.at j i))).getD mZ).cells).length o],.bool ((matOf p.cols p.rows (fun i j=>dCjI (p.at j i))).isSome)]) rfl rfl)<|Zo (Vw [vi (((matOf p.cols p.rows (fun i j=>dCjI (p.at j i))).getD mZ).rows),vi (((matOf p.cols p.rows (fun i j=>dCjI (p.at j i))).getD mZ).cols),.slice n (((matOf p.cols p.rows (fun i j=>dCjI (p.at j i))).getD mZ).cells).length o] Xt b) ?_;rintro _ w6 ⟨ho,hb⟩;have u:=b;have f:=f.onlyT ho u rfl;have d:=Below.only d ho t;have b:=hb;refine Za rfl<|Zt aA fun a g=>?_
 refine Q6 (X4 g (X0s g rfl (ResV.cellN (l:=[vi (((matOf p.cols p.rows (fun i j=>dCjI (p.at j i))).getD mZ).rows),vi (((matOf p.cols p.rows (fun i j=>dCjI (p.at j i))).getD mZ).cols),.slice n (((matOf p.cols p.rows (fun i j=>dCjI (p.at j i))).getD mZ).cells).length o]) rfl Xg (b.at 0) rfl) rfl) ?_)
 exact ⟨n,o,by rw [adjI,Q4 hy],by rw [adjI,Q4 hy];exact f,d⟩
theorem Xzi(w0:World)(m:Mx)(Am:Option Addr)(cm:Nat)(y:Rd w0 w0.heap.size 86 encD Am m.cells)(a9:m.cells.length≤2305843009213693951) : Ret Tryz.prog 117 [.agg #[vi m.rows,vi m.cols,.slice Am m.cells.length cm]] w0 (fun v w=>v=.tuple #[.bool ((uniI m).1),.bool ((uniI m).2)]∧Below w0.heap.size w0 w):=by
 refine enter Tryz.func117 rfl 44 rfl rfl ?_;intro a j
 have e:=bz w0
 refine Zs j fun _ aQ=>?_;refine Zf (X0b (zs:=[vi m.rows,vi m.cols,.slice Am m.cells.length cm]) rfl rfl) ?_;rintro _ w1 ⟨b3,rfl,aR,f,b⟩;have aY:=Q0 e.size aR;have e:=btr e f;refine Za rfl<|Za rfl<|ZX aQ fun a j _ aS=>?_;refine Q5 fun _ aT=>?_;refine X09 (fun a w=>Fr a 44 [(1,.pointer (some ⟨b3,0,none⟩)),(19,.bool ((!(mOk m))||(m.rows != m.cols)))]∧Below w1.heap.size w1 w) ?_ ?_
 ·have p:Below w1.heap.size w1 w1:=Below.refl _ _
  refine Zr j<|Ze (Vn Xg b)<|Zf (Vc (Xcz _ m Am cm (y.below' e).top a9) X5i) ?_;rintro _ w2 ⟨rfl,f⟩;have b:=b.below f;have e:=btr e f;have p:=btr p f;refine Ze (X0p rfl)<|Zm rfl ?_
  refine Zg 13 rfl (fun g=>?_) (fun g=>?_)
  ·refine Zp (gP g) ?_;refine Zp (gP g) ?_;refine Zp (gP g) ?_;refine Zp (gP g) ?_;refine Zp (gP g) ?_;refine Ze (Xh rfl g rfl) ?_;refine Zn fun a j=>?_
   have t:Below w1.heap.size w1 w2:=p
   exact ⟨j.sub ⟨rfl,X2 rfl (by first|rfl|(simp only [g,bs];done)|simp [g]),trivial⟩,t⟩
  refine Zv (gW g) (Vd rfl X13 0) ?_;refine Zv (gW g) (X0 rfl X9 (b.at 0)) ?_;refine Zv (gW g) (Vd rfl X0w 1) ?_;refine Zv (gW g) (X0 rfl X9 (b.at 1)) ?_;refine Zv (gW g) (X3w rfl rfl) ?_;refine Ze (Xd rfl g rfl) ?_;refine Zn fun a j=>?_
  have t:Below w1.heap.size w1 w2:=p
  exact ⟨j.sub ⟨rfl,X2 rfl (by first|rfl|(simp only [g,bs];done)|simp [g]),trivial⟩,t⟩
 rintro a w3 ⟨j,f⟩;have b:=b.below f;have e:=btr e f;refine aT _ _ ?_
 refine Xi j rfl (fun z=>?_) (fun z=>?_)
 ·have q:=z
  have aF:=Xi1 (by simpa using z:mOk m=false∨m.rows≠m.cols)
  refine Zs j fun _ aU=>?_;refine Za rfl<|Za rfl<|Zt aU fun a j=>?_;refine Q6<|X8<|X4 j (X0s j rfl rfl rfl) ?_;exact ⟨by rw [aF],e⟩
 have q:=z
 have aW:mOk m=true∧m.rows=m.cols:=by have h9:=z;revert h9;cases mOk m<;>simp
 obtain ⟨h,aG⟩:=aW;refine Q7<|aS _ _<|Zs j fun _ aX=>?_;refine Ze (Vn Xg b)<|Zf (X0x (vs:=[.agg #[vi m.rows,vi m.cols,.slice Am m.cells.length cm]]) rfl Xim (by have hq:=Xsf w3 m Am cm (y.below' e).top a9;rw [Xc7 h,Qq,Option.isSome_some] at hq;exact hq)) ?_;rintro _ w4 ⟨A,B,rfl,k,f⟩;have k:=k.lower e.size;have b:=b.below f;have e:=btr e f;refine Zm rfl<|Ze (X1 (vs:=[.agg #[vi ((adjS m).rows),vi ((adjS m).cols),.slice A ((adjS m).cells).length B],.bool true]) rfl rfl)<|Ze (X1 (vs:=[.agg #[vi ((adjS m).rows),vi ((adjS m).cols),.slice A ((adjS m).cells).length B],.bool true]) rfl rfl)<|Zf (X3 (zs:=[vi 0,vi 0,.slice none 0 0]) X0n rfl) ?_;rintro _ w5 ⟨b12,rfl,aH,f,l⟩
 have aI:b3≠b12:=by have:=b.lt;omega
 have aA:=Q0 e.size aH;have b:=b.below f;have k:=k.below f;have e:=btr e f;refine Zo (Vw [vi ((adjS m).rows),vi ((adjS m).cols),.slice A ((adjS m).cells).length B] Xt l) ?_;rintro _ w6 ⟨x,hb⟩;have o:=l;have b:=b.only x (by omega);have k:=k.onlyT x o rfl;have e:=Below.only e x aA;have l:=hb;refine Za rfl<|Zx aX fun a j _ aJ=>?_;refine Ze (Vn Xg b)<|Ze (Vn Xg l)<|Zf (Vc (Xk4 _ m Am cm (y.below' e).top (adjS m) A B k.rd.top a9 (Xjx h)) Xb9) ?_;rintro _ w7 ⟨C,D,rfl,c,f⟩;have c:=c.lower e.size;have b:=b.below f;have l:=l.below f;have e:=btr e f;refine Zm rfl<|Ze (X1 (vs:=[.agg #[vi (((mulI m (adjS m)).getD mZ).rows),vi (((mulI m (adjS m)).getD mZ).cols),.slice C (((mulI m (adjS m)).getD mZ).cells).length D],.bool ((mulI m (adjS m)).isSome)]) rfl rfl)<|Ze (X1 (vs:=[.agg #[vi (((mulI m (adjS m)).getD mZ).rows),vi (((mulI m (adjS m)).getD mZ).cols),.slice C (((mulI m (adjS m)).getD mZ).cells).length D],.bool ((mulI m (adjS m)).isSome)]) rfl rfl)<|Zf (X3 (zs:=[vi 0,vi 0,.slice none 0 0]) X0n rfl) ?_;rintro _ w8 ⟨b16,rfl,aK,f,i⟩
 have aL:b3≠b16:=by have:=b.lt;omega
 have aD:b12≠b16:=by have:=l.lt;omega
 have aB:=Q0 e.size aK;have b:=b.below f;have c:=c.below f;have e:=btr e f;refine Zo (Vw [vi (((mulI m (adjS m)).getD mZ).rows),vi (((mulI m (adjS m)).getD mZ).cols),.slice C (((mulI m (adjS m)).getD mZ).cells).length D] Xt i) ?_;rintro _ w9 ⟨x,hb⟩;have o:=i;have b:=b.only x (by omega);have c:=c.onlyT x o rfl;have e:=Below.only e x aB;have i:=hb;refine Za rfl<|Zx aJ fun a j _ aM=>?_;refine Ze (Vd rfl X13 0)<|Ze (X0 rfl X9 (b.at 0))<|Zf (X0x (vs:=[vi m.rows]) rfl Xn2 (by have hq:=Xxd w9 m.rows;rw [(Xmy h aG).1,Qq,Option.isSome_some] at hq;exact hq)) ?_;rintro _ aZ ⟨E,G,rfl,n,f⟩;have n:=n.lower e.size;have b:=b.below f;have i:=i.below f;have c:=c.below f;have e:=btr e f;refine Zm rfl<|Ze (X1 (vs:=[.agg #[vi ((unitS m.rows.toNat).rows),vi ((unitS m.rows.toNat).cols),.slice E ((unitS m.rows.toNat).cells).length G],.bool true]) rfl rfl)<|Ze (X1 (vs:=[.agg #[vi ((unitS m.rows.toNat).rows),vi ((unitS m.rows.toNat).cols),.slice E ((unitS m.rows.toNat).cells).length G],.bool true]) rfl rfl)<|Zf (X3 (zs:=[vi 0,vi 0,.slice none 0 0]) X0n rfl) ?_;rintro _ b0 ⟨b20,rfl,aN,f,u⟩
 have aO:b3≠b20:=by have:=b.lt;omega
 have aE:b16≠b20:=by have:=i.lt;omega
 have aC:=Q0 e.size aN;have i:=i.below f;have c:=c.below f;have n:=n.below f;have e:=btr e f;refine Zo (Vw [vi ((unitS m.rows.toNat).rows),vi ((unitS m.rows.toNat).cols),.slice E ((unitS m.rows.toNat).cells).length G] Xt u) ?_;rintro _ w12 ⟨x,hb⟩;have o:=u;have i:=i.only x (by omega);have c:=c.onlyT x o rfl;have n:=n.onlyT x o rfl;have e:=Below.only e x aC;have u:=hb;refine Za rfl<|ZX aM fun a j _ aP=>?_;refine X09 (fun a w=>Fr a 44 [(2,.bool (((mulI m (adjS m)).isSome)&&(decide (((mulI m (adjS m)).getD mZ).rows=(unitS m.rows.toNat).rows)&&decide (((mulI m (adjS m)).getD mZ).cols=(unitS m.rows.toNat).cols)&&decide (((mulI m (adjS m)).getD mZ).cells=(unitS m.rows.toNat).cells)))),(3,.bool ((mulI m (adjS m)).isSome))]∧Below w12.heap.size w12 w) ?_ ?_
 ·have p:Below w12.heap.size w12 w12:=Below.refl _ _
  refine Zr j<|Zm rfl<|Zm rfl ?_
  refine Zg 38 rfl (fun d=>?_) (fun d=>?_)
  ·refine Zv (gW d) (Vn Xg i) ?_;refine Zv (gW d) (Vn Xg u) ?_;refine Zk (gW d) (Vc (Xxb _ ((mulI m (adjS m)).getD mZ) C D c.rd.top (unitS m.rows.toNat) E G n.rd.top (X7z m (adjS m))) Xjq) ?_;rintro _ w13 ⟨rfl,f⟩;have e:=btr e f;have p:=btr p f;refine Ze (Xh rfl d rfl)<|Zm rfl<|Za rfl<|Za rfl ?_;refine Zn fun a j=>?_
   have t:Below w12.heap.size w12 w13:=p
   exact ⟨j.sub ⟨X2 rfl (by first|rfl|(simp only [q,d,bs];done)|simp [q,d]),rfl,trivial⟩,t⟩
  refine Zp (gP d) ?_;refine Zp (gP d) ?_;refine Zp (gP d) ?_;refine Ze (Xd rfl d rfl)<|Zm rfl<|Za rfl<|Za rfl ?_;refine Zn fun a j=>?_
  have t:Below w12.heap.size w12 w12:=p
  exact ⟨j.sub ⟨X2 rfl (by first|rfl|(simp only [q,d,bs];done)|simp [q,d]),rfl,trivial⟩,t⟩
 rintro a b1 ⟨j,f⟩;have e:=btr e f;refine aP _ _ ?_
 refine Q6 (X4 j (X0s j rfl rfl rfl) ?_)
 exact ⟨by rw [Xaj h aG];rfl,e⟩
theorem Xyf(w0:World)(m:Mx)(Am:Option Addr)(cm:Nat)(o:Rd w0 w0.heap.size 86 encD Am m.cells)(a9:m.cells.length≤2305843009213693951) : Ret Tryz.prog 69 [.agg #[vi m.rows,vi m.cols,.slice Am m.cells.length cm]] w0 (fun v w=>v=.bool (oneQ m)∧Below w0.heap.size w0 w):=by
 refine enter Tryz.func69 rfl 27 rfl rfl ?_;intro a e
 have i:=bz w0
 refine Zs e fun _ aD=>?_;refine Zf (X0b (zs:=[vi m.rows,vi m.cols,.slice Am m.cells.length cm]) rfl rfl) ?_;rintro _ w1 ⟨b3,rfl,aE,n,f⟩;have aK:=Q0 i.size aE;have i:=btr i n;refine Za rfl<|ZX aD fun a e _ aF=>?_;refine Q5 fun _ aG=>?_;refine X09 (fun a w=>Fr a 27 [(1,.pointer (some ⟨b3,0,none⟩)),(17,.bool (((!(mOk m))||(m.rows != 2))||(m.cols != 2)))]∧Below w1.heap.size w1 w) ?_ ?_
 ·have j:Below w1.heap.size w1 w1:=Below.refl _ _
  refine Zr e<|Ze (Vn Xg f)<|Zf (Vc (Xcz _ m Am cm (o.below' i).top a9) X5i) ?_;rintro _ w2 ⟨rfl,n⟩;have f:=f.below n;have i:=btr i n;have j:=btr j n;refine Ze (X0p rfl)<|Zm rfl ?_
  refine Zg 8 rfl (fun b=>?_) (fun b=>?_)
  ·refine Zp (gP b) ?_;refine Zp (gP b) ?_;refine Zp (gP b) ?_;refine Ze (Xh rfl b rfl)<|Zm rfl<|Zp (gP rfl) ?_;refine Zp (gP rfl) ?_;refine Zp (gP rfl) ?_;refine Ze (Xh rfl rfl rfl) ?_;refine Zn fun a e=>?_
   have k:Below w1.heap.size w1 w2:=j
   exact ⟨e.sub ⟨rfl,X2 rfl (by first|rfl|(simp only [b,bs];done)|simp [b]),trivial⟩,k⟩
  refine Zv (gW b) (Vd rfl X13 0) ?_;refine Zv (gW b) (X0 rfl X9 (f.at 0)) ?_;refine Zv (gW b) (X3w rfl rfl) ?_;refine Ze (Xd rfl b rfl)<|Zm rfl ?_
  refine Zg 13 rfl (fun d=>?_) (fun d=>?_)
  ·refine Zp (gP d) ?_;refine Zp (gP d) ?_;refine Zp (gP d) ?_;refine Ze (Xh rfl d rfl) ?_;refine Zn fun a e=>?_
   have k:Below w1.heap.size w1 w2:=j
   exact ⟨e.sub ⟨rfl,X2 rfl (by first|rfl|(simp only [b,d,bs];done)|simp [b,d]),trivial⟩,k⟩
  refine Zv (gW d) (Vd rfl X0w 1) ?_;refine Zv (gW d) (X0 rfl X9 (f.at 1)) ?_;refine Zv (gW d) (X3w rfl rfl) ?_;refine Ze (Xd rfl d rfl) ?_;refine Zn fun a e=>?_
  have k:Below w1.heap.size w1 w2:=j
  exact ⟨e.sub ⟨rfl,X2 rfl (by first|rfl|(simp only [b,d,bs];done)|simp [b,d]),trivial⟩,k⟩
 rintro a w3 ⟨e,n⟩;have f:=f.below n;have i:=btr i n;refine aG _ _ ?_
 refine Xi e rfl (fun l=>?_) (fun l=>?_)
 ·have g:=l
  have aA:=Xq6 (by simpa using l:(mOk m=false∨m.rows≠2)∨m.cols≠2)
  refine Zs e fun _ aH=>?_;refine Za rfl<|Zt aH fun a e=>?_;refine Q6<|X8<|X4 e (Xp e rfl rfl) ?_;exact ⟨by rw [aA],i⟩
 have g:=l
 have aI:(mOk m=true∧m.rows=2)∧m.cols=2:=by have h9:=l;revert h9;cases mOk m<;>simp
 obtain ⟨⟨aL,aJ⟩,aM⟩:=aI;refine Q7<|aF _ _<|Zs e fun _ aB=>?_;refine Ze (Vn Xg f)<|Zf (Vc (Xzi _ m Am cm (o.below' i).top a9) Xpj) ?_;rintro _ w4 ⟨rfl,n⟩;have i:=btr i n;refine Zm rfl<|Ze (X1 (vs:=[.bool ((uniI m).1),.bool ((uniI m).2)]) rfl rfl)<|Ze (X1 (vs:=[.bool ((uniI m).1),.bool ((uniI m).2)]) rfl rfl)<|Za rfl<|Za rfl<|ZX aB fun a e _ aC=>?_;refine X09 (fun a w=>Fr a 27 [(2,.bool (((uniI m).2)&&((uniI m).1)))]∧w4=w) ?_ ?_
 ·refine Zr e<|Zm rfl<|Zm rfl ?_
  refine Zg 24 rfl (fun c=>?_) (fun c=>?_)
  ·refine Zv (gW c) (Xa rfl) ?_;refine Ze (Xh rfl c rfl)<|Za rfl ?_;refine Zn fun a e=>?_;exact ⟨e.sub ⟨X2 rfl (by first|rfl|(simp only [g,c,bs];done)|simp [g,c]),trivial⟩,rfl⟩
  refine Zp (gP c) ?_;refine Ze (Xd rfl c rfl)<|Za rfl ?_;refine Zn fun a e=>?_;exact ⟨e.sub ⟨X2 rfl (by first|rfl|(simp only [g,c,bs];done)|simp [g,c]),trivial⟩,rfl⟩
 rintro a _ ⟨e,rfl⟩;refine aC _ _ ?_
 refine Q6 (X4 e (Xp e rfl rfl) ?_)
 exact ⟨by rw [Xln aJ];try rfl,i⟩
def trN(m:Mx) : Nat→Option Dy
 | 0=>some dZ
 | n+1=>(trN m n).bind fun s=>dAddI s (m.at n n)
def trI(m:Mx) : Option Dy:=if (mOk m&&m.rows==m.cols)=true then trN m m.rows.toNat else none
theorem Xmw{m:Mx}(h:mOk m=false∨m.rows≠m.cols) : trI m=none:=by
 unfold trI
 rw [Q3]
 simp only [Qd,beq_iff_eq]
 rintro ⟨h1,h2⟩
 rcases h with h|h
 ·rw [h1] at h;cases h
 ·exact h h2
theorem Xky{o:Option Dy}{x:Dy}{b:Bool}(h:(o.getD dZ,o.isSome)=(x,b))(hb:b=true) : o=some x:=by
 cases o with
 | none=>injection h with h1 h2;rw [hb] at h2;cases h2
 | some y=>injection h with h1 h2;exact congrArg some h1
theorem Xn6{m:Mx}{i:Nat}{x:Dy}{b:Bool}(h:((trN m i).getD dZ,(trN m i).isSome)=(x,b))(hb:b=true) : ((trN m (i+1)).getD dZ,(trN m (i+1)).isSome)=((dAddI x (m.at i i)).getD dZ,(dAddI x (m.at i i)).isSome):=by
 rw [trN,Xky h hb,Qz]
theorem Xmp{m:Mx}{i:Nat}(h:trN m i=none) : ∀ n,i≤n→trN m n=none:=fun n hn=>by
 induction n with
 | zero=>rw [show i=0 by omega] at h;exact h
 | succ n ih=>
  by_cases e:i=n+1
  ·rw [← e];exact h
  ·rw [trN,ih (by omega)];rfl
theorem Xnj{m:Mx}{i:Nat}{x:Dy}{b:Bool}(hm:mOk m=true)(hrc:m.rows=m.cols)(hi:(i:Int)≤m.rows)(h:((trN m i).getD dZ,(trN m i).isSome)=(x,b))(hst:b=true→m.rows≤(i:Int)) : ((trI m).getD dZ,(trI m).isSome)=(x,b):=by
 have e:trI m=trN m m.rows.toNat:=by rw [trI,Q4 (by rw [hm,hrc];simp)]
 rw [e]
 cases b with
 | true=>
  have:=hst rfl
  rw [show m.rows.toNat=i by omega];exact h
 | false=>
  cases e2:trN m i with
  | none=>rw [Xmp e2 m.rows.toNat (by omega)];rw [e2] at h;exact h
  | some y=>rw [e2] at h;injection h with _ h2;cases h2
theorem Xlz{w:World}{b:Nat}{T:TypeId}(h:Blk w b T [.int .i64 2,.int .i64 3,.int .i64 4]){i:Nat}(hi:i<3) : At w ⟨b,i*1,none⟩ (.int .i64 (2+(i:Int))::([.int .i64 2,.int .i64 3,.int .i64 4] : List Value).drop (i+1)):=by
 have h1:=h.at i
 rw [Nat.mul_one]
 rcases lt3 hi with rfl|rfl|rfl<;>exact h1
theorem Xeu{i:Nat}(hi:i<3) : gateI 1 ⟨2+(i:Int),0,0⟩=some (pauM i):=by
 have h:gOk 1 (⟨2+(i:Int),0,0⟩ : Gt)=true:=by rcases lt3 hi with rfl|rfl|rfl<;>decide
 exact (X3h h).1
theorem X3z{i:Nat}(hi:i<3) : mOk (pauM i)=true:=(X2y hi).ok
theorem Xmo(i:Nat) : (pauM i).cells.length≤2305843009213693951:=by
 unfold pauM gateS
 rw [X2o];decide
theorem Xkz(q:Mx) : mulI mZ q=none:=by
 have h:mOk mZ=false:=by decide
 unfold mulI;rw [Q3 (by rw [h,Bool.false_and,Bool.false_and];decide)]
theorem Xce{a b c:Mx}(h:mulI a b=some c)(hr:a.rows=2)(hc:b.cols=2) : mOk c=true∧c.rows=2∧c.cols=2:=by
 obtain ⟨_,q2,q3,_⟩:=X8g h;exact ⟨Xih h,by rw [q2,hr],by rw [q3,hc]⟩
theorem Xtv{m:Mx}(hm:mOk m=true)(hr:m.rows=2)(hc:m.cols=2) : trI m=dAddI (m.at 0 0) (m.at 1 1):=by
 rw [trI,Q4 (by rw [hm,hr,hc];rfl),hr]
 show ((some dZ).bind fun s=>dAddI s (m.at 0 0)).bind (fun s=>dAddI s (m.at 1 1))=_
 rw [Qz,(Xiy (Mx.at_ok (X0z hm) 0 0)).1,Qz]
theorem Xis{m:Mx}(hm0:mOk m=true)(hr:m.rows=2)(hc:m.cols=2){i j:Nat}(hi:i<3)(hj:j<3) :
  ((dMulI ((trI ((mulI ((mulI ((mulI (pauM i) m).getD mZ) (pauM j)).getD mZ) (adjS m)).getD mZ)).getD dZ) dHf).getD dZ,(mulI (pauM i) m).isSome&&(mulI ((mulI (pauM i) m).getD mZ) (pauM j)).isSome&&(mulI ((mulI ((mulI (pauM i) m).getD mZ) (pauM j)).getD mZ) (adjS m)).isSome&&(trI ((mulI ((mulI ((mulI (pauM i) m).getD mZ) (pauM j)).getD mZ) (adjS m)).getD mZ)).isSome&&(dMulI ((trI ((mulI ((mulI ((mulI (pauM i) m).getD mZ) (pauM j)).getD mZ) (adjS m)).getD mZ)).getD dZ) dHf).isSome)=((celB m i j).getD dZ,(celB m i j).isSome):=by
 have t0:trI mZ=none:=Xmw (.inl (by decide))
 have d0:dMulI dZ dHf=some dZ:=by kernel_rfl
 have pi:=X2y hi
 have pj:=X2y hj
 unfold celB
 cases h1:mulI (pauM i) m with
 | none=>simp only [Option.getD_none,Xkz,t0,d0,Option.bind_none,Option.isSome_none,Bool.false_and,Qq]
 | some x=>
  simp only [Qq,Qz,Option.isSome_some,Qw]
  cases h2:mulI x (pauM j) with
  | none=>simp only [Option.getD_none,Xkz,t0,d0,Option.bind_none,Option.isSome_none,Bool.false_and,Qq]
  | some y=>
   simp only [Qq,Qz,Option.isSome_some,Qw]
   cases h3:mulI y (adjS m) with
   | none=>simp only [Option.getD_none,t0,d0,Option.bind_none,Option.isSome_none,Bool.false_and,Qq]
   | some z=>
    obtain ⟨_,a2,a3⟩:=Xce h1 pi.r hc;obtain ⟨_,b2,bm3⟩:=Xce h2 a2 pj.c;obtain ⟨c1,c2,c3⟩:=Xce h3 b2 (show (adjS m).cols=2 from hr)
    simp only [Qq,Qz,Option.isSome_some,Qw]
    rw [Xtv c1 c2 c3]
    cases dAddI (z.at 0 0) (z.at 1 1) with
    | none=>simp only [Option.getD_none,d0,Option.bind_none,Option.isSome_none,Bool.false_and,Qq]
    | some t=>simp only [Qq,Qz,Option.isSome_some,Qw]
theorem Xyn(D:World)(m:Mx)(Am:Option Addr)(cm:Nat)(z:Rd D D.heap.size 86 encD Am m.cells)(aO:m.cells.length≤2305843009213693951) : Ret Tryz.prog 122 [.agg #[vi m.rows,vi m.cols,.slice Am m.cells.length cm]] D (fun v w=>v=.tuple #[dV ((trI m).getD dZ),.bool ((trI m).isSome)]∧Below D.heap.size D w):=by
 refine enter Tryz.func122 rfl 39 rfl rfl ?_;intro a n
 have k:=bz D
 refine Zs n fun _ aP=>?_;refine Zf (X0b (zs:=[vi m.rows,vi m.cols,.slice Am m.cells.length cm]) rfl rfl) ?_;rintro _ w1 ⟨b3,rfl,aQ,o,e⟩;have b0:=Q0 k.size aQ;have k:=btr k o;refine Zf (X3 (zs:=[vi 0,vi 0,vi 0,vi 0,vi 0]) X0l rfl) ?_;rintro _ w2 ⟨b4,rfl,aC,o,f⟩;have E:=Q0 k.size aC;have aN:=(z.below' k).away aC;have e:=e.below o;have k:=btr k o;refine Za rfl<|ZX aP fun a n _ aR=>?_;refine Q5 fun _ aS=>?_;refine X09 (fun a w=>Fr a 39 [(1,.pointer (some ⟨b3,0,none⟩)),(2,.pointer (some ⟨b4,0,none⟩)),(16,.bool ((!(mOk m))||(m.rows != m.cols)))]∧Below w2.heap.size w2 w) ?_ ?_
 ·have C:Below w2.heap.size w2 w2:=Below.refl _ _
  refine Zr n<|Ze (Vn Xg e)<|Zf (Vc (Xcz _ m Am cm (z.below' k).top aO) X5i) ?_;rintro _ w3 ⟨rfl,o⟩;have e:=e.below o;have k:=btr k o;have C:=btr C o;refine Ze (X0p rfl)<|Zm rfl ?_
  refine Zg 10 rfl (fun p=>?_) (fun p=>?_)
  ·refine Zp (gP p) ?_;refine Zp (gP p) ?_;refine Zp (gP p) ?_;refine Zp (gP p) ?_;refine Zp (gP p) ?_;refine Ze (Xh rfl p rfl) ?_;refine Zn fun a n=>?_
   have a9:Below w2.heap.size w2 w3:=C
   exact ⟨n.sub ⟨rfl,rfl,X2 rfl (by first|rfl|(simp only [p,bs];done)|simp [p]),trivial⟩,a9⟩
  refine Zv (gW p) (Vd rfl X13 0) ?_;refine Zv (gW p) (X0 rfl X9 (e.at 0)) ?_;refine Zv (gW p) (Vd rfl X0w 1) ?_;refine Zv (gW p) (X0 rfl X9 (e.at 1)) ?_;refine Zv (gW p) (X3w rfl rfl) ?_;refine Ze (Xd rfl p rfl) ?_;refine Zn fun a n=>?_
  have a9:Below w2.heap.size w2 w3:=C
  exact ⟨n.sub ⟨rfl,rfl,X2 rfl (by first|rfl|(simp only [p,bs];done)|simp [p]),trivial⟩,a9⟩
 rintro a w4 ⟨n,o⟩;have e:=e.below o;have f:=f.below o;have k:=btr k o;refine aS _ _ ?_
 refine Xi n rfl (fun h=>?_) (fun h=>?_)
 ·have t:=h
  have aD:=Xmw (by simpa using h:mOk m=false∨m.rows≠m.cols)
  refine Zs n fun _ aT=>?_;refine Ze (Xf (ps:=[]) (cs:=[vi 0,vi 0,vi 0,vi 0,vi 0]) rfl (fun _=>by first|rfl|kernel_rfl))<|Zo (Vw [vi 0,vi 0,vi 0,vi 0,vi 0] Xb f) ?_;rintro _ w5 ⟨A,hb⟩;have u:=f;have k:=Below.only k A E;have f:=hb;refine Za rfl<|Zt aT fun a n=>?_;refine Q6<|X8<|X4 n (X0s n rfl (ResV.cellN (l:=[vi 0,vi 0,vi 0,vi 0,vi 0]) rfl X6 (f.at 0) rfl) rfl) ?_;exact ⟨by rw [aD];rfl,k⟩
 have t:=h
 have aU:mOk m=true∧m.rows=m.cols:=by have h9:=h;revert h9;cases mOk m<;>simp
 obtain ⟨aA,aW⟩:=aU;have b1:=X2a (X1n aA).1;refine Q7<|aR _ _<|Zs n fun _ aE=>?_;refine Ze (Xf (ps:=[]) (cs:=[vi 0,vi 0,vi 0,vi 0,vi 0]) rfl (fun _=>by first|rfl|kernel_rfl))<|Zf (X3 (zs:=[vi 0,vi 0,vi 0,vi 0,vi 0]) X0l rfl) ?_;rintro _ w6 ⟨b11,rfl,G,o,g⟩
 have aF:b4≠b11:=by have:=f.lt;omega
 have B:=Q0 k.size G;have aG:=(z.below' k).away G;have e:=e.below o;have f:=f.below o;have k:=btr k o;refine Zo (Vw [vi 0,vi 0,vi 0,vi 0,vi 0] Xb g) ?_;rintro _ w7 ⟨A,hb⟩;have u:=g;have e:=e.only A (Blk.ne e u rfl);have f:=f.only A (by omega);have k:=Below.only k A B;have g:=hb;refine Za rfl<|ZX aE fun a n _ aH=>?_;refine Zs n fun _ aI=>?_;refine Za rfl<|Zt aI fun a n=>?_;refine Q8<|X04 (σ:=Nat×Dy×Bool) (fun (s:Nat×Dy×Bool) (a:Act) (w:World)=>match s with|(i,x,b)=>Fr a 39 [(1,.pointer (some ⟨b3,0,none⟩)),(2,.pointer (some ⟨b4,0,none⟩)),(4,.pointer (some ⟨b11,0,none⟩)),(5,.bool b),(6,vi (i:Int))]∧((i:Int)≤m.rows)∧(((trN m i).getD dZ,(trN m i).isSome)=(x,b))∧Blk w b3 32 [vi m.rows,vi m.cols,.slice Am m.cells.length cm]∧Blk w b4 86 [vi 0,vi 0,vi 0,vi 0,vi 0]∧Blk w b11 86 [vi x.num.a,vi x.num.b,vi x.num.c,vi x.num.d,vi x.exp]∧Below D.heap.size D w) (fun (s:Nat×Dy×Bool)=>match s with|(i,x,b)=>m.rows.toNat+1-i) (0,dZ,true) ?_ ?_
 ·exact ⟨n.sb,(by omega),rfl,e,f,g,k⟩
 rintro ⟨i,x,b⟩ a w8 ⟨n,hi,hx,e,f,g,k⟩;refine Q5 fun _ aJ=>?_;refine Q5 fun _ aK=>?_;refine X09 (fun a w=>Fr a 39 [(1,.pointer (some ⟨b3,0,none⟩)),(2,.pointer (some ⟨b4,0,none⟩)),(4,.pointer (some ⟨b11,0,none⟩)),(5,.bool b),(6,vi (i:Int)),(25,.bool ((decide ((i:Int)<m.rows))&&b))]∧w8=w) ?_ ?_
 ·refine Zr n<|Zm rfl<|Ze (Vd rfl X13 0)<|Ze (X0 rfl X9 (e.at 0))<|Ze (X19 rfl rfl)<|Zm rfl ?_
  refine Zg 23 rfl (fun q=>?_) (fun q=>?_)
  ·refine Zv (gW q) (Xa rfl) ?_;refine Ze (Xh rfl q rfl) ?_;refine Zn fun a n=>?_;exact ⟨n.sub ⟨rfl,rfl,rfl,rfl,rfl,X2 rfl (by first|rfl|(simp only [t,q,bs];done)|simp [t,q]),trivial⟩,rfl⟩
  refine Zp (gP q) ?_;refine Ze (Xd rfl q rfl) ?_;refine Zn fun a n=>?_;exact ⟨n.sub ⟨rfl,rfl,rfl,rfl,rfl,X2 rfl (by first|rfl|(simp only [t,q,bs];done)|simp [t,q]),trivial⟩,rfl⟩
 rintro a _ ⟨n,rfl⟩;refine aK _ _ ?_
 refine Xi n rfl (fun y=>?_) (fun y=>?_)
 ·have aB:=y
  have aX:(i:Int)<m.rows∧b=true:=by have h9:=y;revert h9;cases b<;>simp
  obtain ⟨b2,aY⟩:=aX;refine Q7<|aJ _ _<|Q5 fun _ aL=>?_;refine Q8<|Xy none (fun j=>[9].contains j) mixed ?_;intro w9 o;have e:=e.below o;have f:=f.below o;have g:=g.below o;have k:=btr k o;refine Yb n<|Ye 0 rfl (Vn X6 g)<|Ye 1 rfl (Vn Xg e)<|Yo 2 rfl (fun _=>Xa rfl)<|Yo 3 rfl (fun _=>Xa rfl)<|Y1 4 ?_;refine Yk rfl trivial (Vc (Xfw _ m Am cm (z.below' k).top i i aA (by omega) (by omega)) X79) (fun _ _ ⟨_,o⟩=>o) ?_;rintro _ b5 ⟨rfl,o⟩;have e:=e.below o;have f:=f.below o;have g:=g.below o;have k:=btr k o;refine Y1 5<|Yk rfl trivial (Vc (Xnu _ x (m.at i i)) Xcp) (fun _ _ ⟨_,o⟩=>o) ?_;rintro _ b6 ⟨rfl,o⟩;have e:=e.below o;have f:=f.below o;have g:=g.below o;have k:=btr k o;refine Yo 6 rfl (fun _=>Xa rfl)<|Yo 7 rfl (fun _=>X1 (vs:=[.agg #[vi (((dAddI x (m.at i i)).getD dZ).num.a),vi (((dAddI x (m.at i i)).getD dZ).num.b),vi (((dAddI x (m.at i i)).getD dZ).num.c),vi (((dAddI x (m.at i i)).getD dZ).num.d),vi (((dAddI x (m.at i i)).getD dZ).exp)],.bool ((dAddI x (m.at i i)).isSome)]) rfl rfl)<|Yo 8 rfl (fun _=>X1 (vs:=[.agg #[vi (((dAddI x (m.at i i)).getD dZ).num.a),vi (((dAddI x (m.at i i)).getD dZ).num.b),vi (((dAddI x (m.at i i)).getD dZ).num.c),vi (((dAddI x (m.at i i)).getD dZ).num.d),vi (((dAddI x (m.at i i)).getD dZ).exp)],.bool ((dAddI x (m.at i i)).isSome)]) rfl rfl)<|Y1 9 ?_;refine Yh rfl trivial rfl (Vw [vi (((dAddI x (m.at i i)).getD dZ).num.a),vi (((dAddI x (m.at i i)).getD dZ).num.b),vi (((dAddI x (m.at i i)).getD dZ).num.c),vi (((dAddI x (m.at i i)).getD dZ).num.d),vi (((dAddI x (m.at i i)).getD dZ).exp)] Xb g) ?_;rintro _ b7 ⟨A,hb⟩;have u:=g;have e:=e.only A (Blk.ne e u rfl);have f:=f.only A (by omega)
  have k:=Below.only k A B;have g:=hb;refine Yo 10 rfl (fun _=>X0q rfl) ?_;refine Yd fun a n=>?_;refine Xk<|aL _ _<|Zr n<|Zm rfl<|Ze (X02 rfl rfl (by omega) (by omega))<|Za rfl ?_;refine Zn fun a n=>?_;refine Xn ?_;exact ⟨(i+1,((dAddI x (m.at i i)).getD dZ),(dAddI x (m.at i i)).isSome),⟨n.sb,(by omega),(Xn6 hx aY),e,f,g,k⟩,(by first|omega|(dsimp only;omega))⟩
 have aB:=y
 have aZ:b=true→m.rows≤(i:Int):=by intro h0;subst h0;have h9:=y;revert h9;simp
 refine Q9<|Xm<|Xm<|X06 ?_;refine aH _ _<|Zs n fun _ aM=>?_;refine Ze (Vn X6 g)<|Zm rfl<|Zo (Vw [vi x.num.a,vi x.num.b,vi x.num.c,vi x.num.d,vi x.exp] Xb f) ?_;rintro _ b8 ⟨A,hb⟩;have u:=f;have k:=Below.only k A E;have f:=hb;refine Za rfl<|Zt aM fun a n=>?_
 refine Q6 (X4 n (X0s n rfl (ResV.cellN (l:=[vi x.num.a,vi x.num.b,vi x.num.c,vi x.num.d,vi x.exp]) rfl X6 (f.at 0) rfl) rfl) ?_)
 have h9:=Xnj aA aW hi hx aZ
 injection h9 with h91 h92
 exact ⟨by rw [h91,h92],k⟩
theorem Xwo(w0:World)(m:Mx)(Am:Option Addr)(cm:Nat)(W:Rd w0 w0.heap.size 86 encD Am m.cells)(p:Mx)(Ap:Option Addr)(cp:Nat)(a9:Rd w0 w0.heap.size 86 encD Ap p.cells)(i:Nat)(j:Nat)(cG:m.cells.length≤2305843009213693951)(cH:oneQ m=true)(aZ:p=adjS m)(aC:i<3)(aD:j<3)(cJ:HalfT w0) : Ret Tryz.prog 71 [.agg #[vi m.rows,vi m.cols,.slice Am m.cells.length cm],.agg #[vi p.rows,vi p.cols,.slice Ap p.cells.length cp],vi (i:Int),vi (j:Int)] w0 (fun v w=>v=.tuple #[dV ((celB m i j).getD dZ),.bool ((celB m i j).isSome)]∧Below w0.heap.size w0 w):=by
 obtain ⟨_,b0,cK,cM⟩:=X4a cH
 have cO:p.cells.length≤2305843009213693951:=by rw [aZ];exact Xjx b0
 refine enter Tryz.func71 rfl 83 rfl rfl ?_;intro a L
 have f:=bz w0
 refine Zs L fun _ cP=>?_;refine Zf (X0b (zs:=[vi m.rows,vi m.cols,.slice Am m.cells.length cm]) rfl rfl) ?_;rintro _ w1 ⟨b4,rfl,cQ,n,t⟩;have cW:=Q0 f.size cQ;have f:=btr f n;refine Zf (X0b (zs:=[vi p.rows,vi p.cols,.slice Ap p.cells.length cp]) rfl rfl) ?_;rintro _ w2 ⟨b5,rfl,cR,n,o⟩
 have cD:b4≠b5:=by have:=t.lt;omega
 have cX:=Q0 f.size cR;have t:=t.below n;have f:=btr f n;refine Zf (X3 (zs:=[vi 0,vi 0,vi 0,vi 0,vi 0]) X0l rfl) ?_;rintro _ w3 ⟨b6,rfl,aO,n,e⟩;have Q:=Q0 f.size aO;have cE:=(W.below' f).away aO;have cF:=(a9.below' f).away aO;have t:=t.below n;have o:=o.below n;have f:=btr f n;refine Za rfl<|Zx cP fun a L _ cS=>?_;refine Ze (Xf (ps:=[(0,vi 2),(1,vi 3),(2,vi 4)]) (cs:=[vi 2,vi 3,vi 4]) rfl (fun _=>by first|rfl|kernel_rfl))<|Zf (X3 (zs:=[vi 0,vi 0,vi 0]) Xti rfl) ?_;rintro _ w4 ⟨b8,rfl,cU,n,I⟩;have b1:=Q0 f.size cU;have t:=t.below n;have o:=o.below n;have e:=e.below n;have f:=btr f n;refine Zo (Vw [vi 2,vi 3,vi 4] Xpl I) ?_;rintro _ w5 ⟨u,J⟩;have g:=I;have t:=t.only u (Blk.ne t g rfl);have o:=o.only u (Blk.ne o g rfl);have e:=e.only u (Blk.ne e g rfl);have f:=Below.only f u b1;have I:=J;refine Zx cS fun a L _ cV=>?_;refine Zm rfl<|Ze (Xbl (k:=i) rfl rfl Tryz.underlying162 X66 rfl aC (Nat.zero_add _))<|Ze (X0 rfl X9 (Xlz I aC))<|Ze (Xf (ps:=[(0,vi (2+(i:Int)))]) (cs:=[vi (2+(i:Int)),vi 0,vi 0]) rfl (fun _=>by first|rfl|kernel_rfl))<|Zf (X0x (vs:=[vi 1,.agg #[vi (2+(i:Int)),vi 0,vi 0]]) rfl Xar (by have hq:=Xlu w5 1 (⟨(2+(i:Int)),0,0⟩ : Gt);rw [Xeu aC,Qq,Option.isSome_some] at hq;exact hq)) ?_;rintro _ w6 ⟨aE,aF,rfl,z,n⟩;have b2:=z.awayNew e.lt;have z:=z.lower f.size;have t:=t.below n;have o:=o.below n;have e:=e.below n;have I:=I.below n;have f:=btr f n;refine Zm rfl<|Ze (X1 (vs:=[.agg #[vi ((pauM i).rows),vi ((pauM i).cols),.slice aE ((pauM i).cells).length aF],.bool true]) rfl rfl)<|Ze (X1 (vs:=[.agg #[vi ((pauM i).rows),vi ((pauM i).cols),.slice aE ((pauM i).cells).length aF],.bool true]) rfl rfl)<|Zf (X3 (zs:=[vi 0,vi 0,.slice none 0 0]) X0n rfl) ?_;rintro _ w7 ⟨b12,rfl,b3,n,h⟩
 have b7:b4≠b12:=by have:=t.lt;omega
 have b9:b5≠b12:=by have:=o.lt;omega
 have aP:=Q0 f.size b3;have t:=t.below n;have o:=o.below n;have e:=e.below n;have I:=I.below n;have z:=z.below n;have f:=btr f n;refine Zo (Vw [vi ((pauM i).rows),vi ((pauM i).cols),.slice aE ((pauM i).cells).length aF] Xt h) ?_;rintro _ w8 ⟨u,J⟩;have g:=h;have t:=t.only u (by omega);have o:=o.only u (by omega);have e:=e.only u (Blk.ne e g rfl);have I:=I.only u (Blk.ne I g rfl);have z:=z.onlyT u g rfl;have f:=Below.only f u aP;have h:=J;refine Za rfl<|Zx cV fun a L _ bC=>?_;refine Zm rfl<|Ze (Xbl (k:=j) rfl rfl Tryz.underlying162 X66 rfl aD (Nat.zero_add _))<|Ze (X0 rfl X9 (Xlz I aD))<|Ze (Xf (ps:=[(0,vi (2+(j:Int)))]) (cs:=[vi (2+(j:Int)),vi 0,vi 0]) rfl (fun _=>by first|rfl|kernel_rfl))<|Zf (X0x (vs:=[vi 1,.agg #[vi (2+(j:Int)),vi 0,vi 0]]) rfl Xar (by have hq:=Xlu w8 1 (⟨(2+(j:Int)),0,0⟩ : Gt);rw [Xeu aD,Qq,Option.isSome_some] at hq;exact hq)) ?_;rintro _ w9 ⟨aG,aH,rfl,A,n⟩;have bD:=A.awayNew e.lt;have A:=A.lower f.size;have t:=t.below n;have o:=o.below n;have e:=e.below n;have h:=h.below n;have z:=z.below n;have f:=btr f n;refine Zm rfl<|Ze (X1 (vs:=[.agg #[vi ((pauM j).rows),vi ((pauM j).cols),.slice aG ((pauM j).cells).length aH],.bool true]) rfl rfl)<|Ze (X1 (vs:=[.agg #[vi ((pauM j).rows),vi ((pauM j).cols),.slice aG ((pauM j).cells).length aH],.bool true]) rfl rfl)<|Zf (X3 (zs:=[vi 0,vi 0,.slice none 0 0]) X0n rfl) ?_;rintro _ d5 ⟨b16,rfl,bE,n,C⟩
 have bF:b4≠b16:=by have:=t.lt;omega
 have bG:b5≠b16:=by have:=o.lt;omega
 have aT:b12≠b16:=by have:=h.lt;omega
 have aQ:=Q0 f.size bE;have t:=t.below n;have o:=o.below n;have e:=e.below n;have h:=h.below n;have z:=z.below n;have A:=A.below n;have f:=btr f n;refine Zo (Vw [vi ((pauM j).rows),vi ((pauM j).cols),.slice aG ((pauM j).cells).length aH] Xt C) ?_;rintro _ d6 ⟨u,J⟩;have g:=C;have t:=t.only u (by omega);have o:=o.only u (by omega);have e:=e.only u (Blk.ne e g rfl);have h:=h.only u (by omega);have z:=z.onlyT u g rfl;have A:=A.onlyT u g rfl;have f:=Below.only f u aQ;have C:=J;refine Za rfl<|Zx bC fun a L _ bH=>?_;refine Ze (Vn Xg h)<|Ze (Vn Xg t)<|Zf (Vc (Xk4 _ (pauM i) aE aF z.rd.top m Am cm (W.below' f).top (Xmo _) cG) Xb9) ?_;rintro _ d7 ⟨aI,aJ,rfl,H,n⟩;have bI:=H.awayNew e.lt;have H:=H.lower f.size;have t:=t.below n;have o:=o.below n;have e:=e.below n;have h:=h.below n;have C:=C.below n;have A:=A.below n;have f:=btr f n;refine Zm rfl<|Ze (X1 (vs:=[.agg #[vi (((mulI (pauM i) m).getD mZ).rows),vi (((mulI (pauM i) m).getD mZ).cols),.slice aI (((mulI (pauM i) m).getD mZ).cells).length aJ],.bool ((mulI (pauM i) m).isSome)]) rfl rfl)<|Ze (X1 (vs:=[.agg #[vi (((mulI (pauM i) m).getD mZ).rows),vi (((mulI (pauM i) m).getD mZ).cols),.slice aI (((mulI (pauM i) m).getD mZ).cells).length aJ],.bool ((mulI (pauM i) m).isSome)]) rfl rfl)<|Zf (X3 (zs:=[vi 0,vi 0,.slice none 0 0]) X0n rfl) ?_;rintro _ d8 ⟨b20,rfl,bJ,n,x⟩
 have bK:b4≠b20:=by have:=t.lt;omega
 have bL:b5≠b20:=by have:=o.lt;omega
 have aU:b12≠b20:=by have:=h.lt;omega
 have aW:b16≠b20:=by have:=C.lt;omega
 have U:=Q0 f.size bJ;have o:=o.below n;have e:=e.below n;have C:=C.below n;have A:=A.below n;have H:=H.below n;have f:=btr f n;refine Zo (Vw [vi (((mulI (pauM i) m).getD mZ).rows),vi (((mulI (pauM i) m).getD mZ).cols),.slice aI (((mulI (pauM i) m).getD mZ).cells).length aJ] Xt x) ?_;rintro _ d9 ⟨u,J⟩;have g:=x;have o:=o.only u (by omega);have e:=e.only u (Blk.ne e g rfl);have C:=C.only u (by omega);have A:=A.onlyT u g rfl;have H:=H.onlyT u g rfl;have f:=Below.only f u U;have x:=J;refine Za rfl<|Zx bH fun a L _ bM=>?_;refine Ze (Vn Xg x)<|Ze (Vn Xg C)<|Zf (Vc (Xk4 _ ((mulI (pauM i) m).getD mZ) aI aJ H.rd.top (pauM j) aG aH A.rd.top (X7z _ _) (Xmo _)) Xb9) ?_;rintro _ dA ⟨aK,aL,rfl,N,n⟩;have bN:=N.awayNew e.lt;have N:=N.lower f.size;have o:=o.below n;have e:=e.below n;have x:=x.below n;have f:=btr f n;refine Zm rfl<|Ze (X1 (vs:=[.agg #[vi (((mulI ((mulI (pauM i) m).getD mZ) (pauM j)).getD mZ).rows),vi (((mulI ((mulI (pauM i) m).getD mZ) (pauM j)).getD mZ).cols),.slice aK (((mulI ((mulI (pauM i) m).getD mZ) (pauM j)).getD mZ).cells).length aL],.bool ((mulI ((mulI (pauM i) m).getD mZ) (pauM j)).isSome)]) rfl rfl)<|Ze (X1 (vs:=[.agg #[vi (((mulI ((mulI (pauM i) m).getD mZ) (pauM j)).getD mZ).rows),vi (((mulI ((mulI (pauM i) m).getD mZ) (pauM j)).getD mZ).cols),.slice aK (((mulI ((mulI (pauM i) m).getD mZ) (pauM j)).getD mZ).cells).length aL],.bool ((mulI ((mulI (pauM i) m).getD mZ) (pauM j)).isSome)]) rfl rfl)<|Zo (Vw [vi (((mulI ((mulI (pauM i) m).getD mZ) (pauM j)).getD mZ).rows),vi (((mulI ((mulI (pauM i) m).getD mZ) (pauM j)).getD mZ).cols),.slice aK (((mulI ((mulI (pauM i) m).getD mZ) (pauM j)).getD mZ).cells).length aL] Xt x) ?_;rintro _ dB ⟨u,J⟩
 have g:=x;have o:=o.only u (by omega);have e:=e.only u (Blk.ne e g rfl);have N:=N.onlyT u g rfl;have f:=Below.only f u U;have x:=J;refine Za rfl<|Zx bM fun a L _ bO=>?_;refine Ze (Vn Xg x)<|Ze (Vn Xg o)<|Zf (Vc (Xk4 _ ((mulI ((mulI (pauM i) m).getD mZ) (pauM j)).getD mZ) aK aL N.rd.top p Ap cp (a9.below' f).top (X7z _ _) cO) Xb9) ?_;rintro _ dC ⟨aM,aN,rfl,E,n⟩;have bP:=E.awayNew e.lt;have E:=E.lower f.size;have e:=e.below n;have x:=x.below n;have f:=btr f n;refine Zm rfl<|Ze (X1 (vs:=[.agg #[vi (((mulI ((mulI ((mulI (pauM i) m).getD mZ) (pauM j)).getD mZ) p).getD mZ).rows),vi (((mulI ((mulI ((mulI (pauM i) m).getD mZ) (pauM j)).getD mZ) p).getD mZ).cols),.slice aM (((mulI ((mulI ((mulI (pauM i) m).getD mZ) (pauM j)).getD mZ) p).getD mZ).cells).length aN],.bool ((mulI ((mulI ((mulI (pauM i) m).getD mZ) (pauM j)).getD mZ) p).isSome)]) rfl rfl)<|Ze (X1 (vs:=[.agg #[vi (((mulI ((mulI ((mulI (pauM i) m).getD mZ) (pauM j)).getD mZ) p).getD mZ).rows),vi (((mulI ((mulI ((mulI (pauM i) m).getD mZ) (pauM j)).getD mZ) p).getD mZ).cols),.slice aM (((mulI ((mulI ((mulI (pauM i) m).getD mZ) (pauM j)).getD mZ) p).getD mZ).cells).length aN],.bool ((mulI ((mulI ((mulI (pauM i) m).getD mZ) (pauM j)).getD mZ) p).isSome)]) rfl rfl)<|Zo (Vw [vi (((mulI ((mulI ((mulI (pauM i) m).getD mZ) (pauM j)).getD mZ) p).getD mZ).rows),vi (((mulI ((mulI ((mulI (pauM i) m).getD mZ) (pauM j)).getD mZ) p).getD mZ).cols),.slice aM (((mulI ((mulI ((mulI (pauM i) m).getD mZ) (pauM j)).getD mZ) p).getD mZ).cells).length aN] Xt x) ?_;rintro _ dD ⟨u,J⟩;have g:=x;have e:=e.only u (Blk.ne e g rfl);have E:=E.onlyT u g rfl;have f:=Below.only f u U;have x:=J
 refine Za rfl<|Zx bO fun a L _ bQ=>?_;refine Ze (Vn Xg x)<|Zf (Vc (Xyn _ ((mulI ((mulI ((mulI (pauM i) m).getD mZ) (pauM j)).getD mZ) p).getD mZ) aM aN E.rd.top (X7z _ _)) Xqr) ?_;rintro _ dE ⟨rfl,n⟩;have e:=e.below n;have E:=E.below n;have f:=btr f n;refine Zm rfl<|Ze (X1 (vs:=[.agg #[vi (((trI ((mulI ((mulI ((mulI (pauM i) m).getD mZ) (pauM j)).getD mZ) p).getD mZ)).getD dZ).num.a),vi (((trI ((mulI ((mulI ((mulI (pauM i) m).getD mZ) (pauM j)).getD mZ) p).getD mZ)).getD dZ).num.b),vi (((trI ((mulI ((mulI ((mulI (pauM i) m).getD mZ) (pauM j)).getD mZ) p).getD mZ)).getD dZ).num.c),vi (((trI ((mulI ((mulI ((mulI (pauM i) m).getD mZ) (pauM j)).getD mZ) p).getD mZ)).getD dZ).num.d),vi (((trI ((mulI ((mulI ((mulI (pauM i) m).getD mZ) (pauM j)).getD mZ) p).getD mZ)).getD dZ).exp)],.bool ((trI ((mulI ((mulI ((mulI (pauM i) m).getD mZ) (pauM j)).getD mZ) p).getD mZ)).isSome)]) rfl rfl)<|Ze (X1 (vs:=[.agg #[vi (((trI ((mulI ((mulI ((mulI (pauM i) m).getD mZ) (pauM j)).getD mZ) p).getD mZ)).getD dZ).num.a),vi (((trI ((mulI ((mulI ((mulI (pauM i) m).getD mZ) (pauM j)).getD mZ) p).getD mZ)).getD dZ).num.b),vi (((trI ((mulI ((mulI ((mulI (pauM i) m).getD mZ) (pauM j)).getD mZ) p).getD mZ)).getD dZ).num.c),vi (((trI ((mulI ((mulI ((mulI (pauM i) m).getD mZ) (pauM j)).getD mZ) p).getD mZ)).getD dZ).num.d),vi (((trI ((mulI ((mulI ((mulI (pauM i) m).getD mZ) (pauM j)).getD mZ) p).getD mZ)).getD dZ).exp)],.bool ((trI ((mulI ((mulI ((mulI (pauM i) m).getD mZ) (pauM j)).getD mZ) p).getD mZ)).isSome)]) rfl rfl)<|Zf (X3 (zs:=[vi 0,vi 0,vi 0,vi 0,vi 0]) X0l rfl) ?_;rintro _ dF ⟨b26,rfl,aA,n,M⟩
 have bR:b6≠b26:=by have:=e.lt;omega
 have aR:=Q0 f.size aA;have bS:=(W.below' f).away aA;have bU:=(a9.below' f).away aA;have aX:=E.away aA;have e:=e.below n;have f:=btr f n;refine Zo (Vw [vi (((trI ((mulI ((mulI ((mulI (pauM i) m).getD mZ) (pauM j)).getD mZ) p).getD mZ)).getD dZ).num.a),vi (((trI ((mulI ((mulI ((mulI (pauM i) m).getD mZ) (pauM j)).getD mZ) p).getD mZ)).getD dZ).num.b),vi (((trI ((mulI ((mulI ((mulI (pauM i) m).getD mZ) (pauM j)).getD mZ) p).getD mZ)).getD dZ).num.c),vi (((trI ((mulI ((mulI ((mulI (pauM i) m).getD mZ) (pauM j)).getD mZ) p).getD mZ)).getD dZ).num.d),vi (((trI ((mulI ((mulI ((mulI (pauM i) m).getD mZ) (pauM j)).getD mZ) p).getD mZ)).getD dZ).exp)] Xb M) ?_;rintro _ dG ⟨u,J⟩;have g:=M;have e:=e.only u (by omega);have f:=Below.only f u aR;have M:=J;refine Za rfl<|Zx bQ fun a L _ bW=>?_;refine Ze (Vn X6 M)<|Ze (Xz (l:=[vi dHf.num.a,vi dHf.num.b,vi dHf.num.c,vi dHf.num.d,vi dHf.exp]) rfl X6 ((cJ.of f).at 0) rfl)<|Zf (Vc (Xbc _ ((trI ((mulI ((mulI ((mulI (pauM i) m).getD mZ) (pauM j)).getD mZ) p).getD mZ)).getD dZ) dHf) X4w) ?_;rintro _ dH ⟨rfl,n⟩;have e:=e.below n;have M:=M.below n;have f:=btr f n;refine Zm rfl<|Ze (X1 (vs:=[.agg #[vi (((dMulI ((trI ((mulI ((mulI ((mulI (pauM i) m).getD mZ) (pauM j)).getD mZ) p).getD mZ)).getD dZ) dHf).getD dZ).num.a),vi (((dMulI ((trI ((mulI ((mulI ((mulI (pauM i) m).getD mZ) (pauM j)).getD mZ) p).getD mZ)).getD dZ) dHf).getD dZ).num.b),vi (((dMulI ((trI ((mulI ((mulI ((mulI (pauM i) m).getD mZ) (pauM j)).getD mZ) p).getD mZ)).getD dZ) dHf).getD dZ).num.c),vi (((dMulI ((trI ((mulI ((mulI ((mulI (pauM i) m).getD mZ) (pauM j)).getD mZ) p).getD mZ)).getD dZ) dHf).getD dZ).num.d),vi (((dMulI ((trI ((mulI ((mulI ((mulI (pauM i) m).getD mZ) (pauM j)).getD mZ) p).getD mZ)).getD dZ) dHf).getD dZ).exp)],.bool ((dMulI ((trI ((mulI ((mulI ((mulI (pauM i) m).getD mZ) (pauM j)).getD mZ) p).getD mZ)).getD dZ) dHf).isSome)]) rfl rfl)<|Ze (X1 (vs:=[.agg #[vi (((dMulI ((trI ((mulI ((mulI ((mulI (pauM i) m).getD mZ) (pauM j)).getD mZ) p).getD mZ)).getD dZ) dHf).getD dZ).num.a),vi (((dMulI ((trI ((mulI ((mulI ((mulI (pauM i) m).getD mZ) (pauM j)).getD mZ) p).getD mZ)).getD dZ) dHf).getD dZ).num.b),vi (((dMulI ((trI ((mulI ((mulI ((mulI (pauM i) m).getD mZ) (pauM j)).getD mZ) p).getD mZ)).getD dZ) dHf).getD dZ).num.c),vi (((dMulI ((trI ((mulI ((mulI ((mulI (pauM i) m).getD mZ) (pauM j)).getD mZ) p).getD mZ)).getD dZ) dHf).getD dZ).num.d),vi (((dMulI ((trI ((mulI ((mulI ((mulI (pauM i) m).getD mZ) (pauM j)).getD mZ) p).getD mZ)).getD dZ) dHf).getD dZ).exp)],.bool ((dMulI ((trI ((mulI ((mulI ((mulI (pauM i) m).getD mZ) (pauM j)).getD mZ) p).getD mZ)).getD dZ) dHf).isSome)]) rfl rfl)<|Zf (X3 (zs:=[vi 0,vi 0,vi 0,vi 0,vi 0]) X0l rfl) ?_;rintro _ dI ⟨b28,rfl,aB,n,q⟩
 have bZ:b6≠b28:=by have:=e.lt;omega
 have aY:b26≠b28:=by have:=M.lt;omega
 have aS:=Q0 f.size aB;have cA:=(W.below' f).away aB;have cB:=(a9.below' f).away aB;have e:=e.below n;have f:=btr f n;refine Zo (Vw [vi (((dMulI ((trI ((mulI ((mulI ((mulI (pauM i) m).getD mZ) (pauM j)).getD mZ) p).getD mZ)).getD dZ) dHf).getD dZ).num.a),vi (((dMulI ((trI ((mulI ((mulI ((mulI (pauM i) m).getD mZ) (pauM j)).getD mZ) p).getD mZ)).getD dZ) dHf).getD dZ).num.b),vi (((dMulI ((trI ((mulI ((mulI ((mulI (pauM i) m).getD mZ) (pauM j)).getD mZ) p).getD mZ)).getD dZ) dHf).getD dZ).num.c),vi (((dMulI ((trI ((mulI ((mulI ((mulI (pauM i) m).getD mZ) (pauM j)).getD mZ) p).getD mZ)).getD dZ) dHf).getD dZ).num.d),vi (((dMulI ((trI ((mulI ((mulI ((mulI (pauM i) m).getD mZ) (pauM j)).getD mZ) p).getD mZ)).getD dZ) dHf).getD dZ).exp)] Xb q) ?_;rintro _ dJ ⟨u,J⟩;have g:=q;have e:=e.only u (by omega);have f:=Below.only f u aS;have q:=J;refine Za rfl<|ZX bW fun a L _ cC=>?_;refine X09 (fun a w=>Fr a 83 [(8,.pointer (some ⟨b6,0,none⟩)),(9,.bool ((((((mulI (pauM i) m).isSome)&&((mulI ((mulI (pauM i) m).getD mZ) (pauM j)).isSome))&&((mulI ((mulI ((mulI (pauM i) m).getD mZ) (pauM j)).getD mZ) p).isSome))&&((trI ((mulI ((mulI ((mulI (pauM i) m).getD mZ) (pauM j)).getD mZ) p).getD mZ)).isSome))&&((dMulI ((trI ((mulI ((mulI ((mulI (pauM i) m).getD mZ) (pauM j)).getD mZ) p).getD mZ)).getD dZ) dHf).isSome)))]∧Blk w b6 86 [vi (((dMulI ((trI ((mulI ((mulI ((mulI (pauM i) m).getD mZ) (pauM j)).getD mZ) p).getD mZ)).getD dZ) dHf).getD dZ).num.a),vi (((dMulI ((trI ((mulI ((mulI ((mulI (pauM i) m).getD mZ) (pauM j)).getD mZ) p).getD mZ)).getD dZ) dHf).getD dZ).num.b),vi (((dMulI ((trI ((mulI ((mulI ((mulI (pauM i) m).getD mZ) (pauM j)).getD mZ) p).getD mZ)).getD dZ) dHf).getD dZ).num.c),vi (((dMulI ((trI ((mulI ((mulI ((mulI (pauM i) m).getD mZ) (pauM j)).getD mZ) p).getD mZ)).getD dZ) dHf).getD dZ).num.d),vi (((dMulI ((trI ((mulI ((mulI ((mulI (pauM i) m).getD mZ) (pauM j)).getD mZ) p).getD mZ)).getD dZ) dHf).getD dZ).exp)]∧Blk w b28 86 [vi (((dMulI ((trI ((mulI ((mulI ((mulI (pauM i) m).getD mZ) (pauM j)).getD mZ) p).getD mZ)).getD dZ) dHf).getD dZ).num.a),vi (((dMulI ((trI ((mulI ((mulI ((mulI (pauM i) m).getD mZ) (pauM j)).getD mZ) p).getD mZ)).getD dZ) dHf).getD dZ).num.b),vi (((dMulI ((trI ((mulI ((mulI ((mulI (pauM i) m).getD mZ) (pauM j)).getD mZ) p).getD mZ)).getD dZ) dHf).getD dZ).num.c),vi (((dMulI ((trI ((mulI ((mulI ((mulI (pauM i) m).getD mZ) (pauM j)).getD mZ) p).getD mZ)).getD dZ) dHf).getD dZ).num.d),vi (((dMulI ((trI ((mulI ((mulI ((mulI (pauM i) m).getD mZ) (pauM j)).getD mZ) p).getD mZ)).getD dZ) dHf).getD dZ).exp)]∧Below w0.heap.size w0 w) ?_ ?_
 ·refine Zr L<|Ze (Vn X6 q)<|Zm rfl<|Zm rfl ?_
  refine Zg 71 rfl (fun y=>?_) (fun y=>?_)
  ·refine Zv (gW y) (Xa rfl) ?_;refine Ze (Xh rfl y rfl)<|Zm rfl ?_
   refine Zg 74 rfl (fun B=>?_) (fun B=>?_)
   ·refine Zv (gW B) (Xa rfl) ?_;refine Ze (Xh rfl B rfl)<|Zm rfl ?_
    refine Zg 77 rfl (fun D=>?_) (fun D=>?_)
    ·refine Zv (gW D) (Xa rfl) ?_;refine Ze (Xh rfl D rfl)<|Zm rfl ?_
     refine Zg 80 rfl (fun G=>?_) (fun G=>?_)
     ·refine Zv (gW G) (Xa rfl) ?_;refine Ze (Xh rfl G rfl)<|Zo (Vw [vi (((dMulI ((trI ((mulI ((mulI ((mulI (pauM i) m).getD mZ) (pauM j)).getD mZ) p).getD mZ)).getD dZ) dHf).getD dZ).num.a),vi (((dMulI ((trI ((mulI ((mulI ((mulI (pauM i) m).getD mZ) (pauM j)).getD mZ) p).getD mZ)).getD dZ) dHf).getD dZ).num.b),vi (((dMulI ((trI ((mulI ((mulI ((mulI (pauM i) m).getD mZ) (pauM j)).getD mZ) p).getD mZ)).getD dZ) dHf).getD dZ).num.c),vi (((dMulI ((trI ((mulI ((mulI ((mulI (pauM i) m).getD mZ) (pauM j)).getD mZ) p).getD mZ)).getD dZ) dHf).getD dZ).num.d),vi (((dMulI ((trI ((mulI ((mulI ((mulI (pauM i) m).getD mZ) (pauM j)).getD mZ) p).getD mZ)).getD dZ) dHf).getD dZ).exp)] Xb e) ?_;rintro _ dK ⟨u,J⟩;have g:=e;have q:=q.only u (by omega);have f:=Below.only f u Q;have e:=J;refine Za rfl ?_;refine Zn fun a L=>?_;exact ⟨L.sub ⟨rfl,X2 rfl (by first|rfl|(simp only [y,B,D,G,bs];done)|simp [y,B,D,G]),trivial⟩,e,q,f⟩
     refine Zp (gP G) ?_;refine Ze (Xd rfl G rfl)<|Zo (Vw [vi (((dMulI ((trI ((mulI ((mulI ((mulI (pauM i) m).getD mZ) (pauM j)).getD mZ) p).getD mZ)).getD dZ) dHf).getD dZ).num.a),vi (((dMulI ((trI ((mulI ((mulI ((mulI (pauM i) m).getD mZ) (pauM j)).getD mZ) p).getD mZ)).getD dZ) dHf).getD dZ).num.b),vi (((dMulI ((trI ((mulI ((mulI ((mulI (pauM i) m).getD mZ) (pauM j)).getD mZ) p).getD mZ)).getD dZ) dHf).getD dZ).num.c),vi (((dMulI ((trI ((mulI ((mulI ((mulI (pauM i) m).getD mZ) (pauM j)).getD mZ) p).getD mZ)).getD dZ) dHf).getD dZ).num.d),vi (((dMulI ((trI ((mulI ((mulI ((mulI (pauM i) m).getD mZ) (pauM j)).getD mZ) p).getD mZ)).getD dZ) dHf).getD dZ).exp)] Xb e) ?_;rintro _ dL ⟨u,J⟩;have g:=e;have q:=q.only u (by omega);have f:=Below.only f u Q;have e:=J;refine Za rfl ?_;refine Zn fun a L=>?_;exact ⟨L.sub ⟨rfl,X2 rfl (by first|rfl|(simp only [y,B,D,G,bs];done)|simp [y,B,D,G]),trivial⟩,e,q,f⟩
    refine Zp (gP D) ?_;refine Ze (Xd rfl D rfl)<|Zm rfl<|Zp (gP rfl) ?_;refine Ze (Xd rfl rfl rfl)<|Zo (Vw [vi (((dMulI ((trI ((mulI ((mulI ((mulI (pauM i) m).getD mZ) (pauM j)).getD mZ) p).getD mZ)).getD dZ) dHf).getD dZ).num.a),vi (((dMulI ((trI ((mulI ((mulI ((mulI (pauM i) m).getD mZ) (pauM j)).getD mZ) p).getD mZ)).getD dZ) dHf).getD dZ).num.b),vi (((dMulI ((trI ((mulI ((mulI ((mulI (pauM i) m).getD mZ) (pauM j)).getD mZ) p).getD mZ)).getD dZ) dHf).getD dZ).num.c),vi (((dMulI ((trI ((mulI ((mulI ((mulI (pauM i) m).getD mZ) (pauM j)).getD mZ) p).getD mZ)).getD dZ) dHf).getD dZ).num.d),vi (((dMulI ((trI ((mulI ((mulI ((mulI (pauM i) m).getD mZ) (pauM j)).getD mZ) p).getD mZ)).getD dZ) dHf).getD dZ).exp)] Xb e) ?_;rintro _ dM ⟨u,J⟩;have g:=e;have q:=q.only u (by omega);have f:=Below.only f u Q;have e:=J;refine Za rfl ?_;refine Zn fun a L=>?_;exact ⟨L.sub ⟨rfl,X2 rfl (by first|rfl|(simp only [y,B,D,bs];done)|simp [y,B,D]),trivial⟩,e,q,f⟩
   refine Zp (gP B) ?_;refine Ze (Xd rfl B rfl)<|Zm rfl<|Zp (gP rfl) ?_;refine Ze (Xd rfl rfl rfl)<|Zm rfl<|Zp (gP rfl) ?_;refine Ze (Xd rfl rfl rfl)<|Zo (Vw [vi (((dMulI ((trI ((mulI ((mulI ((mulI (pauM i) m).getD mZ) (pauM j)).getD mZ) p).getD mZ)).getD dZ) dHf).getD dZ).num.a),vi (((dMulI ((trI ((mulI ((mulI ((mulI (pauM i) m).getD mZ) (pauM j)).getD mZ) p).getD mZ)).getD dZ) dHf).getD dZ).num.b),vi (((dMulI ((trI ((mulI ((mulI ((mulI (pauM i) m).getD mZ) (pauM j)).getD mZ) p).getD mZ)).getD dZ) dHf).getD dZ).num.c),vi (((dMulI ((trI ((mulI ((mulI ((mulI (pauM i) m).getD mZ) (pauM j)).getD mZ) p).getD mZ)).getD dZ) dHf).getD dZ).num.d),vi (((dMulI ((trI ((mulI ((mulI ((mulI (pauM i) m).getD mZ) (pauM j)).getD mZ) p).getD mZ)).getD dZ) dHf).getD dZ).exp)] Xb e) ?_;rintro _ dN ⟨u,J⟩;have g:=e;have q:=q.only u (by omega);have f:=Below.only f u Q;have e:=J;refine Za rfl ?_;refine Zn fun a L=>?_;exact ⟨L.sub ⟨rfl,X2 rfl (by first|rfl|(simp only [y,B,bs];done)|simp [y,B]),trivial⟩,e,q,f⟩
  refine Zp (gP y) ?_;refine Ze (Xd rfl y rfl)<|Zm rfl<|Zp (gP rfl) ?_;refine Ze (Xd rfl rfl rfl)<|Zm rfl<|Zp (gP rfl) ?_;refine Ze (Xd rfl rfl rfl)<|Zm rfl<|Zp (gP rfl) ?_;refine Ze (Xd rfl rfl rfl)<|Zo (Vw [vi (((dMulI ((trI ((mulI ((mulI ((mulI (pauM i) m).getD mZ) (pauM j)).getD mZ) p).getD mZ)).getD dZ) dHf).getD dZ).num.a),vi (((dMulI ((trI ((mulI ((mulI ((mulI (pauM i) m).getD mZ) (pauM j)).getD mZ) p).getD mZ)).getD dZ) dHf).getD dZ).num.b),vi (((dMulI ((trI ((mulI ((mulI ((mulI (pauM i) m).getD mZ) (pauM j)).getD mZ) p).getD mZ)).getD dZ) dHf).getD dZ).num.c),vi (((dMulI ((trI ((mulI ((mulI ((mulI (pauM i) m).getD mZ) (pauM j)).getD mZ) p).getD mZ)).getD dZ) dHf).getD dZ).num.d),vi (((dMulI ((trI ((mulI ((mulI ((mulI (pauM i) m).getD mZ) (pauM j)).getD mZ) p).getD mZ)).getD dZ) dHf).getD dZ).exp)] Xb e) ?_;rintro _ dP ⟨u,J⟩;have g:=e;have q:=q.only u (by omega);have f:=Below.only f u Q;have e:=J;refine Za rfl ?_;refine Zn fun a L=>?_;exact ⟨L.sub ⟨rfl,X2 rfl (by first|rfl|(simp only [y,bs];done)|simp [y]),trivial⟩,e,q,f⟩
 rintro a dQ ⟨L,e,q,f⟩;refine cC _ _ ?_
 refine Q6 (X4 L (X0s L rfl (ResV.cellN (l:=[vi (((dMulI ((trI ((mulI ((mulI ((mulI (pauM i) m).getD mZ) (pauM j)).getD mZ) p).getD mZ)).getD dZ) dHf).getD dZ).num.a),vi (((dMulI ((trI ((mulI ((mulI ((mulI (pauM i) m).getD mZ) (pauM j)).getD mZ) p).getD mZ)).getD dZ) dHf).getD dZ).num.b),vi (((dMulI ((trI ((mulI ((mulI ((mulI (pauM i) m).getD mZ) (pauM j)).getD mZ) p).getD mZ)).getD dZ) dHf).getD dZ).num.c),vi (((dMulI ((trI ((mulI ((mulI ((mulI (pauM i) m).getD mZ) (pauM j)).getD mZ) p).getD mZ)).getD dZ) dHf).getD dZ).num.d),vi (((dMulI ((trI ((mulI ((mulI ((mulI (pauM i) m).getD mZ) (pauM j)).getD mZ) p).getD mZ)).getD dZ) dHf).getD dZ).exp)]) rfl X6 (e.at 0) rfl) rfl) ?_)
 subst aZ
 have h9:=Xis b0 cK cM aC aD
 injection h9 with h91 h92
 exact ⟨by rw [← h91,← h92],f⟩
theorem Xia(W:World)(m:Mx)(Am:Option Addr)(cm:Nat)(G:Rd W W.heap.size 86 encD Am m.cells)(aM:m.cells.length≤2305843009213693951)(bZ:HalfT W) : Ret Tryz.prog 33 [.agg #[vi m.rows,vi m.cols,.slice Am m.cells.length cm]] W (fun v w=>∃ A c1,v=.tuple #[.agg #[.slice A ((blochI m).getD []).length c1],.bool ((blochI m).isSome)]∧Own w W.heap.size 86 5 encD A c1 ((blochI m).getD [])∧Below W.heap.size W w):=by
 refine enter Tryz.func33 rfl 47 rfl rfl ?_;intro a x
 have t:=bz W
 refine Zs x fun _ cA=>?_;refine Zf (X0b (zs:=[vi m.rows,vi m.cols,.slice Am m.cells.length cm]) rfl rfl) ?_;rintro _ w1 ⟨b3,rfl,cB,u,n⟩;have cM:=Q0 t.size cB;have t:=btr t u;refine Zf (X3 (zs:=[.slice none 0 0]) X23 rfl) ?_;rintro _ w2 ⟨b5,rfl,cC,u,f⟩;have aC:=Q0 t.size cC;have n:=n.below u;have t:=btr t u;refine Za rfl<|ZX cA fun a x _ cD=>?_;refine Zs x fun _ cE=>?_;refine Ze (Vn Xg n)<|Zf (Vc (Xyf _ m Am cm (G.below' t).top aM) Xpt) ?_;rintro _ w3 ⟨rfl,u⟩;have n:=n.below u;have f:=f.below u;have t:=btr t u;refine Ze (X0p rfl)<|Zt cE fun a x=>?_
 refine Xi x rfl (fun aD=>?_) (fun aD=>?_)
 ·have b0:=aD
  have cF:oneQ m=false:=by simpa using aD
  refine Zs x fun _ cG=>?_;refine Ze (Xf (ps:=[]) (cs:=[.slice none 0 0]) rfl (fun _=>by first|rfl|kernel_rfl))<|Zo (Vw [.slice none 0 0] X1l f) ?_;rintro _ w4 ⟨z,hb⟩;have q:=f;have t:=Below.only t z aC;have f:=hb;refine Za rfl<|Zt cG fun a x=>?_;refine Q6<|X8<|X4 x (X0s x rfl (ResV.cellN (l:=[.slice none 0 0]) rfl X16 (f.at 0) rfl) rfl) ?_
  have he:blochI m=none:=by rw [blochI,Q3 (by rw [cF];decide)]
  rw [he]
  exact ⟨none,0,rfl,(Own.nil _ _ _ _ _),t⟩
 have b0:=aD
 have aH:oneQ m=true:=by simpa using aD
 obtain ⟨_,cH,cP,cQ⟩:=X4a aH;refine Q7<|cD _ _<|Zs x fun _ b1=>?_;refine Ze (Vn Xg n)<|Zf (X0x (vs:=[.agg #[vi m.rows,vi m.cols,.slice Am m.cells.length cm]]) rfl Xim (by have hq:=Xsf w3 m Am cm (G.below' t).top aM;rw [Xc7 cH,Qq,Option.isSome_some] at hq;exact hq)) ?_;rintro _ w5 ⟨H,a9,rfl,e,u⟩;have e:=e.lower t.size;have n:=n.below u;have f:=f.below u;have t:=btr t u
 obtain ⟨B8,M⟩ : ∃ B8,B8=w5.heap.size:=⟨_,rfl⟩
 have p:B8≤w5.heap.size:=Nat.le_of_eq M
 have aL:W.heap.size≤B8:=by rw [M];exact t.size
 have e:=e.rd.top
 rw [← M] at e
 clear M;refine Zm rfl<|Ze (X1 (vs:=[.agg #[vi ((adjS m).rows),vi ((adjS m).cols),.slice H ((adjS m).cells).length a9],.bool true]) rfl rfl)<|Ze (X1 (vs:=[.agg #[vi ((adjS m).rows),vi ((adjS m).cols),.slice H ((adjS m).cells).length a9],.bool true]) rfl rfl)<|Zf (X3 (zs:=[vi 0,vi 0,.slice none 0 0]) X0n rfl) ?_;rintro _ w6 ⟨b14,rfl,b2,u,g⟩
 have b4:b3≠b14:=by have:=n.lt;omega
 have aN:=Q0 t.size b2;have n:=n.below u;have f:=f.below u;have e:=e.below u;have p:=Q0 p u.size;have t:=btr t u;refine Zo (Vw [vi ((adjS m).rows),vi ((adjS m).cols),.slice H ((adjS m).cells).length a9] Xt g) ?_;rintro _ w7 ⟨z,hb⟩;have q:=g;have n:=n.only z (by omega);have f:=f.only z (Blk.ne f q rfl);have e:=e.onlyT z q rfl;have p:=Q0 p (Nat.le_of_eq z.size.symm);have t:=Below.only t z aN;have g:=hb;refine Za rfl<|Zx b1 fun a x _ b6=>?_;refine Ze (Xf (ps:=[]) (cs:=[.slice none 0 0]) rfl (fun _=>by first|rfl|kernel_rfl))<|Zf (X3 (zs:=[.slice none 0 0]) X23 rfl) ?_;rintro _ w8 ⟨b18,rfl,b7,u,o⟩
 have b8:b5≠b18:=by have:=f.lt;omega
 have aE:=Q0 t.size b7;have n:=n.below u;have f:=f.below u;have g:=g.below u;have e:=e.below u;have p:=Q0 p u.size;have t:=btr t u;refine Zo (Vw [.slice none 0 0] X1l o) ?_;rintro _ w9 ⟨z,hb⟩;have q:=o;have n:=n.only z (Blk.ne n q rfl);have f:=f.only z (by omega);have g:=g.only z (Blk.ne g q rfl);have e:=e.onlyT z q rfl;have p:=Q0 p (Nat.le_of_eq z.size.symm);have t:=Below.only t z aE;have o:=hb;refine ZX b6 fun a x _ b9=>?_;refine Zs x fun _ bC=>?_;refine Zm rfl<|Zt bC fun a x=>?_;refine Q8<|X04 (σ:=Nat×(List Dy)) (fun (s:Nat×(List Dy)) (a:Act) (w:World)=>match s with|(i,l)=>∃ J L,Fr a 47 [(1,.pointer (some ⟨b3,0,none⟩)),(2,.pointer (some ⟨b5,0,none⟩)),(4,.pointer (some ⟨b14,0,none⟩)),(6,.pointer (some ⟨b18,0,none⟩)),(21,vi (i:Int))]∧(i≤3)∧(seqO (gridG (celB m) 3) (i*3)=some l)∧Blk w b3 32 [vi m.rows,vi m.cols,.slice Am m.cells.length cm]∧Blk w b5 66 [.slice none 0 0]∧Blk w b14 32 [vi ((adjS m).rows),vi ((adjS m).cols),.slice H ((adjS m).cells).length a9]∧Blk w b18 66 [.slice J l.length L]∧Rd w B8 86 encD H ((adjS m).cells)∧Own w B8 86 5 encD J L l∧B8≤w.heap.size∧Below W.heap.size W w) (fun (s:Nat×(List Dy))=>match s with|(i,l)=>3-i) (0,[]) ?_ ?_
 ·exact ⟨none,0,x.sb,(by omega),(by rw [Nat.zero_mul];rfl),n,f,g,o,e,(Own.nil _ _ _ _ _),p,t⟩
 rintro ⟨i,l⟩ a cR ⟨J,L,x,hi,hl,n,f,g,o,e,N,p,t⟩;refine Zs x fun _ bD=>?_;refine Ze (X19 rfl rfl)<|ZX bD fun a x _ bE=>?_
 refine Xi x rfl (fun h=>?_) (fun h=>?_)
 ·have aO:=h;have h:=Q2 h
  have aP:i<3:=by have:=h;omega
  refine Q7<|bE _ _<|Q5 fun _ bF=>?_;refine Q8<|Zs x fun _ bG=>?_;refine Zm rfl<|Za rfl<|Zx bG fun a x _ bH=>?_;refine Zm rfl<|Zt bH fun a x=>?_;refine Q8<|X04 (σ:=Nat×(List Dy)) (fun (s:Nat×(List Dy)) (a:Act) (w:World)=>match s with|(j,l2)=>∃ aI aJ,Fr a 47 [(1,.pointer (some ⟨b3,0,none⟩)),(2,.pointer (some ⟨b5,0,none⟩)),(4,.pointer (some ⟨b14,0,none⟩)),(6,.pointer (some ⟨b18,0,none⟩)),(7,vi (i:Int)),(21,vi (i:Int)),(24,vi (j:Int))]∧(j≤3)∧(seqO (gridG (celB m) 3) (i*3+j)=some l2)∧Blk w b3 32 [vi m.rows,vi m.cols,.slice Am m.cells.length cm]∧Blk w b5 66 [.slice none 0 0]∧Blk w b14 32 [vi ((adjS m).rows),vi ((adjS m).cols),.slice H ((adjS m).cells).length a9]∧Blk w b18 66 [.slice aI l2.length aJ]∧Rd w B8 86 encD H ((adjS m).cells)∧Own w B8 86 5 encD aI aJ l2∧B8≤w.heap.size∧Below W.heap.size W w) (fun (s:Nat×(List Dy))=>match s with|(j,l2)=>3-j) (0,l) ?_ ?_
  ·exact ⟨J,L,x.sb,(by omega),hl,n,f,g,o,e,N,p,t⟩
  rintro ⟨j,l2⟩ a cS ⟨aI,aJ,x,hj,aK,n,f,g,o,e,y,p,t⟩;refine Zs x fun _ bI=>?_;refine Ze (X19 rfl rfl)<|ZX bI fun a x _ bJ=>?_
  refine Xi x rfl (fun B=>?_) (fun B=>?_)
  ·have aQ:=B;have B:=Q2 B
   have aR:j<3:=by have:=B;omega
   have cO:=X36 aK;refine Q7<|bJ _ _<|Q5 fun _ bK=>?_;refine Q8<|Zs x fun _ bL=>?_;refine Zm rfl<|Za rfl<|Zx bL fun a x _ bM=>?_;refine Ze (Vn Xg n)<|Ze (Vn Xg g)<|Zm rfl<|Zm rfl<|Zf (Vc (Xwo _ m Am cm (G.below' t).top (adjS m) H a9 e.top i j aM aH rfl aP aR (bZ.of t)) Xng) ?_;rintro _ cU ⟨rfl,u⟩;have n:=n.below u;have f:=f.below u;have g:=g.below u;have o:=o.below u;have e:=e.below u;have y:=y.below u;have p:=Q0 p u.size;have t:=btr t u;refine Zm rfl<|Ze (X1 (vs:=[.agg #[vi (((celB m i j).getD dZ).num.a),vi (((celB m i j).getD dZ).num.b),vi (((celB m i j).getD dZ).num.c),vi (((celB m i j).getD dZ).num.d),vi (((celB m i j).getD dZ).exp)],.bool ((celB m i j).isSome)]) rfl rfl)<|Ze (X1 (vs:=[.agg #[vi (((celB m i j).getD dZ).num.a),vi (((celB m i j).getD dZ).num.b),vi (((celB m i j).getD dZ).num.c),vi (((celB m i j).getD dZ).num.d),vi (((celB m i j).getD dZ).exp)],.bool ((celB m i j).isSome)]) rfl rfl)<|Zf (X3 (zs:=[vi 0,vi 0,vi 0,vi 0,vi 0]) X0l rfl) ?_;rintro _ cV ⟨cJ,rfl,Q,u,C⟩;have aS:=Q0 t.size Q;have bN:=(G.below' t).away Q;have aA:=e.away Q;have E:=y.away Q;have n:=n.below u;have f:=f.below u;have g:=g.below u;have o:=o.below u;have e:=e.below u;have y:=y.below u;have p:=Q0 p u.size;have t:=btr t u;refine Zo (Vw [vi (((celB m i j).getD dZ).num.a),vi (((celB m i j).getD dZ).num.b),vi (((celB m i j).getD dZ).num.c),vi (((celB m i j).getD dZ).num.d),vi (((celB m i j).getD dZ).exp)] Xb C) ?_;rintro _ cW ⟨z,hb⟩;have q:=C;have n:=n.only z (Blk.ne n q rfl);have f:=f.only z (Blk.ne f q rfl)
   have g:=g.only z (Blk.ne g q rfl);have o:=o.only z (Blk.ne o q rfl);have e:=e.onlyA z aA;have y:=y.onlyA z E;have p:=Q0 p (Nat.le_of_eq z.size.symm);have t:=Below.only t z aS;have C:=hb;refine Za rfl<|ZX bM fun a x _ bO=>?_;refine Zs x fun _ bP=>?_;refine Zm rfl<|Ze (X0p rfl)<|Zt bP fun a x=>?_
   refine Xi x rfl (fun I=>?_) (fun I=>?_)
   ·have aT:=I
    have hn:gridG (celB m) 3 (i*3+j)=none:=by rw [X2v (by omega)];have h9:=I;revert h9;cases celB m i j<;>simp
    refine Zs x fun _ bQ=>?_;refine Ze (Xf (ps:=[]) (cs:=[.slice none 0 0]) rfl (fun _=>by first|rfl|kernel_rfl))<|Zo (Vw [.slice none 0 0] X1l f) ?_;rintro _ cX ⟨z,hb⟩;have q:=f;have p:=Q0 p (Nat.le_of_eq z.size.symm);have t:=Below.only t z aC;have f:=hb;refine Za rfl<|Zt bQ fun a x=>?_;refine Q6<|X8<|X00<|X8 ?_;refine X8<|X00<|X00<|X8 ?_;refine X8<|X00<|X8<|X4 x (X0s x rfl (ResV.cellN (l:=[.slice none 0 0]) rfl X16 (f.at 0) rfl) rfl) ?_
    have he:blochI m=none:=by rw [blochI,Q4 aH];exact X51 hn 9 (by omega)
    rw [he]
    exact ⟨none,0,rfl,(Own.nil _ _ _ _ _),t⟩
   have aT:=I
   have hx:gridG (celB m) 3 (i*3+j)=some ((celB m i j).getD dZ):=by rw [X2v (by omega)];have h9:=I;revert h9;cases celB m i j<;>simp
   refine Q7<|bO _ _<|Zr x<|Ze (Vd rfl X0v 0)<|Ze (X0 rfl X0c (o.at 0))<|Ze (Vn X6 C)<|Zf (X7 (k:=1) (vs:=[.agg #[vi (((celB m i j).getD dZ).num.a),vi (((celB m i j).getD dZ).num.b),vi (((celB m i j).getD dZ).num.c),vi (((celB m i j).getD dZ).num.d),vi (((celB m i j).getD dZ).exp)]]) (zs:=[vi (((celB m i j).getD dZ).num.a),vi (((celB m i j).getD dZ).num.b),vi (((celB m i j).getD dZ).num.c),vi (((celB m i j).getD dZ).num.d),vi (((celB m i j).getD dZ).exp)]) rfl Xs X0u rfl rfl) ?_;rintro _ d5 ⟨b41,rfl,U,u,aF⟩
   have aW:cJ≠b41:=by have:=C.lt;omega
   have cK:=Q0 t.size U;have bR:=(G.below' t).away U;have aX:=e.away U;have aB:=y.away U;have n:=n.below u;have f:=f.below u;have g:=g.below u;have o:=o.below u;have C:=C.below u;have e:=e.below u;have y:=y.below u;have p:=Q0 p u.size;have t:=btr t u;refine Zf (X0k (enc:=encD) (l:=(l2)) (l2:=([((celB m i j).getD dZ)])) (B0:=B8) rfl rfl Xs X0u Xw X28 y (Rd.of_blk aF rfl _ aF.lt) (by simp only [maxLen];simp;omega) (by simp;omega) p) ?_;rintro _ d6 ⟨bS,bU,rfl,aG,hg,aU⟩
   have D:Own _ B8 86 5 encD _ _ (l2):=y
   have aY:=aU _ C.lt E;have aZ:=aU _ aF.lt aB;clear aU;have n:=n.appT D hg rfl;have f:=f.appT D hg rfl;have g:=g.appT D hg rfl;have o:=o.appT D hg rfl;have e:=e.appB D hg (Qb _);have p:=Q0 p hg.size;have t:=Below.app t D hg aL t.size;clear D hg;refine Ze (Vd rfl X0v 0)<|Zo (Vw [.slice bS (l2++([((celB m i j).getD dZ)])).length bU] X3a o) ?_;rintro _ d7 ⟨z,hb⟩;have q:=o;have n:=n.only z (Blk.ne n q rfl);have f:=f.only z (by omega);have g:=g.only z (Blk.ne g q rfl);have e:=e.onlyT z q rfl;have aG:=aG.onlyT z q rfl;have p:=Q0 p (Nat.le_of_eq z.size.symm);have t:=Below.only t z aE;have o:=hb;refine Zn fun a x=>?_;refine Xk<|bK _ _<|Zr x<|Ze (X02 rfl rfl (by omega) (by omega))<|Zm rfl ?_;refine Zn fun a x=>?_;refine Xn ?_;exact ⟨(j+1,l2++[((celB m i j).getD dZ)]),⟨bS,bU,x.sb,(by omega),(X48 aK hx),n,f,g,o,e,aG,p,t⟩,(by first|omega|(dsimp only;omega))⟩
  have aQ:=B;have B:=Q1 B
  have aR:j=3:=by have:=B;omega
  refine Q9<|Xm<|Xm<|X06 ?_;refine Xk<|bF _ _<|Zr x<|Ze (X02 rfl rfl (by omega) (by omega))<|Zm rfl ?_;refine Zn fun a x=>?_;refine Xn ?_;exact ⟨(i+1,l2),⟨aI,aJ,x.sb,(by omega),(by rw [Wb,Nat.one_mul];rw [aR] at aK;exact aK),n,f,g,o,e,y,p,t⟩,(by first|omega|(dsimp only;omega))⟩
 have aO:=h;have h:=Q1 h
 have aP:i=3:=by have:=h;omega
 refine Q9<|Xm<|Xm<|X06 ?_;refine b9 _ _<|Zs x fun _ bW=>?_;refine Ze (Vn X16 o)<|Zo (Vw [.slice J l.length L] X1l f) ?_;rintro _ d8 ⟨z,hb⟩;have q:=f;have N:=N.onlyT z q rfl;have p:=Q0 p (Nat.le_of_eq z.size.symm);have t:=Below.only t z aC;have f:=hb;refine Za rfl<|Zt bW fun a x=>?_
 refine Q6 (X4 x (X0s x rfl (ResV.cellN (l:=[.slice J l.length L]) rfl X16 (f.at 0) rfl) rfl) ?_)
 have he:blochI m=some l:=by rw [blochI,Q4 aH];rw [aP] at hl;exact hl
 rw [he]
 exact ⟨J,L,rfl,Own.lower N aL,t⟩
theorem at9{l:List Dy}(h:l.length=9){i j:Nat}(hi:i<3)(hj:j<3) : l[3*i+j]? = some ((bm3 l).at i j):=by
 show _=some (l.getD (i*3+j) dZ)
 rw [Wi 3 i,Qa,Qc (by omega)];rfl
theorem Xcb{l:List Dy}{k:Nat}{u:Dy}(h:l[k]? = some u) : bexp (l.take (k+1))=max (bexp (l.take k)) u.exp:=by
 unfold bexp
 rw [Qt,h,List.foldl_append];rfl
def reaB(x:Dy) : Bool:=dOk x&&x.num.c==0&&x.num.d==wr (-x.num.b)
theorem X9j(a:List Dy) : (trB a).length=9:=X2o _ _ _
theorem Xn1(Q:World)(Ap:Option Addr)(cp:Nat)(p:List Dy)(H:Rd Q Q.heap.size 86 encD Ap p)(Aq:Option Addr)(cq:Nat)(q:List Dy)(I:Rd Q Q.heap.size 86 encD Aq q)(dH:p.length=9)(dI:q.length=9) : Ret Tryz.prog 72 [.slice Ap p.length cp,.slice Aq q.length cq] Q (fun v w=>∃ A c1,v=.tuple #[.slice A ((mulBI p q).getD []).length c1,.bool ((mulBI p q).isSome)]∧Own w Q.heap.size 86 5 encD A c1 ((mulBI p q).getD [])∧Below Q.heap.size Q w):=by
 refine enter Tryz.func72 rfl 65 rfl rfl ?_;intro a g
 have m:=bz Q
 refine Zs g fun _ dJ=>?_;refine Za rfl<|Za rfl<|Zx dJ fun a g _ dK=>?_;refine Zf (X7 (k:=0) (vs:=[]) (zs:=[]) rfl Xs X0u rfl rfl) ?_;rintro _ w1 ⟨b6,rfl,b5,o,dL⟩;have bU:=Q0 m.size b5;have dF:=(H.below' m).away b5;have dG:=(I.below' m).away b5;have m:=btr m o;refine Za rfl<|ZX dK fun a g _ dM=>?_;refine Zs g fun _ dN=>?_;refine Zm rfl<|Zt dN fun a g=>?_;refine Q8<|X04 (σ:=Nat×(List Dy)) (fun (s:Nat×(List Dy)) (a:Act) (w:World)=>match s with|(i,l)=>∃ aO aP,Fr a 65 [(0,.slice Ap p.length cp),(1,.slice Aq q.length cq),(6,.slice aO l.length aP),(16,vi (i:Int))]∧(i≤3)∧(seqO (gridG (fun i j=>dotI (bm3 p) (bm3 q) i j 3) 3) (i*3)=some l)∧Own w Q.heap.size 86 5 encD aO aP l∧Below Q.heap.size Q w) (fun (s:Nat×(List Dy))=>match s with|(i,l)=>3-i) (0,[]) ?_ ?_
 ·exact ⟨some ⟨b6,0,none⟩,0,g.sb,(by omega),(by rw [Nat.zero_mul];rfl),(Own.empty dL bU),m⟩
 rintro ⟨i,l⟩ a w2 ⟨aO,aP,g,hi,hl,b2,m⟩;refine Zs g fun _ bW=>?_;refine Ze (X19 rfl rfl)<|ZX bW fun a g _ bZ=>?_
 refine Xi g rfl (fun B=>?_) (fun B=>?_)
 ·have J:=B;have B:=Q2 B
  have b7:i<3:=by have:=B;omega
  refine Q7<|bZ _ _<|Q5 fun _ cA=>?_;refine Q8<|Zs g fun _ cB=>?_;refine Zm rfl<|Za rfl<|Zx cB fun a g _ cC=>?_;refine Zm rfl<|Zt cC fun a g=>?_;refine Q8<|X04 (σ:=Nat×(List Dy)) (fun (s:Nat×(List Dy)) (a:Act) (w:World)=>match s with|(j,l2)=>∃ U aB,Fr a 65 [(0,.slice Ap p.length cp),(1,.slice Aq q.length cq),(6,.slice U l2.length aB),(7,vi (i:Int)),(16,vi (i:Int)),(19,vi (j:Int))]∧(j≤3)∧(seqO (gridG (fun i j=>dotI (bm3 p) (bm3 q) i j 3) 3) (i*3+j)=some l2)∧Own w Q.heap.size 86 5 encD U aB l2∧Below Q.heap.size Q w) (fun (s:Nat×(List Dy))=>match s with|(j,l2)=>3-j) (0,l) ?_ ?_
  ·exact ⟨aO,aP,g.sb,(by omega),hl,b2,m⟩
  rintro ⟨j,l2⟩ a w3 ⟨U,aB,g,hj,b0,e,m⟩;refine Zs g fun _ cD=>?_;refine Ze (X19 rfl rfl)<|ZX cD fun a g _ cE=>?_
  refine Xi g rfl (fun C=>?_) (fun C=>?_)
  ·have L:=C;have C:=Q2 C
   have aQ:j<3:=by have:=C;omega
   have dX:=X36 b0;refine Q7<|cE _ _<|Q5 fun _ cF=>?_;refine Q8<|Zs g fun _ cG=>?_;refine Zm rfl<|Za rfl<|Zx cG fun a g _ cH=>?_;refine Ze (Xf (ps:=[]) (cs:=[vi 0,vi 0,vi 0,vi 0,vi 0]) rfl (fun _=>by first|rfl|kernel_rfl))<|Zf (X3 (zs:=[vi 0,vi 0,vi 0,vi 0,vi 0]) X0l rfl) ?_;rintro _ w4 ⟨M,rfl,aE,o,f⟩;have aR:=Q0 m.size aE;have G:=e.away aE;have cJ:=(H.below' m).away aE;have cK:=(I.below' m).away aE;have e:=e.below o;have m:=btr m o;refine Zo (Vw [vi 0,vi 0,vi 0,vi 0,vi 0] Xb f) ?_;rintro _ w5 ⟨ho,hb⟩;have aS:=f;have e:=e.onlyA ho G;have m:=Below.only m ho aR;have f:=hb;refine ZX cH fun a g _ cM=>?_;refine Zs g fun _ cO=>?_;refine Zm rfl<|Zt cO fun a g=>?_;refine Q8<|X04 (σ:=Nat×Dy) (fun (s:Nat×Dy) (a:Act) (w:World)=>match s with|(k,s)=>Fr a 65 [(0,.slice Ap p.length cp),(1,.slice Aq q.length cq),(6,.slice U l2.length aB),(7,vi (i:Int)),(8,vi (j:Int)),(9,.pointer (some ⟨M,0,none⟩)),(16,vi (i:Int)),(19,vi (j:Int)),(23,vi (k:Int))]∧(k≤3)∧(dotI (bm3 p) (bm3 q) i j k=some s)∧Blk w M 86 [vi s.num.a,vi s.num.b,vi s.num.c,vi s.num.d,vi s.exp]∧Own w Q.heap.size 86 5 encD U aB l2∧Below Q.heap.size Q w) (fun (s:Nat×Dy)=>match s with|(k,s)=>3-k) (0,dZ) ?_ ?_
   ·exact ⟨g.sb,(by omega),rfl,f,e,m⟩
   rintro ⟨k,s⟩ a w6 ⟨g,hk,hs,f,e,m⟩;refine Zs g fun _ cP=>?_;refine Ze (X19 rfl rfl)<|ZX cP fun a g _ cQ=>?_
   refine Xi g rfl (fun D=>?_) (fun D=>?_)
   ·have N:=D;have D:=Q2 D
    have b1:k<3:=by have:=D;omega
    refine Q7<|cQ _ _<|Q5 fun _ cR=>?_;refine Q8<|Zs g fun _ cS=>?_;refine Zm rfl<|Za rfl<|ZX cS fun a g _ cU=>?_;refine X09 (fun a w=>∃ t,Fr a 65 [(0,.slice Ap p.length cp),(1,.slice Aq q.length cq),(6,.slice U l2.length aB),(7,vi (i:Int)),(8,vi (j:Int)),(9,.pointer (some ⟨M,0,none⟩)),(11,.pointer (some ⟨t,0,none⟩)),(12,.bool ((dMulI ((bm3 p).at i k) ((bm3 q).at k j)).isSome)),(16,vi (i:Int)),(19,vi (j:Int)),(23,vi (k:Int))]∧Q.heap.size≤t∧Blk w t 86 [vi (((dMulI ((bm3 p).at i k) ((bm3 q).at k j)).getD dZ).num.a),vi (((dMulI ((bm3 p).at i k) ((bm3 q).at k j)).getD dZ).num.b),vi (((dMulI ((bm3 p).at i k) ((bm3 q).at k j)).getD dZ).num.c),vi (((dMulI ((bm3 p).at i k) ((bm3 q).at k j)).getD dZ).num.d),vi (((dMulI ((bm3 p).at i k) ((bm3 q).at k j)).getD dZ).exp)]∧M≠t∧Below w6.heap.size w6 w) ?_ ?_
    ·have x:Below w6.heap.size w6 w6:=Below.refl _ _
     refine Xy none (fun j=>[19].contains j) mixed ?_;intro w7 o;have f:=f.below o;have e:=e.below o;have m:=btr m o;have x:=btr x o;refine Yb g<|Yo 0 rfl (fun _=>Xa rfl)<|Yo 1 rfl (fun _=>Xa rfl)<|Yo 2 rfl (fun _=>X4r rfl rfl (by omega) (by omega))<|Yo 3 rfl (fun _=>Xa rfl)<|Yo 4 rfl (fun _=>X02 rfl rfl (by omega) (by omega))<|Yi (k:=(3*i+k)) (u:=((bm3 p).at i k)) (enc:=encD) (l:=p) 5 rfl trivial rfl rfl Xs Xb Xw (H.below' m) (at9 dH b7 b1) (by omega) ?_;intro dY b8;refine Ye 6 rfl (Xz (l:=[vi (((bm3 p).at i k).num.a),vi (((bm3 p).at i k).num.b),vi (((bm3 p).at i k).num.c),vi (((bm3 p).at i k).num.d),vi (((bm3 p).at i k).exp)]) rfl X6 b8 rfl)<|Yo 7 rfl (fun _=>Xa rfl)<|Yo 8 rfl (fun _=>Xa rfl)<|Yo 9 rfl (fun _=>X4r rfl rfl (by omega) (by omega))<|Yo 10 rfl (fun _=>Xa rfl)<|Yo 11 rfl (fun _=>X02 rfl rfl (by omega) (by omega))<|Yi (k:=(3*k+j)) (u:=((bm3 q).at k j)) (enc:=encD) (l:=q) 12 rfl trivial rfl rfl Xs Xb Xw (I.below' m) (at9 dI b1 aQ) (by omega) ?_;intro e8 b9;refine Ye 13 rfl (Xz (l:=[vi (((bm3 q).at k j).num.a),vi (((bm3 q).at k j).num.b),vi (((bm3 q).at k j).num.c),vi (((bm3 q).at k j).num.d),vi (((bm3 q).at k j).exp)]) rfl X6 b9 rfl) ?_
     have z:Below w7.heap.size w7 w7:=Below.refl _ _
     refine Yc [0,1,2,3,4,5,6,7,8,9,10,11,12,13,14,15,16,17,18] 2 (fun a w=>∃ t,Fr a 65 [(0,.slice Ap p.length cp),(1,.slice Aq q.length cq),(6,.slice U l2.length aB),(7,vi (i:Int)),(8,vi (j:Int)),(9,.pointer (some ⟨M,0,none⟩)),(11,.pointer (some ⟨t,0,none⟩)),(16,vi (i:Int)),(19,vi (j:Int)),(23,vi (k:Int)),(42,.agg #[vi (((dMulI ((bm3 p).at i k) ((bm3 q).at k j)).getD dZ).num.a),vi (((dMulI ((bm3 p).at i k) ((bm3 q).at k j)).getD dZ).num.b),vi (((dMulI ((bm3 p).at i k) ((bm3 q).at k j)).getD dZ).num.c),vi (((dMulI ((bm3 p).at i k) ((bm3 q).at k j)).getD dZ).num.d),vi (((dMulI ((bm3 p).at i k) ((bm3 q).at k j)).getD dZ).exp)]),(43,.bool ((dMulI ((bm3 p).at i k) ((bm3 q).at k j)).isSome))]∧Q.heap.size≤t∧Blk w t 86 [vi 0,vi 0,vi 0,vi 0,vi 0]∧M≠t∧w7.heap.size≤t∧w6.heap.size≤t∧Away U t∧AwayR p Ap t∧AwayR q Aq t∧Below w7.heap.size w7 w) ?_ ?_
     ·rintro a w8 ⟨t,g,aD,E,W,bC,bD,bN,cV,cW,o⟩;clear z;have z:=o;have m:=btr m o;have x:=btr x o;refine Yb g<|Y1 19<|Yh rfl trivial rfl (Vw [vi (((dMulI ((bm3 p).at i k) ((bm3 q).at k j)).getD dZ).num.a),vi (((dMulI ((bm3 p).at i k) ((bm3 q).at k j)).getD dZ).num.b),vi (((dMulI ((bm3 p).at i k) ((bm3 q).at k j)).getD dZ).num.c),vi (((dMulI ((bm3 p).at i k) ((bm3 q).at k j)).getD dZ).num.d),vi (((dMulI ((bm3 p).at i k) ((bm3 q).at k j)).getD dZ).exp)] Xb E) ?_;rintro _ w9 ⟨ho,hb⟩;have aS:=E;have x:=Below.only x ho bD;have z:=Below.only z ho bC;have m:=Below.only m ho aD;have E:=hb;refine Yo 20 rfl (fun _=>X0q rfl) ?_;refine Yd fun a g=>?_
      have dP:Below w6.heap.size w6 w9:=x
      exact ⟨t,g.sb,aD,E,W,dP⟩
     intro b3;refine Y2 14 18 ?_ ?_
     ·refine Yk rfl trivial (Vc (Xbc _ ((bm3 p).at i k) ((bm3 q).at k j)) X4w) (fun _ _ ⟨_,o⟩=>o) ?_;rintro _ eA ⟨rfl,o⟩;have f:=f.below o;have e:=e.below o;have m:=btr m o;have x:=btr x o;have z:=btr z o;refine Yo 15 rfl (fun _=>Xa rfl)<|Yo 16 rfl (fun _=>X1 (vs:=[.agg #[vi (((dMulI ((bm3 p).at i k) ((bm3 q).at k j)).getD dZ).num.a),vi (((dMulI ((bm3 p).at i k) ((bm3 q).at k j)).getD dZ).num.b),vi (((dMulI ((bm3 p).at i k) ((bm3 q).at k j)).getD dZ).num.c),vi (((dMulI ((bm3 p).at i k) ((bm3 q).at k j)).getD dZ).num.d),vi (((dMulI ((bm3 p).at i k) ((bm3 q).at k j)).getD dZ).exp)],.bool ((dMulI ((bm3 p).at i k) ((bm3 q).at k j)).isSome)]) rfl rfl)<|Yo 17 rfl (fun _=>X1 (vs:=[.agg #[vi (((dMulI ((bm3 p).at i k) ((bm3 q).at k j)).getD dZ).num.a),vi (((dMulI ((bm3 p).at i k) ((bm3 q).at k j)).getD dZ).num.b),vi (((dMulI ((bm3 p).at i k) ((bm3 q).at k j)).getD dZ).num.c),vi (((dMulI ((bm3 p).at i k) ((bm3 q).at k j)).getD dZ).num.d),vi (((dMulI ((bm3 p).at i k) ((bm3 q).at k j)).getD dZ).exp)],.bool ((dMulI ((bm3 p).at i k) ((bm3 q).at k j)).isSome)]) rfl rfl)<|Y1 18 ?_;refine Yk rfl trivial (X3 (zs:=[vi 0,vi 0,vi 0,vi 0,vi 0]) X0l rfl) (fun _ _ ⟨_,_,_,h,_⟩=>h) ?_;rintro _ eB ⟨b39,rfl,a9,o,cX⟩
      have aI:M≠b39:=by have:=f.lt;omega
      have bE:=Q0 m.size a9;have bF:=Q0 x.size a9;have bG:=Q0 z.size a9;have aJ:=e.away a9;have aT:=(H.below' m).away a9;have aU:=(I.below' m).away a9;have m:=btr m o;have x:=btr x o;have z:=btr z o;exact fun a g=>b3 _ a _ rfl ⟨b39,g.sb,bE,cX,aI,bG,bF,aJ,aT,aU,z⟩
     refine Yk rfl trivial (X3 (zs:=[vi 0,vi 0,vi 0,vi 0,vi 0]) X0l rfl) (fun _ _ ⟨_,_,_,h,_⟩=>h) ?_;rintro _ eC ⟨b40,rfl,aA,o,aW⟩
     have aK:M≠b40:=by have:=f.lt;omega
     have bH:=Q0 m.size aA;have bI:=Q0 x.size aA;have bJ:=Q0 z.size aA;have aL:=e.away aA;have aX:=(H.below' m).away aA;have aY:=(I.below' m).away aA;have m:=btr m o;have x:=btr x o;have z:=btr z o;refine Y1 14<|Yk rfl trivial (Vc (Xbc _ ((bm3 p).at i k) ((bm3 q).at k j)) X4w) (fun _ _ ⟨_,o⟩=>o) ?_;rintro _ eD ⟨rfl,o⟩;have aW:=aW.below o;have m:=btr m o;have x:=btr x o;have z:=btr z o;refine Yo 15 rfl (fun _=>Xa rfl)<|Yo 16 rfl (fun _=>X1 (vs:=[.agg #[vi (((dMulI ((bm3 p).at i k) ((bm3 q).at k j)).getD dZ).num.a),vi (((dMulI ((bm3 p).at i k) ((bm3 q).at k j)).getD dZ).num.b),vi (((dMulI ((bm3 p).at i k) ((bm3 q).at k j)).getD dZ).num.c),vi (((dMulI ((bm3 p).at i k) ((bm3 q).at k j)).getD dZ).num.d),vi (((dMulI ((bm3 p).at i k) ((bm3 q).at k j)).getD dZ).exp)],.bool ((dMulI ((bm3 p).at i k) ((bm3 q).at k j)).isSome)]) rfl rfl)<|Yo 17 rfl (fun _=>X1 (vs:=[.agg #[vi (((dMulI ((bm3 p).at i k) ((bm3 q).at k j)).getD dZ).num.a),vi (((dMulI ((bm3 p).at i k) ((bm3 q).at k j)).getD dZ).num.b),vi (((dMulI ((bm3 p).at i k) ((bm3 q).at k j)).getD dZ).num.c),vi (((dMulI ((bm3 p).at i k) ((bm3 q).at k j)).getD dZ).num.d),vi (((dMulI ((bm3 p).at i k) ((bm3 q).at k j)).getD dZ).exp)],.bool ((dMulI ((bm3 p).at i k) ((bm3 q).at k j)).isSome)]) rfl rfl) ?_;exact fun a g=>b3 _ a _ rfl ⟨b40,g.sb,bH,aW,aK,bJ,bI,aL,aX,aY,z⟩
    rintro a eE ⟨t,g,aD,E,W,o⟩;have f:=f.below o;have e:=e.below o;have m:=btr m o;refine cU _ _<|Zs g fun _ d5=>?_;refine Ze (Vn X6 f)<|Ze (Vn X6 E)<|Zf (Vc (Xnu _ s ((dMulI ((bm3 p).at i k) ((bm3 q).at k j)).getD dZ)) Xcp) ?_;rintro _ eF ⟨rfl,o⟩;have f:=f.below o;have E:=E.below o;have e:=e.below o;have m:=btr m o;refine Zm rfl<|Ze (X1 (vs:=[.agg #[vi (((dAddI s ((dMulI ((bm3 p).at i k) ((bm3 q).at k j)).getD dZ)).getD dZ).num.a),vi (((dAddI s ((dMulI ((bm3 p).at i k) ((bm3 q).at k j)).getD dZ)).getD dZ).num.b),vi (((dAddI s ((dMulI ((bm3 p).at i k) ((bm3 q).at k j)).getD dZ)).getD dZ).num.c),vi (((dAddI s ((dMulI ((bm3 p).at i k) ((bm3 q).at k j)).getD dZ)).getD dZ).num.d),vi (((dAddI s ((dMulI ((bm3 p).at i k) ((bm3 q).at k j)).getD dZ)).getD dZ).exp)],.bool ((dAddI s ((dMulI ((bm3 p).at i k) ((bm3 q).at k j)).getD dZ)).isSome)]) rfl rfl)<|Ze (X1 (vs:=[.agg #[vi (((dAddI s ((dMulI ((bm3 p).at i k) ((bm3 q).at k j)).getD dZ)).getD dZ).num.a),vi (((dAddI s ((dMulI ((bm3 p).at i k) ((bm3 q).at k j)).getD dZ)).getD dZ).num.b),vi (((dAddI s ((dMulI ((bm3 p).at i k) ((bm3 q).at k j)).getD dZ)).getD dZ).num.c),vi (((dAddI s ((dMulI ((bm3 p).at i k) ((bm3 q).at k j)).getD dZ)).getD dZ).num.d),vi (((dAddI s ((dMulI ((bm3 p).at i k) ((bm3 q).at k j)).getD dZ)).getD dZ).exp)],.bool ((dAddI s ((dMulI ((bm3 p).at i k) ((bm3 q).at k j)).getD dZ)).isSome)]) rfl rfl)<|Zf (X3 (zs:=[vi 0,vi 0,vi 0,vi 0,vi 0]) X0l rfl) ?_;rintro _ eH ⟨b42,rfl,aF,o,aG⟩
    have bO:M≠b42:=by have:=f.lt;omega
    have bP:t≠b42:=by have:=E.lt;omega
    have bK:=Q0 m.size aF;have aM:=e.away aF;have d6:=(H.below' m).away aF;have d7:=(I.below' m).away aF;have f:=f.below o;have e:=e.below o;have m:=btr m o;refine Zo (Vw [vi (((dAddI s ((dMulI ((bm3 p).at i k) ((bm3 q).at k j)).getD dZ)).getD dZ).num.a),vi (((dAddI s ((dMulI ((bm3 p).at i k) ((bm3 q).at k j)).getD dZ)).getD dZ).num.b),vi (((dAddI s ((dMulI ((bm3 p).at i k) ((bm3 q).at k j)).getD dZ)).getD dZ).num.c),vi (((dAddI s ((dMulI ((bm3 p).at i k) ((bm3 q).at k j)).getD dZ)).getD dZ).num.d),vi (((dAddI s ((dMulI ((bm3 p).at i k) ((bm3 q).at k j)).getD dZ)).getD dZ).exp)] Xb aG) ?_;rintro _ dQ ⟨ho,hb⟩;have aS:=aG;have f:=f.only ho (by omega);have e:=e.onlyA ho aM;have m:=Below.only m ho bK;have aG:=hb;refine Za rfl<|ZX d5 fun a g _ d8=>?_;refine Q5 fun _ d9=>?_;refine X09 (fun a w=>Fr a 65 [(0,.slice Ap p.length cp),(1,.slice Aq q.length cq),(6,.slice U l2.length aB),(7,vi (i:Int)),(8,vi (j:Int)),(9,.pointer (some ⟨M,0,none⟩)),(13,.pointer (some ⟨b42,0,none⟩)),(16,vi (i:Int)),(19,vi (j:Int)),(23,vi (k:Int)),(55,.bool ((!((dMulI ((bm3 p).at i k) ((bm3 q).at k j)).isSome))||(!((dAddI s ((dMulI ((bm3 p).at i k) ((bm3 q).at k j)).getD dZ)).isSome))))]∧dQ=w) ?_ ?_
    ·refine Zr g<|Zm rfl<|Ze (X0p rfl)<|Zm rfl ?_
     refine Zg 52 rfl (fun y=>?_) (fun y=>?_)
     ·refine Zp (gP y) ?_;refine Zp (gP y) ?_;refine Ze (Xh rfl y rfl) ?_;refine Zn fun a g=>?_;exact ⟨g.sub ⟨rfl,rfl,rfl,rfl,rfl,rfl,rfl,rfl,rfl,rfl,X2 rfl (by first|rfl|(simp only [J,L,N,y,bs];done)|simp [J,L,N,y]),trivial⟩,rfl⟩
     refine Zv (gW y) (Xa rfl) ?_;refine Zv (gW y) (X0p rfl) ?_;refine Ze (Xd rfl y rfl) ?_;refine Zn fun a g=>?_;exact ⟨g.sub ⟨rfl,rfl,rfl,rfl,rfl,rfl,rfl,rfl,rfl,rfl,X2 rfl (by first|rfl|(simp only [J,L,N,y,bs];done)|simp [J,L,N,y]),trivial⟩,rfl⟩
    rintro a _ ⟨g,rfl⟩;refine d9 _ _ ?_
    refine Xi g rfl (fun aC=>?_) (fun aC=>?_)
    ·have bL:=aC;have hn:=X5a aC
     have dR:dotI (bm3 p) (bm3 q) i j (k+1)=none:=by rw [dotI,hs];simp only [Qz];revert hn;cases dMulI ((bm3 p).at i k) ((bm3 q).at k j)<;>simp
     have dS:=X6z dR 3 (by omega)
     refine Zs g fun _ dA=>?_;refine Za rfl<|Za rfl<|Zt dA fun a g=>?_;refine Q6<|X8<|X00<|X8 ?_;refine X8<|X00<|X8<|X00 ?_;refine X8<|X8<|X00<|X00 ?_;refine X8<|X8<|X00<|X8 ?_;refine X4 g (X0s g rfl rfl rfl) ?_
     have he:mulBI p q=none:=X51 (n:=i*3+j) (by rw [X2v aQ];exact dS) 9 (by omega)
     rw [he]
     exact ⟨none,0,rfl,(Own.nil _ _ _ _ _),m⟩
    have bL:=aC;have hy:=X69 aC;refine Q7<|d8 _ _<|Zr g<|Ze (Vn X6 aG)<|Zo (Vw [vi (((dAddI s ((dMulI ((bm3 p).at i k) ((bm3 q).at k j)).getD dZ)).getD dZ).num.a),vi (((dAddI s ((dMulI ((bm3 p).at i k) ((bm3 q).at k j)).getD dZ)).getD dZ).num.b),vi (((dAddI s ((dMulI ((bm3 p).at i k) ((bm3 q).at k j)).getD dZ)).getD dZ).num.c),vi (((dAddI s ((dMulI ((bm3 p).at i k) ((bm3 q).at k j)).getD dZ)).getD dZ).num.d),vi (((dAddI s ((dMulI ((bm3 p).at i k) ((bm3 q).at k j)).getD dZ)).getD dZ).exp)] Xb f) ?_;rintro _ eI ⟨ho,hb⟩;have aS:=f;have e:=e.onlyA ho G;have m:=Below.only m ho aR;have f:=hb;refine Zn fun a g=>?_;refine Xk<|cR _ _<|Zr g<|Ze (X02 rfl rfl (by omega) (by omega))<|Zm rfl ?_;refine Zn fun a g=>?_;refine Xn ?_;exact ⟨(k+1,((dAddI s ((dMulI ((bm3 p).at i k) ((bm3 q).at k j)).getD dZ)).getD dZ)),⟨g.sb,(by omega),(by rw [dotI,hs];simp only [Qz];revert hy;cases dMulI ((bm3 p).at i k) ((bm3 q).at k j)<;>simp;intro hy;revert hy;cases dAddI s _<;>simp),f,e,m⟩,(by first|omega|(dsimp only;omega))⟩
   have N:=D;have D:=Q1 D
   have b1:k=3:=by have:=D;omega
   have hx:gridG (fun i j=>dotI (bm3 p) (bm3 q) i j 3) 3 (i*3+j)=some s:=by rw [X2v aQ,← hs,b1]
   refine Q9<|Xm<|Xm<|X06 ?_;refine cM _ _<|Zr g<|Zm rfl<|Ze (Vn X6 f)<|Zf (X7 (k:=1) (vs:=[.agg #[vi s.num.a,vi s.num.b,vi s.num.c,vi s.num.d,vi s.exp]]) (zs:=[vi s.num.a,vi s.num.b,vi s.num.c,vi s.num.d,vi s.exp]) rfl Xs X0u rfl rfl) ?_;rintro _ eJ ⟨b49,rfl,aH,o,aZ⟩
   have bQ:M≠b49:=by have:=f.lt;omega
   have dT:=Q0 m.size aH;have aN:=e.away aH;have dB:=(H.below' m).away aH;have dC:=(I.below' m).away aH;have f:=f.below o;have e:=e.below o;have m:=btr m o;refine Zf (X0k (enc:=encD) (l:=(l2)) (l2:=([s])) (B0:=Q.heap.size) rfl rfl Xs X0u Xw X28 e (Rd.of_blk aZ rfl _ aZ.lt) (by simp only [maxLen];simp;omega) (by simp;omega) m.size) ?_;rintro _ eK ⟨dU,dW,rfl,dD,hg,bM⟩
   have b4:Own _ Q.heap.size 86 5 encD _ _ (l2):=e
   have bR:=bM _ f.lt G;have bS:=bM _ aZ.lt aN;clear bM;have m:=Below.app m b4 hg (Qb _) m.size;clear b4 hg;refine Za rfl ?_;refine Zn fun a g=>?_;refine Xk<|cF _ _<|Zr g<|Ze (X02 rfl rfl (by omega) (by omega))<|Zm rfl ?_;refine Zn fun a g=>?_;refine Xn ?_;exact ⟨(j+1,l2++[s]),⟨dU,dW,g.sb,(by omega),(X48 b0 hx),dD,m⟩,(by first|omega|(dsimp only;omega))⟩
  have L:=C;have C:=Q1 C
  have aQ:j=3:=by have:=C;omega
  refine Q9<|Xm<|Xm<|X06 ?_;refine Xk<|cA _ _<|Zr g<|Ze (X02 rfl rfl (by omega) (by omega))<|Zm rfl ?_;refine Zn fun a g=>?_;refine Xn ?_;exact ⟨(i+1,l2),⟨U,aB,g.sb,(by omega),(by rw [Wb,Nat.one_mul];rw [aQ] at b0;exact b0),e,m⟩,(by first|omega|(dsimp only;omega))⟩
 have J:=B;have B:=Q1 B
 have b7:i=3:=by have:=B;omega
 refine Q9<|Xm<|Xm<|X06 ?_;refine dM _ _<|Zs g fun _ dE=>?_;refine Zm rfl<|Za rfl<|Za rfl<|Zt dE fun a g=>?_
 refine Q6 (X4 g (X0s g rfl rfl rfl) ?_)
 have he:mulBI p q=some l:=by rw [b7] at hl;exact hl
 rw [he]
 exact ⟨aO,aP,rfl,b2,m⟩
theorem Xse(o:World)(Ap:Option Addr)(cp:Nat)(p:List Dy)(t:Rd o o.heap.size 86 encD Ap p)(aW:p.length=9) : Ret Tryz.prog 73 [.slice Ap p.length cp] o (fun v w=>∃ A c,v=.slice A (trB p).length c∧Own w o.heap.size 86 5 encD A c (trB p)∧Below o.heap.size o w):=by
 refine enter Tryz.func73 rfl 26 rfl rfl ?_;intro a e
 have m:=bz o
 refine Zs e fun _ aX=>?_;refine Za rfl<|Zx aX fun a e _ aY=>?_;refine Zf (X7 (k:=0) (vs:=[]) (zs:=[]) rfl Xs X0u rfl rfl) ?_;rintro _ w1 ⟨b5,rfl,aE,hE,aZ⟩;have aF:=Q0 m.size aE;have aU:=(t.below' m).away aE;have m:=btr m hE;refine Za rfl<|ZX aY fun a e _ b0=>?_;refine Zs e fun _ b1=>?_;refine Zm rfl<|Zt b1 fun a e=>?_;refine Q8<|X04 (σ:=Nat×(List Dy)) (fun (s:Nat×(List Dy)) (a:Act) (w:World)=>match s with|(i,l)=>∃ A9 c9,Fr a 26 [(0,.slice Ap p.length cp),(3,.slice A9 l.length c9),(7,vi (i:Int))]∧(i≤3)∧(gridL (fun i j=>(bm3 p).at j i) 3 (i*3)=l)∧Own w o.heap.size 86 5 encD A9 c9 l∧Below o.heap.size o w) (fun (s:Nat×(List Dy))=>match s with|(i,l)=>3-i) (0,[]) ?_ ?_
 ·exact ⟨some ⟨b5,0,none⟩,0,e.sb,(by omega),rfl,(Own.empty aZ aF),m⟩
 rintro ⟨i,l⟩ a w2 ⟨A9,c9,e,hi,hl,aG,m⟩;refine Zs e fun _ aH=>?_;refine Ze (X19 rfl rfl)<|ZX aH fun a e _ aI=>?_
 refine Xi e rfl (fun f=>?_) (fun f=>?_)
 ·have a9:=f;have f:=Q2 f
  have aA:i<3:=by have:=f;omega
  refine Q7<|aI _ _<|Q5 fun _ aJ=>?_;refine Q8<|Zs e fun _ aK=>?_;refine Zm rfl<|Za rfl<|Zx aK fun a e _ aL=>?_;refine Zm rfl<|Zt aL fun a e=>?_;refine Q8<|X04 (σ:=Nat×(List Dy)) (fun (s:Nat×(List Dy)) (a:Act) (w:World)=>match s with|(j,l2)=>∃ z h,Fr a 26 [(0,.slice Ap p.length cp),(3,.slice z l2.length h),(4,vi (i:Int)),(7,vi (i:Int)),(10,vi (j:Int))]∧(j≤3)∧(gridL (fun i j=>(bm3 p).at j i) 3 (i*3+j)=l2)∧Own w o.heap.size 86 5 encD z h l2∧Below o.heap.size o w) (fun (s:Nat×(List Dy))=>match s with|(j,l2)=>3-j) (0,l) ?_ ?_
  ·exact ⟨A9,c9,e.sb,(by omega),hl,aG,m⟩
  rintro ⟨j,l2⟩ a w3 ⟨z,h,e,hj,B,n,m⟩;refine Zs e fun _ aM=>?_;refine Ze (X19 rfl rfl)<|ZX aM fun a e _ aN=>?_
  refine Xi e rfl (fun g=>?_) (fun g=>?_)
  ·have aB:=g;have g:=Q2 g
   have C:j<3:=by have:=g;omega
   have b6:l2.length=i*3+j:=by rw [← B,X2o]
   refine Q7<|aN _ _<|Q5 fun _ aO=>?_;refine Q8<|Zs e fun _ aP=>?_;refine Zm rfl<|Za rfl<|Zt aP fun a e=>?_;refine Zr e<|Zm rfl<|Zm rfl<|Zm rfl<|Ze (X4r rfl rfl (by omega) (by omega))<|Zm rfl<|Ze (X02 rfl rfl (by omega) (by omega))<|Zi (k:=(3*j+i)) (u:=((bm3 p).at j i)) (enc:=encD) (l:=p) trivial rfl rfl Xs Xb Xw (t.below' m) (at9 aW C aA) (by omega) ?_;intro b7 aC;refine Ze (Xz (l:=[vi (((bm3 p).at j i).num.a),vi (((bm3 p).at j i).num.b),vi (((bm3 p).at j i).num.c),vi (((bm3 p).at j i).num.d),vi (((bm3 p).at j i).exp)]) rfl X6 aC rfl)<|Zf (X7 (k:=1) (vs:=[.agg #[vi (((bm3 p).at j i).num.a),vi (((bm3 p).at j i).num.b),vi (((bm3 p).at j i).num.c),vi (((bm3 p).at j i).num.d),vi (((bm3 p).at j i).exp)]]) (zs:=[vi (((bm3 p).at j i).num.a),vi (((bm3 p).at j i).num.b),vi (((bm3 p).at j i).num.c),vi (((bm3 p).at j i).num.d),vi (((bm3 p).at j i).exp)]) rfl Xs X0u rfl rfl) ?_;rintro _ w4 ⟨b8,rfl,x,hE,y⟩;have b2:=Q0 m.size x;have q:=n.away x;have aQ:=(t.below' m).away x;have n:=n.below hE;have m:=btr m hE;refine Zf (X0k (enc:=encD) (l:=(l2)) (l2:=([((bm3 p).at j i)])) (B0:=o.heap.size) rfl rfl Xs X0u Xw X28 n (Rd.of_blk y rfl _ y.lt) (by simp only [maxLen];simp;omega) (by simp;omega) m.size) ?_;rintro _ w5 ⟨b3,b4,rfl,aR,hg,aS⟩
   have D:Own _ o.heap.size 86 5 encD _ _ (l2):=n
   have aD:=aS _ y.lt q;clear aS;have m:=Below.app m D hg (Qb _) m.size;clear D hg;refine Za rfl ?_;refine Zn fun a e=>?_;refine Xk<|aO _ _<|Zr e<|Ze (X02 rfl rfl (by omega) (by omega))<|Zm rfl ?_;refine Zn fun a e=>?_;refine Xn ?_;exact ⟨(j+1,l2++[((bm3 p).at j i)]),⟨b3,b4,e.sb,(by omega),(by rw [X78 C,B]),aR,m⟩,(by first|omega|(dsimp only;omega))⟩
  have aB:=g;have g:=Q1 g
  have C:j=3:=by have:=g;omega
  refine Q9<|Xm<|Xm<|X06 ?_;refine Xk<|aJ _ _<|Zr e<|Ze (X02 rfl rfl (by omega) (by omega))<|Zm rfl ?_;refine Zn fun a e=>?_;refine Xn ?_;exact ⟨(i+1,l2),⟨z,h,e.sb,(by omega),(by rw [Wb,Nat.one_mul];rw [C] at B;exact B),n,m⟩,(by first|omega|(dsimp only;omega))⟩
 have a9:=f;have f:=Q1 f
 have aA:i=3:=by have:=f;omega
 refine Q9<|Xm<|Xm<|X06 ?_;refine b0 _ _<|Zs e fun _ aT=>?_;refine Zm rfl<|Za rfl<|Zt aT fun a e=>?_
 refine Q6 (X4 e (Xp e rfl rfl) ?_)
 have he:trB p=l:=by rw [aA] at hl;exact hl
 rw [he]
 exact ⟨A9,c9,rfl,aG,m⟩
theorem Xez(m:World)(Ap:Option Addr)(cp:Nat)(p:List Dy)(n:Rd m m.heap.size 86 encD Ap p)(aR:p.length≤9) : Ret Tryz.prog 34 [.agg #[.slice Ap p.length cp]] m (fun v w=>v=vi (bexp p)∧Below m.heap.size m w):=by
 refine enter Tryz.func34 rfl 19 rfl rfl ?_;intro a f
 have i:=bz m
 refine Zs f fun _ aH=>?_;refine Zf (X0b (zs:=[.slice Ap p.length cp]) rfl rfl) ?_;rintro _ w1 ⟨b3,rfl,aI,hE,aJ⟩;have aP:=Q0 i.size aI;have i:=btr i hE;refine Za rfl<|Zx aH fun a f _ aK=>?_;refine Za rfl<|ZX aK fun a f _ aL=>?_;refine Zs f fun _ aM=>?_;refine Ze (Vd rfl X0v 0)<|Ze (X0 rfl X0c (aJ.at 0))<|Ze (X22 rfl Xs)<|Zm rfl<|Zt aM fun a f=>?_;refine Q8<|X04 (σ:=Nat) (fun (k:Nat) (a:Act) (w:World)=>Fr a 19 [(3,vi (bexp (p.take k))),(7,.slice Ap p.length cp),(8,vi (p.length:Int)),(9,vi (k:Int))]∧(k≤p.length)∧Below m.heap.size m w) (fun (k:Nat)=>p.length-k) 0 ?_ ?_
 ·exact ⟨f.sb,(Qf _),i⟩
 rintro k a w2 ⟨f,hk,i⟩;refine Zs f fun _ aN=>?_;refine Ze (X19 rfl rfl)<|ZX aN fun a f _ aO=>?_
 refine Xi f rfl (fun g=>?_) (fun g=>?_)
 ·have aB:=g;have g:=Q2 g
  obtain ⟨e,o⟩:=Xr (l:=p) (k:=k) (by omega)
  refine Q7<|aO _ _<|Q5 fun _ aC=>?_;refine Q8<|Zs f fun _ aD=>?_;refine Zi (k:=k) (u:=e) (enc:=encD) (l:=p) trivial rfl rfl Xs Xb Xw (n.below' i) o rfl ?_;intro aS a9;refine Ze (Xz (l:=[vi e.num.a,vi e.num.b,vi e.num.c,vi e.num.d,vi e.exp]) rfl X6 a9 rfl)<|Zf (X3 (zs:=[vi 0,vi 0,vi 0,vi 0,vi 0]) X0l rfl) ?_;rintro _ w3 ⟨aT,rfl,q,hE,j⟩;have aA:=Q0 i.size q;have aE:=(n.below' i).away q;have i:=btr i hE;refine Zo (Vw [vi e.num.a,vi e.num.b,vi e.num.c,vi e.num.d,vi e.exp] Xb j) ?_;rintro _ w4 ⟨ho,hb⟩;have aQ:=j;have i:=Below.only i ho aA;have j:=hb;refine Zt aD fun a f=>?_;refine Zr f<|Zm rfl<|Ze (Vd rfl X11 4)<|Ze (X0 rfl X9 (j.at 4))<|Ze (Vx (Xvs rfl rfl) (Xcb o).symm)<|Za rfl ?_;refine Zn fun a f=>?_;refine Xk<|aC _ _<|Zr f<|Ze (X02 rfl rfl (by omega) (by omega))<|Zm rfl ?_;refine Zn fun a f=>?_;refine Xn ?_;exact ⟨k+1,⟨f.sb,(by omega),i⟩,(by omega)⟩
 have aB:=g;have g:=Q1 g
 have aF:bexp (p.take k)=bexp p:=by rw [Qi (by omega)]
 refine Q9<|Xm<|Xm<|X06 ?_;refine aL _ _<|Zs f fun _ aG=>?_;refine Zm rfl<|Za rfl<|Zt aG fun a f=>?_
 refine Q6 (X4 f (Xp f rfl rfl) ?_)
 exact ⟨by rw [aF],i⟩
theorem Xz3(w0:World)(x:Dy) : Ret Tryz.prog 126 [.agg #[vi x.num.a,vi x.num.b,vi x.num.c,vi x.num.d,vi x.exp]] w0 (fun v w=>v=.bool (reaB x)∧Below w0.heap.size w0 w):=by
 refine enter Tryz.func126 rfl 21 rfl rfl ?_;intro a i
 have l:=bz w0
 refine Zs i fun _ a9=>?_;refine Zf (X0b (zs:=[vi x.num.a,vi x.num.b,vi x.num.c,vi x.num.d,vi x.exp]) rfl rfl) ?_;rintro _ w1 ⟨b2,rfl,aA,hE,g⟩;have aC:=Q0 l.size aA;have l:=btr l hE;refine Za rfl<|ZX a9 fun a i _ aB=>?_;refine X09 (fun a w=>Fr a 21 [(2,.bool (((dOk x)&&(x.num.c==0))&&(x.num.d==(wr (-x.num.b)))))]∧Below w1.heap.size w1 w) ?_ ?_
 ·have j:Below w1.heap.size w1 w1:=Below.refl _ _
  refine Zr i<|Ze (Vn X6 g)<|Zf (Vc (Xbi _ x) X4z) ?_;rintro _ w2 ⟨rfl,hE⟩;have g:=g.below hE;have l:=btr l hE;have j:=btr j hE;refine Zm rfl ?_
  refine Zg 5 rfl (fun f=>?_) (fun f=>?_)
  ·refine Zv (gW f) (Vd rfl X1b 0) ?_;refine Zv (gW f) (Vd rfl X0g 2) ?_;refine Zv (gW f) (X0 rfl X9 (g.at 2)) ?_;refine Zv (gW f) (X15 rfl rfl) ?_;refine Ze (Xh rfl f rfl)<|Zm rfl ?_
   refine Zg 11 rfl (fun e=>?_) (fun e=>?_)
   ·refine Zv (gW e) (Vd rfl X1b 0) ?_;refine Zv (gW e) (Vd rfl X0e 3) ?_;refine Zv (gW e) (X0 rfl X9 (g.at 3)) ?_;refine Zv (gW e) (Vd rfl X1b 0) ?_;refine Zv (gW e) (Vd rfl X0d 1) ?_;refine Zv (gW e) (X0 rfl X9 (g.at 1)) ?_;refine Zv (gW e) (X8k rfl) ?_;refine Zv (gW e) (X15 rfl rfl) ?_;refine Ze (Xh rfl e rfl)<|Za rfl ?_;refine Zn fun a i=>?_
    have k:Below w1.heap.size w1 w2:=j
    exact ⟨i.sub ⟨X2 rfl (by first|rfl|(simp only [f,e,bs];done)|simp [f,e]),trivial⟩,k⟩
   refine Zp (gP e) ?_;refine Zp (gP e) ?_;refine Zp (gP e) ?_;refine Zp (gP e) ?_;refine Zp (gP e) ?_;refine Zp (gP e) ?_;refine Zp (gP e) ?_;refine Zp (gP e) ?_;refine Ze (Xd rfl e rfl)<|Za rfl ?_;refine Zn fun a i=>?_
   have k:Below w1.heap.size w1 w2:=j
   exact ⟨i.sub ⟨X2 rfl (by first|rfl|(simp only [f,e,bs];done)|simp [f,e]),trivial⟩,k⟩
  refine Zp (gP f) ?_;refine Zp (gP f) ?_;refine Zp (gP f) ?_;refine Zp (gP f) ?_;refine Ze (Xd rfl f rfl)<|Zm rfl<|Zp (gP rfl) ?_;refine Zp (gP rfl) ?_;refine Zp (gP rfl) ?_;refine Zp (gP rfl) ?_;refine Zp (gP rfl) ?_;refine Zp (gP rfl) ?_;refine Zp (gP rfl) ?_;refine Zp (gP rfl) ?_;refine Ze (Xd rfl rfl rfl)<|Za rfl ?_;refine Zn fun a i=>?_
  have k:Below w1.heap.size w1 w2:=j
  exact ⟨i.sub ⟨X2 rfl (by first|rfl|(simp only [f,bs];done)|simp [f]),trivial⟩,k⟩
 rintro a w3 ⟨i,hE⟩;have l:=btr l hE;refine aB _ _ ?_
 refine Q6 (X4 i (Xp i rfl rfl) ?_)
 exact ⟨by simp [reaB, *],l⟩
theorem Xzw(w0:World)(x:Dy) : Ret Tryz.prog 125 [.agg #[vi x.num.a,vi x.num.b,vi x.num.c,vi x.num.d,vi x.exp]] w0 (fun v w=>v=.bool (!reaB x)∧Below w0.heap.size w0 w):=by
 refine enter Tryz.func125 rfl 6 rfl rfl ?_;intro a hf
 have hW:=bz w0
 refine Zs hf fun _ a9=>?_;refine Zf (X0b (zs:=[vi x.num.a,vi x.num.b,vi x.num.c,vi x.num.d,vi x.exp]) rfl rfl) ?_;rintro _ w1 ⟨b2,rfl,aA,hE,aB⟩;have aD:=Q0 hW.size aA;have hW:=btr hW hE;refine Za rfl<|Zx a9 fun a hf _ aC=>?_;refine Ze (Vn X6 aB)<|Zf (Vc (Xz3 _ x) Xpu) ?_;rintro _ w2 ⟨rfl,hE⟩;have hW:=btr hW hE;refine Ze (X0p rfl)<|Za rfl<|Zt aC fun a hf=>?_
 refine Q6 (X4 hf (Xp hf rfl rfl) ?_)
 exact ⟨rfl,hW⟩
def rSub(x y:Rg) : Rg:=⟨wr (x.a-y.a),wr (x.b-y.b),wr (x.c-y.c),wr (x.d-y.d)⟩
def dSubI(x y:Dy) : Option Dy:=
 if (dOk x&&dOk y)=true then
  if ((dRaise x (max x.exp y.exp)).2&&(dRaise y (max x.exp y.exp)).2&&rIf2 (rSub (dRaise x (max x.exp y.exp)).1 (dRaise y (max x.exp y.exp)).1) [(dRaise x (max x.exp y.exp)).1,(dRaise y (max x.exp y.exp)).1])=true then
   dOf (rIf1 (rSub (dRaise x (max x.exp y.exp)).1 (dRaise y (max x.exp y.exp)).1) [(dRaise x (max x.exp y.exp)).1,(dRaise y (max x.exp y.exp)).1]) (max x.exp y.exp)
  else none
 else none
def Tri(a:Int) : Prop:=-1≤a∧a≤1
theorem Xo0:((List.range 5).all fun i=>(List.range 5).all fun j=>decide (dMulI (dO ((i:Int)-2) 0) (dO ((j:Int)-2) 0)=some (dO (((i:Int)-2)*((j:Int)-2)) 0)))=true:=by kernel_rfl
theorem Xp8:((List.range 13).all fun i=>(List.range 13).all fun j=>decide (dAddI (dO ((i:Int)-6) 0) (dO ((j:Int)-6) 0)=some (dO (((i:Int)-6)+((j:Int)-6)) 0))&&decide (dSubI (dO ((i:Int)-6) 0) (dO ((j:Int)-6) 0)=some (dO (((i:Int)-6)-((j:Int)-6)) 0)))=true:=by kernel_rfl
theorem Xzr{a b:Int}(ha:-2≤a∧a≤2)(hb:-2≤b∧b≤2) : dMulI (dO a 0) (dO b 0)=some (dO (a*b) 0):=by
 have h:=Xo0
 simp only [W1,W2,Qr] at h
 have:=h (a+2).toNat (by omega) (b+2).toNat (by omega)
 rwa [show (((a+2).toNat:Nat) : Int)-2=a by omega,show (((b+2).toNat:Nat) : Int)-2=b by omega] at this
theorem Xto{a b:Int}(ha:-6≤a∧a≤6)(hb:-6≤b∧b≤6) : dAddI (dO a 0) (dO b 0)=some (dO (a+b) 0)∧dSubI (dO a 0) (dO b 0)=some (dO (a-b) 0):=by
 have h:=Xp8
 simp only [W1,W2,Qd,Qr] at h
 have:=h (a+6).toNat (by omega) (b+6).toNat (by omega)
 rwa [show (((a+6).toNat:Nat) : Int)-6=a by omega,show (((b+6).toNat:Nat) : Int)-6=b by omega] at this
theorem X8d{a b:Int}(ha:Tri a)(hb:Tri b) : Tri (a*b):=by
 unfold Tri at *
 have h1:a = -1∨a=0∨a=1:=by omega
 rcases h1 with rfl|rfl|rfl<;>omega
theorem Xho{a b:Int}(ha:Tri a)(hb:Tri b) : dMulI (dO a 0) (dO b 0)=some (dO (a*b) 0):=Xzr (by unfold Tri at ha;omega) (by unfold Tri at hb;omega)
theorem Xo5{a b c d:Int}(ha:Tri a)(hd:Tri d)(hb:Tri b)(hc:Tri c) : dSubI (dO (a*d) 0) (dO (b*c) 0)=some (dO (a*d-b*c) 0):=by
 have h1:=X8d ha hd;have h2:=X8d hb hc
 unfold Tri at h1 h2
 exact (Xto (by omega) (by omega)).2
structure SmB (q:List Int) : Prop where
 len:q.length=9
 tri:∀ n,Tri (q.getD n 0)
theorem SmB.blen{q:List Int}(h:SmB q) : (intB q).length=9:=by simp [intB,h.len]
theorem SmB.get{q:List Int}(h:SmB q){n:Nat}(hn:n<9) : (intB q)[n]? = some (dO (q.getD n 0) 0):=by
 have:=h.len
 rw [intB,List.getElem?_map,Qa,Qc (by omega)];rfl
def rstN(q:List Int)(k:Nat) : Nat→List Int
 | 0=>[]
 | j+1=>if j=k then rstN q k j else rstN q k j++[q.getD (3+j) 0,q.getD (6+j) 0]
theorem Xml{q:List Int}{k j:Nat}(h:j≠k) : intB (rstN q k j)++[dO (q.getD (3+j) 0) 0,dO (q.getD (6+j) 0) 0]=intB (rstN q k (j+1)):=by
 rw [rstN,Q3 h];simp [intB]
theorem Xmd{q:List Int}{k j:Nat}(h:j=k) : intB (rstN q k j)=intB (rstN q k (j+1)):=by rw [rstN,Q4 h]
theorem Xtd(q:List Int)(k j:Nat) : (intB (rstN q k j)).length≤2*j:=by
 induction j with
 | zero=>exact Qf _
 | succ j ih=>
  rw [rstN]
  split
  ·omega
  ·simp [intB] at ih ⊢;omega
def eN(q:List Int)(k n:Nat) : Int:=(rstN q k 3).getD n 0
theorem Xi2{q:List Int}{k:Nat}(h:k<3) : (intB (rstN q k 3)).length=4:=by
 rcases lt3 h with rfl|rfl|rfl<;>rfl
theorem X9y{q:List Int}(_:SmB q){k:Nat}(h:k<3){n:Nat}(hn:n<4) : (intB (rstN q k 3))[n]? = some (dO (eN q k n) 0):=by
 have hl:(rstN q k 3).length=4:=by have:=Xi2 (q:=q) h;simpa [intB] using this
 rw [intB,List.getElem?_map,eN,Qa,Qc (by omega)];rfl
theorem X3x{q:List Int}(hS:SmB q){k:Nat}(h:k<3){n:Nat}(hn:n<4) : Tri (eN q k n):=by
 have hn':n=0∨n=1∨n=2∨n=3:=by omega
 rcases lt3 h with rfl|rfl|rfl<;>rcases hn' with rfl|rfl|rfl|rfl<;>exact hS.tri _
def mnN(q:List Int)(k:Nat) : Int:=eN q k 0*eN q k 3-eN q k 2*eN q k 1
def dtN(q:List Int) : Nat→Int
 | 0=>0
 | k+1=>if k=1 then dtN q k-q.getD k 0*mnN q k else dtN q k+q.getD k 0*mnN q k
theorem Xn7{q:List Int}(hS:SmB q){k:Nat}(h:k<3) : -2≤mnN q k∧mnN q k≤2:=by
 have h1:=X8d (X3x hS h (show 0<4 by decide)) (X3x hS h (show 3<4 by decide))
 have h2:=X8d (X3x hS h (show 2<4 by decide)) (X3x hS h (show 1<4 by decide))
 unfold Tri at h1 h2
 unfold mnN
 omega
theorem Xgi{q:List Int}(hS:SmB q){k:Nat}(h:k<3) : -2≤q.getD k 0*mnN q k∧q.getD k 0*mnN q k≤2:=by
 have h1:=Xn7 hS h;have h2:=hS.tri k
 unfold Tri at h2
 have h3:q.getD k 0 = -1∨q.getD k 0=0∨q.getD k 0=1:=by omega
 rcases h3 with e|e|e<;>rw [e]<;>omega
theorem Xm6{q:List Int}(hS:SmB q) : ∀ k:Nat,k≤3→-(2*(k:Int))≤dtN q k∧dtN q k≤2*(k:Int):=fun k=>by
 induction k with
 | zero=>exact fun _=>⟨Int.le_refl _,Int.le_refl _⟩
 | succ k ih=>
  intro hk
  have h1:=ih (by omega)
  have h2:=Xgi hS (show k<3 by omega)
  rw [dtN]
  split<;>omega
theorem Xii{q:List Int}(hS:SmB q){k:Nat}(h:k<3) : dMulI (dO (q.getD k 0) 0) (dO (eN q k 0*eN q k 3-eN q k 2*eN q k 1) 0)=some (dO (q.getD k 0*mnN q k) 0):=by
 have h2:=hS.tri k
 unfold Tri at h2
 exact Xzr (by omega) (Xn7 hS h)
theorem Xr7{q:List Int}(hS:SmB q){k:Nat}(h:k<3)(h1:k≠1) : dAddI (dO (dtN q k) 0) (dO (q.getD k 0*mnN q k) 0)=some (dO (dtN q (k+1)) 0):=by
 have a:=Xm6 hS k (by omega)
 have b:=Xgi hS h
 rw [(Xto (by omega) (by omega)).1,dtN,Q3 h1]
theorem Xpk{q:List Int}(hS:SmB q){k:Nat}(h:k<3)(h1:k=1) : dSubI (dO (dtN q k) 0) (dO (q.getD k 0*mnN q k) 0)=some (dO (dtN q (k+1)) 0):=by
 have a:=Xm6 hS k (by omega)
 have b:=Xgi hS h
 rw [(Xto (by omega) (by omega)).2,dtN,Q4 h1]
def qN9(k:Nat) : List Int:=clN.getD k []
theorem Xy0:((List.range 24).all fun k=>(qN9 k).length==9&&(qN9 k).all (fun x=>decide (-1≤x∧x≤1))&&decide (dtN (qN9 k) 3=1)&&!((clB k).any fun x=>!reaB x))=true:=by kernel_rfl
theorem Xhp{k:Nat}(hk:k<24) : SmB (qN9 k)∧dtN (qN9 k) 3=1∧((clB k).any fun x=>!reaB x)=false:=by
 have h1:=W1.1 Xy0 k (W2.2 hk)
 simp only [Qd,beq_iff_eq,Qr,Bool.not_eq_true'] at h1
 obtain ⟨⟨⟨h2,h3⟩,h4⟩,h5⟩:=h1
 refine ⟨⟨h2,fun n=>?_⟩,h4,h5⟩
 rw [W1] at h3
 rw [Qa]
 cases e:(qN9 k)[n]? with
 | none=>exact ⟨by decide,by decide⟩
 | some x=>
  have:=h3 x (Qe e)
  simpa [Tri] using this
theorem Xwy:((List.range 24).all fun k=>(trB (clB k)).all dOk&&(List.range 3).all fun i=>(List.range 3).all fun j=>decide ((bm3 (trB (clB k))).at i j=dO (rbN k j i) 0)&&decide (rbN k i 0*rbN k j 0+rbN k i 1*rbN k j 1+rbN k i 2*rbN k j 2=rbN 0 i j))=true:=by kernel_rfl
theorem Xqi{k:Nat}(hk:k<24) : mulBI (clB k) (trB (clB k))=some (clB 0):=by
 have h1:=W1.1 Xwy k (W2.2 hk)
 simp only [Qd,W1,W2,Qr] at h1
 obtain ⟨h2,h3⟩:=h1;have hv:=X6m hk
 have ht:BV (trB (clB k)) 0 (fun i j=>zI (rbN k j i)):=⟨X9j _,h2,fun i j hi hj=>by rw [(h3 i hi j hj).1];exact X7k rfl rfl⟩
 have hz:∀ a b:Int,zI a*zI b=zI (a*b):=fun a b=>by apply X0o<;>simp [X2q,X32,X3b,X3c,zI]
 have hz2:∀ a b:Int,zI a+zI b=zI (a+b):=fun a b=>rfl
 have ho:∀ i j,i<3→j<3→∃ x,dotI (bm3 (clB k)) (bm3 (trB (clB k))) i j 3=some x:=fun i j hi hj=>X8o hv ht (by decide) (R:=16) (by decide) hi hj fun n hn=>by
  have hs:=(Xhp hk).1.tri
  have t1:Tri (rbN k i n):=hs _
  have t2:Tri (rbN k j n):=hs _
  have t3:=X8d t1 t2
  show qN (zI _*zI _)≤16
  rw [hz]
  unfold Tri at t3
  have h5:rbN k i n*rbN k j n = -1∨rbN k i n*rbN k j n=0∨rbN k i n*rbN k j n=1:=by omega
  rcases h5 with e|e|e<;>rw [e]<;>decide
 obtain ⟨r,hr⟩ : ∃ r,mulBI (clB k) (trB (clB k))=some r:=X6s 9 fun n hn=>ho (n/3) (n % 3) (by omega) (by omega)
 rw [hr]
 have hb:=Xdw hr hv ht
 rw [Xn5 hb (X6m (show 0<24 by decide)) fun i j hi hj=>?_]
 show s2^0*(zI _*zI _+zI _*zI _+zI _*zI _)=s2^(0+0)*zI _
 rw [hz,hz,hz,hz2,hz2,(h3 i hi j hj).2]
theorem Xyv:((List.range 9).all fun n=>decide ((clB 0)[n]? = some (dO (if n % 4=0 then 1 else 0) 0)))=true:=by kernel_rfl
theorem Xwf{n:Nat}(hn:n<9) : (clB 0)[n]? = some (dO (if n % 4=0 then 1 else 0) 0):=by
 have h1:=W1.1 Xyv n (W2.2 hn)
 simpa using h1
theorem Xt7{n:Nat}(hn:n<9) : dO (if n % 4=0 then 1 else 0) 0=(⟨⟨if ((n:Int).tmod 4==0)=true then 1 else 0,0,0,0⟩,0⟩ : Dy):=by
 have h:n=0∨n=1∨n=2∨n=3∨n=4∨n=5∨n=6∨n=7∨n=8:=by omega
 rcases h with rfl|rfl|rfl|rfl|rfl|rfl|rfl|rfl|rfl<;>rfl
theorem Xyh(w0:World)(x:Rg)(y:Rg) : Ret Tryz.prog 189 [.agg #[vi x.a,vi x.b,vi x.c,vi x.d],.agg #[vi y.a,vi y.b,vi y.c,vi y.d]] w0 (fun v w=>v=.tuple #[rV (rIf1 (rSub x y) [x,y]),.bool (rIf2 (rSub x y) [x,y])]∧Below w0.heap.size w0 w):=by
 refine enter Tryz.func189 rfl 33 rfl rfl ?_;intro a hf
 have i:=bz w0
 refine Zs hf fun _ aH=>?_;refine Zf (X0b (zs:=[vi x.a,vi x.b,vi x.c,vi x.d]) rfl rfl) ?_;rintro _ w1 ⟨b2,rfl,aI,j,e⟩;have aN:=Q0 i.size aI;have i:=btr i j;refine Zf (X0b (zs:=[vi y.a,vi y.b,vi y.c,vi y.d]) rfl rfl) ?_;rintro _ w2 ⟨b3,rfl,aJ,j,f⟩
 have aB:b2≠b3:=by have:=e.lt;omega
 have aO:=Q0 i.size aJ;have e:=e.below j;have i:=btr i j;refine Zf (X3 (zs:=[vi 0,vi 0,vi 0,vi 0]) X1w rfl) ?_;rintro _ w3 ⟨b4,rfl,aK,j,g⟩
 have aC:b2≠b4:=by have:=e.lt;omega
 have aD:b3≠b4:=by have:=f.lt;omega
 have a9:=Q0 i.size aK;have e:=e.below j;have f:=f.below j;have i:=btr i j;refine Za rfl<|Zx aH fun a hf _ aL=>?_;refine Ze (Vd rfl X0h 0)<|Ze (X0 rfl X9 (e.at 0))<|Ze (Vd rfl X0h 0)<|Ze (X0 rfl X9 (f.at 0))<|Ze (X44 rfl rfl)<|Ze (Vd rfl X0d 1)<|Ze (X0 rfl X9 (e.at 1))<|Ze (Vd rfl X0d 1)<|Ze (X0 rfl X9 (f.at 1))<|Ze (X44 rfl rfl) ?_;refine Ze (Vd rfl X0g 2)<|Ze (X0 rfl X9 (e.at 2))<|Ze (Vd rfl X0g 2)<|Ze (X0 rfl X9 (f.at 2))<|Ze (X44 rfl rfl)<|Ze (Vd rfl X0e 3)<|Ze (X0 rfl X9 (e.at 3))<|Ze (Vd rfl X0e 3)<|Ze (X0 rfl X9 (f.at 3))<|Ze (X44 rfl rfl) ?_;refine Ze (Xf (ps:=[(0,vi (wr (x.a-y.a))),(1,vi (wr (x.b-y.b))),(2,vi (wr (x.c-y.c))),(3,vi (wr (x.d-y.d)))]) (cs:=[vi (wr (x.a-y.a)),vi (wr (x.b-y.b)),vi (wr (x.c-y.c)),vi (wr (x.d-y.d))]) rfl (fun _=>by first|rfl|kernel_rfl))<|Ze (Vn Xx e)<|Ze (Vn Xx f)<|Zf (X7 (k:=2) (vs:=[.agg #[vi x.a,vi x.b,vi x.c,vi x.d],.agg #[vi y.a,vi y.b,vi y.c,vi y.d]]) (zs:=[vi x.a,vi x.b,vi x.c,vi x.d,vi y.a,vi y.b,vi y.c,vi y.d]) rfl X4v X4t rfl rfl) ?_;rintro _ w4 ⟨b6,rfl,aM,j,aA⟩
 have aE:b2≠b6:=by have:=e.lt;omega
 have aF:b3≠b6:=by have:=f.lt;omega
 have aG:b4≠b6:=by have:=g.lt;omega
 have aP:=Q0 i.size aM;have g:=g.below j;have i:=btr i j;refine Zf (Vc (Xj2 _ (⟨wr (x.a-y.a),wr (x.b-y.b),wr (x.c-y.c),wr (x.d-y.d)⟩ : Rg) (some ⟨b6,0,none⟩) 2 ([x,y]) (Rd.of_blk aA rfl _ aA.lt) rfl (by simp) (by simp)) X8x) ?_;rintro _ w5 ⟨rfl,j⟩;have g:=g.below j;have i:=btr i j;refine Ze (X1 (vs:=[.agg #[vi ((rIf1 (⟨wr (x.a-y.a),wr (x.b-y.b),wr (x.c-y.c),wr (x.d-y.d)⟩ : Rg) ([x,y])).a),vi ((rIf1 (⟨wr (x.a-y.a),wr (x.b-y.b),wr (x.c-y.c),wr (x.d-y.d)⟩ : Rg) ([x,y])).b),vi ((rIf1 (⟨wr (x.a-y.a),wr (x.b-y.b),wr (x.c-y.c),wr (x.d-y.d)⟩ : Rg) ([x,y])).c),vi ((rIf1 (⟨wr (x.a-y.a),wr (x.b-y.b),wr (x.c-y.c),wr (x.d-y.d)⟩ : Rg) ([x,y])).d)],.bool (rIf2 (⟨wr (x.a-y.a),wr (x.b-y.b),wr (x.c-y.c),wr (x.d-y.d)⟩ : Rg) ([x,y]))]) rfl rfl)<|Ze (X1 (vs:=[.agg #[vi ((rIf1 (⟨wr (x.a-y.a),wr (x.b-y.b),wr (x.c-y.c),wr (x.d-y.d)⟩ : Rg) ([x,y])).a),vi ((rIf1 (⟨wr (x.a-y.a),wr (x.b-y.b),wr (x.c-y.c),wr (x.d-y.d)⟩ : Rg) ([x,y])).b),vi ((rIf1 (⟨wr (x.a-y.a),wr (x.b-y.b),wr (x.c-y.c),wr (x.d-y.d)⟩ : Rg) ([x,y])).c),vi ((rIf1 (⟨wr (x.a-y.a),wr (x.b-y.b),wr (x.c-y.c),wr (x.d-y.d)⟩ : Rg) ([x,y])).d)],.bool (rIf2 (⟨wr (x.a-y.a),wr (x.b-y.b),wr (x.c-y.c),wr (x.d-y.d)⟩ : Rg) ([x,y]))]) rfl rfl)<|Zo (Vw [vi ((rIf1 (⟨wr (x.a-y.a),wr (x.b-y.b),wr (x.c-y.c),wr (x.d-y.d)⟩ : Rg) ([x,y])).a),vi ((rIf1 (⟨wr (x.a-y.a),wr (x.b-y.b),wr (x.c-y.c),wr (x.d-y.d)⟩ : Rg) ([x,y])).b),vi ((rIf1 (⟨wr (x.a-y.a),wr (x.b-y.b),wr (x.c-y.c),wr (x.d-y.d)⟩ : Rg) ([x,y])).c),vi ((rIf1 (⟨wr (x.a-y.a),wr (x.b-y.b),wr (x.c-y.c),wr (x.d-y.d)⟩ : Rg) ([x,y])).d)] X0t g) ?_;rintro _ w6 ⟨ho,hb⟩;have aQ:=g;have i:=Below.only i ho a9;have g:=hb;refine Za rfl<|Zt aL fun a hf=>?_
 refine Q6 (X4 hf (X0s hf rfl (ResV.cellN (l:=[vi ((rIf1 (⟨wr (x.a-y.a),wr (x.b-y.b),wr (x.c-y.c),wr (x.d-y.d)⟩ : Rg) ([x,y])).a),vi ((rIf1 (⟨wr (x.a-y.a),wr (x.b-y.b),wr (x.c-y.c),wr (x.d-y.d)⟩ : Rg) ([x,y])).b),vi ((rIf1 (⟨wr (x.a-y.a),wr (x.b-y.b),wr (x.c-y.c),wr (x.d-y.d)⟩ : Rg) ([x,y])).c),vi ((rIf1 (⟨wr (x.a-y.a),wr (x.b-y.b),wr (x.c-y.c),wr (x.d-y.d)⟩ : Rg) ([x,y])).d)]) rfl Xx (g.at 0) rfl) rfl) ?_)
 exact ⟨rfl,i⟩
theorem Y16(w0:World)(x:Dy)(y:Dy) : Ret Tryz.prog 168 [.agg #[vi x.num.a,vi x.num.b,vi x.num.c,vi x.num.d,vi x.exp],.agg #[vi y.num.a,vi y.num.b,vi y.num.c,vi y.num.d,vi y.exp],.func (.func 189) #[] #[]] w0 (fun v w=>v=.tuple #[dV ((dSubI x y).getD dZ),.bool ((dSubI x y).isSome)]∧Below w0.heap.size w0 w):=by
 refine enter Tryz.func168 rfl 64 rfl rfl ?_;intro a k
 have f:=bz w0
 refine Zs k fun _ aX=>?_;refine Zf (X0b (zs:=[vi x.num.a,vi x.num.b,vi x.num.c,vi x.num.d,vi x.exp]) rfl rfl) ?_;rintro _ w1 ⟨b2,rfl,aY,g,q⟩;have bC:=Q0 f.size aY;have f:=btr f g;refine Zf (X0b (zs:=[vi y.num.a,vi y.num.b,vi y.num.c,vi y.num.d,vi y.exp]) rfl rfl) ?_;rintro _ w2 ⟨b3,rfl,aZ,g,m⟩
 have aT:b2≠b3:=by have:=q.lt;omega
 have bD:=Q0 f.size aZ;have q:=q.below g;have f:=btr f g;refine Zf (X3 (zs:=[vi 0,vi 0,vi 0,vi 0,vi 0]) X0l rfl) ?_;rintro _ w3 ⟨b4,rfl,b0,g,e⟩
 have aU:b2≠b4:=by have:=q.lt;omega
 have aW:b3≠b4:=by have:=m.lt;omega
 have C:=Q0 f.size b0;have q:=q.below g;have m:=m.below g;have f:=btr f g;refine Za rfl<|ZX aX fun a k _ b1=>?_;refine Q5 fun _ b5=>?_;refine X09 (fun a w=>Fr a 64 [(2,.func (.func 189) #[] #[]),(3,.pointer (some ⟨b2,0,none⟩)),(4,.pointer (some ⟨b3,0,none⟩)),(6,.pointer (some ⟨b4,0,none⟩)),(22,.bool ((!(dOk x))||(!(dOk y))))]∧Below w3.heap.size w3 w) ?_ ?_
 ·have B:Below w3.heap.size w3 w3:=Below.refl _ _
  refine Zr k<|Ze (Vn X6 q)<|Zf (Vc (Xbi _ x) X4z) ?_;rintro _ w4 ⟨rfl,g⟩;have m:=m.below g;have f:=btr f g;have B:=btr B g;refine Ze (X0p rfl)<|Zm rfl ?_
  refine Zg 18 rfl (fun p=>?_) (fun p=>?_)
  ·refine Zp (gP p) ?_;refine Zp (gP p) ?_;refine Zp (gP p) ?_;refine Ze (Xh rfl p rfl) ?_;refine Zn fun a k=>?_
   have a9:Below w3.heap.size w3 w4:=B
   exact ⟨k.sub ⟨rfl,rfl,rfl,rfl,X2 rfl (by first|rfl|(simp only [p,bs];done)|simp [p]),trivial⟩,a9⟩
  refine Zv (gW p) (Vn X6 m) ?_;refine Zk (gW p) (Vc (Xbi _ y) X4z) ?_;rintro _ w5 ⟨rfl,g⟩;have f:=btr f g;have B:=btr B g;refine Zv (gW p) (X0p rfl) ?_;refine Ze (Xd rfl p rfl) ?_;refine Zn fun a k=>?_
  have a9:Below w3.heap.size w3 w5:=B
  exact ⟨k.sub ⟨rfl,rfl,rfl,rfl,X2 rfl (by first|rfl|(simp only [p,bs];done)|simp [p]),trivial⟩,a9⟩
 rintro a w6 ⟨k,g⟩;have q:=q.below g;have m:=m.below g;have e:=e.below g;have f:=btr f g;refine b5 _ _ ?_
 refine Xi k rfl (fun D=>?_) (fun D=>?_)
 ·have t:=D
  have hn:(dOk x&&dOk y)=false:=by revert D;cases dOk x<;>cases dOk y<;>simp
  refine Zs k fun _ b6=>?_;refine Ze (Xf (ps:=[]) (cs:=[vi 0,vi 0,vi 0,vi 0,vi 0]) rfl (fun _=>by first|rfl|kernel_rfl))<|Zo (Vw [vi 0,vi 0,vi 0,vi 0,vi 0] Xb e) ?_;rintro _ w7 ⟨h,E⟩;have o:=e;have f:=Below.only f h C;have e:=E;refine Za rfl<|Zt b6 fun a k=>?_;refine Q6<|X8<|X4 k (X0s k rfl (ResV.cellN (l:=[vi 0,vi 0,vi 0,vi 0,vi 0]) rfl X6 (e.at 0) rfl) rfl) ?_;exact ⟨by rw [dSubI,hn];rfl,f⟩
 have t:=D
 have hy:(dOk x&&dOk y)=true:=by revert D;cases dOk x<;>cases dOk y<;>simp
 have hx:=X1u (Qd _ _▸hy:dOk x=true∧dOk y=true).1;have hz:=X1u (Qd _ _▸hy:dOk x=true∧dOk y=true).2;refine Q7<|b1 _ _<|Zs k fun _ aH=>?_;refine Ze (Vd rfl X11 4)<|Ze (X0 rfl X9 (q.at 4))<|Ze (Vd rfl X11 4)<|Ze (X0 rfl X9 (m.at 4))<|Ze (Xvs rfl rfl)<|Za rfl<|Zx aH fun a k _ aI=>?_;refine Ze (Vn X6 q)<|Zm rfl<|Zf (Vc (Xpp _ x (max x.exp y.exp) (by omega) (by omega) (by omega)) Xd3) ?_;rintro _ w8 ⟨rfl,g⟩;have m:=m.below g;have e:=e.below g;have f:=btr f g;refine Zm rfl<|Ze (X1 (vs:=[.agg #[vi (((dRaise x (max x.exp y.exp)).1).a),vi (((dRaise x (max x.exp y.exp)).1).b),vi (((dRaise x (max x.exp y.exp)).1).c),vi (((dRaise x (max x.exp y.exp)).1).d)],.bool ((dRaise x (max x.exp y.exp)).2)]) rfl rfl)<|Ze (X1 (vs:=[.agg #[vi (((dRaise x (max x.exp y.exp)).1).a),vi (((dRaise x (max x.exp y.exp)).1).b),vi (((dRaise x (max x.exp y.exp)).1).c),vi (((dRaise x (max x.exp y.exp)).1).d)],.bool ((dRaise x (max x.exp y.exp)).2)]) rfl rfl)<|Zf (X3 (zs:=[vi 0,vi 0,vi 0,vi 0]) X1w rfl) ?_;rintro _ w9 ⟨aJ,rfl,aK,g,i⟩;have aA:=Q0 f.size aK;have m:=m.below g;have e:=e.below g;have f:=btr f g;refine Zo (Vw [vi (((dRaise x (max x.exp y.exp)).1).a),vi (((dRaise x (max x.exp y.exp)).1).b),vi (((dRaise x (max x.exp y.exp)).1).c),vi (((dRaise x (max x.exp y.exp)).1).d)] X0t i) ?_;rintro _ bE ⟨h,E⟩;have o:=i;have m:=m.only h (Blk.ne m o rfl);have e:=e.only h (Blk.ne e o rfl);have f:=Below.only f h aA;have i:=E;refine Za rfl<|Zx aI fun a k _ aL=>?_;refine Ze (Vn X6 m)<|Zm rfl<|Zf (Vc (Xpp _ y (max x.exp y.exp) (by omega) (by omega) (by omega)) Xd3) ?_;rintro _ bF ⟨rfl,g⟩
 have e:=e.below g;have i:=i.below g;have f:=btr f g;refine Zm rfl<|Ze (X1 (vs:=[.agg #[vi (((dRaise y (max x.exp y.exp)).1).a),vi (((dRaise y (max x.exp y.exp)).1).b),vi (((dRaise y (max x.exp y.exp)).1).c),vi (((dRaise y (max x.exp y.exp)).1).d)],.bool ((dRaise y (max x.exp y.exp)).2)]) rfl rfl)<|Ze (X1 (vs:=[.agg #[vi (((dRaise y (max x.exp y.exp)).1).a),vi (((dRaise y (max x.exp y.exp)).1).b),vi (((dRaise y (max x.exp y.exp)).1).c),vi (((dRaise y (max x.exp y.exp)).1).d)],.bool ((dRaise y (max x.exp y.exp)).2)]) rfl rfl)<|Zf (X3 (zs:=[vi 0,vi 0,vi 0,vi 0]) X1w rfl) ?_;rintro _ bG ⟨b14,rfl,aM,g,u⟩
 have aE:aJ≠b14:=by have:=i.lt;omega
 have aB:=Q0 f.size aM;have e:=e.below g;have i:=i.below g;have f:=btr f g;refine Zo (Vw [vi (((dRaise y (max x.exp y.exp)).1).a),vi (((dRaise y (max x.exp y.exp)).1).b),vi (((dRaise y (max x.exp y.exp)).1).c),vi (((dRaise y (max x.exp y.exp)).1).d)] X0t u) ?_;rintro _ bH ⟨h,E⟩;have o:=u;have e:=e.only h (Blk.ne e o rfl);have i:=i.only h (by omega);have f:=Below.only f h aB;have u:=E;refine Za rfl<|Zx aL fun a k _ aN=>?_;refine Zm rfl<|Ze (Vn Xx i)<|Ze (Vn Xx u)<|Zf (X6h (cs:=[]) (vs:=[.agg #[vi (((dRaise x (max x.exp y.exp)).1).a),vi (((dRaise x (max x.exp y.exp)).1).b),vi (((dRaise x (max x.exp y.exp)).1).c),vi (((dRaise x (max x.exp y.exp)).1).d)],.agg #[vi (((dRaise y (max x.exp y.exp)).1).a),vi (((dRaise y (max x.exp y.exp)).1).b),vi (((dRaise y (max x.exp y.exp)).1).c),vi (((dRaise y (max x.exp y.exp)).1).d)]]) rfl rfl Xnk (Xyh _ ((dRaise x (max x.exp y.exp)).1) ((dRaise y (max x.exp y.exp)).1))) ?_;rintro _ bI ⟨rfl,g⟩;have e:=e.below g;have i:=i.below g;have u:=u.below g;have f:=btr f g;refine Zm rfl<|Ze (X1 (vs:=[.agg #[vi ((rIf1 (rSub ((dRaise x (max x.exp y.exp)).1) ((dRaise y (max x.exp y.exp)).1)) [((dRaise x (max x.exp y.exp)).1),((dRaise y (max x.exp y.exp)).1)]).a),vi ((rIf1 (rSub ((dRaise x (max x.exp y.exp)).1) ((dRaise y (max x.exp y.exp)).1)) [((dRaise x (max x.exp y.exp)).1),((dRaise y (max x.exp y.exp)).1)]).b),vi ((rIf1 (rSub ((dRaise x (max x.exp y.exp)).1) ((dRaise y (max x.exp y.exp)).1)) [((dRaise x (max x.exp y.exp)).1),((dRaise y (max x.exp y.exp)).1)]).c),vi ((rIf1 (rSub ((dRaise x (max x.exp y.exp)).1) ((dRaise y (max x.exp y.exp)).1)) [((dRaise x (max x.exp y.exp)).1),((dRaise y (max x.exp y.exp)).1)]).d)],.bool (rIf2 (rSub ((dRaise x (max x.exp y.exp)).1) ((dRaise y (max x.exp y.exp)).1)) [((dRaise x (max x.exp y.exp)).1),((dRaise y (max x.exp y.exp)).1)])]) rfl rfl)<|Ze (X1 (vs:=[.agg #[vi ((rIf1 (rSub ((dRaise x (max x.exp y.exp)).1) ((dRaise y (max x.exp y.exp)).1)) [((dRaise x (max x.exp y.exp)).1),((dRaise y (max x.exp y.exp)).1)]).a),vi ((rIf1 (rSub ((dRaise x (max x.exp y.exp)).1) ((dRaise y (max x.exp y.exp)).1)) [((dRaise x (max x.exp y.exp)).1),((dRaise y (max x.exp y.exp)).1)]).b),vi ((rIf1 (rSub ((dRaise x (max x.exp y.exp)).1) ((dRaise y (max x.exp y.exp)).1)) [((dRaise x (max x.exp y.exp)).1),((dRaise y (max x.exp y.exp)).1)]).c),vi ((rIf1 (rSub ((dRaise x (max x.exp y.exp)).1) ((dRaise y (max x.exp y.exp)).1)) [((dRaise x (max x.exp y.exp)).1),((dRaise y (max x.exp y.exp)).1)]).d)],.bool (rIf2 (rSub ((dRaise x (max x.exp y.exp)).1) ((dRaise y (max x.exp y.exp)).1)) [((dRaise x (max x.exp y.exp)).1),((dRaise y (max x.exp y.exp)).1)])]) rfl rfl)<|Zf (X3 (zs:=[vi 0,vi 0,vi 0,vi 0]) X1w rfl) ?_;rintro _ bJ ⟨b16,rfl,aO,g,A⟩
 have aF:aJ≠b16:=by have:=i.lt;omega
 have aG:b14≠b16:=by have:=u.lt;omega
 have aC:=Q0 f.size aO;have e:=e.below g;have f:=btr f g;refine Zo (Vw [vi ((rIf1 (rSub ((dRaise x (max x.exp y.exp)).1) ((dRaise y (max x.exp y.exp)).1)) [((dRaise x (max x.exp y.exp)).1),((dRaise y (max x.exp y.exp)).1)]).a),vi ((rIf1 (rSub ((dRaise x (max x.exp y.exp)).1) ((dRaise y (max x.exp y.exp)).1)) [((dRaise x (max x.exp y.exp)).1),((dRaise y (max x.exp y.exp)).1)]).b),vi ((rIf1 (rSub ((dRaise x (max x.exp y.exp)).1) ((dRaise y (max x.exp y.exp)).1)) [((dRaise x (max x.exp y.exp)).1),((dRaise y (max x.exp y.exp)).1)]).c),vi ((rIf1 (rSub ((dRaise x (max x.exp y.exp)).1) ((dRaise y (max x.exp y.exp)).1)) [((dRaise x (max x.exp y.exp)).1),((dRaise y (max x.exp y.exp)).1)]).d)] X0t A) ?_;rintro _ b7 ⟨h,E⟩;have o:=A;have e:=e.only h (Blk.ne e o rfl);have f:=Below.only f h aC;have A:=E;refine Za rfl<|ZX aN fun a k _ aP=>?_;refine Q5 fun _ aQ=>?_;refine X09 (fun a w=>Fr a 64 [(6,.pointer (some ⟨b4,0,none⟩)),(8,vi (max x.exp y.exp)),(13,.pointer (some ⟨b16,0,none⟩)),(57,.bool (((!((dRaise x (max x.exp y.exp)).2))||(!((dRaise y (max x.exp y.exp)).2)))||(!(rIf2 (rSub ((dRaise x (max x.exp y.exp)).1) ((dRaise y (max x.exp y.exp)).1)) [((dRaise x (max x.exp y.exp)).1),((dRaise y (max x.exp y.exp)).1)]))))]∧b7=w) ?_ ?_
 ·refine Zr k<|Zm rfl<|Ze (X0p rfl)<|Zm rfl ?_
  refine Zg 50 rfl (fun j=>?_) (fun j=>?_)
  ·refine Zp (gP j) ?_;refine Zp (gP j) ?_;refine Ze (Xh rfl j rfl)<|Zm rfl<|Zp (gP rfl) ?_;refine Zp (gP rfl) ?_;refine Ze (Xh rfl rfl rfl) ?_;refine Zn fun a k=>?_;exact ⟨k.sub ⟨rfl,rfl,rfl,X2 rfl (by first|rfl|(simp only [t,j,bs];done)|simp [t,j]),trivial⟩,rfl⟩
  refine Zv (gW j) (Xa rfl) ?_;refine Zv (gW j) (X0p rfl) ?_;refine Ze (Xd rfl j rfl)<|Zm rfl ?_
  refine Zg 54 rfl (fun n=>?_) (fun n=>?_)
  ·refine Zp (gP n) ?_;refine Zp (gP n) ?_;refine Ze (Xh rfl n rfl) ?_;refine Zn fun a k=>?_;exact ⟨k.sub ⟨rfl,rfl,rfl,X2 rfl (by first|rfl|(simp only [t,j,n,bs];done)|simp [t,j,n]),trivial⟩,rfl⟩
  refine Zv (gW n) (Xa rfl) ?_;refine Zv (gW n) (X0p rfl) ?_;refine Ze (Xd rfl n rfl) ?_;refine Zn fun a k=>?_;exact ⟨k.sub ⟨rfl,rfl,rfl,X2 rfl (by first|rfl|(simp only [t,j,n,bs];done)|simp [t,j,n]),trivial⟩,rfl⟩
 rintro a _ ⟨k,rfl⟩;refine aQ _ _ ?_
 refine Xi k rfl (fun z=>?_) (fun z=>?_)
 ·have aD:=z;have b8:=X8y z;refine Zs k fun _ aR=>?_;refine Ze (Xf (ps:=[]) (cs:=[vi 0,vi 0,vi 0,vi 0,vi 0]) rfl (fun _=>by first|rfl|kernel_rfl))<|Zo (Vw [vi 0,vi 0,vi 0,vi 0,vi 0] Xb e) ?_;rintro _ bK ⟨h,E⟩;have o:=e;have f:=Below.only f h C;have e:=E;refine Za rfl<|Zt aR fun a k=>?_;refine Q6<|X8<|X4 k (X0s k rfl (ResV.cellN (l:=[vi 0,vi 0,vi 0,vi 0,vi 0]) rfl X6 (e.at 0) rfl) rfl) ?_;exact ⟨by rw [dSubI,Q4 hy,b8];rfl,f⟩
 have aD:=z;have b9:=Xa8 z;refine Q7<|aP _ _<|Zs k fun _ aS=>?_;refine Ze (Vn Xx A)<|Zm rfl<|Zf (Vc (Xuj _ (rIf1 (rSub ((dRaise x (max x.exp y.exp)).1) ((dRaise y (max x.exp y.exp)).1)) [((dRaise x (max x.exp y.exp)).1),((dRaise y (max x.exp y.exp)).1)]) (max x.exp y.exp)) Xgh) ?_;rintro _ bL ⟨rfl,g⟩;have e:=e.below g;have f:=btr f g;refine Ze (X1 (vs:=[.agg #[vi (((dOf (rIf1 (rSub ((dRaise x (max x.exp y.exp)).1) ((dRaise y (max x.exp y.exp)).1)) [((dRaise x (max x.exp y.exp)).1),((dRaise y (max x.exp y.exp)).1)]) (max x.exp y.exp)).getD dZ).num.a),vi (((dOf (rIf1 (rSub ((dRaise x (max x.exp y.exp)).1) ((dRaise y (max x.exp y.exp)).1)) [((dRaise x (max x.exp y.exp)).1),((dRaise y (max x.exp y.exp)).1)]) (max x.exp y.exp)).getD dZ).num.b),vi (((dOf (rIf1 (rSub ((dRaise x (max x.exp y.exp)).1) ((dRaise y (max x.exp y.exp)).1)) [((dRaise x (max x.exp y.exp)).1),((dRaise y (max x.exp y.exp)).1)]) (max x.exp y.exp)).getD dZ).num.c),vi (((dOf (rIf1 (rSub ((dRaise x (max x.exp y.exp)).1) ((dRaise y (max x.exp y.exp)).1)) [((dRaise x (max x.exp y.exp)).1),((dRaise y (max x.exp y.exp)).1)]) (max x.exp y.exp)).getD dZ).num.d),vi (((dOf (rIf1 (rSub ((dRaise x (max x.exp y.exp)).1) ((dRaise y (max x.exp y.exp)).1)) [((dRaise x (max x.exp y.exp)).1),((dRaise y (max x.exp y.exp)).1)]) (max x.exp y.exp)).getD dZ).exp)],.bool ((dOf (rIf1 (rSub ((dRaise x (max x.exp y.exp)).1) ((dRaise y (max x.exp y.exp)).1)) [((dRaise x (max x.exp y.exp)).1),((dRaise y (max x.exp y.exp)).1)]) (max x.exp y.exp)).isSome)]) rfl rfl)<|Ze (X1 (vs:=[.agg #[vi (((dOf (rIf1 (rSub ((dRaise x (max x.exp y.exp)).1) ((dRaise y (max x.exp y.exp)).1)) [((dRaise x (max x.exp y.exp)).1),((dRaise y (max x.exp y.exp)).1)]) (max x.exp y.exp)).getD dZ).num.a),vi (((dOf (rIf1 (rSub ((dRaise x (max x.exp y.exp)).1) ((dRaise y (max x.exp y.exp)).1)) [((dRaise x (max x.exp y.exp)).1),((dRaise y (max x.exp y.exp)).1)]) (max x.exp y.exp)).getD dZ).num.b),vi (((dOf (rIf1 (rSub ((dRaise x (max x.exp y.exp)).1) ((dRaise y (max x.exp y.exp)).1)) [((dRaise x (max x.exp y.exp)).1),((dRaise y (max x.exp y.exp)).1)]) (max x.exp y.exp)).getD dZ).num.c),vi (((dOf (rIf1 (rSub ((dRaise x (max x.exp y.exp)).1) ((dRaise y (max x.exp y.exp)).1)) [((dRaise x (max x.exp y.exp)).1),((dRaise y (max x.exp y.exp)).1)]) (max x.exp y.exp)).getD dZ).num.d),vi (((dOf (rIf1 (rSub ((dRaise x (max x.exp y.exp)).1) ((dRaise y (max x.exp y.exp)).1)) [((dRaise x (max x.exp y.exp)).1),((dRaise y (max x.exp y.exp)).1)]) (max x.exp y.exp)).getD dZ).exp)],.bool ((dOf (rIf1 (rSub ((dRaise x (max x.exp y.exp)).1) ((dRaise y (max x.exp y.exp)).1)) [((dRaise x (max x.exp y.exp)).1),((dRaise y (max x.exp y.exp)).1)]) (max x.exp y.exp)).isSome)]) rfl rfl)<|Zo (Vw [vi (((dOf (rIf1 (rSub ((dRaise x (max x.exp y.exp)).1) ((dRaise y (max x.exp y.exp)).1)) [((dRaise x (max x.exp y.exp)).1),((dRaise y (max x.exp y.exp)).1)]) (max x.exp y.exp)).getD dZ).num.a),vi (((dOf (rIf1 (rSub ((dRaise x (max x.exp y.exp)).1) ((dRaise y (max x.exp y.exp)).1)) [((dRaise x (max x.exp y.exp)).1),((dRaise y (max x.exp y.exp)).1)]) (max x.exp y.exp)).getD dZ).num.b),vi (((dOf (rIf1 (rSub ((dRaise x (max x.exp y.exp)).1) ((dRaise y (max x.exp y.exp)).1)) [((dRaise x (max x.exp y.exp)).1),((dRaise y (max x.exp y.exp)).1)]) (max x.exp y.exp)).getD dZ).num.c),vi (((dOf (rIf1 (rSub ((dRaise x (max x.exp y.exp)).1) ((dRaise y (max x.exp y.exp)).1)) [((dRaise x (max x.exp y.exp)).1),((dRaise y (max x.exp y.exp)).1)]) (max x.exp y.exp)).getD dZ).num.d),vi (((dOf (rIf1 (rSub ((dRaise x (max x.exp y.exp)).1) ((dRaise y (max x.exp y.exp)).1)) [((dRaise x (max x.exp y.exp)).1),((dRaise y (max x.exp y.exp)).1)]) (max x.exp y.exp)).getD dZ).exp)] Xb e) ?_;rintro _ bM ⟨h,E⟩
 have o:=e;have f:=Below.only f h C;have e:=E;refine Za rfl<|Zt aS fun a k=>?_
 refine Q6 (X4 k (X0s k rfl (ResV.cellN (l:=[vi (((dOf (rIf1 (rSub ((dRaise x (max x.exp y.exp)).1) ((dRaise y (max x.exp y.exp)).1)) [((dRaise x (max x.exp y.exp)).1),((dRaise y (max x.exp y.exp)).1)]) (max x.exp y.exp)).getD dZ).num.a),vi (((dOf (rIf1 (rSub ((dRaise x (max x.exp y.exp)).1) ((dRaise y (max x.exp y.exp)).1)) [((dRaise x (max x.exp y.exp)).1),((dRaise y (max x.exp y.exp)).1)]) (max x.exp y.exp)).getD dZ).num.b),vi (((dOf (rIf1 (rSub ((dRaise x (max x.exp y.exp)).1) ((dRaise y (max x.exp y.exp)).1)) [((dRaise x (max x.exp y.exp)).1),((dRaise y (max x.exp y.exp)).1)]) (max x.exp y.exp)).getD dZ).num.c),vi (((dOf (rIf1 (rSub ((dRaise x (max x.exp y.exp)).1) ((dRaise y (max x.exp y.exp)).1)) [((dRaise x (max x.exp y.exp)).1),((dRaise y (max x.exp y.exp)).1)]) (max x.exp y.exp)).getD dZ).num.d),vi (((dOf (rIf1 (rSub ((dRaise x (max x.exp y.exp)).1) ((dRaise y (max x.exp y.exp)).1)) [((dRaise x (max x.exp y.exp)).1),((dRaise y (max x.exp y.exp)).1)]) (max x.exp y.exp)).getD dZ).exp)]) rfl X6 (e.at 0) rfl) rfl) ?_)
 exact ⟨by rw [dSubI,Q4 hy,b9];rfl,f⟩
theorem Xrr(w0:World)(x:Dy)(y:Dy) : Ret Tryz.prog 172 [.agg #[vi x.num.a,vi x.num.b,vi x.num.c,vi x.num.d,vi x.exp],.agg #[vi y.num.a,vi y.num.b,vi y.num.c,vi y.num.d,vi y.exp]] w0 (fun v w=>v=.tuple #[dV ((dSubI x y).getD dZ),.bool ((dSubI x y).isSome)]∧Below w0.heap.size w0 w):=by
 refine enter Tryz.func172 rfl 11 rfl rfl ?_;intro a hf
 have f:=bz w0
 refine Zs hf fun _ aD=>?_;refine Zf (X0b (zs:=[vi x.num.a,vi x.num.b,vi x.num.c,vi x.num.d,vi x.exp]) rfl rfl) ?_;rintro _ w1 ⟨b2,rfl,aE,i,e⟩;have aI:=Q0 f.size aE;have f:=btr f i;refine Zf (X0b (zs:=[vi y.num.a,vi y.num.b,vi y.num.c,vi y.num.d,vi y.exp]) rfl rfl) ?_;rintro _ w2 ⟨b3,rfl,aF,i,j⟩
 have aA:b2≠b3:=by have:=e.lt;omega
 have aJ:=Q0 f.size aF;have e:=e.below i;have f:=btr f i;refine Zf (X3 (zs:=[vi 0,vi 0,vi 0,vi 0,vi 0]) X0l rfl) ?_;rintro _ w3 ⟨b4,rfl,aG,i,g⟩
 have aB:b2≠b4:=by have:=e.lt;omega
 have aC:b3≠b4:=by have:=j.lt;omega
 have a9:=Q0 f.size aG;have e:=e.below i;have j:=j.below i;have f:=btr f i;refine Za rfl<|Zx aD fun a hf _ aH=>?_;refine Ze (Vn X6 e)<|Ze (Vn X6 j)<|Zf (X0x (vs:=[.agg #[vi x.num.a,vi x.num.b,vi x.num.c,vi x.num.d,vi x.exp],.agg #[vi y.num.a,vi y.num.b,vi y.num.c,vi y.num.d,vi y.exp],.func (.func 189) #[] #[]]) rfl Xkc (Y16 _ x y)) ?_;rintro _ w4 ⟨rfl,i⟩;have g:=g.below i;have f:=btr f i;refine Ze (X1 (vs:=[.agg #[vi (((dSubI x y).getD dZ).num.a),vi (((dSubI x y).getD dZ).num.b),vi (((dSubI x y).getD dZ).num.c),vi (((dSubI x y).getD dZ).num.d),vi (((dSubI x y).getD dZ).exp)],.bool ((dSubI x y).isSome)]) rfl rfl)<|Ze (X1 (vs:=[.agg #[vi (((dSubI x y).getD dZ).num.a),vi (((dSubI x y).getD dZ).num.b),vi (((dSubI x y).getD dZ).num.c),vi (((dSubI x y).getD dZ).num.d),vi (((dSubI x y).getD dZ).exp)],.bool ((dSubI x y).isSome)]) rfl rfl)<|Zo (Vw [vi (((dSubI x y).getD dZ).num.a),vi (((dSubI x y).getD dZ).num.b),vi (((dSubI x y).getD dZ).num.c),vi (((dSubI x y).getD dZ).num.d),vi (((dSubI x y).getD dZ).exp)] Xb g) ?_;rintro _ w5 ⟨ho,hb⟩;have aK:=g;have f:=Below.only f ho a9;have g:=hb;refine Za rfl<|Zt aH fun a hf=>?_
 refine Q6 (X4 hf (X0s hf rfl (ResV.cellN (l:=[vi (((dSubI x y).getD dZ).num.a),vi (((dSubI x y).getD dZ).num.b),vi (((dSubI x y).getD dZ).num.c),vi (((dSubI x y).getD dZ).num.d),vi (((dSubI x y).getD dZ).exp)]) rfl X6 (g.at 0) rfl) rfl) ?_)
 exact ⟨rfl,f⟩
theorem Xsg(w0:World)(p q r t:Int)(aC:Tri p)(aD:Tri q)(aE:Tri r)(aF:Tri t) : Ret Tryz.prog 171 [.agg #[vi ((dO p 0).num.a),vi ((dO p 0).num.b),vi ((dO p 0).num.c),vi ((dO p 0).num.d),vi ((dO p 0).exp)],.agg #[vi ((dO q 0).num.a),vi ((dO q 0).num.b),vi ((dO q 0).num.c),vi ((dO q 0).num.d),vi ((dO q 0).exp)],.agg #[vi ((dO r 0).num.a),vi ((dO r 0).num.b),vi ((dO r 0).num.c),vi ((dO r 0).num.d),vi ((dO r 0).exp)],.agg #[vi ((dO t 0).num.a),vi ((dO t 0).num.b),vi ((dO t 0).num.c),vi ((dO t 0).num.d),vi ((dO t 0).exp)]] w0 (fun v w=>v=.tuple #[dV (dO (p*t-q*r) 0),.bool true]∧Below w0.heap.size w0 w):=by
 refine enter Tryz.func171 rfl 42 rfl rfl ?_;intro a y
 have g:=bz w0
 refine Zs y fun _ bG=>?_;refine Zf (X0b (zs:=[vi ((dO p 0).num.a),vi ((dO p 0).num.b),vi ((dO p 0).num.c),vi ((dO p 0).num.d),vi ((dO p 0).exp)]) rfl rfl) ?_;rintro _ w1 ⟨b2,rfl,bH,f,k⟩;have bQ:=Q0 g.size bH;have g:=btr g f;refine Zf (X0b (zs:=[vi ((dO q 0).num.a),vi ((dO q 0).num.b),vi ((dO q 0).num.c),vi ((dO q 0).num.d),vi ((dO q 0).exp)]) rfl rfl) ?_;rintro _ w2 ⟨b3,rfl,bI,f,i⟩
 have aS:b2≠b3:=by have:=k.lt;omega
 have bR:=Q0 g.size bI;have k:=k.below f;have g:=btr g f;refine Zf (X0b (zs:=[vi ((dO r 0).num.a),vi ((dO r 0).num.b),vi ((dO r 0).num.c),vi ((dO r 0).num.d),vi ((dO r 0).exp)]) rfl rfl) ?_;rintro _ w3 ⟨b4,rfl,bJ,f,j⟩
 have aT:b2≠b4:=by have:=k.lt;omega
 have aU:b3≠b4:=by have:=i.lt;omega
 have bS:=Q0 g.size bJ;have k:=k.below f;have i:=i.below f;have g:=btr g f;refine Zf (X0b (zs:=[vi ((dO t 0).num.a),vi ((dO t 0).num.b),vi ((dO t 0).num.c),vi ((dO t 0).num.d),vi ((dO t 0).exp)]) rfl rfl) ?_;rintro _ w4 ⟨b5,rfl,bK,f,u⟩
 have aW:b2≠b5:=by have:=k.lt;omega
 have aX:b3≠b5:=by have:=i.lt;omega
 have aY:b4≠b5:=by have:=j.lt;omega
 have bU:=Q0 g.size bK;have k:=k.below f;have i:=i.below f;have j:=j.below f;have g:=btr g f;refine Zf (X3 (zs:=[vi 0,vi 0,vi 0,vi 0,vi 0]) X0l rfl) ?_;rintro _ w5 ⟨b6,rfl,bL,f,e⟩
 have aZ:b2≠b6:=by have:=k.lt;omega
 have b0:b3≠b6:=by have:=i.lt;omega
 have b1:b4≠b6:=by have:=j.lt;omega
 have b7:b5≠b6:=by have:=u.lt;omega
 have aG:=Q0 g.size bL;have k:=k.below f;have i:=i.below f;have j:=j.below f;have u:=u.below f;have g:=btr g f;refine Za rfl<|Zx bG fun a y _ bM=>?_;refine Ze (Vn X6 k)<|Ze (Vn X6 u)<|Zf (X0x (vs:=[.agg #[vi ((dO p 0).num.a),vi ((dO p 0).num.b),vi ((dO p 0).num.c),vi ((dO p 0).num.d),vi ((dO p 0).exp)],.agg #[vi ((dO t 0).num.a),vi ((dO t 0).num.b),vi ((dO t 0).num.c),vi ((dO t 0).num.d),vi ((dO t 0).exp)]]) rfl X4w (by have h:=Xbc w5 (dO p 0) (dO t 0);rw [Xho aC aF,Qq,Option.isSome_some] at h;exact h)) ?_;rintro _ w6 ⟨rfl,f⟩;have k:=k.below f;have i:=i.below f;have j:=j.below f;have u:=u.below f;have e:=e.below f;have g:=btr g f;refine Zm rfl<|Ze (X1 (vs:=[.agg #[vi ((dO (p*t) 0).num.a),vi ((dO (p*t) 0).num.b),vi ((dO (p*t) 0).num.c),vi ((dO (p*t) 0).num.d),vi ((dO (p*t) 0).exp)],.bool true]) rfl rfl)<|Ze (X1 (vs:=[.agg #[vi ((dO (p*t) 0).num.a),vi ((dO (p*t) 0).num.b),vi ((dO (p*t) 0).num.c),vi ((dO (p*t) 0).num.d),vi ((dO (p*t) 0).exp)],.bool true]) rfl rfl)<|Zf (X3 (zs:=[vi 0,vi 0,vi 0,vi 0,vi 0]) X0l rfl) ?_;rintro _ w7 ⟨b8,rfl,bN,f,m⟩
 have b9:b2≠b8:=by have:=k.lt;omega
 have bC:b3≠b8:=by have:=i.lt;omega
 have bD:b4≠b8:=by have:=j.lt;omega
 have bE:b5≠b8:=by have:=u.lt;omega
 have bF:b6≠b8:=by have:=e.lt;omega
 have aH:=Q0 g.size bN;have i:=i.below f;have j:=j.below f;have e:=e.below f;have g:=btr g f;refine Zo (Vw [vi ((dO (p*t) 0).num.a),vi ((dO (p*t) 0).num.b),vi ((dO (p*t) 0).num.c),vi ((dO (p*t) 0).num.d),vi ((dO (p*t) 0).exp)] Xb m) ?_;rintro _ w8 ⟨x,hb⟩;have z:=m;have i:=i.only x (by omega);have j:=j.only x (by omega);have e:=e.only x (by omega);have g:=Below.only g x aH;have m:=hb;refine Za rfl<|Zx bM fun a y _ bO=>?_;refine Ze (Vn X6 i)<|Ze (Vn X6 j)<|Zf (X0x (vs:=[.agg #[vi ((dO q 0).num.a),vi ((dO q 0).num.b),vi ((dO q 0).num.c),vi ((dO q 0).num.d),vi ((dO q 0).exp)],.agg #[vi ((dO r 0).num.a),vi ((dO r 0).num.b),vi ((dO r 0).num.c),vi ((dO r 0).num.d),vi ((dO r 0).exp)]]) rfl X4w (by have h:=Xbc w8 (dO q 0) (dO r 0);rw [Xho aD aE,Qq,Option.isSome_some] at h;exact h)) ?_;rintro _ w9 ⟨rfl,f⟩;have i:=i.below f;have j:=j.below f;have e:=e.below f;have m:=m.below f;have g:=btr g f;refine Zm rfl<|Ze (X1 (vs:=[.agg #[vi ((dO (q*r) 0).num.a),vi ((dO (q*r) 0).num.b),vi ((dO (q*r) 0).num.c),vi ((dO (q*r) 0).num.d),vi ((dO (q*r) 0).exp)],.bool true]) rfl rfl)<|Ze (X1 (vs:=[.agg #[vi ((dO (q*r) 0).num.a),vi ((dO (q*r) 0).num.b),vi ((dO (q*r) 0).num.c),vi ((dO (q*r) 0).num.d),vi ((dO (q*r) 0).exp)],.bool true]) rfl rfl)<|Zf (X3 (zs:=[vi 0,vi 0,vi 0,vi 0,vi 0]) X0l rfl) ?_;rintro _ bW ⟨b10,rfl,aI,f,o⟩
 have aJ:b3≠b10:=by have:=i.lt;omega
 have aK:b4≠b10:=by have:=j.lt;omega
 have aL:b6≠b10:=by have:=e.lt;omega
 have aM:b8≠b10:=by have:=m.lt;omega
 have a9:=Q0 g.size aI;have e:=e.below f;have m:=m.below f;have g:=btr g f;refine Zo (Vw [vi ((dO (q*r) 0).num.a),vi ((dO (q*r) 0).num.b),vi ((dO (q*r) 0).num.c),vi ((dO (q*r) 0).num.d),vi ((dO (q*r) 0).exp)] Xb o) ?_;rintro _ bP ⟨x,hb⟩;have z:=o;have e:=e.only x (by omega);have m:=m.only x (by omega);have g:=Below.only g x a9;have o:=hb;refine Za rfl<|Zx bO fun a y _ aN=>?_;refine Ze (Vn X6 m)<|Ze (Vn X6 o)<|Zf (X0x (vs:=[.agg #[vi ((dO (p*t) 0).num.a),vi ((dO (p*t) 0).num.b),vi ((dO (p*t) 0).num.c),vi ((dO (p*t) 0).num.d),vi ((dO (p*t) 0).exp)],.agg #[vi ((dO (q*r) 0).num.a),vi ((dO (q*r) 0).num.b),vi ((dO (q*r) 0).num.c),vi ((dO (q*r) 0).num.d),vi ((dO (q*r) 0).exp)]]) rfl Xh8 (by have h:=Xrr bP (dO (p*t) 0) (dO (q*r) 0);rw [Xo5 aC aF aD aE,Qq,Option.isSome_some] at h;exact h)) ?_;rintro _ bZ ⟨rfl,f⟩;have e:=e.below f;have m:=m.below f;have o:=o.below f;have g:=btr g f;refine Zm rfl<|Ze (X1 (vs:=[.agg #[vi ((dO (p*t-q*r) 0).num.a),vi ((dO (p*t-q*r) 0).num.b),vi ((dO (p*t-q*r) 0).num.c),vi ((dO (p*t-q*r) 0).num.d),vi ((dO (p*t-q*r) 0).exp)],.bool true]) rfl rfl)<|Ze (X1 (vs:=[.agg #[vi ((dO (p*t-q*r) 0).num.a),vi ((dO (p*t-q*r) 0).num.b),vi ((dO (p*t-q*r) 0).num.c),vi ((dO (p*t-q*r) 0).num.d),vi ((dO (p*t-q*r) 0).exp)],.bool true]) rfl rfl)<|Zf (X3 (zs:=[vi 0,vi 0,vi 0,vi 0,vi 0]) X0l rfl) ?_;rintro _ cA ⟨b12,rfl,aO,f,n⟩
 have aP:b6≠b12:=by have:=e.lt;omega
 have aQ:b8≠b12:=by have:=m.lt;omega
 have aB:b10≠b12:=by have:=o.lt;omega
 have aA:=Q0 g.size aO;have e:=e.below f;have g:=btr g f;refine Zo (Vw [vi ((dO (p*t-q*r) 0).num.a),vi ((dO (p*t-q*r) 0).num.b),vi ((dO (p*t-q*r) 0).num.c),vi ((dO (p*t-q*r) 0).num.d),vi ((dO (p*t-q*r) 0).exp)] Xb n) ?_;rintro _ cB ⟨x,hb⟩;have z:=n;have e:=e.only x (by omega);have g:=Below.only g x aA;have n:=hb;refine Za rfl<|ZX aN fun a y _ aR=>?_;refine X09 (fun a w=>Fr a 42 [(8,.pointer (some ⟨b6,0,none⟩)),(9,.bool true)]∧Blk w b6 86 [vi ((dO (p*t-q*r) 0).num.a),vi ((dO (p*t-q*r) 0).num.b),vi ((dO (p*t-q*r) 0).num.c),vi ((dO (p*t-q*r) 0).num.d),vi ((dO (p*t-q*r) 0).exp)]∧Blk w b12 86 [vi ((dO (p*t-q*r) 0).num.a),vi ((dO (p*t-q*r) 0).num.b),vi ((dO (p*t-q*r) 0).num.c),vi ((dO (p*t-q*r) 0).num.d),vi ((dO (p*t-q*r) 0).exp)]∧Below w0.heap.size w0 w) ?_ ?_
 ·refine Zr y<|Ze (Vn X6 n)<|Zm rfl<|Zm rfl<|Zv (gW rfl) (Xa rfl) ?_;refine Ze (Xh rfl rfl rfl)<|Zm rfl<|Zv (gW rfl) (Xa rfl) ?_;refine Ze (Xh rfl rfl rfl)<|Zo (Vw [vi ((dO (p*t-q*r) 0).num.a),vi ((dO (p*t-q*r) 0).num.b),vi ((dO (p*t-q*r) 0).num.c),vi ((dO (p*t-q*r) 0).num.d),vi ((dO (p*t-q*r) 0).exp)] Xb e) ?_;rintro _ cC ⟨x,hb⟩;have z:=e;have n:=n.only x (by omega);have g:=Below.only g x aG;have e:=hb;refine Za rfl ?_;refine Zn fun a y=>?_;exact ⟨y.sb,e,n,g⟩
 rintro a cD ⟨y,e,n,g⟩;refine aR _ _ ?_
 refine Q6 (X4 y (X0s y rfl (ResV.cellN (l:=[vi ((dO (p*t-q*r) 0).num.a),vi ((dO (p*t-q*r) 0).num.b),vi ((dO (p*t-q*r) 0).num.c),vi ((dO (p*t-q*r) 0).num.d),vi ((dO (p*t-q*r) 0).exp)]) rfl X6 (e.at 0) rfl) rfl) ?_)
 exact ⟨rfl,g⟩
theorem Xx2(N:World)(Al:Option Addr)(cl:Nat)(l:List Dy)(y:Rd N N.heap.size 86 encD Al l)(q:List Int)(L:SmB q)(bE:l=intB q) : Ret Tryz.prog 127 [.slice Al l.length cl] N (fun v w=>v=.tuple #[dV (dO (dtN q 3) 0),.bool true]∧Below N.heap.size N w):=by
 have fO:l.length=9:=by rw [bE];exact L.blen
 refine enter Tryz.func127 rfl 88 rfl rfl ?_;intro a m
 have i:=bz N
 refine Zs m fun _ fB=>?_;refine Zf (X3 (zs:=[vi 0,vi 0,vi 0,vi 0,vi 0]) X0l rfl) ?_;rintro _ w1 ⟨G,rfl,dG,g,e⟩;have dH:=Q0 i.size dG;have f8:=(y.below' i).away dG;have i:=btr i g;refine Za rfl<|Zx fB fun a m _ fC=>?_;refine Ze (Xf (ps:=[]) (cs:=[vi 0,vi 0,vi 0,vi 0,vi 0]) rfl (fun _=>by first|rfl|kernel_rfl))<|Zf (X3 (zs:=[vi 0,vi 0,vi 0,vi 0,vi 0]) X0l rfl) ?_;rintro _ w2 ⟨b5,rfl,dI,g,f⟩
 have f9:G≠b5:=by have:=e.lt;omega
 have aQ:=Q0 i.size dI;have fA:=(y.below' i).away dI;have e:=e.below g;have i:=btr i g;refine Zo (Vw [vi 0,vi 0,vi 0,vi 0,vi 0] Xb f) ?_;rintro _ w3 ⟨E,hb⟩;have H:=f;have e:=e.only E (by omega);have i:=Below.only i E aQ;have f:=hb;refine ZX fC fun a m _ fD=>?_;refine Zs m fun _ fE=>?_;refine Zm rfl<|Zt fE fun a m=>?_;refine Q8<|X04 (σ:=Nat) (fun (k:Nat) (a:Act) (w:World)=>Fr a 88 [(0,.slice Al l.length cl),(2,.pointer (some ⟨G,0,none⟩)),(4,.pointer (some ⟨b5,0,none⟩)),(16,vi (k:Int))]∧(k≤3)∧Blk w G 86 [vi 0,vi 0,vi 0,vi 0,vi 0]∧Blk w b5 86 [vi ((dO (dtN q k) 0).num.a),vi ((dO (dtN q k) 0).num.b),vi ((dO (dtN q k) 0).num.c),vi ((dO (dtN q k) 0).num.d),vi ((dO (dtN q k) 0).exp)]∧Below N.heap.size N w) (fun (k:Nat)=>3-k) 0 ?_ ?_
 ·exact ⟨m.sb,(by omega),e,f,i⟩
 rintro k a w4 ⟨m,hk,e,f,i⟩;refine Zs m fun _ fF=>?_;refine Ze (X19 rfl rfl)<|ZX fF fun a m _ fG=>?_
 refine Xi m rfl (fun C=>?_) (fun C=>?_)
 ·have bQ:=C;have C:=Q2 C
  have A:k<3:=by have:=C;omega
  refine Q7<|fG _ _<|Q5 fun _ bH=>?_;refine Q8<|Zs m fun _ dJ=>?_;refine Zm rfl<|Za rfl<|Zx dJ fun a m _ dK=>?_;refine Zf (X7 (k:=0) (vs:=[]) (zs:=[]) rfl Xs X0u rfl rfl) ?_;rintro _ w5 ⟨b14,rfl,bI,g,dL⟩
  have dM:G≠b14:=by have:=e.lt;omega
  have dN:b5≠b14:=by have:=f.lt;omega
  have bR:=Q0 i.size bI;have dP:=(y.below' i).away bI;have e:=e.below g;have f:=f.below g;have i:=btr i g;refine Za rfl<|ZX dK fun a m _ dQ=>?_;refine Zs m fun _ dR=>?_;refine Zm rfl<|Zt dR fun a m=>?_;refine Q8<|X04 (σ:=Nat×(List Dy)) (fun (s:Nat×(List Dy)) (a:Act) (w:World)=>match s with|(j,r)=>∃ aE bF,Fr a 88 [(0,.slice Al l.length cl),(2,.pointer (some ⟨G,0,none⟩)),(4,.pointer (some ⟨b5,0,none⟩)),(5,vi (k:Int)),(6,.slice aE r.length bF),(16,vi (k:Int)),(20,vi (j:Int))]∧(j≤3)∧(r=intB (rstN q k j))∧Blk w G 86 [vi 0,vi 0,vi 0,vi 0,vi 0]∧Blk w b5 86 [vi ((dO (dtN q k) 0).num.a),vi ((dO (dtN q k) 0).num.b),vi ((dO (dtN q k) 0).num.c),vi ((dO (dtN q k) 0).num.d),vi ((dO (dtN q k) 0).exp)]∧Own w N.heap.size 86 5 encD aE bF r∧Away aE G∧Away aE b5∧Below N.heap.size N w) (fun (s:Nat×(List Dy))=>match s with|(j,r)=>3-j) (0,[]) ?_ ?_
  ·exact ⟨some ⟨b14,0,none⟩,0,m.sb,(by omega),rfl,e,f,(Own.empty dL bR),(Away.ne (by omega)),(Away.ne (by omega)),i⟩
  rintro ⟨j,r⟩ a w6 ⟨aE,bF,m,hj,hr,e,f,p,I,J,i⟩;refine Zs m fun _ dS=>?_;refine Ze (X19 rfl rfl)<|ZX dS fun a m _ dT=>?_
  refine Xi m rfl (fun D=>?_) (fun D=>?_)
  ·have bS:=D;have D:=Q2 D
   have dU:j<3:=by have:=D;omega
   refine Q7<|dT _ _<|Q5 fun _ bJ=>?_;refine Q8<|Zs m fun _ dW=>?_;refine Zm rfl<|Za rfl<|Zx dW fun a m _ dX=>?_;refine Zm rfl<|Zm rfl<|Ze (X3w rfl rfl)<|Zt dX fun a m=>?_
   refine Xi m rfl (fun Q=>?_) (fun Q=>?_)
   ·have bU:=Q
    have bW:j≠k:=by have h9:=Q;simp at h9;omega
    have dY:=Xtd q k j
    rw [← hr] at dY
    have fN:r.length≤6:=by have:r.length=(intB (rstN q k j)).length:=(by rw [hr]);omega
    refine Xy none (fun j=>[12].contains j) mixed ?_;intro w7 g;have e:=e.below g;have f:=f.below g;have p:=p.below g;have i:=btr i g;refine Yb m<|Yo 0 rfl (fun _=>Xa rfl)<|Yo 1 rfl (fun _=>Xa rfl)<|Yo 2 rfl (fun _=>Xa rfl)<|Yo 3 rfl (fun _=>X02 rfl rfl (by omega) (by omega))<|Yi (k:=(3+j)) (u:=(dO (q.getD (3+j) 0) 0)) (enc:=encD) (l:=l) 4 rfl trivial rfl rfl Xs Xb Xw (y.below' i) (by rw [bE];exact L.get (by omega)) (by omega) ?_;intro fP bZ;refine Ye 5 rfl (Xz (l:=[vi ((dO (q.getD (3+j) 0) 0).num.a),vi ((dO (q.getD (3+j) 0) 0).num.b),vi ((dO (q.getD (3+j) 0) 0).num.c),vi ((dO (q.getD (3+j) 0) 0).num.d),vi ((dO (q.getD (3+j) 0) 0).exp)]) rfl X6 bZ rfl)<|Yo 6 rfl (fun _=>Xa rfl)<|Yo 7 rfl (fun _=>Xa rfl)<|Yo 8 rfl (fun _=>X02 rfl rfl (by omega) (by omega))<|Yi (k:=(6+j)) (u:=(dO (q.getD (6+j) 0) 0)) (enc:=encD) (l:=l) 9 rfl trivial rfl rfl Xs Xb Xw (y.below' i) (by rw [bE];exact L.get (by omega)) (by omega) ?_;intro fQ cA;refine Ye 10 rfl (Xz (l:=[vi ((dO (q.getD (6+j) 0) 0).num.a),vi ((dO (q.getD (6+j) 0) 0).num.b),vi ((dO (q.getD (6+j) 0) 0).num.c),vi ((dO (q.getD (6+j) 0) 0).num.d),vi ((dO (q.getD (6+j) 0) 0).exp)]) rfl X6 cA rfl)<|Y1 11 ?_;refine Yk rfl trivial (X7 (k:=2) (vs:=[.agg #[vi ((dO (q.getD (3+j) 0) 0).num.a),vi ((dO (q.getD (3+j) 0) 0).num.b),vi ((dO (q.getD (3+j) 0) 0).num.c),vi ((dO (q.getD (3+j) 0) 0).num.d),vi ((dO (q.getD (3+j) 0) 0).exp)],.agg #[vi ((dO (q.getD (6+j) 0) 0).num.a),vi ((dO (q.getD (6+j) 0) 0).num.b),vi ((dO (q.getD (6+j) 0) 0).num.c),vi ((dO (q.getD (6+j) 0) 0).num.d),vi ((dO (q.getD (6+j) 0) 0).exp)]]) (zs:=[vi ((dO (q.getD (3+j) 0) 0).num.a),vi ((dO (q.getD (3+j) 0) 0).num.b),vi ((dO (q.getD (3+j) 0) 0).num.c),vi ((dO (q.getD (3+j) 0) 0).num.d),vi ((dO (q.getD (3+j) 0) 0).exp),vi ((dO (q.getD (6+j) 0) 0).num.a),vi ((dO (q.getD (6+j) 0) 0).num.b),vi ((dO (q.getD (6+j) 0) 0).num.c),vi ((dO (q.getD (6+j) 0) 0).num.d),vi ((dO (q.getD (6+j) 0) 0).exp)]) rfl Xs X0u rfl rfl) (fun _ _ ⟨_,_,_,h,_⟩=>h) ?_;rintro _ w8 ⟨b30,rfl,aR,g,aS⟩
    have e8:G≠b30:=by have:=e.lt;omega
    have eA:b5≠b30:=by have:=f.lt;omega
    have fH:=Q0 i.size aR;have aL:=p.away aR;have eB:=(y.below' i).away aR;have e:=e.below g;have f:=f.below g;have p:=p.below g;have i:=btr i g;refine Y1 12<|Yt rfl trivial rfl (X0k (enc:=encD) (l:=(r)) (l2:=([(dO (q.getD (3+j) 0) 0),(dO (q.getD (6+j) 0) 0)])) (B0:=N.heap.size) rfl rfl Xs X0u Xw X28 p (Rd.of_blk aS rfl _ aS.lt) (by simp only [maxLen];simp;omega) (by simp;omega) i.size) ?_;rintro _ w9 ⟨fI,fJ,rfl,eC,hg,bG⟩
    have bK:Own _ N.heap.size 86 5 encD _ _ (r):=p
    have aT:=bG _ e.lt I;have aU:=bG _ f.lt J;have dC:=bG _ aS.lt aL;clear bG;have e:=e.appA hg I;have f:=f.appA hg J;have i:=Below.app i bK hg (Qb _) i.size;clear bK hg;refine Yo 13 rfl (fun _=>X0q rfl) ?_;refine Yd fun a m=>?_;refine Xk<|bJ _ _<|Zr m<|Ze (X02 rfl rfl (by omega) (by omega))<|Zm rfl ?_;refine Zn fun a m=>?_;refine Xn ?_;exact ⟨(j+1,r++([(dO (q.getD (3+j) 0) 0),(dO (q.getD (6+j) 0) 0)])),⟨fI,fJ,m.sb,(by omega),(by rw [hr];exact Xml bW),e,f,eC,aT,aU,i⟩,(by first|omega|(dsimp only;omega))⟩
   have bU:=Q
   have bW:j=k:=by have h9:=Q;simp at h9;omega
   refine Q7<|Xk<|bJ _ _<|Zr m ?_;refine Ze (X02 rfl rfl (by omega) (by omega))<|Zm rfl ?_;refine Zn fun a m=>?_;refine Xn ?_;exact ⟨(j+1,r),⟨aE,bF,m.sb,(by omega),(by rw [hr];exact Xmd bW),e,f,p,I,J,i⟩,(by first|omega|(dsimp only;omega))⟩
  have bS:=D;have D:=Q1 D
  have dU:j=3:=by have:=D;omega
  subst dU
  have fR:r.length=4:=by rw [hr,Xi2 A]
  refine Q9<|Xm<|Xm<|X06 ?_;refine dQ _ _<|Q5 fun _ eD=>?_;refine X09 (fun a w=>∃ t,Fr a 88 [(0,.slice Al l.length cl),(2,.pointer (some ⟨G,0,none⟩)),(4,.pointer (some ⟨b5,0,none⟩)),(5,vi (k:Int)),(8,.pointer (some ⟨t,0,none⟩)),(9,.bool true),(16,vi (k:Int))]∧N.heap.size≤t∧Blk w t 86 [vi ((dO ((eN q k 0)*(eN q k 3)-(eN q k 2)*(eN q k 1)) 0).num.a),vi ((dO ((eN q k 0)*(eN q k 3)-(eN q k 2)*(eN q k 1)) 0).num.b),vi ((dO ((eN q k 0)*(eN q k 3)-(eN q k 2)*(eN q k 1)) 0).num.c),vi ((dO ((eN q k 0)*(eN q k 3)-(eN q k 2)*(eN q k 1)) 0).num.d),vi ((dO ((eN q k 0)*(eN q k 3)-(eN q k 2)*(eN q k 1)) 0).exp)]∧G≠t∧b5≠t∧Below w6.heap.size w6 w) ?_ ?_
  ·have n:Below w6.heap.size w6 w6:=Below.refl _ _
   refine Xy none (fun j=>[17].contains j) mixed ?_;intro w10 g;have e:=e.below g;have f:=f.below g;have p:=p.below g;have i:=btr i g;have n:=btr n g;refine Yb m<|Yo 0 rfl (fun _=>Xa rfl)<|Yi (k:=0) (u:=(dO (eN q k 0) 0)) (enc:=encD) (l:=r) 1 rfl trivial rfl rfl Xs Xb Xw p.rd (by rw [hr];exact (X9y L A (by decide))) rfl ?_;intro fS cB;refine Ye 2 rfl (Xz (l:=[vi ((dO (eN q k 0) 0).num.a),vi ((dO (eN q k 0) 0).num.b),vi ((dO (eN q k 0) 0).num.c),vi ((dO (eN q k 0) 0).num.d),vi ((dO (eN q k 0) 0).exp)]) rfl X6 cB rfl)<|Yo 3 rfl (fun _=>Xa rfl)<|Yi (k:=2) (u:=(dO (eN q k 2) 0)) (enc:=encD) (l:=r) 4 rfl trivial rfl rfl Xs Xb Xw p.rd (by rw [hr];exact (X9y L A (by decide))) rfl ?_;intro fT cC;refine Ye 5 rfl (Xz (l:=[vi ((dO (eN q k 2) 0).num.a),vi ((dO (eN q k 2) 0).num.b),vi ((dO (eN q k 2) 0).num.c),vi ((dO (eN q k 2) 0).num.d),vi ((dO (eN q k 2) 0).exp)]) rfl X6 cC rfl)<|Yo 6 rfl (fun _=>Xa rfl)<|Yi (k:=1) (u:=(dO (eN q k 1) 0)) (enc:=encD) (l:=r) 7 rfl trivial rfl rfl Xs Xb Xw p.rd (by rw [hr];exact (X9y L A (by decide))) rfl ?_;intro fU cD;refine Ye 8 rfl (Xz (l:=[vi ((dO (eN q k 1) 0).num.a),vi ((dO (eN q k 1) 0).num.b),vi ((dO (eN q k 1) 0).num.c),vi ((dO (eN q k 1) 0).num.d),vi ((dO (eN q k 1) 0).exp)]) rfl X6 cD rfl)<|Yo 9 rfl (fun _=>Xa rfl)<|Yi (k:=3) (u:=(dO (eN q k 3) 0)) (enc:=encD) (l:=r) 10 rfl trivial rfl rfl Xs Xb Xw p.rd (by rw [hr];exact (X9y L A (by decide))) rfl ?_;intro fV cE;refine Ye 11 rfl (Xz (l:=[vi ((dO (eN q k 3) 0).num.a),vi ((dO (eN q k 3) 0).num.b),vi ((dO (eN q k 3) 0).num.c),vi ((dO (eN q k 3) 0).num.d),vi ((dO (eN q k 3) 0).exp)]) rfl X6 cE rfl) ?_
   have o:Below w10.heap.size w10 w10:=Below.refl _ _
   refine Yc [0,1,2,3,4,5,6,7,8,9,10,11,12,13,14,15,16] 2 (fun a w=>∃ t,Fr a 88 [(0,.slice Al l.length cl),(2,.pointer (some ⟨G,0,none⟩)),(4,.pointer (some ⟨b5,0,none⟩)),(5,vi (k:Int)),(8,.pointer (some ⟨t,0,none⟩)),(16,vi (k:Int)),(54,.agg #[vi ((dO ((eN q k 0)*(eN q k 3)-(eN q k 2)*(eN q k 1)) 0).num.a),vi ((dO ((eN q k 0)*(eN q k 3)-(eN q k 2)*(eN q k 1)) 0).num.b),vi ((dO ((eN q k 0)*(eN q k 3)-(eN q k 2)*(eN q k 1)) 0).num.c),vi ((dO ((eN q k 0)*(eN q k 3)-(eN q k 2)*(eN q k 1)) 0).num.d),vi ((dO ((eN q k 0)*(eN q k 3)-(eN q k 2)*(eN q k 1)) 0).exp)]),(55,.bool true)]∧N.heap.size≤t∧Blk w t 86 [vi 0,vi 0,vi 0,vi 0,vi 0]∧G≠t∧b5≠t∧w10.heap.size≤t∧w6.heap.size≤t∧Away aE t∧AwayR l Al t∧Below w10.heap.size w10 w) ?_ ?_
   ·rintro a fW ⟨t,m,aF,B,U,W,cF,cG,dD,eE,g⟩;clear o;have o:=g;have i:=btr i g;have n:=btr n g;refine Yb m<|Y1 17<|Yh rfl trivial rfl (Vw [vi ((dO ((eN q k 0)*(eN q k 3)-(eN q k 2)*(eN q k 1)) 0).num.a),vi ((dO ((eN q k 0)*(eN q k 3)-(eN q k 2)*(eN q k 1)) 0).num.b),vi ((dO ((eN q k 0)*(eN q k 3)-(eN q k 2)*(eN q k 1)) 0).num.c),vi ((dO ((eN q k 0)*(eN q k 3)-(eN q k 2)*(eN q k 1)) 0).num.d),vi ((dO ((eN q k 0)*(eN q k 3)-(eN q k 2)*(eN q k 1)) 0).exp)] Xb B) ?_;rintro _ w12 ⟨E,hb⟩;have H:=B;have n:=Below.only n E cG;have o:=Below.only o E cF;have i:=Below.only i E aF;have B:=hb;refine Yo 18 rfl (fun _=>X0q rfl) ?_;refine Yd fun a m=>?_
    have cH:Below w6.heap.size w6 w12:=n
    exact ⟨t,m.sb,aF,B,U,W,cH⟩
   intro bL;refine Y2 12 16 ?_ ?_
   ·refine Yk rfl trivial (Vc (Xsg _ (eN q k 0) (eN q k 2) (eN q k 1) (eN q k 3) (X3x L A (by decide)) (X3x L A (by decide)) (X3x L A (by decide)) (X3x L A (by decide))) Xhv) (fun _ _ ⟨_,g⟩=>g) ?_;rintro _ fX ⟨rfl,g⟩;have e:=e.below g;have f:=f.below g;have p:=p.below g;have i:=btr i g;have n:=btr n g;have o:=btr o g;refine Yo 13 rfl (fun _=>Xa rfl)<|Yo 14 rfl (fun _=>X1 (vs:=[.agg #[vi ((dO ((eN q k 0)*(eN q k 3)-(eN q k 2)*(eN q k 1)) 0).num.a),vi ((dO ((eN q k 0)*(eN q k 3)-(eN q k 2)*(eN q k 1)) 0).num.b),vi ((dO ((eN q k 0)*(eN q k 3)-(eN q k 2)*(eN q k 1)) 0).num.c),vi ((dO ((eN q k 0)*(eN q k 3)-(eN q k 2)*(eN q k 1)) 0).num.d),vi ((dO ((eN q k 0)*(eN q k 3)-(eN q k 2)*(eN q k 1)) 0).exp)],.bool true]) rfl rfl)<|Yo 15 rfl (fun _=>X1 (vs:=[.agg #[vi ((dO ((eN q k 0)*(eN q k 3)-(eN q k 2)*(eN q k 1)) 0).num.a),vi ((dO ((eN q k 0)*(eN q k 3)-(eN q k 2)*(eN q k 1)) 0).num.b),vi ((dO ((eN q k 0)*(eN q k 3)-(eN q k 2)*(eN q k 1)) 0).num.c),vi ((dO ((eN q k 0)*(eN q k 3)-(eN q k 2)*(eN q k 1)) 0).num.d),vi ((dO ((eN q k 0)*(eN q k 3)-(eN q k 2)*(eN q k 1)) 0).exp)],.bool true]) rfl rfl)<|Y1 16 ?_;refine Yk rfl trivial (X3 (zs:=[vi 0,vi 0,vi 0,vi 0,vi 0]) X0l rfl) (fun _ _ ⟨_,_,_,h,_⟩=>h) ?_;rintro _ fY ⟨b44,rfl,a9,g,eF⟩
    have aW:G≠b44:=by have:=e.lt;omega
    have aX:b5≠b44:=by have:=f.lt;omega
    have cJ:=Q0 i.size a9;have cK:=Q0 n.size a9;have cM:=Q0 o.size a9;have aM:=p.away a9;have aY:=(y.below' i).away a9;have i:=btr i g;have n:=btr n g;have o:=btr o g;exact fun a m=>bL _ a _ rfl ⟨b44,m.sb,cJ,eF,aW,aX,cM,cK,aM,aY,o⟩
   refine Yk rfl trivial (X3 (zs:=[vi 0,vi 0,vi 0,vi 0,vi 0]) X0l rfl) (fun _ _ ⟨_,_,_,h,_⟩=>h) ?_;rintro _ fZ ⟨b45,rfl,aA,g,aZ⟩
   have b0:G≠b45:=by have:=e.lt;omega
   have b1:b5≠b45:=by have:=f.lt;omega
   have cO:=Q0 i.size aA;have cP:=Q0 n.size aA;have cQ:=Q0 o.size aA;have aN:=p.away aA;have b2:=(y.below' i).away aA;have i:=btr i g;have n:=btr n g;have o:=btr o g;refine Y1 12<|Yk rfl trivial (Vc (Xsg _ (eN q k 0) (eN q k 2) (eN q k 1) (eN q k 3) (X3x L A (by decide)) (X3x L A (by decide)) (X3x L A (by decide)) (X3x L A (by decide))) Xhv) (fun _ _ ⟨_,g⟩=>g) ?_;rintro _ g7 ⟨rfl,g⟩;have aZ:=aZ.below g;have i:=btr i g;have n:=btr n g;have o:=btr o g;refine Yo 13 rfl (fun _=>Xa rfl)<|Yo 14 rfl (fun _=>X1 (vs:=[.agg #[vi ((dO ((eN q k 0)*(eN q k 3)-(eN q k 2)*(eN q k 1)) 0).num.a),vi ((dO ((eN q k 0)*(eN q k 3)-(eN q k 2)*(eN q k 1)) 0).num.b),vi ((dO ((eN q k 0)*(eN q k 3)-(eN q k 2)*(eN q k 1)) 0).num.c),vi ((dO ((eN q k 0)*(eN q k 3)-(eN q k 2)*(eN q k 1)) 0).num.d),vi ((dO ((eN q k 0)*(eN q k 3)-(eN q k 2)*(eN q k 1)) 0).exp)],.bool true]) rfl rfl)<|Yo 15 rfl (fun _=>X1 (vs:=[.agg #[vi ((dO ((eN q k 0)*(eN q k 3)-(eN q k 2)*(eN q k 1)) 0).num.a),vi ((dO ((eN q k 0)*(eN q k 3)-(eN q k 2)*(eN q k 1)) 0).num.b),vi ((dO ((eN q k 0)*(eN q k 3)-(eN q k 2)*(eN q k 1)) 0).num.c),vi ((dO ((eN q k 0)*(eN q k 3)-(eN q k 2)*(eN q k 1)) 0).num.d),vi ((dO ((eN q k 0)*(eN q k 3)-(eN q k 2)*(eN q k 1)) 0).exp)],.bool true]) rfl rfl) ?_;exact fun a m=>bL _ a _ rfl ⟨b45,m.sb,cO,aZ,b0,b1,cQ,cP,aN,b2,o⟩
  rintro a w17 ⟨t,m,aF,B,U,W,g⟩;have e:=e.below g;have f:=f.below g;have i:=btr i g;refine eD _ _<|Q5 fun _ eH=>?_;refine X09 (fun a w=>∃ x,Fr a 88 [(0,.slice Al l.length cl),(2,.pointer (some ⟨G,0,none⟩)),(4,.pointer (some ⟨b5,0,none⟩)),(5,vi (k:Int)),(9,.bool true),(10,.pointer (some ⟨x,0,none⟩)),(11,.bool true),(16,vi (k:Int))]∧N.heap.size≤x∧Blk w x 86 [vi ((dO (q.getD k 0*mnN q k) 0).num.a),vi ((dO (q.getD k 0*mnN q k) 0).num.b),vi ((dO (q.getD k 0*mnN q k) 0).num.c),vi ((dO (q.getD k 0*mnN q k) 0).num.d),vi ((dO (q.getD k 0*mnN q k) 0).exp)]∧G≠x∧b5≠x∧t≠x∧Below w17.heap.size w17 w) ?_ ?_
  ·have n:Below w17.heap.size w17 w17:=Below.refl _ _
   refine Xy none (fun j=>[10].contains j) mixed ?_;intro w18 g;have e:=e.below g;have f:=f.below g;have B:=B.below g;have i:=btr i g;have n:=btr n g;refine Yb m<|Yo 0 rfl (fun _=>Xa rfl)<|Yo 1 rfl (fun _=>Xa rfl)<|Yi (k:=k) (u:=(dO (q.getD k 0) 0)) (enc:=encD) (l:=l) 2 rfl trivial rfl rfl Xs Xb Xw (y.below' i) (by rw [bE];exact L.get (by omega)) rfl ?_;intro g8 cR;refine Ye 3 rfl (Xz (l:=[vi ((dO (q.getD k 0) 0).num.a),vi ((dO (q.getD k 0) 0).num.b),vi ((dO (q.getD k 0) 0).num.c),vi ((dO (q.getD k 0) 0).num.d),vi ((dO (q.getD k 0) 0).exp)]) rfl X6 cR rfl)<|Ye 4 rfl (Vn X6 B) ?_
   have o:Below w18.heap.size w18 w18:=Below.refl _ _
   refine Yc [0,1,2,3,4,5,6,7,8,9] 2 (fun a w=>∃ x,Fr a 88 [(0,.slice Al l.length cl),(2,.pointer (some ⟨G,0,none⟩)),(4,.pointer (some ⟨b5,0,none⟩)),(5,vi (k:Int)),(9,.bool true),(10,.pointer (some ⟨x,0,none⟩)),(16,vi (k:Int)),(63,.agg #[vi ((dO (q.getD k 0*mnN q k) 0).num.a),vi ((dO (q.getD k 0*mnN q k) 0).num.b),vi ((dO (q.getD k 0*mnN q k) 0).num.c),vi ((dO (q.getD k 0*mnN q k) 0).num.d),vi ((dO (q.getD k 0*mnN q k) 0).exp)]),(64,.bool true)]∧N.heap.size≤x∧Blk w x 86 [vi 0,vi 0,vi 0,vi 0,vi 0]∧G≠x∧b5≠x∧t≠x∧w18.heap.size≤x∧w17.heap.size≤x∧AwayR l Al x∧Below w18.heap.size w18 w) ?_ ?_
   ·rintro a g9 ⟨x,m,aG,z,aB,aC,M,cS,cU,eI,g⟩;clear o;have o:=g;have i:=btr i g;have n:=btr n g;refine Yb m<|Y1 10<|Yh rfl trivial rfl (Vw [vi ((dO (q.getD k 0*mnN q k) 0).num.a),vi ((dO (q.getD k 0*mnN q k) 0).num.b),vi ((dO (q.getD k 0*mnN q k) 0).num.c),vi ((dO (q.getD k 0*mnN q k) 0).num.d),vi ((dO (q.getD k 0*mnN q k) 0).exp)] Xb z) ?_;rintro _ w20 ⟨E,hb⟩;have H:=z;have n:=Below.only n E cU;have o:=Below.only o E cS;have i:=Below.only i E aG;have z:=hb;refine Yo 11 rfl (fun _=>X0q rfl) ?_;refine Yd fun a m=>?_
    have cH:Below w17.heap.size w17 w20:=n
    exact ⟨x,m.sb,aG,z,aB,aC,M,cH⟩
   intro bM;refine Y2 5 9 ?_ ?_
   ·refine Yf rfl trivial (EfW.mono (X0x (vs:=[.agg #[vi ((dO (q.getD k 0) 0).num.a),vi ((dO (q.getD k 0) 0).num.b),vi ((dO (q.getD k 0) 0).num.c),vi ((dO (q.getD k 0) 0).num.d),vi ((dO (q.getD k 0) 0).exp)],.agg #[vi ((dO ((eN q k 0)*(eN q k 3)-(eN q k 2)*(eN q k 1)) 0).num.a),vi ((dO ((eN q k 0)*(eN q k 3)-(eN q k 2)*(eN q k 1)) 0).num.b),vi ((dO ((eN q k 0)*(eN q k 3)-(eN q k 2)*(eN q k 1)) 0).num.c),vi ((dO ((eN q k 0)*(eN q k 3)-(eN q k 2)*(eN q k 1)) 0).num.d),vi ((dO ((eN q k 0)*(eN q k 3)-(eN q k 2)*(eN q k 1)) 0).exp)]]) rfl X4w (by have hq:=Xbc w18 (dO (q.getD k 0) 0) (dO ((eN q k 0)*(eN q k 3)-(eN q k 2)*(eN q k 1)) 0);rw [Xii L A,Qq,Option.isSome_some] at hq;exact hq)) (fun _ _ h=>⟨fun _=>by obtain ⟨rfl,g⟩:=h;exact g,h⟩)) ?_;rintro _ gA ⟨rfl,g⟩;have e:=e.below g;have f:=f.below g;have B:=B.below g;have i:=btr i g;have n:=btr n g;have o:=btr o g;refine Yo 6 rfl (fun _=>Xa rfl)<|Yo 7 rfl (fun _=>X1 (vs:=[.agg #[vi ((dO (q.getD k 0*mnN q k) 0).num.a),vi ((dO (q.getD k 0*mnN q k) 0).num.b),vi ((dO (q.getD k 0*mnN q k) 0).num.c),vi ((dO (q.getD k 0*mnN q k) 0).num.d),vi ((dO (q.getD k 0*mnN q k) 0).exp)],.bool true]) rfl rfl)<|Yo 8 rfl (fun _=>X1 (vs:=[.agg #[vi ((dO (q.getD k 0*mnN q k) 0).num.a),vi ((dO (q.getD k 0*mnN q k) 0).num.b),vi ((dO (q.getD k 0*mnN q k) 0).num.c),vi ((dO (q.getD k 0*mnN q k) 0).num.d),vi ((dO (q.getD k 0*mnN q k) 0).exp)],.bool true]) rfl rfl)<|Y1 9 ?_;refine Yk rfl trivial (X3 (zs:=[vi 0,vi 0,vi 0,vi 0,vi 0]) X0l rfl) (fun _ _ ⟨_,_,_,h,_⟩=>h) ?_;rintro _ gB ⟨b51,rfl,aH,g,eJ⟩
    have b4:G≠b51:=by have:=e.lt;omega
    have b6:b5≠b51:=by have:=f.lt;omega
    have aO:t≠b51:=by have:=B.lt;omega
    have cV:=Q0 i.size aH;have cW:=Q0 n.size aH;have cX:=Q0 o.size aH;have b7:=(y.below' i).away aH;have i:=btr i g;have n:=btr n g;have o:=btr o g;exact fun a m=>bM _ a _ rfl ⟨b51,m.sb,cV,eJ,b4,b6,aO,cX,cW,b7,o⟩
   refine Yk rfl trivial (X3 (zs:=[vi 0,vi 0,vi 0,vi 0,vi 0]) X0l rfl) (fun _ _ ⟨_,_,_,h,_⟩=>h) ?_;rintro _ fK ⟨b52,rfl,aI,g,b8⟩
   have b9:G≠b52:=by have:=e.lt;omega
   have bC:b5≠b52:=by have:=f.lt;omega
   have aP:t≠b52:=by have:=B.lt;omega
   have d5:=Q0 i.size aI;have d6:=Q0 n.size aI;have d7:=Q0 o.size aI;have bD:=(y.below' i).away aI;have i:=btr i g;have n:=btr n g;have o:=btr o g;refine Y1 5<|Yf rfl trivial (EfW.mono (X0x (vs:=[.agg #[vi ((dO (q.getD k 0) 0).num.a),vi ((dO (q.getD k 0) 0).num.b),vi ((dO (q.getD k 0) 0).num.c),vi ((dO (q.getD k 0) 0).num.d),vi ((dO (q.getD k 0) 0).exp)],.agg #[vi ((dO ((eN q k 0)*(eN q k 3)-(eN q k 2)*(eN q k 1)) 0).num.a),vi ((dO ((eN q k 0)*(eN q k 3)-(eN q k 2)*(eN q k 1)) 0).num.b),vi ((dO ((eN q k 0)*(eN q k 3)-(eN q k 2)*(eN q k 1)) 0).num.c),vi ((dO ((eN q k 0)*(eN q k 3)-(eN q k 2)*(eN q k 1)) 0).num.d),vi ((dO ((eN q k 0)*(eN q k 3)-(eN q k 2)*(eN q k 1)) 0).exp)]]) rfl X4w (by have hq:=Xbc fK (dO (q.getD k 0) 0) (dO ((eN q k 0)*(eN q k 3)-(eN q k 2)*(eN q k 1)) 0);rw [Xii L A,Qq,Option.isSome_some] at hq;exact hq)) (fun _ _ h=>⟨fun _=>by obtain ⟨rfl,g⟩:=h;exact g,h⟩)) ?_;rintro _ gC ⟨rfl,g⟩;have b8:=b8.below g;have i:=btr i g;have n:=btr n g;have o:=btr o g;refine Yo 6 rfl (fun _=>Xa rfl)<|Yo 7 rfl (fun _=>X1 (vs:=[.agg #[vi ((dO (q.getD k 0*mnN q k) 0).num.a),vi ((dO (q.getD k 0*mnN q k) 0).num.b),vi ((dO (q.getD k 0*mnN q k) 0).num.c),vi ((dO (q.getD k 0*mnN q k) 0).num.d),vi ((dO (q.getD k 0*mnN q k) 0).exp)],.bool true]) rfl rfl)<|Yo 8 rfl (fun _=>X1 (vs:=[.agg #[vi ((dO (q.getD k 0*mnN q k) 0).num.a),vi ((dO (q.getD k 0*mnN q k) 0).num.b),vi ((dO (q.getD k 0*mnN q k) 0).num.c),vi ((dO (q.getD k 0*mnN q k) 0).num.d),vi ((dO (q.getD k 0*mnN q k) 0).exp)],.bool true]) rfl rfl) ?_;exact fun a m=>bM _ a _ rfl ⟨b52,m.sb,d5,b8,b9,bC,aP,d7,d6,bD,o⟩
  rintro a eK ⟨x,m,aG,z,aB,aC,M,g⟩;have e:=e.below g;have f:=f.below g;have i:=btr i g;refine eH _ _<|Zs m fun _ eL=>?_;refine Za rfl<|ZX eL fun a m _ bN=>?_;refine Zs m fun _ eM=>?_;refine Zm rfl<|Ze (X15 rfl rfl)<|Zt eM fun a m=>?_
  refine Xi m rfl (fun aD=>?_) (fun aD=>?_)
  ·have d8:=aD
   have d9:k=1:=by have h9:=aD;simp at h9;omega
   refine Zr m<|Za rfl<|Zx bN fun a m _ eO=>?_;refine Zm rfl<|Ze (Vn X6 f)<|Ze (Vn X6 z)<|Zf (X6h (cs:=[]) (vs:=[.agg #[vi ((dO (dtN q k) 0).num.a),vi ((dO (dtN q k) 0).num.b),vi ((dO (dtN q k) 0).num.c),vi ((dO (dtN q k) 0).num.d),vi ((dO (dtN q k) 0).exp)],.agg #[vi ((dO (q.getD k 0*mnN q k) 0).num.a),vi ((dO (q.getD k 0*mnN q k) 0).num.b),vi ((dO (q.getD k 0*mnN q k) 0).num.c),vi ((dO (q.getD k 0*mnN q k) 0).num.d),vi ((dO (q.getD k 0*mnN q k) 0).exp)]]) rfl rfl Xh8 (by have hq:=Xrr eK (dO (dtN q k) 0) (dO (q.getD k 0*mnN q k) 0);rw [Xpk L A d9,Qq,Option.isSome_some] at hq;exact hq)) ?_;rintro _ gD ⟨rfl,g⟩;have e:=e.below g;have f:=f.below g;have z:=z.below g;have i:=btr i g;refine Zm rfl<|Ze (X1 (vs:=[.agg #[vi ((dO (dtN q (k+1)) 0).num.a),vi ((dO (dtN q (k+1)) 0).num.b),vi ((dO (dtN q (k+1)) 0).num.c),vi ((dO (dtN q (k+1)) 0).num.d),vi ((dO (dtN q (k+1)) 0).exp)],.bool true]) rfl rfl)<|Ze (X1 (vs:=[.agg #[vi ((dO (dtN q (k+1)) 0).num.a),vi ((dO (dtN q (k+1)) 0).num.b),vi ((dO (dtN q (k+1)) 0).num.c),vi ((dO (dtN q (k+1)) 0).num.d),vi ((dO (dtN q (k+1)) 0).exp)],.bool true]) rfl rfl)<|Zf (X3 (zs:=[vi 0,vi 0,vi 0,vi 0,vi 0]) X0l rfl) ?_;rintro _ gE ⟨b58,rfl,bO,g,aJ⟩
   have eP:G≠b58:=by have:=e.lt;omega
   have eQ:b5≠b58:=by have:=f.lt;omega
   have dE:x≠b58:=by have:=z.lt;omega
   have dA:=Q0 i.size bO;have eR:=(y.below' i).away bO;have e:=e.below g;have f:=f.below g;have i:=btr i g;refine Zo (Vw [vi ((dO (dtN q (k+1)) 0).num.a),vi ((dO (dtN q (k+1)) 0).num.b),vi ((dO (dtN q (k+1)) 0).num.c),vi ((dO (dtN q (k+1)) 0).num.d),vi ((dO (dtN q (k+1)) 0).exp)] Xb aJ) ?_;rintro _ fL ⟨E,hb⟩;have H:=aJ;have e:=e.only E (by omega);have f:=f.only E (by omega);have i:=Below.only i E dA;have aJ:=hb;refine Za rfl<|ZX eO fun a m _ eS=>?_;refine Q5 fun _ eT=>?_;refine X09 (fun a w=>Fr a 88 [(0,.slice Al l.length cl),(2,.pointer (some ⟨G,0,none⟩)),(4,.pointer (some ⟨b5,0,none⟩)),(13,.pointer (some ⟨b58,0,none⟩)),(16,vi (k:Int)),(83,.bool false)]∧fL=w) ?_ ?_
   ·refine Zr m<|Zm rfl<|Ze (X0p rfl)<|Zm rfl<|Zv (gW rfl) (Xa rfl) ?_;refine Zv (gW rfl) (X0p rfl) ?_;refine Ze (Xd rfl rfl rfl)<|Zm rfl<|Zv (gW rfl) (Xa rfl) ?_;refine Zv (gW rfl) (X0p rfl) ?_;refine Ze (Xd rfl rfl rfl) ?_;refine Zn fun a m=>?_;exact ⟨m.sb,rfl⟩
   rintro a _ ⟨m,rfl⟩;refine eT _ _<|X4p m rfl ?_;refine Q7<|eS _ _<|Zr m<|Ze (Vn X6 aJ)<|Zo (Vw [vi ((dO (dtN q (k+1)) 0).num.a),vi ((dO (dtN q (k+1)) 0).num.b),vi ((dO (dtN q (k+1)) 0).num.c),vi ((dO (dtN q (k+1)) 0).num.d),vi ((dO (dtN q (k+1)) 0).exp)] Xb f) ?_;rintro _ gF ⟨E,hb⟩;have H:=f;have e:=e.only E (by omega);have i:=Below.only i E aQ;have f:=hb;refine Zn fun a m=>?_;refine Xk<|bH _ _<|Zr m<|Ze (X02 rfl rfl (by omega) (by omega))<|Zm rfl ?_;refine Zn fun a m=>?_;refine Xn ?_;exact ⟨k+1,⟨m.sb,(by omega),e,f,i⟩,(by omega)⟩
  have d8:=aD
  have d9:k≠1:=by have h9:=aD;simp at h9;omega
  refine Q7<|bN _ _<|Zs m fun _ eU=>?_;refine Zm rfl<|Ze (Vn X6 f)<|Ze (Vn X6 z)<|Zf (X6h (cs:=[]) (vs:=[.agg #[vi ((dO (dtN q k) 0).num.a),vi ((dO (dtN q k) 0).num.b),vi ((dO (dtN q k) 0).num.c),vi ((dO (dtN q k) 0).num.d),vi ((dO (dtN q k) 0).exp)],.agg #[vi ((dO (q.getD k 0*mnN q k) 0).num.a),vi ((dO (q.getD k 0*mnN q k) 0).num.b),vi ((dO (q.getD k 0*mnN q k) 0).num.c),vi ((dO (q.getD k 0*mnN q k) 0).num.d),vi ((dO (q.getD k 0*mnN q k) 0).exp)]]) rfl rfl Xcp (by have hq:=Xnu eK (dO (dtN q k) 0) (dO (q.getD k 0*mnN q k) 0);rw [Xr7 L A d9,Qq,Option.isSome_some] at hq;exact hq)) ?_;rintro _ gG ⟨rfl,g⟩;have e:=e.below g;have f:=f.below g;have z:=z.below g;have i:=btr i g;refine Zm rfl<|Ze (X1 (vs:=[.agg #[vi ((dO (dtN q (k+1)) 0).num.a),vi ((dO (dtN q (k+1)) 0).num.b),vi ((dO (dtN q (k+1)) 0).num.c),vi ((dO (dtN q (k+1)) 0).num.d),vi ((dO (dtN q (k+1)) 0).exp)],.bool true]) rfl rfl)<|Ze (X1 (vs:=[.agg #[vi ((dO (dtN q (k+1)) 0).num.a),vi ((dO (dtN q (k+1)) 0).num.b),vi ((dO (dtN q (k+1)) 0).num.c),vi ((dO (dtN q (k+1)) 0).num.d),vi ((dO (dtN q (k+1)) 0).exp)],.bool true]) rfl rfl)<|Zf (X3 (zs:=[vi 0,vi 0,vi 0,vi 0,vi 0]) X0l rfl) ?_;rintro _ gI ⟨b62,rfl,bP,g,aK⟩
  have eV:G≠b62:=by have:=e.lt;omega
  have eW:b5≠b62:=by have:=f.lt;omega
  have dF:x≠b62:=by have:=z.lt;omega
  have dB:=Q0 i.size bP;have eX:=(y.below' i).away bP;have e:=e.below g;have f:=f.below g;have i:=btr i g;refine Zo (Vw [vi ((dO (dtN q (k+1)) 0).num.a),vi ((dO (dtN q (k+1)) 0).num.b),vi ((dO (dtN q (k+1)) 0).num.c),vi ((dO (dtN q (k+1)) 0).num.d),vi ((dO (dtN q (k+1)) 0).exp)] Xb aK) ?_;rintro _ fM ⟨E,hb⟩;have H:=aK;have e:=e.only E (by omega);have f:=f.only E (by omega);have i:=Below.only i E dB;have aK:=hb;refine Za rfl<|ZX eU fun a m _ eY=>?_;refine Q5 fun _ eZ=>?_;refine X09 (fun a w=>Fr a 88 [(0,.slice Al l.length cl),(2,.pointer (some ⟨G,0,none⟩)),(4,.pointer (some ⟨b5,0,none⟩)),(13,.pointer (some ⟨b62,0,none⟩)),(16,vi (k:Int)),(83,.bool false)]∧fM=w) ?_ ?_
  ·refine Zr m<|Zm rfl<|Ze (X0p rfl)<|Zm rfl<|Zv (gW rfl) (Xa rfl) ?_;refine Zv (gW rfl) (X0p rfl) ?_;refine Ze (Xd rfl rfl rfl)<|Zm rfl<|Zv (gW rfl) (Xa rfl) ?_;refine Zv (gW rfl) (X0p rfl) ?_;refine Ze (Xd rfl rfl rfl) ?_;refine Zn fun a m=>?_;exact ⟨m.sb,rfl⟩
  rintro a _ ⟨m,rfl⟩;refine eZ _ _<|X4p m rfl ?_;refine Q7<|eY _ _<|Zr m<|Ze (Vn X6 aK)<|Zo (Vw [vi ((dO (dtN q (k+1)) 0).num.a),vi ((dO (dtN q (k+1)) 0).num.b),vi ((dO (dtN q (k+1)) 0).num.c),vi ((dO (dtN q (k+1)) 0).num.d),vi ((dO (dtN q (k+1)) 0).exp)] Xb f) ?_;rintro _ gJ ⟨E,hb⟩;have H:=f;have e:=e.only E (by omega);have i:=Below.only i E aQ;have f:=hb;refine Zn fun a m=>?_;refine Xk<|bH _ _<|Zr m<|Ze (X02 rfl rfl (by omega) (by omega))<|Zm rfl ?_;refine Zn fun a m=>?_;refine Xn ?_;exact ⟨k+1,⟨m.sb,(by omega),e,f,i⟩,(by omega)⟩
 have bQ:=C;have C:=Q1 C
 have A:k=3:=by have:=C;omega
 refine Q9<|Xm<|Xm<|X06 ?_;refine fD _ _<|Zs m fun _ f7=>?_;refine Ze (Vn X6 f)<|Zo (Vw [vi ((dO (dtN q k) 0).num.a),vi ((dO (dtN q k) 0).num.b),vi ((dO (dtN q k) 0).num.c),vi ((dO (dtN q k) 0).num.d),vi ((dO (dtN q k) 0).exp)] Xb e) ?_;rintro _ gK ⟨E,hb⟩;have H:=e;have i:=Below.only i E dH;have e:=hb;refine Za rfl<|Zt f7 fun a m=>?_
 refine Q6 (X4 m (X0s m rfl (ResV.cellN (l:=[vi ((dO (dtN q k) 0).num.a),vi ((dO (dtN q k) 0).num.b),vi ((dO (dtN q k) 0).num.c),vi ((dO (dtN q k) 0).num.d),vi ((dO (dtN q k) 0).exp)]) rfl X6 (e.at 0) rfl) rfl) ?_)
 subst A
 exact ⟨rfl,i⟩
theorem Xyd(L:World)(Al:Option Addr)(cl:Nat)(l:List Dy)(q:Rd L L.heap.size 86 encD Al l)(k:Nat)(hk:k<24)(M:l=clB k) : Ret Tryz.prog 76 [.agg #[.slice Al l.length cl]] L (fun v w=>v=.bool true∧Below L.heap.size L w):=by
 obtain ⟨hS,aW,aX⟩:=Xhp hk
 have N:l.length=9:=by rw [M];exact hS.blen
 have aY:mulBI l (trB l)=some (clB 0):=by rw [M];exact Xqi hk
 have b8:(clB 0).length=9:=rfl
 refine enter Tryz.func76 rfl 59 rfl rfl ?_;intro a i
 have g:=bz L
 refine Zs i fun _ aZ=>?_;refine Zf (X0b (zs:=[.slice Al l.length cl]) rfl rfl) ?_;rintro _ w1 ⟨b3,rfl,b0,f,j⟩;have b6:=Q0 g.size b0;have g:=btr g f;refine Za rfl<|ZX aZ fun a i _ b1=>?_;refine Q5 fun _ b2=>?_;refine X09 (fun a w=>Fr a 59 [(1,.pointer (some ⟨b3,0,none⟩)),(17,.bool (((l.length:Int) != 9)||(l.any (fun x=>!reaB x))))]∧Below w1.heap.size w1 w) ?_ ?_
 ·have p:Below w1.heap.size w1 w1:=Below.refl _ _
  refine Zr i<|Ze (Vd rfl X0v 0)<|Ze (X0 rfl X0c (j.at 0))<|Ze (X22 rfl Xs)<|Ze (X3w rfl rfl)<|Zm rfl ?_
  refine Zg 13 rfl (fun m=>?_) (fun m=>?_)
  ·refine Zp (gP m) ?_;refine Zp (gP m) ?_;refine Zp (gP m) ?_;refine Ze (Xh rfl m rfl) ?_;refine Zn fun a i=>?_
   have G:Below w1.heap.size w1 w1:=p
   exact ⟨i.sub ⟨rfl,X2 rfl (by first|rfl|(simp only [m,bs];done)|simp [m]),trivial⟩,G⟩
  refine Zv (gW m) (Vd rfl X0v 0) ?_;refine Zv (gW m) (X0 rfl X0c (j.at 0)) ?_;refine Zk (gW m) (Vc (Xyk _ Al cl l (q.below' g).top 125 [] Xqu (fun x=>!reaB x) (fun x w1 b9=>Xzw w1 x) (by rw [N];decide)) Xm4) ?_;rintro _ w2 ⟨rfl,f⟩;have g:=btr g f;have p:=btr p f;refine Ze (Xd rfl m rfl) ?_;refine Zn fun a i=>?_
  have G:Below w1.heap.size w1 w2:=p
  exact ⟨i.sub ⟨rfl,X2 rfl (by first|rfl|(simp only [m,bs];done)|simp [m]),trivial⟩,G⟩
 rintro a w3 ⟨i,f⟩;have j:=j.below f;have g:=btr g f;refine b2 _ _ ?_
 refine Xi i rfl (fun H=>?_) (fun H=>?_)
 ·have aF:=H
  rw [N,M,aX] at H;simp at H
 have aF:=H;refine Q7<|b1 _ _<|Q5 fun _ b4=>?_;refine Xy none (fun _=>false) mixed ?_;intro w4 f;have j:=j.below f;have g:=btr g f;refine Yb i<|Yo 0 rfl (fun _=>Vd rfl X0v 0)<|Ye 1 rfl (X0 rfl X0c (j.at 0))<|Yo 2 rfl (fun _=>Vd rfl X0v 0)<|Ye 3 rfl (X0 rfl X0c (j.at 0))<|Y1 4 ?_;refine Yk rfl trivial (Vc (Xse _ Al cl l (q.below' g).top N) Xhs) (fun _ _ ⟨A9,c9,_,Q,f⟩=>f) ?_;rintro _ w5 ⟨A9,c9,rfl,Q,f⟩;have Q:=Q.lower g.size;have j:=j.below f;have g:=btr g f;refine Y1 5<|Yf rfl trivial (EfW.mono (X0x (vs:=[.slice Al l.length cl,.slice A9 (trB l).length c9]) rfl Xde (by have hq:=Xn1 w5 Al cl l (q.below' g).top A9 c9 (trB l) Q.rd.top N (X9j l);rw [aY,Qq,Option.isSome_some] at hq;exact hq)) (fun _ _ h=>⟨fun _=>by obtain ⟨B,C,rfl,e,f⟩:=h;exact f,h⟩)) ?_;rintro _ w6 ⟨B,C,rfl,e,f⟩;have e:=e.lower g.size;have j:=j.below f;have g:=btr g f;refine Yo 6 rfl (fun _=>Xa rfl)<|Yo 7 rfl (fun _=>X1 (vs:=[.slice B (clB 0).length C,.bool true]) rfl rfl)<|Yo 8 rfl (fun _=>X1 (vs:=[.slice B (clB 0).length C,.bool true]) rfl rfl)<|Yo 9 rfl (fun _=>X0q rfl)<|Yo 10 rfl (fun _=>X0q rfl) ?_;refine Yd fun a i=>?_;refine b4 _ _<|Zs i fun _ aG=>?_;refine Ze (Vd rfl X0v 0)<|Ze (X0 rfl X0c (j.at 0))<|Zf (Vc (Xx2 _ Al cl l (q.below' g).top (qN9 k) hS (by rw [M];rfl)) Xpb) ?_;rintro _ w7 ⟨rfl,f⟩;have e:=e.below f;have g:=btr g f;refine Zm rfl<|Ze (X1 (vs:=[.agg #[vi ((dO (dtN (qN9 k) 3) 0).num.a),vi ((dO (dtN (qN9 k) 3) 0).num.b),vi ((dO (dtN (qN9 k) 3) 0).num.c),vi ((dO (dtN (qN9 k) 3) 0).num.d),vi ((dO (dtN (qN9 k) 3) 0).exp)],.bool true]) rfl rfl)<|Ze (X1 (vs:=[.agg #[vi ((dO (dtN (qN9 k) 3) 0).num.a),vi ((dO (dtN (qN9 k) 3) 0).num.b),vi ((dO (dtN (qN9 k) 3) 0).num.c),vi ((dO (dtN (qN9 k) 3) 0).num.d),vi ((dO (dtN (qN9 k) 3) 0).exp)],.bool true]) rfl rfl)<|Zf (X3 (zs:=[vi 0,vi 0,vi 0,vi 0,vi 0]) X0l rfl) ?_;rintro _ w8 ⟨bC,rfl,I,f,t⟩
 have a9:=Q0 g.size I;have aH:=(q.below' g).away I;have D:=e.away I;have e:=e.below f;have g:=btr g f;refine Zo (Vw [vi ((dO (dtN (qN9 k) 3) 0).num.a),vi ((dO (dtN (qN9 k) 3) 0).num.b),vi ((dO (dtN (qN9 k) 3) 0).num.c),vi ((dO (dtN (qN9 k) 3) 0).num.d),vi ((dO (dtN (qN9 k) 3) 0).exp)] Xb t) ?_;rintro _ w9 ⟨ho,hb⟩;have aI:=t;have e:=e.onlyA ho D;have g:=Below.only g ho a9;have t:=hb;refine Za rfl<|ZX aG fun a i _ aJ=>?_;refine Q5 fun _ aK=>?_;refine X09 (fun a w=>Fr a 59 [(3,.slice B (clB 0).length C),(43,.bool (!decide ((dO (dtN (qN9 k) 3) 0)=(⟨⟨1,0,0,0⟩,0⟩ : Dy))))]∧Below w9.heap.size w9 w) ?_ ?_
 ·have p:Below w9.heap.size w9 w9:=Below.refl _ _
  refine Xy none (fun _=>false) mixed ?_;intro bD f;have t:=t.below f;have g:=btr g f;have p:=btr p f;refine Yb i<|Yo 0 rfl (fun _=>Xa rfl)<|Yo 1 rfl (fun _=>X0p rfl)<|Yo 2 rfl (fun _=>Xa rfl)<|Yu 3 rfl (gW rfl) (fun _=>Xa rfl) ?_;refine Yu 4 rfl (gW rfl) (fun _=>X0p rfl) ?_;refine Yo 5 rfl (fun _=>Xd rfl rfl rfl)<|Yo 6 rfl (fun _=>Xa rfl)<|Yv 7 rfl (gW rfl) (Vn X6 t) ?_;refine Y1 8<|Yk rfl ⟨_,_,rfl,rfl,rfl⟩ (Vc (Xj7 _ 1) X8q) (fun _ _ ⟨_,f⟩=>f) ?_;rintro _ w11 ⟨rfl,f⟩;have g:=btr g f;have p:=btr p f;refine Yu 9 rfl (gW rfl) (fun _=>Xaq rfl rfl X8m (fun w=>eqD 9997 (dO (dtN (qN9 k) 3) 0) (⟨⟨1,0,0,0⟩,0⟩ : Dy) w)) ?_;refine Yo 10 rfl (fun _=>Xd rfl rfl rfl) ?_;refine Yd fun a i=>?_
  have G:Below w9.heap.size w9 w11:=p
  exact ⟨i.sb,G⟩
 rintro a bE ⟨i,f⟩;have e:=e.below f;have g:=btr g f;refine aK _ _ ?_
 refine Xi i rfl (fun z=>?_) (fun z=>?_)
 ·have aA:=z;have h9:=z;rw [aW] at h9;simp [dO] at h9
 have aA:=z;refine Q7<|aJ _ _<|Q5 fun _ aL=>?_;refine Zs i fun _ aM=>?_;refine Zm rfl<|Ze (X22 rfl Xs)<|Zm rfl<|Zt aM fun a i=>?_;refine Q8<|X04 (σ:=Nat) (fun (n:Nat) (a:Act) (w:World)=>Fr a 59 [(44,.slice B (clB 0).length C),(45,vi ((clB 0).length:Int)),(46,vi (n:Int))]∧(n≤9)∧Own w L.heap.size 86 5 encD B C (clB 0)∧Below L.heap.size L w) (fun (n:Nat)=>9-n) 0 ?_ ?_
 ·exact ⟨i.sb,(by omega),e,g⟩
 rintro n a bF ⟨i,hn,e,g⟩;refine Zs i fun _ aN=>?_;refine Ze (X19 rfl rfl)<|ZX aN fun a i _ aO=>?_
 refine Xi i rfl (fun o=>?_) (fun o=>?_)
 ·have aB:=o;have o:=Q2 o
  obtain ⟨bG,b7⟩:=Xr (l:=(clB 0)) (k:=n) (by omega)
  have aP:n<9:=by have:=o;omega
  have b5:=Xwf aP;refine Q7<|aO _ _<|Q5 fun _ aQ=>?_;refine Q8<|Zs i fun _ aR=>?_;refine Zm rfl<|Zi (k:=n) (u:=(dO (if n % 4=0 then 1 else 0) 0)) (enc:=encD) (l:=(clB 0)) trivial rfl rfl Xs Xb Xw e.rd b5 rfl ?_;intro bH aC;refine Ze (Xz (l:=[vi ((dO (if n % 4=0 then 1 else 0) 0).num.a),vi ((dO (if n % 4=0 then 1 else 0) 0).num.b),vi ((dO (if n % 4=0 then 1 else 0) 0).num.c),vi ((dO (if n % 4=0 then 1 else 0) 0).num.d),vi ((dO (if n % 4=0 then 1 else 0) 0).exp)]) rfl X6 aC rfl)<|Zf (X3 (zs:=[vi 0,vi 0,vi 0,vi 0,vi 0]) X0l rfl) ?_;rintro _ bI ⟨bJ,rfl,J,f,y⟩;have aD:=Q0 g.size J;have aS:=(q.below' g).away J;have E:=e.away J;have e:=e.below f;have g:=btr g f;refine Za rfl<|Zo (Vw [vi ((dO (if n % 4=0 then 1 else 0) 0).num.a),vi ((dO (if n % 4=0 then 1 else 0) 0).num.b),vi ((dO (if n % 4=0 then 1 else 0) 0).num.c),vi ((dO (if n % 4=0 then 1 else 0) 0).num.d),vi ((dO (if n % 4=0 then 1 else 0) 0).exp)] Xb y) ?_;rintro _ bK ⟨ho,hb⟩;have aI:=y;have e:=e.onlyA ho E;have g:=Below.only g ho aD;have y:=hb;refine ZX aR fun a i _ aT=>?_;refine Xy none (fun _=>false) mixed ?_;intro bL f;have y:=y.below f;have e:=e.below f;have g:=btr g f;refine Yb i<|Ye 0 rfl (Vn X6 y)<|Yo 1 rfl (fun _=>Xa rfl)<|Yo 2 rfl (fun _=>X89 rfl rfl rfl)<|Yo 3 rfl (fun _=>X15 rfl rfl)<|Y1 4 ?_;refine Yz rfl trivial (Vc (F59 _ (((n:Int).tmod 4)==0)) Xev) ?_;refine Y1 5<|Yk rfl trivial (Vc (Xj7 _ (if (((n:Int).tmod 4)==0)=true then 1 else 0)) X8q) (fun _ _ ⟨_,f⟩=>f) ?_;rintro _ bM ⟨rfl,f⟩;have e:=e.below f;have g:=btr g f
  refine Yo 6 rfl (fun _=>Xaq rfl rfl X8m (fun w=>eqD 9997 (dO (if n % 4=0 then 1 else 0) 0) (⟨⟨(if (((n:Int).tmod 4)==0)=true then 1 else 0),0,0,0⟩,0⟩ : Dy) w)) ?_;refine Yd fun a i=>?_;refine aT _ _ ?_
  refine Xi i rfl (fun A=>?_) (fun A=>?_)
  ·have aE:=A;have h9:=A;revert h9;rw [Xt7 aP];simp
  have aE:=A;refine Q7<|Xk<|aQ _ _<|Zr i ?_;refine Ze (X02 rfl rfl (by omega) (by omega))<|Zm rfl ?_;refine Zn fun a i=>?_;refine Xn ?_;exact ⟨n+1,⟨i.sb,(by omega),e,g⟩,(by omega)⟩
 have aB:=o;have o:=Q1 o;refine Q9<|Xm<|Xm<|X06 ?_;refine aL _ _<|Zs i fun _ aU=>?_;refine Za rfl<|Zt aU fun a i=>?_
 refine Q6 (X4 i (Xp i rfl rfl) ?_)
 exact ⟨rfl,g⟩
theorem Xka(x:Rg) : rOk (sRing x)=true:=by
 unfold sRing
 split
 ·assumption
 ·rfl
theorem Xn4:∀ (n:Nat) (f:Bool) (x:Dy),(sRaiseN n f x).2.exp=x.exp+n:=X5h
theorem Xqx{f:Bool}{x y:Dy}(hx:0≤x.exp∧x.exp≤60)(hy:0≤y.exp∧y.exp≤60) : dOk (sAdd f x y).2=true:=by
 unfold sAdd
 have:=Xn4 (y.exp-x.exp).toNat f x
 exact X88 (Xka _) (by omega) (by omega)
theorem Xic{a b:Mx}(ha:AllOk a)(hb:AllOk b)(f:Bool)(i j:Nat) : ∀ n,dOk (dotS f a b i j n).2=true
 | 0=>X82
 | n+1=>by
  rw [dotS]
  split
  ·exact Xic ha hb f i j n
  ·exact Xqx (X7m ha hb f i j n) (Xal (X1u (Mx.at_ok ha i n)) (X1u (Mx.at_ok hb n j)))
theorem Xc0{a b:Mx}(ha:AllOk a)(hb:AllOk b)(f:Bool) : ∀ n,∀ x ∈ (timesL f a b n).2,dOk x=true
 | 0,x,hx=>by cases hx
 | n+1,x,hx=>by
  rcases Qu.1 hx with hx|hx
  ·exact Xc0 ha hb f n x hx
  ·rw [Qm.1 hx];exact Xic ha hb _ _ _ _
theorem X6p{a b:Mx}(ha:mOk a=true)(hb:mOk b=true)(f:Bool) : mOk (timesS f a b).2=true∧(timesS f a b).2.rows=a.rows∧(timesS f a b).2.cols=b.cols:=by
 refine ⟨X8e (X1n ha).1 (X1n hb).2 (X7e f a b _) fun x hx=>Xc0 (X0z ha) (X0z hb) f _ x hx,rfl,rfl⟩
theorem X3g(a b:Mx) : (timesS true a b).1=true:=by
 have h:∀ n,(timesL true a b n).1=true:=fun n=>by
  induction n with
  | zero=>rfl
  | succ n ih=>show (dotS (timesL true a b n).1 a b _ _ _).1=true;rw [ih,Xbp]
 exact h _
theorem X6d(x y:Dy) : (sMul true x y).1=true:=by unfold sMul;split<;>rfl
def celX(f:Bool)(m:Mx)(i j:Nat) : Bool×Mx:=timesS (timesS (timesS f (pauM i) m).1 (timesS f (pauM i) m).2 (pauM j)).1 (timesS (timesS f (pauM i) m).1 (timesS f (pauM i) m).2 (pauM j)).2 (adjS m)
def celA(f:Bool)(m:Mx)(i j:Nat) : Bool×Dy:=sAdd (celX f m i j).1 ((celX f m i j).2.cells.getD 0 dZ) ((celX f m i j).2.cells.getD 3 dZ)
def celS(f:Bool)(m:Mx)(i j:Nat) : Bool×Dy:=sMul (celA f m i j).1 (celA f m i j).2 dHf
theorem Xj9(m:Mx)(i j:Nat) : (celS true m i j).1=true:=by
 have h1:(celX true m i j).1=true:=by unfold celX;rw [X3g,X3g,X3g]
 have h2:(celA true m i j).1=true:=by unfold celA;rw [h1];exact X6n _ _
 unfold celS;rw [h2];exact X6d _ _
theorem Xhl{m:Mx}(hm:mOk m=true)(hr:m.rows=2)(hc:m.cols=2)(f:Bool){i j:Nat}(hi:i<3)(hj:j<3) :
  mOk (timesS f (pauM i) m).2=true∧(timesS f (pauM i) m).2.cols=(pauM j).rows∧mOk (timesS (timesS f (pauM i) m).1 (timesS f (pauM i) m).2 (pauM j)).2=true∧(timesS (timesS f (pauM i) m).1 (timesS f (pauM i) m).2 (pauM j)).2.cols=(adjS m).rows∧(pauM i).cols=m.rows∧(celX f m i j).2.cells.length=4∧mOk (celX f m i j).2=true:=by
 obtain ⟨a1,a2,a3⟩:=X6p (X3z hi) hm f;obtain ⟨b1,b2,bm3⟩:=X6p a1 (X3z hj) (timesS f (pauM i) m).1;obtain ⟨c1,c2,c3⟩:=X6p b1 (X2t hm) (timesS (timesS f (pauM i) m).1 (timesS f (pauM i) m).2 (pauM j)).1
 refine ⟨a1,by rw [a3,hc,(X2y hj).r],b1,by rw [bm3,(X2y hj).c];exact hc.symm,by rw [(X2y hi).c,hr],?_,c1⟩
 have h1:=(X2d c1).2.2
 have hr2:(celX f m i j).2.rows=2:=by show (timesS _ _ _).2.rows=2;rw [c2,b2,a2,(X2y hi).r]
 have hc2:(celX f m i j).2.cols=2:=by show (timesS _ _ _).2.cols=2;rw [c3];exact hr
 unfold celX at hr2 hc2 ⊢
 rw [h1,hr2,hc2];rfl
theorem Xjk{m:Mx}(hm:mOk m=true)(hr:m.rows=2)(hc:m.cols=2){i j:Nat}(hi:i<3)(hj:j<3) :
  (∀ z,celB m i j=some z→celS false m i j=(false,z))∧(celB m i j=none→(celS false m i j).1=true):=by
 obtain ⟨a1,a2,b1,b2,d1,c1,c2⟩:=Xhl hm hr hc false hi hj
 have pi:=X2y hi
 have pj:=X2y hj
 have m1:=X24 (X3z hi) hm d1
 unfold celB
 cases h1:mulI (pauM i) m with
 | none=>
  have f1:=m1.2 h1
  refine ⟨fun z h=>(by cases h),fun _=>?_⟩
  have h1':(celX false m i j).1=true:=by unfold celX;rw [f1,X3g,X3g]
  have h2:(celA false m i j).1=true:=by unfold celA;rw [h1'];exact X6n _ _
  unfold celS;rw [h2];exact X6d _ _
 | some x=>
  have f1:=(m1.1 x h1).1
  rw [f1] at a1 a2 b1 b2
  simp only [Qz]
  have m2:=X24 a1 (X3z hj) a2
  cases h2:mulI x (pauM j) with
  | none=>
   have f2:=m2.2 h2
   refine ⟨fun z h=>(by cases h),fun _=>?_⟩
   have h1':(celX false m i j).1=true:=by unfold celX;rw [f1];dsimp only;rw [f2,X3g]
   have h2:(celA false m i j).1=true:=by unfold celA;rw [h1'];exact X6n _ _
   unfold celS;rw [h2];exact X6d _ _
  | some y=>
   have f2:=(m2.1 y h2).1
   rw [f2] at b1 b2
   simp only [Qz]
   have m3:=X24 b1 (X2t hm) b2
   have hX:celX false m i j=timesS false y (adjS m):=by unfold celX;rw [f1];dsimp only;rw [f2]
   cases h3:mulI y (adjS m) with
   | none=>
    have f3:=m3.2 h3
    refine ⟨fun z h=>(by cases h),fun _=>?_⟩
    have h2:(celA false m i j).1=true:=by unfold celA;rw [hX,f3];exact X6n _ _
    unfold celS;rw [h2];exact X6d _ _
   | some z=>
    have f3:=(m3.1 z h3).1
    obtain ⟨z1,z2,z3⟩:=Xce h3 (by have:=(Xce h2 (by have:=(Xce h1 pi.r hc).2.1;exact this) pj.c).2.1;exact this) (show (adjS m).cols=2 from hr)
    simp only [Qz]
    have e0:z.cells.getD 0 dZ=z.at 0 0:=by show _=z.cells.getD (0*z.cols.toNat+0) dZ;rw [z3];rfl
    have e3:z.cells.getD 3 dZ=z.at 1 1:=by show _=z.cells.getD (1*z.cols.toNat+1) dZ;rw [z3];rfl
    have hA:celA false m i j=sAdd false (z.at 0 0) (z.at 1 1):=by unfold celA;rw [hX,f3,e0,e3]
    have ag:=X57 (Mx.at_ok (X0z z1) 0 0) (Mx.at_ok (X0z z1) 1 1)
    cases h4:dAddI (z.at 0 0) (z.at 1 1) with
    | none=>
     refine ⟨fun z h=>(by cases h),fun _=>?_⟩
     unfold celS;rw [hA,ag.2 h4];exact X6d _ _
    | some t=>
     obtain ⟨g1,g2⟩:=ag.1 t h4
     have am:=X50 g2 (show dOk dHf=true by decide)
     simp only [Qz]
     have hS:celS false m i j=sMul false t dHf:=by unfold celS;rw [hA,g1]
     rw [hS]
     exact ⟨fun z h=>(am.1 z h).1,am.2⟩
def BlS(m:Mx)(n:Nat)(f:Bool)(l:List Dy) : Prop:=(f=false→seqO (gridG (celB m) 3) n=some l)∧(f=true→seqO (gridG (celB m) 3) n=none)∧l.length=n
theorem Xm0{m:Mx}(hm:mOk m=true)(hr:m.rows=2)(hc:m.cols=2){i j:Nat}(hi:i<3)(hj:j<3){f:Bool}{l:List Dy}(h:BlS m (i*3+j) f l) : BlS m (i*3+(j+1)) (celS f m i j).1 (l++[(celS f m i j).2]):=by
 obtain ⟨h1,h2,h3⟩:=h
 have hg:gridG (celB m) 3 (i*3+j)=celB m i j:=X2v hj
 have hag:=Xjk hm hr hc hi hj
 refine ⟨fun hf=>?_,fun hf=>?_,by simp [h3];omega⟩
 ·cases f with
  | true=>rw [Xj9] at hf;cases hf
  | false=>
   cases e:celB m i j with
   | none=>rw [hag.2 e] at hf;cases hf
   | some z=>rw [hag.1 z e];exact X48 (n:=i*3+j) (h1 rfl) (hg.trans e)
 ·cases f with
  | true=>
   show seqO _ (i*3+j+1)=none
   rw [seqO,h2 rfl]
  | false=>
   cases e:celB m i j with
   | none=>exact X51 (n:=i*3+j) (by rw [hg,e]) _ (by omega)
   | some z=>rw [hag.1 z e] at hf;cases hf
theorem Xr1{m:Mx}(h1:oneQ m=true){f:Bool}{l:List Dy}(h:BlS m 9 f l) : (f=true→blochI m=none)∧(f=false→blochI m=some l):=by
 unfold blochI
 rw [Q4 h1]
 exact ⟨h.2.1,h.1⟩
theorem Xeo{l:List Dy}(h:l.length=4){k:Nat}(hk:k<4) : l[k]? = some (l.getD k dZ):=by
 rw [Qa,Qc (by omega)];rfl
theorem X5d{m:Mx}(h:mOk m=true)(k:Nat) : 0≤(m.cells.getD k dZ).exp∧(m.cells.getD k dZ).exp≤60:=by
 rw [Qa]
 cases e:m.cells[k]? with
 | none=>decide
 | some x=>exact X1u (X0z h x (Qe e))
theorem Xtz{p q r:List Dy}(h:mulBI p q=some r)(hp:∀ x ∈ p,dOk x=true)(hq:∀ x ∈ q,dOk x=true){i j k:Nat}(hi:i<3)(hj:j<3)(hk:k<3){s:Dy}(hs:dotI (bm3 p) (bm3 q) i j k=some s) :
  ∃ z t,sMul false ((bm3 p).at i k) ((bm3 q).at k j)=(false,z)∧sAdd false s z=(false,t)∧dotI (bm3 p) (bm3 q) i j (k+1)=some t∧(0≤z.exp∧z.exp≤60)∧(0≤s.exp∧s.exp≤60)∧dOk s=true:=by
 have h3:=X9c h (i*3+j) (by omega)
 rw [X2v hj] at h3
 have hso:∀ n s,dotI (bm3 p) (bm3 q) i j n=some s→dOk s=true:=fun n=>by
  induction n with
  | zero=>intro s h;injection h with h;rw [← h];exact X82
  | succ n ih=>
   intro s h
   simp only [dotI,Option.bind_eq_some_iff] at h
   obtain ⟨u,h1,x,h2,h4⟩:=h
   have o1:=((X50 (Mx.at_ok (m:=bm3 p) hp i n) (Mx.at_ok (m:=bm3 q) hq n j)).1 x h2).2
   exact ((X57 (ih u h1) o1).1 s h4).2
 have hne:∃ t,dotI (bm3 p) (bm3 q) i j (k+1)=some t:=by
  cases e:dotI (bm3 p) (bm3 q) i j (k+1) with
  | none=>rw [X6z e 3 (by omega)] at h3;cases h3
  | some t=>exact ⟨t,rfl⟩
 obtain ⟨t,ht⟩:=hne;have ht2:=ht
 rw [dotI,hs,Qz] at ht2
 simp only [Option.bind_eq_some_iff] at ht2
 obtain ⟨z,hz,hz2⟩:=ht2
 have a1:=(X50 (Mx.at_ok (m:=bm3 p) hp i k) (Mx.at_ok (m:=bm3 q) hq k j)).1 z hz
 have os:=hso k s hs
 have a2:=(X57 os a1.2).1 t hz2
 exact ⟨z,t,a1.1,a2.1,ht,X1u a1.2,X1u os,os⟩
theorem Xlp{p q r:List Dy}(h:mulBI p q=some r){i j:Nat}(hj:j<3)(hi:i<3){l:List Dy}(hl:seqO (gridG (fun i j=>dotI (bm3 p) (bm3 q) i j 3) 3) (i*3+j)=some l){s:Dy}(hs:dotI (bm3 p) (bm3 q) i j 3=some s) : seqO (gridG (fun i j=>dotI (bm3 p) (bm3 q) i j 3) 3) (i*3+(j+1))=some (l++[s]):=X48 (n:=i*3+j) hl ((X2v (f:=fun i j=>dotI (bm3 p) (bm3 q) i j 3) hj).trans hs)
def sylT(s:Nat) : UInt8:=([84,72,83] : List UInt8).getD s 84
theorem Xwk{s:Nat}{u:UInt8}(hs:s<3)(hu:u=sylT s)(h:((u.toNat:Int)==72)=true) : s=1:=by
 subst hu;rcases lt3 hs with rfl|rfl|rfl<;>revert h<;>decide
theorem Xsi{s:Nat}{u:UInt8}(hs:s<3)(hu:u=sylT s)(h:((u.toNat:Int)==83)=true) : s=2:=by
 subst hu;rcases lt3 hs with rfl|rfl|rfl<;>revert h<;>decide
theorem Xyg{s:Nat}{u:UInt8}(hs:s<3)(hu:u=sylT s)(h:((u.toNat:Int)==72)=false)(h2:((u.toNat:Int)==83)=false) : s=0:=by
 subst hu;rcases lt3 hs with rfl|rfl|rfl<;>revert h h2<;>decide
theorem Xv6{s:Nat}{u:UInt8}(hs:s<3)(hu:u=sylT s) : ((u.toNat:Int) != 84)=true∧s≠0∨((u.toNat:Int) != 84)=false∧s=0:=by
 subst hu;rcases lt3 hs with rfl|rfl|rfl<;>decide
theorem Xw0{s:Nat}{u:UInt8}(hs:s<3)(hu:u=sylT s)(h0:s≠0)(h:((u.toNat:Int)==83)=false) : s=1:=by
 subst hu;rcases lt3 hs with rfl|rfl|rfl
 ·exact absurd rfl h0
 ·rfl
 ·revert h;decide
theorem Xtj{s:Nat}{u:UInt8}(hs:s<3)(hu:u=sylT s)(h:((u.toNat:Int) != 84)=false) : s=0∧((u.toNat:Int)==83)=false:=by
 subst hu;rcases lt3 hs with rfl|rfl|rfl<;>revert h<;>decide
theorem Xpg{i:Nat}(hi:i<3) : (([84,72,83] : List UInt8).drop i).take (i+1-i)=[sylT i]:=by rcases lt3 hi with rfl|rfl|rfl<;>rfl
theorem Xex{l r:List Dy}{i:Nat}(hi:i<3)(hno:∀ j,j<i→∀ r,mulBI (bkC j) l=some r→bexp r≠bexp l-1)(h:mulBI (bkC i) l=some r)(he:bexp r=bexp l-1) : stripI l=some (i,r):=by
 unfold stripI
 have hn:∀ j,j<i→((mulBI (bkC j) l).bind fun r=>if bexp r=bexp l-1 then some (j,r) else none)=none:=fun j hj=>by
  cases e:mulBI (bkC j) l with
  | none=>rfl
  | some q=>rw [Qz,Q3 (hno j hj q e)]
 have hy:((mulBI (bkC i) l).bind fun r=>if bexp r=bexp l-1 then some (i,r) else none)=some (i,r):=by rw [h,Qz,Q4 he]
 rcases lt3 hi with rfl|rfl|rfl
 ·simp only [List.findSome?];rw [hy]
 ·simp only [List.findSome?];rw [hn 0 (by decide),hy]
 ·simp only [List.findSome?];rw [hn 0 (by decide),hn 1 (by decide),hy]
theorem Xcv{s:Nat}(hs:s<3) : (bkC s).length=9∧∀ x ∈ bkC s,dOk x=true:=⟨(Xe6 hs).len,(Xe6 hs).ok⟩
theorem Gd.nine{l:List Dy}(h:Gd l) : l.length=9∧∀ x ∈ l,dOk x=true:=by obtain ⟨Z,h1,_⟩:=h;exact ⟨h1.len,h1.ok⟩
def letK(i:Nat) : Int:=if i=0 then 1 else 5
def letR(i:Nat) : Nat:=if i=0 then 1 else 2
theorem Xlt{i:Nat}(hi:i<2) : gateI 1 ⟨letK i,0,0⟩=some (gateS 1 ⟨letK i,0,0⟩)∧blochI (gateS 1 ⟨letK i,0,0⟩)=some (clB (letR i)):=by
 have key:∀ (g:Gt) (k:Nat),g ∈ G4→k<24→cw k=[if g.k=5 then 83 else 72]→wdG (cw k)=[g]→gateI 1 g=some (gateS 1 g)∧blochI (gateS 1 g)=some (clB k):=fun g k hg hk hw hw2=>by
  obtain ⟨v,ok⟩:=Xli hg;obtain ⟨u,_⟩:=Xri hg
  refine ⟨(X3h ok).1,?_⟩
  have hN1:hN g≤1:=by unfold hN;split<;>omega
  refine X6u v u (by omega) (X6m hk) fun i j hi hj=>?_
  have:=X9v k hk i j hi hj
  rw [X31,Xe]
  rw [pW,hw2] at this
  have e1:prodG [g] i2=g1 g.k:=by show g1 g.k*i2=_;exact Xa9 _
  have e2:hs [g]=hN g:=by show hN g+0=hN g;rfl
  rw [e1,e2] at this
  exact this
 have h2:i=0∨i=1:=by omega
 rcases h2 with rfl|rfl
 ·exact key ⟨1,0,0⟩ 1 (by decide) (by decide) rfl rfl
 ·exact key ⟨5,0,0⟩ 2 (by decide) (by decide) rfl rfl
theorem Xqz{i:Nat}(hi:i<3) : pauM i=⟨2,2,oneL (2+(i:Int))⟩:=by
 rcases lt3 hi with rfl|rfl|rfl<;>kernel_rfl
theorem Xnr{m:Mx}(hm:mOk m=true)(hrc:m.rows=m.cols)(h:(timesS false m (adjS m)).1=true) : uniI m=(false,false):=by
 rw [Xaj hm hrc]
 have ha:=X24 hm (X2t hm) (show m.cols=(adjS m).rows from rfl)
 cases e:mulI m (adjS m) with
 | none=>rfl
 | some p=>rw [(ha.1 p e).1] at h;cases h
theorem Xkq{m:Mx}(hm:mOk m=true)(hrc:m.rows=m.cols)(h:(timesS false m (adjS m)).1=false) : uniI m=(eqM (timesS false m (adjS m)).2 (unitS m.rows.toNat),true):=by
 rw [Xaj hm hrc]
 have ha:=X24 hm (X2t hm) (show m.cols=(adjS m).rows from rfl)
 cases e:mulI m (adjS m) with
 | none=>rw [ha.2 e] at h;cases h
 | some p=>rw [(ha.1 p e).1];rfl
theorem Xxw(w0:World)(x:Rg) : Ret Tryz.prog 185 [.agg #[vi x.a,vi x.b,vi x.c,vi x.d]] w0 (fun v w=>v=rV (rCj x)∧Below w0.heap.size w0 w):=by
 refine enter Tryz.func185 rfl 15 rfl rfl ?_;intro a hf
 have f:=bz w0
 refine Zs hf fun _ aB=>?_;refine Zf (X0b (zs:=[vi x.a,vi x.b,vi x.c,vi x.d]) rfl rfl) ?_;rintro _ w1 ⟨b2,rfl,aC,hE,e⟩;have aF:=Q0 f.size aC;have f:=btr f hE;refine Zf (X3 (zs:=[vi 0,vi 0,vi 0,vi 0]) X1w rfl) ?_;rintro _ w2 ⟨b3,rfl,aD,hE,g⟩
 have aA:b2≠b3:=by have:=e.lt;omega
 have a9:=Q0 f.size aD;have e:=e.below hE;have f:=btr f hE;refine Zx aB fun a hf _ aE=>?_;refine Ze (Vd rfl X0h 0)<|Ze (X0 rfl X9 (e.at 0))<|Ze (Vd rfl X0e 3)<|Ze (X0 rfl X9 (e.at 3))<|Ze (X8k rfl)<|Ze (Vd rfl X0g 2)<|Ze (X0 rfl X9 (e.at 2))<|Ze (X8k rfl)<|Ze (Vd rfl X0d 1)<|Ze (X0 rfl X9 (e.at 1)) ?_;refine Ze (X8k rfl)<|Ze (Xf (ps:=[(0,vi x.a),(1,vi (wr (-x.d))),(2,vi (wr (-x.c))),(3,vi (wr (-x.b)))]) (cs:=[vi x.a,vi (wr (-x.d)),vi (wr (-x.c)),vi (wr (-x.b))]) rfl (fun _=>by first|rfl|kernel_rfl))<|Zo (Vw [vi x.a,vi (wr (-x.d)),vi (wr (-x.c)),vi (wr (-x.b))] X0t g) ?_;rintro _ w3 ⟨ho,hb⟩;have aG:=g;have f:=Below.only f ho a9;have g:=hb;refine Zt aE fun a hf=>?_
 refine Q6 (X4 hf (Xp hf rfl (ResV.cellN (l:=[vi x.a,vi (wr (-x.d)),vi (wr (-x.c)),vi (wr (-x.b))]) rfl Xx (g.at 0) rfl)) ?_)
 exact ⟨rfl,f⟩
theorem Xz7(w0:World)(x:Dy) : Ret Tryz.prog 153 [.agg #[vi x.num.a,vi x.num.b,vi x.num.c,vi x.num.d,vi x.exp]] w0 (fun v w=>v=dV (dCj x)∧Below w0.heap.size w0 w):=by
 refine enter Tryz.func153 rfl 9 rfl rfl ?_;intro a hf
 have g:=bz w0
 refine Zs hf fun _ aB=>?_;refine Zf (X0b (zs:=[vi x.num.a,vi x.num.b,vi x.num.c,vi x.num.d,vi x.exp]) rfl rfl) ?_;rintro _ w1 ⟨b2,rfl,aC,i,f⟩;have aF:=Q0 g.size aC;have g:=btr g i;refine Zf (X3 (zs:=[vi 0,vi 0,vi 0,vi 0,vi 0]) X0l rfl) ?_;rintro _ w2 ⟨b3,rfl,aD,i,e⟩
 have aA:b2≠b3:=by have:=f.lt;omega
 have a9:=Q0 g.size aD;have f:=f.below i;have g:=btr g i;refine ZX aB fun a hf _ aE=>?_;refine Xy none (fun j=>[6].contains j) mixed ?_;intro w3 i;have f:=f.below i;have e:=e.below i;have g:=btr g i;refine Yb hf<|Yo 0 rfl (fun _=>Vd rfl X1b 0)<|Ye 1 rfl (Xz (l:=[vi x.num.a,vi x.num.b,vi x.num.c,vi x.num.d]) rfl Xx ((f.at 0).take 4) rfl)<|Yo 3 rfl (fun _=>Vd rfl X11 4)<|Ye 4 rfl (X0 rfl X9 (f.at 4))<|Y1 2 ?_;refine Yk rfl trivial (Vc (Xxw _ x.num) Xp9) (fun _ _ ⟨_,i⟩=>i) ?_;rintro _ w4 ⟨rfl,i⟩;have e:=e.below i;have g:=btr g i;refine Yo 5 rfl (fun _=>Xf (ps:=[(0,.agg #[vi ((rCj x.num).a),vi ((rCj x.num).b),vi ((rCj x.num).c),vi ((rCj x.num).d)]),(1,vi x.exp)]) (cs:=[vi ((rCj x.num).a),vi ((rCj x.num).b),vi ((rCj x.num).c),vi ((rCj x.num).d),vi x.exp]) rfl (fun _=>by first|rfl|kernel_rfl))<|Y1 6 ?_;refine Yh rfl trivial rfl (Vw [vi ((rCj x.num).a),vi ((rCj x.num).b),vi ((rCj x.num).c),vi ((rCj x.num).d),vi x.exp] Xb e) ?_;rintro _ w5 ⟨ho,hb⟩;have aG:=e;have g:=Below.only g ho a9;have e:=hb;refine Yd fun a hf=>?_;refine aE _ _ ?_
 refine Q6 (X4 hf (Xp hf rfl (ResV.cellN (l:=[vi ((rCj x.num).a),vi ((rCj x.num).b),vi ((rCj x.num).c),vi ((rCj x.num).d),vi x.exp]) rfl X6 (e.at 0) rfl)) ?_)
 exact ⟨rfl,g⟩
theorem X96(y:World)(m:Mx)(Am:Option Addr)(cm:Nat)(Q:Rd y y.heap.size 86 encD Am m.cells)(b0:mOk m=true) : Ret Tryz.prog 107 [.agg #[vi m.rows,vi m.cols,.slice Am m.cells.length cm]] y (fun v w=>∃ A c,v=mV A c (adjS m)∧Own w y.heap.size 86 5 encD A c (adjS m).cells∧Below y.heap.size y w):=by
 have b1:=X2d b0
 have b2:m.cols=(m.cols.toNat:Int):=by omega
 have b4:m.rows=(m.rows.toNat:Int):=by omega
 suffices hgoal:Ret Tryz.prog 107 [.agg #[vi (m.rows.toNat:Int),vi (m.cols.toNat:Int),.slice Am m.cells.length cm]] y (fun v w=>∃ A c,v=.agg #[vi (m.cols.toNat:Int),vi (m.rows.toNat:Int),.slice A (adjS m).cells.length c]∧Own w y.heap.size 86 5 encD A c (adjS m).cells∧Below y.heap.size y w) by rw [← b2,← b4] at hgoal;exact hgoal
 refine enter Tryz.func107 rfl 40 rfl rfl ?_;intro a p
 have n:=bz y
 refine Zs p fun _ b6=>?_;refine Zf (X0b (zs:=[vi (m.rows.toNat:Int),vi (m.cols.toNat:Int),.slice Am m.cells.length cm]) rfl rfl) ?_;rintro _ w1 ⟨b3,rfl,b7,x,e⟩;have bF:=Q0 n.size b7;have n:=btr n x;refine Zf (X3 (zs:=[vi 0,vi 0,.slice none 0 0]) X0n rfl) ?_;rintro _ w2 ⟨b5,rfl,b8,x,f⟩
 have aX:b3≠b5:=by have:=e.lt;omega
 have aH:=Q0 n.size b8;have e:=e.below x;have n:=btr n x;refine Zx b6 fun a p _ bC=>?_;refine Ze (Vd rfl X0w 1)<|Ze (X0 rfl X9 (e.at 1))<|Ze (Vd rfl X13 0)<|Ze (X0 rfl X9 (e.at 0))<|Ze (Xf (ps:=[(0,vi (m.cols.toNat:Int)),(1,vi (m.rows.toNat:Int))]) (cs:=[vi (m.cols.toNat:Int),vi (m.rows.toNat:Int),.slice none 0 0]) rfl (fun _=>by first|rfl|kernel_rfl))<|Zf (X3 (zs:=[vi 0,vi 0,.slice none 0 0]) X0n rfl) ?_;rintro _ w3 ⟨b9,rfl,bD,x,g⟩
 have aY:b3≠b9:=by have:=e.lt;omega
 have aZ:b5≠b9:=by have:=f.lt;omega
 have U:=Q0 n.size bD;have e:=e.below x;have f:=f.below x;have n:=btr n x;refine Zo (Vw [vi (m.cols.toNat:Int),vi (m.rows.toNat:Int),.slice none 0 0] Xt g) ?_;rintro _ w4 ⟨H,hb⟩;have D:=g;have e:=e.only H (by omega);have f:=f.only H (by omega);have n:=Below.only n H U;have g:=hb;refine ZX bC fun a p _ aI=>?_;refine Zs p fun _ aJ=>?_;refine Za rfl<|Zt aJ fun a p=>?_;refine Q8<|X04 (σ:=Nat×(List Dy)) (fun (s:Nat×(List Dy)) (a:Act) (w:World)=>match s with|(j,l)=>∃ B C,Fr a 40 [(1,.pointer (some ⟨b3,0,none⟩)),(2,.pointer (some ⟨b5,0,none⟩)),(3,.pointer (some ⟨b9,0,none⟩)),(4,vi (j:Int))]∧(j≤m.cols.toNat)∧(gridL (fun j i=>dCj (m.at i j)) m.rows.toNat (j*m.rows.toNat)=l)∧Blk w b3 32 [vi (m.rows.toNat:Int),vi (m.cols.toNat:Int),.slice Am m.cells.length cm]∧Blk w b5 32 [vi 0,vi 0,.slice none 0 0]∧Blk w b9 32 [vi (m.cols.toNat:Int),vi (m.rows.toNat:Int),.slice B l.length C]∧Own w y.heap.size 86 5 encD B C l∧Below y.heap.size y w) (fun (s:Nat×(List Dy))=>match s with|(j,l)=>m.cols.toNat-j) (0,[]) ?_ ?_
 ·exact ⟨none,0,p.sb,(Qf _),(by rw [Nat.zero_mul];rfl),e,f,g,(Own.nil _ _ _ _ _),n⟩
 rintro ⟨j,l⟩ a w5 ⟨B,C,p,hj,hl,e,f,g,E,n⟩;refine Q5 fun _ aK=>?_;refine Zs p fun _ aL=>?_;refine Zm rfl<|Ze (Vd rfl X0w 1)<|Ze (X0 rfl X9 (e.at 1))<|Ze (X19 rfl rfl)<|Zt aL fun a p=>?_
 refine Xi p rfl (fun q=>?_) (fun q=>?_)
 ·have a9:=q;have q:=Q2 q
  have aM:j<m.cols.toNat:=by have:=q;omega
  refine Q7<|aK _ _<|Q5 fun _ aN=>?_;refine Q8<|Zs p fun _ aO=>?_;refine Za rfl<|Zt aO fun a p=>?_;refine Q8<|X04 (σ:=Nat×(List Dy)) (fun (s:Nat×(List Dy)) (a:Act) (w:World)=>match s with|(i,l2)=>∃ M N,Fr a 40 [(1,.pointer (some ⟨b3,0,none⟩)),(2,.pointer (some ⟨b5,0,none⟩)),(3,.pointer (some ⟨b9,0,none⟩)),(4,vi (j:Int)),(5,vi (i:Int))]∧(i≤m.rows.toNat)∧(gridL (fun j i=>dCj (m.at i j)) m.rows.toNat (j*m.rows.toNat+i)=l2)∧Blk w b3 32 [vi (m.rows.toNat:Int),vi (m.cols.toNat:Int),.slice Am m.cells.length cm]∧Blk w b5 32 [vi 0,vi 0,.slice none 0 0]∧Blk w b9 32 [vi (m.cols.toNat:Int),vi (m.rows.toNat:Int),.slice M l2.length N]∧Own w y.heap.size 86 5 encD M N l2∧Below y.heap.size y w) (fun (s:Nat×(List Dy))=>match s with|(i,l2)=>m.rows.toNat-i) (0,l) ?_ ?_
  ·exact ⟨B,C,p.sb,(Qf _),hl,e,f,g,E,n⟩
  rintro ⟨i,l2⟩ a w6 ⟨M,N,p,hi,aA,e,f,g,o,n⟩;refine Q5 fun _ aP=>?_;refine Zs p fun _ aQ=>?_;refine Zm rfl<|Ze (Vd rfl X13 0)<|Ze (X0 rfl X9 (e.at 0))<|Ze (X19 rfl rfl)<|Zt aQ fun a p=>?_
  refine Xi p rfl (fun t=>?_) (fun t=>?_)
  ·have aB:=t;have t:=Q2 t
   have aC:i<m.rows.toNat:=by have:=t;omega
   have bG:l2.length=j*m.rows.toNat+i:=by rw [← aA,X2o]
   have bI:=X2z (show j≤32 by omega) (show m.rows.toNat≤32 by omega)
   have bH:=X2z (show i≤32 by omega) (show m.cols.toNat≤32 by omega)
   refine Q7<|aP _ _<|Q5 fun _ aR=>?_;refine Q8<|Xy none (fun j=>[14,16].contains j) mixed ?_;intro w7 x;have e:=e.below x;have f:=f.below x;have g:=g.below x;have o:=o.below x;have n:=btr n x;refine Yb p<|Yo 0 rfl (fun _=>Vd rfl X0m 2)<|Ye 1 rfl (X0 rfl X0c (g.at 2))<|Yo 2 rfl (fun _=>Vd rfl X0m 2)<|Ye 3 rfl (X0 rfl X0c (e.at 2))<|Yo 4 rfl (fun _=>Xa rfl)<|Yo 5 rfl (fun _=>Vd rfl X0w 1)<|Ye 6 rfl (X0 rfl X9 (e.at 1))<|Yo 7 rfl (fun _=>Xbo (m:=i) (k:=m.cols.toNat) rfl rfl (by have:=X2z (show i≤32 by omega) (show m.cols.toNat≤32 by omega);omega))<|Yo 8 rfl (fun _=>Xa rfl)<|Yo 9 rfl (fun _=>X02 rfl rfl (by omega) (by omega)) ?_;refine Yi (k:=(i*m.cols.toNat+j)) (u:=(m.at i j)) (enc:=encD) (l:=m.cells) 10 rfl trivial rfl rfl Xs Xb Xw (Q.below' n) (Mx.at_get (by rw [b1.2.2];exact X45 (by omega) (by omega))) (by omega) ?_;intro bJ aD;refine Ye 11 rfl (Xz (l:=[vi ((m.at i j).num.a),vi ((m.at i j).num.b),vi ((m.at i j).num.c),vi ((m.at i j).num.d),vi ((m.at i j).exp)]) rfl X6 aD rfl)<|Y1 12 ?_;refine Yk rfl trivial (Vc (Xz7 _ (m.at i j)) Xr0) (fun _ _ ⟨_,x⟩=>x) ?_;rintro _ w8 ⟨rfl,x⟩;have e:=e.below x;have f:=f.below x;have g:=g.below x;have o:=o.below x;have n:=btr n x;refine Y1 13<|Yk rfl trivial (X7 (k:=1) (vs:=[.agg #[vi ((dCj (m.at i j)).num.a),vi ((dCj (m.at i j)).num.b),vi ((dCj (m.at i j)).num.c),vi ((dCj (m.at i j)).num.d),vi ((dCj (m.at i j)).exp)]]) (zs:=[vi ((dCj (m.at i j)).num.a),vi ((dCj (m.at i j)).num.b),vi ((dCj (m.at i j)).num.c),vi ((dCj (m.at i j)).num.d),vi ((dCj (m.at i j)).exp)]) rfl Xs X0u rfl rfl) (fun _ _ ⟨_,_,_,h,_⟩=>h) ?_;rintro _ w9 ⟨bK,rfl,I,x,J⟩
   have bE:=Q0 n.size I;have aS:=(Q.below' n).away I;have G:=o.away I;have e:=e.below x;have f:=f.below x;have g:=g.below x;have o:=o.below x;have n:=btr n x;refine Y1 14<|Yt rfl trivial rfl (X0k (enc:=encD) (l:=(l2)) (l2:=([(dCj (m.at i j))])) (B0:=y.heap.size) rfl rfl Xs X0u Xw X28 o (Rd.of_blk J rfl _ J.lt) (by simp only [maxLen];simp;omega) (by simp;omega) n.size) ?_;rintro _ bL ⟨aE,aF,rfl,L,hg,aT⟩
   have z:Own _ y.heap.size 86 5 encD _ _ (l2):=o
   have aG:=aT _ J.lt G;clear aT;have e:=e.appT z hg rfl;have f:=f.appT z hg rfl;have g:=g.appT z hg rfl;have n:=Below.app n z hg (Qb _) n.size;clear z hg;refine Yo 15 rfl (fun _=>Vd rfl X0m 2)<|Y1 16 ?_;refine Yh rfl trivial rfl (Vu (vs:=[.slice aE (l2++([(dCj (m.at i j))])).length aF]) (l':=[vi (m.cols.toNat:Int),vi (m.rows.toNat:Int),.slice aE (l2++([(dCj (m.at i j))])).length aF]) rfl rfl X3a g) ?_;rintro _ bM ⟨H,hb⟩;have D:=g;have e:=e.only H (by omega);have f:=f.only H (by omega);have L:=L.onlyT H D rfl;have n:=Below.only n H U;have g:=hb;refine Yd fun a p=>?_;refine Xk<|aR _ _<|Zr p<|Zm rfl<|Ze (X02 rfl rfl (by omega) (by omega))<|Za rfl ?_;refine Zn fun a p=>?_;refine Xn ?_;exact ⟨(i+1,l2++[dCj (m.at i j)]),⟨aE,aF,p.sb,(by omega),(by rw [X78 aC,aA]),e,f,g,L,n⟩,(by first|omega|(dsimp only;omega))⟩
  have aB:=t;have t:=Q1 t
  have aC:i=m.rows.toNat:=by have:=t;omega
  refine Q9<|Xm<|Xm<|X06 ?_;refine Xk<|aN _ _<|Zr p<|Zm rfl<|Ze (X02 rfl rfl (by omega) (by omega))<|Za rfl ?_;refine Zn fun a p=>?_;refine Xn ?_;exact ⟨(j+1,l2),⟨M,N,p.sb,(by omega),(by rw [Wb,Nat.one_mul,← aA,aC]),e,f,g,o,n⟩,(by first|omega|(dsimp only;omega))⟩
 have a9:=q;have q:=Q1 q
 have aM:j=m.cols.toNat:=by have:=q;omega
 refine Q9<|Xm<|Xm<|X06 ?_;refine aI _ _<|Zs p fun _ aU=>?_;refine Ze (Vn Xg g)<|Zo (Vw [vi (m.cols.toNat:Int),vi (m.rows.toNat:Int),.slice B l.length C] Xt f) ?_;rintro _ bN ⟨H,hb⟩;have D:=f;have E:=E.onlyT H D rfl;have n:=Below.only n H aH;have f:=hb;refine Zt aU fun a p=>?_
 refine Q6 (X4 p (Xp p rfl (ResV.cellN (l:=[vi (m.cols.toNat:Int),vi (m.rows.toNat:Int),.slice B l.length C]) rfl Xg (f.at 0) rfl)) ?_)
 have aW:(adjS m).cells=l:=by rw [← hl,aM];rfl
 rw [aW]
 exact ⟨B,C,rfl,E,n⟩
theorem Xbr(w0:World)(i:Nat)(aB:i<3) : Ret Tryz.prog 108 [vi (i:Int)] w0 (fun v w=>∃ A c,v=mV A c (pauM i)∧Own w w0.heap.size 86 5 encD A c (pauM i).cells∧Below w0.heap.size w0 w):=by
 refine enter Tryz.func108 rfl 7 rfl rfl ?_;intro a hf
 have e:=bz w0
 refine Zs hf fun _ aC=>?_;refine Zf (X3 (zs:=[vi 0,vi 0,.slice none 0 0]) X0n rfl) ?_;rintro _ w1 ⟨b3,rfl,aD,hE,b⟩;have a9:=Q0 e.size aD;have e:=btr e hE;refine Zx aC fun a hf _ aE=>?_;refine Zm rfl<|Ze (X02 rfl rfl (by omega) (by omega))<|Zf (Vc (Xx5 _ (2+(i:Int)) (by omega)) Xlk) ?_;rintro _ w2 ⟨A5,c5,rfl,d,hE⟩;have d:=d.lower e.size;have b:=b.below hE;have e:=btr e hE;refine Ze (Xf (ps:=[(0,vi 2),(1,vi 2),(2,.slice A5 (oneL (2+(i:Int))).length c5)]) (cs:=[vi 2,vi 2,.slice A5 (oneL (2+(i:Int))).length c5]) rfl (fun _=>by first|rfl|kernel_rfl))<|Zo (Vw [vi 2,vi 2,.slice A5 (oneL (2+(i:Int))).length c5] Xt b) ?_;rintro _ w3 ⟨ho,hb⟩;have aA:=b;have d:=d.onlyT ho aA rfl;have e:=Below.only e ho a9;have b:=hb;refine Zt aE fun a hf=>?_
 refine Q6 (X4 hf (Xp hf rfl (ResV.cellN (l:=[vi 2,vi 2,.slice A5 (oneL (2+(i:Int))).length c5]) rfl Xg (b.at 0) rfl)) ?_)
 have aF:pauM i=⟨2,2,oneL (2+(i:Int))⟩:=Xqz aB
 rw [aF]
 exact ⟨A5,c5,rfl,d,e⟩
theorem Xza(w0:World)(m:Mx)(Am:Option Addr)(cm:Nat)(x:Rd w0 w0.heap.size 86 encD Am m.cells)(b2:m.cells.length≤2305843009213693951) : Ret Tryz.prog 60 [.agg #[vi m.rows,vi m.cols,.slice Am m.cells.length cm]] w0 (fun v w=>v=.tuple #[.bool ((uniI m).1),.bool ((uniI m).2)]∧Below w0.heap.size w0 w):=by
 refine enter Tryz.func60 rfl 32 rfl rfl ?_;intro a n
 have e:=bz w0
 refine Zs n fun _ b4=>?_;refine Zf (X0b (zs:=[vi m.rows,vi m.cols,.slice Am m.cells.length cm]) rfl rfl) ?_;rintro _ w1 ⟨b3,rfl,b5,d,b⟩;have bD:=Q0 e.size b5;have e:=btr e d;refine Za rfl<|Za rfl<|ZX b4 fun a n _ b6=>?_;refine Q5 fun _ b7=>?_;refine X09 (fun a w=>Fr a 32 [(1,.pointer (some ⟨b3,0,none⟩)),(15,.bool ((!(mOk m))||(m.rows != m.cols)))]∧Below w1.heap.size w1 w) ?_ ?_
 ·have aE:Below w1.heap.size w1 w1:=Below.refl _ _
  refine Zr n<|Ze (Vn Xg b)<|Zf (Vc (Xxe _ m Am cm (x.below' e).top b2) Xov) ?_;rintro _ w2 ⟨rfl,d⟩;have b:=b.below d;have e:=btr e d;have aE:=btr aE d;refine Ze (X0p rfl)<|Zm rfl ?_
  refine Zg 9 rfl (fun i=>?_) (fun i=>?_)
  ·refine Zp (gP i) ?_;refine Zp (gP i) ?_;refine Zp (gP i) ?_;refine Zp (gP i) ?_;refine Zp (gP i) ?_;refine Ze (Xh rfl i rfl) ?_;refine Zn fun a n=>?_
   have aF:Below w1.heap.size w1 w2:=aE
   exact ⟨n.sub ⟨rfl,X2 rfl (by first|rfl|(simp only [i,bs];done)|simp [i]),trivial⟩,aF⟩
  refine Zv (gW i) (Vd rfl X13 0) ?_;refine Zv (gW i) (X0 rfl X9 (b.at 0)) ?_;refine Zv (gW i) (Vd rfl X0w 1) ?_;refine Zv (gW i) (X0 rfl X9 (b.at 1)) ?_;refine Zv (gW i) (X3w rfl rfl) ?_;refine Ze (Xd rfl i rfl) ?_;refine Zn fun a n=>?_
  have aF:Below w1.heap.size w1 w2:=aE
  exact ⟨n.sub ⟨rfl,X2 rfl (by first|rfl|(simp only [i,bs];done)|simp [i]),trivial⟩,aF⟩
 rintro a w3 ⟨n,d⟩;have b:=b.below d;have e:=btr e d;refine b7 _ _ ?_
 refine Xi n rfl (fun W=>?_) (fun W=>?_)
 ·have a9:=W
  have A:=Xi1 (by simpa using W:mOk m=false∨m.rows≠m.cols)
  refine Zs n fun _ b8=>?_;refine Za rfl<|Za rfl<|Zt b8 fun a n=>?_;refine Q6<|X8<|X4 n (X0s n rfl rfl rfl) ?_;exact ⟨by rw [A],e⟩
 have a9:=W
 have b9:mOk m=true∧m.rows=m.cols:=by have h9:=W;revert h9;cases mOk m<;>simp
 obtain ⟨p,aN⟩:=b9;have bE:=X2a (X1n p).1;refine Q7<|b6 _ _<|Zs n fun _ bC=>?_;refine Ze (Xf (ps:=[]) (cs:=[.bool false]) rfl (fun _=>by first|rfl|kernel_rfl))<|Zf (X0b (zs:=[.bool false]) rfl rfl) ?_;rintro _ w4 ⟨Q,rfl,aO,d,c⟩;have H:=Q0 e.size aO;have b:=b.below d;have e:=btr e d;refine Za rfl<|ZX bC fun a n _ aP=>?_;refine X09 (fun a w=>∃ b15 B C,Fr a 32 [(1,.pointer (some ⟨b3,0,none⟩)),(4,.pointer (some ⟨Q,0,none⟩)),(5,.pointer (some ⟨b15,0,none⟩))]∧w0.heap.size≤b15∧Blk w b15 32 [vi (((timesS false m (adjS m)).2).rows),vi (((timesS false m (adjS m)).2).cols),.slice B (((timesS false m (adjS m)).2).cells).length C]∧b3≠b15∧Own w w0.heap.size 86 5 encD B C (((timesS false m (adjS m)).2).cells)∧Blk w b3 32 [vi m.rows,vi m.cols,.slice Am m.cells.length cm]∧Blk w Q 95 [.bool ((timesS false m (adjS m)).1)]∧Below w0.heap.size w0 w) ?_ ?_
 ·refine Xy (some Q) (fun j=>[6].contains j) mixed ?_;intro w5 d;have b:=b.below d;have c:=c.below d;have e:=btr e d;refine Yb n<|Yo 0 rfl (fun _=>Xa rfl) ?_;refine Yw 1 rfl trivial (fun w1 h1=>Xz (l:=[vi m.rows,vi m.cols,.slice Am m.cells.length cm]) rfl Xg ((b.only h1 (Blk.ne b c rfl)).at 0) rfl) ?_;refine Yw 2 rfl trivial (fun w1 h1=>Xz (l:=[vi m.rows,vi m.cols,.slice Am m.cells.length cm]) rfl Xg ((b.only h1 (Blk.ne b c rfl)).at 0) rfl) ?_;refine Y2 3 5 ?_ ?_
  ·refine Yf rfl trivial (EfW.mono (Vc (X96 _ m Am cm (x.below' e).top p) X4o) (fun _ _ h=>⟨fun _=>by obtain ⟨aG,aH,rfl,t,d⟩:=h;exact Keep.of_below d,h⟩)) ?_;rintro _ w6 ⟨aG,aH,rfl,t,d⟩;have t:=t.lower e.size;have b:=b.below d;have c:=c.below d;have e:=btr e d;refine Y2 4 5 ?_ ?_
   ·refine Yf rfl trivial (EfW.mono (Vc (X5g _ Q false c m Am cm (x.below' e).top (adjS m) aG aH t.rd.top p (X2t p) rfl) X2g) (fun _ _ h=>⟨fun _=>by obtain ⟨B,C,rfl,g,J,u⟩:=h;exact J.keep,h⟩)) ?_;rintro _ w7 ⟨B,C,rfl,g,J,u⟩;have D:=e.size;obtain ⟨wm,U,hm,d⟩:=J.mid;clear hm;have f:=c;have b:=b.only U (Blk.ne b f rfl);have e:=Below.only e U H;have b:=b.below d;have e:=btr e d
    clear f d U J;have c:=u;clear u
    have g:=g.lower D;clear D;refine Y1 5<|Yf rfl trivial (EfW.mono (X3 (zs:=[vi 0,vi 0,.slice none 0 0]) X0n rfl) (fun _ _ h=>⟨fun _=>by obtain ⟨_,_,_,d,_⟩:=h;exact Keep.of_below d,h⟩)) ?_;rintro _ w8 ⟨b15,rfl,aQ,d,q⟩
    have E:b3≠b15:=by have:=b.lt;omega
    have I:=Q0 e.size aQ;have b:=b.below d;have c:=c.below d;have g:=g.below d;have e:=btr e d;refine Y1 6<|Yh rfl trivial rfl (Vw [vi (((timesS false m (adjS m)).2).rows),vi (((timesS false m (adjS m)).2).cols),.slice B (((timesS false m (adjS m)).2).cells).length C] Xt q) ?_;rintro _ w9 ⟨L,hb⟩;have f:=q;have b:=b.only L (by omega);have c:=c.only L (Blk.ne c f rfl);have g:=g.onlyT L f rfl;have e:=Below.only e L I;have q:=hb;refine Yd fun a n=>?_;exact ⟨b15,B,C,n.sb,I,q,E,g,b,c,e⟩
   refine Yf rfl trivial (EfW.mono (X3 (zs:=[vi 0,vi 0,.slice none 0 0]) X0n rfl) (fun _ _ h=>⟨fun _=>by obtain ⟨_,_,_,d,_⟩:=h;exact Keep.of_below d,h⟩)) ?_;rintro _ bF ⟨b17,rfl,aR,d,o⟩
   have aA:b3≠b17:=by have:=b.lt;omega
   have aB:=Q0 e.size aR;have b:=b.below d;have c:=c.below d;have t:=t.below d;have e:=btr e d;refine Y1 4<|Yf rfl trivial (EfW.mono (Vc (X5g _ Q false c m Am cm (x.below' e).top (adjS m) aG aH t.rd.top p (X2t p) rfl) X2g) (fun _ _ h=>⟨fun _=>by obtain ⟨aI,aJ,rfl,y,J,u⟩:=h;exact J.keep,h⟩)) ?_;rintro _ bG ⟨aI,aJ,rfl,y,J,u⟩;have D:=e.size;obtain ⟨wm,U,hm,d⟩:=J.mid;clear hm;have f:=c;have b:=b.only U (Blk.ne b f rfl);have o:=o.only U (Blk.ne o f rfl);have e:=Below.only e U H;have b:=b.below d;have o:=o.below d;have e:=btr e d
   clear f d U J;have c:=u;clear u
   have y:=y.lower D;clear D;refine Y1 6<|Yh rfl trivial rfl (Vw [vi (((timesS false m (adjS m)).2).rows),vi (((timesS false m (adjS m)).2).cols),.slice aI (((timesS false m (adjS m)).2).cells).length aJ] Xt o) ?_;rintro _ bH ⟨L,hb⟩;have f:=o;have b:=b.only L (by omega);have c:=c.only L (Blk.ne c f rfl);have y:=y.onlyT L f rfl;have e:=Below.only e L aB;have o:=hb;refine Yd fun a n=>?_;exact ⟨b17,aI,aJ,n.sub ⟨rfl,rfl,(by first|rfl|(simp [look,a9])),trivial⟩,aB,o,aA,y,b,c,e⟩
  refine Yf rfl trivial (EfW.mono (X3 (zs:=[vi 0,vi 0,.slice none 0 0]) X0n rfl) (fun _ _ h=>⟨fun _=>by obtain ⟨_,_,_,d,_⟩:=h;exact Keep.of_below d,h⟩)) ?_;rintro _ bI ⟨b20,rfl,aS,d,k⟩
  have aC:b3≠b20:=by have:=b.lt;omega
  have aD:=Q0 e.size aS;have b:=b.below d;have c:=c.below d;have e:=btr e d;refine Y1 3<|Yf rfl trivial (EfW.mono (Vc (X96 _ m Am cm (x.below' e).top p) X4o) (fun _ _ h=>⟨fun _=>by obtain ⟨aT,aU,rfl,M,d⟩:=h;exact Keep.of_below d,h⟩)) ?_;rintro _ bJ ⟨aT,aU,rfl,M,d⟩;have M:=M.lower e.size;have b:=b.below d;have c:=c.below d;have k:=k.below d;have e:=btr e d;refine Y1 4<|Yf rfl trivial (EfW.mono (Vc (X5g _ Q false c m Am cm (x.below' e).top (adjS m) aT aU M.rd.top p (X2t p) rfl) X2g) (fun _ _ h=>⟨fun _=>by obtain ⟨aK,aL,rfl,z,J,u⟩:=h;exact J.keep,h⟩)) ?_;rintro _ bK ⟨aK,aL,rfl,z,J,u⟩;have D:=e.size;obtain ⟨wm,U,hm,d⟩:=J.mid;clear hm;have f:=c;have b:=b.only U (Blk.ne b f rfl);have k:=k.only U (Blk.ne k f rfl);have e:=Below.only e U H;have b:=b.below d;have k:=k.below d;have e:=btr e d
  clear f d U J;have c:=u;clear u
  have z:=z.lower D;clear D;refine Y1 6<|Yh rfl trivial rfl (Vw [vi (((timesS false m (adjS m)).2).rows),vi (((timesS false m (adjS m)).2).cols),.slice aK (((timesS false m (adjS m)).2).cells).length aL] Xt k) ?_;rintro _ bL ⟨L,hb⟩;have f:=k;have b:=b.only L (by omega);have c:=c.only L (Blk.ne c f rfl);have z:=z.onlyT L f rfl;have e:=Below.only e L aD;have k:=hb;refine Yd fun a n=>?_;exact ⟨b20,aK,aL,n.sub ⟨rfl,rfl,(by first|rfl|(simp [look,a9])),trivial⟩,aD,k,aC,z,b,c,e⟩
 rintro a bM ⟨b15,B,C,n,I,q,E,g,b,c,e⟩;refine aP _ _<|Q5 fun _ aW=>?_;refine Zs n fun _ aX=>?_;refine Zm rfl<|Ze (X3s rfl)<|Ze (Vd rfl X3u 0)<|Ze (X0 rfl Xjb (c.at 0))<|Zt aX fun a n=>?_
 refine Xi n rfl (fun G=>?_) (fun G=>?_)
 ·have aM:=G;have A:=Xnr p aN G;refine Zs n fun _ aY=>?_;refine Za rfl<|Za rfl<|Zt aY fun a n=>?_;refine Q6<|X8<|X4 n (X0s n rfl rfl rfl) ?_;exact ⟨by rw [A],e⟩
 have aM:=G;have A:=Xkq p aN G;refine Q7<|aW _ _<|Q5 fun _ aZ=>?_;refine Xy none (fun _=>false) mixed ?_;intro bN d;have b:=b.below d;have q:=q.below d;have g:=g.below d;have e:=btr e d;refine Yb n<|Ye 0 rfl (Vn Xg q)<|Yo 1 rfl (fun _=>Vd rfl X13 0)<|Ye 2 rfl (Vx (X0 rfl X9 (b.at 0)) (show _=((m.rows.toNat:Nat) : Int) from (by omega)))<|Y1 3 ?_;refine Yk rfl trivial (Vc (Xk5 _ (m.rows.toNat:Nat) (by omega)) Xaz) (fun _ _ ⟨b0,b1,_,N,d⟩=>d) ?_;rintro _ bO ⟨b0,b1,rfl,N,d⟩;have N:=N.lower e.size;have g:=g.below d;have e:=btr e d;refine Y1 4<|Yk rfl trivial (Vc (Xn9 _ ((timesS false m (adjS m)).2) B C g.rd.top (unitS (m.rows.toNat:Nat)) b0 b1 N.rd.top (X9q (X6p p (X2t p) false).1)) Xa5) (fun _ _ ⟨_,d⟩=>d) ?_;rintro _ bP ⟨rfl,d⟩;have e:=btr e d;refine Yo 5 rfl (fun _=>X0q rfl)<|Yo 6 rfl (fun _=>X0q rfl) ?_;refine Yd fun a n=>?_;refine aZ _ _ ?_
 refine Q6 (X4 n (X0s n rfl rfl rfl) ?_)
 exact ⟨by rw [A];rfl,e⟩
theorem Xx8(w0:World)(m:Mx)(Am:Option Addr)(cm:Nat)(a9:Rd w0 w0.heap.size 86 encD Am m.cells)(aA:m.cells.length≤2305843009213693951) : Ret Tryz.prog 30 [.agg #[vi m.rows,vi m.cols,.slice Am m.cells.length cm]] w0 (fun v w=>v=.bool (oneQ m)∧Below w0.heap.size w0 w):=by
 refine enter Tryz.func30 rfl 19 rfl rfl ?_;intro a d
 have hW:=bz w0
 refine Zs d fun _ aB=>?_;refine Zf (X0b (zs:=[vi m.rows,vi m.cols,.slice Am m.cells.length cm]) rfl rfl) ?_;rintro _ w1 ⟨b3,rfl,aC,hE,e⟩;have aF:=Q0 hW.size aC;have hW:=btr hW hE;refine Za rfl<|Zx aB fun a d _ aD=>?_;refine Ze (Vn Xg e)<|Zf (Vc (Xza _ m Am cm (a9.below' hW).top aA) Xp0) ?_;rintro _ w2 ⟨rfl,hE⟩;have e:=e.below hE;have hW:=btr hW hE;refine Zm rfl<|Ze (X1 (vs:=[.bool ((uniI m).1),.bool ((uniI m).2)]) rfl rfl)<|Ze (X1 (vs:=[.bool ((uniI m).1),.bool ((uniI m).2)]) rfl rfl)<|Za rfl<|Za rfl<|ZX aD fun a d _ aE=>?_;refine X09 (fun a w=>Fr a 19 [(2,.bool ((((uniI m).2)&&((uniI m).1))&&(m.rows==2)))]∧w2=w) ?_ ?_
 ·refine Zr d<|Zm rfl<|Zm rfl ?_
  refine Zg 11 rfl (fun c=>?_) (fun c=>?_)
  ·refine Zv (gW c) (Xa rfl) ?_;refine Ze (Xh rfl c rfl)<|Zm rfl ?_
   refine Zg 14 rfl (fun b=>?_) (fun b=>?_)
   ·refine Zv (gW b) (Vd rfl X13 0) ?_;refine Zv (gW b) (X0 rfl X9 (e.at 0)) ?_;refine Zv (gW b) (X15 rfl rfl) ?_;refine Ze (Xh rfl b rfl)<|Za rfl ?_;refine Zn fun a d=>?_;exact ⟨d.sub ⟨X2 rfl (by first|rfl|(simp only [c,b,bs];done)|simp [c,b]),trivial⟩,rfl⟩
   refine Zp (gP b) ?_;refine Zp (gP b) ?_;refine Zp (gP b) ?_;refine Ze (Xd rfl b rfl)<|Za rfl ?_;refine Zn fun a d=>?_;exact ⟨d.sub ⟨X2 rfl (by first|rfl|(simp only [c,b,bs];done)|simp [c,b]),trivial⟩,rfl⟩
  refine Zp (gP c) ?_;refine Ze (Xd rfl c rfl)<|Zm rfl<|Zp (gP rfl) ?_;refine Zp (gP rfl) ?_;refine Zp (gP rfl) ?_;refine Ze (Xd rfl rfl rfl)<|Za rfl ?_;refine Zn fun a d=>?_;exact ⟨d.sub ⟨X2 rfl (by first|rfl|(simp only [c,bs];done)|simp [c]),trivial⟩,rfl⟩
 rintro a _ ⟨d,rfl⟩;refine aE _ _ ?_
 refine Q6 (X4 d (Xp d rfl rfl) ?_)
 exact ⟨by simp [oneQ, *],hW⟩
end Go.Proofs.YtnmabjfoiakapaaGreatDoor
