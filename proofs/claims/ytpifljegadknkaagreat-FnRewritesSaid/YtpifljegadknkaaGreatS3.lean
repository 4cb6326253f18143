/-
  Rewriting a diagram: what it means stays; both ways agree.
-/
import Derived.Test.YtpifljegadknkaaGreatS2
import Derived.Test.YtpifljegadknkaaGreatS1
import Derived.Shelf.SlSortCmp.WholeK
import Derived.Shelf.SlSortCmp.NoneTotal
import Derived.Shelf.SlGeneric
set_option linter.unusedVariables false
set_option linter.unusedSimpArgs false
set_option maxRecDepth 4000
set_option linter.unusedSectionVars false
namespace Go.Proofs.YtpifljegadknkaaGreat
open Go.RowKit
theorem Xyt(w0:World)(d:Dg)(md:Nat)(a8:md=d.ns.length)(Ad:Option Addr)(cd:Nat)(aI:Rd w0 w0.heap.size 81 encNd Ad d.ns)(Bd:Option Addr)(dd:Nat)(aU:Rd w0 w0.heap.size 83 encWr Bd d.ws)(N:d.ws.length<=dd)(p:Int)(q:Int)(hD:InD d) : Ret Tryz.prog 176 [.agg #[vi d.n,.slice Ad md cd,.slice Bd d.ws.length dd,vi d.t,vi d.r],vi p,vi q] w0 (fun v w=>∃ A c B e,v=.tuple #[.agg #[vi (if (pvC d p q)=true then pvD d p q else d).n,.slice A md c,.slice B (if (pvC d p q)=true then pvD d p q else d).ws.length e,vi (if (pvC d p q)=true then pvD d p q else d).t,vi (if (pvC d p q)=true then pvD d p q else d).r],.bool (pvC d p q)]/\Rd w w.heap.size 81 encNd A (if (pvC d p q)=true then pvD d p q else d).ns/\Rd w w.heap.size 83 encWr B (if (pvC d p q)=true then pvD d p q else d).ws/\(if (pvC d p q)=true then pvD d p q else d).ws.length<=e/\md=(if (pvC d p q)=true then pvD d p q else d).ns.length/\Below w0.heap.size w0 w):=by
 have iM:=hD.len;have iN:=hD.m;have iO:=X7w hD p q;have iP:=X7w hD q p;have gH:=Xbk hD p q;have iQ:=X1n hD.p p.toNat;have iS:=X1n hD.p q.toNat;have iT:=X2i d.ws p;have iU:=X2i (dpW d.ws p) q;refine enter Tryz.func176 rfl 196 rfl rfl ?_;intro a J
 have G:=bz w0
 refine Zs J fun _ gI=>?_;refine Zf (X0n (zs:=[vi d.n,.slice Ad md cd,.slice Bd d.ws.length dd,vi d.t,vi d.r]) rfl rfl) ?_;rintro _ w1 ⟨b4,rfl,gJ,L,M⟩;have iB:=Q0 G.size gJ;have G:=btr G L;refine Zf (Xo (zs:=[vi 0,.slice none 0 0,.slice none 0 0,vi 0,vi 0]) X0o rfl) ?_;rintro _ w2 ⟨b7,rfl,gK,L,E⟩
 have gG:b4≠b7:=by have:=M.lt;omega
 have bW:=Q0 G.size gK;have M:=M.bw L;have G:=btr G L;refine Za rfl<|ZX gI fun a J _ gL=>?_;refine Q5 fun _ gM=>?_;refine X0b (fun a w=>Fr a 196 [(1,vi p),(2,vi q),(3,(pZ9 b4)),(6,(pZ9 b7)),(63,.bool ((((((!(spI d.ns p))||(!(spI d.ns q)))||(decide (q<=p)))||((((d.ns.getD p.toNat nZ).p).tmod 4) != 0))||((((d.ns.getD q.toNat nZ).p).tmod 4) != 0))||((tyW d.ws p q) != 2)))]/\Below w2.heap.size w2 w) ?_ ?_
 ·have a6:Below w2.heap.size w2 w2:=Below.refl _ _
  refine Zr J<|Ze (Vn X2 M)<|Zm rfl<|Zf (Vc (X5d _ d md a8 Ad cd (aI.bx G).top Bd dd (aU.bx G).top N p (by rw [a8];exact hD.m)) X2p) ?_;rintro _ w3 ⟨rfl,L⟩;have M:=M.bw L;have G:=btr G L;have a6:=btr a6 L;refine Ze (X0y rfl)<|Zm rfl ?_
  refine Zg 26 rfl (fun a7=>?_) (fun a7=>?_)
  ·(iterate 4 refine Zp (gP a7) ?_);refine Ze (X4 rfl a7 rfl)<|Zm rfl<|Zp (gP rfl) ?_;(iterate 2 refine Zp (gP rfl) ?_);refine Ze (X4 rfl rfl rfl)<|Zm rfl<|Zp (gP rfl) ?_;(iterate 7 refine Zp (gP rfl) ?_);refine Ze (X4 rfl rfl rfl)<|Zm rfl<|Zp (gP rfl) ?_;(iterate 7 refine Zp (gP rfl) ?_);refine Ze (X4 rfl rfl rfl)<|Zm rfl<|Zp (gP rfl) ?_;(iterate 4 refine Zp (gP rfl) ?_);refine Ze (X4 rfl rfl rfl) ?_;refine Zn fun a J=>?_
   have aH:Below w2.heap.size w2 w3:=a6
   exact ⟨J.sub ⟨rfl,rfl,rfl,rfl,X1 rfl (by simp [a7]),trivial⟩,aH⟩
  have cS:0<=p/\p.toNat<d.ns.length:=by have h9:=X0f (ns:=d.ns) (k:=p) (by simpa using a7);exact ⟨h9.1,h9.2.1⟩
  refine Zv (gW a7) (Vn X2 M) ?_;refine Zv (gW a7) (X3 rfl) ?_;refine Zk (gW a7) (Vc (X5d _ d md a8 Ad cd (aI.bx G).top Bd dd (aU.bx G).top N q (by rw [a8];exact hD.m)) X2p) ?_;rintro _ w4 ⟨rfl,L⟩;have M:=M.bw L;have G:=btr G L;have a6:=btr a6 L;refine Zv (gW a7) (X0y rfl) ?_;refine Ze (Xe rfl a7 rfl)<|Zm rfl ?_
  refine Zg 32 rfl (fun aB=>?_) (fun aB=>?_)
  ·(iterate 3 refine Zp (gP aB) ?_);refine Ze (X4 rfl aB rfl)<|Zm rfl<|Zp (gP rfl) ?_;(iterate 7 refine Zp (gP rfl) ?_);refine Ze (X4 rfl rfl rfl)<|Zm rfl<|Zp (gP rfl) ?_;(iterate 7 refine Zp (gP rfl) ?_);refine Ze (X4 rfl rfl rfl)<|Zm rfl<|Zp (gP rfl) ?_;(iterate 4 refine Zp (gP rfl) ?_);refine Ze (X4 rfl rfl rfl) ?_;refine Zn fun a J=>?_
   have aH:Below w2.heap.size w2 w4:=a6
   exact ⟨J.sub ⟨rfl,rfl,rfl,rfl,X1 rfl (by simp [a7,aB]),trivial⟩,aH⟩
  have cC:0<=q/\q.toNat<d.ns.length:=by have h9:=X0f (ns:=d.ns) (k:=q) (by have h8:=aB;first|exact (by simpa using h8)|(simp at h8;exact h8.2));exact ⟨h9.1,h9.2.1⟩
  refine Zv (gW aB) (X3 rfl) ?_;refine Zv (gW aB) (X3 rfl) ?_;refine Zv (gW aB) (X5g rfl rfl) ?_;refine Ze (Xe rfl aB rfl)<|Zm rfl ?_
  refine Zg 37 rfl (fun Q=>?_) (fun Q=>?_)
  ·(iterate 8 refine Zp (gP Q) ?_);refine Ze (X4 rfl Q rfl)<|Zm rfl<|Zp (gP rfl) ?_;(iterate 7 refine Zp (gP rfl) ?_);refine Ze (X4 rfl rfl rfl)<|Zm rfl<|Zp (gP rfl) ?_;(iterate 4 refine Zp (gP rfl) ?_);refine Ze (X4 rfl rfl rfl) ?_;refine Zn fun a J=>?_
   have aH:Below w2.heap.size w2 w4:=a6
   exact ⟨J.sub ⟨rfl,rfl,rfl,rfl,X1 rfl (by simp [a7,aB,Q]),trivial⟩,aH⟩
  refine Zv (gW Q) (Vd rfl Xg 1) ?_;refine Zv (gW Q) (X0 rfl Xy (M.at 1)) ?_;refine Zv (gW Q) (X3 rfl) ?_;refine Zj (k:=p.toNat) (u:=(d.ns.getD p.toNat nZ)) (enc:=encNd) (l:=d.ns) ⟨_,_,rfl,rfl,Q⟩ rfl a8 rfl Xl X08 Xw (aI.bx G) (Xb cS.2) (by omega) ?_;intro iV dF;refine Zv (gW Q) (X2l rfl X06) ?_;refine Zv (gW Q) (X0 rfl X7 (dF.drop 1)) ?_;refine Zv (gW Q) (X33 rfl rfl rfl) ?_;refine Zv (gW Q) (X1o rfl rfl) ?_;refine Ze (Xe rfl Q rfl)<|Zm rfl ?_
  refine Zg 47 rfl (fun U=>?_) (fun U=>?_)
  ·(iterate 8 refine Zp (gP U) ?_);refine Ze (X4 rfl U rfl)<|Zm rfl<|Zp (gP rfl) ?_;(iterate 4 refine Zp (gP rfl) ?_);refine Ze (X4 rfl rfl rfl) ?_;refine Zn fun a J=>?_
   have aH:Below w2.heap.size w2 w4:=a6
   exact ⟨J.sub ⟨rfl,rfl,rfl,rfl,X1 rfl (by first|rfl|(simp only [a7,aB,Q,U,bs];done)|simp [a7,aB,Q,U]),trivial⟩,aH⟩
  refine Zv (gW U) (Vd rfl Xg 1) ?_;refine Zv (gW U) (X0 rfl Xy (M.at 1)) ?_;refine Zv (gW U) (X3 rfl) ?_;refine Zj (k:=q.toNat) (u:=(d.ns.getD q.toNat nZ)) (enc:=encNd) (l:=d.ns) ⟨_,_,rfl,rfl,U⟩ rfl a8 rfl Xl X08 Xw (aI.bx G) (Xb cC.2) (by omega) ?_;intro iW dG;refine Zv (gW U) (X2l rfl X06) ?_;refine Zv (gW U) (X0 rfl X7 (dG.drop 1)) ?_;refine Zv (gW U) (X33 rfl rfl rfl) ?_;refine Zv (gW U) (X1o rfl rfl) ?_;refine Ze (Xe rfl U rfl)<|Zm rfl ?_
  refine Zg 57 rfl (fun aF=>?_) (fun aF=>?_)
  ·(iterate 5 refine Zp (gP aF) ?_);refine Ze (X4 rfl aF rfl) ?_;refine Zn fun a J=>?_
   have aH:Below w2.heap.size w2 w4:=a6
   exact ⟨J.sub ⟨rfl,rfl,rfl,rfl,X1 rfl (by first|rfl|(simp only [a7,aB,Q,U,aF,bs];done)|simp [a7,aB,Q,U,aF]),trivial⟩,aH⟩
  refine Zv (gW aF) (Vn X2 M) ?_;refine Zv (gW aF) (X3 rfl) ?_;refine Zv (gW aF) (X3 rfl) ?_;refine Zk (gW aF) (Vc (X83 _ d md a8 Ad cd (aI.bx G).top Bd dd (aU.bx G).top N p q (by omega)) X45) ?_;rintro _ w5 ⟨rfl,L⟩;have G:=btr G L;have a6:=btr a6 L;refine Zv (gW aF) (X1o rfl rfl) ?_;refine Ze (Xe rfl aF rfl) ?_;refine Zn fun a J=>?_
  have aH:Below w2.heap.size w2 w5:=a6
  exact ⟨J.sub ⟨rfl,rfl,rfl,rfl,X1 rfl (by first|rfl|(simp only [a7,aB,Q,U,aF,bs];done)|simp [a7,aB,Q,U,aF]),trivial⟩,aH⟩
 rintro a w6 ⟨J,L⟩;have M:=M.bw L;have E:=E.bw L;have G:=btr G L;refine gM _ _ ?_
 refine Xi J rfl (fun bF=>?_) (fun bF=>?_)
 ·have aN:=bF;have dH:=Xko hD bF;refine Zs J fun _ eG=>?_;refine Ze (Vn X2 M)<|Zo (Vw [vi d.n,.slice Ad md cd,.slice Bd d.ws.length dd,vi d.t,vi d.r] Xf E) ?_;rintro _ w7 ⟨ho,hb⟩;have I:=E;have G:=Below.oy G ho bW;have E:=hb;refine Za rfl<|Zt eG fun a J=>?_;refine Q6<|Xa<|X6 J (X19 J rfl (ResV.cellN (l:=[vi d.n,.slice Ad md cd,.slice Bd d.ws.length dd,vi d.t,vi d.r]) rfl X2 (E.at 0) rfl) rfl) ?_
  rw [dH,Q3 Bool.false_ne_true]
  exact ⟨Ad,cd,Bd,dd,rfl,(aI.bx G).top,(aU.bx G).top,N,a8,G⟩
 have aN:=bF;obtain ⟨cS,cC,iC,gN⟩:=Xfc hD bF;refine Q7<|gL _ _<|Zs J fun _ eH=>?_;refine Ze (Vn X2 M)<|Zm rfl<|Zm rfl<|Zf (Vc (Xtg _ d md a8 Ad cd (aI.bx G).top Bd dd (aU.bx G).top N p q hD.w (by omega)) Xhf) ?_;rintro _ w8 ⟨aQ,aR,rfl,g,L⟩;have g:=g.lower G.size;have M:=M.bw L;have E:=E.bw L;have G:=btr G L;refine Za rfl<|Zx eH fun a J _ eI=>?_;refine Ze (Vn X2 M)<|Zm rfl<|Zm rfl<|Zf (Vc (Xtg _ d md a8 Ad cd (aI.bx G).top Bd dd (aU.bx G).top N q p hD.w (by omega)) Xhf) ?_;rintro _ w9 ⟨aS,aT,rfl,h,L⟩;have h:=h.lower G.size;have M:=M.bw L;have E:=E.bw L;have g:=g.bw L;have G:=btr G L;refine Za rfl<|Zx eI fun a J _ eJ=>?_;refine Zm rfl<|Zf (Vc (Y3u _ aQ aR (othW d.ws p q) g.rd.top (by omega)) Xxx) ?_;rintro _ iX ⟨gO,gQ,rfl,cD,L⟩;have cD:=cD.lower G.size;have M:=M.bw L;have E:=E.bw L;have g:=g.bw L;have h:=h.bw L;have G:=btr G L;refine Za rfl<|ZX eJ fun a J _ eK=>?_;refine Zs J fun _ eL=>?_;refine Zm rfl<|Ze (X0c rfl Xj)<|Zm rfl<|Zt eL fun a J=>?_;refine Q8<|X04 (σ:=Nat×(List Int)) (fun (s:Nat×(List Int)) (a:Act) (w:World)=>match s with|(k,m)=>∃ aA aD,Fr a 196 [(1,vi p),(2,vi q),(3,(pZ9 b4)),(6,(pZ9 b7)),(8,.slice aQ (othW d.ws p q).length aR),(9,.slice aS (othW d.ws q p).length aT),(10,.slice aA m.length aD),(75,.slice aS (othW d.ws q p).length aT),(76,vi ((othW d.ws q p).length:Int)),(77,vi (k:Int))]/\(k<=(othW d.ws q p).length)/\(m=((othW d.ws q p).take k).foldl putI (othW d.ws p q))/\Blk w b4 39 [vi d.n,.slice Ad md cd,.slice Bd d.ws.length dd,vi d.t,vi d.r]/\Blk w b7 39 [vi 0,.slice none 0 0,.slice none 0 0,vi 0,vi 0]/\Own w w0.heap.size 3 1 encI aA aD m/\Own w w0.heap.size 3 1 encI aQ aR (othW d.ws p q)/\Own w w0.heap.size 3 1 encI aS aT (othW d.ws q p)/\d.ws.length<=dd/\Below w0.heap.size w0 w) (fun (s:Nat×(List Int))=>match s with|(k,m)=>(othW d.ws q p).length-k) (0,(othW d.ws p q)) ?_ ?_
 ·exact ⟨gO,gQ,J.sb,(Qf _),rfl,M,E,cD,g,h,N,G⟩
 rintro ⟨k,m⟩ a w11 ⟨aA,aD,J,hk,hm,M,E,C,g,h,N,G⟩;refine Zs J fun _ eM=>?_;refine Ze (X0q rfl rfl)<|ZX eM fun a J _ eO=>?_
 refine Xi J rfl (fun b2=>?_) (fun b2=>?_)
 ·have aO:=b2;have b2:=Q2 b2
  obtain ⟨iY,iD⟩:=X5 (l:=(othW d.ws q p)) (k:=k) (by omega)
  obtain ⟨u9,bY⟩:=X5 (l:=(othW d.ws q p)) (k:=k) (by have:=b2;omega)
  have bG:=X39 (f:=putI) (b:=(othW d.ws p q)) bY
  rw [<- hm] at bG
  refine Q7<|eO _ _<|Q5 fun _ eP=>?_;refine Q8<|Zs J fun _ eQ=>?_;refine Zi (k:=k) (u:=u9) (enc:=encI) (l:=(othW d.ws q p)) tv0 rfl rfl Xj X09 X9 h.rd bY rfl ?_;intro iZ dI;refine Ze (X0 rfl X7 dI)<|Za rfl<|Zt eQ fun a J=>?_;refine Zr J<|Zm rfl<|Zm rfl<|Zf (Vc (Xv2 _ aA aD m C.rd.top u9 w0.heap.size C G.size (by have h9:=X9d ((othW d.ws q p).take k) (othW d.ws p q);rw [<- hm,Qn] at h9;omega)) Xen) ?_;rintro _ j0 ⟨gR,gS,rfl,eR,L⟩;have M:=M.bw L;have E:=E.bw L;have g:=g.bw L;have h:=h.bw L;have G:=btr G L;refine Za rfl ?_;refine Zn fun a J=>?_;refine Xc<|eP _ _<|Zr J<|Ze (Xm rfl rfl (by omega) (by omega))<|Zm rfl ?_;refine Zn fun a J=>?_;refine Xd ?_;exact ⟨(k+1,(putI m u9)),⟨gR,gS,J.sb,(by omega),(by rw [bG]),M,E,eR,g,h,N,G⟩,(by first|omega|(dsimp only;omega))⟩
 have aO:=b2;have b2:=Q1 b2
 have bZ:m=(pvL d p q):=by rw [hm,Qi (by have:=b2;omega)];rfl
 have j1:m.length<=2*d.ns.length:=by rw [bZ];exact gH
 refine Q9<|Xk<|Xk<|X03 ?_;refine eK _ _<|Q5 fun _ eS=>?_;refine Q5 fun _ eT=>?_;refine X0b (fun a w=>Fr a 196 [(1,vi p),(2,vi q),(3,(pZ9 b4)),(6,(pZ9 b7)),(8,.slice aQ (othW d.ws p q).length aR),(9,.slice aS (othW d.ws q p).length aT),(10,.slice aA m.length aD),(100,.bool (((!(hadD d p))||(!(hadD d q)))||(!(rdyD d m))))]/\Below w11.heap.size w11 w) ?_ ?_
 ·have a6:Below w11.heap.size w11 w11:=Below.refl _ _
  refine Zr J<|Ze (Vn X2 M)<|Zm rfl<|Zf (Vc (Xjq _ d md a8 Ad cd (aI.bx G).top Bd dd (aU.bx G).top N p hD.w (by omega)) Xbl) ?_;rintro _ w13 ⟨rfl,L⟩;have M:=M.bw L;have C:=C.bw L;have G:=btr G L;have a6:=btr a6 L;refine Ze (X0y rfl)<|Zm rfl ?_
  refine Zg 89 rfl (fun aM=>?_) (fun aM=>?_)
  ·(iterate 4 refine Zp (gP aM) ?_);refine Ze (X4 rfl aM rfl)<|Zm rfl<|Zp (gP rfl) ?_;(iterate 3 refine Zp (gP rfl) ?_);refine Ze (X4 rfl rfl rfl) ?_;refine Zn fun a J=>?_
   have aH:Below w11.heap.size w11 w13:=a6
   exact ⟨J.sub ⟨rfl,rfl,rfl,rfl,rfl,rfl,rfl,X1 rfl (by simp [aN,aO,aM]),trivial⟩,aH⟩
  refine Zv (gW aM) (Vn X2 M) ?_;refine Zv (gW aM) (X3 rfl) ?_;refine Zk (gW aM) (Vc (Xjq _ d md a8 Ad cd (aI.bx G).top Bd dd (aU.bx G).top N q hD.w (by omega)) Xbl) ?_;rintro _ w14 ⟨rfl,L⟩;have M:=M.bw L;have C:=C.bw L;have G:=btr G L;have a6:=btr a6 L;refine Zv (gW aM) (X0y rfl) ?_;refine Ze (Xe rfl aM rfl)<|Zm rfl ?_
  refine Zg 95 rfl (fun aP=>?_) (fun aP=>?_)
  ·(iterate 4 refine Zp (gP aP) ?_);refine Ze (X4 rfl aP rfl) ?_;refine Zn fun a J=>?_
   have aH:Below w11.heap.size w11 w14:=a6
   exact ⟨J.sub ⟨rfl,rfl,rfl,rfl,rfl,rfl,rfl,X1 rfl (by simp [aN,aO,aM,aP]),trivial⟩,aH⟩
  refine Zv (gW aP) (Vn X2 M) ?_;refine Zv (gW aP) (X3 rfl) ?_;refine Zk (gW aP) (Vc (Xtk _ d md a8 Ad cd (aI.bx G).top Bd dd (aU.bx G).top N aA aD m C.rd.top (by omega) (by omega) (by omega) C.cap) Xgk) ?_;rintro _ w15 ⟨rfl,L⟩;have G:=btr G L;have a6:=btr a6 L;refine Zv (gW aP) (X0y rfl) ?_;refine Ze (Xe rfl aP rfl) ?_;refine Zn fun a J=>?_
  have aH:Below w11.heap.size w11 w15:=a6
  exact ⟨J.sub ⟨rfl,rfl,rfl,rfl,rfl,rfl,rfl,X1 rfl (by simp [aN,aO,aM,aP]),trivial⟩,aH⟩
 rintro a j3 ⟨J,L⟩;have M:=M.bw L;have E:=E.bw L;have C:=C.bw L;have g:=g.bw L;have h:=h.bw L;have G:=btr G L;refine eT _ _ ?_
 refine Xi J rfl (fun bH=>?_) (fun bH=>?_)
 ·have b0:=bH
  have dH:pvC d p q=false:=Xjl (by rw [<- bZ];exact bH)
  refine Zs J fun _ eU=>?_;refine Ze (Vn X2 M)<|Zo (Vw [vi d.n,.slice Ad md cd,.slice Bd d.ws.length dd,vi d.t,vi d.r] Xf E) ?_;rintro _ j4 ⟨ho,hb⟩;have I:=E;have G:=Below.oy G ho bW;have E:=hb;refine Za rfl<|Zt eU fun a J=>?_;refine Q6<|Xa<|X6 J (X19 J rfl (ResV.cellN (l:=[vi d.n,.slice Ad md cd,.slice Bd d.ws.length dd,vi d.t,vi d.r]) rfl X2 (E.at 0) rfl) rfl) ?_
  rw [dH,Q3 Bool.false_ne_true]
  exact ⟨Ad,cd,Bd,dd,rfl,(aI.bx G).top,(aU.bx G).top,N,a8,G⟩
 have b0:=bH
 have eV:pvC d p q=true:=Xhp gN (by rw [<- bZ];exact bH)
 refine Q7<|eS _ _<|Q5 fun _ eX=>?_;refine X00 none (fun _=>false) mixed ?_;intro j5 L;have M:=M.bw L;have E:=E.bw L;have C:=C.bw L;have g:=g.bw L;have h:=h.bw L;have G:=btr G L;refine Yb J<|Yo 0 rfl (fun _=>Vd rfl Xg 1)<|Ye 1 rfl (X0 rfl Xy (M.at 1))<|Yo 2 rfl (fun _=>X3 rfl)<|Yj (k:=p.toNat) (u:=(d.ns.getD p.toNat nZ)) (enc:=encNd) (l:=d.ns) 3 rfl tv0 rfl a8 rfl Xl X08 Xw (aI.bx G) (Xb cS.2) (by omega) ?_;intro j6 dJ;refine Yo 4 rfl (fun _=>X2l rfl X06)<|Ye 5 rfl (X0 rfl X7 (dJ.drop 1))<|Yo 6 rfl (fun _=>Vd rfl Xg 1)<|Ye 7 rfl (X0 rfl Xy (M.at 1))<|Yo 8 rfl (fun _=>X3 rfl)<|Yj (k:=q.toNat) (u:=(d.ns.getD q.toNat nZ)) (enc:=encNd) (l:=d.ns) 9 rfl tv0 rfl a8 rfl Xl X08 Xw (aI.bx G) (Xb cC.2) (by omega) ?_;intro j7 dK;refine Yo 10 rfl (fun _=>X2l rfl X06)<|Ye 11 rfl (X0 rfl X7 (dK.drop 1))<|Yo 12 rfl (fun _=>Xr rfl)<|Yo 13 rfl (fun _=>Xr rfl) ?_;refine Yd fun a J=>?_;refine eX _ _<|Zs J fun _ eY=>?_;refine Ze (Vn X2 M)<|Zf (Vc (Xa0 _ d md a8 Ad cd (aI.bx G).top Bd dd (aU.bx G).top N ⟨by omega,by omega⟩) X64) ?_;rintro _ j8 ⟨cT,cU,gT,gU,rfl,aJ,bX,L⟩;have aJ:=aJ.lower G.size;have bX:=bX.lower G.size;have M:=M.bw L;have E:=E.bw L;have C:=C.bw L;have g:=g.bw L;have h:=h.bw L;have G:=btr G L;refine Zm rfl<|Zf (Vc (Xan _ d d.ns.length rfl cT cU _ aJ G.size gT gU bX.rd.top bX.cap p cS (by omega)) X5p) ?_;rintro _ j9 ⟨gX,gY,rfl,aG,eZ,f0,f3,hg⟩;have H:=aJ;have M:=M.appT H hg rfl;have E:=E.appT H hg rfl
 have C:=C.appT H hg rfl;have g:=g.appT H hg rfl;have h:=h.appT H hg rfl;have G:=Below.app G H hg (Qb _) G.size
 clear H hg;clear aJ;have aJ:=aG;clear aG;refine Zm rfl<|Zf (Vc (Xan _ ({ d with ns:=dpN d.ns p,ws:=dpW d.ws p } : Dg) d.ns.length f3 cT cU _ aJ G.size gX gY eZ.top f0 q ⟨cC.1,by rw [X1l];exact cC.2⟩ (by dsimp only;omega)) X5p) ?_;rintro _ jA ⟨f5,f7,rfl,aG,bJ,f8,iE,hg⟩;have H:=aJ;have M:=M.appT H hg rfl;have E:=E.appT H hg rfl;have C:=C.appT H hg rfl;have g:=g.appT H hg rfl;have h:=h.appT H hg rfl;have G:=Below.app G H hg (Qb _) G.size
 clear H hg;clear aJ;have aJ:=aG;clear aG;refine Zf (Xo (zs:=[vi 0,.slice none 0 0,.slice none 0 0,vi 0,vi 0]) X0o rfl) ?_;rintro _ jB ⟨b57,rfl,f9,L,D⟩
 have fA:b4≠b57:=by have:=M.lt;omega
 have fB:b7≠b57:=by have:=E.lt;omega
 have aV:=Q0 G.size f9;have E:=E.bw L;have C:=C.bw L;have g:=g.bw L;have h:=h.bw L;have aJ:=aJ.bw L;have bJ:=bJ.bw L;have G:=btr G L;refine Zo (Vw [vi (({ ({ d with ns:=dpN d.ns p,ws:=dpW d.ws p } : Dg) with ns:=dpN ({ d with ns:=dpN d.ns p,ws:=dpW d.ws p } : Dg).ns q,ws:=dpW ({ d with ns:=dpN d.ns p,ws:=dpW d.ws p } : Dg).ws q } : Dg).n),.slice cT d.ns.length cU,.slice f5 (({ ({ d with ns:=dpN d.ns p,ws:=dpW d.ws p } : Dg) with ns:=dpN ({ d with ns:=dpN d.ns p,ws:=dpW d.ws p } : Dg).ns q,ws:=dpW ({ d with ns:=dpN d.ns p,ws:=dpW d.ws p } : Dg).ws q } : Dg).ws).length f7,vi (({ ({ d with ns:=dpN d.ns p,ws:=dpW d.ws p } : Dg) with ns:=dpN ({ d with ns:=dpN d.ns p,ws:=dpW d.ws p } : Dg).ns q,ws:=dpW ({ d with ns:=dpN d.ns p,ws:=dpW d.ws p } : Dg).ws q } : Dg).t),vi (({ ({ d with ns:=dpN d.ns p,ws:=dpW d.ws p } : Dg) with ns:=dpN ({ d with ns:=dpN d.ns p,ws:=dpW d.ws p } : Dg).ns q,ws:=dpW ({ d with ns:=dpN d.ns p,ws:=dpW d.ws p } : Dg).ws q } : Dg).r)] Xf D) ?_;rintro _ jC ⟨ho,hb⟩;have I:=D;have E:=E.oy ho (by omega);have C:=C.oT ho I rfl;have g:=g.oT ho I rfl;have h:=h.oT ho I rfl;have aJ:=aJ.oT ho I rfl;have bJ:=bJ.oT ho I rfl;have G:=Below.oy G ho aV;have D:=hb;refine ZX eY fun a J _ fC=>?_;refine Zs J fun _ fE=>?_;refine Zm rfl<|Ze (X0c rfl Xj)<|Zm rfl<|Zt fE fun a J=>?_;refine Q8<|X04 (σ:=Nat×Dg) (fun (s:Nat×Dg) (a:Act) (w:World)=>match s with|(i,o)=>∃ aY aZ b3 b5,Fr a 196 [(6,(pZ9 b7)),(8,.slice aQ (othW d.ws p q).length aR),(9,.slice aS (othW d.ws q p).length aT),(10,.slice aA m.length aD),(13,vi ((d.ns.getD p.toNat nZ).p)),(14,vi ((d.ns.getD q.toNat nZ).p)),(15,(pZ9 b57)),(120,.slice aA m.length aD),(121,vi (m.length:Int)),(122,vi (i:Int))]/\(i<=m.length)/\(o=pvM (d.ns.getD p.toNat nZ).p (d.ns.getD q.toNat nZ).p (othW d.ws p q) (othW d.ws q p) m (id0 (id0 d p) q) i)/\(d.ns.length=o.ns.length)/\(o.ws.length<=d.ws.length+i*2000)/\(PhN o.ns)/\Blk w b7 39 [vi 0,.slice none 0 0,.slice none 0 0,vi 0,vi 0]/\Blk w b57 39 [vi o.n,.slice aY d.ns.length aZ,.slice b3 o.ws.length b5,vi o.t,vi o.r]/\Own w w0.heap.size 3 1 encI aA aD m/\Own w w0.heap.size 3 1 encI aQ aR (othW d.ws p q)/\Own w w0.heap.size 3 1 encI aS aT (othW d.ws q p)/\Own w w0.heap.size 81 2 encNd aY aZ o.ns/\Rd w w.heap.size 83 encWr b3 o.ws/\d.ws.length<=dd/\o.ws.length<=b5/\Below w0.heap.size w0 w) (fun (s:Nat×Dg)=>match s with|(i,o)=>m.length-i) (0,(id0 (id0 d p) q)) ?_ ?_
 ·exact ⟨cT,cU,f5,f7,J.sb,(Qf _),rfl,((X1l _ _).trans (X1l _ _)).symm,(Q0 (X2i _ _) (Q0 (X2i d.ws p) (Nat.le_add_right _ _))),(X5b (X5b hD.p p) q),E,D,C,g,h,aJ,bJ.top,N,f8,G⟩
 rintro ⟨i,o⟩ a jD ⟨aY,aZ,b3,b5,J,hi,fF,cE,gZ,dL,E,D,C,g,h,W,aC,N,cV,G⟩;refine Zs J fun _ fG=>?_;refine Ze (X0q rfl rfl)<|ZX fG fun a J _ fH=>?_
 refine Xi J rfl (fun b6=>?_) (fun b6=>?_)
 ·have b1:=b6;have b6:=Q2 b6
  obtain ⟨jE,iF⟩:=X5 (l:=m) (k:=i) (by omega)
  obtain ⟨u9,bY⟩:=X5 (l:=m) (k:=i) (by have:=b6;omega)
  have dM:0<=u9/\u9.toNat<d.ns.length:=Xc3 hD (by rw [<- bZ];exact bY)
  have jF:=X1n dL u9.toNat;refine Q7<|fH _ _<|Q5 fun _ fI=>?_;refine Q8<|Zs J fun _ fJ=>?_;refine Zm rfl<|Zi (k:=i) (u:=u9) (enc:=encI) (l:=m) tv0 rfl rfl Xj X09 X9 C.rd bY rfl ?_;intro jG dN;refine Ze (X0 rfl X7 dN)<|Za rfl<|Za rfl<|Zx fJ fun a J _ fK=>?_;refine Zm rfl<|Zm rfl<|Zf (Vc (Xkh _ aQ aR (othW d.ws p q) g.rd.top u9 (by omega)) X93) ?_;rintro _ jH ⟨rfl,L⟩;have E:=E.bw L;have D:=D.bw L;have C:=C.bw L;have g:=g.bw L;have h:=h.bw L;have W:=W.bw L;have aC:=aC.bw L;have G:=btr G L;refine Zm rfl<|Zm rfl<|Zf (Vc (Xkh _ aS aT (othW d.ws q p) h.rd.top u9 (by omega)) X93) ?_;rintro _ jI ⟨rfl,L⟩;have E:=E.bw L;have D:=D.bw L;have C:=C.bw L;have g:=g.bw L;have h:=h.bw L;have W:=W.bw L;have aC:=aC.bw L;have G:=btr G L;refine Za rfl<|Za rfl<|ZX fK fun a J _ fL=>?_;refine Zs J fun _ fM=>?_;refine Zm rfl<|Zt fM fun a J=>?_;refine X0b (fun a w=>∃ (x1:Dg),∃ bQ bR cF cG,Fr a 196 [(6,(pZ9 b7)),(8,.slice aQ (othW d.ws p q).length aR),(9,.slice aS (othW d.ws q p).length aT),(10,.slice aA m.length aD),(13,vi ((d.ns.getD p.toNat nZ).p)),(14,vi ((d.ns.getD q.toNat nZ).p)),(15,(pZ9 b57)),(16,vi (i:Int)),(17,vi u9),(18,.bool ((othW d.ws p q).any fun y=>y==u9)),(19,.bool ((othW d.ws q p).any fun y=>y==u9)),(120,.slice aA m.length aD),(121,vi (m.length:Int)),(122,vi (i:Int))]/\(x1=stN ((othW d.ws p q).any fun v=>v==u9) o u9 (d.ns.getD q.toNat nZ).p)/\(d.ns.length=x1.ns.length)/\(x1.ws.length<=o.ws.length)/\(PhN x1.ns)/\Blk w b7 39 [vi 0,.slice none 0 0,.slice none 0 0,vi 0,vi 0]/\Blk w b57 39 [vi x1.n,.slice bQ d.ns.length bR,.slice cF x1.ws.length cG,vi x1.t,vi x1.r]/\Own w w0.heap.size 3 1 encI aA aD m/\Own w w0.heap.size 3 1 encI aQ aR (othW d.ws p q)/\Own w w0.heap.size 3 1 encI aS aT (othW d.ws q p)/\Own w w0.heap.size 81 2 encNd bQ bR x1.ns/\Rd w w.heap.size 83 encWr cF x1.ws/\d.ws.length<=dd/\x1.ws.length<=cG/\Below w0.heap.size w0 w) ?_ ?_
  ·refine Xi J rfl (fun bK=>?_) (fun bK=>?_)
   ·have dO:=bK;have cH:=bK;refine Zr J<|Ze (Vn X2 D)<|Zm rfl<|Zm rfl<|Zf (Vc (Xar _ o d.ns.length cE aY aZ _ W G.size b3 b5 aC.top cV u9 ((d.ns.getD q.toNat nZ).p) ⟨dM.1,by omega⟩ ⟨by omega,by omega⟩) X5v) ?_;rintro _ jJ ⟨fN,fO,rfl,aG,cI,fP,iG,hg⟩;have H:=W;have E:=E.appT H hg rfl;have D:=D.appT H hg rfl;have C:=C.appT H hg rfl;have g:=g.appT H hg rfl;have h:=h.appT H hg rfl;have G:=Below.app G H hg (Qb _) G.size
    clear H hg;clear W;have W:=aG;clear aG;refine Zo (Vw [vi (({ o with ns:=adN o.ns u9 ((d.ns.getD q.toNat nZ).p) } : Dg).n),.slice aY d.ns.length aZ,.slice fN (({ o with ns:=adN o.ns u9 ((d.ns.getD q.toNat nZ).p) } : Dg).ws).length fO,vi (({ o with ns:=adN o.ns u9 ((d.ns.getD q.toNat nZ).p) } : Dg).t),vi (({ o with ns:=adN o.ns u9 ((d.ns.getD q.toNat nZ).p) } : Dg).r)] Xf D) ?_;rintro _ jK ⟨ho,hb⟩;have I:=D;have E:=E.oy ho (by omega);have C:=C.oT ho I rfl;have g:=g.oT ho I rfl;have h:=h.oT ho I rfl;have W:=W.oT ho I rfl;have cI:=cI.oT ho I rfl;have G:=Below.oy G ho aV;have D:=hb;refine Zn fun a J=>?_;refine Xd ?_;exact ⟨({ o with ns:=adN o.ns u9 ((d.ns.getD q.toNat nZ).p) } : Dg),aY,aZ,fN,fO,J.sb,((Xnl cH).symm),(cE.trans (X1u _ _ _).symm),(Qb _),(X68 dL _ _),E,D,C,g,h,W,cI.top,N,fP,G⟩
   have dO:=bK;have cH:=bK;refine Q7<|Xd ?_;exact ⟨o,aY,aZ,b3,b5,J.sb,((Xmr cH).symm),cE,(Qb _),dL,E,D,C,g,h,W,aC.top,N,cV,G⟩
  rintro a jL ⟨x1,bQ,bR,cF,cG,J,hJ,dP,fQ,dQ,E,D,C,g,h,b9,d8,N,fR,G⟩;refine fL _ _<|Q5 fun _ fS=>?_;refine Zs J fun _ fT=>?_;refine Zm rfl<|Zt fT fun a J=>?_;refine X0b (fun a w=>∃ (x2:Dg),∃ bS bT cJ cK,Fr a 196 [(6,(pZ9 b7)),(8,.slice aQ (othW d.ws p q).length aR),(9,.slice aS (othW d.ws q p).length aT),(10,.slice aA m.length aD),(13,vi ((d.ns.getD p.toNat nZ).p)),(14,vi ((d.ns.getD q.toNat nZ).p)),(15,(pZ9 b57)),(16,vi (i:Int)),(17,vi u9),(18,.bool ((othW d.ws p q).any fun y=>y==u9)),(19,.bool ((othW d.ws q p).any fun y=>y==u9)),(120,.slice aA m.length aD),(121,vi (m.length:Int)),(122,vi (i:Int))]/\(x2=stN ((othW d.ws q p).any fun v=>v==u9) x1 u9 (d.ns.getD p.toNat nZ).p)/\(d.ns.length=x2.ns.length)/\(x2.ws.length<=o.ws.length)/\(PhN x2.ns)/\Blk w b7 39 [vi 0,.slice none 0 0,.slice none 0 0,vi 0,vi 0]/\Blk w b57 39 [vi x2.n,.slice bS d.ns.length bT,.slice cJ x2.ws.length cK,vi x2.t,vi x2.r]/\Own w w0.heap.size 3 1 encI aA aD m/\Own w w0.heap.size 3 1 encI aQ aR (othW d.ws p q)/\Own w w0.heap.size 3 1 encI aS aT (othW d.ws q p)/\Own w w0.heap.size 81 2 encNd bS bT x2.ns/\Rd w w.heap.size 83 encWr cJ x2.ws/\d.ws.length<=dd/\x2.ws.length<=cK/\Below w0.heap.size w0 w) ?_ ?_
  ·refine Xi J rfl (fun bL=>?_) (fun bL=>?_)
   ·have dR:=bL;have cL:=bL;refine Zr J<|Ze (Vn X2 D)<|Zm rfl<|Zm rfl<|Zf (Vc (Xar _ x1 d.ns.length dP bQ bR _ b9 G.size cF cG d8.top fR u9 ((d.ns.getD p.toNat nZ).p) ⟨dM.1,by omega⟩ (by have:=X1n dQ u9.toNat;omega)) X5v) ?_;rintro _ jM ⟨fU,fV,rfl,aG,cM,fW,iH,hg⟩;have H:=b9;have E:=E.appT H hg rfl;have D:=D.appT H hg rfl;have C:=C.appT H hg rfl;have g:=g.appT H hg rfl;have h:=h.appT H hg rfl;have G:=Below.app G H hg (Qb _) G.size
    clear H hg;clear b9;have b9:=aG;clear aG;refine Zo (Vw [vi (({ x1 with ns:=adN x1.ns u9 ((d.ns.getD p.toNat nZ).p) } : Dg).n),.slice bQ d.ns.length bR,.slice fU (({ x1 with ns:=adN x1.ns u9 ((d.ns.getD p.toNat nZ).p) } : Dg).ws).length fV,vi (({ x1 with ns:=adN x1.ns u9 ((d.ns.getD p.toNat nZ).p) } : Dg).t),vi (({ x1 with ns:=adN x1.ns u9 ((d.ns.getD p.toNat nZ).p) } : Dg).r)] Xf D) ?_;rintro _ jN ⟨ho,hb⟩;have I:=D;have E:=E.oy ho (by omega);have C:=C.oT ho I rfl;have g:=g.oT ho I rfl;have h:=h.oT ho I rfl;have b9:=b9.oT ho I rfl;have cM:=cM.oT ho I rfl;have G:=Below.oy G ho aV;have D:=hb;refine Zn fun a J=>?_;refine Xd ?_;exact ⟨({ x1 with ns:=adN x1.ns u9 ((d.ns.getD p.toNat nZ).p) } : Dg),bQ,bR,fU,fV,J.sb,((Xnl cL).symm),(dP.trans (X1u _ _ _).symm),fQ,(X68 dQ _ _),E,D,C,g,h,b9,cM.top,N,fW,G⟩
   have dR:=bL;have cL:=bL;refine Q7<|Xd ?_;exact ⟨x1,bQ,bR,cF,cG,J.sb,((Xmr cL).symm),dP,fQ,dQ,E,D,C,g,h,b9,d8.top,N,fR,G⟩
  rintro a hY ⟨x2,bS,bT,cJ,cK,J,i0,dS,fX,dT,E,D,C,g,h,bA,dA,N,fY,G⟩;refine fS _ _<|Q5 fun _ fZ=>?_;refine Q5 fun _ g5=>?_;refine X0b (fun a w=>Fr a 196 [(6,(pZ9 b7)),(8,.slice aQ (othW d.ws p q).length aR),(9,.slice aS (othW d.ws q p).length aT),(10,.slice aA m.length aD),(13,vi ((d.ns.getD p.toNat nZ).p)),(14,vi ((d.ns.getD q.toNat nZ).p)),(15,(pZ9 b57)),(16,vi (i:Int)),(17,vi u9),(18,.bool ((othW d.ws p q).any fun y=>y==u9)),(19,.bool ((othW d.ws q p).any fun y=>y==u9)),(120,.slice aA m.length aD),(121,vi (m.length:Int)),(122,vi (i:Int)),(146,.bool (((othW d.ws p q).any fun v=>v==u9)&&((othW d.ws q p).any fun v=>v==u9)))]/\hY=w) ?_ ?_
  ·refine Zr J<|Zm rfl<|Zm rfl ?_
   refine Zg 144 rfl (fun bB=>?_) (fun bB=>?_)
   ·refine Zv (gW bB) (X3 rfl) ?_;refine Ze (X4 rfl bB rfl) ?_;refine Zn fun a J=>?_;exact ⟨J.sub ⟨rfl,rfl,rfl,rfl,rfl,rfl,rfl,rfl,rfl,rfl,rfl,rfl,rfl,rfl,X1 rfl (by simp [aN,aO,b0,b1,bB]),trivial⟩,rfl⟩
   refine Zp (gP bB) ?_;refine Ze (Xe rfl bB rfl) ?_;refine Zn fun a J=>?_;exact ⟨J.sub ⟨rfl,rfl,rfl,rfl,rfl,rfl,rfl,rfl,rfl,rfl,rfl,rfl,rfl,rfl,X1 rfl (by simp [aN,aO,b0,b1,bB]),trivial⟩,rfl⟩
  rintro a _ ⟨J,rfl⟩;refine g5 _ _<|X0b (fun a w=>∃ (x3:Dg),∃ cW cX cY cZ,Fr a 196 [(6,(pZ9 b7)),(8,.slice aQ (othW d.ws p q).length aR),(9,.slice aS (othW d.ws q p).length aT),(10,.slice aA m.length aD),(13,vi ((d.ns.getD p.toNat nZ).p)),(14,vi ((d.ns.getD q.toNat nZ).p)),(15,(pZ9 b57)),(16,vi (i:Int)),(17,vi u9),(18,.bool ((othW d.ws p q).any fun y=>y==u9)),(19,.bool ((othW d.ws q p).any fun y=>y==u9)),(120,.slice aA m.length aD),(121,vi (m.length:Int)),(122,vi (i:Int))]/\(x3=stN (((othW d.ws p q).any fun v=>v==u9)&&((othW d.ws q p).any fun v=>v==u9)) x2 u9 4)/\(d.ns.length=x3.ns.length)/\(x3.ws.length<=o.ws.length)/\(PhN x3.ns)/\Blk w b7 39 [vi 0,.slice none 0 0,.slice none 0 0,vi 0,vi 0]/\Blk w b57 39 [vi x3.n,.slice cW d.ns.length cX,.slice cY x3.ws.length cZ,vi x3.t,vi x3.r]/\Own w w0.heap.size 3 1 encI aA aD m/\Own w w0.heap.size 3 1 encI aQ aR (othW d.ws p q)/\Own w w0.heap.size 3 1 encI aS aT (othW d.ws q p)/\Own w w0.heap.size 81 2 encNd cW cX x3.ns/\Rd w w.heap.size 83 encWr cY x3.ws/\d.ws.length<=dd/\x3.ws.length<=cZ/\Below w0.heap.size w0 w) ?_ ?_
  ·refine Xi J rfl (fun bM=>?_) (fun bM=>?_)
   ·have dU:=bM;have cN:=bM;refine Zr J<|Ze (Vn X2 D)<|Zm rfl<|Zf (Vc (Xar _ x2 d.ns.length dS bS bT _ bA G.size cJ cK dA.top fY u9 4 ⟨dM.1,by omega⟩ (by have:=X1n dT u9.toNat;omega)) X5v) ?_;rintro _ jO ⟨g6,g7,rfl,aG,cO,g8,iI,hg⟩;have H:=bA;have E:=E.appT H hg rfl;have D:=D.appT H hg rfl;have C:=C.appT H hg rfl;have g:=g.appT H hg rfl;have h:=h.appT H hg rfl;have G:=Below.app G H hg (Qb _) G.size
    clear H hg;clear bA;have bA:=aG;clear aG;refine Zo (Vw [vi (({ x2 with ns:=adN x2.ns u9 4 } : Dg).n),.slice bS d.ns.length bT,.slice g6 (({ x2 with ns:=adN x2.ns u9 4 } : Dg).ws).length g7,vi (({ x2 with ns:=adN x2.ns u9 4 } : Dg).t),vi (({ x2 with ns:=adN x2.ns u9 4 } : Dg).r)] Xf D) ?_;rintro _ jP ⟨ho,hb⟩;have I:=D;have E:=E.oy ho (by omega);have C:=C.oT ho I rfl;have g:=g.oT ho I rfl;have h:=h.oT ho I rfl;have bA:=bA.oT ho I rfl;have cO:=cO.oT ho I rfl;have G:=Below.oy G ho aV;have D:=hb;refine Zn fun a J=>?_;refine Xd ?_;exact ⟨({ x2 with ns:=adN x2.ns u9 4 } : Dg),bS,bT,g6,g7,J.sb,((Xnl cN).symm),(dS.trans (X1u _ _ _).symm),fX,(X68 dT _ _),E,D,C,g,h,bA,cO.top,N,g8,G⟩
   have dU:=bM;have cN:=bM;refine Q7<|Xd ?_;exact ⟨x2,bS,bT,cJ,cK,J.sb,((Xmr cN).symm),dS,fX,dT,E,D,C,g,h,bA,dA.top,N,fY,G⟩
  rintro a i1 ⟨x3,cW,cX,cY,cZ,J,i2,i4,i5,i6,E,D,C,g,h,gA,gB,N,i7,G⟩;refine fZ _ _<|Zs J fun _ gC=>?_;refine Zm rfl<|Zm rfl ?_;have aW:=(C.rd.top).takeK X9 i;refine Ze (X3j (l:=m) (k:=i) rfl rfl Xj X09 rfl hi C.cap)<|Ze (X0c rfl Xj)<|Zm rfl<|Zt gC fun a J=>?_;refine Q8<|X04 (σ:=Nat×Dg) (fun (s:Nat×Dg) (a:Act) (w:World)=>match s with|(j,z)=>∃ bN bO c5 cA,Fr a 196 [(6,(pZ9 b7)),(8,.slice aQ (othW d.ws p q).length aR),(9,.slice aS (othW d.ws q p).length aT),(10,.slice aA m.length aD),(13,vi ((d.ns.getD p.toNat nZ).p)),(14,vi ((d.ns.getD q.toNat nZ).p)),(15,(pZ9 b57)),(17,vi u9),(18,.bool ((othW d.ws p q).any fun y=>y==u9)),(19,.bool ((othW d.ws q p).any fun y=>y==u9)),(120,.slice aA m.length aD),(121,vi (m.length:Int)),(122,vi (i:Int)),(152,.slice aA (m.take i).length aD),(153,vi ((m.take i).length:Int)),(154,vi (j:Int))]/\(j<=(m.take i).length)/\(z=pvF (othW d.ws p q) (othW d.ws q p) u9 ((m.take i).take j) x3)/\(d.ns.length=z.ns.length)/\(z.ws.length<=o.ws.length+j)/\(PhN z.ns)/\Blk w b7 39 [vi 0,.slice none 0 0,.slice none 0 0,vi 0,vi 0]/\Blk w b57 39 [vi z.n,.slice bN d.ns.length bO,.slice c5 z.ws.length cA,vi z.t,vi z.r]/\Own w w0.heap.size 3 1 encI aA aD m/\Own w w0.heap.size 3 1 encI aQ aR (othW d.ws p q)/\Own w w0.heap.size 3 1 encI aS aT (othW d.ws q p)/\Rd w i1.heap.size 3 encI aA (m.take i)/\Own w w0.heap.size 81 2 encNd bN bO z.ns/\Rd w w.heap.size 83 encWr c5 z.ws/\d.ws.length<=dd/\z.ws.length<=cA/\Below w0.heap.size w0 w) (fun (s:Nat×Dg)=>match s with|(j,z)=>(m.take i).length-j) (0,x3) ?_ ?_
  ·exact ⟨cW,cX,cY,cZ,J.sb,(Qf _),rfl,i4,i5,i6,E,D,C,g,h,aW,gA,gB.top,N,i7,G⟩
  rintro ⟨j,z⟩ a w36 ⟨bN,bO,c5,cA,J,hj,hz,cB,i8,cP,E,D,C,g,h,aW,aX,bP,N,dW,G⟩;refine Zs J fun _ gD=>?_;refine Ze (X0q rfl rfl)<|ZX gD fun a J _ gE=>?_
  refine Xi J rfl (fun b8=>?_) (fun b8=>?_)
  ·have bC:=b8;have b8:=Q2 b8
   obtain ⟨jQ,iJ⟩:=X5 (l:=(m.take i)) (k:=j) (by omega)
   obtain ⟨v9,dX⟩:=X5 (l:=m.take i) (k:=j) (by have:=b8;omega)
   have jR:j<i:=by have:=(Qg.1 dX).1;rw [Qn] at this;omega
   have bG:=Xkx (l:=(othW d.ws p q)) (m:=(othW d.ws q p)) (x:=u9) (o:=x3) dX
   rw [<- hz] at bG
   refine Q7<|gE _ _<|Q5 fun _ dB=>?_;refine Q8<|Zs J fun _ gF=>?_;refine Zi (k:=j) (u:=v9) (enc:=encI) (l:=(m.take i)) tv0 rfl rfl Xj X09 X9 aW dX rfl ?_;intro iK d5;refine Ze (X0 rfl X7 d5)<|Za rfl<|ZX gF fun a J _ dY=>?_;refine X0b (fun a w=>Fr a 196 [(6,(pZ9 b7)),(8,.slice aQ (othW d.ws p q).length aR),(9,.slice aS (othW d.ws q p).length aT),(10,.slice aA m.length aD),(13,vi ((d.ns.getD p.toNat nZ).p)),(14,vi ((d.ns.getD q.toNat nZ).p)),(15,(pZ9 b57)),(17,vi u9),(18,.bool ((othW d.ws p q).any fun y=>y==u9)),(19,.bool ((othW d.ws q p).any fun y=>y==u9)),(21,vi v9),(120,.slice aA m.length aD),(121,vi (m.length:Int)),(122,vi (i:Int)),(152,.slice aA (m.take i).length aD),(153,vi ((m.take i).length:Int)),(154,vi (j:Int)),(170,.bool ((((othW d.ws p q).any fun y=>y==u9)&&((othW d.ws q p).any fun y=>y==v9)) != (((othW d.ws q p).any fun y=>y==u9)&&((othW d.ws p q).any fun y=>y==v9))))]/\Below w36.heap.size w36 w) ?_ ?_
   ·have a6:Below w36.heap.size w36 w36:=Below.refl _ _
    refine Zr J<|Zm rfl<|Zm rfl ?_
    refine Zg 159 rfl (fun aE=>?_) (fun aE=>?_)
    ·refine Zv (gW aE) (X3 rfl) ?_;refine Zv (gW aE) (X3 rfl) ?_;refine Zk (gW aE) (Vc (Xkh _ aS aT (othW d.ws q p) h.rd.top v9 (by omega)) X93) ?_;rintro _ w37 ⟨rfl,L⟩;have g:=g.bw L;have G:=btr G L;have a6:=btr a6 L;refine Ze (X4 rfl aE rfl)<|Zm rfl<|Zm rfl ?_
     refine Zg 165 rfl (fun aK=>?_) (fun aK=>?_)
     ·refine Zv (gW aK) (X3 rfl) ?_;refine Zv (gW aK) (X3 rfl) ?_;refine Zk (gW aK) (Vc (Xkh _ aQ aR (othW d.ws p q) g.rd.top v9 (by omega)) X93) ?_;rintro _ w38 ⟨rfl,L⟩;have G:=btr G L;have a6:=btr a6 L;refine Ze (X4 rfl aK rfl)<|Ze (X9l Tryz.underlying4 rfl rfl) ?_;refine Zn fun a J=>?_
      have aH:Below w36.heap.size w36 w38:=a6
      exact ⟨J.sub ⟨rfl,rfl,rfl,rfl,rfl,rfl,rfl,rfl,rfl,rfl,rfl,rfl,rfl,rfl,rfl,rfl,rfl,X1 rfl (by simp [aN,aO,b0,b1,bC,aE,aK]),trivial⟩,aH⟩
     (iterate 3 refine Zp (gP aK) ?_);refine Ze (Xe rfl aK rfl)<|Ze (X9l Tryz.underlying4 rfl rfl) ?_;refine Zn fun a J=>?_
     have aH:Below w36.heap.size w36 w37:=a6
     exact ⟨J.sub ⟨rfl,rfl,rfl,rfl,rfl,rfl,rfl,rfl,rfl,rfl,rfl,rfl,rfl,rfl,rfl,rfl,rfl,X1 rfl (by simp [aN,aO,b0,b1,bC,aE,aK]),trivial⟩,aH⟩
    (iterate 3 refine Zp (gP aE) ?_);refine Ze (Xe rfl aE rfl)<|Zm rfl<|Zm rfl ?_
    refine Zg 165 rfl (fun aL=>?_) (fun aL=>?_)
    ·refine Zv (gW aL) (X3 rfl) ?_;refine Zv (gW aL) (X3 rfl) ?_;refine Zk (gW aL) (Vc (Xkh _ aQ aR (othW d.ws p q) g.rd.top v9 (by omega)) X93) ?_;rintro _ w39 ⟨rfl,L⟩;have G:=btr G L;have a6:=btr a6 L;refine Ze (X4 rfl aL rfl)<|Ze (X9l Tryz.underlying4 rfl rfl) ?_;refine Zn fun a J=>?_
     have aH:Below w36.heap.size w36 w39:=a6
     exact ⟨J.sub ⟨rfl,rfl,rfl,rfl,rfl,rfl,rfl,rfl,rfl,rfl,rfl,rfl,rfl,rfl,rfl,rfl,rfl,X1 rfl (by simp [aN,aO,b0,b1,bC,aE,aL]),trivial⟩,aH⟩
    (iterate 3 refine Zp (gP aL) ?_);refine Ze (Xe rfl aL rfl)<|Ze (X9l Tryz.underlying4 rfl rfl) ?_;refine Zn fun a J=>?_
    have aH:Below w36.heap.size w36 w36:=a6
    exact ⟨J.sub ⟨rfl,rfl,rfl,rfl,rfl,rfl,rfl,rfl,rfl,rfl,rfl,rfl,rfl,rfl,rfl,rfl,rfl,X1 rfl (by simp [aN,aO,b0,b1,bC,aE,aL]),trivial⟩,aH⟩
   rintro a jS ⟨J,L⟩;have E:=E.bw L;have D:=D.bw L;have C:=C.bw L;have g:=g.bw L;have h:=h.bw L;have aW:=aW.bw L;have aX:=aX.bw L;have bP:=bP.bw L;have G:=btr G L;refine dY _ _ ?_
   refine Xi J rfl (fun bD=>?_) (fun bD=>?_)
   ·have d6:=bD
    rw [Xyn bD] at bG
    refine Zr J<|Ze (Vn X2 D)<|Zm rfl<|Zm rfl<|Zf (Vc (Xks _ z d.ns.length cB bN bO _ aX G.size c5 cA bP.top dW u9 v9 (by have:=i8;have:=gZ;omega)) Xbc) ?_;rintro _ jT ⟨dC,dD,rfl,aG,bU,eA,i9,hg⟩;have H:=aX;have E:=E.appT H hg rfl;have D:=D.appT H hg rfl;have C:=C.appT H hg rfl;have g:=g.appT H hg rfl;have h:=h.appT H hg rfl;have aW:=aW.appT H hg rfl;have G:=Below.app G H hg (Qb _) G.size
    clear H hg;clear aX;have aX:=aG;clear aG;refine Zo (Vw [vi ((tgD z u9 v9).n),.slice bN d.ns.length bO,.slice dC ((tgD z u9 v9).ws).length dD,vi ((tgD z u9 v9).t),vi ((tgD z u9 v9).r)] Xf D) ?_;rintro _ jU ⟨ho,hb⟩;have I:=D;have E:=E.oy ho (by omega);have C:=C.oT ho I rfl;have g:=g.oT ho I rfl;have h:=h.oT ho I rfl;have aW:=aW.oT ho I rfl;have aX:=aX.oT ho I rfl;have bU:=bU.oT ho I rfl;have G:=Below.oy G ho aV;have D:=hb;refine Zn fun a J=>?_;refine Xc<|dB _ _<|Zr J<|Ze (Xm rfl rfl (by omega) (by omega))<|Zm rfl ?_;refine Zn fun a J=>?_;refine Xd ?_;exact ⟨(j+1,(tgD z u9 v9)),⟨bN,bO,dC,dD,J.sb,(by omega),(by rw [bG]),(by first|exact cB|(rw [(X2c z u9 v9).1];exact cB)),(by first|omega|(have:=(X2c z u9 v9).2;omega)),(by first|exact cP|(rw [(X2c z u9 v9).1];exact cP)),E,D,C,g,h,aW,aX,bU.top,N,eA,G⟩,(by first|omega|(dsimp only;omega))⟩
   have d6:=bD
   rw [Y1j bD] at bG
   refine Q7<|Xc<|dB _ _<|Zr J ?_;refine Ze (Xm rfl rfl (by omega) (by omega))<|Zm rfl ?_;refine Zn fun a J=>?_;refine Xd ?_;exact ⟨(j+1,z),⟨bN,bO,c5,cA,J.sb,(by omega),(by rw [bG]),(by first|exact cB|(rw [(X2c z u9 v9).1];exact cB)),(by first|omega|(have:=(X2c z u9 v9).2;omega)),(by first|exact cP|(rw [(X2c z u9 v9).1];exact cP)),E,D,C,g,h,aW,aX,bP.top,N,dW,G⟩,(by first|omega|(dsimp only;omega))⟩
  have bC:=b8;have b8:=Q1 b8
  have iA:z=pvM (d.ns.getD p.toNat nZ).p (d.ns.getD q.toNat nZ).p (othW d.ws p q) (othW d.ws q p) m (id0 (id0 d p) q) (i+1):=by rw [hz,Qi (by have:=b8;omega),Xdv bY,<- fF,i2,i0,hJ];rfl
  have jV:j<=i:=by rw [Qn] at hj;omega
  refine Q9<|Xk<|Xk<|X03 ?_;refine Xc<|fI _ _<|Zr J<|Ze (Xm rfl rfl (by omega) (by omega))<|Zm rfl ?_;refine Zn fun a J=>?_;refine Xd ?_;exact ⟨(i+1,z),⟨bN,bO,c5,cA,J.sb,(by omega),iA,cB,(by omega),cP,E,D,C,g,h,aX,bP.top,N,dW,G⟩,(by first|omega|(dsimp only;omega))⟩
 have b1:=b6;have b6:=Q1 b6
 have dE:o=pvM (d.ns.getD p.toNat nZ).p (d.ns.getD q.toNat nZ).p (othW d.ws p q) (othW d.ws q p) (pvL d p q) (id0 (id0 d p) q) (pvL d p q).length:=by rw [fF,bZ];congr 1;have:=b6;rw [bZ] at this hi;omega
 refine Q9<|Xk<|Xk<|X03 ?_;refine fC _ _<|Q5 fun _ cQ=>?_;refine Zs J fun _ eB=>?_;refine Zm rfl<|Zm rfl<|Ze (Xm rfl rfl (by omega) (by omega))<|Ze (X0m rfl rfl)<|Zt eB fun a J=>?_
 refine Xi J rfl (fun bE=>?_) (fun bE=>?_)
 ·have d7:=bE;have cR:=bE;refine Zr J<|Ze (Vd rfl X0u 3)<|Ze (X0 rfl X7 (D.at 3))<|Ze (X2n rfl rfl)<|Ze (Vd rfl X0u 3)<|Zo (Vu (vs:=[vi (wr (o.t+4))]) (l':=[vi o.n,.slice aY d.ns.length aZ,.slice b3 o.ws.length b5,vi (wr (o.t+4)),vi o.r]) rfl rfl X09 D) ?_;rintro _ jW ⟨ho,hb⟩;have I:=D;have E:=E.oy ho (by omega);have W:=W.oT ho I rfl;have aC:=aC.oT ho I rfl;have G:=Below.oy G ho aV;have D:=hb;refine Zx cQ fun a J _ eC=>?_;refine Ze (Vd rfl X07 4)<|Ze (X0 rfl X7 (D.at 4))<|Zm rfl<|Ze (X0c rfl Xj)<|Ze (X11 rfl rfl (by omega) (by omega))<|Zm rfl<|Ze (X0c rfl Xj)<|Ze (X11 rfl rfl (by omega) (by omega))<|Ze (X2n rfl rfl)<|Ze (Vd rfl X07 4) ?_;refine Zo (Vu (vs:=[vi (wr (o.r+((1-((othW d.ws p q).length:Int))-((othW d.ws q p).length:Int))))]) (l':=[vi o.n,.slice aY d.ns.length aZ,.slice b3 o.ws.length b5,vi (wr (o.t+4)),vi (wr (o.r+((1-((othW d.ws p q).length:Int))-((othW d.ws q p).length:Int))))]) rfl rfl X09 D) ?_;rintro _ jX ⟨ho,hb⟩;have I:=D;have E:=E.oy ho (by omega);have W:=W.oT ho I rfl;have aC:=aC.oT ho I rfl;have G:=Below.oy G ho aV;have D:=hb;refine Zx eC fun a J _ eD=>?_;refine Ze (Vn X2 D)<|Zo (Vw [vi o.n,.slice aY d.ns.length aZ,.slice b3 o.ws.length b5,vi (wr (o.t+4)),vi (wr (o.r+((1-((othW d.ws p q).length:Int))-((othW d.ws q p).length:Int))))] Xf E) ?_;rintro _ jY ⟨ho,hb⟩;have I:=E;have W:=W.oT ho I rfl;have aC:=aC.oT ho I rfl;have G:=Below.oy G ho bW;have E:=hb;refine Za rfl<|Zt eD fun a J=>?_
  refine Q6 (X6 J (X19 J rfl (ResV.cellN (l:=[vi o.n,.slice aY d.ns.length aZ,.slice b3 o.ws.length b5,vi (wr (o.t+4)),vi (wr (o.r+((1-((othW d.ws p q).length:Int))-((othW d.ws q p).length:Int))))]) rfl X2 (E.at 0) rfl) rfl) ?_)
  rw [eV,Q4 rfl,Xb9 dE,Q4 cR,a8]
  exact ⟨aY,aZ,b3,b5,rfl,W.rd.top,aC.top,cV,cE,G⟩
 have d7:=bE;have cR:=bE;refine Q7<|cQ _ _<|Zs J fun _ eE=>?_;refine Ze (Vd rfl X07 4)<|Ze (X0 rfl X7 (D.at 4))<|Zm rfl<|Ze (X0c rfl Xj)<|Ze (X11 rfl rfl (by omega) (by omega))<|Zm rfl<|Ze (X0c rfl Xj)<|Ze (X11 rfl rfl (by omega) (by omega))<|Ze (X2n rfl rfl)<|Ze (Vd rfl X07 4) ?_;refine Zo (Vu (vs:=[vi (wr (o.r+((1-((othW d.ws p q).length:Int))-((othW d.ws q p).length:Int))))]) (l':=[vi o.n,.slice aY d.ns.length aZ,.slice b3 o.ws.length b5,vi o.t,vi (wr (o.r+((1-((othW d.ws p q).length:Int))-((othW d.ws q p).length:Int))))]) rfl rfl X09 D) ?_;rintro _ jZ ⟨ho,hb⟩;have I:=D;have E:=E.oy ho (by omega);have W:=W.oT ho I rfl;have aC:=aC.oT ho I rfl;have G:=Below.oy G ho aV;have D:=hb;refine Zx eE fun a J _ eF=>?_;refine Ze (Vn X2 D)<|Zo (Vw [vi o.n,.slice aY d.ns.length aZ,.slice b3 o.ws.length b5,vi o.t,vi (wr (o.r+((1-((othW d.ws p q).length:Int))-((othW d.ws q p).length:Int))))] Xf E) ?_;rintro _ k0 ⟨ho,hb⟩;have I:=E;have W:=W.oT ho I rfl;have aC:=aC.oT ho I rfl;have G:=Below.oy G ho bW;have E:=hb;refine Za rfl<|Zt eF fun a J=>?_
 refine Q6 (X6 J (X19 J rfl (ResV.cellN (l:=[vi o.n,.slice aY d.ns.length aZ,.slice b3 o.ws.length b5,vi o.t,vi (wr (o.r+((1-((othW d.ws p q).length:Int))-((othW d.ws q p).length:Int))))]) rfl X2 (E.at 0) rfl) rfl) ?_)
 rw [eV,Q4 rfl,Xb9 dE,Q3 (by rw [cR];decide),a8]
 exact ⟨aY,aZ,b3,b5,rfl,W.rd.top,aC.top,cV,cE,G⟩
theorem Xyw(w0:World)(d:Dg)(md:Nat)(p:md=d.ns.length)(Ad:Option Addr)(cd:Nat)(q:Rd w0 w0.heap.size 81 encNd Ad d.ns)(Bd:Option Addr)(dd:Nat)(h:Rd w0 w0.heap.size 83 encWr Bd d.ws)(C:d.ws.length<=dd)(x:Rz)(hD:InD d) : Ret Tryz.prog 123 [.agg #[vi d.n,.slice Ad md cd,.slice Bd d.ws.length dd,vi d.t,vi d.r],.agg #[vi x.u,vi x.a,vi x.b]] w0 (fun v w=>∃ A c B e,v=.tuple #[.agg #[vi (if (doC d x)=true then doD d x else d).n,.slice A md c,.slice B (if (doC d x)=true then doD d x else d).ws.length e,vi (if (doC d x)=true then doD d x else d).t,vi (if (doC d x)=true then doD d x else d).r],.bool (doC d x)]/\Rd w w.heap.size 81 encNd A (if (doC d x)=true then doD d x else d).ns/\Rd w w.heap.size 83 encWr B (if (doC d x)=true then doD d x else d).ws/\(if (doC d x)=true then doD d x else d).ws.length<=e/\md=(if (doC d x)=true then doD d x else d).ns.length/\Below w0.heap.size w0 w):=by
 refine enter Tryz.func123 rfl 59 rfl rfl ?_;intro a i
 have g:=bz w0
 refine Zs i fun _ bX=>?_;refine Zf (X0n (zs:=[vi d.n,.slice Ad md cd,.slice Bd d.ws.length dd,vi d.t,vi d.r]) rfl rfl) ?_;rintro _ w1 ⟨b4,rfl,bY,D,m⟩;have cB:=Q0 g.size bY;have g:=btr g D;refine Zf (X0n (zs:=[vi x.u,vi x.a,vi x.b]) rfl rfl) ?_;rintro _ w2 ⟨b5,rfl,bZ,D,o⟩;have cC:=Q0 g.size bZ;have m:=m.bw D;have g:=btr g D;refine Zf (Xo (zs:=[vi 0,.slice none 0 0,.slice none 0 0,vi 0,vi 0]) X0o rfl) ?_;rintro _ w3 ⟨b8,rfl,c5,D,f⟩
 have bW:b4≠b8:=by have:=m.lt;omega
 have E:=Q0 g.size c5;have m:=m.bw D;have o:=o.bw D;have g:=btr g D;refine Za rfl<|ZX bX fun a i _ cA=>?_;refine Zs i fun _ b7=>?_;refine Ze (Vd rfl X4n 0)<|Ze (X0 rfl X7 (o.at 0))<|Zt b7 fun a i=>?_;refine Q8<|Zs i fun _ b9=>?_;refine Ze (X0m rfl rfl)<|Za rfl<|Zt b9 fun a i=>?_
 refine Xi i rfl (fun H=>?_) (fun H=>?_)
 ·have aZ:=H;have k:=Xye (d:=d) H;refine Zs i fun _ bA=>?_;refine Ze (Vn X2 m)<|Ze (Vd rfl X1s 1)<|Ze (X0 rfl X7 (o.at 1))<|Ze (Vd rfl X3r 2)<|Ze (X0 rfl X7 (o.at 2))<|Zf (Vc (Y2e _ d md p Ad cd (q.bx g).top Bd dd (h.bx g).top C x.a x.b hD) Xo7) ?_;rintro _ w4 ⟨U,W,a6,a7,rfl,a8,aA,bB,cD,D⟩;have f:=f.bw D;have g:=btr g D;refine Ze (Xp (vs:=[.agg #[vi ((if (fuC d x.a x.b)=true then fuD d x.a x.b else d).n),.slice U md W,.slice a6 ((if (fuC d x.a x.b)=true then fuD d x.a x.b else d).ws).length a7,vi ((if (fuC d x.a x.b)=true then fuD d x.a x.b else d).t),vi ((if (fuC d x.a x.b)=true then fuD d x.a x.b else d).r)],.bool (fuC d x.a x.b)]) rfl rfl)<|Ze (Xp (vs:=[.agg #[vi ((if (fuC d x.a x.b)=true then fuD d x.a x.b else d).n),.slice U md W,.slice a6 ((if (fuC d x.a x.b)=true then fuD d x.a x.b else d).ws).length a7,vi ((if (fuC d x.a x.b)=true then fuD d x.a x.b else d).t),vi ((if (fuC d x.a x.b)=true then fuD d x.a x.b else d).r)],.bool (fuC d x.a x.b)]) rfl rfl)<|Zo (Vw [vi ((if (fuC d x.a x.b)=true then fuD d x.a x.b else d).n),.slice U md W,.slice a6 ((if (fuC d x.a x.b)=true then fuD d x.a x.b else d).ws).length a7,vi ((if (fuC d x.a x.b)=true then fuD d x.a x.b else d).t),vi ((if (fuC d x.a x.b)=true then fuD d x.a x.b else d).r)] Xf f) ?_;rintro _ w5 ⟨G,Q⟩;have j:=f;have a8:=a8.oT G j rfl;have aA:=aA.oT G j rfl;have g:=Below.oy g G E;have f:=Q;refine Za rfl<|Zt bA fun a i=>?_;refine Q6<|X02<|Xa<|X6 i (X19 i rfl (ResV.cellN (l:=[vi ((if (fuC d x.a x.b)=true then fuD d x.a x.b else d).n),.slice U md W,.slice a6 ((if (fuC d x.a x.b)=true then fuD d x.a x.b else d).ws).length a7,vi ((if (fuC d x.a x.b)=true then fuD d x.a x.b else d).t),vi ((if (fuC d x.a x.b)=true then fuD d x.a x.b else d).r)]) rfl X2 (f.at 0) rfl) rfl) ?_
  rw [k.1,k.2]
  exact ⟨U,W,a6,a7,rfl,a8.top,aA.top,bB,by assumption,g⟩
 have aZ:=H
 have g1:=H
 refine Zs i fun _ bC=>?_;refine Ze (X0m rfl rfl)<|Za rfl<|Zt bC fun a i=>?_
 refine Xi i rfl (fun I=>?_) (fun I=>?_)
 ·have b0:=I;have k:=Xzc (d:=d) g1 I;refine Zs i fun _ bD=>?_;refine Ze (Vn X2 m)<|Ze (Vd rfl X1s 1)<|Ze (X0 rfl X7 (o.at 1))<|Ze (Vd rfl X3r 2)<|Ze (X0 rfl X7 (o.at 2))<|Zf (Vc (Xyt _ d md p Ad cd (q.bx g).top Bd dd (h.bx g).top C x.a x.b hD) Xr2) ?_;rintro _ w6 ⟨aB,aC,aD,aE,rfl,aF,aG,bE,cE,D⟩;have f:=f.bw D;have g:=btr g D;refine Ze (Xp (vs:=[.agg #[vi ((if (pvC d x.a x.b)=true then pvD d x.a x.b else d).n),.slice aB md aC,.slice aD ((if (pvC d x.a x.b)=true then pvD d x.a x.b else d).ws).length aE,vi ((if (pvC d x.a x.b)=true then pvD d x.a x.b else d).t),vi ((if (pvC d x.a x.b)=true then pvD d x.a x.b else d).r)],.bool (pvC d x.a x.b)]) rfl rfl)<|Ze (Xp (vs:=[.agg #[vi ((if (pvC d x.a x.b)=true then pvD d x.a x.b else d).n),.slice aB md aC,.slice aD ((if (pvC d x.a x.b)=true then pvD d x.a x.b else d).ws).length aE,vi ((if (pvC d x.a x.b)=true then pvD d x.a x.b else d).t),vi ((if (pvC d x.a x.b)=true then pvD d x.a x.b else d).r)],.bool (pvC d x.a x.b)]) rfl rfl)<|Zo (Vw [vi ((if (pvC d x.a x.b)=true then pvD d x.a x.b else d).n),.slice aB md aC,.slice aD ((if (pvC d x.a x.b)=true then pvD d x.a x.b else d).ws).length aE,vi ((if (pvC d x.a x.b)=true then pvD d x.a x.b else d).t),vi ((if (pvC d x.a x.b)=true then pvD d x.a x.b else d).r)] Xf f) ?_;rintro _ w7 ⟨G,Q⟩;have j:=f;have aF:=aF.oT G j rfl;have aG:=aG.oT G j rfl;have g:=Below.oy g G E;have f:=Q;refine Za rfl<|Zt bD fun a i=>?_;refine Q6<|X02<|Xa<|X6 i (X19 i rfl (ResV.cellN (l:=[vi ((if (pvC d x.a x.b)=true then pvD d x.a x.b else d).n),.slice aB md aC,.slice aD ((if (pvC d x.a x.b)=true then pvD d x.a x.b else d).ws).length aE,vi ((if (pvC d x.a x.b)=true then pvD d x.a x.b else d).t),vi ((if (pvC d x.a x.b)=true then pvD d x.a x.b else d).r)]) rfl X2 (f.at 0) rfl) rfl) ?_
  rw [k.1,k.2]
  exact ⟨aB,aC,aD,aE,rfl,aF.top,aG.top,bE,by assumption,g⟩
 have b0:=I
 have g4:=I
 refine Q7<|Xc<|cA _ _<|Q5 fun _ bF=>?_;refine Zs i fun _ bG=>?_;refine Ze (Vd rfl X3r 2)<|Ze (X0 rfl X7 (o.at 2))<|Ze (X1o rfl rfl)<|Zt bG fun a i=>?_
 refine Xi i rfl (fun J=>?_) (fun J=>?_)
 ·have b1:=J;have k:=Y0l (d:=d) g1 g4 J;refine Zs i fun _ bH=>?_;refine Ze (Vn X2 m)<|Zo (Vw [vi d.n,.slice Ad md cd,.slice Bd d.ws.length dd,vi d.t,vi d.r] Xf f) ?_;rintro _ w8 ⟨G,Q⟩;have j:=f;have g:=Below.oy g G E;have f:=Q;refine Za rfl<|Zt bH fun a i=>?_;refine Q6<|Xa<|X6 i (X19 i rfl (ResV.cellN (l:=[vi d.n,.slice Ad md cd,.slice Bd d.ws.length dd,vi d.t,vi d.r]) rfl X2 (f.at 0) rfl) rfl) ?_
  rw [k,Q3 Bool.false_ne_true]
  exact ⟨Ad,cd,Bd,dd,rfl,(q.bx g).top,(h.bx g).top,C,p,g⟩
 have b1:=J
 have gb:=J
 refine Q7<|bF _ _<|Q5 fun _ bJ=>?_;refine Zs i fun _ bK=>?_;refine Ze (Vd rfl X4n 0)<|Ze (X0 rfl X7 (o.at 0))<|Zt bK fun a i=>?_;refine Q8<|Zs i fun _ bL=>?_;refine Ze (X0m rfl rfl)<|Za rfl<|Zt bL fun a i=>?_
 refine Xi i rfl (fun L=>?_) (fun L=>?_)
 ·have b2:=L;have k:=Xyd (d:=d) g1 g4 gb L;refine Zs i fun _ bM=>?_;refine Ze (Vn X2 m)<|Ze (Vd rfl X1s 1)<|Ze (X0 rfl X7 (o.at 1))<|Zf (Vc (Y31 _ d md p Ad cd (q.bx g).top Bd dd (h.bx g).top C x.a hD) Xok) ?_;rintro _ w9 ⟨aH,aI,aJ,aK,rfl,aL,aM,bN,cF,D⟩;have f:=f.bw D;have g:=btr g D;refine Ze (Xp (vs:=[.agg #[vi ((if (idC d x.a)=true then idD d x.a else d).n),.slice aH md aI,.slice aJ ((if (idC d x.a)=true then idD d x.a else d).ws).length aK,vi ((if (idC d x.a)=true then idD d x.a else d).t),vi ((if (idC d x.a)=true then idD d x.a else d).r)],.bool (idC d x.a)]) rfl rfl)<|Ze (Xp (vs:=[.agg #[vi ((if (idC d x.a)=true then idD d x.a else d).n),.slice aH md aI,.slice aJ ((if (idC d x.a)=true then idD d x.a else d).ws).length aK,vi ((if (idC d x.a)=true then idD d x.a else d).t),vi ((if (idC d x.a)=true then idD d x.a else d).r)],.bool (idC d x.a)]) rfl rfl)<|Zo (Vw [vi ((if (idC d x.a)=true then idD d x.a else d).n),.slice aH md aI,.slice aJ ((if (idC d x.a)=true then idD d x.a else d).ws).length aK,vi ((if (idC d x.a)=true then idD d x.a else d).t),vi ((if (idC d x.a)=true then idD d x.a else d).r)] Xf f) ?_;rintro _ cI ⟨G,Q⟩;have j:=f;have aL:=aL.oT G j rfl;have aM:=aM.oT G j rfl;have g:=Below.oy g G E;have f:=Q;refine Za rfl<|Zt bM fun a i=>?_;refine Q6<|X02<|Xa<|X6 i (X19 i rfl (ResV.cellN (l:=[vi ((if (idC d x.a)=true then idD d x.a else d).n),.slice aH md aI,.slice aJ ((if (idC d x.a)=true then idD d x.a else d).ws).length aK,vi ((if (idC d x.a)=true then idD d x.a else d).t),vi ((if (idC d x.a)=true then idD d x.a else d).r)]) rfl X2 (f.at 0) rfl) rfl) ?_
  rw [k.1,k.2]
  exact ⟨aH,aI,aJ,aK,rfl,aL.top,aM.top,bN,by assumption,g⟩
 have b2:=L
 have g2:=L
 refine Zs i fun _ bO=>?_;refine Ze (X0m rfl rfl)<|Za rfl<|Zt bO fun a i=>?_
 refine Xi i rfl (fun M=>?_) (fun M=>?_)
 ·have b3:=M;have k:=Y28 (d:=d) g1 g4 gb g2 M;refine Zs i fun _ bP=>?_;refine Ze (Vn X2 m)<|Ze (Vd rfl X1s 1)<|Ze (X0 rfl X7 (o.at 1))<|Zf (Vc (Y1a _ d md p Ad cd (q.bx g).top Bd dd (h.bx g).top C x.a hD) Xpi) ?_;rintro _ cJ ⟨aN,aO,aP,aQ,rfl,aR,aS,bQ,cG,D⟩;have f:=f.bw D;have g:=btr g D;refine Ze (Xp (vs:=[.agg #[vi ((if (lcC d x.a)=true then lcD d x.a else d).n),.slice aN md aO,.slice aP ((if (lcC d x.a)=true then lcD d x.a else d).ws).length aQ,vi ((if (lcC d x.a)=true then lcD d x.a else d).t),vi ((if (lcC d x.a)=true then lcD d x.a else d).r)],.bool (lcC d x.a)]) rfl rfl)<|Ze (Xp (vs:=[.agg #[vi ((if (lcC d x.a)=true then lcD d x.a else d).n),.slice aN md aO,.slice aP ((if (lcC d x.a)=true then lcD d x.a else d).ws).length aQ,vi ((if (lcC d x.a)=true then lcD d x.a else d).t),vi ((if (lcC d x.a)=true then lcD d x.a else d).r)],.bool (lcC d x.a)]) rfl rfl)<|Zo (Vw [vi ((if (lcC d x.a)=true then lcD d x.a else d).n),.slice aN md aO,.slice aP ((if (lcC d x.a)=true then lcD d x.a else d).ws).length aQ,vi ((if (lcC d x.a)=true then lcD d x.a else d).t),vi ((if (lcC d x.a)=true then lcD d x.a else d).r)] Xf f) ?_;rintro _ cK ⟨G,Q⟩;have j:=f;have aR:=aR.oT G j rfl;have aS:=aS.oT G j rfl;have g:=Below.oy g G E;have f:=Q;refine Za rfl<|Zt bP fun a i=>?_;refine Q6<|X02<|Xa<|X6 i (X19 i rfl (ResV.cellN (l:=[vi ((if (lcC d x.a)=true then lcD d x.a else d).n),.slice aN md aO,.slice aP ((if (lcC d x.a)=true then lcD d x.a else d).ws).length aQ,vi ((if (lcC d x.a)=true then lcD d x.a else d).t),vi ((if (lcC d x.a)=true then lcD d x.a else d).r)]) rfl X2 (f.at 0) rfl) rfl) ?_
  rw [k.1,k.2]
  exact ⟨aN,aO,aP,aQ,rfl,aR.top,aS.top,bQ,by assumption,g⟩
 have b3:=M
 have g3:=M
 refine Zs i fun _ bR=>?_;refine Ze (X0m rfl rfl)<|Za rfl<|Zt bR fun a i=>?_
 refine Xi i rfl (fun N=>?_) (fun N=>?_)
 ·have b6:=N;have k:=Xzq (d:=d) g1 g4 gb g2 g3 N;refine Zs i fun _ bS=>?_;refine Ze (Vn X2 m)<|Ze (Vd rfl X1s 1)<|Ze (X0 rfl X7 (o.at 1))<|Zf (Vc (Y2d _ d md p Ad cd (q.bx g).top Bd dd (h.bx g).top C x.a hD) Xqi) ?_;rintro _ cL ⟨aT,aU,aV,aW,rfl,aX,aY,bT,cH,D⟩;have f:=f.bw D;have g:=btr g D;refine Ze (Xp (vs:=[.agg #[vi ((if (loC d x.a)=true then loD d x.a else d).n),.slice aT md aU,.slice aV ((if (loC d x.a)=true then loD d x.a else d).ws).length aW,vi ((if (loC d x.a)=true then loD d x.a else d).t),vi ((if (loC d x.a)=true then loD d x.a else d).r)],.bool (loC d x.a)]) rfl rfl)<|Ze (Xp (vs:=[.agg #[vi ((if (loC d x.a)=true then loD d x.a else d).n),.slice aT md aU,.slice aV ((if (loC d x.a)=true then loD d x.a else d).ws).length aW,vi ((if (loC d x.a)=true then loD d x.a else d).t),vi ((if (loC d x.a)=true then loD d x.a else d).r)],.bool (loC d x.a)]) rfl rfl)<|Zo (Vw [vi ((if (loC d x.a)=true then loD d x.a else d).n),.slice aT md aU,.slice aV ((if (loC d x.a)=true then loD d x.a else d).ws).length aW,vi ((if (loC d x.a)=true then loD d x.a else d).t),vi ((if (loC d x.a)=true then loD d x.a else d).r)] Xf f) ?_;rintro _ cM ⟨G,Q⟩;have j:=f;have aX:=aX.oT G j rfl;have aY:=aY.oT G j rfl;have g:=Below.oy g G E;have f:=Q;refine Za rfl<|Zt bS fun a i=>?_;refine Q6<|X02<|Xa<|X6 i (X19 i rfl (ResV.cellN (l:=[vi ((if (loC d x.a)=true then loD d x.a else d).n),.slice aT md aU,.slice aV ((if (loC d x.a)=true then loD d x.a else d).ws).length aW,vi ((if (loC d x.a)=true then loD d x.a else d).t),vi ((if (loC d x.a)=true then loD d x.a else d).r)]) rfl X2 (f.at 0) rfl) rfl) ?_
  rw [k.1,k.2]
  exact ⟨aT,aU,aV,aW,rfl,aX.top,aY.top,bT,by assumption,g⟩
 have b6:=N;have k:=Y3k (d:=d) g1 g4 gb g2 g3 N;refine Q7<|Xc<|bJ _ _<|Zs i fun _ bU=>?_;refine Ze (Vn X2 m)<|Zo (Vw [vi d.n,.slice Ad md cd,.slice Bd d.ws.length dd,vi d.t,vi d.r] Xf f) ?_;rintro _ cN ⟨G,Q⟩;have j:=f;have g:=Below.oy g G E;have f:=Q;refine Za rfl<|Zt bU fun a i=>?_
 refine Q6 (X6 i (X19 i rfl (ResV.cellN (l:=[vi d.n,.slice Ad md cd,.slice Bd d.ws.length dd,vi d.t,vi d.r]) rfl X2 (f.at 0) rfl) rfl) ?_)
 rw [k,Q3 Bool.false_ne_true]
 exact ⟨Ad,cd,Bd,dd,rfl,(q.bx g).top,(h.bx g).top,C,p,g⟩
def cnW(ws:List Wr)(k:Int) : Int:=((ws.filter fun w=>w.a==k||w.b==k).length:Int)
theorem Y2p{ws:List Wr}{k:Int}{j:Nat}{w:Wr}(hj:ws[j]? = some w)(h:(w.a==k||w.b==k)=true) : cnW (ws.take (j+1)) k=cnW (ws.take j) k+1:=by
 unfold cnW
 rw [X3k (q:=fun w=>w.a==k||w.b==k) hj,Q4 h,Qh]
 rfl
theorem Y2j{ws:List Wr}{k:Int}{j:Nat}{w:Wr}(hj:ws[j]? = some w)(h:(w.a==k||w.b==k)=false) : cnW (ws.take (j+1)) k=cnW (ws.take j) k:=by
 unfold cnW
 rw [X3k (q:=fun w=>w.a==k||w.b==k) hj,Q3 (by rw [h];decide),List.append_nil]
theorem Xfm(ws:List Wr)(k:Int)(j:Nat) : 0<=cnW (ws.take j) k/\cnW (ws.take j) k<=j:=by
 have h1:=List.length_filter_le (fun w:Wr=>w.a==k||w.b==k) (ws.take j)
 rw [Qn] at h1
 unfold cnW
 omega
def ctN(ns:List Nd)(k p:Int) : Int:=((ns.filter fun x=>x.k==k&&x.p==p).length:Int)
theorem Y3g{ns:List Nd}{k p:Int}{j:Nat}{x:Nd}(hj:ns[j]? = some x)(h:(x.k==k&&x.p==p)=true) : ctN (ns.take (j+1)) k p=ctN (ns.take j) k p+1:=by
 unfold ctN
 rw [X3k (q:=fun x=>x.k==k&&x.p==p) hj,Q4 h,Qh]
 rfl
theorem Y3x{ns:List Nd}{k p:Int}{j:Nat}{x:Nd}(hj:ns[j]? = some x)(h:(x.k==k&&x.p==p)=false) : ctN (ns.take (j+1)) k p=ctN (ns.take j) k p:=by
 unfold ctN
 rw [X3k (q:=fun x=>x.k==k&&x.p==p) hj,Q3 (by rw [h];decide),List.append_nil]
theorem Y2h(ns:List Nd)(k p:Int)(j:Nat) : 0<=ctN (ns.take j) k p/\ctN (ns.take j) k p<=j:=by
 have h1:=List.length_filter_le (fun x:Nd=>x.k==k&&x.p==p) (ns.take j)
 rw [Qn] at h1
 unfold ctN
 omega
def ndQ(d:Dg)(k:Int) : Bool:=
 if ((d.ns.getD k.toNat nZ).k==0)=true then (d.ns.getD k.toNat nZ).p==0&&cnW d.ws k==0
 else if ((d.ns.getD k.toNat nZ).k==1||(d.ns.getD k.toNat nZ).k==2)=true then inR (d.ns.getD k.toNat nZ).p 0 (d.n-1)&&cnW d.ws k==1
 else (d.ns.getD k.toNat nZ).k==3&&inR (d.ns.getD k.toNat nZ).p 0 7
theorem Y4k{d:Dg}{k:Int}(h:((d.ns.getD k.toNat nZ).k==0)=true) : ndQ d k=((d.ns.getD k.toNat nZ).p==0&&cnW d.ws k==0):=Q4 h
theorem Y2w{d:Dg}{k:Int}(h:((d.ns.getD k.toNat nZ).k==0)=false)(h2:((d.ns.getD k.toNat nZ).k==1||(d.ns.getD k.toNat nZ).k==2)=true) : ndQ d k=(inR (d.ns.getD k.toNat nZ).p 0 (d.n-1)&&cnW d.ws k==1):=by
 unfold ndQ;rw [h,h2];rfl
theorem Y3h{d:Dg}{k:Int}(h:((d.ns.getD k.toNat nZ).k==0)=false)(h2:((d.ns.getD k.toNat nZ).k==1||(d.ns.getD k.toNat nZ).k==2)=false) : ndQ d k=((d.ns.getD k.toNat nZ).k==3&&inR (d.ns.getD k.toNat nZ).p 0 7):=by
 unfold ndQ;rw [h,h2];rfl
def enQ(d:Dg)(k:Int) : Bool:=(List.range d.n.toNat).all fun (j:Nat)=>ctN d.ns k (j:Int)==1
def endQ(d:Dg) : Bool:=enQ d 1&&enQ d 2
theorem Xys{d:Dg}{e j:Nat}(h1:1<=e)(h2:e<=2)(hj:(j:Int)<d.n)(h:(ctN d.ns (e:Int) (j:Int) != 1)=true) : endQ d=false:=by
 have hx:enQ d (e:Int)=false:=X5h (k:=j) (by omega) (by simpa [bne] using h)
 unfold endQ
 rcases (by omega:e=1∨e=2) with h3|h3<;>subst h3
 ·rw [show enQ d 1=false from hx];rfl
 ·rw [show enQ d 2=false from hx,Bool.and_false]
def wrQ(d:Dg)(i:Nat) : Bool:=!(!(inR (d.ws.getD i wZ).a 0 ((d.ws.getD i wZ).b-1))||decide ((d.ns.length:Int)<=(d.ws.getD i wZ).b)||(decide (0<(i:Int))&&!(wlt (d.ws.getD (i-1) wZ) (d.ws.getD i wZ))))
def hdQ(d:Dg) : Bool:=!(!(inR d.n 1 5)||decide (40<(d.ns.length:Int))||!(inR d.t 0 7)||!(inR d.r (-60) 60))
def goodD(d:Dg) : Bool:=hdQ d&&(List.range d.ws.length).all (wrQ d)&&(List.range d.ns.length).all (fun k=>ndQ d (k:Int))&&endQ d
theorem Y2k{d:Dg}(h:(!(inR d.n 1 5)||decide (40<(d.ns.length:Int))||!(inR d.t 0 7)||!(inR d.r (-60) 60))=true) : goodD d=false:=by
 unfold goodD hdQ;rw [h];rfl
theorem Xnd{d:Dg}(h:(!(inR d.n 1 5)||decide (40<(d.ns.length:Int))||!(inR d.t 0 7)||!(inR d.r (-60) 60))=false) : hdQ d=true/\(1<=d.n/\d.n<=5)/\d.ns.length<=40/\(0<=d.t/\d.t<=7)/\-60<=d.r/\d.r<=60:=by
 refine ⟨by unfold hdQ;rw [h];rfl,?_⟩
 simp only [Bool.or_eq_false_iff,Bool.not_eq_false',X0x,decide_eq_false_iff_not] at h
 omega
theorem Xmb{d:Dg}{i:Nat}{u:Wr}(hu:d.ws[i]? = some u) : wrQ d i = !(!(inR u.a 0 (u.b-1))||decide ((d.ns.length:Int)<=u.b)||(decide (0<(i:Int))&&!(wlt (d.ws.getD (i-1) wZ) u))):=by
 have h:d.ws.getD i wZ=u:=by rw [Qa,hu];rfl
 unfold wrQ
 rw [h]
theorem Xuq{d:Dg}{i:Nat}(hi:i<d.ws.length)(h:wrQ d i=false) : goodD d=false:=by
 unfold goodD
 rw [X5h (q:=wrQ d) hi h,Bool.and_false,Bool.false_and,Bool.false_and]
theorem Xun{d:Dg}{i:Nat}(hi:i<d.ns.length)(h:ndQ d (i:Int)=false) : goodD d=false:=by
 unfold goodD
 rw [X5h (q:=fun k=>ndQ d (k:Int)) hi h,Bool.and_false,Bool.false_and]
theorem Xx2{d:Dg}(h1:hdQ d=true)(h2:∀ i,i<d.ws.length->wrQ d i=true)(h3:∀ i:Nat,i<d.ns.length->ndQ d (i:Int)=true) : goodD d=endQ d:=by
 unfold goodD
 rw [h1,X4s (q:=wrQ d) h2,X4s (q:=fun k=>ndQ d (k:Int)) h3]
 rfl
theorem Xj1(A:World)(d:Dg)(md:Nat)(aP:md=d.ns.length)(Ad:Option Addr)(cd:Nat)(aQ:Rd A A.heap.size 81 encNd Ad d.ns)(Bd:Option Addr)(dd:Nat)(C:Rd A A.heap.size 83 encWr Bd d.ws)(q:d.ws.length<=dd)(p:Int)(aU:d.ws.length<=1000000000) : Ret Tryz.prog 152 [.agg #[vi d.n,.slice Ad md cd,.slice Bd d.ws.length dd,vi d.t,vi d.r],vi p] A (fun v w=>v=vi (cnW d.ws p)/\Below A.heap.size A w):=by
 refine enter Tryz.func152 rfl 29 rfl rfl ?_;intro a f
 have m:=bz A
 refine Zs f fun _ aH=>?_;refine Zf (X0n (zs:=[vi d.n,.slice Ad md cd,.slice Bd d.ws.length dd,vi d.t,vi d.r]) rfl rfl) ?_;rintro _ w1 ⟨b4,rfl,aI,hE,aJ⟩;have aR:=Q0 m.size aI;have m:=btr m hE;refine Za rfl<|Zx aH fun a f _ aK=>?_;refine Za rfl<|ZX aK fun a f _ aL=>?_;refine Zs f fun _ aM=>?_;refine Ze (Vd rfl Xn 2)<|Ze (X0 rfl X0g (aJ.at 2))<|Ze (X0c rfl Xt)<|Zm rfl<|Zt aM fun a f=>?_;refine Q8<|X04 (σ:=Nat×Int) (fun (s:Nat×Int) (a:Act) (w:World)=>match s with|(k,c)=>Fr a 29 [(1,vi p),(5,vi c),(9,.slice Bd d.ws.length dd),(10,vi (d.ws.length:Int)),(11,vi (k:Int))]/\(k<=d.ws.length)/\(c=cnW (d.ws.take k) p)/\d.ws.length<=dd/\Below A.heap.size A w) (fun (s:Nat×Int)=>match s with|(k,c)=>d.ws.length-k) (0,0) ?_ ?_
 ·exact ⟨f.sb,(Qf _),rfl,q,m⟩
 rintro ⟨k,c⟩ a w2 ⟨f,hk,hc,q,m⟩;have aB:=Xfm d.ws p k
 rw [<- hc] at aB
 refine Zs f fun _ aN=>?_;refine Ze (X0q rfl rfl)<|ZX aN fun a f _ aO=>?_
 refine Xi f rfl (fun g=>?_) (fun g=>?_)
 ·have o:=g;have g:=Q2 g
  obtain ⟨aV,aS⟩:=X5 (l:=d.ws) (k:=k) (by omega)
  obtain ⟨B,a6⟩:=X5 (l:=d.ws) (k:=k) (by have:=g;omega)
  have aB:=Xfm d.ws p k;refine Q7<|aO _ _<|Q5 fun _ D=>?_;refine Q8<|Zs f fun _ aC=>?_;refine Zi (k:=k) (u:=B) (enc:=encWr) (l:=d.ws) tv0 rfl rfl Xt X0d Xz (C.bx m) a6 rfl ?_;intro aW a7;refine Ze (X01 (l:=[vi B.a,vi B.b,.bool B.h]) rfl X16 a7 rfl)<|Zf (Xo (zs:=[vi 0,vi 0,.bool false]) X2m rfl) ?_;rintro _ w3 ⟨aX,rfl,E,hE,i⟩;have a8:=Q0 m.size E;have aD:=(C.bx m).away E;have m:=btr m hE;refine Zo (Vw [vi B.a,vi B.b,.bool B.h] X0d i) ?_;rintro _ w4 ⟨ho,hb⟩;have aT:=i;have m:=Below.oy m ho a8;have i:=hb;refine ZX aC fun a f _ aE=>?_;refine X0b (fun a w=>Fr a 29 [(1,vi p),(5,vi c),(9,.slice Bd d.ws.length dd),(10,vi (d.ws.length:Int)),(11,vi (k:Int)),(24,.bool ((B.a==p)||(B.b==p)))]/\w4=w) ?_ ?_
  ·refine Zr f<|Ze (Vd rfl X0r 0)<|Ze (X0 rfl X7 (i.at 0))<|Zm rfl<|Ze (X0m rfl rfl)<|Zm rfl ?_
   refine Zg 19 rfl (fun e=>?_) (fun e=>?_)
   ·(iterate 4 refine Zp (gP e) ?_);refine Ze (X4 rfl e rfl) ?_;refine Zn fun a f=>?_;exact ⟨f.sub ⟨rfl,rfl,rfl,rfl,rfl,X1 rfl (by simp [o,e]),trivial⟩,rfl⟩
   refine Zv (gW e) (Vd rfl X0s 1) ?_;refine Zv (gW e) (X0 rfl X7 (i.at 1)) ?_;refine Zv (gW e) (X3 rfl) ?_;refine Zv (gW e) (X0m rfl rfl) ?_;refine Ze (Xe rfl e rfl) ?_;refine Zn fun a f=>?_;exact ⟨f.sub ⟨rfl,rfl,rfl,rfl,rfl,X1 rfl (by simp [o,e]),trivial⟩,rfl⟩
  rintro a _ ⟨f,rfl⟩;refine aE _ _ ?_
  refine Xi f rfl (fun j=>?_) (fun j=>?_)
  ·have aA:=j;have x:=Y2p a6 j
   rw [<- hc] at x
   refine Zr f<|Zm rfl<|Ze (Xm rfl rfl (by omega) (by omega))<|Za rfl ?_;refine Zn fun a f=>?_;refine Xc<|D _ _<|Zr f<|Ze (Xm rfl rfl (by omega) (by omega))<|Zm rfl ?_;refine Zn fun a f=>?_;refine Xd ?_;exact ⟨(k+1,c+1),⟨f.sb,(by omega),(by rw [x]),q,m⟩,(by first|omega|(dsimp only;omega))⟩
  have aA:=j;have x:=Y2j a6 j
  rw [<- hc] at x
  refine Q7<|Xc<|D _ _<|Zr f ?_;refine Ze (Xm rfl rfl (by omega) (by omega))<|Zm rfl ?_;refine Zn fun a f=>?_;refine Xd ?_;exact ⟨(k+1,c),⟨f.sb,(by omega),(by rw [x]),q,m⟩,(by first|omega|(dsimp only;omega))⟩
 have o:=g;have g:=Q1 g
 have aF:c=cnW d.ws p:=by rw [hc,Qi (by have:=g;omega)]
 refine Q9<|Xk<|Xk<|X03 ?_;refine aL _ _<|Zs f fun _ aG=>?_;refine Zm rfl<|Za rfl<|Zt aG fun a f=>?_
 refine Q6 (X6 f (Xu f rfl rfl) ?_)
 exact ⟨by rw [aF],m⟩
theorem Y06(M:World)(d:Dg)(md:Nat)(I:md=d.ns.length)(Ad:Option Addr)(cd:Nat)(D:Rd M M.heap.size 81 encNd Ad d.ns)(Bd:Option Addr)(dd:Nat)(J:Rd M M.heap.size 83 encWr Bd d.ws)(L:d.ws.length<=dd)(p:Int)(aK:0<=p/\p.toNat<d.ns.length)(a6:d.ws.length<=1000000000)(hn:1<=d.n/\d.n<=1000) : Ret Tryz.prog 107 [.agg #[vi d.n,.slice Ad md cd,.slice Bd d.ws.length dd,vi d.t,vi d.r],vi p] M (fun v w=>v=.bool (ndQ d p)/\Below M.heap.size M w):=by
 refine enter Tryz.func107 rfl 47 rfl rfl ?_;intro a e
 have o:=bz M
 refine Zs e fun _ aL=>?_;refine Zf (X0n (zs:=[vi d.n,.slice Ad md cd,.slice Bd d.ws.length dd,vi d.t,vi d.r]) rfl rfl) ?_;rintro _ w1 ⟨b4,rfl,aM,B,x⟩;have aP:=Q0 o.size aM;have o:=btr o B;refine Za rfl<|Zx aL fun a e _ aN=>?_;refine Ze (Vd rfl Xg 1)<|Ze (X0 rfl Xy (x.at 1))<|Zm rfl<|Zj (k:=p.toNat) (u:=(d.ns.getD p.toNat nZ)) (enc:=encNd) (l:=d.ns) tv0 rfl I rfl Xl X08 Xw (D.bx o) (Xb aK.2) (by omega) ?_;intro p7 a7;refine Ze (X01 (l:=[vi ((d.ns.getD p.toNat nZ).k),vi ((d.ns.getD p.toNat nZ).p)]) rfl X23 a7 rfl)<|Zf (Xo (zs:=[vi 0,vi 0]) X4d rfl) ?_;rintro _ w2 ⟨b8,rfl,a8,B,C⟩;have aA:=Q0 o.size a8;have aJ:=(D.bx o).away a8;have x:=x.bw B;have o:=btr o B;refine Zo (Vw [vi ((d.ns.getD p.toNat nZ).k),vi ((d.ns.getD p.toNat nZ).p)] X08 C) ?_;rintro _ w3 ⟨ho,hb⟩;have aB:=C;have x:=x.oz ho aB rfl;have o:=Below.oy o ho aA;have C:=hb;refine ZX aN fun a e _ aO=>?_;refine Zs e fun _ aC=>?_;refine Ze (Vd rfl X0v 0)<|Ze (X0 rfl X7 (C.at 0))<|Zt aC fun a e=>?_;refine Q8<|Zs e fun _ aD=>?_;refine Ze (X0m rfl rfl)<|Za rfl<|Zt aD fun a e=>?_
 refine Xi e rfl (fun E=>?_) (fun E=>?_)
 ·have b:=E;have h:=Y4k E;refine Q5 fun _ aE=>?_;refine X0b (fun a w=>Fr a 47 [(4,.bool ((((d.ns.getD p.toNat nZ).p)==0)&&((cnW d.ws p)==0)))]/\Below w3.heap.size w3 w) ?_ ?_
  ·have q:Below w3.heap.size w3 w3:=Below.refl _ _
   refine Zr e<|Ze (Vd rfl X06 1)<|Ze (X0 rfl X7 (C.at 1))<|Ze (X0m rfl rfl)<|Zm rfl ?_
   refine Zg 18 rfl (fun f=>?_) (fun f=>?_)
   ·refine Zv (gW f) (Vn X2 x) ?_;refine Zv (gW f) (X3 rfl) ?_;refine Zk (gW f) (Vc (Xj1 _ d md I Ad cd (D.bx o).top Bd dd (J.bx o).top L p a6) Xax) ?_;rintro _ w4 ⟨rfl,B⟩;have o:=btr o B;have q:=btr q B;refine Zv (gW f) (X0m rfl rfl) ?_;refine Ze (X4 rfl f rfl)<|Za rfl ?_;refine Zn fun a e=>?_
    have A:Below w3.heap.size w3 w4:=q
    exact ⟨e.sub ⟨X1 rfl (by first|rfl|(simp only [b,f,bs];done)|simp [b,f]),trivial⟩,A⟩
   (iterate 4 refine Zp (gP f) ?_);refine Ze (Xe rfl f rfl)<|Za rfl ?_;refine Zn fun a e=>?_
   have A:Below w3.heap.size w3 w3:=q
   exact ⟨e.sub ⟨X1 rfl (by first|rfl|(simp only [b,f,bs];done)|simp [b,f]),trivial⟩,A⟩
  rintro a w5 ⟨e,B⟩;have o:=btr o B;refine aE _ _<|Q6<|X02<|Xa ?_;refine X6 e (Xu e rfl rfl) ?_;exact ⟨by rw [h],o⟩
 have b:=E
 have g0:=E
 refine Q5 fun _ N=>?_;refine Zs e fun _ aF=>?_;refine Ze (X0m rfl rfl)<|Za rfl<|Zt aF fun a e=>?_
 refine Xi e rfl (fun G=>?_) (fun G=>?_)
 ·have c:=G
  have h:=Y2w g0 (by rw [G];rfl)
  refine Q7<|N _ _<|Xeg e (X1 rfl c) ?_;refine Q5 fun _ aG=>?_;refine X0b (fun a w=>Fr a 47 [(4,.bool ((inR ((d.ns.getD p.toNat nZ).p) 0 (d.n-1))&&((cnW d.ws p)==1)))]/\Below w3.heap.size w3 w) ?_ ?_
  ·have q:Below w3.heap.size w3 w3:=Below.refl _ _
   refine Zr e<|Ze (Vd rfl X06 1)<|Ze (X0 rfl X7 (C.at 1))<|Ze (Vd rfl X13 0)<|Ze (X0 rfl X7 (x.at 0))<|Ze (X11 rfl rfl (by omega) (by omega))<|Zf (Vc (F85 _ ((d.ns.getD p.toNat nZ).p) 0 (d.n-1)) X6a) ?_;rintro _ _ ⟨rfl,rfl⟩;refine Zm rfl ?_
   refine Zg 33 rfl (fun g=>?_) (fun g=>?_)
   ·refine Zv (gW g) (Vn X2 x) ?_;refine Zv (gW g) (X3 rfl) ?_;refine Zk (gW g) (Vc (Xj1 _ d md I Ad cd (D.bx o).top Bd dd (J.bx o).top L p a6) Xax) ?_;rintro _ w6 ⟨rfl,B⟩;have o:=btr o B;have q:=btr q B;refine Zv (gW g) (X0m rfl rfl) ?_;refine Ze (X4 rfl g rfl)<|Za rfl ?_;refine Zn fun a e=>?_
    have A:Below w3.heap.size w3 w6:=q
    exact ⟨e.sub ⟨X1 rfl (by first|rfl|(simp only [b,c,g,bs];done)|simp [b,c,g]),trivial⟩,A⟩
   (iterate 4 refine Zp (gP g) ?_);refine Ze (Xe rfl g rfl)<|Za rfl ?_;refine Zn fun a e=>?_
   have A:Below w3.heap.size w3 w3:=q
   exact ⟨e.sub ⟨X1 rfl (by first|rfl|(simp only [b,c,g,bs];done)|simp [b,c,g]),trivial⟩,A⟩
  rintro a w7 ⟨e,B⟩;have o:=btr o B;refine aG _ _<|Q6<|X02<|Xa ?_;refine X6 e (Xu e rfl rfl) ?_;exact ⟨by rw [h],o⟩
 have c:=G
 have g1:=G
 refine Zr e<|Ze (X0m rfl rfl)<|Za rfl<|Zt N fun a e=>?_
 refine Xi e rfl (fun H=>?_) (fun H=>?_)
 ·have m:=H
  have h:=Y2w g0 (by rw [g1,H];rfl)
  refine Q5 fun _ aH=>?_;refine X0b (fun a w=>Fr a 47 [(4,.bool ((inR ((d.ns.getD p.toNat nZ).p) 0 (d.n-1))&&((cnW d.ws p)==1)))]/\Below w3.heap.size w3 w) ?_ ?_
  ·have q:Below w3.heap.size w3 w3:=Below.refl _ _
   refine Zr e<|Ze (Vd rfl X06 1)<|Ze (X0 rfl X7 (C.at 1))<|Ze (Vd rfl X13 0)<|Ze (X0 rfl X7 (x.at 0))<|Ze (X11 rfl rfl (by omega) (by omega))<|Zf (Vc (F85 _ ((d.ns.getD p.toNat nZ).p) 0 (d.n-1)) X6a) ?_;rintro _ _ ⟨rfl,rfl⟩;refine Zm rfl ?_
   refine Zg 33 rfl (fun i=>?_) (fun i=>?_)
   ·refine Zv (gW i) (Vn X2 x) ?_;refine Zv (gW i) (X3 rfl) ?_;refine Zk (gW i) (Vc (Xj1 _ d md I Ad cd (D.bx o).top Bd dd (J.bx o).top L p a6) Xax) ?_;rintro _ w8 ⟨rfl,B⟩;have o:=btr o B;have q:=btr q B;refine Zv (gW i) (X0m rfl rfl) ?_;refine Ze (X4 rfl i rfl)<|Za rfl ?_;refine Zn fun a e=>?_
    have A:Below w3.heap.size w3 w8:=q
    exact ⟨e.sub ⟨X1 rfl (by first|rfl|(simp only [b,c,m,i,bs];done)|simp [b,c,m,i]),trivial⟩,A⟩
   (iterate 4 refine Zp (gP i) ?_);refine Ze (Xe rfl i rfl)<|Za rfl ?_;refine Zn fun a e=>?_
   have A:Below w3.heap.size w3 w3:=q
   exact ⟨e.sub ⟨X1 rfl (by first|rfl|(simp only [b,c,m,i,bs];done)|simp [b,c,m,i]),trivial⟩,A⟩
  rintro a w9 ⟨e,B⟩;have o:=btr o B;refine aH _ _<|Q6<|X02<|Xa ?_;refine X6 e (Xu e rfl rfl) ?_;exact ⟨by rw [h],o⟩
 have m:=H
 have h:=Y3h g0 (by rw [g1,H];rfl)
 refine Q7<|Xc<|aO _ _<|Q5 fun _ aI=>?_;refine X0b (fun a w=>Fr a 47 [(4,.bool ((((d.ns.getD p.toNat nZ).k)==3)&&(inR ((d.ns.getD p.toNat nZ).p) 0 7)))]/\w3=w) ?_ ?_
 ·refine Zr e<|Ze (Vd rfl X0v 0)<|Ze (X0 rfl X7 (C.at 0))<|Ze (X0m rfl rfl)<|Zm rfl ?_
  refine Zg 42 rfl (fun j=>?_) (fun j=>?_)
  ·refine Zv (gW j) (Vd rfl X06 1) ?_;refine Zv (gW j) (X0 rfl X7 (C.at 1)) ?_;refine Zk (gW j) (Vc (F85 _ ((d.ns.getD p.toNat nZ).p) 0 7) X6a) ?_;rintro _ _ ⟨rfl,rfl⟩;refine Ze (X4 rfl j rfl)<|Za rfl ?_;refine Zn fun a e=>?_;exact ⟨e.sub ⟨X1 rfl (by first|rfl|(simp only [b,c,m,j,bs];done)|simp [b,c,m,j]),trivial⟩,rfl⟩
  (iterate 3 refine Zp (gP j) ?_);refine Ze (Xe rfl j rfl)<|Za rfl ?_;refine Zn fun a e=>?_;exact ⟨e.sub ⟨X1 rfl (by first|rfl|(simp only [b,c,m,j,bs];done)|simp [b,c,m,j]),trivial⟩,rfl⟩
 rintro a _ ⟨e,rfl⟩;refine aI _ _ ?_
 refine Q6 (X6 e (Xu e rfl rfl) ?_)
 exact ⟨by rw [h],o⟩
theorem Y0a(G:World)(d:Dg)(md:Nat)(aC:md=d.ns.length)(Ad:Option Addr)(cd:Nat)(M:Rd G G.heap.size 81 encNd Ad d.ns)(Bd:Option Addr)(dd:Nat)(b6:Rd G G.heap.size 83 encWr Bd d.ws)(m:d.ws.length<=dd)(hN:md<=1000)(hn:1<=d.n/\d.n<=1000) : Ret Tryz.prog 108 [.agg #[vi d.n,.slice Ad md cd,.slice Bd d.ws.length dd,vi d.t,vi d.r]] G (fun v w=>v=.bool (endQ d)/\Below G.heap.size G w):=by
 refine enter Tryz.func108 rfl 40 rfl rfl ?_;intro a b
 have x:=bz G
 refine Zs b fun _ aV=>?_;refine Zf (X0n (zs:=[vi d.n,.slice Ad md cd,.slice Bd d.ws.length dd,vi d.t,vi d.r]) rfl rfl) ?_;rintro _ w1 ⟨b4,rfl,aW,hE,g⟩;have b7:=Q0 x.size aW;have x:=btr x hE;refine Za rfl<|ZX aV fun a b _ aX=>?_;refine Zs b fun _ aY=>?_;refine Za rfl<|Zt aY fun a b=>?_;refine Q8<|X04 (σ:=Nat) (fun (e:Nat) (a:Act) (w:World)=>Fr a 40 [(1,(pZ9 b4)),(3,vi (e:Int))]/\(1<=e/\e<=3)/\(∀ i:Nat,1<=i->i<e->enQ d (i:Int)=true)/\Blk w b4 39 [vi d.n,.slice Ad md cd,.slice Bd d.ws.length dd,vi d.t,vi d.r]/\d.ws.length<=dd/\Below G.heap.size G w) (fun (e:Nat)=>3-e) 1 ?_ ?_
 ·exact ⟨b.sb,⟨Qb _,by omega⟩,(fun i h1 h2=>by omega),g,m,x⟩
 rintro e a w2 ⟨b,he,H,g,m,x⟩;refine Q5 fun _ aZ=>?_;refine Zs b fun _ b0=>?_;refine Zm rfl<|Ze (Xex rfl rfl)<|Zt b0 fun a b=>?_
 refine Xi b rfl (fun h=>?_) (fun h=>?_)
 ·have I:=h;have h:=Q2 h;have h9:=h;refine Q7<|aZ _ _<|Q5 fun _ aD=>?_;refine Q8<|Zs b fun _ aE=>?_;refine Za rfl<|Zt aE fun a b=>?_;refine Q8<|X04 (σ:=Nat) (fun (j:Nat) (a:Act) (w:World)=>Fr a 40 [(1,(pZ9 b4)),(3,vi (e:Int)),(4,vi (j:Int))]/\(∀ i:Nat,i<j->(ctN d.ns (e:Int) (i:Int)==1)=true)/\Blk w b4 39 [vi d.n,.slice Ad md cd,.slice Bd d.ws.length dd,vi d.t,vi d.r]/\d.ws.length<=dd/\Below G.heap.size G w) (fun (j:Nat)=>d.n.toNat-j) 0 ?_ ?_
  ·exact ⟨b.sb,(fun i hi=>by omega),g,m,x⟩
  rintro j a w3 ⟨b,N,g,m,x⟩;refine Q5 fun _ aF=>?_;refine Zs b fun _ aG=>?_;refine Zm rfl<|Ze (Vd rfl X13 0)<|Ze (X0 rfl X7 (g.at 0))<|Ze (X0q rfl rfl)<|Zt aG fun a b=>?_
  refine Xi b rfl (fun o=>?_) (fun o=>?_)
  ·have D:=o;have o:=Q2 o;have b1:=o;refine Q7<|aF _ _<|Q5 fun _ aH=>?_;refine Q8<|Zs b fun _ aI=>?_;refine Za rfl<|ZX aI fun a b _ aJ=>?_;refine Zs b fun _ aK=>?_;refine Ze (Vd rfl Xg 1)<|Ze (X0 rfl Xy (g.at 1))<|Ze (X0c rfl Xl)<|Zm rfl<|Zt aK fun a b=>?_;refine Q8<|X04 (σ:=Nat×Int) (fun (s:Nat×Int) (a:Act) (w:World)=>match s with|(k,c)=>Fr a 40 [(1,(pZ9 b4)),(3,vi (e:Int)),(4,vi (j:Int)),(5,vi c),(19,.slice Ad md cd),(20,vi (md:Int)),(21,vi (k:Int))]/\(k<=d.ns.length)/\(c=ctN (d.ns.take k) (e:Int) (j:Int))/\Blk w b4 39 [vi d.n,.slice Ad md cd,.slice Bd d.ws.length dd,vi d.t,vi d.r]/\d.ws.length<=dd/\Below G.heap.size G w) (fun (s:Nat×Int)=>match s with|(k,c)=>d.ns.length-k) (0,0) ?_ ?_
   ·exact ⟨b.sb,(Qf _),rfl,g,m,x⟩
   rintro ⟨k,c⟩ a w4 ⟨b,hk,hc,g,m,x⟩;have b2:=Y2h d.ns (e:Int) (j:Int) k
   rw [<- hc] at b2
   refine Zs b fun _ aL=>?_;refine Ze (X0q rfl rfl)<|ZX aL fun a b _ aM=>?_
   refine Xi b rfl (fun q=>?_) (fun q=>?_)
   ·have E:=q;have q:=Q2 q
    obtain ⟨u9,a6⟩:=X5 (l:=d.ns) (k:=k) (by have:=q;omega)
    refine Q7<|aM _ _<|Q5 fun _ Q=>?_;refine Q8<|Zs b fun _ aN=>?_;refine Zj (k:=k) (u:=u9) (enc:=encNd) (l:=d.ns) tv0 rfl aC rfl Xl X08 Xw (M.bx x) a6 (by omega) ?_;intro b8 a7;refine Ze (X01 (l:=[vi u9.k,vi u9.p]) rfl X23 a7 rfl)<|Zf (Xo (zs:=[vi 0,vi 0]) X4d rfl) ?_;rintro _ w5 ⟨b9,rfl,U,hE,A⟩;have a8:=Q0 x.size U;have aO:=(M.bx x).away U;have g:=g.bw hE;have x:=btr x hE;refine Zo (Vw [vi u9.k,vi u9.p] X08 A) ?_;rintro _ w6 ⟨ho,hb⟩;have aP:=A;have g:=g.oz ho aP rfl;have x:=Below.oy x ho a8;have A:=hb;refine ZX aN fun a b _ aQ=>?_;refine X0b (fun a w=>Fr a 40 [(1,(pZ9 b4)),(3,vi (e:Int)),(4,vi (j:Int)),(5,vi c),(19,.slice Ad md cd),(20,vi (md:Int)),(21,vi (k:Int)),(34,.bool ((u9.k==(e:Int))&&(u9.p==(j:Int))))]/\w6=w) ?_ ?_
    ·refine Zr b<|Ze (Vd rfl X0v 0)<|Ze (X0 rfl X7 (A.at 0))<|Zm rfl<|Ze (X0m rfl rfl)<|Zm rfl ?_
     refine Zg 29 rfl (fun f=>?_) (fun f=>?_)
     ·refine Zv (gW f) (Vd rfl X06 1) ?_;refine Zv (gW f) (X0 rfl X7 (A.at 1)) ?_;refine Zv (gW f) (X3 rfl) ?_;refine Zv (gW f) (X0m rfl rfl) ?_;refine Ze (X4 rfl f rfl) ?_;refine Zn fun a b=>?_;exact ⟨b.sub ⟨rfl,rfl,rfl,rfl,rfl,rfl,rfl,X1 rfl (by simp [I,D,E,f]),trivial⟩,rfl⟩
     (iterate 4 refine Zp (gP f) ?_);refine Ze (Xe rfl f rfl) ?_;refine Zn fun a b=>?_;exact ⟨b.sub ⟨rfl,rfl,rfl,rfl,rfl,rfl,rfl,X1 rfl (by simp [I,D,E,f]),trivial⟩,rfl⟩
    rintro a _ ⟨b,rfl⟩;refine aQ _ _ ?_
    refine Xi b rfl (fun B=>?_) (fun B=>?_)
    ·have aA:=B;have J:=Y3g a6 B
     rw [<- hc] at J
     refine Zr b<|Zm rfl<|Ze (Xm rfl rfl (by omega) (by omega))<|Za rfl ?_;refine Zn fun a b=>?_;refine Xc<|Q _ _<|Zr b<|Ze (Xm rfl rfl (by omega) (by omega))<|Zm rfl ?_;refine Zn fun a b=>?_;refine Xd ?_;exact ⟨(k+1,c+1),⟨b.sb,(by omega),(by rw [J]),g,m,x⟩,(by first|omega|(dsimp only;omega))⟩
    have aA:=B;have J:=Y3x a6 B
    rw [<- hc] at J
    refine Q7<|Xc<|Q _ _<|Zr b ?_;refine Ze (Xm rfl rfl (by omega) (by omega))<|Zm rfl ?_;refine Zn fun a b=>?_;refine Xd ?_;exact ⟨(k+1,c),⟨b.sb,(by omega),(by rw [J]),g,m,x⟩,(by first|omega|(dsimp only;omega))⟩
   have E:=q;have q:=Q1 q
   have aR:c=ctN d.ns (e:Int) (j:Int):=by rw [hc,Qi (by have:=q;omega)]
   refine Q9<|Xk<|Xk<|X03 ?_;refine aJ _ _<|Zs b fun _ aS=>?_;refine Zm rfl<|Ze (X1o rfl rfl)<|Zt aS fun a b=>?_
   refine Xi b rfl (fun C=>?_) (fun C=>?_)
   ·have aB:=C
    have L:endQ d=false:=Xys (e:=e) (by omega) (by omega) b1 (by rw [<- aR];exact C)
    refine Zs b fun _ aT=>?_;refine Za rfl<|Zt aT fun a b=>?_;refine Q6<|X02<|Xa<|Xa ?_;refine X02<|X02<|Xa<|Xa ?_;refine X02<|Xa<|X6 b (Xu b rfl rfl) ?_;exact ⟨by rw [L],x⟩
   have aB:=C
   have b3:(ctN d.ns (e:Int) (j:Int)==1)=true:=by rw [<- aR];have h8:=C;simpa using h8
   refine Q7<|Xc<|aH _ _<|Zr b ?_;refine Zm rfl<|Ze (Xm rfl rfl (by omega) (by omega))<|Za rfl ?_;refine Zn fun a b=>?_;refine Xd ?_;exact ⟨j+1,⟨b.sb,(fun i hi=>by by_cases h9:i=j;rw [h9];exact b3;exact N i (by omega)),g,m,x⟩,(by omega)⟩
  have D:=o;have o:=Q1 o
  have b5:enQ d (e:Int)=true:=X4s fun i hi=>N i (by have:=o;omega)
  refine Q9<|Xk<|Xk<|X03 ?_;refine Xc<|aD _ _<|Zr b<|Zm rfl<|Ze (Xm rfl rfl (by omega) (by omega))<|Za rfl ?_;refine Zn fun a b=>?_;refine Xd ?_;exact ⟨e+1,⟨b.sb,(by omega),(fun i h1 h2=>by by_cases h9:i=e;rw [h9];exact b5;exact H i h1 (by omega)),g,m,x⟩,(by omega)⟩
 have I:=h;have h:=Q1 h
 have L:endQ d=true:=by unfold endQ;rw [show enQ d 1=true from H 1 (by omega) (by have:=h;omega),show enQ d 2=true from H 2 (by omega) (by have:=h;omega)];rfl
 refine Q9<|Xk<|Xk<|X03 ?_;refine aX _ _<|Zs b fun _ aU=>?_;refine Za rfl<|Zt aU fun a b=>?_
 refine Q6 (X6 b (Xu b rfl rfl) ?_)
 exact ⟨by rw [L],x⟩
theorem Xed(w0:World)(d:Dg)(md:Nat)(L:md=d.ns.length)(Ad:Option Addr)(cd:Nat)(a8:Rd w0 w0.heap.size 81 encNd Ad d.ns)(Bd:Option Addr)(dd:Nat)(M:Rd w0 w0.heap.size 83 encWr Bd d.ws)(H:d.ws.length<=dd)(bJ:d.ws.length<=1000000000)(b7:∀ x ∈ d.ws,-1000000<=x.b/\x.b<=1000000) : Ret Tryz.prog 54 [.agg #[vi d.n,.slice Ad md cd,.slice Bd d.ws.length dd,vi d.t,vi d.r]] w0 (fun v w=>v=.bool (goodD d)/\Below w0.heap.size w0 w):=by
 refine enter Tryz.func54 rfl 80 rfl rfl ?_;intro a e
 have o:=bz w0
 refine Zs e fun _ b8=>?_;refine Zf (X0n (zs:=[vi d.n,.slice Ad md cd,.slice Bd d.ws.length dd,vi d.t,vi d.r]) rfl rfl) ?_;rintro _ w1 ⟨b4,rfl,b9,J,m⟩;have bG:=Q0 o.size b9;have o:=btr o J;refine Za rfl<|ZX b8 fun a e _ bA=>?_;refine Q5 fun _ bB=>?_;refine X0b (fun a w=>Fr a 80 [(1,(pZ9 b4)),(27,.bool ((((!(inR d.n 1 5))||(decide (40<(md:Int))))||(!(inR d.t 0 7)))||(!(inR d.r (-60) 60))))]/\w1=w) ?_ ?_
 ·refine Zr e<|Ze (Vd rfl X13 0)<|Ze (X0 rfl X7 (m.at 0))<|Zf (Vc (F85 _ d.n 1 5) X6a) ?_;rintro _ _ ⟨rfl,rfl⟩;refine Ze (X0y rfl)<|Zm rfl ?_
  refine Zg 10 rfl (fun p=>?_) (fun p=>?_)
  ·(iterate 4 refine Zp (gP p) ?_);refine Ze (X4 rfl p rfl)<|Zm rfl<|Zp (gP rfl) ?_;(iterate 3 refine Zp (gP rfl) ?_);refine Ze (X4 rfl rfl rfl)<|Zm rfl<|Zp (gP rfl) ?_;(iterate 3 refine Zp (gP rfl) ?_);refine Ze (X4 rfl rfl rfl) ?_;refine Zn fun a e=>?_;exact ⟨e.sub ⟨rfl,X1 rfl (by simp [p]),trivial⟩,rfl⟩
  refine Zv (gW p) (Vd rfl Xg 1) ?_;refine Zv (gW p) (X0 rfl Xy (m.at 1)) ?_;refine Zv (gW p) (X0c rfl Xl) ?_;refine Zv (gW p) (X3h rfl rfl) ?_;refine Ze (Xe rfl p rfl)<|Zm rfl ?_
  refine Zg 16 rfl (fun B=>?_) (fun B=>?_)
  ·(iterate 4 refine Zp (gP B) ?_);refine Ze (X4 rfl B rfl)<|Zm rfl<|Zp (gP rfl) ?_;(iterate 3 refine Zp (gP rfl) ?_);refine Ze (X4 rfl rfl rfl) ?_;refine Zn fun a e=>?_;exact ⟨e.sub ⟨rfl,X1 rfl (by simp [p,B]),trivial⟩,rfl⟩
  refine Zv (gW B) (Vd rfl X0u 3) ?_;refine Zv (gW B) (X0 rfl X7 (m.at 3)) ?_;refine Zk (gW B) (Vc (F85 _ d.t 0 7) X6a) ?_;rintro _ _ ⟨rfl,rfl⟩;refine Zv (gW B) (X0y rfl) ?_;refine Ze (Xe rfl B rfl)<|Zm rfl ?_
  refine Zg 22 rfl (fun G=>?_) (fun G=>?_)
  ·(iterate 4 refine Zp (gP G) ?_);refine Ze (X4 rfl G rfl) ?_;refine Zn fun a e=>?_;exact ⟨e.sub ⟨rfl,X1 rfl (by simp [p,B,G]),trivial⟩,rfl⟩
  refine Zv (gW G) (Vd rfl X07 4) ?_;refine Zv (gW G) (X0 rfl X7 (m.at 4)) ?_;refine Zk (gW G) (Vc (F85 _ d.r (-60) 60) X6a) ?_;rintro _ _ ⟨rfl,rfl⟩;refine Zv (gW G) (X0y rfl) ?_;refine Ze (Xe rfl G rfl) ?_;refine Zn fun a e=>?_;exact ⟨e.sub ⟨rfl,X1 rfl (by simp [p,B,G]),trivial⟩,rfl⟩
 rintro a _ ⟨e,rfl⟩;refine bB _ _ ?_
 refine Xi e rfl (fun N=>?_) (fun N=>?_)
 ·have q:=N
  have I:goodD d=false:=Y2k (by rw [<- L];exact N)
  refine Zs e fun _ aM=>?_;refine Za rfl<|Zt aM fun a e=>?_;refine Q6<|Xa<|X6 e (Xu e rfl rfl) ?_;exact ⟨by rw [I],o⟩
 have q:=N
 obtain ⟨bC,bK,bL,bD⟩:=Xnd (d:=d) (by rw [<- L];exact N)
 refine Q7<|bA _ _<|Q5 fun _ aN=>?_;refine Zs e fun _ aO=>?_;refine Ze (Vd rfl Xn 2)<|Ze (X0 rfl X0g (m.at 2))<|Ze (X0c rfl Xt)<|Zm rfl<|Zt aO fun a e=>?_;refine Q8<|X04 (σ:=Nat) (fun (k:Nat) (a:Act) (w:World)=>Fr a 80 [(1,(pZ9 b4)),(29,.slice Bd d.ws.length dd),(30,vi (d.ws.length:Int)),(31,vi (k:Int))]/\(k<=d.ws.length)/\(∀ i:Nat,i<k->wrQ d i=true)/\Blk w b4 39 [vi d.n,.slice Ad md cd,.slice Bd d.ws.length dd,vi d.t,vi d.r]/\d.ws.length<=dd/\Below w0.heap.size w0 w) (fun (k:Nat)=>d.ws.length-k) 0 ?_ ?_
 ·exact ⟨e.sb,(Qf _),(fun i hi=>by omega),m,H,o⟩
 rintro k a w2 ⟨e,hk,aA,m,H,o⟩;refine Zs e fun _ aP=>?_;refine Ze (X0q rfl rfl)<|ZX aP fun a e _ aQ=>?_
 refine Xi e rfl (fun C=>?_) (fun C=>?_)
 ·have A:=C;have C:=Q2 C
  obtain ⟨bM,bH⟩:=X5 (l:=d.ws) (k:=k) (by omega)
  obtain ⟨u9,a7⟩:=X5 (l:=d.ws) (k:=k) (by have:=C;omega)
  have bN:=b7 u9 (Qe a7);have bE:=(Qg.1 a7).1;have aD:=Xmb a7
  rw [<- L] at aD
  refine Q7<|aQ _ _<|Q5 fun _ aR=>?_;refine Q8<|Zs e fun _ aS=>?_;refine Zm rfl<|Zi (k:=k) (u:=u9) (enc:=encWr) (l:=d.ws) tv0 rfl rfl Xt X0d Xz (M.bx o) a7 rfl ?_;intro bO aE;refine Ze (X01 (l:=[vi u9.a,vi u9.b,.bool u9.h]) rfl X16 aE rfl)<|Zf (Xo (zs:=[vi 0,vi 0,.bool false]) X2m rfl) ?_;rintro _ w3 ⟨bP,rfl,aB,J,D⟩;have aF:=Q0 o.size aB;have aT:=(M.bx o).away aB;have m:=m.bw J;have o:=btr o J;refine Za rfl<|Zo (Vw [vi u9.a,vi u9.b,.bool u9.h] X0d D) ?_;rintro _ w4 ⟨ho,hb⟩;have aU:=D;have m:=m.oz ho aU rfl;have o:=Below.oy o ho aF;have D:=hb;refine ZX aS fun a e _ aV=>?_;refine X0b (fun a w=>Fr a 80 [(1,(pZ9 b4)),(29,.slice Bd d.ws.length dd),(30,vi (d.ws.length:Int)),(31,vi (k:Int)),(65,.bool (!(inR u9.a 0 (u9.b-1))||decide ((md:Int)<=u9.b)||(decide (0<(k:Int))&&!(wlt (d.ws.getD (k-1) wZ) u9))))]/\Below w4.heap.size w4 w) ?_ ?_
  ·have Q:Below w4.heap.size w4 w4:=Below.refl _ _
   refine X00 none (fun _=>false) mixed ?_;intro w5 J;have m:=m.bw J;have D:=D.bw J;have o:=btr o J;have Q:=btr Q J;refine Yb e<|Yo 0 rfl (fun _=>Vd rfl X0r 0)<|Ye 1 rfl (X0 rfl X7 (D.at 0))<|Yo 2 rfl (fun _=>Vd rfl X0s 1)<|Ye 3 rfl (X0 rfl X7 (D.at 1))<|Yo 4 rfl (fun _=>X11 rfl rfl (by omega) (by omega))<|Y1 5 ?_;refine Yz rfl tv0 (Vc (F85 _ u9.a 0 (u9.b-1)) X6a) ?_;refine Yo 6 rfl (fun _=>X0y rfl)<|Yo 7 rfl (fun _=>X3 rfl) ?_
   refine Yl 43 rfl (fun f=>?_) (fun f=>?_)
   ·refine Yp 8 rfl (gP f) ?_;refine Yp 9 rfl (gP f) ?_;refine Yp 10 rfl (gP f) ?_;refine Yp 11 rfl (gP f) ?_;refine Yp 12 rfl (gP f) ?_;refine Yp 13 rfl (gP f) ?_;refine Yo 14 rfl (fun _=>X4 rfl f rfl)<|Yo 15 rfl (fun _=>X3 rfl)<|Yp 16 rfl (gP rfl) ?_;refine Yp 17 rfl (gP rfl) ?_;refine Yp 18 rfl (gP rfl) ?_;refine Yp 19 rfl (gP tv0) ?_;refine Yp 20 rfl (gP tv0) ?_;refine Yp 21 rfl (gP tv0) ?_;refine Yp 22 rfl (gP tv0) ?_;refine Yp 23 rfl (gP tv0) ?_;refine Yp 24 rfl (gP tv0) ?_;refine Yp 25 rfl (gP tv0) ?_;refine Y1 26<|Yq rfl ⟨_,_,rfl,rfl,trivial⟩ ?_;refine Yp 27 rfl (gP tv0) ?_;refine Yp 28 rfl (gP rfl) ?_;refine Yo 29 rfl (fun _=>X4 rfl rfl rfl) ?_;refine Yd fun a e=>?_
    have a6:Below w4.heap.size w4 w5:=Q
    exact ⟨e.sub ⟨rfl,rfl,rfl,rfl,X1 rfl (by simp [q,A,f]),trivial⟩,a6⟩
   refine Yu 8 rfl (gW f) (fun _=>Vd rfl X0s 1) ?_;refine Yv 9 rfl (gW f) (X0 rfl X7 (D.at 1)) ?_;refine Yu 10 rfl (gW f) (fun _=>Vd rfl Xg 1) ?_;refine Yv 11 rfl (gW f) (X0 rfl Xy (m.at 1)) ?_;refine Yu 12 rfl (gW f) (fun _=>X0c rfl Xl) ?_;refine Yu 13 rfl (gW f) (fun _=>X5g rfl rfl) ?_;refine Yo 14 rfl (fun _=>Xe rfl f rfl)<|Yo 15 rfl (fun _=>X3 rfl) ?_
   refine Yl 51 rfl (fun g=>?_) (fun g=>?_)
   ·refine Yp 16 rfl (gP g) ?_;refine Yp 17 rfl (gP g) ?_;refine Yp 18 rfl (gP g) ?_;refine Yp 19 rfl (gP tv0) ?_;refine Yp 20 rfl (gP tv0) ?_;refine Yp 21 rfl (gP tv0) ?_;refine Yp 22 rfl (gP tv0) ?_;refine Yp 23 rfl (gP tv0) ?_;refine Yp 24 rfl (gP tv0) ?_;refine Yp 25 rfl (gP tv0) ?_;refine Y1 26<|Yq rfl ⟨_,_,rfl,rfl,trivial⟩ ?_;refine Yp 27 rfl (gP tv0) ?_;refine Yp 28 rfl (gP g) ?_;refine Yo 29 rfl (fun _=>X4 rfl g rfl) ?_;refine Yd fun a e=>?_
    have a6:Below w4.heap.size w4 w5:=Q
    exact ⟨e.sub ⟨rfl,rfl,rfl,rfl,X1 rfl (by simp [q,A,f,g]),trivial⟩,a6⟩
   refine Yu 16 rfl (gW g) (fun _=>X3 rfl) ?_;refine Yu 17 rfl (gW g) (fun _=>X3h rfl rfl) ?_;refine Yu 18 rfl (gW g) (fun _=>X3 rfl) ?_
   refine Yl 54 rfl (fun c=>?_) (fun c=>?_)
   ·have bQ:0<k:=by have h8:=c;simpa using h8
    refine Yu 19 rfl (gW c) (fun _=>Vd rfl Xn 2) ?_;refine Yv 20 rfl (gW c) (X0 rfl X0g (m.at 2)) ?_;refine Yu 21 rfl (gW c) (fun _=>X3 rfl) ?_;refine Yu 22 rfl (gW c) (fun _=>X11 rfl rfl (by omega) (by omega)) ?_;refine Yi (k:=(k-1)) (u:=(d.ws.getD (k-1) wZ)) (enc:=encWr) (l:=d.ws) 23 rfl ⟨_,_,rfl,rfl,c⟩ rfl rfl Xt X0d Xz (M.bx o) (Xb (by omega)) (by omega) ?_;intro bR aG;refine Yv 24 rfl (gW c) (X01 (l:=[vi ((d.ws.getD (k-1) wZ).a),vi ((d.ws.getD (k-1) wZ).b),.bool ((d.ws.getD (k-1) wZ).h)]) rfl X16 aG rfl) ?_;refine Yv 25 rfl (gW c) (Vn X16 D) ?_;refine Y1 26<|Yk rfl ⟨_,_,rfl,rfl,c⟩ (Vc (Xs4 _ (d.ws.getD (k-1) wZ) u9) Xf9) (fun _ _ ⟨_,J⟩=>J) ?_;rintro _ w6 ⟨rfl,J⟩;have o:=btr o J;have Q:=btr Q J;refine Yu 27 rfl (gW c) (fun _=>X0y rfl) ?_;refine Yu 28 rfl (gW g) (fun _=>X4 rfl c rfl) ?_;refine Yo 29 rfl (fun _=>Xe rfl g rfl) ?_;refine Yd fun a e=>?_
    have a6:Below w4.heap.size w4 w6:=Q
    exact ⟨e.sub ⟨rfl,rfl,rfl,rfl,X1 rfl (by first|rfl|(simp only [q,A,f,g,c,bs];done)|simp [q,A,f,g,c]),trivial⟩,a6⟩
   refine Yp 19 rfl (gP c) ?_;refine Yp 20 rfl (gP c) ?_;refine Yp 21 rfl (gP c) ?_;refine Yp 22 rfl (gP c) ?_;refine Yp 23 rfl (gP c) ?_;refine Yp 24 rfl (gP c) ?_;refine Yp 25 rfl (gP c) ?_;refine Y1 26<|Yq rfl ⟨_,_,rfl,rfl,c⟩ ?_;refine Yp 27 rfl (gP c) ?_;refine Yu 28 rfl (gW g) (fun _=>Xe rfl c rfl) ?_;refine Yo 29 rfl (fun _=>Xe rfl g rfl) ?_;refine Yd fun a e=>?_
   have a6:Below w4.heap.size w4 w5:=Q
   exact ⟨e.sub ⟨rfl,rfl,rfl,rfl,X1 rfl (by first|rfl|(simp only [q,A,f,g,c,bs];done)|simp [q,A,f,g,c]),trivial⟩,a6⟩
  rintro a w7 ⟨e,J⟩;have m:=m.bw J;have o:=btr o J;refine aV _ _ ?_
  refine Xi e rfl (fun U=>?_) (fun U=>?_)
  ·have aH:=U
   have I:goodD d=false:=Xuq bE (by rw [aD,U];rfl)
   refine Zs e fun _ aW=>?_;refine Za rfl<|Zt aW fun a e=>?_;refine Q6<|X02<|Xa<|Xa ?_;refine X02<|Xa<|X6 e (Xu e rfl rfl) ?_;exact ⟨by rw [I],o⟩
  have aH:=U
  have aI:wrQ d k=true:=by rw [aD,U];rfl
  refine Q7<|Xc<|aR _ _<|Zr e ?_;refine Ze (Xm rfl rfl (by omega) (by omega))<|Zm rfl ?_;refine Zn fun a e=>?_;refine Xd ?_;exact ⟨k+1,⟨e.sb,(by omega),(fun i hi=>by by_cases h9:i=k;rw [h9];exact aI;exact aA i (by omega)),m,H,o⟩,(by omega)⟩
 have A:=C;have C:=Q1 C
 have aJ:∀ i,i<d.ws.length->wrQ d i=true:=fun i hi=>aA i (by have:=C;omega)
 refine Q9<|Xk<|Xk<|X03 ?_;refine aN _ _<|Q5 fun _ aX=>?_;refine Zs e fun _ aY=>?_;refine Ze (Vd rfl Xg 1)<|Ze (X0 rfl Xy (m.at 1))<|Ze (X0c rfl Xl)<|Zm rfl<|Zt aY fun a e=>?_;refine Q8<|X04 (σ:=Nat) (fun (j:Nat) (a:Act) (w:World)=>Fr a 80 [(1,(pZ9 b4)),(69,vi (md:Int)),(70,vi (j:Int))]/\(j<=d.ns.length)/\(∀ i:Nat,i<j->ndQ d (i:Int)=true)/\Blk w b4 39 [vi d.n,.slice Ad md cd,.slice Bd d.ws.length dd,vi d.t,vi d.r]/\d.ws.length<=dd/\Below w0.heap.size w0 w) (fun (j:Nat)=>d.ns.length-j) 0 ?_ ?_
 ·exact ⟨e.sb,(Qf _),(fun i hi=>by omega),m,H,o⟩
 rintro j a w8 ⟨e,hj,aC,m,H,o⟩;refine Zs e fun _ aZ=>?_;refine Ze (X0q rfl rfl)<|ZX aZ fun a e _ b0=>?_
 refine Xi e rfl (fun E=>?_) (fun E=>?_)
 ·have aK:=E;have E:=Q2 E
  have bF:j<d.ns.length:=by have:=E;omega
  refine Q7<|b0 _ _<|Q5 fun _ b1=>?_;refine Q8<|Zs e fun _ b2=>?_;refine Zm rfl<|Za rfl<|Zx b2 fun a e _ b3=>?_;refine Ze (Vn X2 m)<|Zm rfl<|Zf (Vc (Y06 _ d md L Ad cd (a8.bx o).top Bd dd (M.bx o).top H (j:Int) ⟨by omega,by omega⟩ (by omega) ⟨by omega,by omega⟩) Xqn) ?_;rintro _ w9 ⟨rfl,J⟩;have m:=m.bw J;have o:=btr o J;refine Ze (X0y rfl)<|Zt b3 fun a e=>?_
  refine Xi e rfl (fun W=>?_) (fun W=>?_)
  ·have aL:=W
   have I:goodD d=false:=Xun bF (by have h8:=W;simpa using h8)
   refine Zs e fun _ b5=>?_;refine Za rfl<|Zt b5 fun a e=>?_;refine Q6<|X02<|Xa<|Xa ?_;refine X02<|Xa<|X6 e (Xu e rfl rfl) ?_;exact ⟨by rw [I],o⟩
  have aL:=W
  have aI:ndQ d (j:Int)=true:=by have h8:=W;simpa using h8
  refine Q7<|Xc<|b1 _ _<|Zr e ?_;refine Ze (Xm rfl rfl (by omega) (by omega))<|Zm rfl ?_;refine Zn fun a e=>?_;refine Xd ?_;exact ⟨j+1,⟨e.sb,(by omega),(fun i hi=>by by_cases h9:i=j;rw [h9];exact aI;exact aC i (by omega)),m,H,o⟩,(by omega)⟩
 have aK:=E;have E:=Q1 E
 have I:goodD d=endQ d:=Xx2 bC aJ fun i hi=>aC i (by have:=E;omega)
 refine Q9<|Xk<|Xk<|X03 ?_;refine aX _ _<|Zs e fun _ b6=>?_;refine Ze (Vn X2 m)<|Zf (Vc (Y0a _ d md L Ad cd (a8.bx o).top Bd dd (M.bx o).top H (by omega) ⟨by omega,by omega⟩) Xpa) ?_;rintro _ bS ⟨rfl,J⟩;have o:=btr o J;refine Za rfl<|Zt b6 fun a e=>?_
 refine Q6 (X6 e (Xu e rfl rfl) ?_)
 exact ⟨by rw [I],o⟩
def RgW(N:Nat)(ws:List Wr) : Prop:=∀ x ∈ ws,(0<=x.a/\x.a<N)/\(0<=x.b/\x.b<N)
def spN(ns:List Nd) : Nat:=(ns.filter fun x=>x.k==3).length
theorem X9j{N:Nat}{ws:List Wr}{a b:Int}{h:Bool}(hw:RgW N ws)(ha:0<=a/\a<N)(hb:0<=b/\b<N) : RgW N (jnW ws a b h):=fun x hx=>by
 rcases X49.1 hx with rfl|hx
 ·dsimp only;omega
 ·exact hw x hx
theorem Xd6{N:Nat}{ws:List Wr}(hw:RgW N ws)(i:Nat) : RgW N (ctW ws i):=fun x hx=>hw x ((X3u ws i).subset hx)
theorem Xzx{N:Nat}{ws:List Wr}(hw:RgW N ws)(k:Int) : RgW N (dpW ws k):=fun x hx=>hw x (List.mem_filter.1 hx).1
theorem X8h:∀ (ns:List Nd) (k:Nat) (x:Nd),k<ns.length->spN (ns.set k x)+(if (ns.getD k nZ).k=3 then 1 else 0)=spN ns+(if x.k=3 then 1 else 0)
 | [],_,_,h=>by simp at h
 | y::ns,0,x,_=>by
  unfold spN
  simp only [List.set_cons_zero,List.filter_cons,List.getD_cons_zero,beq_iff_eq]
  split<;>split<;>simp
 | y::ns,k+1,x,h=>by
  have ih:=X8h ns k x (by simpa using h)
  unfold spN at ih ⊢
  simp only [List.set_cons_succ,List.filter_cons,List.getD_cons_succ,beq_iff_eq]
  split<;>(try simp only [Qs])<;>omega
theorem Xn8(ns:List Nd)(x m:Int) : spN (adN ns x m)=spN ns:=by
 by_cases h:x.toNat<ns.length
 ·have h1:=X8h ns x.toNat { ns.getD x.toNat nZ with p:=((ns.getD x.toNat nZ).p+m) % 8 } h
  unfold adN
  dsimp only at h1 ⊢
  omega
 ·unfold adN
  rw [List.set_eq_of_length_le (by omega)]
theorem Xw3{ns:List Nd}(k:Int) : spN (dpN ns k)<=spN ns:=by
 by_cases h:k.toNat<ns.length
 ·have h1:=X8h ns k.toNat nZ h
  have h2:(if nZ.k=3 then 1 else 0:Nat)=0:=rfl
  rw [h2] at h1
  unfold dpN
  omega
 ·unfold dpN
  rw [List.set_eq_of_length_le (by omega)]
  exact Qb _
theorem Xgh{ns:List Nd}{k:Int}(hs:spI ns k=true) : spN (dpN ns k)<spN ns:=by
 obtain ⟨_,h,h3⟩:=X0f hs;have h1:=X8h ns k.toNat nZ h
 have h2:(if nZ.k=3 then 1 else 0:Nat)=0:=rfl
 rw [h2,Q4 h3] at h1
 unfold dpN
 omega
structure Nx (N s c:Nat) (d:Dg) : Prop where
 l:d.ns.length=N
 w:RgW N d.ws
 c:d.ws.length<=c
 s:spN d.ns<=s
theorem Nx.mono{N s c s' c':Nat}{d:Dg}(h:Nx N s c d)(hs:s<=s')(hc:c<=c') : Nx N s' c' d:=⟨h.l,h.w,Q0 h.c hc,Q0 h.s hs⟩
theorem Nx.jn{N s c:Nat}{d:Dg}(h:Nx N s c d){a b:Int}{x:Bool}(ha:0<=a/\a<N)(hb:0<=b/\b<N) : Nx N s (c+1) { d with ws:=jnW d.ws a b x }:=
 ⟨h.l,X9j h.w ha hb,by have:=h.c;dsimp only;rw [X3w];omega,h.s⟩
theorem Nx.ad{N s c:Nat}{d:Dg}(h:Nx N s c d)(x m:Int) : Nx N s c { d with ns:=adN d.ns x m }:=⟨(X1u _ _ _).trans h.l,h.w,h.c,by dsimp only;rw [Xn8];exact h.s⟩
theorem Nx.dp{N s c:Nat}{d:Dg}(h:Nx N s c d)(k:Int) : Nx N s c (id0 d k):=⟨(X1l _ _).trans h.l,Xzx h.w k,Q0 (X2i _ _) h.c,Q0 (Xw3 k) h.s⟩
theorem Nx.lk{N s c:Nat}{d:Dg}(h:Nx N s c d){a b:Int}{x:Bool}(ha:0<=a/\a<N)(hb:0<=b/\b<N) : Nx N s (c+1) (lkD d a b x):=by
 have h1:=Xle d a b x
 refine ⟨h1.1.trans h.l,?_,Q0 h1.2 (Nat.succ_le_succ h.c),?_⟩
 ·unfold lkD
  split
  ·exact X9j h.w ha hb
  ·split
   ·exact Xd6 h.w _
   ·split
    ·exact X9j (Xd6 h.w _) ha hb
    ·exact h.w
 ·unfold lkD
  split
  ·exact h.s
  ·split
   ·exact h.s
   ·split
    ·dsimp only;rw [Xn8];exact h.s
    ·exact h.s
theorem Nx.mt{N s c:Nat}{d:Dg}(h:Nx N s c d){a b:Int}{x:Bool}(ha:0<=a/\a<N)(hb:0<=b/\b<N) : Nx N s (c+1) (mtD d a b x):=by
 unfold mtD
 split
 ·exact h.lk ha hb
 ·exact h.jn ha hb
theorem Nx.tg{N s c:Nat}{d:Dg}(h:Nx N s c d){a b:Int}(ha:0<=a/\a<N)(hb:0<=b/\b<N) : Nx N s (c+1) (tgD d a b):=by
 have h1:=X2c d a b
 refine ⟨by rw [h1.1];exact h.l,?_,Q0 h1.2 (Nat.succ_le_succ h.c),by rw [h1.1];exact h.s⟩
 unfold tgD
 split
 ·exact Xd6 h.w _
 ·exact X9j h.w ha hb
theorem Nx.tgl{N s:Nat}{x:Int}(hx:0<=x/\x<N) : ∀ (l:List Int) (c:Nat) (d:Dg),Nx N s c d->(∀ y ∈ l,0<=y/\y<(N:Int))->Nx N s (c+l.length) (tgL d x l)
 | [],c,d,h,_=>h
 | y::l,c,d,h,hl=>by
  have h1:=Nx.tgl hx l (c+1) (tgD d x y) (h.tg hx (hl y (by simp))) fun z hz=>hl z (by simp [hz])
  exact h1.mono (Qb _) (by rw [Qs];omega)
theorem X5w{l:List Int}{N:Nat}(hl:∀ y ∈ l,0<=y/\y<(N:Int)){i:Nat}(hi:i<l.length) : 0<=l.getD i 0/\l.getD i 0<(N:Int):=hl _ (Qe (Xb (d:=0) hi))
theorem Nx.lc{N s c:Nat}{p:Int}{l:List Int}{o:Dg}(h:Nx N s c o)(hl:∀ y ∈ l,0<=y/\y<(N:Int)) : ∀ i,i<=l.length->Nx N s (c+i*l.length) (lcS p l o i)
 | 0,_=>h.mono (Qb _) (by omega)
 | i+1,hi=>by
  have ih:=Nx.lc (p:=p) h hl i (by omega)
  have h1:=Nx.tgl (X5w hl (i:=i) (by omega)) (l.take i) _ _ (ih.ad (l.getD i 0) (8-p)) fun y hy=>hl y (Wd hy)
  refine h1.mono (Qb _) ?_
  rw [Qn,Wb,Nat.one_mul]
  omega
theorem Nx.fu{N s:Nat}{d:Dg}{a b:Int}(ha:0<=a/\a<N) : ∀ (l:List Int) (c:Nat) (o:Dg),Nx N s c o->(∀ y ∈ l,0<=y/\y<(N:Int))->Nx N s (c+l.length) (fuS d a b l o)
 | [],c,o,h,_=>h
 | y::l,c,o,h,hl=>by
  have h0:Nx N s (c+1) (fuT d a b o y):=by
   unfold fuT
   split
   ·exact h.mono (Qb _) (by omega)
   ·exact h.mt ha (hl y (by simp))
  exact (Nx.fu ha l (c+1) (fuT d a b o y) h0 fun z hz=>hl z (by simp [hz])).mono (Qb _) (by rw [Qs];omega)
theorem Nx.st{N s c:Nat}{d:Dg}(h:Nx N s c d)(q:Bool)(x m:Int) : Nx N s c (stN q d x m):=by
 unfold stN
 split
 ·exact h.ad x m
 ·exact h
theorem Nx.pf{N s:Nat}{l m:List Int}{x:Int}(hx:0<=x/\x<N) : ∀ (r:List Int) (c:Nat) (o:Dg),Nx N s c o->(∀ y ∈ r,0<=y/\y<(N:Int))->Nx N s (c+r.length) (pvF l m x r o)
 | [],c,o,h,_=>h
 | y::r,c,o,h,hl=>by
  have h0:Nx N s (c+1) (pvT l m x o y):=by
   unfold pvT
   split
   ·exact h.tg hx (hl y (by simp))
   ·exact h.mono (Qb _) (by omega)
  exact (Nx.pf hx r (c+1) (pvT l m x o y) h0 fun z hz=>hl z (by simp [hz])).mono (Qb _) (by rw [Qs];omega)
theorem Nx.pm{N s c:Nat}{e f:Int}{l m r:List Int}{o:Dg}(h:Nx N s c o)(hl:∀ y ∈ r,0<=y/\y<(N:Int)) : ∀ i,i<=r.length->Nx N s (c+i*r.length) (pvM e f l m r o i)
 | 0,_=>h.mono (Qb _) (by omega)
 | i+1,hi=>by
  have ih:=Nx.pm (e:=e) (f:=f) (l:=l) (m:=m) h hl i (by omega)
  have hg:=X5w hl (i:=i) (by omega)
  have h1:=Nx.pf (l:=l) (m:=m) hg (r.take i) _ _ (((ih.st (l.any fun v=>v==r.getD i 0) (r.getD i 0) f).st (m.any fun v=>v==r.getD i 0) (r.getD i 0) e).st ((l.any fun v=>v==r.getD i 0)&&(m.any fun v=>v==r.getD i 0)) (r.getD i 0) 4) fun y hy=>hl y (Wd hy)
  refine h1.mono (Qb _) ?_
  rw [Qn,Wb,Nat.one_mul]
  omega
theorem InD.rg{d:Dg}(h:InD d) : RgW d.ns.length d.ws:=fun x hx=>by
 have e:=h.e x hx
 have l:=h.w.l x hx
 omega
theorem InD.nx{d:Dg}(h:InD d) : Nx d.ns.length (spN d.ns) 1000001 d:=⟨rfl,h.rg,h.len,Qb _⟩
theorem nx0{d:Dg}(h:InD d){k:Int}(hs:spI d.ns k=true) : Nx d.ns.length (spN d.ns-1) 1000001 (id0 d k):=by
 have h1:=h.nx.dp k
 have h2:spN (dpN d.ns k)<spN d.ns:=Xgh hs
 exact ⟨h1.l,h1.w,h1.c,by show spN (dpN d.ns k)<=_;omega⟩
theorem X6x{ns:List Nd}{k:Int}(hs:spI ns k=true) : 0<spN ns:=by
 have:=Xgh hs
 omega
theorem X8l{d:Dg}(h:InD d)(k:Int) : ∀ y ∈ nearW d.ws k,0<=y/\y<(d.ns.length:Int):=fun y hy=>by have:=X1y h hy;omega
theorem Xtl{a n:Nat}(h:a<=2000)(h2:n<=2000) : a*n<=4000000:=Q0 (Nat.mul_le_mul h h2) (by decide)
theorem Xwd{N s c:Nat}{d:Dg}(h:Nx N s c d)(t r:Int) : Nx N s c { d with t:=t,r:=r }:=⟨h.l,h.w,h.c,h.s⟩
theorem Xl8{d:Dg}(h:InD d){r:Rz}(hc:doC d r=true) : Nx d.ns.length (spN d.ns-1) 9000000 (doD d r)/\0<spN d.ns:=by
 unfold doC at hc
 unfold doD
 split at hc
 ·rename_i h1
  rw [Q4 h1]
  have hs:=X8t hc
  unfold fuC at hc
  simp only [Qd] at hc
  refine ⟨?_,X6x hc.1.1.2⟩
  have h0:=(nx0 h hc.1.1.2).ad r.a (d.ns.getD r.b.toNat nZ).p;exact (Nx.fu (d:=d) (a:=r.a) (b:=r.b) ⟨hs.1.1,by omega⟩ (nearW d.ws r.b) _ _ h0 (X8l h r.b)).mono (Qb _) (by have:=X43 h r.b;have:=h.m;omega)
 rename_i h1
 rw [Q3 h1]
 split at hc
 ·rename_i h2
  rw [Q4 h2]
  unfold pvC at hc
  simp only [Qd] at hc
  have hsa:=hc.1.1.1.1.1.1.1.1
  refine ⟨?_,X6x hsa⟩
  have h0:=(nx0 h hsa).dp r.b;have h3:=Xbk h r.a r.b;have h4:=h.m
  unfold pvD
  refine Xwd ?_ _ _
  refine (Nx.pm h0 ?_ _ (Qb _)).mono (Qb _) (by have:=Xtl (a:=(pvL d r.a r.b).length) (n:=(pvL d r.a r.b).length) (by omega) (by omega);omega)
  intro y hy;obtain ⟨i,hi⟩:=List.mem_iff_getElem?.1 hy
  have:=Xc3 h hi
  omega
 rename_i h2
 rw [Q3 h2]
 split at hc
 ·cases hc
 split at hc
 ·rename_i h3
  rw [Q4 h3]
  unfold idC at hc
  simp only [Qd,beq_iff_eq] at hc
  refine ⟨?_,X6x hc.1.1⟩
  have g0:=X5w (X8l h r.a) (i:=0) (by omega)
  have g1:=X5w (X8l h r.a) (i:=1) (by omega)
  exact ((nx0 h hc.1.1).mt g0 g1).mono (Qb _) (by omega)
 rename_i h3
 rw [Q3 h3]
 split at hc
 ·rename_i h4
  rw [Q4 h4]
  unfold lcC at hc
  simp only [Qd] at hc
  have hsa:=hc.1.1.1
  refine ⟨?_,X6x hsa⟩
  have h5:=X43 h r.a;have h6:=h.m
  unfold lcD
  refine Xwd ?_ _ _
  exact (Nx.lc (nx0 h hsa) (X8l h r.a) _ (Qb _)).mono (Qb _) (by have:=Xtl (a:=(nearW d.ws r.a).length) (n:=(nearW d.ws r.a).length) (by omega) (by omega);omega)
 rename_i h4
 rw [Q3 h4]
 split at hc
 ·unfold loC at hc
  simp only [Qd] at hc
  refine ⟨?_,X6x hc.1.1⟩
  exact (Xwd (nx0 h hc.1.1) d.t _).mono (Qb _) (by omega)
 ·cases hc
def zD:Dg:=⟨0,[],[],0,0⟩
def outD(d:Dg) : Dg:={ d with t:=d.t.tmod 8 }
def apC(d:Dg)(r:Rz) : Bool:=doC d r&&goodD (outD (doD d r))
def apD(d:Dg)(r:Rz) : Dg:=outD (doD d r)
theorem Xag:∀ (l:List Wr),(∀ i,i+1<l.length->wlt (l.getD i wZ) (l.getD (i+1) wZ)=true)->WSd l
 | [],_=>List.Pairwise.nil
 | [x],_=>by simp
 | x::y::l,h=>by
  have h0:=h 0 (by simp)
  have ih:=Xag (y::l) fun i hi=>by
   have:=h (i+1) (by simpa using hi)
   simpa using this
  have h2:=W8.1 ih
  refine W8.2 ⟨fun z hz=>?_,ih⟩
  rcases Qv.1 hz with rfl|hz
  ·simpa using h0
  ·exact Xem (by simpa using h0) (h2.1 z hz)
theorem X3c{d:Dg}(h:goodD d=true) : hdQ d=true/\(∀ i,i<d.ws.length->wrQ d i=true)/\(∀ i:Nat,i<d.ns.length->ndQ d (i:Int)=true)/\endQ d=true:=by
 unfold goodD at h
 simp only [Qd,W1,W2] at h
 exact ⟨h.1.1.1,h.1.1.2,h.1.2,h.2⟩
theorem X18{d:Dg}(h:goodD d=true) : (1<=d.n/\d.n<=5)/\d.ns.length<=40/\(0<=d.t/\d.t<=7)/\-60<=d.r/\d.r<=60:=by
 have h1:=(X3c h).1
 unfold hdQ at h1
 exact (Xnd (by simpa using h1)).2
theorem Xg5{d:Dg}(h:goodD d=true){i:Nat}{x:Nd}(hx:d.ns[i]? = some x) : (0<=x.k/\x.k<=3)/\(0<=x.p/\x.p<=7):=by
 have h1:=(X3c h).2.2.1 i (Qg.1 hx).1;have h2:=X18 h
 have hg:d.ns.getD ((i:Int)).toNat nZ=x:=by rw [Qj,Qa,hx];rfl
 unfold ndQ at h1
 rw [hg] at h1
 split at h1
 ·rename_i hk
  simp only [Qd,beq_iff_eq] at h1 hk
  omega
 split at h1
 ·rename_i hk
  simp only [Qd,Bool.or_eq_true,beq_iff_eq,X0x] at h1 hk
  omega
 ·simp only [Qd,beq_iff_eq,X0x] at h1
  omega
theorem Xbi{d:Dg}(h:goodD d=true){i:Nat}{x:Wr}(hx:d.ws[i]? = some x) : 0<=x.a/\x.a<x.b/\x.b<d.ns.length/\(0<i->wlt (d.ws.getD (i-1) wZ) x=true):=by
 have h1:=(X3c h).2.1 i (Qg.1 hx).1
 rw [Xmb hx] at h1
 simp only [Bool.not_eq_true',Bool.or_eq_false_iff,Bool.not_eq_false',X0x,decide_eq_false_iff_not,Bool.and_eq_false_iff] at h1
 refine ⟨by omega,by omega,by omega,fun h0=>?_⟩
 rcases h1.2 with h3|h3
 ·omega
 ·exact h3
theorem X0t{d:Dg}(h:goodD d=true) : InD d:=by
 refine ⟨⟨Xag _ fun i hi=>?_,fun x hx=>?_⟩,fun x hx=>?_,fun x hx=>?_,by have:=X18 h;omega⟩
 ·have:=(Xbi h (Xb (d:=wZ) hi)).2.2.2 (by omega)
  simpa using this
 ·obtain ⟨i,hi⟩:=List.mem_iff_getElem?.1 hx;exact (Xbi h hi).2.1
 ·obtain ⟨i,hi⟩:=List.mem_iff_getElem?.1 hx
  have:=Xbi h hi
  omega
 ·obtain ⟨i,hi⟩:=List.mem_iff_getElem?.1 hx;exact (Xg5 h hi).2
theorem Xaa{d:Dg}{r:Rz}(h:apC d r=true) : goodD (apD d r)=true:=by
 unfold apC at h
 simp only [Qd] at h
 exact h.2
theorem Y30{d:Dg}(hd:InD d){r:Rz}(h:apC d r=true) : spN (apD d r).ns<spN d.ns:=by
 unfold apC at h
 simp only [Qd] at h
 have h1:=Xl8 hd h.1;have h2:=h1.1.s
 show spN (doD d r).ns<_
 omega
theorem Xtf{d:Dg}{r:Rz}(h1:doC d r=false) : apC d r=false:=by unfold apC;rw [h1];rfl
theorem Xms{N:Nat}{ws:List Wr}(h:RgW N ws)(hN:N<=1000) : ∀ x ∈ ws,-1000000<=x.b/\x.b<=1000000:=fun x hx=>by have:=h x hx;omega
def alR(d:Dg)(u:Int)(a j:Nat) : List Rz:=((List.range j).map fun (b:Nat)=>(⟨u,a,b⟩ : Rz)).filter (apC d)
def alS(d:Dg)(u:Int)(k:Nat) : List Rz:=(List.range k).flatMap fun a=>alR d u a d.ns.length
def alL(d:Dg)(u:Int) : List Rz:=alS d u d.ns.length
theorem Y18{d:Dg}{u:Int}{a j:Nat}(h:apC d ⟨u,a,j⟩=true) : alR d u a (j+1)=alR d u a j++[⟨u,a,j⟩]:=by
 unfold alR
 rw [List.range_succ,List.map_append,List.filter_append]
 simp [h]
theorem Xy6{d:Dg}{u:Int}{a j:Nat}(h:apC d ⟨u,a,j⟩=false) : alR d u a (j+1)=alR d u a j:=by
 unfold alR
 rw [List.range_succ,List.map_append,List.filter_append]
 simp [h]
theorem Xsh(d:Dg)(u:Int)(k:Nat) : alS d u (k+1)=alS d u k++alR d u k d.ns.length:=by
 unfold alS
 rw [List.range_succ,List.flatMap_append]
 simp
theorem Xhh(d:Dg)(u:Int)(a j:Nat) : (alR d u a j).length<=j:=by
 unfold alR
 exact Q0 (List.length_filter_le _ _) (by simp)
theorem Xfg(d:Dg)(u:Int) : ∀ k,(alS d u k).length<=k*d.ns.length
 | 0=>by simp [alS]
 | k+1=>by
  rw [Xsh,Qh,Wb,Nat.one_mul]
  have h1:=Xfg d u k;have h2:=Xhh d u k d.ns.length
  omega
def rwZ:Rz:=⟨0,0,0⟩
def spK(ns:List Nd)(k:Nat) : List Int:=((List.range k).filter fun i=>(ns.getD i nZ).k==3).map fun (i:Nat)=>(i:Int)
def spL(ns:List Nd) : List Int:=spK ns ns.length
theorem Xtm{ns:List Nd}{k:Nat}{x:Nd}(hx:ns[k]? = some x)(h:(x.k==3)=true) : spK ns (k+1)=spK ns k++[(k:Int)]:=by
 have e:ns.getD k nZ=x:=by rw [Qa,hx];rfl
 unfold spK
 rw [List.range_succ,List.filter_append]
 simp only [List.filter_cons,e,h,List.filter_nil,if_true,List.map_append,List.map_cons,List.map_nil]
theorem Xsq{ns:List Nd}{k:Nat}{x:Nd}(hx:ns[k]? = some x)(h:(x.k==3)=false) : spK ns (k+1)=spK ns k:=by
 have e:ns.getD k nZ=x:=by rw [Qa,hx];rfl
 unfold spK
 rw [List.range_succ,List.filter_append]
 simp only [List.filter_cons,e,h,List.filter_nil,List.append_nil,Bool.false_eq_true,if_false]
theorem X4u(ns:List Nd)(k:Nat) : (spK ns k).length<=k:=by
 unfold spK
 rw [Qo]
 exact Q0 (List.length_filter_le _ _) (by simp)
theorem Xsg(k:World)(d:Dg)(md:Nat)(m:md=d.ns.length)(Ad:Option Addr)(cd:Nat)(o:Rd k k.heap.size 81 encNd Ad d.ns)(Bd:Option Addr)(dd:Nat)(p:Rd k k.heap.size 83 encWr Bd d.ws)(q:d.ws.length<=dd)(aD:d.ws.length<=1000000000)(aE:∀ x ∈ d.ws,-1000000<=x.b/\x.b<=1000000) : Ret Tryz.prog 80 [.agg #[vi d.n,.slice Ad md cd,.slice Bd d.ws.length dd,vi d.t,vi d.r]] k (fun v w=>∃ A c1 B e,v=.tuple #[.agg #[vi (if (goodD (outD d))=true then outD d else zD).n,.slice A (if (goodD (outD d))=true then outD d else zD).ns.length c1,.slice B (if (goodD (outD d))=true then outD d else zD).ws.length e,vi (if (goodD (outD d))=true then outD d else zD).t,vi (if (goodD (outD d))=true then outD d else zD).r],.bool (goodD (outD d))]/\Rd w w.heap.size 81 encNd A (if (goodD (outD d))=true then outD d else zD).ns/\Rd w w.heap.size 83 encWr B (if (goodD (outD d))=true then outD d else zD).ws/\(if (goodD (outD d))=true then outD d else zD).ws.length<=e/\Below k.heap.size k w):=by
 refine enter Tryz.func80 rfl 13 rfl rfl ?_;intro a j
 have g:=bz k
 refine Zs j fun _ aF=>?_;refine Zf (X0n (zs:=[vi d.n,.slice Ad md cd,.slice Bd d.ws.length dd,vi d.t,vi d.r]) rfl rfl) ?_;rintro _ w1 ⟨b4,rfl,aG,u,f⟩;have a7:=Q0 g.size aG;have g:=btr g u;refine Zf (Xo (zs:=[vi 0,.slice none 0 0,.slice none 0 0,vi 0,vi 0]) X0o rfl) ?_;rintro _ w2 ⟨b7,rfl,aH,u,c⟩
 have aC:b4≠b7:=by have:=f.lt;omega
 have h:=Q0 g.size aH;have f:=f.bw u;have g:=btr g u;refine Za rfl<|Zx aF fun a j _ aI=>?_;refine Ze (Vd rfl X0u 3)<|Ze (X0 rfl X7 (f.at 3))<|Ze (X33 rfl rfl rfl)<|Ze (Vd rfl X0u 3)<|Zo (Vu (vs:=[vi (d.t.tmod 8)]) (l':=[vi d.n,.slice Ad md cd,.slice Bd d.ws.length dd,vi (d.t.tmod 8),vi d.r]) rfl rfl X09 f) ?_;rintro _ w3 ⟨ho,hb⟩;have C:=f;have c:=c.oy ho (by omega);have g:=Below.oy g ho a7;have f:=hb;refine ZX aI fun a j _ aJ=>?_;refine Zs j fun _ a8=>?_;refine Ze (Vn X2 f)<|Zf (Vc (Xed _ (⟨d.n,d.ns,d.ws,d.t.tmod 8,d.r⟩ : Dg) md m Ad cd (o.bx g).top Bd dd (p.bx g).top q aD aE) X7n) ?_;rintro _ w4 ⟨rfl,u⟩;have f:=f.bw u;have c:=c.bw u;have g:=btr g u;refine Ze (X0y rfl)<|Zt a8 fun a j=>?_
 refine Xi j rfl (fun i=>?_) (fun i=>?_)
 ·have a6:=i
  have aK:goodD (outD d)=false:=by have h8:(!goodD (outD d))=true:=i;simpa using h8
  refine Zs j fun _ aA=>?_;refine Ze (X0e (ps:=[]) (cs:=[vi 0,.slice none 0 0,.slice none 0 0,vi 0,vi 0]) rfl (fun _=>by first|rfl|kernel_rfl))<|Zo (Vw [vi 0,.slice none 0 0,.slice none 0 0,vi 0,vi 0] Xf c) ?_;rintro _ w5 ⟨ho,hb⟩;have C:=c;have g:=Below.oy g ho h;have c:=hb;refine Za rfl<|Zt aA fun a j=>?_;refine Q6<|Xa<|X6 j (X19 j rfl (ResV.cellN (l:=[vi 0,.slice none 0 0,.slice none 0 0,vi 0,vi 0]) rfl X2 (c.at 0) rfl) rfl) ?_
  rw [aK,Q3 Bool.false_ne_true]
  exact ⟨none,0,none,0,rfl,(Rd.nil _ _ _ _ _),(Rd.nil _ _ _ _ _),(Qf _),g⟩
 have a6:=i
 have aL:goodD (outD d)=true:=by have h8:(!goodD (outD d))=false:=i;simpa using h8
 refine Q7<|aJ _ _<|Zs j fun _ aB=>?_;refine Ze (Vn X2 f)<|Zo (Vw [vi d.n,.slice Ad md cd,.slice Bd d.ws.length dd,vi (d.t.tmod 8),vi d.r] Xf c) ?_;rintro _ w6 ⟨ho,hb⟩;have C:=c;have g:=Below.oy g ho h;have c:=hb;refine Za rfl<|Zt aB fun a j=>?_
 refine Q6 (X6 j (X19 j rfl (ResV.cellN (l:=[vi d.n,.slice Ad md cd,.slice Bd d.ws.length dd,vi (d.t.tmod 8),vi d.r]) rfl X2 (c.at 0) rfl) rfl) ?_)
 rw [aL,Q4 rfl]
 subst m
 exact ⟨Ad,cd,Bd,dd,rfl,(o.bx g).top,(p.bx g).top,q,g⟩
theorem Xk9(W:World)(d:Dg)(md:Nat)(aD:md=d.ns.length)(Ad:Option Addr)(cd:Nat)(aE:Rd W W.heap.size 81 encNd Ad d.ns)(Bd:Option Addr)(dd:Nat)(aF:Rd W W.heap.size 83 encWr Bd d.ws)(aG:d.ws.length<=dd)(x:Rz)(hD:InD d) : Ret Tryz.prog 68 [.agg #[vi d.n,.slice Ad md cd,.slice Bd d.ws.length dd,vi d.t,vi d.r],.agg #[vi x.u,vi x.a,vi x.b]] W (fun v w=>∃ A c1 B e,v=.tuple #[.agg #[vi (if (apC d x)=true then apD d x else zD).n,.slice A (if (apC d x)=true then apD d x else zD).ns.length c1,.slice B (if (apC d x)=true then apD d x else zD).ws.length e,vi (if (apC d x)=true then apD d x else zD).t,vi (if (apC d x)=true then apD d x else zD).r],.bool (apC d x)]/\Rd w w.heap.size 81 encNd A (if (apC d x)=true then apD d x else zD).ns/\Rd w w.heap.size 83 encWr B (if (apC d x)=true then apD d x else zD).ws/\(if (apC d x)=true then apD d x else zD).ws.length<=e/\Below W.heap.size W w):=by
 refine enter Tryz.func68 rfl 21 rfl rfl ?_;intro a h
 have g:=bz W
 refine Zs h fun _ aT=>?_;refine Zf (X0n (zs:=[vi d.n,.slice Ad md cd,.slice Bd d.ws.length dd,vi d.t,vi d.r]) rfl rfl) ?_;rintro _ w1 ⟨b4,rfl,aU,i,k⟩;have aZ:=Q0 g.size aU;have g:=btr g i;refine Zf (X0n (zs:=[vi x.u,vi x.a,vi x.b]) rfl rfl) ?_;rintro _ w2 ⟨b5,rfl,aV,i,a7⟩;have b0:=Q0 g.size aV;have k:=k.bw i;have g:=btr g i;refine Zf (Xo (zs:=[vi 0,.slice none 0 0,.slice none 0 0,vi 0,vi 0]) X0o rfl) ?_;rintro _ w3 ⟨b8,rfl,aW,i,f⟩
 have aS:b4≠b8:=by have:=k.lt;omega
 have a6:=Q0 g.size aW;have k:=k.bw i;have a7:=a7.bw i;have g:=btr g i;refine Za rfl<|Zx aT fun a h _ aX=>?_;refine Ze (Vn X2 k)<|Ze (Vn X1q a7)<|Zf (Vc (Xyw _ d md aD Ad cd (aE.bx g).top Bd dd (aF.bx g).top aG x hD) Xpj) ?_;rintro _ w4 ⟨M,N,Q,U,rfl,o,p,aH,aI,i⟩;have k:=k.bw i;have f:=f.bw i;have g:=btr g i;refine Zm rfl<|Ze (Xp (vs:=[.agg #[vi ((if (doC d x)=true then doD d x else d).n),.slice M md N,.slice Q ((if (doC d x)=true then doD d x else d).ws).length U,vi ((if (doC d x)=true then doD d x else d).t),vi ((if (doC d x)=true then doD d x else d).r)],.bool (doC d x)]) rfl rfl)<|Ze (Xp (vs:=[.agg #[vi ((if (doC d x)=true then doD d x else d).n),.slice M md N,.slice Q ((if (doC d x)=true then doD d x else d).ws).length U,vi ((if (doC d x)=true then doD d x else d).t),vi ((if (doC d x)=true then doD d x else d).r)],.bool (doC d x)]) rfl rfl)<|Zf (Xo (zs:=[vi 0,.slice none 0 0,.slice none 0 0,vi 0,vi 0]) X0o rfl) ?_;rintro _ w5 ⟨b14,rfl,aJ,i,C⟩
 have aK:b4≠b14:=by have:=k.lt;omega
 have aL:b8≠b14:=by have:=f.lt;omega
 have a8:=Q0 g.size aJ;have f:=f.bw i;have o:=o.bw i;have p:=p.bw i;have g:=btr g i;refine Zo (Vw [vi ((if (doC d x)=true then doD d x else d).n),.slice M md N,.slice Q ((if (doC d x)=true then doD d x else d).ws).length U,vi ((if (doC d x)=true then doD d x else d).t),vi ((if (doC d x)=true then doD d x else d).r)] Xf C) ?_;rintro _ w6 ⟨L,hb⟩;have j:=C;have f:=f.oy L (by omega);have o:=o.oT L j rfl;have p:=p.oT L j rfl;have g:=Below.oy g L a8;have C:=hb;refine Za rfl<|ZX aX fun a h _ aM=>?_;refine Zs h fun _ aN=>?_;refine Zm rfl<|Ze (X0y rfl)<|Zt aN fun a h=>?_
 refine Xi h rfl (fun q=>?_) (fun q=>?_)
 ·have aA:=q
  have aY:apC d x=false:=Xtf (by have h8:=q;simpa using h8)
  refine Zs h fun _ aO=>?_;refine Ze (X0e (ps:=[]) (cs:=[vi 0,.slice none 0 0,.slice none 0 0,vi 0,vi 0]) rfl (fun _=>by first|rfl|kernel_rfl))<|Zo (Vw [vi 0,.slice none 0 0,.slice none 0 0,vi 0,vi 0] Xf f) ?_;rintro _ w7 ⟨L,hb⟩;have j:=f;have g:=Below.oy g L a6;have f:=hb;refine Za rfl<|Zt aO fun a h=>?_;refine Q6<|Xa<|X6 h (X19 h rfl (ResV.cellN (l:=[vi 0,.slice none 0 0,.slice none 0 0,vi 0,vi 0]) rfl X2 (f.at 0) rfl) rfl) ?_
  rw [aY,Q3 Bool.false_ne_true]
  exact ⟨none,0,none,0,rfl,(Rd.nil _ _ _ _ _),(Rd.nil _ _ _ _ _),(Qf _),g⟩
 have aA:=q
 have aB:doC d x=true:=by have h8:=q;simpa using h8
 have aP:=Xl8 hD aB
 have aC:(if doC d x=true then doD d x else d)=doD d x:=Q4 aB
 refine Q7<|aM _ _<|Zs h fun _ aQ=>?_;refine Ze (Vn X2 C)<|Zf (Vc (Xsg _ (if (doC d x)=true then doD d x else d) md aI M N o.top Q U p.top aH (by rw [aC];exact Q0 aP.1.c (by decide)) (by rw [aC];exact Xms aP.1.w hD.m)) Xhc) ?_;rintro _ w8 ⟨D,E,G,H,rfl,I,J,aR,i⟩;have f:=f.bw i;have g:=btr g i;refine Ze (Xp (vs:=[.agg #[vi ((if (goodD (outD (if (doC d x)=true then doD d x else d)))=true then outD (if (doC d x)=true then doD d x else d) else zD).n),.slice D ((if (goodD (outD (if (doC d x)=true then doD d x else d)))=true then outD (if (doC d x)=true then doD d x else d) else zD).ns).length E,.slice G ((if (goodD (outD (if (doC d x)=true then doD d x else d)))=true then outD (if (doC d x)=true then doD d x else d) else zD).ws).length H,vi ((if (goodD (outD (if (doC d x)=true then doD d x else d)))=true then outD (if (doC d x)=true then doD d x else d) else zD).t),vi ((if (goodD (outD (if (doC d x)=true then doD d x else d)))=true then outD (if (doC d x)=true then doD d x else d) else zD).r)],.bool (goodD (outD (if (doC d x)=true then doD d x else d)))]) rfl rfl)<|Ze (Xp (vs:=[.agg #[vi ((if (goodD (outD (if (doC d x)=true then doD d x else d)))=true then outD (if (doC d x)=true then doD d x else d) else zD).n),.slice D ((if (goodD (outD (if (doC d x)=true then doD d x else d)))=true then outD (if (doC d x)=true then doD d x else d) else zD).ns).length E,.slice G ((if (goodD (outD (if (doC d x)=true then doD d x else d)))=true then outD (if (doC d x)=true then doD d x else d) else zD).ws).length H,vi ((if (goodD (outD (if (doC d x)=true then doD d x else d)))=true then outD (if (doC d x)=true then doD d x else d) else zD).t),vi ((if (goodD (outD (if (doC d x)=true then doD d x else d)))=true then outD (if (doC d x)=true then doD d x else d) else zD).r)],.bool (goodD (outD (if (doC d x)=true then doD d x else d)))]) rfl rfl)<|Zo (Vw [vi ((if (goodD (outD (if (doC d x)=true then doD d x else d)))=true then outD (if (doC d x)=true then doD d x else d) else zD).n),.slice D ((if (goodD (outD (if (doC d x)=true then doD d x else d)))=true then outD (if (doC d x)=true then doD d x else d) else zD).ns).length E,.slice G ((if (goodD (outD (if (doC d x)=true then doD d x else d)))=true then outD (if (doC d x)=true then doD d x else d) else zD).ws).length H,vi ((if (goodD (outD (if (doC d x)=true then doD d x else d)))=true then outD (if (doC d x)=true then doD d x else d) else zD).t),vi ((if (goodD (outD (if (doC d x)=true then doD d x else d)))=true then outD (if (doC d x)=true then doD d x else d) else zD).r)] Xf f) ?_;rintro _ w9 ⟨L,hb⟩
 have j:=f;have I:=I.oT L j rfl;have J:=J.oT L j rfl;have g:=Below.oy g L a6;have f:=hb;refine Za rfl<|Zt aQ fun a h=>?_
 refine Q6 (X6 h (X19 h rfl (ResV.cellN (l:=[vi ((if (goodD (outD (if (doC d x)=true then doD d x else d)))=true then outD (if (doC d x)=true then doD d x else d) else zD).n),.slice D ((if (goodD (outD (if (doC d x)=true then doD d x else d)))=true then outD (if (doC d x)=true then doD d x else d) else zD).ns).length E,.slice G ((if (goodD (outD (if (doC d x)=true then doD d x else d)))=true then outD (if (doC d x)=true then doD d x else d) else zD).ws).length H,vi ((if (goodD (outD (if (doC d x)=true then doD d x else d)))=true then outD (if (doC d x)=true then doD d x else d) else zD).t),vi ((if (goodD (outD (if (doC d x)=true then doD d x else d)))=true then outD (if (doC d x)=true then doD d x else d) else zD).r)]) rfl X2 (f.at 0) rfl) rfl) ?_)
 rw [show apC d x=goodD (outD (doD d x)) from by unfold apC;rw [aB,Qw]]
 rw [aC] at *
 exact ⟨D,E,G,H,rfl,I.top,J.top,aR,g⟩
theorem Xac(j:World)(d:Dg)(md:Nat)(aD:md=d.ns.length)(Ad:Option Addr)(cd:Nat)(E:Rd j j.heap.size 81 encNd Ad d.ns)(Bd:Option Addr)(dd:Nat)(aY:Rd j j.heap.size 83 encWr Bd d.ws)(o:d.ws.length<=dd)(hN:md<=1000) : Ret Tryz.prog 55 [.agg #[vi d.n,.slice Ad md cd,.slice Bd d.ws.length dd,vi d.t,vi d.r]] j (fun v w=>∃ A c,v=.slice A (spL d.ns).length c/\Own w j.heap.size 3 1 encI A c (spL d.ns)/\Below j.heap.size j w):=by
 refine enter Tryz.func55 rfl 23 rfl rfl ?_;intro a f
 have g:=bz j
 refine Zs f fun _ aO=>?_;refine Zf (X0n (zs:=[vi d.n,.slice Ad md cd,.slice Bd d.ws.length dd,vi d.t,vi d.r]) rfl rfl) ?_;rintro _ w1 ⟨b4,rfl,aP,hE,aQ⟩;have aZ:=Q0 g.size aP;have g:=btr g hE;refine Za rfl<|Zx aO fun a f _ aR=>?_;refine Za rfl<|ZX aR fun a f _ aS=>?_;refine Zs f fun _ aT=>?_;refine Ze (Vd rfl Xg 1)<|Ze (X0 rfl Xy (aQ.at 1))<|Ze (X0c rfl Xl)<|Zm rfl<|Zt aT fun a f=>?_;refine Q8<|X04 (σ:=Nat×(List Int)) (fun (s:Nat×(List Int)) (a:Act) (w:World)=>match s with|(k,m)=>∃ h B,Fr a 23 [(3,.slice h m.length B),(7,.slice Ad md cd),(8,vi (md:Int)),(9,vi (k:Int))]/\(k<=d.ns.length)/\(m=spK d.ns k)/\Own w j.heap.size 3 1 encI h B m/\d.ws.length<=dd/\Below j.heap.size j w) (fun (s:Nat×(List Int))=>match s with|(k,m)=>d.ns.length-k) (0,[]) ?_ ?_
 ·exact ⟨none,0,f.sb,(Qf _),rfl,(Own.nil _ _ _ _ _),o,g⟩
 rintro ⟨k,m⟩ a w2 ⟨h,B,f,hk,hm,b,o,g⟩;have aU:=X4u d.ns k
 rw [<- hm] at aU
 refine Zs f fun _ aE=>?_;refine Ze (X0q rfl rfl)<|ZX aE fun a f _ aF=>?_
 refine Xi f rfl (fun e=>?_) (fun e=>?_)
 ·have a6:=e;have e:=Q2 e
  obtain ⟨u9,a7⟩:=X5 (l:=d.ns) (k:=k) (by have:=e;omega)
  refine Q7<|aF _ _<|Q5 fun _ G=>?_;refine Q8<|Zs f fun _ aG=>?_;refine Zm rfl<|Zj (k:=k) (u:=u9) (enc:=encNd) (l:=d.ns) tv0 rfl aD rfl Xl X08 Xw (E.bx g) a7 (by omega) ?_;intro b0 a8;refine Ze (X01 (l:=[vi u9.k,vi u9.p]) rfl X23 a8 rfl)<|Zf (Xo (zs:=[vi 0,vi 0]) X4d rfl) ?_;rintro _ w3 ⟨b1,rfl,H,hE,q⟩;have aA:=Q0 g.size H;have aH:=(E.bx g).away H;have b:=b.bw hE;have g:=btr g hE;refine Za rfl<|Zo (Vw [vi u9.k,vi u9.p] X08 q) ?_;rintro _ w4 ⟨ho,hb⟩;have aI:=q;have b:=b.oT ho aI rfl;have g:=Below.oy g ho aA;have q:=hb;refine Zx aG fun a f _ aJ=>?_;refine Ze (Vd rfl X0v 0)<|Ze (X0 rfl X7 (q.at 0))<|Ze (X0m rfl rfl)<|Zt aJ fun a f=>?_
  refine Xi f rfl (fun i=>?_) (fun i=>?_)
  ·have aB:=i;have C:=Xtm a7 i
   rw [<- hm] at C
   refine Zr f<|Zm rfl<|Zm rfl<|Zf (Xs (k:=1) (vs:=[vi (k:Int)]) (zs:=[vi (k:Int)]) rfl Xj X1h rfl rfl) ?_;rintro _ w5 ⟨b2,rfl,I,hE,D⟩;have aV:=Q0 g.size I;have x:=b.away I;have b:=b.bw hE;have g:=btr g hE;refine Zf (X0z (enc:=encI) (l:=(m)) (l2:=([(k:Int)])) (B0:=j.heap.size) rfl rfl Xj X1h X9 X1e b (Rd.of_blk D rfl _ D.lt) (by simp only [maxLen];simp;omega) (by simp;omega) g.size) ?_;rintro _ w6 ⟨aW,aX,rfl,aK,hg,aL⟩
   have J:Own _ j.heap.size 3 1 encI _ _ (m):=b
   have aC:=aL _ D.lt x;clear aL;have g:=Below.app g J hg (Qb _) g.size;clear J hg;refine Za rfl ?_;refine Zn fun a f=>?_;refine Xc<|G _ _<|Zr f<|Ze (Xm rfl rfl (by omega) (by omega))<|Zm rfl ?_;refine Zn fun a f=>?_;refine Xd ?_;exact ⟨(k+1,m++([(k:Int)])),⟨aW,aX,f.sb,(by omega),(by rw [C]),aK,o,g⟩,(by first|omega|(dsimp only;omega))⟩
  have aB:=i;have C:=Xsq a7 i
  rw [<- hm] at C
  refine Q7<|Xc<|G _ _<|Zr f ?_;refine Ze (Xm rfl rfl (by omega) (by omega))<|Zm rfl ?_;refine Zn fun a f=>?_;refine Xd ?_;exact ⟨(k+1,m),⟨h,B,f.sb,(by omega),(by rw [C]),b,o,g⟩,(by first|omega|(dsimp only;omega))⟩
 have a6:=e;have e:=Q1 e
 have aM:m=spL d.ns:=by rw [hm,show k=d.ns.length by have:=e;omega];rfl
 refine Q9<|Xk<|Xk<|X03 ?_;refine aS _ _<|Zs f fun _ aN=>?_;refine Zm rfl<|Za rfl<|Zt aN fun a f=>?_
 refine Q6 (X6 f (Xu f rfl rfl) ?_)
 rw [<- aM]
 exact ⟨h,B,rfl,b,g⟩
theorem Xsm(D:World)(d:Dg)(md:Nat)(aO:md=d.ns.length)(Ad:Option Addr)(cd:Nat)(aP:Rd D D.heap.size 81 encNd Ad d.ns)(Bd:Option Addr)(dd:Nat)(aQ:Rd D D.heap.size 83 encWr Bd d.ws)(h:d.ws.length<=dd)(x:Int)(hD:InD d) : Ret Tryz.prog 120 [.agg #[vi d.n,.slice Ad md cd,.slice Bd d.ws.length dd,vi d.t,vi d.r],vi x] D (fun v w=>∃ A c,v=.slice A (alL d x).length c/\Own w D.heap.size 58 3 encRz A c (alL d x)/\Below D.heap.size D w):=by
 have b8:=hD.m;refine enter Tryz.func120 rfl 41 rfl rfl ?_;intro a i
 have o:=bz D
 refine Zs i fun _ b9=>?_;refine Zf (X0n (zs:=[vi d.n,.slice Ad md cd,.slice Bd d.ws.length dd,vi d.t,vi d.r]) rfl rfl) ?_;rintro _ w1 ⟨b4,rfl,bA,B,e⟩;have bL:=Q0 o.size bA;have o:=btr o B;refine Za rfl<|Zx b9 fun a i _ bB=>?_;refine Za rfl<|ZX bB fun a i _ bC=>?_;refine Zs i fun _ bD=>?_;refine Ze (Vd rfl Xg 1)<|Ze (X0 rfl Xy (e.at 1))<|Ze (X0c rfl Xl)<|Zm rfl<|Zt bD fun a i=>?_;refine Q8<|X04 (σ:=Nat×(List Rz)) (fun (s:Nat×(List Rz)) (a:Act) (w:World)=>match s with|(k,m)=>∃ I J,Fr a 41 [(1,vi x),(2,(pZ9 b4)),(5,.slice I m.length J),(13,vi (md:Int)),(14,vi (k:Int))]/\(k<=d.ns.length)/\(m=alS d x k)/\Blk w b4 39 [vi d.n,.slice Ad md cd,.slice Bd d.ws.length dd,vi d.t,vi d.r]/\Own w D.heap.size 58 3 encRz I J m/\d.ws.length<=dd/\Below D.heap.size D w) (fun (s:Nat×(List Rz))=>match s with|(k,m)=>d.ns.length-k) (0,[]) ?_ ?_
 ·exact ⟨none,0,i.sb,(Qf _),rfl,e,(Own.nil _ _ _ _ _),h,o⟩
 rintro ⟨k,m⟩ a w2 ⟨I,J,i,hk,hm,e,W,h,o⟩;have bE:=Xfg d x k
 rw [<- hm] at bE
 have bP:k*d.ns.length<=1000*1000:=Nat.mul_le_mul (by omega) b8
 refine Zs i fun _ aR=>?_;refine Ze (X0q rfl rfl)<|ZX aR fun a i _ aS=>?_
 refine Xi i rfl (fun p=>?_) (fun p=>?_)
 ·have aA:=p;have p:=Q2 p
  have bQ:k<d.ns.length:=by have:=p;omega
  refine Q7<|aS _ _<|Q5 fun _ aT=>?_;refine Q8<|Zs i fun _ aU=>?_;refine Zm rfl<|Za rfl<|Zx aU fun a i _ aV=>?_;refine Ze (Vd rfl Xg 1)<|Ze (X0 rfl Xy (e.at 1))<|Ze (X0c rfl Xl)<|Zm rfl<|Zt aV fun a i=>?_;refine Q8<|X04 (σ:=Nat×(List Rz)) (fun (s:Nat×(List Rz)) (a:Act) (w:World)=>match s with|(j,g)=>∃ L M,Fr a 41 [(1,vi x),(2,(pZ9 b4)),(5,.slice L g.length M),(6,vi (k:Int)),(13,vi (md:Int)),(14,vi (k:Int)),(19,vi (md:Int)),(20,vi (j:Int))]/\(j<=d.ns.length)/\(g=m++alR d x k j)/\Blk w b4 39 [vi d.n,.slice Ad md cd,.slice Bd d.ws.length dd,vi d.t,vi d.r]/\Own w D.heap.size 58 3 encRz L M g/\d.ws.length<=dd/\Below D.heap.size D w) (fun (s:Nat×(List Rz))=>match s with|(j,g)=>d.ns.length-j) (0,m) ?_ ?_
  ·exact ⟨I,J,i.sb,(Qf _),(by simp [alR]),e,W,h,o⟩
  rintro ⟨j,g⟩ a w3 ⟨L,M,i,hj,hg,e,b,h,o⟩;refine Zs i fun _ aW=>?_;refine Ze (X0q rfl rfl)<|ZX aW fun a i _ aX=>?_
  refine Xi i rfl (fun q=>?_) (fun q=>?_)
  ·have aB:=q;have q:=Q2 q
   have bR:j<d.ns.length:=by have:=q;omega
   have bS:g.length<=1000*1000+1000:=by rw [hg,Qh];have:=Xhh d x k j;omega
   refine Q7<|aX _ _<|Q5 fun _ a6=>?_;refine Q8<|Zs i fun _ aY=>?_;refine Zm rfl<|Za rfl<|Zx aY fun a i _ aZ=>?_;refine Zm rfl<|Zm rfl<|Zm rfl<|Ze (X0e (ps:=[(0,vi x),(1,vi (k:Int)),(2,vi (j:Int))]) (cs:=[vi x,vi (k:Int),vi (j:Int)]) rfl (fun _=>by first|rfl|kernel_rfl))<|Zf (Xo (zs:=[vi 0,vi 0,vi 0]) X8u rfl) ?_;rintro _ w4 ⟨bF,rfl,a7,B,f⟩;have aC:=Q0 o.size a7;have C:=b.away a7;have e:=e.bw B;have b:=b.bw B;have o:=btr o B;refine Zo (Vw [vi x,vi (k:Int),vi (j:Int)] X2q f) ?_;rintro _ w5 ⟨ho,hb⟩;have G:=f;have e:=e.oz ho G rfl;have b:=b.onlyA ho C;have o:=Below.oy o ho aC;have f:=hb;refine Zx aZ fun a i _ b0=>?_;refine Ze (Vn X2 e)<|Ze (Vn X1q f)<|Zf (Vc (Xk9 _ d md aO Ad cd (aP.bx o).top Bd dd (aQ.bx o).top h (⟨x,(k:Int),(j:Int)⟩ : Rz) hD) Xbf) ?_;rintro _ w6 ⟨aD,aE,aF,aG,rfl,bM,bN,bO,B⟩;have e:=e.bw B;have f:=f.bw B;have b:=b.bw B;have o:=btr o B;refine Zm rfl<|Ze (Xp (vs:=[.agg #[vi ((if (apC d (⟨x,(k:Int),(j:Int)⟩ : Rz))=true then apD d (⟨x,(k:Int),(j:Int)⟩ : Rz) else zD).n),.slice aD ((if (apC d (⟨x,(k:Int),(j:Int)⟩ : Rz))=true then apD d (⟨x,(k:Int),(j:Int)⟩ : Rz) else zD).ns).length aE,.slice aF ((if (apC d (⟨x,(k:Int),(j:Int)⟩ : Rz))=true then apD d (⟨x,(k:Int),(j:Int)⟩ : Rz) else zD).ws).length aG,vi ((if (apC d (⟨x,(k:Int),(j:Int)⟩ : Rz))=true then apD d (⟨x,(k:Int),(j:Int)⟩ : Rz) else zD).t),vi ((if (apC d (⟨x,(k:Int),(j:Int)⟩ : Rz))=true then apD d (⟨x,(k:Int),(j:Int)⟩ : Rz) else zD).r)],.bool (apC d (⟨x,(k:Int),(j:Int)⟩ : Rz))]) rfl rfl)<|Ze (Xp (vs:=[.agg #[vi ((if (apC d (⟨x,(k:Int),(j:Int)⟩ : Rz))=true then apD d (⟨x,(k:Int),(j:Int)⟩ : Rz) else zD).n),.slice aD ((if (apC d (⟨x,(k:Int),(j:Int)⟩ : Rz))=true then apD d (⟨x,(k:Int),(j:Int)⟩ : Rz) else zD).ns).length aE,.slice aF ((if (apC d (⟨x,(k:Int),(j:Int)⟩ : Rz))=true then apD d (⟨x,(k:Int),(j:Int)⟩ : Rz) else zD).ws).length aG,vi ((if (apC d (⟨x,(k:Int),(j:Int)⟩ : Rz))=true then apD d (⟨x,(k:Int),(j:Int)⟩ : Rz) else zD).t),vi ((if (apC d (⟨x,(k:Int),(j:Int)⟩ : Rz))=true then apD d (⟨x,(k:Int),(j:Int)⟩ : Rz) else zD).r)],.bool (apC d (⟨x,(k:Int),(j:Int)⟩ : Rz))]) rfl rfl)<|Zf (Xo (zs:=[vi 0,.slice none 0 0,.slice none 0 0,vi 0,vi 0]) X0o rfl) ?_;rintro _ w7 ⟨b30,rfl,b1,B,N⟩
   have b2:b4≠b30:=by have:=e.lt;omega
   have aH:=Q0 o.size b1;have e:=e.bw B;have f:=f.bw B;have b:=b.bw B;have o:=btr o B;refine Zo (Vw [vi ((if (apC d (⟨x,(k:Int),(j:Int)⟩ : Rz))=true then apD d (⟨x,(k:Int),(j:Int)⟩ : Rz) else zD).n),.slice aD ((if (apC d (⟨x,(k:Int),(j:Int)⟩ : Rz))=true then apD d (⟨x,(k:Int),(j:Int)⟩ : Rz) else zD).ns).length aE,.slice aF ((if (apC d (⟨x,(k:Int),(j:Int)⟩ : Rz))=true then apD d (⟨x,(k:Int),(j:Int)⟩ : Rz) else zD).ws).length aG,vi ((if (apC d (⟨x,(k:Int),(j:Int)⟩ : Rz))=true then apD d (⟨x,(k:Int),(j:Int)⟩ : Rz) else zD).t),vi ((if (apC d (⟨x,(k:Int),(j:Int)⟩ : Rz))=true then apD d (⟨x,(k:Int),(j:Int)⟩ : Rz) else zD).r)] Xf N) ?_;rintro _ w8 ⟨ho,hb⟩;have G:=N;have e:=e.oy ho (by omega);have f:=f.oz ho G rfl;have b:=b.oT ho G rfl;have o:=Below.oy o ho aH;have N:=hb;refine Za rfl<|Zx b0 fun a i _ b3=>?_;refine Zm rfl<|Zt b3 fun a i=>?_
   refine Xi i rfl (fun E=>?_) (fun E=>?_)
   ·have aI:=E;have aJ:=Y18 (d:=d) (u:=x) (a:=k) (j:=j) E;refine Zr i<|Zm rfl<|Ze (Vn X1q f)<|Zf (Xs (k:=1) (vs:=[.agg #[vi x,vi (k:Int),vi (j:Int)]]) (zs:=[vi x,vi (k:Int),vi (j:Int)]) rfl X40 Xdw rfl rfl) ?_;rintro _ w9 ⟨b33,rfl,a8,B,Q⟩
    have aL:bF≠b33:=by have:=f.lt;omega
    have bG:=Q0 o.size a8;have H:=b.away a8;have e:=e.bw B;have f:=f.bw B;have b:=b.bw B;have o:=btr o B;refine Zf (X0z (enc:=encRz) (l:=(g)) (l2:=([(⟨x,(k:Int),(j:Int)⟩ : Rz)])) (B0:=D.heap.size) rfl rfl X40 Xdw X7s Xi9 b (Rd.of_blk Q rfl _ Q.lt) (by simp only [maxLen];simp;omega) (by simp;omega) o.size) ?_;rintro _ bT ⟨bH,bJ,rfl,b5,hg,aK⟩
    have U:Own _ D.heap.size 58 3 encRz _ _ (g):=b
    have aM:=aK _ f.lt C;have aN:=aK _ Q.lt H;clear aK;have e:=e.appT U hg rfl;have o:=Below.app o U hg (Qb _) o.size;clear U hg;refine Za rfl ?_;refine Zn fun a i=>?_;refine Xc<|a6 _ _<|Zr i<|Ze (Xm rfl rfl (by omega) (by omega))<|Zm rfl ?_;refine Zn fun a i=>?_;refine Xd ?_;exact ⟨(j+1,g++([(⟨x,(k:Int),(j:Int)⟩ : Rz)])),⟨bH,bJ,i.sb,(by omega),(by rw [aJ,hg];try rw [Qx]),e,b5,h,o⟩,(by first|omega|(dsimp only;omega))⟩
   have aI:=E;have aJ:=Xy6 (d:=d) (u:=x) (a:=k) (j:=j) E;refine Q7<|Xc<|a6 _ _<|Zr i ?_;refine Ze (Xm rfl rfl (by omega) (by omega))<|Zm rfl ?_;refine Zn fun a i=>?_;refine Xd ?_;exact ⟨(j+1,g),⟨L,M,i.sb,(by omega),(by rw [aJ,hg];try rw [Qx]),e,b,h,o⟩,(by first|omega|(dsimp only;omega))⟩
  have aB:=q;have q:=Q1 q
  have bK:g=alS d x (k+1):=by rw [hg,Xsh,show j=d.ns.length by have:=q;omega,hm]
  refine Q9<|Xk<|Xk<|X03 ?_;refine Xc<|aT _ _<|Zr i<|Ze (Xm rfl rfl (by omega) (by omega))<|Zm rfl ?_;refine Zn fun a i=>?_;refine Xd ?_;exact ⟨(k+1,g),⟨L,M,i.sb,(by omega),bK,e,b,h,o⟩,(by first|omega|(dsimp only;omega))⟩
 have aA:=p;have p:=Q1 p
 have b6:m=alL d x:=by rw [hm,show k=d.ns.length by have:=p;omega];rfl
 refine Q9<|Xk<|Xk<|X03 ?_;refine bC _ _<|Zs i fun _ b7=>?_;refine Zm rfl<|Za rfl<|Zt b7 fun a i=>?_
 refine Q6 (X6 i (Xu i rfl rfl) ?_)
 rw [<- b6]
 exact ⟨I,J,rfl,W,o⟩
def SB(b:Nat)(l:List (Option Addr))(k:Nat) : Prop:=k=b∨∃ A ∈ l,ownB A=some k
def Us(S:Nat->Prop)(w0:World)(A:Option Addr) : Prop:=∀ k,ownB A=some k->S k∨w0.heap.size<=k
theorem SB.us{b:Nat}{l:List (Option Addr)}{A:Option Addr}{w:World}(h:A ∈ l) : Us (SB b l) w A:=fun _ hk=>.inl (.inr ⟨A,h,hk⟩)
theorem Xi6(p:Addr) : ownB (some p)=some p.block:=rfl
theorem Xg9{A:Option Addr}{b:Nat} : Away A b↔ownB A≠some b:=by
 cases A with
 | none=>exact ⟨(fun _ h=>by cases h),fun _ p h=>by cases h⟩
 | some p=>
  rw [Xi6]
  exact ⟨fun h e=>h p rfl (Option.some.inj e),fun h q hq e=>by injection hq with hq;subst hq;exact h (by rw [e])⟩
section
variable {S : Nat -> Prop} {w0 w w' : World} {A A' : Option Addr} {b : Nat} {l : List (Option Addr)}
theorem Us.app(hu:Us S w0 A)(hat:∀ b,b<w.heap.size->Away A b->Away A' b)(hs:w0.heap.size<=w.heap.size) : Us S w0 A':=fun k hk=>by
 by_cases hl:k<w.heap.size
 ·by_cases h2:ownB A=some k
  ·exact hu k h2
  ·exact absurd hk (Xg9.1 (hat k hl (Xg9.2 h2)))
 ·exact .inr (by omega)
theorem Us.new{α:Type}{E:TypeId}{sz c:Nat}{enc:α->List Value}{r:List α}(ho:Own w w0.heap.size E sz enc A c r) : Us S w0 A:=fun _ hk=>.inr (X2h ho hk)
theorem al0{α:Type}{p:α->Prop} : ∀ x ∈ ([] : List α),p x:=fun _ h=>by cases h
theorem alc{α:Type}{p:α->Prop}{a:α}{r:List α}(h:p a)(ht:∀ x ∈ r,p x) : ∀ x ∈ a::r,p x:=List.forall_mem_cons.2 ⟨h,ht⟩
theorem SB.lift(hb:S b∨w0.heap.size<=b)(h:∀ A ∈ l,Us S w0 A) : ∀ k,SB b l k->S k∨w0.heap.size<=k:=fun k hk=>by
 rcases hk with rfl|⟨A,hA,hk⟩
 ·exact hb
 ·exact h A hA k hk
theorem Us.trans(hu:Us (SB b l) w A)(h:∀ k,SB b l k->S k∨w0.heap.size<=k)(hs:w0.heap.size<=w.heap.size) : Us S w0 A:=fun k hk=>by
 rcases hu k hk with h1|h1
 ·exact h k h1
 ·exact .inr (by omega)
theorem SB.ge{N:Nat}(hb:N<=b)(h:∀ A ∈ l,∀ k,ownB A=some k->N<=k) : ∀ k,SB b l k->N<=k:=fun k hk=>by
 rcases hk with rfl|⟨A,hA,hk⟩
 ·exact hb
 ·exact h A hA k hk
theorem nrow{α:Type}{B0:Nat}{E T:TypeId}{sz c:Nat}{enc:α->List Value}{r:List α}{cs:List Value}(ho:Own w B0 E sz enc A c r)(h:Blk w b T cs)(h1:Nat.beq E T=false) : ownB A≠some b:=fun hk=>by
 obtain ⟨_,_,cs',fz,h3⟩:=ho.block (k:=b) (by rw [X4r];exact hk)
 unfold Blk at h;rw [h3] at h;injection h with h;injection h with _ e _;subst e;simp at h1
theorem Blk.tu{b2:Nat}{T T2:TypeId}{bcs cs:List Value}(h:Blk w b2 T2 cs)(hts:TurnS (SB b l) w w')(hb:Blk w b T bcs)(h1:Nat.beq T2 T=false)(hr:∀ A ∈ l,ownB A≠some b2) : Blk w' b2 T2 cs:=by
 refine (hts.block b2 h.lt fun hk=>?_).trans h
 rcases hk with e|⟨A,hA,hk⟩
 ·exact h.ne hb h1 e
 ·exact hr A hA hk
end
structure Br where
 d:Dg
 la:List Int
 hd:List Bool
def nodB(x:Br)(k p q:Int) : Br:=⟨{ x.d with ns:=x.d.ns++[⟨k,p⟩],ws:=jnW x.d.ws (x.la.getD q.toNat 0) (x.d.ns.length:Int) (x.hd.getD q.toNat false) },x.la.set q.toNat (x.d.ns.length:Int),x.hd.set q.toNat false⟩
def plcB(x:Br)(q:Int) : Br:=if (x.hd.getD q.toNat false||(x.d.ns.getD (x.la.getD q.toNat 0).toNat nZ).k != 3)=true then nodB x 3 0 q else x
def trnB(x:Br)(q m:Int) : Br:={ plcB x q with d:={ (plcB x q).d with ns:=adN (plcB x q).d.ns ((plcB x q).la.getD q.toNat 0) m } }
def flpB(x:Br)(q:Int) : Br:={ x with hd:=x.hd.set q.toNat (!(x.hd.getD q.toNat false)) }
def czB(x:Br)(p q:Int) : Br:=
 let y:=plcB (plcB x p) q
 let a:=(plcB x p).la.getD p.toNat 0
 let b:=y.la.getD q.toNat 0
 if 0<=fdW y.d.ws a b then { y with d:={ y.d with ws:=ctW y.d.ws (fdW y.d.ws a b).toNat,r:=wr (y.d.r-1) } } else { y with d:={ y.d with ws:=jnW y.d.ws a b true,r:=wr (y.d.r+1) } }
structure BrOk (n:Nat) (x:Br) : Prop where
 la:x.la.length=n
 hd:x.hd.length=n
 rg:∀ y ∈ x.la,0<=y/\y<(x.d.ns.length:Int)
 p:PhN x.d.ns
theorem Y2g{x:Br}{q:Int}(h:(x.hd.getD q.toNat false||(x.d.ns.getD (x.la.getD q.toNat 0).toNat nZ).k != 3)=true) : plcB x q=nodB x 3 0 q:=Q4 h
theorem Y2s{x:Br}{q:Int}(h:(x.hd.getD q.toNat false||(x.d.ns.getD (x.la.getD q.toNat 0).toNat nZ).k != 3)=false) : plcB x q=x:=Q3 (by rw [h];decide)
theorem BrOk.at{n:Nat}{x:Br}(h:BrOk n x){q:Int}(hq:0<=q/\q.toNat<n) : 0<=x.la.getD q.toNat 0/\(x.la.getD q.toNat 0).toNat<x.d.ns.length:=by
 have:=X5w h.rg (i:=q.toNat) (by rw [h.la];exact hq.2)
 omega
theorem Xby{n:Nat}{x:Br}(h:BrOk n x){k p q:Int}(hp:0<=p/\p<=7) : BrOk n (nodB x k p q):=by
 have hl:(x.d.ns++[(⟨k,p⟩ : Nd)]).length=x.d.ns.length+1:=by simp
 refine ⟨List.length_set.trans h.la,List.length_set.trans h.hd,fun y hy=>?_,fun y hy=>?_⟩
 ·show 0<=y/\y<((x.d.ns++[(⟨k,p⟩ : Nd)]).length:Int)
  rcases List.mem_or_eq_of_mem_set hy with hy|rfl
  ·have:=h.rg y hy
   omega
  ·omega
 ·rcases Qu.1 hy with hy|hy
  ·exact h.p y hy
  ·rw [Qm.1 hy];exact hp
theorem X8q(x:Br)(k p q:Int) : (nodB x k p q).d.ns.length=x.d.ns.length+1/\(nodB x k p q).d.ws.length=x.d.ws.length+1:=⟨by simp [nodB],X3w _ _ _ _⟩
theorem X4b{n:Nat}{x:Br}(h:BrOk n x)(q:Int) : BrOk n (plcB x q):=by
 unfold plcB
 split
 ·exact Xby h (by decide)
 ·exact h
theorem X4w(x:Br)(q:Int) : (plcB x q).d.ns.length<=x.d.ns.length+1/\(plcB x q).d.ws.length<=x.d.ws.length+1/\x.d.ns.length<=(plcB x q).d.ns.length:=by
 have:=X8q x 3 0 q
 unfold plcB
 split<;>omega
theorem X5f{n:Nat}{x:Br}(h:BrOk n x)(q m:Int) : BrOk n (trnB x q m):=by
 have h1:=X4b h q
 exact ⟨h1.la,h1.hd,fun y hy=>by
  have:=h1.rg y hy
  show 0<=y/\y<((adN _ _ _).length:Int)
  rw [X1u];exact this,X68 h1.p _ _⟩
theorem X7d(x:Br)(q m:Int) : (trnB x q m).d.ns.length<=x.d.ns.length+1/\(trnB x q m).d.ws.length<=x.d.ws.length+1:=by
 have:=X4w x q
 show (adN _ _ _).length<=_/\(plcB x q).d.ws.length<=_
 rw [X1u]
 omega
theorem X2a{n:Nat}{x:Br}(h:BrOk n x)(q:Int) : BrOk n (flpB x q):=⟨h.la,List.length_set.trans h.hd,h.rg,h.p⟩
theorem Y42{x:Br}{p q:Int}(h:0<=fdW (plcB (plcB x p) q).d.ws ((plcB x p).la.getD p.toNat 0) ((plcB (plcB x p) q).la.getD q.toNat 0)) : czB x p q = { plcB (plcB x p) q with d:={ (plcB (plcB x p) q).d with ws:=ctW (plcB (plcB x p) q).d.ws (fdW (plcB (plcB x p) q).d.ws ((plcB x p).la.getD p.toNat 0) ((plcB (plcB x p) q).la.getD q.toNat 0)).toNat,r:=wr ((plcB (plcB x p) q).d.r-1) } }:=Q4 h
theorem Y3e{x:Br}{p q:Int}(h:¬ 0<=fdW (plcB (plcB x p) q).d.ws ((plcB x p).la.getD p.toNat 0) ((plcB (plcB x p) q).la.getD q.toNat 0)) : czB x p q = { plcB (plcB x p) q with d:={ (plcB (plcB x p) q).d with ws:=jnW (plcB (plcB x p) q).d.ws ((plcB x p).la.getD p.toNat 0) ((plcB (plcB x p) q).la.getD q.toNat 0) true,r:=wr ((plcB (plcB x p) q).d.r+1) } }:=Q3 h
theorem Xry{n:Nat}{x:Br}(h:BrOk n x)(p q:Int) : BrOk n (czB x p q):=by
 have h1:=X4b (X4b h p) q
 unfold czB
 dsimp only
 split
 ·exact ⟨h1.la,h1.hd,h1.rg,h1.p⟩
 ·exact ⟨h1.la,h1.hd,h1.rg,h1.p⟩
theorem Xis(x:Br)(p q:Int) : (czB x p q).d.ns.length<=x.d.ns.length+2/\(czB x p q).d.ws.length<=x.d.ws.length+3:=by
 have h1:=X4w x p;have h2:=X4w (plcB x p) q
 unfold czB
 dsimp only
 split
 ·have:=(X3u (plcB (plcB x p) q).d.ws (fdW (plcB (plcB x p) q).d.ws ((plcB x p).la.getD p.toNat 0) ((plcB (plcB x p) q).la.getD q.toNat 0)).toNat).length_le
  dsimp only
  omega
 ·dsimp only
  rw [X3w]
  omega
def swpB(x:Br)(a b:Int) : Br:={ x with la:=(x.la.set a.toNat (x.la.getD b.toNat 0)).set b.toNat (x.la.getD a.toNat 0),hd:=(x.hd.set a.toNat (x.hd.getD b.toNat false)).set b.toNat (x.hd.getD a.toNat false) }
def yyB(x:Br)(a:Int) : Br:=flpB (trnB (flpB (trnB x a 4) a) a 4) a
def tnB(x:Br)(k:Int) : Br:={ x with d:={ x.d with t:=wr (x.d.t+k) } }
def gtB(x:Br)(g:Gt) : Br:=
 if (g.k==1)=true then flpB x g.a
 else if (g.k==2)=true then flpB (trnB (flpB x g.a) g.a 4) g.a
 else if (g.k==3)=true then tnB (yyB x g.a) 2
 else if (g.k==9)=true then flpB (czB (flpB x g.b) g.a g.b) g.b
 else if (g.k==10)=true then czB x g.a g.b
 else if (g.k==11)=true then swpB x g.a g.b
 else if (g.k==12)=true then tnB x 1
 else trnB x g.a (rotC g.k)
section
variable {x : Br} {g : Gt}
theorem Y4m(h1:(g.k==1)=true) : gtB x g=flpB x g.a:=Q4 h1
theorem Y3f(h1:(g.k==1)=false)(h2:(g.k==2)=true) : gtB x g=flpB (trnB (flpB x g.a) g.a 4) g.a:=by unfold gtB;rw [h1,h2];rfl
theorem Y3r(h1:(g.k==1)=false)(h2:(g.k==2)=false)(h3:(g.k==3)=true) : gtB x g=tnB (yyB x g.a) 2:=by unfold gtB;rw [h1,h2,h3];rfl
theorem Y3i(h1:(g.k==1)=false)(h2:(g.k==2)=false)(h3:(g.k==3)=false)(h9:(g.k==9)=true) : gtB x g=flpB (czB (flpB x g.b) g.a g.b) g.b:=by unfold gtB;rw [h1,h2,h3,h9];rfl
theorem Xzm(h1:(g.k==1)=false)(h2:(g.k==2)=false)(h3:(g.k==3)=false)(h9:(g.k==9)=false)(h10:(g.k==10)=true) : gtB x g=czB x g.a g.b:=by unfold gtB;rw [h1,h2,h3,h9,h10];rfl
theorem Xy2(h1:(g.k==1)=false)(h2:(g.k==2)=false)(h3:(g.k==3)=false)(h9:(g.k==9)=false)(h10:(g.k==10)=false)(h11:(g.k==11)=true) : gtB x g=swpB x g.a g.b:=by unfold gtB;rw [h1,h2,h3,h9,h10,h11];rfl
theorem Y1l(h1:(g.k==1)=false)(h2:(g.k==2)=false)(h3:(g.k==3)=false)(h9:(g.k==9)=false)(h10:(g.k==10)=false)(h11:(g.k==11)=false)(h12:(g.k==12)=true) : gtB x g=tnB x 1:=by unfold gtB;rw [h1,h2,h3,h9,h10,h11,h12];rfl
theorem Y39(h1:(g.k==1)=false)(h2:(g.k==2)=false)(h3:(g.k==3)=false)(h9:(g.k==9)=false)(h10:(g.k==10)=false)(h11:(g.k==11)=false)(h12:(g.k==12)=false) : gtB x g=trnB x g.a (rotC g.k):=by unfold gtB;rw [h1,h2,h3,h9,h10,h11,h12];rfl
end
theorem Xuv{k:Int}(h:4<=k/\k<=8) : ([4,2,6,1,7] : List Int)[(k-4).toNat]? = some (rotC k)/\0<=rotC k/\rotC k<=900:=by
 have:k=4∨k=5∨k=6∨k=7∨k=8:=by omega
 rcases this with e|e|e|e|e<;>subst e<;>decide
theorem Xwp{n:Nat}{x:Br}(h:BrOk n x){a b:Int}(ha:0<=a/\a.toNat<n)(hb:0<=b/\b.toNat<n) : BrOk n (swpB x a b):=by
 have h1:=h.at ha;have h2:=h.at hb
 refine ⟨List.length_set.trans (List.length_set.trans h.la),List.length_set.trans (List.length_set.trans h.hd),fun y hy=>?_,h.p⟩
 show 0<=y/\y<(x.d.ns.length:Int)
 rcases List.mem_or_eq_of_mem_set hy with hy|rfl
 ·rcases List.mem_or_eq_of_mem_set hy with hy|rfl
  ·exact h.rg y hy
  ·omega
 ·omega
theorem Xsl{n:Nat}{x:Br}(h:BrOk n x)(k:Int) : BrOk n (tnB x k):=⟨h.la,h.hd,h.rg,h.p⟩
theorem Xyj{n:Nat}{x:Br}(h:BrOk n x)(a:Int) : BrOk n (yyB x a):=X2a (X5f (X2a (X5f h a 4) a) a 4) a
theorem Xvj(x:Br)(a:Int) : (yyB x a).d.ns.length<=x.d.ns.length+2/\(yyB x a).d.ws.length<=x.d.ws.length+2:=by
 have h1:=X7d x a 4;have h2:=X7d (flpB (trnB x a 4) a) a 4
 have e1:(flpB (trnB x a 4) a).d=(trnB x a 4).d:=rfl
 have e2:(yyB x a).d=(trnB (flpB (trnB x a 4) a) a 4).d:=rfl
 rw [e1] at h2
 rw [e2]
 omega
theorem Xku{n:Nat}{x:Br}(h:BrOk n x){g:Gt}(hg:gOk (n:Int) g=true) : BrOk n (gtB x g):=by
 unfold gtB
 split
 ·exact X2a h _
 split
 ·exact X2a (X5f (X2a h _) _ _) _
 split
 ·exact Xsl (Xyj h _) _
 split
 ·exact X2a (Xry (X2a h _) _ _) _
 split
 ·exact Xry h _ _
 split
 ·exact Xwp h (Xdt hg) (Xdh hg)
 split
 ·exact Xsl h _
 ·exact X5f h _ _
theorem Xl3(x:Br)(g:Gt) : (gtB x g).d.ns.length<=x.d.ns.length+3/\(gtB x g).d.ws.length<=x.d.ws.length+3:=by
 unfold gtB
 split
 ·show x.d.ns.length<=_/\x.d.ws.length<=_;omega
 split
 ·have h1:=X7d (flpB x g.a) g.a 4
  have e1:(flpB x g.a).d=x.d:=rfl
  rw [e1] at h1
  show (trnB (flpB x g.a) g.a 4).d.ns.length<=_/\(trnB (flpB x g.a) g.a 4).d.ws.length<=_
  omega
 split
 ·have h1:=Xvj x g.a
  show (yyB x g.a).d.ns.length<=_/\(yyB x g.a).d.ws.length<=_
  omega
 split
 ·have h1:=Xis (flpB x g.b) g.a g.b
  have e1:(flpB x g.b).d=x.d:=rfl
  rw [e1] at h1
  show (czB (flpB x g.b) g.a g.b).d.ns.length<=_/\(czB (flpB x g.b) g.a g.b).d.ws.length<=_
  omega
 split
 ·have h1:=Xis x g.a g.b
  omega
 split
 ·show x.d.ns.length<=_/\x.d.ws.length<=_;omega
 split
 ·show x.d.ns.length<=_/\x.d.ws.length<=_;omega
 ·have h1:=X7d x g.a (rotC g.k)
  omega
def inN(k:Nat) : List Nd:=(List.range k).map fun (i:Nat)=>(⟨1,i⟩ : Nd)
def ranI(k:Nat) : List Int:=(List.range k).map fun (i:Nat)=>(i:Int)
theorem Y1o(k:Nat) : inN (k+1)=inN k++[(⟨1,(k:Int)⟩ : Nd)]:=by unfold inN;rw [List.range_succ,List.map_append];rfl
theorem Xv7(k:Nat) : ranI (k+1)=ranI k++[(k:Int)]:=by unfold ranI;rw [List.range_succ,List.map_append];rfl
theorem X8p(k:Nat) : (inN k).length=k:=by simp [inN]
theorem X9e(k:Nat) : (ranI k).length=k:=by simp [ranI]
def ofB0(c:Cx) : Br:=⟨⟨c.n,inN c.n.toNat,[],0,0⟩,ranI c.n.toNat,List.replicate c.n.toNat false⟩
def ofB1(c:Cx) : Br:=c.gs.foldl gtB (ofB0 c)
def ofK(c:Cx)(j:Nat) : Br:=(List.range j).foldl (fun x (q:Nat)=>nodB x 2 (q:Int) (q:Int)) (ofB1 c)
def ofD(c:Cx) : Dg:=outD (ofK c c.n.toNat).d
theorem Xhx(c:Cx)(j:Nat) : ofK c (j+1)=nodB (ofK c j) 2 (j:Int) (j:Int):=by unfold ofK;rw [List.range_succ,List.foldl_append];rfl
theorem Xbz{c:Cx}(hn:1<=c.n/\c.n<=5) : BrOk c.n.toNat (ofB0 c):=by
 refine ⟨X9e _,List.length_replicate,fun y hy=>?_,fun y hy=>?_⟩
 ·obtain ⟨i,hi,rfl⟩:=W6.1 hy
  have:=W2.1 hi
  show 0<=(i:Int)/\(i:Int)<((inN _).length:Int)
  rw [X8p]
  omega
 ·obtain ⟨i,hi,rfl⟩:=W6.1 hy
  have:=W2.1 hi
  show 0<=(i:Int)/\(i:Int)<=7
  omega
theorem Xpn{N M:Nat}{ws:List Wr}(h:RgW N ws)(hN:N<=M) : RgW M ws:=fun x hx=>by have:=h x hx;omega
def BrG(x:Br) : Prop:=RgW x.d.ns.length x.d.ws
theorem Xlw{n:Nat}{x:Br}(h:BrOk n x)(hg:BrG x){k p q:Int}(hq:0<=q/\q.toNat<n) : BrG (nodB x k p q):=by
 have h1:=h.at hq;have hl:=(X8q x k p q).1
 unfold BrG
 rw [hl]
 exact X9j (Xpn hg (by omega)) (by omega) (by omega)
theorem Xk1{n:Nat}{x:Br}(h:BrOk n x)(hg:BrG x){q:Int}(hq:0<=q/\q.toNat<n) : BrG (plcB x q):=by
 unfold plcB
 split
 ·exact Xlw h hg hq
 ·exact hg
theorem Xcx{n:Nat}{x:Br}(h:BrOk n x)(hg:BrG x){q:Int}(hq:0<=q/\q.toNat<n)(m:Int) : BrG (trnB x q m):=by
 have h1:=Xk1 h hg hq
 show RgW (adN _ _ _).length (plcB x q).d.ws
 rw [X1u]
 exact h1
theorem Xue{n:Nat}{x:Br}(h:BrOk n x)(hg:BrG x){p q:Int}(hp:0<=p/\p.toNat<n)(hq:0<=q/\q.toNat<n) : BrG (czB x p q):=by
 have k1:=X4b h p
 have k2:=X4b k1 q
 have h1:=Xk1 k1 (Xk1 h hg hp) hq
 have a1:=k1.at hp
 have a2:=k2.at hq
 have l2:=X4w (plcB x p) q
 unfold czB
 dsimp only
 split
 ·exact Xd6 h1 _
 ·exact X9j (N:=(plcB (plcB x p) q).d.ns.length) h1 ⟨a1.1,by omega⟩ ⟨a2.1,by omega⟩
theorem Y4b{n:Nat}{x:Br}(h:BrOk n x)(hx:BrG x){g:Gt}(hg:gOk (n:Int) g=true) : BrG (gtB x g):=by
 have ha:=Xdt hg;have hb:=Xdh hg
 unfold gtB
 split
 ·exact hx
 split
 ·exact Xcx (X2a h _) hx ha _
 split
 ·exact Xcx (X2a (X5f h _ _) _) (Xcx h hx ha _) ha _
 split
 ·exact Xue (X2a h _) hx ha hb
 split
 ·exact Xue h hx ha hb
 split
 ·exact hx
 split
 ·exact hx
 ·exact Xcx h hx ha _
theorem Xm0{n:Nat} : ∀ (l:List Gt) (x:Br),BrOk n x->BrG x->(∀ g ∈ l,gOk (n:Int) g=true)->BrOk n (l.foldl gtB x)/\BrG (l.foldl gtB x)/\(l.foldl gtB x).d.ns.length<=x.d.ns.length+3*l.length/\(l.foldl gtB x).d.ws.length<=x.d.ws.length+3*l.length
 | [],x,h,hg,_=>⟨h,hg,by simp,by simp⟩
 | g::l,x,h,hg,hl=>by
  have h0:=hl g (by simp)
  have h1:=Xm0 l (gtB x g) (Xku h h0) (Y4b h hg h0) fun z hz=>hl z (by simp [hz])
  have h2:=Xl3 x g
  rw [List.foldl_cons,Qs]
  exact ⟨h1.1,h1.2.1,by omega,by omega⟩
theorem Xtw{c:Cx}(hc:cOk c=true) : ∀ j,j<=c.n.toNat->BrOk c.n.toNat (ofK c j)/\BrG (ofK c j)/\(ofK c j).d.ns.length<=c.n.toNat+3*c.gs.length+j/\(ofK c j).d.ws.length<=3*c.gs.length+j
 | 0,_=>by
  obtain ⟨n9,hn9,hn1,hn5⟩:=Xas hc
  have hcn:c.n=((c.n.toNat:Nat) : Int):=by omega
  have h:=Xm0 c.gs (ofB0 c) (Xbz ⟨by omega,by omega⟩) (fun x hx=>by cases hx) (fun g hg=>by
   obtain ⟨i,hi⟩:=List.mem_iff_getElem?.1 hg
   exact Xm7 hc hcn hi)
  have e1:(ofB0 c).d.ns.length=c.n.toNat:=X8p _
  have e2:(ofB0 c).d.ws.length=0:=rfl
  refine ⟨h.1,h.2.1,?_,?_⟩
  ·show (ofB1 c).d.ns.length<=_
   have:=h.2.2.1
   unfold ofB1
   omega
  ·show (ofB1 c).d.ws.length<=_
   have:=h.2.2.2
   unfold ofB1
   omega
 | j+1,hj=>by
  obtain ⟨n9,hn9,hn1,hn5⟩:=Xas hc
  obtain ⟨h1,h2,h3,h4⟩:=Xtw hc j (by omega)
  have h5:=X8q (ofK c j) 2 (j:Int) (j:Int)
  rw [Xhx]
  exact ⟨Xby h1 ⟨by omega,by omega⟩,Xlw h1 h2 ⟨by omega,by omega⟩,by omega,by omega⟩
def oddP(d:Dg)(s k:Int) : Int:=s+(d.ns.getD k.toNat nZ).p % 2
def oddD(d:Dg) : Int:=(spL d.ns).foldl (oddP d) 0
theorem Xj4{d:Dg} : ∀ (l:List Int) (s:Int),s<=l.foldl (oddP d) s/\l.foldl (oddP d) s<=s+l.length
 | [],s=>by simp
 | k::l,s=>by
  have h:=Xj4 (d:=d) l (oddP d s k)
  rw [List.foldl_cons,Qs]
  have:oddP d s k=s+(d.ns.getD k.toNat nZ).p % 2:=rfl
  omega
theorem Xcj{ns:List Nd}{j:Nat}{u:Int}(h:(spL ns)[j]? = some u) : 0<=u/\u.toNat<ns.length:=by
 have hm:=Qe h
 unfold spL spK at hm
 obtain ⟨i,hi,rfl⟩:=W6.1 hm
 have:=W2.1 (List.mem_filter.1 hi).1
 omega
theorem Y0n(x:World)(d:Dg)(md:Nat)(h:md=d.ns.length)(Ad:Option Addr)(cd:Nat)(A:Rd x x.heap.size 81 encNd Ad d.ns)(Bd:Option Addr)(dd:Nat)(aB:Rd x x.heap.size 83 encWr Bd d.ws)(j:d.ws.length<=dd)(hG:goodD d=true) : Ret Tryz.prog 40 [.agg #[vi d.n,.slice Ad md cd,.slice Bd d.ws.length dd,vi d.t,vi d.r]] x (fun v w=>v=vi (oddD d)/\Below x.heap.size x w):=by
 have hD:=X0t hG;have aU:=hD.m;have aI:=X4u d.ns d.ns.length;refine enter Tryz.func40 rfl 24 rfl rfl ?_;intro a g
 have o:=bz x
 refine Zs g fun _ aJ=>?_;refine Zf (X0n (zs:=[vi d.n,.slice Ad md cd,.slice Bd d.ws.length dd,vi d.t,vi d.r]) rfl rfl) ?_;rintro _ w1 ⟨b4,rfl,aK,hE,i⟩;have aR:=Q0 o.size aK;have o:=btr o hE;refine Za rfl<|Zx aJ fun a g _ aL=>?_;refine Za rfl<|ZX aL fun a g _ aM=>?_;refine Zs g fun _ aN=>?_;refine Ze (Vn X2 i)<|Zf (Vc (Xac _ d md h Ad cd (A.bx o).top Bd dd (aB.bx o).top j (by omega)) X67) ?_;rintro _ w2 ⟨A8,c8,rfl,q,hE⟩;have q:=q.lower o.size;have i:=i.bw hE;have o:=btr o hE;refine Ze (X0c rfl Xj)<|Zm rfl<|Zt aN fun a g=>?_;refine Q8<|X04 (σ:=Nat×Int) (fun (s:Nat×Int) (a:Act) (w:World)=>match s with|(k,c)=>Fr a 24 [(1,(pZ9 b4)),(3,vi c),(7,.slice A8 (spL d.ns).length c8),(8,vi ((spL d.ns).length:Int)),(9,vi (k:Int))]/\(k<=(spL d.ns).length)/\(c=((spL d.ns).take k).foldl (oddP d) 0)/\Blk w b4 39 [vi d.n,.slice Ad md cd,.slice Bd d.ws.length dd,vi d.t,vi d.r]/\Own w x.heap.size 3 1 encI A8 c8 (spL d.ns)/\d.ws.length<=dd/\Below x.heap.size x w) (fun (s:Nat×Int)=>match s with|(k,c)=>(spL d.ns).length-k) (0,0) ?_ ?_
 ·exact ⟨g.sb,(Qf _),rfl,i,q,j,o⟩
 rintro ⟨k,c⟩ a w3 ⟨g,hk,hc,i,q,j,o⟩;refine Zs g fun _ aO=>?_;refine Ze (X0q rfl rfl)<|ZX aO fun a g _ aC=>?_
 refine Xi g rfl (fun e=>?_) (fun e=>?_)
 ·have a6:=e;have e:=Q2 e
  obtain ⟨aV,aS⟩:=X5 (l:=(spL d.ns)) (k:=k) (by omega)
  obtain ⟨u9,a7⟩:=X5 (l:=spL d.ns) (k:=k) (by have:=e;omega)
  have aW:=Xcj a7;have aP:=X1n hD.p u9.toNat;have aD:=X39 (f:=oddP d) (b:=0) a7
  rw [<- hc] at aD
  have aQ:=Xj4 (d:=d) ((spL d.ns).take k) 0
  rw [<- hc,Qn] at aQ
  have aT:(spL d.ns).length<=d.ns.length:=aI
  refine Q7<|aC _ _<|Q5 fun _ aE=>?_;refine Q8<|Zs g fun _ aF=>?_;refine Zi (k:=k) (u:=u9) (enc:=encI) (l:=(spL d.ns)) tv0 rfl rfl Xj X09 X9 q.rd a7 rfl ?_;intro aX a8;refine Ze (X0 rfl X7 a8)<|Za rfl<|Zt aF fun a g=>?_;refine Zr g<|Zm rfl<|Ze (Vd rfl Xg 1)<|Ze (X0 rfl Xy (i.at 1))<|Zm rfl<|Zj (k:=u9.toNat) (u:=(d.ns.getD u9.toNat nZ)) (enc:=encNd) (l:=d.ns) tv0 rfl h rfl Xl X08 Xw (A.bx o) (Xb (by omega)) (by omega) ?_;intro aY aA;refine Ze (X2l rfl X06)<|Ze (X0 rfl X7 (aA.drop 1))<|Ze (Vx (X33 rfl rfl rfl) (Int.tmod_eq_emod_of_nonneg aP.1))<|Ze (Xm rfl rfl (by omega) (by omega))<|Za rfl ?_;refine Zn fun a g=>?_;refine Xc<|aE _ _<|Zr g<|Ze (Xm rfl rfl (by omega) (by omega))<|Zm rfl ?_;refine Zn fun a g=>?_;refine Xd ?_;exact ⟨(k+1,c+((d.ns.getD u9.toNat nZ).p % 2)),⟨g.sb,(by omega),(by rw [aD];rfl),i,q,j,o⟩,(by first|omega|(dsimp only;omega))⟩
 have a6:=e;have e:=Q1 e
 have aG:oddD d=c:=by rw [hc,Qi (by have:=e;omega)];rfl
 refine Q9<|Xk<|Xk<|X03 ?_;refine aM _ _<|Zs g fun _ aH=>?_;refine Zm rfl<|Za rfl<|Zt aH fun a g=>?_
 refine Q6 (X6 g (Xu g rfl rfl) ?_)
 exact ⟨by rw [aG],o⟩
abbrev wrV(x:Wr) : Value:=.agg #[.int .i64 x.a,.int .i64 x.b,.bool x.h]
abbrev ndV(x:Nd) : Value:=.agg #[.int .i64 x.k,.int .i64 x.p]
theorem Xgs(d:Nat)(x y:Nd)(w:World) : (Op.equalIn (d+2) 81 (ndV x) (ndV y)).run Tryz.prog w=.ok (decide (x=y)) w:=by
 have hf:=X60 Tryz.underlying81;refine (run_equalIn_struct w (d+1) 81 _ _ (by rw [hf];exact Tryz.underlying81) (by kernel_rfl)).trans ?_
 rw [hf]
 have:decide (x=y)=(decide (x.k=y.k)&&(decide (x.p=y.p)&&true)):=by
  obtain ⟨a,b⟩:=x;obtain ⟨a',b'⟩:=y
  simp
 rw [this]
 refine X1p (by decide) X7 Tryz.underlying3 rfl rfl fun _=>?_;refine X1p (by decide) X7 Tryz.underlying3 rfl rfl fun _=>?_
 rfl
theorem Xgc:Tryz.prog.eqGuardType Tryz.prog.depth 81=false:=by kernel_rfl
def cmW(x y:Wr) : Int:=if cmI x.a y.a≠0 then cmI x.a y.a else cmI x.b y.b
def orI:List Int->Int
 | []=>0
 | x::l=>if x≠0 then x else orI l
theorem Xta:∀ {l:List Int} {k:Nat} {u:Int},(∀ x ∈ l.take k,x=0)->l[k]? = some u->u≠0->orI l=u
 | [],_,_,_,h,_=>by simp at h
 | x::l,0,u,_,h,hu=>by
  simp only [List.getElem?_cons_zero,Option.some.injEq] at h
  subst h
  exact Q4 hu
 | x::l,k+1,u,ha,h,hu=>by
  have hx:x=0:=ha x (by simp)
  unfold orI
  rw [Q3 (by simpa using hx)]
  exact Xta (l:=l) (k:=k) (fun z hz=>ha z (by simp [hz])) (by simpa using h) hu
theorem Xyx:∀ {l:List Int},(∀ x ∈ l,x=0)->orI l=0
 | [],_=>rfl
 | x::l,ha=>by
  have hx:x=0:=ha x (by simp)
  unfold orI
  rw [Q3 (by simpa using hx)]
  exact Xyx fun z hz=>ha z (by simp [hz])
theorem Xtb(x y:Wr) : orI [cmI x.a y.a,cmI x.b y.b]=cmW x y:=by
 unfold orI cmW
 split
 ·rfl
 ·unfold orI
  split
  ·rfl
  ·rename_i h;simp only [ne_eq,Decidable.not_not] at h;rw [h];rfl
def fnI(ns:List Nd)(x:Nd) : Int:=idxF ns fun y=>decide (x=y)
def nokI(n:Int)(x:Nd) : Bool:=if (x.k==0)=true then x.p==0 else if (x.k==1||x.k==2)=true then inR x.p 0 (n-1) else if (x.k==3)=true then inR x.p 0 7 else false
def bnI(ns:List Nd) : Int:=((ns.filter fun x=>x.k==1||x.k==2).length:Int)
theorem Y3z{ns:List Nd}{j:Nat}{x:Nd}(hj:ns[j]? = some x)(h:(x.k==1||x.k==2)=true) : bnI (ns.take (j+1))=bnI (ns.take j)+1:=by
 unfold bnI
 rw [X3k (q:=fun x=>x.k==1||x.k==2) hj,Q4 h,Qh]
 rfl
theorem Y36{ns:List Nd}{j:Nat}{x:Nd}(hj:ns[j]? = some x)(h:(x.k==1||x.k==2)=false) : bnI (ns.take (j+1))=bnI (ns.take j):=by
 unfold bnI
 rw [X3k (q:=fun x=>x.k==1||x.k==2) hj,Q3 (by rw [h];decide),List.append_nil]
theorem Xzz(ns:List Nd)(j:Nat) : 0<=bnI (ns.take j)/\bnI (ns.take j)<=j:=by
 have h1:=List.length_filter_le (fun x:Nd=>x.k==1||x.k==2) (ns.take j)
 rw [Qn] at h1
 unfold bnI
 omega
def heQ(d:Dg)(q:Nat) : Bool:=!(decide (fnI d.ns ⟨1,q⟩<0)||decide (fnI d.ns ⟨2,q⟩<0))
def heD(d:Dg) : Bool:=(List.range d.n.toNat).all (heQ d)&&bnI d.ns==2*d.n
theorem Xhk{α:Type}{l:List α}{q:α->Bool} : decide (0<=idxF l q)=l.any q:=by
 rcases X51 l q with ⟨h1,h2⟩|⟨k,x,h1,h2,h3⟩
 ·rw [h1,W7.2 fun x hx=>by rw [h2 x hx];decide]
  rfl
 ·rw [h1,List.any_eq_true.2 ⟨x,Qe h2,h3⟩]
  simp
def wvQ(d:Dg)(i:Nat) : Bool:=!(decide ((d.ws.getD i wZ).a<0)||decide ((d.ws.getD i wZ).b<=(d.ws.getD i wZ).a)||decide ((d.ns.length:Int)<=(d.ws.getD i wZ).b)||(decide (0<(i:Int))&&decide (0<=cmW (d.ws.getD (i-1) wZ) (d.ws.getD i wZ))))
def nvQ(d:Dg)(i:Nat) : Bool:=!(((d.ns.getD i nZ).k==0&&cnW d.ws (i:Int) != 0)||(((d.ns.getD i nZ).k==1||(d.ns.getD i nZ).k==2)&&cnW d.ws (i:Int) != 1))
def hvQ(d:Dg) : Bool:=!(!(inR d.n 1 5)||decide (40<(d.ns.length:Int))||!(inR d.t 0 7)||!(inR d.r (-60) 60)||(d.ns.any fun x=>!nokI d.n x)||!(heD d))
def ivD(d:Dg) : Bool:=hvQ d&&(List.range d.ws.length).all (wvQ d)&&(List.range d.ns.length).all (nvQ d)
theorem Xrl{d:Dg}{i:Nat}{u:Wr}(hu:d.ws[i]? = some u) : wvQ d i = !(decide (u.a<0)||decide (u.b<=u.a)||decide ((d.ns.length:Int)<=u.b)||(decide (0<(i:Int))&&decide (0<=cmW (d.ws.getD (i-1) wZ) u))):=by
 have h:d.ws.getD i wZ=u:=by rw [Qa,hu];rfl
 unfold wvQ
 rw [h]
theorem Xsx{d:Dg}{i:Nat}{u:Nd}(hu:d.ns[i]? = some u) : nvQ d i = !((u.k==0&&cnW d.ws (i:Int) != 0)||((u.k==1||u.k==2)&&cnW d.ws (i:Int) != 1)):=by
 have h:d.ns.getD i nZ=u:=by rw [Qa,hu];rfl
 unfold nvQ
 rw [h]
theorem Y3b{d:Dg}(h:(!(inR d.n 1 5)||decide (40<(d.ns.length:Int))||!(inR d.t 0 7)||!(inR d.r (-60) 60)||(d.ns.any fun x=>!nokI d.n x)||!(heD d))=true) : ivD d=false:=by
 unfold ivD hvQ;rw [h];rfl
theorem Y4f{d:Dg}{i:Nat}(hi:i<d.ws.length)(h:wvQ d i=false) : ivD d=false:=by
 unfold ivD
 rw [X5h (q:=wvQ d) hi h,Bool.and_false,Bool.false_and]
theorem Y4d{d:Dg}{i:Nat}(hi:i<d.ns.length)(h:nvQ d i=false) : ivD d=false:=by
 unfold ivD
 rw [X5h (q:=nvQ d) hi h,Bool.and_false]
theorem Y40{d:Dg}(h:(!(inR d.n 1 5)||decide (40<(d.ns.length:Int))||!(inR d.t 0 7)||!(inR d.r (-60) 60)||(d.ns.any fun x=>!nokI d.n x)||!(heD d))=false)(h2:∀ i,i<d.ws.length->wvQ d i=true)(h3:∀ i:Nat,i<d.ns.length->nvQ d i=true) : ivD d=true:=by
 unfold ivD hvQ
 rw [h,X4s (q:=wvQ d) h2,X4s (q:=nvQ d) h3]
 rfl
theorem Xsd(i:World)(Al:Option Addr)(cl:Nat)(l:List Wr)(aA:Rd i i.heap.size 83 encWr Al l)(kq:FuncId)(pq:List Value)(Fq:FuncF Tryz.prog kq)(q:Wr->Bool)(hq:∀ x w,Below i.heap.size i w->Ret Tryz.prog kq ([wrV x]++pq) w (fun v w'=>v=.bool (q x)/\Below w.heap.size w w'))(aN:l.length<=1000000000) : Ret Tryz.prog 160 [.slice Al l.length cl,.func (.func kq) #[] pq.toArray] i (fun v w=>v=vi (idxF l q)/\Below i.heap.size i w):=by
 refine enter Tryz.func160 rfl 19 rfl rfl ?_;intro a c
 have j:=bz i
 refine Zs c fun _ aG=>?_;refine Za rfl<|ZX aG fun a c _ aH=>?_;refine Zs c fun _ aI=>?_;refine Zm rfl<|Ze (X0c rfl Xt)<|Zm rfl<|Zt aI fun a c=>?_;refine Q8<|X04 (σ:=Nat) (fun (k:Nat) (a:Act) (w:World)=>Fr a 19 [(0,.slice Al l.length cl),(1,.func (.func kq) #[] pq.toArray),(7,vi (l.length:Int)),(8,vi (k:Int))]/\(k<=l.length)/\(((l.take k).all fun x=>!q x)=true)/\Below i.heap.size i w) (fun (k:Nat)=>l.length-k) 0 ?_ ?_
 ·exact ⟨c.sb,(Qf _),rfl,j⟩
 rintro k a w1 ⟨c,hk,f,j⟩;refine Zs c fun _ aJ=>?_;refine Ze (X0q rfl rfl)<|ZX aJ fun a c _ aK=>?_
 refine Xi c rfl (fun d=>?_) (fun d=>?_)
 ·have aB:=d;have d:=Q2 d
  obtain ⟨u8,aO⟩:=X5 (l:=l) (k:=k) (by omega)
  obtain ⟨m,a6⟩:=X5 (l:=l) (k:=k) (by have:=d;omega)
  refine Q7<|aK _ _<|Q5 fun _ aL=>?_;refine Q8<|Zs c fun _ aC=>?_;refine Zm rfl<|Za rfl<|Zx aC fun a c _ aD=>?_;refine Zm rfl<|Zm rfl<|Zm rfl<|Zi (k:=k) (u:=m) (enc:=encWr) (l:=l) tv0 rfl rfl Xt X0d Xz (aA.bx j) a6 rfl ?_;intro aP a7;refine Ze (X01 (l:=[vi m.a,vi m.b,.bool m.h]) rfl X16 a7 rfl)<|Zf (X6n (cs:=pq) (vs:=[.agg #[vi m.a,vi m.b,.bool m.h]]) rfl rfl Fq (hq m _ j)) ?_;rintro _ w2 ⟨rfl,hE⟩;have j:=btr j hE;refine Zt aD fun a c=>?_
  refine Xi c rfl (fun e=>?_) (fun e=>?_)
  ·have a8:=e
   have g:idxF l q=(k:Int):=X95 f a6 e
   refine Zs c fun _ aE=>?_;refine Zm rfl<|Za rfl<|Zt aE fun a c=>?_;refine Q6<|X02<|Xa<|Xa ?_;refine X02<|Xa<|X6 c (Xu c rfl rfl) ?_;exact ⟨by rw [g],j⟩
  have a8:=e;have aM:=X79 f a6 e;refine Q7<|Xc<|aL _ _<|Zr c ?_;refine Ze (Xm rfl rfl (by omega) (by omega))<|Zm rfl ?_;refine Zn fun a c=>?_;refine Xd ?_;exact ⟨k+1,⟨c.sb,(by omega),aM,j⟩,(by omega)⟩
 have aB:=d;have d:=Q1 d
 have g:idxF l q = -1:=X9q f (by have:=d;omega)
 refine Q9<|Xk<|Xk<|X03 ?_;refine aH _ _<|Zs c fun _ aF=>?_;refine Za rfl<|Zt aF fun a c=>?_
 refine Q6 (X6 c (Xu c rfl rfl) ?_)
 exact ⟨by rw [g],j⟩
theorem Xyi(g:World)(Al:Option Addr)(cl:Nat)(l:List Nd)(aA:Rd g g.heap.size 81 encNd Al l)(kq:FuncId)(pq:List Value)(Fq:FuncF Tryz.prog kq)(q:Nd->Bool)(hq:∀ x w,Below g.heap.size g w->Ret Tryz.prog kq ([ndV x]++pq) w (fun v w'=>v=.bool (q x)/\Below w.heap.size w w'))(aN:l.length<=1000000000) : Ret Tryz.prog 148 [.slice Al l.length cl,.func (.func kq) #[] pq.toArray] g (fun v w=>v=vi (idxF l q)/\Below g.heap.size g w):=by
 refine enter Tryz.func148 rfl 19 rfl rfl ?_;intro a b
 have i:=bz g
 refine Zs b fun _ aG=>?_;refine Za rfl<|ZX aG fun a b _ aH=>?_;refine Zs b fun _ aI=>?_;refine Zm rfl<|Ze (X0c rfl Xl)<|Zm rfl<|Zt aI fun a b=>?_;refine Q8<|X04 (σ:=Nat) (fun (k:Nat) (a:Act) (w:World)=>Fr a 19 [(0,.slice Al l.length cl),(1,.func (.func kq) #[] pq.toArray),(7,vi (l.length:Int)),(8,vi (k:Int))]/\(k<=l.length)/\(((l.take k).all fun x=>!q x)=true)/\Below g.heap.size g w) (fun (k:Nat)=>l.length-k) 0 ?_ ?_
 ·exact ⟨b.sb,(Qf _),rfl,i⟩
 rintro k a w1 ⟨b,hk,e,i⟩;refine Zs b fun _ aJ=>?_;refine Ze (X0q rfl rfl)<|ZX aJ fun a b _ aK=>?_
 refine Xi b rfl (fun c=>?_) (fun c=>?_)
 ·have aB:=c;have c:=Q2 c
  obtain ⟨u8,aO⟩:=X5 (l:=l) (k:=k) (by omega)
  obtain ⟨u9,a6⟩:=X5 (l:=l) (k:=k) (by have:=c;omega)
  refine Q7<|aK _ _<|Q5 fun _ aL=>?_;refine Q8<|Zs b fun _ aC=>?_;refine Zm rfl<|Za rfl<|Zx aC fun a b _ aD=>?_;refine Zm rfl<|Zm rfl<|Zm rfl<|Zi (k:=k) (u:=u9) (enc:=encNd) (l:=l) tv0 rfl rfl Xl X08 Xw (aA.bx i) a6 rfl ?_;intro aP a7;refine Ze (X01 (l:=[vi u9.k,vi u9.p]) rfl X23 a7 rfl)<|Zf (X6n (cs:=pq) (vs:=[.agg #[vi u9.k,vi u9.p]]) rfl rfl Fq (hq u9 _ i)) ?_;rintro _ w2 ⟨rfl,hE⟩;have i:=btr i hE;refine Zt aD fun a b=>?_
  refine Xi b rfl (fun d=>?_) (fun d=>?_)
  ·have a8:=d
   have f:idxF l q=(k:Int):=X95 e a6 d
   refine Zs b fun _ aE=>?_;refine Zm rfl<|Za rfl<|Zt aE fun a b=>?_;refine Q6<|X02<|Xa<|Xa ?_;refine X02<|Xa<|X6 b (Xu b rfl rfl) ?_;exact ⟨by rw [f],i⟩
  have a8:=d;have aM:=X79 e a6 d;refine Q7<|Xc<|aL _ _<|Zr b ?_;refine Ze (Xm rfl rfl (by omega) (by omega))<|Zm rfl ?_;refine Zn fun a b=>?_;refine Xd ?_;exact ⟨k+1,⟨b.sb,(by omega),aM,i⟩,(by omega)⟩
 have aB:=c;have c:=Q1 c
 have f:idxF l q = -1:=X9q e (by have:=c;omega)
 refine Q9<|Xk<|Xk<|X03 ?_;refine aH _ _<|Zs b fun _ aF=>?_;refine Za rfl<|Zt aF fun a b=>?_
 refine Q6 (X6 b (Xu b rfl rfl) ?_)
 exact ⟨by rw [f],i⟩
theorem Y1c(w0:World)(x:Wr)(p q:Int)(ba bb:Nat)(d:Blk w0 ba 3 [vi p])(e:Blk w0 bb 3 [vi q]) : Ret Tryz.prog 199 [.agg #[vi x.a,vi x.b,.bool x.h],(pZ9 ba),(pZ9 bb)] w0 (fun v w=>v=.bool (isW p q x)/\Below w0.heap.size w0 w):=by
 have a7:=d.lt;have a8:=e.lt;refine enter Tryz.func199 rfl 19 rfl rfl ?_;intro a f
 have hW:=bz w0
 refine Zs f fun _ aA=>?_;refine Zf (X0n (zs:=[vi x.a,vi x.b,.bool x.h]) rfl rfl) ?_;rintro _ w1 ⟨b2,rfl,aB,hE,a6⟩;have aD:=Q0 hW.size aB;have d:=d.bw hE;have e:=e.bw hE;have hW:=btr hW hE;refine Za rfl<|ZX aA fun a f _ aC=>?_;refine X0b (fun a w=>Fr a 19 [(4,.bool ((x.a==(min p q))&&(x.b==(max p q))))]/\w1=w) ?_ ?_
 ·refine Zr f<|Ze (Vd rfl X0r 0)<|Ze (X0 rfl X7 (a6.at 0))<|Ze (X0 rfl X7 (d.at 0))<|Ze (X0 rfl X7 (e.at 0))<|Ze (Xxl rfl rfl)<|Ze (X0m rfl rfl)<|Zm rfl ?_
  refine Zg 11 rfl (fun c=>?_) (fun c=>?_)
  ·refine Zv (gW c) (Vd rfl X0s 1) ?_;refine Zv (gW c) (X0 rfl X7 (a6.at 1)) ?_;refine Zv (gW c) (X0 rfl X7 (d.at 0)) ?_;refine Zv (gW c) (X0 rfl X7 (e.at 0)) ?_;refine Zv (gW c) (Xz6 rfl rfl) ?_;refine Zv (gW c) (X0m rfl rfl) ?_;refine Ze (X4 rfl c rfl)<|Za rfl ?_;refine Zn fun a f=>?_;exact ⟨f.sub ⟨X1 rfl (by simp [c]),trivial⟩,rfl⟩
  (iterate 6 refine Zp (gP c) ?_);refine Ze (Xe rfl c rfl)<|Za rfl ?_;refine Zn fun a f=>?_;exact ⟨f.sub ⟨X1 rfl (by simp [c]),trivial⟩,rfl⟩
 rintro a _ ⟨f,rfl⟩;refine aC _ _ ?_
 refine Q6 (X6 f (Xu f rfl rfl) ?_)
 exact ⟨rfl,hW⟩
theorem Xs3(g:World)(d:Dg)(md:Nat)(aG:md=d.ns.length)(Ad:Option Addr)(cd:Nat)(aH:Rd g g.heap.size 81 encNd Ad d.ns)(Bd:Option Addr)(dd:Nat)(a6:Rd g g.heap.size 83 encWr Bd d.ws)(aI:d.ws.length<=dd)(p:Int)(q:Int)(a8:d.ws.length<=1000000000) : Ret Tryz.prog 165 [.agg #[vi d.n,.slice Ad md cd,.slice Bd d.ws.length dd,vi d.t,vi d.r],vi p,vi q] g (fun v w=>v=vi (fdW d.ws p q)/\Below g.heap.size g w):=by
 refine enter Tryz.func165 rfl 11 rfl rfl ?_;intro a hf
 have b:=bz g
 refine Zs hf fun _ aA=>?_;refine Zf (X0n (zs:=[vi d.n,.slice Ad md cd,.slice Bd d.ws.length dd,vi d.t,vi d.r]) rfl rfl) ?_;rintro _ w1 ⟨b4,rfl,aB,e,c⟩;have aJ:=Q0 b.size aB;have b:=btr b e;refine Zf (X0n (zs:=[vi p]) rfl rfl) ?_;rintro _ w2 ⟨b5,rfl,aC,e,f⟩;have aK:=Q0 b.size aC;have c:=c.bw e;have b:=btr b e;refine Zf (X0n (zs:=[vi q]) rfl rfl) ?_;rintro _ w3 ⟨b6,rfl,aD,e,aE⟩
 have a7:b5≠b6:=by have:=f.lt;omega
 have aL:=Q0 b.size aD;have c:=c.bw e;have f:=f.bw e;have b:=btr b e;refine Za rfl<|Zx aA fun a hf _ aF=>?_;refine Ze (Vd rfl Xn 2)<|Ze (X0 rfl X0g (c.at 2))<|Ze (X3p (vs:=[(pZ9 b5),(pZ9 b6)]) rfl)<|Zf (Vc (Xsd _ Bd dd d.ws (a6.bx b).top 199 [(pZ9 b5),(pZ9 b6)] Xp7 (isW p q) (fun x w' hE'=>Y1c w' x p q _ _ (f.bw hE') (aE.bw hE')) a8) Xfq) ?_;rintro _ w4 ⟨rfl,e⟩;have b:=btr b e;refine Za rfl<|Zt aF fun a hf=>?_
 refine Q6 (X6 hf (Xu hf rfl rfl) ?_)
 exact ⟨rfl,b⟩
theorem X75(g:World)(d:Dg)(md:Nat)(a7:md=d.ns.length)(Ad:Option Addr)(cd:Nat)(a8:Rd g g.heap.size 81 encNd Ad d.ns)(Bd:Option Addr)(dd:Nat)(i:Rd g g.heap.size 83 encWr Bd d.ws)(aA:d.ws.length<=dd)(p:Int)(q:Int)(aD:d.ws.length<=1000000000) : Ret Tryz.prog 116 [.agg #[vi d.n,.slice Ad md cd,.slice Bd d.ws.length dd,vi d.t,vi d.r],vi p,vi q] g (fun v w=>v=vi (tyW d.ws p q)/\Below g.heap.size g w):=by
 have aL:=Xa9 d.ws p q
 have aE:∀ x:Bool,(if x=true then (1:Int) else 0)=0∨(if x=true then (1:Int) else 0)=1:=fun x=>by cases x;exact .inl rfl;exact .inr rfl
 refine enter Tryz.func116 rfl 22 rfl rfl ?_;intro a c
 have e:=bz g
 refine Zs c fun _ aF=>?_;refine Zf (X0n (zs:=[vi d.n,.slice Ad md cd,.slice Bd d.ws.length dd,vi d.t,vi d.r]) rfl rfl) ?_;rintro _ w1 ⟨b4,rfl,aG,hE,f⟩;have aM:=Q0 e.size aG;have e:=btr e hE;refine Za rfl<|Zx aF fun a c _ aH=>?_;refine Ze (Vn X2 f)<|Zm rfl<|Zm rfl<|Zf (Vc (Xs3 _ d md a7 Ad cd (a8.bx e).top Bd dd (i.bx e).top aA p q aD) Xg8) ?_;rintro _ w2 ⟨rfl,hE⟩;have f:=f.bw hE;have e:=btr e hE;refine Za rfl<|ZX aH fun a c _ aI=>?_;refine Zs c fun _ aJ=>?_;refine Zm rfl<|Ze (X0q rfl rfl)<|Zt aJ fun a c=>?_
 refine Xi c rfl (fun b=>?_) (fun b=>?_)
 ·have aB:=b;have b:=Q2 b
  have hz:tyW d.ws p q=0:=by unfold tyW;exact Q4 (by simpa using b)
  refine Zs c fun _ aK=>?_;refine Za rfl<|Zt aK fun a c=>?_;refine Q6<|Xa<|X6 c (Xu c rfl rfl) ?_;exact ⟨by rw [hz],e⟩
 have aB:=b;have b:=Q1 b
 have aN:0<=fdW d.ws p q:=by have h9:=b;simp at h9;omega
 have hz:tyW d.ws p q=1+(if (d.ws.getD (fdW d.ws p q).toNat wZ).h=true then 1 else 0):=by unfold tyW;rw [Q3 (by omega)];cases (d.ws.getD (fdW d.ws p q).toNat wZ).h<;>rfl
 have aO:=aE (d.ws.getD (fdW d.ws p q).toNat wZ).h;refine Q7<|aI _ _<|Zs c fun _ aC=>?_;refine Ze (Vd rfl Xn 2)<|Ze (X0 rfl X0g (f.at 2))<|Zm rfl<|Zi (k:=(fdW d.ws p q).toNat) (u:=(d.ws.getD (fdW d.ws p q).toNat wZ)) (enc:=encWr) (l:=d.ws) tv0 rfl rfl Xt X0d Xz (i.bx e) (Xb (by omega)) (by omega) ?_;intro aP a6;refine Ze (X2l rfl X3b)<|Ze (X0 rfl X6t (a6.drop 2))<|Zf (Vc (F59 _ ((d.ws.getD (fdW d.ws p q).toNat wZ).h)) Xa2) ?_;rintro _ _ ⟨rfl,rfl⟩;refine Ze (Xm rfl rfl (by omega) (by omega))<|Za rfl<|Zt aC fun a c=>?_
 refine Q6 (X6 c (Xu c rfl rfl) ?_)
 exact ⟨by rw [hz],e⟩
theorem X59(e:World)(d:Dg)(md:Nat)(f:md=d.ns.length)(Ad:Option Addr)(cd:Nat)(a6:Rd e e.heap.size 81 encNd Ad d.ns)(Bd:Option Addr)(dd:Nat)(aD:Rd e e.heap.size 83 encWr Bd d.ws)(aE:d.ws.length<=dd)(p:Int)(hN:md<=1000) : Ret Tryz.prog 74 [.agg #[vi d.n,.slice Ad md cd,.slice Bd d.ws.length dd,vi d.t,vi d.r],vi p] e (fun v w=>v=.bool (spI d.ns p)/\Below e.heap.size e w):=by
 refine enter Tryz.func74 rfl 20 rfl rfl ?_;intro a c
 have hW:=bz e
 refine Zs c fun _ aA=>?_;refine Zf (X0n (zs:=[vi d.n,.slice Ad md cd,.slice Bd d.ws.length dd,vi d.t,vi d.r]) rfl rfl) ?_;rintro _ w1 ⟨b4,rfl,aB,hE,a7⟩;have aF:=Q0 hW.size aB;have hW:=btr hW hE;refine Za rfl<|ZX aA fun a c _ aC=>?_;refine X0b (fun a w=>Fr a 20 [(4,.bool ((inR p 0 ((md:Int)-1))&&(((d.ns.getD p.toNat nZ).k)==3)))]/\w1=w) ?_ ?_
 ·refine Zr c<|Zm rfl<|Ze (Vd rfl Xg 1)<|Ze (X0 rfl Xy (a7.at 1))<|Ze (X0c rfl Xl)<|Ze (X11 rfl rfl (by omega) (by omega))<|Zf (Vc (F91 _ p 0 ((md:Int)-1)) X6d) ?_;rintro _ _ ⟨rfl,rfl⟩;refine Zm rfl ?_
  refine Zg 11 rfl (fun b=>?_) (fun b=>?_)
  ·have aG:=X0x.1 b;refine Zv (gW b) (Vd rfl Xg 1) ?_;refine Zv (gW b) (X0 rfl Xy (a7.at 1)) ?_;refine Zv (gW b) (X3 rfl) ?_;refine Zj (k:=p.toNat) (u:=(d.ns.getD p.toNat nZ)) (enc:=encNd) (l:=d.ns) ⟨_,_,rfl,rfl,b⟩ rfl f rfl Xl X08 Xw (a6.bx hW) (Xb (by omega)) (by omega) ?_;intro p8 a8;refine Zv (gW b) (X2l rfl X0v) ?_;refine Zv (gW b) (X0 rfl X7 (a8.drop 0)) ?_;refine Zv (gW b) (X0m rfl rfl) ?_;refine Ze (X4 rfl b rfl)<|Za rfl ?_;refine Zn fun a c=>?_;exact ⟨c.sub ⟨X1 rfl (by simp [b]),trivial⟩,rfl⟩
  (iterate 7 refine Zp (gP b) ?_);refine Ze (Xe rfl b rfl)<|Za rfl ?_;refine Zn fun a c=>?_;exact ⟨c.sub ⟨X1 rfl (by simp [b]),trivial⟩,rfl⟩
 rintro a _ ⟨c,rfl⟩;refine aC _ _ ?_
 refine Q6 (X6 c (Xu c rfl rfl) ?_)
 exact ⟨by unfold spI;rw [f],hW⟩
theorem X9i(A:World)(d:Dg)(md:Nat)(aP:md=d.ns.length)(Ad:Option Addr)(cd:Nat)(aQ:Rd A A.heap.size 81 encNd Ad d.ns)(Bd:Option Addr)(dd:Nat)(C:Rd A A.heap.size 83 encWr Bd d.ws)(q:d.ws.length<=dd)(p:Int)(aU:d.ws.length<=1000000000) : Ret Tryz.prog 102 [.agg #[vi d.n,.slice Ad md cd,.slice Bd d.ws.length dd,vi d.t,vi d.r],vi p] A (fun v w=>v=vi (cnW d.ws p)/\Below A.heap.size A w):=by
 refine enter Tryz.func102 rfl 29 rfl rfl ?_;intro a f
 have m:=bz A
 refine Zs f fun _ aH=>?_;refine Zf (X0n (zs:=[vi d.n,.slice Ad md cd,.slice Bd d.ws.length dd,vi d.t,vi d.r]) rfl rfl) ?_;rintro _ w1 ⟨b4,rfl,aI,hE,aJ⟩;have aR:=Q0 m.size aI;have m:=btr m hE;refine Za rfl<|Zx aH fun a f _ aK=>?_;refine Za rfl<|ZX aK fun a f _ aL=>?_;refine Zs f fun _ aM=>?_;refine Ze (Vd rfl Xn 2)<|Ze (X0 rfl X0g (aJ.at 2))<|Ze (X0c rfl Xt)<|Zm rfl<|Zt aM fun a f=>?_;refine Q8<|X04 (σ:=Nat×Int) (fun (s:Nat×Int) (a:Act) (w:World)=>match s with|(k,c)=>Fr a 29 [(1,vi p),(5,vi c),(9,.slice Bd d.ws.length dd),(10,vi (d.ws.length:Int)),(11,vi (k:Int))]/\(k<=d.ws.length)/\(c=cnW (d.ws.take k) p)/\d.ws.length<=dd/\Below A.heap.size A w) (fun (s:Nat×Int)=>match s with|(k,c)=>d.ws.length-k) (0,0) ?_ ?_
 ·exact ⟨f.sb,(Qf _),rfl,q,m⟩
 rintro ⟨k,c⟩ a w2 ⟨f,hk,hc,q,m⟩;have aB:=Xfm d.ws p k
 rw [<- hc] at aB
 refine Zs f fun _ aN=>?_;refine Ze (X0q rfl rfl)<|ZX aN fun a f _ aO=>?_
 refine Xi f rfl (fun g=>?_) (fun g=>?_)
 ·have o:=g;have g:=Q2 g
  obtain ⟨aV,aS⟩:=X5 (l:=d.ws) (k:=k) (by omega)
  obtain ⟨B,a6⟩:=X5 (l:=d.ws) (k:=k) (by have:=g;omega)
  have aB:=Xfm d.ws p k;refine Q7<|aO _ _<|Q5 fun _ D=>?_;refine Q8<|Zs f fun _ aC=>?_;refine Zi (k:=k) (u:=B) (enc:=encWr) (l:=d.ws) tv0 rfl rfl Xt X0d Xz (C.bx m) a6 rfl ?_;intro aW a7;refine Ze (X01 (l:=[vi B.a,vi B.b,.bool B.h]) rfl X16 a7 rfl)<|Zf (Xo (zs:=[vi 0,vi 0,.bool false]) X2m rfl) ?_;rintro _ w3 ⟨aX,rfl,E,hE,i⟩;have a8:=Q0 m.size E;have aD:=(C.bx m).away E;have m:=btr m hE;refine Zo (Vw [vi B.a,vi B.b,.bool B.h] X0d i) ?_;rintro _ w4 ⟨ho,hb⟩;have aT:=i;have m:=Below.oy m ho a8;have i:=hb;refine ZX aC fun a f _ aE=>?_;refine X0b (fun a w=>Fr a 29 [(1,vi p),(5,vi c),(9,.slice Bd d.ws.length dd),(10,vi (d.ws.length:Int)),(11,vi (k:Int)),(24,.bool ((B.a==p)||(B.b==p)))]/\w4=w) ?_ ?_
  ·refine Zr f<|Ze (Vd rfl X0r 0)<|Ze (X0 rfl X7 (i.at 0))<|Zm rfl<|Ze (X0m rfl rfl)<|Zm rfl ?_
   refine Zg 19 rfl (fun e=>?_) (fun e=>?_)
   ·(iterate 4 refine Zp (gP e) ?_);refine Ze (X4 rfl e rfl) ?_;refine Zn fun a f=>?_;exact ⟨f.sub ⟨rfl,rfl,rfl,rfl,rfl,X1 rfl (by simp [o,e]),trivial⟩,rfl⟩
   refine Zv (gW e) (Vd rfl X0s 1) ?_;refine Zv (gW e) (X0 rfl X7 (i.at 1)) ?_;refine Zv (gW e) (X3 rfl) ?_;refine Zv (gW e) (X0m rfl rfl) ?_;refine Ze (Xe rfl e rfl) ?_;refine Zn fun a f=>?_;exact ⟨f.sub ⟨rfl,rfl,rfl,rfl,rfl,X1 rfl (by simp [o,e]),trivial⟩,rfl⟩
  rintro a _ ⟨f,rfl⟩;refine aE _ _ ?_
  refine Xi f rfl (fun j=>?_) (fun j=>?_)
  ·have aA:=j;have x:=Y2p a6 j
   rw [<- hc] at x
   refine Zr f<|Zm rfl<|Ze (Xm rfl rfl (by omega) (by omega))<|Za rfl ?_;refine Zn fun a f=>?_;refine Xc<|D _ _<|Zr f<|Ze (Xm rfl rfl (by omega) (by omega))<|Zm rfl ?_;refine Zn fun a f=>?_;refine Xd ?_;exact ⟨(k+1,c+1),⟨f.sb,(by omega),(by rw [x]),q,m⟩,(by first|omega|(dsimp only;omega))⟩
  have aA:=j;have x:=Y2j a6 j
  rw [<- hc] at x
  refine Q7<|Xc<|D _ _<|Zr f ?_;refine Ze (Xm rfl rfl (by omega) (by omega))<|Zm rfl ?_;refine Zn fun a f=>?_;refine Xd ?_;exact ⟨(k+1,c),⟨f.sb,(by omega),(by rw [x]),q,m⟩,(by first|omega|(dsimp only;omega))⟩
 have o:=g;have g:=Q1 g
 have aF:c=cnW d.ws p:=by rw [hc,Qi (by have:=g;omega)]
 refine Q9<|Xk<|Xk<|X03 ?_;refine aL _ _<|Zs f fun _ aG=>?_;refine Zm rfl<|Za rfl<|Zt aG fun a f=>?_
 refine Q6 (X6 f (Xu f rfl rfl) ?_)
 exact ⟨by rw [aF],m⟩
theorem Y22(m:World)(Al:Option Addr)(cl:Nat)(l:List Nd)(o:Rd m m.heap.size 81 encNd Al l)(x:Nd)(aO:l.length<=1000000000) : Ret Tryz.prog 167 [.slice Al l.length cl,.agg #[vi x.k,vi x.p]] m (fun v w=>v=vi (fnI l x)/\Below m.heap.size m w):=by
 refine enter Tryz.func167 rfl 19 rfl rfl ?_;intro a c
 have f:=bz m
 refine Zs c fun _ aH=>?_;refine Zf (X0n (zs:=[vi x.k,vi x.p]) rfl rfl) ?_;rintro _ w1 ⟨b3,rfl,a8,hE,e⟩;have aN:=Q0 f.size a8;have aG:=(o.bx f).away a8;have f:=btr f hE;refine Za rfl<|ZX aH fun a c _ aI=>?_;refine Zs c fun _ aJ=>?_;refine Zm rfl<|Ze (X0c rfl Xl)<|Zm rfl<|Zt aJ fun a c=>?_;refine Q8<|X04 (σ:=Nat) (fun (k:Nat) (a:Act) (w:World)=>Fr a 19 [(0,.slice Al l.length cl),(3,(pZ9 b3)),(7,vi (l.length:Int)),(8,vi (k:Int))]/\(k<=l.length)/\(((l.take k).all fun y=>!decide (x=y))=true)/\Blk w b3 81 [vi x.k,vi x.p]/\Below m.heap.size m w) (fun (k:Nat)=>l.length-k) 0 ?_ ?_
 ·exact ⟨c.sb,(Qf _),rfl,e,f⟩
 rintro k a w2 ⟨c,hk,g,e,f⟩;refine Zs c fun _ aK=>?_;refine Ze (X0q rfl rfl)<|ZX aK fun a c _ aL=>?_
 refine Xi c rfl (fun d=>?_) (fun d=>?_)
 ·have aA:=d;have d:=Q2 d
  obtain ⟨u9,j⟩:=X5 (l:=l) (k:=k) (by omega)
  obtain ⟨u9,j⟩:=X5 (l:=l) (k:=k) (by have:=d;omega)
  refine Q7<|aL _ _<|Q5 fun _ aB=>?_;refine Q8<|Zs c fun _ aC=>?_;refine Zm rfl<|Za rfl<|ZX aC fun a c _ aD=>?_;refine X00 none (fun _=>false) mixed ?_;intro w3 hE;have e:=e.bw hE;have f:=btr f hE;refine Yb c<|Ye 0 rfl (Vn X23 e)<|Yo 1 rfl (fun _=>X3 rfl)<|Yo 2 rfl (fun _=>X3 rfl)<|Yi (k:=k) (u:=u9) (enc:=encNd) (l:=l) 3 rfl tv0 rfl rfl Xl X08 Xw (o.bx f) j rfl ?_;intro aP a6;refine Ye 4 rfl (X01 (l:=[vi u9.k,vi u9.p]) rfl X23 a6 rfl)<|Yo 5 rfl (fun _=>Xiw rfl rfl Xgc (fun w=>Xgs 9998 x u9 w)) ?_;refine Yd fun a c=>?_;refine aD _ _ ?_
  refine Xi c rfl (fun b=>?_) (fun b=>?_)
  ·have a7:=b;have b:=Q2 b
   have i:fnI l x=(k:Int):=X95 g j (by simpa using b)
   refine Zs c fun _ aE=>?_;refine Zm rfl<|Za rfl<|Zt aE fun a c=>?_;refine Q6<|X02<|Xa<|Xa ?_;refine X02<|Xa<|X6 c (Xu c rfl rfl) ?_;exact ⟨by rw [i],f⟩
  have a7:=b;have b:=Q1 b
  have aM:=X79 (q:=fun y=>decide (x=y)) g j (by simpa using b)
  refine Q7<|Xc<|aB _ _<|Zr c ?_;refine Ze (Xm rfl rfl (by omega) (by omega))<|Zm rfl ?_;refine Zn fun a c=>?_;refine Xd ?_;exact ⟨k+1,⟨c.sb,(by omega),aM,e,f⟩,(by omega)⟩
 have aA:=d;have d:=Q1 d
 have i:fnI l x = -1:=X9q g (by have:=d;omega)
 refine Q9<|Xk<|Xk<|X03 ?_;refine aI _ _<|Zs c fun _ aF=>?_;refine Za rfl<|Zt aF fun a c=>?_
 refine Q6 (X6 c (Xu c rfl rfl) ?_)
 exact ⟨by rw [i],f⟩
theorem Y1z(w0:World)(n:Int)(x:Nd)(hn:1<=n/\n<=1000) : Ret Tryz.prog 99 [vi n,.agg #[vi x.k,vi x.p]] w0 (fun v w=>v=.bool (nokI n x)/\Below w0.heap.size w0 w):=by
 refine enter Tryz.func99 rfl 25 rfl rfl ?_;intro a b
 have l:=bz w0
 refine Zs b fun _ aG=>?_;refine Zf (X0n (zs:=[vi x.k,vi x.p]) rfl rfl) ?_;rintro _ w1 ⟨b2,rfl,aH,hE,g⟩;have aN:=Q0 l.size aH;have l:=btr l hE;refine Za rfl<|ZX aG fun a b _ aI=>?_;refine Zs b fun _ aJ=>?_;refine Ze (Vd rfl X0v 0)<|Ze (X0 rfl X7 (g.at 0))<|Zt aJ fun a b=>?_;refine Q8<|Zs b fun _ aK=>?_;refine Ze (X0m rfl rfl)<|Za rfl<|Zt aK fun a b=>?_
 refine Xi b rfl (fun i=>?_) (fun i=>?_)
 ·have a8:=i
  have c:nokI n x=_:=Q4 i
  refine Zs b fun _ aL=>?_;refine Ze (Vd rfl X06 1)<|Ze (X0 rfl X7 (g.at 1))<|Ze (X0m rfl rfl)<|Za rfl<|Zt aL fun a b=>?_;refine Q6<|X02<|Xa<|X6 b (Xu b rfl rfl) ?_;exact ⟨by rw [c],l⟩
 have a8:=i
 have g0:=i
 refine Q5 fun _ aA=>?_;refine Zs b fun _ aM=>?_;refine Ze (X0m rfl rfl)<|Za rfl<|Zt aM fun a b=>?_
 refine Xi b rfl (fun d=>?_) (fun d=>?_)
 ·have j:=d
  have c:nokI n x=inR x.p 0 (n-1):=by unfold nokI;rw [g0,d];rfl
  refine Q7<|aA _ _<|Xeg b (X1 rfl j) ?_;refine Zs b fun _ aB=>?_;refine Ze (Vd rfl X06 1)<|Ze (X0 rfl X7 (g.at 1))<|Zm rfl<|Ze (X11 rfl rfl (by omega) (by omega))<|Zf (Vc (F91 _ x.p 0 (n-1)) X6d) ?_;rintro _ _ ⟨rfl,rfl⟩;refine Za rfl<|Zt aB fun a b=>?_;refine Q6<|X02<|Xa<|X6 b (Xu b rfl rfl) ?_;exact ⟨by rw [c],l⟩
 have j:=d
 have g1:=d
 refine Zr b<|Ze (X0m rfl rfl)<|Za rfl<|Zt aA fun a b=>?_
 refine Xi b rfl (fun e=>?_) (fun e=>?_)
 ·have a6:=e
  have c:nokI n x=inR x.p 0 (n-1):=by unfold nokI;rw [g0,g1,e];rfl
  refine Zs b fun _ aC=>?_;refine Ze (Vd rfl X06 1)<|Ze (X0 rfl X7 (g.at 1))<|Zm rfl<|Ze (X11 rfl rfl (by omega) (by omega))<|Zf (Vc (F91 _ x.p 0 (n-1)) X6d) ?_;rintro _ _ ⟨rfl,rfl⟩;refine Za rfl<|Zt aC fun a b=>?_;refine Q6<|X02<|Xa<|X6 b (Xu b rfl rfl) ?_;exact ⟨by rw [c],l⟩
 have a6:=e
 have g2:=e
 refine Zs b fun _ aD=>?_;refine Ze (X0m rfl rfl)<|Za rfl<|Zt aD fun a b=>?_
 refine Xi b rfl (fun f=>?_) (fun f=>?_)
 ·have a7:=f
  have c:nokI n x=inR x.p 0 7:=by unfold nokI;rw [g0,g1,g2,f];rfl
  refine Zs b fun _ aE=>?_;refine Ze (Vd rfl X06 1)<|Ze (X0 rfl X7 (g.at 1))<|Zf (Vc (F91 _ x.p 0 7) X6d) ?_;rintro _ _ ⟨rfl,rfl⟩;refine Za rfl<|Zt aE fun a b=>?_;refine Q6<|X02<|Xa<|X6 b (Xu b rfl rfl) ?_;exact ⟨by rw [c],l⟩
 have a7:=f
 have c:nokI n x=false:=by unfold nokI;rw [g0,g1,g2,f];rfl
 refine Q7<|Xc<|aI _ _<|Zs b fun _ aF=>?_;refine Za rfl<|Zt aF fun a b=>?_
 refine Q6 (X6 b (Xu b rfl rfl) ?_)
 exact ⟨by rw [c],l⟩
theorem Xsv(w0:World)(Al:Option Addr)(cl:Nat)(l:List Int)(a8:Rd w0 w0.heap.size 3 encI Al l)(aM:l.length<=1000000000) : Ret Tryz.prog 149 [.slice Al l.length cl] w0 (fun v w=>v=vi (orI l)/\w0=w):=by
 have f:w0=w0:=rfl
 refine enter Tryz.func149 rfl 18 rfl rfl ?_;intro a b
 have hW:=bz w0
 refine Zs b fun _ aG=>?_;refine Za rfl<|Zx aG fun a b _ aH=>?_;refine Za rfl<|ZX aH fun a b _ aI=>?_;refine Zs b fun _ aJ=>?_;refine Zm rfl<|Ze (X0c rfl Xj)<|Zm rfl<|Zt aJ fun a b=>?_;refine Q8<|X04 (σ:=Nat) (fun (k:Nat) (a:Act) (w:World)=>Fr a 18 [(3,vi 0),(6,.slice Al l.length cl),(7,vi (l.length:Int)),(8,vi (k:Int))]/\(k<=l.length)/\(∀ x ∈ l.take k,x=0)/\w0=w/\Below w0.heap.size w0 w) (fun (k:Nat)=>l.length-k) 0 ?_ ?_
 ·exact ⟨b.sb,(Qf _),(by simp),f,hW⟩
 rintro k a w1 ⟨b,hk,e,f,hW⟩;refine Zs b fun _ aK=>?_;refine Ze (X0q rfl rfl)<|ZX aK fun a b _ aL=>?_
 refine Xi b rfl (fun c=>?_) (fun c=>?_)
 ·have aA:=c;have c:=Q2 c
  obtain ⟨u9,i⟩:=X5 (l:=l) (k:=k) (by omega)
  obtain ⟨u9,i⟩:=X5 (l:=l) (k:=k) (by have:=c;omega)
  refine Q7<|aL _ _<|Q5 fun _ aB=>?_;refine Q8<|Zs b fun _ aC=>?_;refine Zi (k:=k) (u:=u9) (enc:=encI) (l:=l) tv0 rfl rfl Xj X09 X9 (a8.bx hW) i rfl ?_;intro aN a6;refine Ze (X0 rfl X7 a6)<|Za rfl<|Zx aC fun a b _ aD=>?_;refine Zm rfl<|Zm rfl<|Ze (X1o rfl rfl)<|Zt aD fun a b=>?_
  refine Xi b rfl (fun d=>?_) (fun d=>?_)
  ·have a7:=d
   have g:orI l=u9:=Xta e i (by simpa using d)
   refine Zs b fun _ aE=>?_;refine Zm rfl<|Za rfl<|Zt aE fun a b=>?_;refine Q6<|X02<|Xa<|Xa ?_;refine X02<|Xa<|X6 b (Xu b rfl rfl) ?_;exact ⟨by rw [g],f⟩
  have a7:=d
  have aO:u9=0:=by have h9:=d;simpa using h9
  refine Q7<|Xc<|aB _ _<|Zr b ?_;refine Ze (Xm rfl rfl (by omega) (by omega))<|Zm rfl ?_;refine Zn fun a b=>?_;refine Xd ?_;exact ⟨k+1,⟨b.sb,(by omega),(fun x hx=>by rw [Qt,i] at hx;rcases Qu.1 hx with hx|hx;exact e x hx;simp at hx;omega),f,hW⟩,(by omega)⟩
 have aA:=c;have c:=Q1 c
 have g:orI l=0:=Xyx (by rw [Qi (by have:=c;omega)] at e;exact e)
 refine Q9<|Xk<|Xk<|X03 ?_;refine aI _ _<|Zs b fun _ aF=>?_;refine Zm rfl<|Za rfl<|Zt aF fun a b=>?_
 refine Q6 (X6 b (Xu b rfl rfl) ?_)
 exact ⟨by rw [g],f⟩
theorem Y2q(w0:World)(x:Wr)(y:Wr) : Ret Tryz.prog 101 [.agg #[vi x.a,vi x.b,.bool x.h],.agg #[vi y.a,vi y.b,.bool y.h]] w0 (fun v w=>v=vi (cmW x y)/\Below w0.heap.size w0 w):=by
 refine enter Tryz.func101 rfl 17 rfl rfl ?_;intro a hf
 have d:=bz w0
 refine Zs hf fun _ a8=>?_;refine Zf (X0n (zs:=[vi x.a,vi x.b,.bool x.h]) rfl rfl) ?_;rintro _ w1 ⟨b2,rfl,aA,e,c⟩;have aE:=Q0 d.size aA;have d:=btr d e;refine Zf (X0n (zs:=[vi y.a,vi y.b,.bool y.h]) rfl rfl) ?_;rintro _ w2 ⟨b3,rfl,aB,e,f⟩
 have a7:b2≠b3:=by have:=c.lt;omega
 have aF:=Q0 d.size aB;have c:=c.bw e;have d:=btr d e;refine Za rfl<|ZX a8 fun a hf _ aC=>?_;refine X00 none (fun _=>false) mixed ?_;intro w3 e;have c:=c.bw e;have f:=f.bw e;have d:=btr d e;refine Yb hf<|Yo 0 rfl (fun _=>Vd rfl X0r 0)<|Ye 1 rfl (X0 rfl X7 (c.at 0))<|Yo 2 rfl (fun _=>Vd rfl X0r 0)<|Ye 3 rfl (X0 rfl X7 (f.at 0))<|Yo 5 rfl (fun _=>Vd rfl X0s 1)<|Ye 6 rfl (X0 rfl X7 (c.at 1))<|Yo 7 rfl (fun _=>Vd rfl X0s 1)<|Ye 8 rfl (X0 rfl X7 (f.at 1))<|Y1 4 ?_;refine Yz rfl tv0 (Vc (Xg1 _ x.a y.a) X8d) ?_;refine Y1 9<|Yz rfl tv0 (Vc (Xg1 _ x.b y.b) X8d) ?_;refine Y1 10<|Yk rfl tv0 (Xs (k:=2) (vs:=[vi (cmI x.a y.a),vi (cmI x.b y.b)]) (zs:=[vi (cmI x.a y.a),vi (cmI x.b y.b)]) rfl Xj X1h rfl rfl) (fun _ _ ⟨_,_,_,h,_⟩=>h) ?_;rintro _ w4 ⟨b5,rfl,aD,e,a6⟩;have aG:=Q0 d.size aD;have d:=btr d e;refine Y1 11<|Yz rfl tv0 (Vc (Xsv _ (some ⟨b5,0,none⟩) 2 ([cmI x.a y.a,cmI x.b y.b]) (Rd.of_blk a6 rfl _ a6.lt) (by simp)) Xhd) ?_;refine Yo 12 rfl (fun _=>Xr rfl) ?_;refine Yd fun a hf=>?_;refine aC _ _ ?_
 refine Q6 (X6 hf (Xu hf rfl rfl) ?_)
 exact ⟨by rw [Xtb],d⟩
theorem Xts(b:World)(d:Dg)(md:Nat)(a6:md=d.ns.length)(Ad:Option Addr)(cd:Nat)(a7:Rd b b.heap.size 81 encNd Ad d.ns)(Bd:Option Addr)(dd:Nat)(aD:Rd b b.heap.size 83 encWr Bd d.ws)(aE:d.ws.length<=dd)(p:Int)(q:Int)(hN:md<=1000000000) : Ret Tryz.prog 117 [.agg #[vi d.n,.slice Ad md cd,.slice Bd d.ws.length dd,vi d.t,vi d.r],vi p,vi q] b (fun v w=>v=vi (fnI d.ns ⟨p,q⟩)/\Below b.heap.size b w):=by
 subst a6
 refine enter Tryz.func117 rfl 13 rfl rfl ?_;intro a hf
 have hW:=bz b
 refine Zs hf fun _ a8=>?_;refine Zf (X0n (zs:=[vi d.n,.slice Ad d.ns.length cd,.slice Bd d.ws.length dd,vi d.t,vi d.r]) rfl rfl) ?_;rintro _ w1 ⟨b4,rfl,aA,hE,aB⟩;have aF:=Q0 hW.size aA;have hW:=btr hW hE;refine Za rfl<|Zx a8 fun a hf _ aC=>?_;refine Ze (Vd rfl Xg 1)<|Ze (X0 rfl Xy (aB.at 1))<|Zm rfl<|Zm rfl<|Ze (X0e (ps:=[(0,vi p),(1,vi q)]) (cs:=[vi p,vi q]) rfl (fun _=>by first|rfl|kernel_rfl))<|Zf (Vc (Y22 _ Ad cd d.ns (a7.bx hW).top (⟨p,q⟩ : Nd) hN) Xpb) ?_;rintro _ w2 ⟨rfl,hE⟩;have hW:=btr hW hE;refine Za rfl<|Zt aC fun a hf=>?_
 refine Q6 (X6 hf (Xu hf rfl rfl) ?_)
 exact ⟨rfl,hW⟩
theorem Y0y(J:World)(d:Dg)(md:Nat)(L:md=d.ns.length)(Ad:Option Addr)(cd:Nat)(G:Rd J J.heap.size 81 encNd Ad d.ns)(Bd:Option Addr)(dd:Nat)(Q:Rd J J.heap.size 83 encWr Bd d.ws)(m:d.ws.length<=dd)(hN:md<=1000)(hn:1<=d.n/\d.n<=1000) : Ret Tryz.prog 100 [.agg #[vi d.n,.slice Ad md cd,.slice Bd d.ws.length dd,vi d.t,vi d.r]] J (fun v w=>v=.bool (heD d)/\Below J.heap.size J w):=by
 refine enter Tryz.func100 rfl 46 rfl rfl ?_;intro a b
 have o:=bz J
 refine Zs b fun _ aR=>?_;refine Zf (X0n (zs:=[vi d.n,.slice Ad md cd,.slice Bd d.ws.length dd,vi d.t,vi d.r]) rfl rfl) ?_;rintro _ w1 ⟨b4,rfl,aS,H,e⟩;have b2:=Q0 o.size aS;have o:=btr o H;refine Za rfl<|Zx aR fun a b _ aT=>?_;refine Za rfl<|ZX aT fun a b _ aU=>?_;refine Zs b fun _ aV=>?_;refine Ze (Vd rfl Xg 1)<|Ze (X0 rfl Xy (e.at 1))<|Ze (X0c rfl Xl)<|Zm rfl<|Zt aV fun a b=>?_;refine Q8<|X04 (σ:=Nat×Int) (fun (s:Nat×Int) (a:Act) (w:World)=>match s with|(k,c)=>Fr a 46 [(1,(pZ9 b4)),(3,vi c),(8,.slice Ad md cd),(9,vi (md:Int)),(10,vi (k:Int))]/\(k<=d.ns.length)/\(c=bnI (d.ns.take k))/\Blk w b4 39 [vi d.n,.slice Ad md cd,.slice Bd d.ws.length dd,vi d.t,vi d.r]/\d.ws.length<=dd/\Below J.heap.size J w) (fun (s:Nat×Int)=>match s with|(k,c)=>d.ns.length-k) (0,0) ?_ ?_
 ·exact ⟨b.sb,(Qf _),rfl,e,m,o⟩
 rintro ⟨k,c⟩ a w2 ⟨b,hk,hc,e,m,o⟩;have aW:=Xzz d.ns k
 rw [<- hc] at aW
 refine Zs b fun _ aX=>?_;refine Ze (X0q rfl rfl)<|ZX aX fun a b _ aY=>?_
 refine Xi b rfl (fun x=>?_) (fun x=>?_)
 ·have A:=x;have x:=Q2 x
  obtain ⟨u9,a7⟩:=X5 (l:=d.ns) (k:=k) (by have:=x;omega)
  refine Q7<|aY _ _<|Q5 fun _ U=>?_;refine Q8<|Zs b fun _ aE=>?_;refine Zj (k:=k) (u:=u9) (enc:=encNd) (l:=d.ns) tv0 rfl L rfl Xl X08 Xw (G.bx o) a7 (by omega) ?_;intro b3 a8;refine Ze (X01 (l:=[vi u9.k,vi u9.p]) rfl X23 a8 rfl)<|Zf (Xo (zs:=[vi 0,vi 0]) X4d rfl) ?_;rintro _ w3 ⟨b5,rfl,W,H,B⟩;have aA:=Q0 o.size W;have aF:=(G.bx o).away W;have e:=e.bw H;have o:=btr o H;refine Zo (Vw [vi u9.k,vi u9.p] X08 B) ?_;rintro _ w4 ⟨ho,hb⟩;have aG:=B;have e:=e.oz ho aG rfl;have o:=Below.oy o ho aA;have B:=hb;refine ZX aE fun a b _ aH=>?_;refine X0b (fun a w=>Fr a 46 [(1,(pZ9 b4)),(3,vi c),(8,.slice Ad md cd),(9,vi (md:Int)),(10,vi (k:Int)),(21,.bool ((u9.k==1)||(u9.k==2)))]/\w4=w) ?_ ?_
  ·refine Zr b<|Ze (Vd rfl X0v 0)<|Ze (X0 rfl X7 (B.at 0))<|Ze (X0m rfl rfl)<|Zm rfl ?_
   refine Zg 17 rfl (fun g=>?_) (fun g=>?_)
   ·(iterate 3 refine Zp (gP g) ?_);refine Ze (X4 rfl g rfl) ?_;refine Zn fun a b=>?_;exact ⟨b.sub ⟨rfl,rfl,rfl,rfl,rfl,X1 rfl (by simp [A,g]),trivial⟩,rfl⟩
   refine Zv (gW g) (Vd rfl X0v 0) ?_;refine Zv (gW g) (X0 rfl X7 (B.at 0)) ?_;refine Zv (gW g) (X0m rfl rfl) ?_;refine Ze (Xe rfl g rfl) ?_;refine Zn fun a b=>?_;exact ⟨b.sub ⟨rfl,rfl,rfl,rfl,rfl,X1 rfl (by simp [A,g]),trivial⟩,rfl⟩
  rintro a _ ⟨b,rfl⟩;refine aH _ _ ?_
  refine Xi b rfl (fun C=>?_) (fun C=>?_)
  ·have aB:=C;have M:=Y3z a7 C
   rw [<- hc] at M
   refine Zr b<|Zm rfl<|Ze (Xm rfl rfl (by omega) (by omega))<|Za rfl ?_;refine Zn fun a b=>?_;refine Xc<|U _ _<|Zr b<|Ze (Xm rfl rfl (by omega) (by omega))<|Zm rfl ?_;refine Zn fun a b=>?_;refine Xd ?_;exact ⟨(k+1,c+1),⟨b.sb,(by omega),(by rw [M]),e,m,o⟩,(by first|omega|(dsimp only;omega))⟩
  have aB:=C;have M:=Y36 a7 C
  rw [<- hc] at M
  refine Q7<|Xc<|U _ _<|Zr b ?_;refine Ze (Xm rfl rfl (by omega) (by omega))<|Zm rfl ?_;refine Zn fun a b=>?_;refine Xd ?_;exact ⟨(k+1,c),⟨b.sb,(by omega),(by rw [M]),e,m,o⟩,(by first|omega|(dsimp only;omega))⟩
 have A:=x;have x:=Q1 x
 have aZ:c=bnI d.ns:=by rw [hc,Qi (by have:=x;omega)]
 refine Q9<|Xk<|Xk<|X03 ?_;refine aU _ _<|Q5 fun _ aI=>?_;refine Zs b fun _ aJ=>?_;refine Ze (Vd rfl X13 0)<|Ze (X0 rfl X7 (e.at 0))<|Zm rfl<|Zt aJ fun a b=>?_;refine Q8<|X04 (σ:=Nat) (fun (j:Nat) (a:Act) (w:World)=>Fr a 46 [(1,(pZ9 b4)),(3,vi c),(26,vi d.n),(27,vi (j:Int))]/\((j:Int)<=d.n)/\(∀ i:Nat,i<j->heQ d i=true)/\Blk w b4 39 [vi d.n,.slice Ad md cd,.slice Bd d.ws.length dd,vi d.t,vi d.r]/\d.ws.length<=dd/\Below J.heap.size J w) (fun (j:Nat)=>d.n.toNat-j) 0 ?_ ?_
 ·exact ⟨b.sb,(by omega),(fun i hi=>by omega),e,m,o⟩
 rintro j a w5 ⟨b,hj,a6,e,m,o⟩;refine Zs b fun _ aK=>?_;refine Ze (X0q rfl rfl)<|ZX aK fun a b _ aL=>?_
 refine Xi b rfl (fun h=>?_) (fun h=>?_)
 ·have E:=h;have h:=Q2 h;have b6:=h;refine Q7<|aL _ _<|Q5 fun _ aM=>?_;refine Q8<|Zs b fun _ aN=>?_;refine Zm rfl<|Za rfl<|ZX aN fun a b _ aO=>?_;refine X0b (fun a w=>Fr a 46 [(1,(pZ9 b4)),(3,vi c),(26,vi d.n),(27,vi (j:Int)),(39,.bool ((decide ((fnI d.ns ⟨1,(j:Int)⟩)<0))||(decide ((fnI d.ns ⟨2,(j:Int)⟩)<0))))]/\Below w5.heap.size w5 w) ?_ ?_
  ·have I:Below w5.heap.size w5 w5:=Below.refl _ _
   refine Zr b<|Ze (Vn X2 e)<|Zm rfl<|Zf (Vc (Xts _ d md L Ad cd (G.bx o).top Bd dd (Q.bx o).top m 1 (j:Int) (by omega)) Xg0) ?_;rintro _ w6 ⟨rfl,H⟩;have e:=e.bw H;have o:=btr o H;have I:=btr I H;refine Ze (X0q rfl rfl)<|Zm rfl ?_
   refine Zg 34 rfl (fun f=>?_) (fun f=>?_)
   ·(iterate 4 refine Zp (gP f) ?_);refine Ze (X4 rfl f rfl) ?_;refine Zn fun a b=>?_
    have aC:Below w5.heap.size w5 w6:=I
    exact ⟨b.sub ⟨rfl,rfl,rfl,rfl,X1 rfl (by simp [A,E,f]),trivial⟩,aC⟩
   refine Zv (gW f) (Vn X2 e) ?_;refine Zv (gW f) (X3 rfl) ?_;refine Zk (gW f) (Vc (Xts _ d md L Ad cd (G.bx o).top Bd dd (Q.bx o).top m 2 (j:Int) (by omega)) Xg0) ?_;rintro _ w7 ⟨rfl,H⟩;have o:=btr o H;have I:=btr I H;refine Zv (gW f) (X0q rfl rfl) ?_;refine Ze (Xe rfl f rfl) ?_;refine Zn fun a b=>?_
   have aC:Below w5.heap.size w5 w7:=I
   exact ⟨b.sub ⟨rfl,rfl,rfl,rfl,X1 rfl (by simp [A,E,f]),trivial⟩,aC⟩
  rintro a w8 ⟨b,H⟩;have e:=e.bw H;have o:=btr o H;refine aO _ _ ?_
  refine Xi b rfl (fun D=>?_) (fun D=>?_)
  ·have aD:=D
   have N:heD d=false:=by unfold heD;rw [X5h (q:=heQ d) (k:=j) (by omega) (by unfold heQ;rw [D];rfl),Bool.false_and]
   refine Zs b fun _ aP=>?_;refine Za rfl<|Zt aP fun a b=>?_;refine Q6<|X02<|Xa<|Xa ?_;refine X02<|Xa<|X6 b (Xu b rfl rfl) ?_;exact ⟨by rw [N],o⟩
  have aD:=D
  have b0:heQ d j=true:=by unfold heQ;rw [D];rfl
  refine Q7<|Xc<|aM _ _<|Zr b ?_;refine Ze (Xm rfl rfl (by omega) (by omega))<|Zm rfl ?_;refine Zn fun a b=>?_;refine Xd ?_;exact ⟨j+1,⟨b.sb,(by omega),(fun i hi=>by by_cases h9:i=j;rw [h9];exact b0;exact a6 i (by omega)),e,m,o⟩,(by omega)⟩
 have E:=h;have h:=Q1 h
 have b1:(List.range d.n.toNat).all (heQ d)=true:=X4s fun i hi=>a6 i (by have:=h;omega)
 have N:heD d=(c==2*d.n):=by unfold heD;rw [b1,Qw,aZ]
 refine Q9<|Xk<|Xk<|X03 ?_;refine aI _ _<|Zs b fun _ aQ=>?_;refine Zm rfl<|Ze (Vd rfl X13 0)<|Ze (X0 rfl X7 (e.at 0))<|Ze (X41 rfl rfl (by omega) (by omega))<|Ze (X0m rfl rfl)<|Za rfl<|Zt aQ fun a b=>?_
 refine Q6 (X6 b (Xu b rfl rfl) ?_)
 exact ⟨by rw [N],o⟩
theorem Xzv(w0:World)(x:Nd)(n:Int)(ba:Nat)(v1 v2 v3 v4:Value)(b:Blk w0 ba 39 [vi n,v1,v2,v3,v4])(hn:1<=n/\n<=1000) : Ret Tryz.prog 98 [.agg #[vi x.k,vi x.p],(pZ9 ba)] w0 (fun v w=>v=.bool (!nokI n x)/\Below w0.heap.size w0 w):=by
 have a6:=b.lt;refine enter Tryz.func98 rfl 9 rfl rfl ?_;intro a hf
 have hW:=bz w0
 refine Zs hf fun _ a7=>?_;refine Zf (X0n (zs:=[vi x.k,vi x.p]) rfl rfl) ?_;rintro _ w1 ⟨b2,rfl,a8,hE,aA⟩;have aC:=Q0 hW.size a8;have b:=b.bw hE;have hW:=btr hW hE;refine Za rfl<|Zx a7 fun a hf _ aB=>?_;refine Ze (Vd rfl X13 0)<|Ze (X0 rfl X7 (b.at 0))<|Ze (Vn X23 aA)<|Zf (Vc (Y1z _ n x hn) Xqv) ?_;rintro _ w2 ⟨rfl,hE⟩;have hW:=btr hW hE;refine Ze (X0y rfl)<|Za rfl<|Zt aB fun a hf=>?_
 refine Q6 (X6 hf (Xu hf rfl rfl) ?_)
 exact ⟨rfl,hW⟩
theorem Y1h(b:World)(Al:Option Addr)(cl:Nat)(l:List Nd)(a6:Rd b b.heap.size 81 encNd Al l)(kq:FuncId)(pq:List Value)(Fq:FuncF Tryz.prog kq)(q:Nd->Bool)(hq:∀ x w,Below b.heap.size b w->Ret Tryz.prog kq ([ndV x]++pq) w (fun v w'=>v=.bool (q x)/\Below w.heap.size w w'))(a7:l.length<=1000000000) : Ret Tryz.prog 97 [.slice Al l.length cl,.func (.func kq) #[] pq.toArray] b (fun v w=>v=.bool (l.any q)/\Below b.heap.size b w):=by
 refine enter Tryz.func97 rfl 9 rfl rfl ?_;intro a hf
 have hW:=bz b
 refine Zs hf fun _ a8=>?_;refine Za rfl<|Zx a8 fun a hf _ aA=>?_;refine Zm rfl<|Zm rfl<|Zf (Vc (Xyi _ Al cl l (a6.bx hW).top kq pq Fq q (fun x w' hE'=>hq x w' (hW.trans (hE'.mono hW.size))) a7) Xqc) ?_;rintro _ w1 ⟨rfl,hE⟩;have hW:=btr hW hE;refine Ze (X5g rfl rfl)<|Za rfl<|Zt aA fun a hf=>?_
 refine Q6 (X6 hf (Xu hf rfl rfl) ?_)
 exact ⟨by rw [Xhk],hW⟩
theorem Xg6(w0:World)(d:Dg)(md:Nat)(b1:md=d.ns.length)(Ad:Option Addr)(cd:Nat)(aC:Rd w0 w0.heap.size 81 encNd Ad d.ns)(Bd:Option Addr)(dd:Nat)(aD:Rd w0 w0.heap.size 83 encWr Bd d.ws)(M:d.ws.length<=dd)(aK:d.ws.length<=1000000000) : Ret Tryz.prog 50 [.agg #[vi d.n,.slice Ad md cd,.slice Bd d.ws.length dd,vi d.t,vi d.r]] w0 (fun v w=>v=.bool (ivD d)/\Below w0.heap.size w0 w):=by
 subst b1
 refine enter Tryz.func50 rfl 116 rfl rfl ?_;intro a e
 have q:=bz w0
 refine Zs e fun _ bT=>?_;refine Zf (X0n (zs:=[vi d.n,.slice Ad d.ns.length cd,.slice Bd d.ws.length dd,vi d.t,vi d.r]) rfl rfl) ?_;rintro _ w1 ⟨b4,rfl,bU,H,c⟩;have cA:=Q0 q.size bU;have q:=btr q H;refine Za rfl<|ZX bT fun a e _ bW=>?_;refine Q5 fun _ bX=>?_;refine X0b (fun a w=>Fr a 116 [(1,(pZ9 b4)),(39,.bool (!(inR d.n 1 5)||decide (40<(d.ns.length:Int))||!(inR d.t 0 7)||!(inR d.r (-60) 60)||(d.ns.any fun x=>!nokI d.n x)||!(heD d)))]/\Below w1.heap.size w1 w) ?_ ?_
 ·have m:Below w1.heap.size w1 w1:=Below.refl _ _
  refine Zr e<|Ze (Vd rfl X13 0)<|Ze (X0 rfl X7 (c.at 0))<|Zf (Vc (F91 _ d.n 1 5) X6d) ?_;rintro _ _ ⟨rfl,rfl⟩;refine Ze (X0y rfl)<|Zm rfl ?_
  refine Zg 11 rfl (fun U=>?_) (fun U=>?_)
  ·(iterate 4 refine Zp (gP U) ?_);refine Ze (X4 rfl U rfl)<|Zm rfl<|Zp (gP rfl) ?_;(iterate 3 refine Zp (gP rfl) ?_);refine Ze (X4 rfl rfl rfl)<|Zm rfl<|Zp (gP rfl) ?_;(iterate 3 refine Zp (gP rfl) ?_);refine Ze (X4 rfl rfl rfl)<|Zm rfl<|Zp (gP rfl) ?_;(iterate 3 refine Zp (gP rfl) ?_);refine Ze (X4 rfl rfl rfl)<|Zm rfl<|Zp (gP rfl) ?_;(iterate 2 refine Zp (gP rfl) ?_);refine Ze (X4 rfl rfl rfl) ?_;refine Zn fun a e=>?_
   have o:Below w1.heap.size w1 w1:=m
   exact ⟨e.sub ⟨rfl,X1 rfl (by simp [U]),trivial⟩,o⟩
  have bY:1<=d.n/\d.n<=5:=X0x.1 (by have h8:=U;simpa using h8)
  refine Zv (gW U) (Vd rfl Xg 1) ?_;refine Zv (gW U) (X0 rfl Xy (c.at 1)) ?_;refine Zv (gW U) (X0c rfl Xl) ?_;refine Zv (gW U) (X3h rfl rfl) ?_;refine Ze (Xe rfl U rfl)<|Zm rfl ?_
  refine Zg 17 rfl (fun W=>?_) (fun W=>?_)
  ·(iterate 4 refine Zp (gP W) ?_);refine Ze (X4 rfl W rfl)<|Zm rfl<|Zp (gP rfl) ?_;(iterate 3 refine Zp (gP rfl) ?_);refine Ze (X4 rfl rfl rfl)<|Zm rfl<|Zp (gP rfl) ?_;(iterate 3 refine Zp (gP rfl) ?_);refine Ze (X4 rfl rfl rfl)<|Zm rfl<|Zp (gP rfl) ?_;(iterate 2 refine Zp (gP rfl) ?_);refine Ze (X4 rfl rfl rfl) ?_;refine Zn fun a e=>?_
   have o:Below w1.heap.size w1 w1:=m
   exact ⟨e.sub ⟨rfl,X1 rfl (by simp [U,W]),trivial⟩,o⟩
  have b2:d.ns.length<=40:=by have h8:=W;simp at h8;omega
  refine Zv (gW W) (Vd rfl X0u 3) ?_;refine Zv (gW W) (X0 rfl X7 (c.at 3)) ?_;refine Zk (gW W) (Vc (F91 _ d.t 0 7) X6d) ?_;rintro _ _ ⟨rfl,rfl⟩;refine Zv (gW W) (X0y rfl) ?_;refine Ze (Xe rfl W rfl)<|Zm rfl ?_
  refine Zg 23 rfl (fun aB=>?_) (fun aB=>?_)
  ·(iterate 4 refine Zp (gP aB) ?_);refine Ze (X4 rfl aB rfl)<|Zm rfl<|Zp (gP rfl) ?_;(iterate 3 refine Zp (gP rfl) ?_);refine Ze (X4 rfl rfl rfl)<|Zm rfl<|Zp (gP rfl) ?_;(iterate 2 refine Zp (gP rfl) ?_);refine Ze (X4 rfl rfl rfl) ?_;refine Zn fun a e=>?_
   have o:Below w1.heap.size w1 w1:=m
   exact ⟨e.sub ⟨rfl,X1 rfl (by simp [U,W,aB]),trivial⟩,o⟩
  refine Zv (gW aB) (Vd rfl X07 4) ?_;refine Zv (gW aB) (X0 rfl X7 (c.at 4)) ?_;refine Zk (gW aB) (Vc (F91 _ d.r (-60) 60) X6d) ?_;rintro _ _ ⟨rfl,rfl⟩;refine Zv (gW aB) (X0y rfl) ?_;refine Ze (Xe rfl aB rfl)<|Zm rfl ?_
  refine Zg 29 rfl (fun I=>?_) (fun I=>?_)
  ·(iterate 4 refine Zp (gP I) ?_);refine Ze (X4 rfl I rfl)<|Zm rfl<|Zp (gP rfl) ?_;(iterate 2 refine Zp (gP rfl) ?_);refine Ze (X4 rfl rfl rfl) ?_;refine Zn fun a e=>?_
   have o:Below w1.heap.size w1 w1:=m
   exact ⟨e.sub ⟨rfl,X1 rfl (by simp [U,W,aB,I]),trivial⟩,o⟩
  refine Zv (gW I) (Vd rfl Xg 1) ?_;refine Zv (gW I) (X0 rfl Xy (c.at 1)) ?_;refine Zv (gW I) (X3p (vs:=[(pZ9 b4)]) rfl) ?_;refine Zk (gW I) (Vc (Y1h _ Ad cd d.ns (aC.bx q).top 98 [(pZ9 b4)] Xr9 (fun x=>!nokI d.n x) (fun x w' hE'=>Xzv w' x d.n _ _ _ _ _ (c.bw hE') ⟨by omega,by omega⟩) (by omega)) Xoj) ?_;rintro _ w2 ⟨rfl,H⟩;have c:=c.bw H;have q:=btr q H;have m:=btr m H;refine Ze (Xe rfl I rfl)<|Zm rfl ?_
  refine Zg 35 rfl (fun a6=>?_) (fun a6=>?_)
  ·(iterate 3 refine Zp (gP a6) ?_);refine Ze (X4 rfl a6 rfl) ?_;refine Zn fun a e=>?_
   have o:Below w1.heap.size w1 w2:=m
   exact ⟨e.sub ⟨rfl,X1 rfl (by simp [U,W,aB,I,a6]),trivial⟩,o⟩
  refine Zv (gW a6) (Vn X2 c) ?_;refine Zk (gW a6) (Vc (Y0y _ d d.ns.length rfl Ad cd (aC.bx q).top Bd dd (aD.bx q).top M (by omega) ⟨by omega,by omega⟩) Xoo) ?_;rintro _ w3 ⟨rfl,H⟩;have q:=btr q H;have m:=btr m H;refine Zv (gW a6) (X0y rfl) ?_;refine Ze (Xe rfl a6 rfl) ?_;refine Zn fun a e=>?_
  have o:Below w1.heap.size w1 w3:=m
  exact ⟨e.sub ⟨rfl,X1 rfl (by simp [U,W,aB,I,a6]),trivial⟩,o⟩
 rintro a w4 ⟨e,H⟩;have c:=c.bw H;have q:=btr q H;refine bX _ _ ?_
 refine Xi e rfl (fun aH=>?_) (fun aH=>?_)
 ·have B:=aH
  have aG:ivD d=false:=Y3b aH
  refine Zs e fun _ b3=>?_;refine Za rfl<|Zt b3 fun a e=>?_;refine Q6<|Xa<|X6 e (Xu e rfl rfl) ?_;exact ⟨by rw [aG],q⟩
 have B:=aH;have b5:=aH;have b6:=b5
 simp only [Bool.or_eq_false_iff,decide_eq_false_iff_not,Bool.not_eq_false'] at b6
 have bY:=X0x.1 b6.1.1.1.1.1
 have b2:d.ns.length<=40:=by omega
 refine Q7<|bW _ _<|Q5 fun _ b7=>?_;refine Zs e fun _ b8=>?_;refine Ze (Vd rfl Xn 2)<|Ze (X0 rfl X0g (c.at 2))<|Ze (X0c rfl Xt)<|Zm rfl<|Zt b8 fun a e=>?_;refine Q8<|X04 (σ:=Nat) (fun (k:Nat) (a:Act) (w:World)=>Fr a 116 [(1,(pZ9 b4)),(41,.slice Bd d.ws.length dd),(42,vi (d.ws.length:Int)),(43,vi (k:Int))]/\(k<=d.ws.length)/\(∀ i:Nat,i<k->wvQ d i=true)/\Blk w b4 39 [vi d.n,.slice Ad d.ns.length cd,.slice Bd d.ws.length dd,vi d.t,vi d.r]/\d.ws.length<=dd/\Below w0.heap.size w0 w) (fun (k:Nat)=>d.ws.length-k) 0 ?_ ?_
 ·exact ⟨e.sb,(Qf _),(fun i hi=>by omega),c,M,q⟩
 rintro k a w5 ⟨e,hk,aM,c,M,q⟩;refine Zs e fun _ b9=>?_;refine Ze (X0q rfl rfl)<|ZX b9 fun a e _ bA=>?_
 refine Xi e rfl (fun aE=>?_) (fun aE=>?_)
 ·have C:=aE;have aE:=Q2 aE
  obtain ⟨cD,cB⟩:=X5 (l:=d.ws) (k:=k) (by omega)
  obtain ⟨u9,aQ⟩:=X5 (l:=d.ws) (k:=k) (by have:=aE;omega)
  have bZ:=(Qg.1 aQ).1;have bB:=Xrl aQ;refine Q7<|bA _ _<|Q5 fun _ bC=>?_;refine Q8<|Zs e fun _ bD=>?_;refine Zm rfl<|Zi (k:=k) (u:=u9) (enc:=encWr) (l:=d.ws) tv0 rfl rfl Xt X0d Xz (aD.bx q) aQ rfl ?_;intro cE aR;refine Ze (X01 (l:=[vi u9.a,vi u9.b,.bool u9.h]) rfl X16 aR rfl)<|Zf (Xo (zs:=[vi 0,vi 0,.bool false]) X2m rfl) ?_;rintro _ w6 ⟨cF,rfl,aN,H,a8⟩;have aS:=Q0 q.size aN;have bE:=(aD.bx q).away aN;have c:=c.bw H;have q:=btr q H;refine Za rfl<|Zo (Vw [vi u9.a,vi u9.b,.bool u9.h] X0d a8) ?_;rintro _ w7 ⟨ho,hb⟩;have aL:=a8;have c:=c.oz ho aL rfl;have q:=Below.oy q ho aS;have a8:=hb;refine ZX bD fun a e _ bF=>?_;refine X0b (fun a w=>Fr a 116 [(1,(pZ9 b4)),(41,.slice Bd d.ws.length dd),(42,vi (d.ws.length:Int)),(43,vi (k:Int)),(80,.bool (decide (u9.a<0)||decide (u9.b<=u9.a)||decide ((d.ns.length:Int)<=u9.b)||(decide (0<(k:Int))&&decide (0<=cmW (d.ws.getD (k-1) wZ) u9))))]/\Below w7.heap.size w7 w) ?_ ?_
  ·have m:Below w7.heap.size w7 w7:=Below.refl _ _
   refine X00 none (fun _=>false) mixed ?_;intro w8 H;have c:=c.bw H;have a8:=a8.bw H;have q:=btr q H;have m:=btr m H;refine Yb e<|Yo 0 rfl (fun _=>Vd rfl X0r 0)<|Ye 1 rfl (X0 rfl X7 (a8.at 0))<|Yo 2 rfl (fun _=>X0q rfl rfl)<|Yo 3 rfl (fun _=>X3 rfl) ?_
   refine Yl 51 rfl (fun D=>?_) (fun D=>?_)
   ·refine Yp 4 rfl (gP D) ?_;refine Yp 5 rfl (gP D) ?_;refine Yp 6 rfl (gP D) ?_;refine Yp 7 rfl (gP D) ?_;refine Yp 8 rfl (gP D) ?_;refine Yo 9 rfl (fun _=>X4 rfl D rfl)<|Yo 10 rfl (fun _=>X3 rfl)<|Yp 11 rfl (gP rfl) ?_;refine Yp 12 rfl (gP rfl) ?_;refine Yp 13 rfl (gP rfl) ?_;refine Yp 14 rfl (gP rfl) ?_;refine Yp 15 rfl (gP rfl) ?_;refine Yp 16 rfl (gP rfl) ?_;refine Yo 17 rfl (fun _=>X4 rfl rfl rfl)<|Yo 18 rfl (fun _=>X3 rfl)<|Yp 19 rfl (gP rfl) ?_;refine Yp 20 rfl (gP rfl) ?_;refine Yp 21 rfl (gP rfl) ?_;refine Yp 22 rfl (gP tv0) ?_;refine Yp 23 rfl (gP tv0) ?_;refine Yp 24 rfl (gP tv0) ?_;refine Yp 25 rfl (gP tv0) ?_;refine Yp 26 rfl (gP tv0) ?_;refine Yp 27 rfl (gP tv0) ?_;refine Yp 28 rfl (gP tv0) ?_;refine Y1 29<|Yq rfl ⟨_,_,rfl,rfl,trivial⟩ ?_;refine Yp 30 rfl (gP tv0) ?_;refine Yp 31 rfl (gP rfl) ?_;refine Yo 32 rfl (fun _=>X4 rfl rfl rfl) ?_;refine Yd fun a e=>?_
    have o:Below w7.heap.size w7 w8:=m
    exact ⟨e.sub ⟨rfl,rfl,rfl,rfl,X1 rfl (by simp [B,C,D]),trivial⟩,o⟩
   refine Yu 4 rfl (gW D) (fun _=>Vd rfl X0r 0) ?_;refine Yv 5 rfl (gW D) (X0 rfl X7 (a8.at 0)) ?_;refine Yu 6 rfl (gW D) (fun _=>Vd rfl X0s 1) ?_;refine Yv 7 rfl (gW D) (X0 rfl X7 (a8.at 1)) ?_;refine Yu 8 rfl (gW D) (fun _=>X5g rfl rfl) ?_;refine Yo 9 rfl (fun _=>Xe rfl D rfl)<|Yo 10 rfl (fun _=>X3 rfl) ?_
   refine Yl 58 rfl (fun A=>?_) (fun A=>?_)
   ·refine Yp 11 rfl (gP A) ?_;refine Yp 12 rfl (gP A) ?_;refine Yp 13 rfl (gP A) ?_;refine Yp 14 rfl (gP A) ?_;refine Yp 15 rfl (gP A) ?_;refine Yp 16 rfl (gP A) ?_;refine Yo 17 rfl (fun _=>X4 rfl A rfl)<|Yo 18 rfl (fun _=>X3 rfl)<|Yp 19 rfl (gP rfl) ?_;refine Yp 20 rfl (gP rfl) ?_;refine Yp 21 rfl (gP rfl) ?_;refine Yp 22 rfl (gP tv0) ?_;refine Yp 23 rfl (gP tv0) ?_;refine Yp 24 rfl (gP tv0) ?_;refine Yp 25 rfl (gP tv0) ?_;refine Yp 26 rfl (gP tv0) ?_;refine Yp 27 rfl (gP tv0) ?_;refine Yp 28 rfl (gP tv0) ?_;refine Y1 29<|Yq rfl ⟨_,_,rfl,rfl,trivial⟩ ?_;refine Yp 30 rfl (gP tv0) ?_;refine Yp 31 rfl (gP rfl) ?_;refine Yo 32 rfl (fun _=>X4 rfl rfl rfl) ?_;refine Yd fun a e=>?_
    have o:Below w7.heap.size w7 w8:=m
    exact ⟨e.sub ⟨rfl,rfl,rfl,rfl,X1 rfl (by simp [B,C,D,A]),trivial⟩,o⟩
   refine Yu 11 rfl (gW A) (fun _=>Vd rfl X0s 1) ?_;refine Yv 12 rfl (gW A) (X0 rfl X7 (a8.at 1)) ?_;refine Yu 13 rfl (gW A) (fun _=>Vd rfl Xg 1) ?_;refine Yv 14 rfl (gW A) (X0 rfl Xy (c.at 1)) ?_;refine Yu 15 rfl (gW A) (fun _=>X0c rfl Xl) ?_;refine Yu 16 rfl (gW A) (fun _=>X5g rfl rfl) ?_;refine Yo 17 rfl (fun _=>Xe rfl A rfl)<|Yo 18 rfl (fun _=>X3 rfl) ?_
   refine Yl 66 rfl (fun E=>?_) (fun E=>?_)
   ·refine Yp 19 rfl (gP E) ?_;refine Yp 20 rfl (gP E) ?_;refine Yp 21 rfl (gP E) ?_;refine Yp 22 rfl (gP tv0) ?_;refine Yp 23 rfl (gP tv0) ?_;refine Yp 24 rfl (gP tv0) ?_;refine Yp 25 rfl (gP tv0) ?_;refine Yp 26 rfl (gP tv0) ?_;refine Yp 27 rfl (gP tv0) ?_;refine Yp 28 rfl (gP tv0) ?_;refine Y1 29<|Yq rfl ⟨_,_,rfl,rfl,trivial⟩ ?_;refine Yp 30 rfl (gP tv0) ?_;refine Yp 31 rfl (gP E) ?_;refine Yo 32 rfl (fun _=>X4 rfl E rfl) ?_;refine Yd fun a e=>?_
    have o:Below w7.heap.size w7 w8:=m
    exact ⟨e.sub ⟨rfl,rfl,rfl,rfl,X1 rfl (by simp [B,C,D,A,E]),trivial⟩,o⟩
   refine Yu 19 rfl (gW E) (fun _=>X3 rfl) ?_;refine Yu 20 rfl (gW E) (fun _=>X3h rfl rfl) ?_;refine Yu 21 rfl (gW E) (fun _=>X3 rfl) ?_
   refine Yl 69 rfl (fun g=>?_) (fun g=>?_)
   ·have cG:0<k:=by have h8:=g;simpa using h8
    refine Yu 22 rfl (gW g) (fun _=>Vd rfl Xn 2) ?_;refine Yv 23 rfl (gW g) (X0 rfl X0g (c.at 2)) ?_;refine Yu 24 rfl (gW g) (fun _=>X3 rfl) ?_;refine Yu 25 rfl (gW g) (fun _=>X11 rfl rfl (by omega) (by omega)) ?_;refine Yi (k:=(k-1)) (u:=(d.ws.getD (k-1) wZ)) (enc:=encWr) (l:=d.ws) 26 rfl ⟨_,_,rfl,rfl,g⟩ rfl rfl Xt X0d Xz (aD.bx q) (Xb (by omega)) (by omega) ?_;intro cH aT;refine Yv 27 rfl (gW g) (X01 (l:=[vi ((d.ws.getD (k-1) wZ).a),vi ((d.ws.getD (k-1) wZ).b),.bool ((d.ws.getD (k-1) wZ).h)]) rfl X16 aT rfl) ?_;refine Yv 28 rfl (gW g) (Vn X16 a8) ?_;refine Y1 29<|Yk rfl ⟨_,_,rfl,rfl,g⟩ (Vc (Y2q _ (d.ws.getD (k-1) wZ) u9) Xor) (fun _ _ ⟨_,H⟩=>H) ?_;rintro _ w9 ⟨rfl,H⟩;have q:=btr q H;have m:=btr m H;refine Yu 30 rfl (gW g) (fun _=>X5g rfl rfl) ?_;refine Yu 31 rfl (gW E) (fun _=>X4 rfl g rfl) ?_;refine Yo 32 rfl (fun _=>Xe rfl E rfl) ?_;refine Yd fun a e=>?_
    have o:Below w7.heap.size w7 w9:=m
    exact ⟨e.sub ⟨rfl,rfl,rfl,rfl,X1 rfl (by first|rfl|(simp only [B,C,D,A,E,g,bs];done)|simp [B,C,D,A,E,g]),trivial⟩,o⟩
   refine Yp 22 rfl (gP g) ?_;refine Yp 23 rfl (gP g) ?_;refine Yp 24 rfl (gP g) ?_;refine Yp 25 rfl (gP g) ?_;refine Yp 26 rfl (gP g) ?_;refine Yp 27 rfl (gP g) ?_;refine Yp 28 rfl (gP g) ?_;refine Y1 29<|Yq rfl ⟨_,_,rfl,rfl,g⟩ ?_;refine Yp 30 rfl (gP g) ?_;refine Yu 31 rfl (gW E) (fun _=>Xe rfl g rfl) ?_;refine Yo 32 rfl (fun _=>Xe rfl E rfl) ?_;refine Yd fun a e=>?_
   have o:Below w7.heap.size w7 w8:=m
   exact ⟨e.sub ⟨rfl,rfl,rfl,rfl,X1 rfl (by first|rfl|(simp only [B,C,D,A,E,g,bs];done)|simp [B,C,D,A,E,g]),trivial⟩,o⟩
  rintro a cI ⟨e,H⟩;have c:=c.bw H;have q:=btr q H;refine bF _ _ ?_
  refine Xi e rfl (fun aI=>?_) (fun aI=>?_)
  ·have aU:=aI
   have aG:ivD d=false:=Y4f bZ (by rw [bB,aI];rfl)
   refine Zs e fun _ bG=>?_;refine Za rfl<|Zt bG fun a e=>?_;refine Q6<|X02<|Xa<|Xa ?_;refine X02<|Xa<|X6 e (Xu e rfl rfl) ?_;exact ⟨by rw [aG],q⟩
  have aU:=aI
  have aV:wvQ d k=true:=by rw [bB,aI];rfl
  refine Q7<|Xc<|bC _ _<|Zr e ?_;refine Ze (Xm rfl rfl (by omega) (by omega))<|Zm rfl ?_;refine Zn fun a e=>?_;refine Xd ?_;exact ⟨k+1,⟨e.sb,(by omega),(fun i hi=>by by_cases h9:i=k;rw [h9];exact aV;exact aM i (by omega)),c,M,q⟩,(by omega)⟩
 have C:=aE;have aE:=Q1 aE
 have aW:∀ i,i<d.ws.length->wvQ d i=true:=fun i hi=>aM i (by have:=aE;omega)
 refine Q9<|Xk<|Xk<|X03 ?_;refine b7 _ _<|Q5 fun _ bH=>?_;refine Zs e fun _ bJ=>?_;refine Ze (Vd rfl Xg 1)<|Ze (X0 rfl Xy (c.at 1))<|Ze (X0c rfl Xl)<|Zm rfl<|Zt bJ fun a e=>?_;refine Q8<|X04 (σ:=Nat) (fun (j:Nat) (a:Act) (w:World)=>Fr a 116 [(1,(pZ9 b4)),(83,.slice Ad d.ns.length cd),(84,vi (d.ns.length:Int)),(85,vi (j:Int))]/\(j<=d.ns.length)/\(∀ i:Nat,i<j->nvQ d i=true)/\Blk w b4 39 [vi d.n,.slice Ad d.ns.length cd,.slice Bd d.ws.length dd,vi d.t,vi d.r]/\d.ws.length<=dd/\Below w0.heap.size w0 w) (fun (j:Nat)=>d.ns.length-j) 0 ?_ ?_
 ·exact ⟨e.sb,(Qf _),(fun i hi=>by omega),c,M,q⟩
 rintro j a cJ ⟨e,hj,aO,c,M,q⟩;refine Zs e fun _ bK=>?_;refine Ze (X0q rfl rfl)<|ZX bK fun a e _ bL=>?_
 refine Xi e rfl (fun aF=>?_) (fun aF=>?_)
 ·have a7:=aF;have aF:=Q2 aF
  obtain ⟨cK,cC⟩:=X5 (l:=d.ns) (k:=j) (by omega)
  obtain ⟨v9,aX⟩:=X5 (l:=d.ns) (k:=j) (by have:=aF;omega)
  have c5:=(Qg.1 aX).1;have bM:=Xsx aX;refine Q7<|bL _ _<|Q5 fun _ bN=>?_;refine Q8<|Zs e fun _ bO=>?_;refine Zm rfl<|Zi (k:=j) (u:=v9) (enc:=encNd) (l:=d.ns) tv0 rfl rfl Xl X08 Xw (aC.bx q) aX rfl ?_;intro cL aY;refine Ze (X01 (l:=[vi v9.k,vi v9.p]) rfl X23 aY rfl)<|Zf (Xo (zs:=[vi 0,vi 0]) X4d rfl) ?_;rintro _ cM ⟨cN,rfl,aP,H,aA⟩;have aZ:=Q0 q.size aP;have bP:=(aC.bx q).away aP;have c:=c.bw H;have q:=btr q H;refine Za rfl<|Zo (Vw [vi v9.k,vi v9.p] X08 aA) ?_;rintro _ w13 ⟨ho,hb⟩;have aL:=aA;have c:=c.oz ho aL rfl;have q:=Below.oy q ho aZ;have aA:=hb;refine ZX bO fun a e _ bQ=>?_;refine X0b (fun a w=>Fr a 116 [(1,(pZ9 b4)),(83,.slice Ad d.ns.length cd),(84,vi (d.ns.length:Int)),(85,vi (j:Int)),(114,.bool ((v9.k==0&&cnW d.ws (j:Int) != 0)||((v9.k==1||v9.k==2)&&cnW d.ws (j:Int) != 1)))]/\Below w13.heap.size w13 w) ?_ ?_
  ·have m:Below w13.heap.size w13 w13:=Below.refl _ _
   refine Zr e<|Ze (Vd rfl X0v 0)<|Ze (X0 rfl X7 (aA.at 0))<|Ze (X0m rfl rfl)<|Zm rfl ?_
   refine Zg 93 rfl (fun G=>?_) (fun G=>?_)
   ·refine Zv (gW G) (Vn X2 c) ?_;refine Zv (gW G) (X3 rfl) ?_;refine Zk (gW G) (Vc (X9i _ d d.ns.length rfl Ad cd (aC.bx q).top Bd dd (aD.bx q).top M (j:Int) aK) X4q) ?_;rintro _ w14 ⟨rfl,H⟩;have c:=c.bw H;have aA:=aA.bw H;have q:=btr q H;have m:=btr m H;refine Zv (gW G) (X1o rfl rfl) ?_;refine Ze (X4 rfl G rfl)<|Zm rfl ?_
    refine Zg 99 rfl (fun f=>?_) (fun f=>?_)
    ·(iterate 4 refine Zp (gP f) ?_);(iterate 3 refine Zp (gP tv0) ?_);(iterate 2 refine Zp (gP f) ?_);(iterate 4 refine Zp (gP tv0) ?_);refine Zp (gP f) ?_;refine Ze (X4 rfl f rfl) ?_;refine Zn fun a e=>?_
     have o:Below w13.heap.size w13 w14:=m
     exact ⟨e.sub ⟨rfl,rfl,rfl,rfl,X1 rfl (by simp [B,C,a7,G,f]),trivial⟩,o⟩
    refine Zv (gW f) (Vd rfl X0v 0) ?_;refine Zv (gW f) (X0 rfl X7 (aA.at 0)) ?_;refine Zv (gW f) (X0m rfl rfl) ?_;refine Zv (gW f) (X3 rfl) ?_
    refine Zg 103 rfl (fun N=>?_) (fun N=>?_)
    ·(iterate 3 refine Zp (gP N) ?_);refine Zv (gW f) (X4 rfl N rfl) ?_;refine Zv (gW f) (X3 rfl) ?_;refine Zv (gW rfl) (Vn X2 c) ?_;refine Zv (gW rfl) (X3 rfl) ?_;refine Zk (gW rfl) (Vc (X9i _ d d.ns.length rfl Ad cd (aC.bx q).top Bd dd (aD.bx q).top M (j:Int) aK) X4q) ?_;rintro _ w15 ⟨rfl,H⟩;have q:=btr q H;have m:=btr m H;refine Zv (gW rfl) (X1o rfl rfl) ?_;refine Zv (gW f) (X4 rfl rfl rfl) ?_;refine Ze (Xe rfl f rfl) ?_;refine Zn fun a e=>?_
     have o:Below w13.heap.size w13 w15:=m
     exact ⟨e.sub ⟨rfl,rfl,rfl,rfl,X1 rfl (by simp [B,C,a7,G,f,N]),trivial⟩,o⟩
    refine Zv (gW N) (Vd rfl X0v 0) ?_;refine Zv (gW N) (X0 rfl X7 (aA.at 0)) ?_;refine Zv (gW N) (X0m rfl rfl) ?_;refine Zv (gW f) (Xe rfl N rfl) ?_;refine Zv (gW f) (X3 rfl) ?_
    refine Zg 108 rfl (fun J=>?_) (fun J=>?_)
    ·refine Zv (gW J) (Vn X2 c) ?_;refine Zv (gW J) (X3 rfl) ?_;refine Zk (gW J) (Vc (X9i _ d d.ns.length rfl Ad cd (aC.bx q).top Bd dd (aD.bx q).top M (j:Int) aK) X4q) ?_;rintro _ w16 ⟨rfl,H⟩;have q:=btr q H;have m:=btr m H;refine Zv (gW J) (X1o rfl rfl) ?_;refine Zv (gW f) (X4 rfl J rfl) ?_;refine Ze (Xe rfl f rfl) ?_;refine Zn fun a e=>?_
     have o:Below w13.heap.size w13 w16:=m
     exact ⟨e.sub ⟨rfl,rfl,rfl,rfl,X1 rfl (by simp [B,C,a7,G,f,N,J]),trivial⟩,o⟩
    (iterate 4 refine Zp (gP J) ?_);refine Zv (gW f) (Xe rfl J rfl) ?_;refine Ze (Xe rfl f rfl) ?_;refine Zn fun a e=>?_
    have o:Below w13.heap.size w13 w14:=m
    exact ⟨e.sub ⟨rfl,rfl,rfl,rfl,X1 rfl (by simp [B,C,a7,G,f,N,J]),trivial⟩,o⟩
   (iterate 4 refine Zp (gP G) ?_);refine Ze (Xe rfl G rfl)<|Zm rfl<|Zv (gW rfl) (Vd rfl X0v 0) ?_;refine Zv (gW rfl) (X0 rfl X7 (aA.at 0)) ?_;refine Zv (gW rfl) (X0m rfl rfl) ?_;refine Zv (gW rfl) (X3 rfl) ?_
   refine Zg 103 rfl (fun Q=>?_) (fun Q=>?_)
   ·(iterate 3 refine Zp (gP Q) ?_);refine Zv (gW rfl) (X4 rfl Q rfl) ?_;refine Zv (gW rfl) (X3 rfl) ?_;refine Zv (gW rfl) (Vn X2 c) ?_;refine Zv (gW rfl) (X3 rfl) ?_;refine Zk (gW rfl) (Vc (X9i _ d d.ns.length rfl Ad cd (aC.bx q).top Bd dd (aD.bx q).top M (j:Int) aK) X4q) ?_;rintro _ w17 ⟨rfl,H⟩;have q:=btr q H;have m:=btr m H;refine Zv (gW rfl) (X1o rfl rfl) ?_;refine Zv (gW rfl) (X4 rfl rfl rfl) ?_;refine Ze (Xe rfl rfl rfl) ?_;refine Zn fun a e=>?_
    have o:Below w13.heap.size w13 w17:=m
    exact ⟨e.sub ⟨rfl,rfl,rfl,rfl,X1 rfl (by simp [B,C,a7,G,Q]),trivial⟩,o⟩
   refine Zv (gW Q) (Vd rfl X0v 0) ?_;refine Zv (gW Q) (X0 rfl X7 (aA.at 0)) ?_;refine Zv (gW Q) (X0m rfl rfl) ?_;refine Zv (gW rfl) (Xe rfl Q rfl) ?_;refine Zv (gW rfl) (X3 rfl) ?_
   refine Zg 108 rfl (fun L=>?_) (fun L=>?_)
   ·refine Zv (gW L) (Vn X2 c) ?_;refine Zv (gW L) (X3 rfl) ?_;refine Zk (gW L) (Vc (X9i _ d d.ns.length rfl Ad cd (aC.bx q).top Bd dd (aD.bx q).top M (j:Int) aK) X4q) ?_;rintro _ w18 ⟨rfl,H⟩;have q:=btr q H;have m:=btr m H;refine Zv (gW L) (X1o rfl rfl) ?_;refine Zv (gW rfl) (X4 rfl L rfl) ?_;refine Ze (Xe rfl rfl rfl) ?_;refine Zn fun a e=>?_
    have o:Below w13.heap.size w13 w18:=m
    exact ⟨e.sub ⟨rfl,rfl,rfl,rfl,X1 rfl (by simp [B,C,a7,G,Q,L]),trivial⟩,o⟩
   (iterate 4 refine Zp (gP L) ?_);refine Zv (gW rfl) (Xe rfl L rfl) ?_;refine Ze (Xe rfl rfl rfl) ?_;refine Zn fun a e=>?_
   have o:Below w13.heap.size w13 w13:=m
   exact ⟨e.sub ⟨rfl,rfl,rfl,rfl,X1 rfl (by simp [B,C,a7,G,Q,L]),trivial⟩,o⟩
  rintro a cO ⟨e,H⟩;have c:=c.bw H;have q:=btr q H;refine bQ _ _ ?_
  refine Xi e rfl (fun aJ=>?_) (fun aJ=>?_)
  ·have b0:=aJ
   have aG:ivD d=false:=Y4d c5 (by rw [bM,aJ];rfl)
   refine Zs e fun _ bR=>?_;refine Za rfl<|Zt bR fun a e=>?_;refine Q6<|X02<|Xa<|Xa ?_;refine X02<|Xa<|X6 e (Xu e rfl rfl) ?_;exact ⟨by rw [aG],q⟩
  have b0:=aJ
  have aV:nvQ d j=true:=by rw [bM,aJ];rfl
  refine Q7<|Xc<|bN _ _<|Zr e ?_;refine Ze (Xm rfl rfl (by omega) (by omega))<|Zm rfl ?_;refine Zn fun a e=>?_;refine Xd ?_;exact ⟨j+1,⟨e.sb,(by omega),(fun i hi=>by by_cases h9:i=j;rw [h9];exact aV;exact aO i (by omega)),c,M,q⟩,(by omega)⟩
 have a7:=aF;have aF:=Q1 aF
 have aG:ivD d=true:=Y40 b5 aW fun i hi=>aO i (by have:=aF;omega)
 refine Q9<|Xk<|Xk<|X03 ?_;refine bH _ _<|Zs e fun _ bS=>?_;refine Za rfl<|Zt bS fun a e=>?_
 refine Q6 (X6 e (Xu e rfl rfl) ?_)
 exact ⟨by rw [aG],q⟩
theorem Xj0(U:World)(d:Dg)(md:Nat)(aQ:md=d.ns.length)(Ad:Option Addr)(cd:Nat)(N:Rd U U.heap.size 81 encNd Ad d.ns)(Bd:Option Addr)(dd:Nat)(L:Rd U U.heap.size 83 encWr Bd d.ws)(W:d.ws.length<=dd)(b8:d.ns.length<=1000000000/\d.ws.length<=1000000000) : Ret Tryz.prog 75 [.agg #[vi d.n,.slice Ad md cd,.slice Bd d.ws.length dd,vi d.t,vi d.r]] U (fun v w=>∃ A c B e,v=.agg #[vi d.n,.slice A d.ns.length c,.slice B d.ws.length e,vi d.t,vi d.r]/\Own w U.heap.size 81 2 encNd A c d.ns/\Own w U.heap.size 83 3 encWr B e d.ws/\Below U.heap.size U w):=by
 subst aQ
 refine enter Tryz.func75 rfl 14 rfl rfl ?_;intro a hf
 have i:=bz U
 refine Zs hf fun _ b2=>?_;refine Zf (X0n (zs:=[vi d.n,.slice Ad d.ns.length cd,.slice Bd d.ws.length dd,vi d.t,vi d.r]) rfl rfl) ?_;rintro _ w1 ⟨b4,rfl,b3,g,b⟩;have M:=Q0 i.size b3;have i:=btr i g;refine Zf (Xo (zs:=[vi 0,.slice none 0 0,.slice none 0 0,vi 0,vi 0]) X0o rfl) ?_;rintro _ w2 ⟨b7,rfl,b5,g,f⟩
 have b0:b4≠b7:=by have:=b.lt;omega
 have aR:=Q0 i.size b5;have b:=b.bw g;have i:=btr i g;refine ZX b2 fun a hf _ b6=>?_;refine X0b (fun a w=>∃ G H I J,Fr a 14 [(1,(pZ9 b4)),(2,(pZ9 b7))]/\Own w U.heap.size 81 2 encNd G H d.ns/\Own w U.heap.size 83 3 encWr I J d.ws/\Blk w b4 39 [vi d.n,.slice G d.ns.length H,.slice I d.ws.length J,vi d.t,vi d.r]/\Blk w b7 39 [vi 0,.slice none 0 0,.slice none 0 0,vi 0,vi 0]/\d.ws.length<=dd/\Below U.heap.size U w) ?_ ?_
 ·refine X00 none (fun j=>[9,11].contains j) mixed ?_;intro w3 g;have b:=b.bw g;have f:=f.bw g;have i:=btr i g;refine Yb hf<|Yo 1 rfl (fun _=>Vd rfl Xg 1)<|Ye 2 rfl (X0 rfl Xy (b.at 1))<|Yo 5 rfl (fun _=>Vd rfl Xn 2)<|Ye 6 rfl (X0 rfl X0g (b.at 2)) ?_;refine Y2 0 4 ?_ ?_
  ·refine Yk rfl tv0 (Xs (k:=0) (vs:=[]) (zs:=[]) rfl Xl X26 rfl rfl) (fun _ _ ⟨_,_,_,h,_⟩=>h) ?_;rintro _ w4 ⟨b9,rfl,aS,g,aC⟩;have aH:=Q0 i.size aS;have b1:=(N.bx i).away aS;have b:=b.bw g;have f:=f.bw g;have i:=btr i g;refine Y2 3 4 ?_ ?_
   ·refine Yk rfl tv0 (X3o (enc:=encNd) (l2:=(d.ns)) rfl rfl Xl X26 Xw X37 aC (N.bx i) (by simp only [maxLen];omega) (by omega)) (fun _ _ ⟨G,H,_,o,g,q⟩=>g) ?_;rintro _ w5 ⟨G,H,rfl,o,g,q⟩;clear q;have o:=o.lower aH;have b:=b.bw g;have f:=f.bw g;have i:=btr i g;refine Yo 8 rfl (fun _=>Vd rfl Xg 1)<|Y1 4 ?_;refine Yk rfl tv0 (Xs (k:=0) (vs:=[]) (zs:=[]) rfl Xt X14 rfl rfl) (fun _ _ ⟨_,_,_,h,_⟩=>h) ?_;rintro _ w6 ⟨bA,rfl,aI,g,aT⟩;have aM:=Q0 i.size aI;have aU:=(L.bx i).away aI;have b:=b.bw g;have f:=f.bw g;have o:=o.bw g;have i:=btr i g;refine Y1 7<|Yk rfl tv0 (X3o (enc:=encWr) (l2:=(d.ws)) rfl rfl Xt X14 Xz X1r aT (L.bx i) (by simp only [maxLen];omega) (by omega)) (fun _ _ ⟨I,J,_,p,g,q⟩=>g) ?_;rintro _ w7 ⟨I,J,rfl,p,g,q⟩;clear q;have p:=p.lower aM;have b:=b.bw g;have f:=f.bw g;have o:=o.bw g;have i:=btr i g;refine Y1 9<|Yh rfl tv0 rfl (Vu (vs:=[.slice G d.ns.length H]) (l':=[vi d.n,.slice G d.ns.length H,.slice Bd d.ws.length dd,vi d.t,vi d.r]) rfl rfl X50 b) ?_;rintro _ w8 ⟨u,hb⟩;have m:=b;have f:=f.oy u (by omega);have o:=o.oT u m rfl;have p:=p.oT u m rfl;have i:=Below.oy i u M;have b:=hb;refine Yo 10 rfl (fun _=>Vd rfl Xn 2)<|Y1 11 ?_;refine Yh rfl tv0 rfl (Vu (vs:=[.slice I d.ws.length J]) (l':=[vi d.n,.slice G d.ns.length H,.slice I d.ws.length J,vi d.t,vi d.r]) rfl rfl X1k b) ?_;rintro _ w9 ⟨u,hb⟩;have m:=b;have f:=f.oy u (by omega)
    have o:=o.oT u m rfl;have p:=p.oT u m rfl;have i:=Below.oy i u M;have b:=hb;refine Yd fun a hf=>?_;exact ⟨G,H,I,J,hf.sb,o,p,b,f,W,i⟩
   refine Yk rfl tv0 (Xs (k:=0) (vs:=[]) (zs:=[]) rfl Xt X14 rfl rfl) (fun _ _ ⟨_,_,_,h,_⟩=>h) ?_;rintro _ bB ⟨bC,rfl,aJ,g,a6⟩;have aN:=Q0 i.size aJ;have aV:=(L.bx i).away aJ;have b:=b.bw g;have f:=f.bw g;have aC:=aC.bw g;have i:=btr i g;refine Y1 3<|Yk rfl tv0 (X3o (enc:=encNd) (l2:=(d.ns)) rfl rfl Xl X26 Xw X37 aC (N.bx i) (by simp only [maxLen];omega) (by omega)) (fun _ _ ⟨a7,a8,_,x,g,q⟩=>g) ?_;rintro _ bD ⟨a7,a8,rfl,x,g,q⟩;clear q;have x:=x.lower aH;have b:=b.bw g;have f:=f.bw g;have a6:=a6.bw g;have i:=btr i g;refine Yo 8 rfl (fun _=>Vd rfl Xg 1)<|Y1 7 ?_;refine Yk rfl tv0 (X3o (enc:=encWr) (l2:=(d.ws)) rfl rfl Xt X14 Xz X1r a6 (L.bx i) (by simp only [maxLen];omega) (by omega)) (fun _ _ ⟨aD,aE,_,D,g,q⟩=>g) ?_;rintro _ bE ⟨aD,aE,rfl,D,g,q⟩;clear q;have D:=D.lower aN;have b:=b.bw g;have f:=f.bw g;have x:=x.bw g;have i:=btr i g;refine Y1 9<|Yh rfl tv0 rfl (Vu (vs:=[.slice a7 d.ns.length a8]) (l':=[vi d.n,.slice a7 d.ns.length a8,.slice Bd d.ws.length dd,vi d.t,vi d.r]) rfl rfl X50 b) ?_;rintro _ bF ⟨u,hb⟩;have m:=b;have f:=f.oy u (by omega);have x:=x.oT u m rfl;have D:=D.oT u m rfl;have i:=Below.oy i u M;have b:=hb;refine Yo 10 rfl (fun _=>Vd rfl Xn 2)<|Y1 11 ?_;refine Yh rfl tv0 rfl (Vu (vs:=[.slice aD d.ws.length aE]) (l':=[vi d.n,.slice a7 d.ns.length a8,.slice aD d.ws.length aE,vi d.t,vi d.r]) rfl rfl X1k b) ?_;rintro _ bG ⟨u,hb⟩;have m:=b
   have f:=f.oy u (by omega);have x:=x.oT u m rfl;have D:=D.oT u m rfl;have i:=Below.oy i u M;have b:=hb;refine Yd fun a hf=>?_;exact ⟨a7,a8,aD,aE,hf.sb,x,D,b,f,W,i⟩
  refine Yk rfl tv0 (Xs (k:=0) (vs:=[]) (zs:=[]) rfl Xt X14 rfl rfl) (fun _ _ ⟨_,_,_,h,_⟩=>h) ?_;rintro _ bH ⟨bJ,rfl,aK,g,Q⟩;have aO:=Q0 i.size aK;have aW:=(L.bx i).away aK;have b:=b.bw g;have f:=f.bw g;have i:=btr i g;refine Y1 0<|Yk rfl tv0 (Xs (k:=0) (vs:=[]) (zs:=[]) rfl Xl X26 rfl rfl) (fun _ _ ⟨_,_,_,h,_⟩=>h) ?_;rintro _ bK ⟨bL,rfl,aL,g,aX⟩;have aP:=Q0 i.size aL;have aY:=(N.bx i).away aL;have b:=b.bw g;have f:=f.bw g;have Q:=Q.bw g;have i:=btr i g;refine Y1 3<|Yk rfl tv0 (X3o (enc:=encNd) (l2:=(d.ns)) rfl rfl Xl X26 Xw X37 aX (N.bx i) (by simp only [maxLen];omega) (by omega)) (fun _ _ ⟨aA,aB,_,C,g,q⟩=>g) ?_;rintro _ bM ⟨aA,aB,rfl,C,g,q⟩;clear q;have C:=C.lower aP;have b:=b.bw g;have f:=f.bw g;have Q:=Q.bw g;have i:=btr i g;refine Yo 8 rfl (fun _=>Vd rfl Xg 1)<|Y1 7 ?_;refine Yk rfl tv0 (X3o (enc:=encWr) (l2:=(d.ws)) rfl rfl Xt X14 Xz X1r Q (L.bx i) (by simp only [maxLen];omega) (by omega)) (fun _ _ ⟨aF,aG,_,E,g,q⟩=>g) ?_;rintro _ bN ⟨aF,aG,rfl,E,g,q⟩;clear q;have E:=E.lower aO;have b:=b.bw g;have f:=f.bw g;have C:=C.bw g;have i:=btr i g;refine Y1 9<|Yh rfl tv0 rfl (Vu (vs:=[.slice aA d.ns.length aB]) (l':=[vi d.n,.slice aA d.ns.length aB,.slice Bd d.ws.length dd,vi d.t,vi d.r]) rfl rfl X50 b) ?_;rintro _ bO ⟨u,hb⟩;have m:=b;have f:=f.oy u (by omega);have C:=C.oT u m rfl;have E:=E.oT u m rfl
  have i:=Below.oy i u M;have b:=hb;refine Yo 10 rfl (fun _=>Vd rfl Xn 2)<|Y1 11 ?_;refine Yh rfl tv0 rfl (Vu (vs:=[.slice aF d.ws.length aG]) (l':=[vi d.n,.slice aA d.ns.length aB,.slice aF d.ws.length aG,vi d.t,vi d.r]) rfl rfl X1k b) ?_;rintro _ bP ⟨u,hb⟩;have m:=b;have f:=f.oy u (by omega);have C:=C.oT u m rfl;have E:=E.oT u m rfl;have i:=Below.oy i u M;have b:=hb;refine Yd fun a hf=>?_;exact ⟨aA,aB,aF,aG,hf.sb,C,E,b,f,W,i⟩
 rintro a bQ ⟨G,H,I,J,hf,o,p,b,f,W,i⟩;refine b6 _ _<|Zs hf fun _ aZ=>?_;refine Ze (Vn X2 b)<|Zo (Vw [vi d.n,.slice G d.ns.length H,.slice I d.ws.length J,vi d.t,vi d.r] Xf f) ?_;rintro _ bR ⟨u,hb⟩;have m:=f;have o:=o.oT u m rfl;have p:=p.oT u m rfl;have i:=Below.oy i u aR;have f:=hb;refine Zt aZ fun a hf=>?_
 refine Q6 (X6 hf (Xu hf rfl (ResV.cellN (l:=[vi d.n,.slice G d.ns.length H,.slice I d.ws.length J,vi d.t,vi d.r]) rfl X2 (f.at 0) rfl)) ?_)
 exact ⟨G,H,I,J,rfl,o,p,i⟩
theorem Xs7(j:World)(d:Dg)(md:Nat)(a7:md=d.ns.length)(Ad:Option Addr)(cd:Nat)(k:Rd j j.heap.size 81 encNd Ad d.ns)(Bd:Option Addr)(dd:Nat)(m:Rd j j.heap.size 83 encWr Bd d.ws)(o:d.ws.length<=dd)(aD:d.ws.length<=1000000000) : Ret Tryz.prog 77 [.agg #[vi d.n,.slice Ad md cd,.slice Bd d.ws.length dd,vi d.t,vi d.r]] j (fun v w=>∃ A c1 B e,v=.tuple #[.agg #[vi (if (ivD d)=true then d else zD).n,.slice A (if (ivD d)=true then d else zD).ns.length c1,.slice B (if (ivD d)=true then d else zD).ws.length e,vi (if (ivD d)=true then d else zD).t,vi (if (ivD d)=true then d else zD).r],.bool (ivD d)]/\Rd w w.heap.size 81 encNd A (if (ivD d)=true then d else zD).ns/\Rd w w.heap.size 83 encWr B (if (ivD d)=true then d else zD).ws/\(if (ivD d)=true then d else zD).ws.length<=e/\Below j.heap.size j w):=by
 subst a7
 refine enter Tryz.func77 rfl 9 rfl rfl ?_;intro a i
 have c:=bz j
 refine Zs i fun _ aE=>?_;refine Zf (X0n (zs:=[vi d.n,.slice Ad d.ns.length cd,.slice Bd d.ws.length dd,vi d.t,vi d.r]) rfl rfl) ?_;rintro _ w1 ⟨b4,rfl,aF,p,g⟩;have aL:=Q0 c.size aF;have c:=btr c p;refine Zf (Xo (zs:=[vi 0,.slice none 0 0,.slice none 0 0,vi 0,vi 0]) X0o rfl) ?_;rintro _ w2 ⟨b7,rfl,aG,p,b⟩
 have aC:b4≠b7:=by have:=g.lt;omega
 have q:=Q0 c.size aG;have g:=g.bw p;have c:=btr c p;refine Za rfl<|ZX aE fun a i _ aH=>?_;refine Zs i fun _ aI=>?_;refine Ze (Vn X2 g)<|Zf (Vc (Xg6 _ d d.ns.length rfl Ad cd (k.bx c).top Bd dd (m.bx c).top o aD) X87) ?_;rintro _ w3 ⟨rfl,p⟩;have g:=g.bw p;have b:=b.bw p;have c:=btr c p;refine Ze (X0y rfl)<|Zt aI fun a i=>?_
 refine Xi i rfl (fun f=>?_) (fun f=>?_)
 ·have a6:=f
  have aJ:ivD d=false:=by have h8:=f;simpa using h8
  refine Zs i fun _ a8=>?_;refine Ze (X0e (ps:=[]) (cs:=[vi 0,.slice none 0 0,.slice none 0 0,vi 0,vi 0]) rfl (fun _=>by first|rfl|kernel_rfl))<|Zo (Vw [vi 0,.slice none 0 0,.slice none 0 0,vi 0,vi 0] Xf b) ?_;rintro _ w4 ⟨ho,hb⟩;have aA:=b;have c:=Below.oy c ho q;have b:=hb;refine Za rfl<|Zt a8 fun a i=>?_;refine Q6<|Xa<|X6 i (X19 i rfl (ResV.cellN (l:=[vi 0,.slice none 0 0,.slice none 0 0,vi 0,vi 0]) rfl X2 (b.at 0) rfl) rfl) ?_
  rw [aJ,Q3 Bool.false_ne_true]
  exact ⟨none,0,none,0,rfl,(Rd.nil _ _ _ _ _),(Rd.nil _ _ _ _ _),(Qf _),c⟩
 have a6:=f
 have aK:ivD d=true:=by have h8:=f;simpa using h8
 refine Q7<|aH _ _<|Zs i fun _ aB=>?_;refine Ze (Vn X2 g)<|Zo (Vw [vi d.n,.slice Ad d.ns.length cd,.slice Bd d.ws.length dd,vi d.t,vi d.r] Xf b) ?_;rintro _ w5 ⟨ho,hb⟩;have aA:=b;have c:=Below.oy c ho q;have b:=hb;refine Za rfl<|Zt aB fun a i=>?_
 refine Q6 (X6 i (X19 i rfl (ResV.cellN (l:=[vi d.n,.slice Ad d.ns.length cd,.slice Bd d.ws.length dd,vi d.t,vi d.r]) rfl X2 (b.at 0) rfl) rfl) ?_)
 rw [aK,Q4 rfl]
 exact ⟨Ad,cd,Bd,dd,rfl,(k.bx c).top,(m.bx c).top,o,c⟩
theorem Y2i(j:World)(d:Dg)(md:Nat)(aE:md=d.ns.length)(Ad:Option Addr)(cd:Nat)(G:Rd j j.heap.size 81 encNd Ad d.ns)(Bd:Option Addr)(dd:Nat)(b1:Rd j j.heap.size 83 encWr Bd d.ws)(o:d.ws.length<=dd)(hN:md<=1000) : Ret Tryz.prog 69 [.agg #[vi d.n,.slice Ad md cd,.slice Bd d.ws.length dd,vi d.t,vi d.r]] j (fun v w=>∃ A c,v=.slice A (spL d.ns).length c/\Own w j.heap.size 3 1 encI A c (spL d.ns)/\Below j.heap.size j w):=by
 refine enter Tryz.func69 rfl 24 rfl rfl ?_;intro a f
 have g:=bz j
 refine Zs f fun _ aR=>?_;refine Zf (X0n (zs:=[vi d.n,.slice Ad md cd,.slice Bd d.ws.length dd,vi d.t,vi d.r]) rfl rfl) ?_;rintro _ w1 ⟨b4,rfl,aS,E,a6⟩;have b2:=Q0 g.size aS;have g:=btr g E;refine Za rfl<|Zx aR fun a f _ aT=>?_;refine Zf (Xs (k:=0) (vs:=[]) (zs:=[]) rfl Xj X1h rfl rfl) ?_;rintro _ w2 ⟨b7,rfl,aU,E,aV⟩;have aF:=Q0 g.size aU;have a6:=a6.bw E;have g:=btr g E;refine Za rfl<|ZX aT fun a f _ aW=>?_;refine Zs f fun _ aG=>?_;refine Ze (Vd rfl Xg 1)<|Ze (X0 rfl Xy (a6.at 1))<|Ze (X0c rfl Xl)<|Zm rfl<|Zt aG fun a f=>?_;refine Q8<|X04 (σ:=Nat×(List Int)) (fun (s:Nat×(List Int)) (a:Act) (w:World)=>match s with|(k,m)=>∃ h B,Fr a 24 [(3,.slice h m.length B),(8,.slice Ad md cd),(9,vi (md:Int)),(10,vi (k:Int))]/\(k<=d.ns.length)/\(m=spK d.ns k)/\Own w j.heap.size 3 1 encI h B m/\d.ws.length<=dd/\Below j.heap.size j w) (fun (s:Nat×(List Int))=>match s with|(k,m)=>d.ns.length-k) (0,[]) ?_ ?_
 ·exact ⟨some ⟨b7,0,none⟩,0,f.sb,(Qf _),rfl,(Own.empty aV aF),o,g⟩
 rintro ⟨k,m⟩ a w3 ⟨h,B,f,hk,hm,b,o,g⟩;have aX:=X4u d.ns k
 rw [<- hm] at aX
 refine Zs f fun _ aH=>?_;refine Ze (X0q rfl rfl)<|ZX aH fun a f _ aI=>?_
 refine Xi f rfl (fun e=>?_) (fun e=>?_)
 ·have a7:=e;have e:=Q2 e
  obtain ⟨u9,a8⟩:=X5 (l:=d.ns) (k:=k) (by have:=e;omega)
  refine Q7<|aI _ _<|Q5 fun _ H=>?_;refine Q8<|Zs f fun _ aJ=>?_;refine Zm rfl<|Zj (k:=k) (u:=u9) (enc:=encNd) (l:=d.ns) tv0 rfl aE rfl Xl X08 Xw (G.bx g) a8 (by omega) ?_;intro b3 aA;refine Ze (X01 (l:=[vi u9.k,vi u9.p]) rfl X23 aA rfl)<|Zf (Xo (zs:=[vi 0,vi 0]) X4d rfl) ?_;rintro _ w4 ⟨b5,rfl,I,E,q⟩;have aB:=Q0 g.size I;have aK:=(G.bx g).away I;have b:=b.bw E;have g:=btr g E;refine Za rfl<|Zo (Vw [vi u9.k,vi u9.p] X08 q) ?_;rintro _ w5 ⟨ho,hb⟩;have aL:=q;have b:=b.oT ho aL rfl;have g:=Below.oy g ho aB;have q:=hb;refine Zx aJ fun a f _ aM=>?_;refine Ze (Vd rfl X0v 0)<|Ze (X0 rfl X7 (q.at 0))<|Ze (X0m rfl rfl)<|Zt aM fun a f=>?_
  refine Xi f rfl (fun i=>?_) (fun i=>?_)
  ·have aC:=i;have C:=Xtm a8 i
   rw [<- hm] at C
   refine Zr f<|Zm rfl<|Zm rfl<|Zf (Xs (k:=1) (vs:=[vi (k:Int)]) (zs:=[vi (k:Int)]) rfl Xj X1h rfl rfl) ?_;rintro _ w6 ⟨b6,rfl,J,E,D⟩;have aY:=Q0 g.size J;have x:=b.away J;have b:=b.bw E;have g:=btr g E;refine Zf (X0z (enc:=encI) (l:=(m)) (l2:=([(k:Int)])) (B0:=j.heap.size) rfl rfl Xj X1h X9 X1e b (Rd.of_blk D rfl _ D.lt) (by simp only [maxLen];simp;omega) (by simp;omega) g.size) ?_;rintro _ w7 ⟨aZ,b0,rfl,aN,hg,aO⟩
   have L:Own _ j.heap.size 3 1 encI _ _ (m):=b
   have aD:=aO _ D.lt x;clear aO;have g:=Below.app g L hg (Qb _) g.size;clear L hg;refine Za rfl ?_;refine Zn fun a f=>?_;refine Xc<|H _ _<|Zr f<|Ze (Xm rfl rfl (by omega) (by omega))<|Zm rfl ?_;refine Zn fun a f=>?_;refine Xd ?_;exact ⟨(k+1,m++([(k:Int)])),⟨aZ,b0,f.sb,(by omega),(by rw [C]),aN,o,g⟩,(by first|omega|(dsimp only;omega))⟩
  have aC:=i;have C:=Xsq a8 i
  rw [<- hm] at C
  refine Q7<|Xc<|H _ _<|Zr f ?_;refine Ze (Xm rfl rfl (by omega) (by omega))<|Zm rfl ?_;refine Zn fun a f=>?_;refine Xd ?_;exact ⟨(k+1,m),⟨h,B,f.sb,(by omega),(by rw [C]),b,o,g⟩,(by first|omega|(dsimp only;omega))⟩
 have a7:=e;have e:=Q1 e
 have aP:m=spL d.ns:=by rw [hm,show k=d.ns.length by have:=e;omega];rfl
 refine Q9<|Xk<|Xk<|X03 ?_;refine aW _ _<|Zs f fun _ aQ=>?_;refine Zm rfl<|Za rfl<|Zt aQ fun a f=>?_
 refine Q6 (X6 f (Xu f rfl rfl) ?_)
 rw [<- aP]
 exact ⟨h,B,rfl,b,g⟩
theorem Xpp{l:List Int}(h:l.Pairwise (·<=·)) : sortI l=l:=by
 unfold sortI
 exact List.mergeSort_of_pairwise (h.imp fun h=>by simpa using h)
theorem Xvx{l:List Int}(h:Inc l) : l.Pairwise (·<=·):=List.Pairwise.imp (fun h=>Int.le_of_lt h) h
theorem Xi5{ws:List Wr}(h:InW ws)(k:Int) : sortI (nearW ws k)=nearW ws k:=Xpp (Xvx (X3i h))
theorem Xu0{α:Type}{l:List α}{q:α->Bool}{k:Nat}{u:α}(h:(l.take k).any q=false)(hu:l[k]? = some u)(hq:q u=false) : (l.take (k+1)).any q=false:=by
 rw [Qt,hu,Option.toList_some,List.any_append,h,List.any_cons,hq]
 rfl
theorem Xot{α:Type}{l:List α}{q:α->Bool}{k:Nat}(h:(l.take k).any q=false)(hk:l.length<=k) : l.any q=false:=by rwa [Qi hk] at h
theorem Xqq{α:Type}{l:List α}{q:α->Bool}{k:Nat}{u:α}(hu:l[k]? = some u)(hq:q u=true) : l.any q=true:=List.any_eq_true.2 ⟨u,Qe hu,hq⟩
def prQ(d:Dg)(l:List Int)(i:Nat) : Bool:=(l.take i).any fun y=>tyW d.ws (l.getD i 0) y==1
def prD(d:Dg)(l:List Int) : Bool:=(List.range l.length).any (prQ d l)
theorem Xxh{d:Dg}{l:List Int}(h:∀ j,j<l.length->prQ d l j=false) : prD d l=false:=W7.2 fun j hj=>by rw [h j (W2.1 hj)];decide
theorem Xr1{d:Dg}{l:List Int}{k:Nat}(hk:k<l.length)(h:prQ d l k=true) : prD d l=true:=List.any_eq_true.2 ⟨k,W2.2 hk,h⟩
theorem Xdf(q:World)(d:Dg)(md:Nat)(bG:md=d.ns.length)(Ad:Option Addr)(cd:Nat)(bH:Rd q q.heap.size 81 encNd Ad d.ns)(Bd:Option Addr)(dd:Nat)(a7:Rd q q.heap.size 83 encWr Bd d.ws)(x:d.ws.length<=dd)(p:Int)(hI:InW d.ws)(bL:d.ws.length<=1000000000) : Ret Tryz.prog 151 [.agg #[vi d.n,.slice Ad md cd,.slice Bd d.ws.length dd,vi d.t,vi d.r],vi p] q (fun v w=>∃ A c,v=.slice A (nearW d.ws p).length c/\Own w q.heap.size 3 1 encI A c (nearW d.ws p)/\Below q.heap.size q w):=by
 refine enter Tryz.func151 rfl 39 rfl rfl ?_;intro a f
 have g:=bz q
 refine Zs f fun _ b1=>?_;refine Zf (X0n (zs:=[vi d.n,.slice Ad md cd,.slice Bd d.ws.length dd,vi d.t,vi d.r]) rfl rfl) ?_;rintro _ w1 ⟨b4,rfl,b2,G,aD⟩;have bJ:=Q0 g.size b2;have g:=btr g G;refine Za rfl<|Zx b1 fun a f _ b3=>?_;refine Zf (Xs (k:=0) (vs:=[]) (zs:=[]) rfl Xj X1h rfl rfl) ?_;rintro _ w2 ⟨b7,rfl,b5,G,b6⟩;have aL:=Q0 g.size b5;have aD:=aD.bw G;have g:=btr g G;refine Za rfl<|ZX b3 fun a f _ b8=>?_;refine Zs f fun _ aM=>?_;refine Ze (Vd rfl Xn 2)<|Ze (X0 rfl X0g (aD.at 2))<|Ze (X0c rfl Xt)<|Zm rfl<|Zt aM fun a f=>?_;refine Q8<|X04 (σ:=Nat×(List Int)) (fun (s:Nat×(List Int)) (a:Act) (w:World)=>match s with|(k,m)=>∃ H I,Fr a 39 [(1,vi p),(5,.slice H m.length I),(10,.slice Bd d.ws.length dd),(11,vi (d.ws.length:Int)),(12,vi (k:Int))]/\(k<=d.ws.length)/\(m=nearW (d.ws.take k) p)/\Own w q.heap.size 3 1 encI H I m/\d.ws.length<=dd/\Below q.heap.size q w) (fun (s:Nat×(List Int))=>match s with|(k,m)=>d.ws.length-k) (0,[]) ?_ ?_
 ·exact ⟨some ⟨b7,0,none⟩,0,f.sb,(Qf _),(by simp [nearW]),(Own.empty b6 aL),x,g⟩
 rintro ⟨k,m⟩ a w3 ⟨H,I,f,hk,hm,e,x,g⟩;have aN:=X2e (d.ws.take k) p
 rw [<- hm,Qn] at aN
 refine Zs f fun _ aO=>?_;refine Ze (X0q rfl rfl)<|ZX aO fun a f _ aP=>?_
 refine Xi f rfl (fun i=>?_) (fun i=>?_)
 ·have aE:=i;have i:=Q2 i
  obtain ⟨bM,bK⟩:=X5 (l:=d.ws) (k:=k) (by omega)
  obtain ⟨E,a6⟩:=X5 (l:=d.ws) (k:=k) (by have:=i;omega)
  refine Q7<|aP _ _<|Q5 fun _ M=>?_;refine Q8<|Zs f fun _ aQ=>?_;refine Zi (k:=k) (u:=E) (enc:=encWr) (l:=d.ws) tv0 rfl rfl Xt X0d Xz (a7.bx g) a6 rfl ?_;intro bN aF;refine Ze (X01 (l:=[vi E.a,vi E.b,.bool E.h]) rfl X16 aF rfl)<|Zf (Xo (zs:=[vi 0,vi 0,.bool false]) X2m rfl) ?_;rintro _ w4 ⟨bO,rfl,a8,G,o⟩;have aG:=Q0 g.size a8;have aR:=(a7.bx g).away a8;have e:=e.bw G;have g:=btr g G;refine Zo (Vw [vi E.a,vi E.b,.bool E.h] X0d o) ?_;rintro _ w5 ⟨ho,hb⟩;have aS:=o;have e:=e.oT ho aS rfl;have g:=Below.oy g ho aG;have o:=hb;refine Zx aQ fun a f _ aT=>?_;refine Zm rfl<|Zt aT fun a f=>?_;refine Q8<|Zs f fun _ aU=>?_;refine Ze (Vd rfl X0r 0)<|Ze (X0 rfl X7 (o.at 0))<|Ze (X0m rfl rfl)<|Za rfl<|Zt aU fun a f=>?_
  refine Xi f rfl (fun B=>?_) (fun B=>?_)
  ·have aH:=B
   have C:=Xde a6 (by simpa using B)
   rw [<- hm] at C
   refine Zr f<|Zm rfl<|Ze (Vd rfl X0s 1)<|Ze (X0 rfl X7 (o.at 1))<|Zf (Xs (k:=1) (vs:=[vi E.b]) (zs:=[vi E.b]) rfl Xj X1h rfl rfl) ?_;rintro _ w6 ⟨bP,rfl,aA,G,N⟩;have b9:=Q0 g.size aA;have J:=e.away aA;have e:=e.bw G;have g:=btr g G;refine Zf (X0z (enc:=encI) (l:=(m)) (l2:=([E.b])) (B0:=q.heap.size) rfl rfl Xj X1h X9 X1e e (Rd.of_blk N rfl _ N.lt) (by simp only [maxLen];simp;omega) (by simp;omega) g.size) ?_;rintro _ w7 ⟨bA,bB,rfl,aV,hg,Q⟩
   have j:Own _ q.heap.size 3 1 encI _ _ (m):=e
   have aJ:=Q _ N.lt J;clear Q;have g:=Below.app g j hg (Qb _) g.size;clear j hg;refine Za rfl ?_;refine Zn fun a f=>?_;refine Xc<|Xc<|M _ _<|Zr f ?_;refine Ze (Xm rfl rfl (by omega) (by omega))<|Zm rfl ?_;refine Zn fun a f=>?_;refine Xd ?_;exact ⟨(k+1,m++([E.b])),⟨bA,bB,f.sb,(by omega),(by rw [C]),aV,x,g⟩,(by first|omega|(dsimp only;omega))⟩
  have aH:=B;have aW:=B;refine Zs f fun _ aX=>?_;refine Ze (Vd rfl X0s 1)<|Ze (X0 rfl X7 (o.at 1))<|Ze (X0m rfl rfl)<|Za rfl<|Zt aX fun a f=>?_
  refine Xi f rfl (fun D=>?_) (fun D=>?_)
  ·have aI:=D
   have C:=Xe4 a6 (by simpa using aW) (by simpa using D)
   rw [<- hm] at C
   refine Zr f<|Zm rfl<|Ze (Vd rfl X0r 0)<|Ze (X0 rfl X7 (o.at 0))<|Zf (Xs (k:=1) (vs:=[vi E.a]) (zs:=[vi E.a]) rfl Xj X1h rfl rfl) ?_;rintro _ w8 ⟨bQ,rfl,aB,G,U⟩;have bC:=Q0 g.size aB;have L:=e.away aB;have e:=e.bw G;have g:=btr g G;refine Zf (X0z (enc:=encI) (l:=(m)) (l2:=([E.a])) (B0:=q.heap.size) rfl rfl Xj X1h X9 X1e e (Rd.of_blk U rfl _ U.lt) (by simp only [maxLen];simp;omega) (by simp;omega) g.size) ?_;rintro _ w9 ⟨bD,bE,rfl,aY,hg,Q⟩
   have j:Own _ q.heap.size 3 1 encI _ _ (m):=e
   have aK:=Q _ U.lt L;clear Q;have g:=Below.app g j hg (Qb _) g.size;clear j hg;refine Za rfl ?_;refine Zn fun a f=>?_;refine Xc<|Xc<|M _ _<|Zr f ?_;refine Ze (Xm rfl rfl (by omega) (by omega))<|Zm rfl ?_;refine Zn fun a f=>?_;refine Xd ?_;exact ⟨(k+1,m++([E.a])),⟨bD,bE,f.sb,(by omega),(by rw [C]),aY,x,g⟩,(by first|omega|(dsimp only;omega))⟩
  have aI:=D
  have C:=Xal a6 (by simpa using aW) (by simpa using D)
  rw [<- hm] at C
  refine Q7<|Xc<|Xc<|M _ _ ?_;refine Zr f<|Ze (Xm rfl rfl (by omega) (by omega))<|Zm rfl ?_;refine Zn fun a f=>?_;refine Xd ?_;exact ⟨(k+1,m),⟨H,I,f.sb,(by omega),(by rw [C]),e,x,g⟩,(by first|omega|(dsimp only;omega))⟩
 have aE:=i;have i:=Q1 i
 have W:m=nearW d.ws p:=by rw [hm,Qi (by have:=i;omega)]
 have bR:m.length<=d.ws.length:=by rw [W];exact X2e _ _
 have bF:sortI m=m:=by rw [W];exact Xi5 hI p
 refine Q9<|Xk<|Xk<|X03 ?_;refine b8 _ _<|Zs f fun _ aZ=>?_;refine Zm rfl<|Zf (Vc (F94 _ q.heap.size H I m e (by have:=X2e d.ws p;omega)) Xt6) ?_;rintro _ bS ⟨aC,hg⟩;have j:=e;have g:=Below.app g j hg (Qb _) g.size
 clear j hg;clear e;have e:=aC;clear aC;refine Zx aZ fun a f _ b0=>?_;refine Zm rfl<|Za rfl<|Zt b0 fun a f=>?_
 refine Q6 (X6 f (Xu f rfl rfl) ?_)
 rw [<- W]
 exact ⟨H,I,rfl,bF▸e,g⟩
theorem Xxz(c:World)(x:Int)(d:Dg)(md:Nat)(m:md=d.ns.length)(Ad:Option Addr)(cd:Nat)(o:Rd c c.heap.size 81 encNd Ad d.ns)(Bd:Option Addr)(dd:Nat)(q:Rd c c.heap.size 83 encWr Bd d.ws)(u:d.ws.length<=dd)(p:Int)(ba bb:Nat)(f:Blk c ba 39 [vi d.n,.slice Ad md cd,.slice Bd d.ws.length dd,vi d.t,vi d.r])(j:Blk c bb 3 [vi p])(hN:md<=1000)(a7:d.ws.length<=1000000000) : Ret Tryz.prog 227 [vi x,(pZ9 ba),(pZ9 bb)] c (fun v w=>v=.bool (!(spI d.ns x)||tyW d.ws p x != 2)/\Below c.heap.size c w):=by
 have a8:=f.lt;have aA:=j.lt;refine enter Tryz.func227 rfl 16 rfl rfl ?_;intro a i
 have g:=bz c
 refine Zs i fun _ aB=>?_;refine Za rfl<|ZX aB fun a i _ aC=>?_;refine X0b (fun a w=>Fr a 16 [(4,.bool ((!(spI d.ns x))||((tyW d.ws p x) != 2)))]/\Below c.heap.size c w) ?_ ?_
 ·have e:=bz c
  refine Zr i<|Ze (X01 (l:=[vi d.n,.slice Ad md cd,.slice Bd d.ws.length dd,vi d.t,vi d.r]) rfl X2 (f.at 0) rfl)<|Zm rfl<|Zf (Vc (X59 _ d md m Ad cd (o.bx g).top Bd dd (q.bx g).top u x hN) X2r) ?_;rintro _ w1 ⟨rfl,k⟩;have f:=f.bw k;have j:=j.bw k;have g:=btr g k;have e:=btr e k;refine Ze (X0y rfl)<|Zm rfl ?_
  refine Zg 9 rfl (fun b=>?_) (fun b=>?_)
  ·(iterate 5 refine Zp (gP b) ?_);refine Ze (X4 rfl b rfl)<|Za rfl ?_;refine Zn fun a i=>?_
   have a6:Below c.heap.size c w1:=e
   exact ⟨i.sub ⟨X1 rfl (by simp [b]),trivial⟩,a6⟩
  refine Zv (gW b) (X01 (l:=[vi d.n,.slice Ad md cd,.slice Bd d.ws.length dd,vi d.t,vi d.r]) rfl X2 (f.at 0) rfl) ?_;refine Zv (gW b) (X0 rfl X7 (j.at 0)) ?_;refine Zv (gW b) (X3 rfl) ?_;refine Zk (gW b) (Vc (X75 _ d md m Ad cd (o.bx g).top Bd dd (q.bx g).top u p x a7) X3m) ?_;rintro _ w2 ⟨rfl,k⟩;have g:=btr g k;have e:=btr e k;refine Zv (gW b) (X1o rfl rfl) ?_;refine Ze (Xe rfl b rfl)<|Za rfl ?_;refine Zn fun a i=>?_
  have a6:Below c.heap.size c w2:=e
  exact ⟨i.sub ⟨X1 rfl (by simp [b]),trivial⟩,a6⟩
 rintro a w3 ⟨i,k⟩;have g:=btr g k;refine aC _ _ ?_
 refine Q6 (X6 i (Xu i rfl rfl) ?_)
 exact ⟨rfl,g⟩
theorem Xll(c:World)(d:Dg)(md:Nat)(a7:md=d.ns.length)(Ad:Option Addr)(cd:Nat)(a8:Rd c c.heap.size 81 encNd Ad d.ns)(Bd:Option Addr)(dd:Nat)(aA:Rd c c.heap.size 83 encWr Bd d.ws)(aB:d.ws.length<=dd)(p:Int)(Al:Option Addr)(cl:Nat)(l:List Int)(e:Rd c c.heap.size 3 encI Al l)(hN:md<=1000)(aE:d.ws.length<=1000000000)(aL:l.length<=1000000000) : Ret Tryz.prog 203 [.agg #[vi d.n,.slice Ad md cd,.slice Bd d.ws.length dd,vi d.t,vi d.r],vi p,.slice Al l.length cl] c (fun v w=>v=.bool (!(l.any fun x=>!(spI d.ns x)||tyW d.ws p x != 2))/\Below c.heap.size c w):=by
 refine enter Tryz.func203 rfl 11 rfl rfl ?_;intro a hf
 have b:=bz c
 refine Zs hf fun _ aF=>?_;refine Zf (X0n (zs:=[vi d.n,.slice Ad md cd,.slice Bd d.ws.length dd,vi d.t,vi d.r]) rfl rfl) ?_;rintro _ w1 ⟨b5,rfl,aG,hE,a6⟩;have aJ:=Q0 b.size aG;have b:=btr b hE;refine Zf (X0n (zs:=[vi p]) rfl rfl) ?_;rintro _ w2 ⟨b6,rfl,aC,hE,aH⟩;have aK:=Q0 b.size aC;have aD:=(e.bx b).away aC;have a6:=a6.bw hE;have b:=btr b hE;refine Za rfl<|Zx aF fun a hf _ aI=>?_;refine Zm rfl<|Ze (X3p (vs:=[(pZ9 b5),(pZ9 b6)]) rfl)<|Zf (Vc (Y3y _ Al cl l (e.bx b).top 227 [(pZ9 b5),(pZ9 b6)] Xo6 (fun x=>!(spI d.ns x)||tyW d.ws p x != 2) (fun x w' hE'=>Xxz w' x d md a7 Ad cd (((a8.bx b).top).bw hE').top Bd dd (((aA.bx b).top).bw hE').top aB p _ _ (a6.bw hE') (aH.bw hE') hN aE) (by omega)) Xvz) ?_;rintro _ w3 ⟨rfl,hE⟩;have b:=btr b hE;refine Ze (X0y rfl)<|Za rfl<|Zt aI fun a hf=>?_
 refine Q6 (X6 hf (Xu hf rfl rfl) ?_)
 exact ⟨rfl,b⟩
theorem Xth(q:World)(d:Dg)(md:Nat)(aE:md=d.ns.length)(Ad:Option Addr)(cd:Nat)(aF:Rd q q.heap.size 81 encNd Ad d.ns)(Bd:Option Addr)(dd:Nat)(aG:Rd q q.heap.size 83 encWr Bd d.ws)(f:d.ws.length<=dd)(Al:Option Addr)(cl:Nat)(l:List Int)(h:Rd q q.heap.size 3 encI Al l)(aS:d.ws.length<=1000000000)(b6:l.length<=1000000000)(aT:l.length<=cl) : Ret Tryz.prog 204 [.agg #[vi d.n,.slice Ad md cd,.slice Bd d.ws.length dd,vi d.t,vi d.r],.slice Al l.length cl] q (fun v w=>v=.bool (prD d l)/\Below q.heap.size q w):=by
 refine enter Tryz.func204 rfl 31 rfl rfl ?_;intro a b
 have o:=bz q
 refine Zs b fun _ aU=>?_;refine Zf (X0n (zs:=[vi d.n,.slice Ad md cd,.slice Bd d.ws.length dd,vi d.t,vi d.r]) rfl rfl) ?_;rintro _ w1 ⟨b5,rfl,aV,hE,m⟩;have b2:=Q0 o.size aV;have o:=btr o hE;refine Za rfl<|ZX aU fun a b _ aW=>?_;refine Zs b fun _ aX=>?_;refine Zm rfl<|Ze (X0c rfl Xj)<|Zm rfl<|Zt aX fun a b=>?_;refine Q8<|X04 (σ:=Nat) (fun (k:Nat) (a:Act) (w:World)=>Fr a 31 [(1,.slice Al l.length cl),(2,(pZ9 b5)),(9,.slice Al l.length cl),(10,vi (l.length:Int)),(11,vi (k:Int))]/\(k<=l.length)/\(∀ j:Nat,j<k->prQ d l j=false)/\Blk w b5 39 [vi d.n,.slice Ad md cd,.slice Bd d.ws.length dd,vi d.t,vi d.r]/\d.ws.length<=dd/\Below q.heap.size q w) (fun (k:Nat)=>l.length-k) 0 ?_ ?_
 ·exact ⟨b.sb,(Qf _),(fun j hj=>by omega),m,f,o⟩
 rintro k a w2 ⟨b,hk,A,m,f,o⟩;refine Zs b fun _ aY=>?_;refine Ze (X0q rfl rfl)<|ZX aY fun a b _ aZ=>?_
 refine Xi b rfl (fun c=>?_) (fun c=>?_)
 ·have a6:=c;have c:=Q2 c
  obtain ⟨b7,b3⟩:=X5 (l:=l) (k:=k) (by omega)
  obtain ⟨u9,a7⟩:=X5 (l:=l) (k:=k) (by have:=c;omega)
  have aH:l.getD k 0=u9:=by rw [Qa,a7];rfl
  refine Q7<|aZ _ _<|Q5 fun _ aI=>?_;refine Q8<|Zs b fun _ aJ=>?_;refine Zm rfl<|Zi (k:=k) (u:=u9) (enc:=encI) (l:=l) tv0 rfl rfl Xj X09 X9 (h.bx o) a7 rfl ?_;intro b8 a8;refine Ze (X0 rfl X7 a8)<|Za rfl<|Za rfl<|Zx aJ fun a b _ aK=>?_;refine Zm rfl<|Zm rfl ?_;have g:=((h.bx o).top).takeK X9 k;refine Ze (X3j (l:=l) (k:=k) rfl rfl Xj X09 rfl hk aT)<|Ze (X0c rfl Xj)<|Zm rfl<|Zt aK fun a b=>?_;refine Q8<|X04 (σ:=Nat) (fun (j:Nat) (a:Act) (w:World)=>Fr a 31 [(1,.slice Al l.length cl),(2,(pZ9 b5)),(6,vi u9),(9,.slice Al l.length cl),(10,vi (l.length:Int)),(11,vi (k:Int)),(18,.slice Al (l.take k).length cl),(19,vi ((l.take k).length:Int)),(20,vi (j:Int))]/\(j<=(l.take k).length)/\(((l.take k).take j).any (fun y=>tyW d.ws u9 y==1)=false)/\Blk w b5 39 [vi d.n,.slice Ad md cd,.slice Bd d.ws.length dd,vi d.t,vi d.r]/\Rd w w2.heap.size 3 encI Al (l.take k)/\d.ws.length<=dd/\Below q.heap.size q w) (fun (j:Nat)=>(l.take k).length-j) 0 ?_ ?_
  ·exact ⟨b.sb,(Qf _),rfl,m,g,f,o⟩
  rintro j a w3 ⟨b,hj,B,m,g,f,o⟩;refine Zs b fun _ aL=>?_;refine Ze (X0q rfl rfl)<|ZX aL fun a b _ aM=>?_
  refine Xi b rfl (fun e=>?_) (fun e=>?_)
  ·have aA:=e;have e:=Q2 e
   obtain ⟨b9,b4⟩:=X5 (l:=(l.take k)) (k:=j) (by omega)
   have bA:(l.take k).length<=1000000000:=by rw [Qn];omega
   obtain ⟨v9,aB⟩:=X5 (l:=l.take k) (k:=j) (by have:=e;omega)
   refine Q7<|aM _ _<|Q5 fun _ aN=>?_;refine Q8<|Zs b fun _ aO=>?_;refine Zi (k:=j) (u:=v9) (enc:=encI) (l:=(l.take k)) tv0 rfl rfl Xj X09 X9 g aB rfl ?_;intro bB aC;refine Ze (X0 rfl X7 aC)<|Za rfl<|Zx aO fun a b _ aP=>?_;refine Ze (Vn X2 m)<|Zm rfl<|Zm rfl<|Zf (Vc (X75 _ d md aE Ad cd (aF.bx o).top Bd dd (aG.bx o).top f u9 v9 aS) X3m) ?_;rintro _ w4 ⟨rfl,hE⟩;have m:=m.bw hE;have g:=g.bw hE;have o:=btr o hE;refine Ze (X0m rfl rfl)<|Zt aP fun a b=>?_
   refine Xi b rfl (fun p=>?_) (fun p=>?_)
   ·have aD:=p
    have x:prD d l=true:=Xr1 (k:=k) (by have:=(Qg.1 a7).1;omega) (by unfold prQ;rw [aH];exact Xqq aB (by have h9:=p;simpa using h9))
    refine Zs b fun _ aQ=>?_;refine Za rfl<|Zt aQ fun a b=>?_;refine Q6<|X02<|Xa<|Xa ?_;refine X02<|X02<|Xa<|Xa ?_;refine X02<|Xa<|X6 b (Xu b rfl rfl) ?_;exact ⟨by rw [x],o⟩
   have aD:=p
   have b0:(tyW d.ws u9 v9==1)=false:=by have h9:=p;simpa using h9
   refine Q7<|Xc<|aN _ _<|Zr b ?_;refine Ze (Xm rfl rfl (by omega) (by omega))<|Zm rfl ?_;refine Zn fun a b=>?_;refine Xd ?_;exact ⟨j+1,⟨b.sb,(by omega),(Xu0 B aB b0),m,g,f,o⟩,(by omega)⟩
  have aA:=e;have e:=Q1 e
  have b1:prQ d l k=false:=by unfold prQ;rw [aH];exact Xot B (by have:=e;omega)
  refine Q9<|Xk<|Xk<|X03 ?_;refine Xc<|aI _ _<|Zr b<|Ze (Xm rfl rfl (by omega) (by omega))<|Zm rfl ?_;refine Zn fun a b=>?_;refine Xd ?_;exact ⟨k+1,⟨b.sb,(by omega),(fun i hi=>by by_cases h9:i=k;rw [h9];exact b1;exact A i (by omega)),m,f,o⟩,(by omega)⟩
 have a6:=c;have c:=Q1 c
 have x:prD d l=false:=Xxh fun j hj=>A j (by have:=c;omega)
 refine Q9<|Xk<|Xk<|X03 ?_;refine aW _ _<|Zs b fun _ aR=>?_;refine Za rfl<|Zt aR fun a b=>?_
 refine Q6 (X6 b (Xu b rfl rfl) ?_)
 exact ⟨by rw [x],o⟩
variable {α : Type} {P : Program} {a : Act} {w : World} {n : Nat} {e : Env} {ty : TypeId} {pos : String} {af : Array Edge} {g : Option (Nat × Bool)} {d : Option Tmp}
theorem Own.takeK{B0:Nat}{E:TypeId}{sz:Nat}{enc:α->List Value}{A:Option Addr}{c:Nat}{l:List α}(h:Own w B0 E sz enc A c l)(hsz:∀ x,(enc x).length=sz){k:Nat}(hk:k<=l.length) : Own w B0 E sz enc A c (l.take k):=by
 refine ⟨Xq hsz _,?_⟩
 have hl:(l.take k).length=k:=by rw [Qn];omega
 rcases h.2 with ⟨h1,h2⟩|⟨gg,cap,cur,h1,h2,h3,h4,h5,h6,h7⟩
 ·have:k=0:=by omega
  subst this
  injection h1 with h1 _ h1'
  exact .inl ⟨by rw [h1,h1'];rfl,rfl⟩
 ·injection h1 with h1 _ h1'
  refine .inr ⟨gg,cap,cur,by rw [h1,h1'],h2,h3,by omega,h5,h6,?_⟩
  rw [hl]
  have e:(l.take k).flatMap enc=(l.flatMap enc).take (k*sz):=by
   have h8:l.flatMap enc=(l.take k).flatMap enc++(l.drop k).flatMap enc:=by rw [<- List.flatMap_append,W9]
   have h9:((l.take k).flatMap enc).length=k*sz:=by rw [Xq hsz,hl]
   rw [h8,List.take_append_of_le_length (by rw [h9];exact Qb _)]
   exact (Qi (by rw [h9];exact Qb _)).symm
  rw [e,<- h7,List.take_take]
  congr 1
  have:=Nat.mul_le_mul_right sz hk
  omega
theorem X9y{z:Array Value}{n:Nat}(hz:z.toList.all one=true)(hn:z≠#[]) : (Builtin.zeroCells z n).toList.length=n*z.size/\(Builtin.zeroCells z n).toList.all one=true:=by
 unfold Builtin.zeroCells
 refine ⟨by simp,?_⟩
 rw [W1]
 intro v hv
 simp only [Array.toList_map,W6] at hv
 obtain ⟨i,_,rfl⟩:=hv
 have hs:0<z.size:=Array.size_pos_iff.2 hn
 have hi:i % z.size<z.size:=Nat.mod_lt _ hs
 rw [getElem!_pos z _ hi]
 exact (W1.1 hz) _ (Array.mem_toList_iff.2 (Array.getElem_mem hi))
theorem Xiz{T E:TypeId}{sz B0 k cc L:Nat}{x:Operand}{z:Value}{enc:α->List Value}{A:Option Addr}{c:Nat}{l:List α}(hf:Fr a n e)(hx:ev e x=some (.slice (if c=k then A else A.map (·.add (k*sz))) L cc))(hT:SliceT P T E)(hZ:ZeroT P E z)
  (ho:Own w B0 E sz enc A c l) (hz1:z.cells.toList.all one=true) (hz2:z.cells.size=sz) (hsz:∀ x,(enc x).length=sz) (hp:0<sz) (hk:k<=l.length) (hL:k+L<=c) :
  Ef P ⟨d,.call ⟨.builtin .clear,#[x],#[T]⟩,ty,pos,af,g⟩ a w (fun _ w'=>Own w' B0 E sz enc A c (l.take k)/\w.grownBy w' (Value.slice A l.length c).ownBlock):=by
 by_cases hkl:L=0
 ·subst hkl
  have hrun:(Builtin.clear_ #[T] ty #[.slice (if c=k then A else A.map (·.add (k*sz))) 0 cc]).run P w=.ok (.tuple #[]) w:=by
   cases (if c=k then A else A.map (·.add (k*sz)))<;>simp [Builtin.clear_,X0j hT]
  refine (Ef.of_run (v:=.tuple #[]) (w':=w) ?_).mono fun v w' ⟨_,e2⟩=>?_
  ·simp [execOp,resolve,invoke,builtin,hf.ev hx,hrun]
  ·subst e2
   rcases ho.2 with ⟨h1,h2⟩|⟨gg,cap,cur,h1,h2,h3,h4,h5,h6,h7⟩
   ·exact ⟨ho.takeK hsz hk,World.grownBy.refl _ _⟩
   ·exact ⟨ho.takeK hsz hk,World.grownBy.refl _ _⟩
 ·have hot:=ho.takeK hsz hk
  rcases ho.2 with ⟨h1,h2⟩|⟨gg,cap,cur,h1,h2,h3,h4,h5,h6,h7⟩
  ·injection h1 with _ _ h1'
   omega
  ·injection h1 with h1 _ h1'
   subst h1'
   subst h1
   have hck:¬ c=k:=by omega
   rw [Q3 hck] at hx
   have hcl:cur.toList.length=c*sz:=Array.length_toList.trans h6
   have hb:Blk w gg E cur.toList:=by unfold Blk;rw [h3]
   have hzz:=X9y (z:=z.cells) (n:=L) hz1 (fun h=>by rw [h] at hz2;simp at hz2;omega)
   have hle:k*sz+L*z.cells.size<=cur.toList.length:=by
    rw [hcl,hz2,<- Wb]
    exact Nat.mul_le_mul_right _ hL
   obtain ⟨w',hr,hO,hB⟩:=X3v (P:=P) (b:=gg) (off:=k*sz) (T:=E) (Builtin.zeroCells z.cells L).toList w cur.toList 0 hb (by rw [hzz.1];omega) hzz.2
   have hpos:∃ m,L=m+1:=⟨L-1,by omega⟩
   obtain ⟨m,hm⟩:=hpos
   have hzv:(zeroValue E).run P w=.ok z w:=by
    obtain ⟨i,hi,hi2⟩:=hZ
    simp [zeroValue,typeInfo,hi,hi2]
   have ha:((⟨gg,0,none⟩ : Addr).add (k*sz))=⟨gg,k*sz,none⟩:=by rw [X1f];simp
   have hrun:(Builtin.clear_ #[T] ty #[.slice (some ⟨gg,k*sz,none⟩) (m+1) cc]).run P w=.ok (.tuple #[]) w':=by
    rw [hm] at hr
    simp [Builtin.clear_,X0j hT,hzv,hr]
   refine (Ef.of_run (v:=.tuple #[]) (w':=w') ?_).mono fun v w1 ⟨_,e2⟩=>?_
   ·rw [hm] at hx
    simp only [Option.map_some,ha] at hx
    simp [execOp,resolve,invoke,builtin,hf.ev hx,hrun]
   ·subst e2
    have hlt:(l.take k).length=k:=by rw [Qn];omega
    have hsl:(splice cur.toList (k*sz) (Builtin.zeroCells z.cells L).toList).length=c*sz:=by rw [X3g (by rw [hzz.1];exact hle),hcl]
    refine ⟨⟨Xq hsz _,.inr ⟨gg,c,(splice cur.toList (k*sz) (Builtin.zeroCells z.cells L).toList).toArray,rfl,h2,?_,by omega,h5,?_,?_⟩⟩,?_⟩
    ·unfold Blk at hB
     simpa using hB
    ·rw [List.size_toArray,hsl]
    ·rw [hlt]
     have e7:cur.toList.take (k*sz)=(l.take k).flatMap enc:=by
      rcases hot.2 with ⟨q1,q2⟩|⟨g2,cap2,cur2,q1,q2,q3,q4,q5,q6,q7⟩
      ·simp at q1
      ·injection q1 with q1 _ q1'
       injection q1 with q1
       injection q1 with q1
       subst q1
       rw [h3] at q3
       injection q3 with q3
       injection q3 with q3
       subst q3
       rw [hlt] at q7
       exact q7
     rw [<- e7]
     show ((splice cur.toList (k*sz) _).toArray.toList).take (k*sz)=_
     rw [List.toList_toArray]
     apply List.ext_getElem?
     intro i
     rw [List.getElem?_take,List.getElem?_take]
     split
     ·rename_i hi
      rw [X3a (by rw [hzz.1];exact hle),Q4 (by omega)]
     ·rfl
    ·exact ⟨hO.os,hO.tape,hO.output,by rw [hO.size];exact Qb _,fun q _ hne=>hO.block q fun e=>hne (by rw [e];rfl)⟩
theorem Xeo{T E:TypeId}{sz B0 k cc L:Nat}{x:Operand}{z:Value}{enc:α->List Value}{A:Option Addr}{c:Nat}{l:List α}(hx:ev e x=some (.slice (if c=k then A else A.map (·.add (k*sz))) L cc))(hT:SliceT P T E)(hZ:ZeroT P E z)(ho:Own w B0 E sz enc A c l)(hz1:z.cells.toList.all one=true)(hz2:z.cells.size=sz)(hsz:∀ x,(enc x).length=sz)(hp:0<sz)(hk:k<=l.length)(hL:k+L<=c) : EfW P ⟨d,.call ⟨.builtin .clear,#[x],#[T]⟩,ty,pos,af,g⟩ n e w (fun _ w'=>Own w' B0 E sz enc A c (l.take k)/\w.grownBy w' (Value.slice A l.length c).ownBlock):=fun a hf=>Xiz hf hx hT hZ ho hz1 hz2 hsz hp hk hL
theorem Xia{T E sz q c k m:Nat}{x y z:Operand}{A:Option Addr}{i j:Int}(hf:Fr a n e)(hx:ev e x=some (.slice A q c))(hy:ev e y=some (.int .i64 i))(hz:ev e z=some (.int .i64 j))(hT:SliceT P T E)(hs:SizeT P E sz)(hi:i=(k:Int))(hj:j=(m:Int))(hk:k<=m)(hm:m<=c) :
  Ev P ⟨d,.slice T x (some y) (some z) none,ty,pos,af,g⟩ a w (.slice (if c=k then A else A.map (·.add (k*sz))) (m-k) (c-k)):=fun w' _=>by
 subst hi;subst hj
 simp [execOp,Instr.sliceAt,Instr.slice,Instr.sliceBounds,run_sliceBound,X0j hT,run_sizeOf' hs,hf.ev hx,hf.ev hy,hf.ev hz,hk,hm]
theorem Xra{T E sz q c k m:Nat}{x y z:Operand}{A:Option Addr}{i j:Int}(hx:ev e x=some (.slice A q c))(hy:ev e y=some (.int .i64 i))(hz:ev e z=some (.int .i64 j))(hT:SliceT P T E)(hs:SizeT P E sz)(hi:i=(k:Int))(hj:j=(m:Int))(hk:k<=m)(hm:m<=c) : EvW P ⟨d,.slice T x (some y) (some z) none,ty,pos,af,g⟩ n e w (.slice (if c=k then A else A.map (·.add (k*sz))) (m-k) (c-k)):=fun a hf=>Xia hf hx hy hz hT hs hi hj hk hm
theorem Xi8{T E sz q c k m r:Nat}{x y z u:Operand}{A:Option Addr}{i j s:Int}(hf:Fr a n e)(hx:ev e x=some (.slice A q c))(hy:ev e y=some (.int .i64 i))(hz:ev e z=some (.int .i64 j))(hu:ev e u=some (.int .i64 s))(hT:SliceT P T E)(hs:SizeT P E sz)(hi:i=(k:Int))(hj:j=(m:Int))(hr:s=(r:Int))(hk:k<=m)(hm:m<=r)(hrc:r<=c) :
  Ev P ⟨d,.slice T x (some y) (some z) (some u),ty,pos,af,g⟩ a w (.slice (if r=k then A else A.map (·.add (k*sz))) (m-k) (r-k)):=fun w' _=>by
 subst hi;subst hj;subst hr
 simp [execOp,Instr.sliceAt,Instr.slice,Instr.sliceBounds,run_sliceBound,X0j hT,run_sizeOf' hs,hf.ev hx,hf.ev hy,hf.ev hz,hf.ev hu,hk,hm,hrc]
theorem Xon{T E sz q c k m r:Nat}{x y z u:Operand}{A:Option Addr}{i j s:Int}(hx:ev e x=some (.slice A q c))(hy:ev e y=some (.int .i64 i))(hz:ev e z=some (.int .i64 j))(hu:ev e u=some (.int .i64 s))(hT:SliceT P T E)(hs:SizeT P E sz)(hi:i=(k:Int))(hj:j=(m:Int))(hr:s=(r:Int))(hk:k<=m)(hm:m<=r)(hrc:r<=c) : EvW P ⟨d,.slice T x (some y) (some z) (some u),ty,pos,af,g⟩ n e w (.slice (if r=k then A else A.map (·.add (k*sz))) (m-k) (r-k)):=fun a hf=>Xi8 hf hx hy hz hu hT hs hi hj hr hk hm hrc
theorem Xdb{T E:TypeId}{sz B B0:Nat}{x y:Operand}{enc:α->List Value}{A A2:Option Addr}{c c2:Nat}{l l2:List α}(hf:Fr a n e)(hx:ev e x=some (.slice A l.length c))(hy:ev e y=some (.slice A2 l2.length c2))
  (hT:SliceT P T E) (hs:SizeT P E sz) (hsz:∀ x,(enc x).length=sz) (hone:∀ x,(enc x).all one=true) (ho:Own w B0 E sz enc A c l) (hr:Rd w B E enc A2 l2) (hroom:l.length+l2.length<=c) :
  Ef P ⟨d,.call ⟨.builtin .append,#[x,y],#[T,T]⟩,ty,pos,af,g⟩ a w (fun v w'=>v=.slice A (l++l2).length c/\Own w' B0 E sz enc A c (l++l2)/\w.grownBy w' (Value.slice A l.length c).ownBlock):=by
 obtain ⟨i,hi1,hi2⟩:=hs
 rcases ho.2 with ⟨h1,h2⟩|⟨gg,cap,cur,h1,h2,h3,h4,h5,h6,h7⟩
 ·injection h1 with h1 _ h1'
  subst h1;subst h1'
  have e1:l=[]:=List.eq_nil_of_length_eq_zero h2
  have e2:l2=[]:=List.eq_nil_of_length_eq_zero (by omega)
  subst e1;subst e2
  have hrun:(Builtin.append_ #[T,T] ty #[.slice none 0 0,.slice A2 0 c2]).run P w=.ok (.slice none 0 0) w:=by
   cases A2<;>simp [Builtin.append_,X0j hT,sizeOf,typeInfo,hi1,Builtin.lenOf,Builtin.firstCells,loadCells,loadCellsFrom]
  refine (Ef.of_run (v:=.slice none 0 0) (w':=w) ?_).mono fun v w' ⟨e1,e2⟩=>?_
  ·simp only [List.length_nil] at hx hy
   simp [execOp,resolve,invoke,builtin,hf.ev hx,hf.ev hy,hrun]
  ·subst e1;subst e2
   exact ⟨rfl,ho,World.grownBy.refl w' _⟩
 ·injection h1 with h1 _ h1'
  subst h1;subst h1'
  by_cases hl2:l2=[]
  ·subst hl2
   have hrun:(Builtin.append_ #[T,T] ty #[.slice (some ⟨gg,0,none⟩) l.length c,.slice A2 0 c2]).run P w=.ok (.slice (some ⟨gg,0,none⟩) l.length c) w:=by
    cases A2<;>simp [Builtin.append_,X0j hT,sizeOf,typeInfo,hi1,Builtin.lenOf,Builtin.firstCells,loadCells,loadCellsFrom,h4,storeCells]
   refine (Ef.of_run (v:=.slice (some ⟨gg,0,none⟩) l.length c) (w':=w) ?_).mono fun v w' ⟨e1,e2⟩=>?_
   ·simp only [List.length_nil] at hy
    simp [execOp,resolve,invoke,builtin,hf.ev hx,hf.ev hy,hrun]
   ·subst e1;subst e2
    exact ⟨by simp,by simpa using ho,World.grownBy.refl w' _⟩
  ·obtain ⟨b,off,cs,fz,rfl,g2,g3,g4⟩:=hr hl2;obtain ⟨w',hrun,hown,hg⟩:=run_append_fits (P:=P) (w:=w) B0 T ty E i sz hT hi1 hi2 gg l.length c (l.flatMap enc) ho ⟨b,off,none⟩ l2.length c2 (l2.flatMap enc) (Xq hsz l2)
    (fun j u hu=>by
     have:=g4 j u hu
     rw [X1f]
     simp [World.cell?,g3,this])
    (fun u hu=>by
     obtain ⟨x,_,hx⟩:=List.mem_flatMap.1 hu
     have:=W1.1 (hone x) u hx
     cases u<;>simp_all [Value.oneCell',one]) hroom
   refine (Ef.of_run (v:=.slice (some ⟨gg,0,none⟩) (l.length+l2.length) c) (w':=w') ?_).mono fun v w1 ⟨e1,e2⟩=>?_
   ·simp [execOp,resolve,invoke,builtin,hf.ev hx,hf.ev hy,hrun]
   ·subst e1;subst e2
    refine ⟨by rw [Qh],?_,hg⟩
    unfold Own
    rw [List.flatMap_append,Qh]
    exact hown
theorem Xid{T E:TypeId}{sz B B0:Nat}{x y:Operand}{enc:α->List Value}{A A2:Option Addr}{c c2:Nat}{l l2:List α}(hx:ev e x=some (.slice A l.length c))(hy:ev e y=some (.slice A2 l2.length c2))(hT:SliceT P T E)(hs:SizeT P E sz)(hsz:∀ x,(enc x).length=sz)(hone:∀ x,(enc x).all one=true)(ho:Own w B0 E sz enc A c l)(hr:Rd w B E enc A2 l2)(hroom:l.length+l2.length<=c) : EfW P ⟨d,.call ⟨.builtin .append,#[x,y],#[T,T]⟩,ty,pos,af,g⟩ n e w (fun v w'=>v=.slice A (l++l2).length c/\Own w' B0 E sz enc A c (l++l2)/\w.grownBy w' (Value.slice A l.length c).ownBlock):=fun a hf=>Xdb hf hx hy hT hs hsz hone ho hr hroom
theorem Xcf{α:Type}{l:List α}{q:α->Bool}{j:Nat}{u:α}(hu:l[j]? = some u)(h:q u=true) : (l.take (j+1)).filter (fun x=>!q x)=(l.take j).filter fun x=>!q x:=by
 rw [X3k (q:=fun x=>!q x) hu,Q3 (by rw [h];decide),List.append_nil]
theorem Xjh{α:Type}{l:List α}{q:α->Bool}{j:Nat}{u:α}(hu:l[j]? = some u)(h:q u=false) : (l.take (j+1)).filter (fun x=>!q x)=((l.take j).filter fun x=>!q x)++[u]:=by
 rw [X3k (q:=fun x=>!q x) hu,Q4 (by rw [h];rfl)]
structure Strk {α:Type} (l:List α) (q:α->Bool) (i j:Nat) (m:List α) : Prop where
 len:m.length=l.length
 ie:i=((l.take j).filter fun x=>!q x).length
 lt:i<j
 jl:j<=l.length
 tk:m.take i=(l.take j).filter fun x=>!q x
 dr:∀ t,j<=t->m[t]? = l[t]?
theorem Strk.at{α:Type}{l m:List α}{q:α->Bool}{i j:Nat}(h:Strk l q i j m){u:α}(hu:l[j]? = some u) : m[j]? = some u:=(h.dr j (Qb _)).trans hu
theorem Strk.no{α:Type}{l m:List α}{q:α->Bool}{i j:Nat}(h:Strk l q i j m){u:α}(hu:l[j]? = some u)(hq:q u=true) : Strk l q i (j+1) m:=
 ⟨h.len,by rw [Xcf hu hq];exact h.ie,by have:=h.lt;omega,(Qg.1 hu).1,by rw [Xcf hu hq];exact h.tk,fun t ht=>h.dr t (by omega)⟩
theorem Strk.yes{α:Type}{l m:List α}{q:α->Bool}{i j:Nat}(h:Strk l q i j m){u:α}(hu:l[j]? = some u)(hq:q u=false) : Strk l q (i+1) (j+1) (m.set i u):=by
 have hj:=(Qg.1 hu).1;have hl:=h.lt;have hm:=h.len
 refine ⟨List.length_set.trans h.len,by rw [Xjh hu hq,Qh,<- h.ie];rfl,by omega,hj,?_,fun t ht=>?_⟩
 ·rw [Xjh hu hq,<- h.tk,Qt,List.getElem?_set_self (by omega)]
  rw [List.take_set_of_le (Qb _)]
  rfl
 ·rw [List.getElem?_set_ne (by omega)]
  exact h.dr t (by omega)
theorem Strk.init{α:Type}{l:List α}{q:α->Bool}{k:Nat}{u:α}(ha:((l.take k).all fun x=>!q x)=true)(hu:l[k]? = some u)(hq:q u=true) : Strk l q k (k+1) l:=by
 have hk:=(Qg.1 hu).1
 have e:(l.take k).filter (fun x=>!q x)=l.take k:=List.filter_eq_self.2 fun x hx=>W1.1 ha x hx
 exact ⟨rfl,by rw [Xcf hu hq,e,Qn];omega,by omega,hk,by rw [Xcf hu hq,e],fun _ _=>rfl⟩
theorem Strk.fin{α:Type}{l m:List α}{q:α->Bool}{i j:Nat}(h:Strk l q i j m)(hj:l.length<=j) : m.take i=(l.filter fun x=>!q x)/\(l.take i).length=(l.filter fun x=>!q x).length:=by
 have e:=h.tk
 have e2:=h.ie
 rw [Qi hj] at e e2
 have:=h.lt
 have:=h.jl
 exact ⟨e,by rw [<- e2,Qn];omega⟩
theorem Xfk{α:Type}{l:List α}{q:α->Bool}(h:(idxF l q == -1)=false) : ∃ k u,idxF l q=(k:Nat)/\l[k]? = some u/\q u=true/\((l.take k).all fun x=>!q x)=true:=by
 unfold idxF at h ⊢
 cases hf:l.findIdx? q with
 | none=>rw [hf] at h;simp at h
 | some k=>
  obtain ⟨h1,h2,h3⟩:=List.findIdx?_eq_some_iff_getElem.1 hf
  refine ⟨k,l[k],rfl,Qc h1,h2,?_⟩
  rw [W1]
  intro x hx;obtain ⟨t,ht⟩:=List.mem_iff_getElem?.1 hx
  rw [List.getElem?_take] at ht
  split at ht
  ·rename_i htk
   obtain ⟨h5,h6⟩:=Qg.1 ht
   have:=h3 t htk
   rw [<- h6]
   simpa using this
  ·cases ht
theorem Xat{α:Type}{l:List α}{q:α->Bool}(h:(idxF l q == -1)=true) : (l.filter fun x=>!q x)=l:=by
 rcases X51 l q with ⟨_,h2⟩|⟨k,x,h1,_⟩
 ·exact List.filter_eq_self.2 fun x hx=>by rw [h2 x hx];rfl
 ·rw [h1] at h;simp at h
theorem Xz9(I:World)(A:Option Addr)(c B0:Nat)(l:List Wr)(d:Own I B0 83 3 encWr A c l)(b9:B0<=I.heap.size)(kq:FuncId)(pq:List Value)(Fq:FuncF Tryz.prog kq)(q:Wr->Bool)(hq:∀ x w,I.grownBy w (Value.slice A l.length c).ownBlock->Ret Tryz.prog kq ([wrV x]++pq) w (fun v w'=>v=.bool (q x)/\Below w.heap.size w w'))(aP:l.length<=1000000000) : Ret Tryz.prog 208 [.slice A l.length c,.func (.func kq) #[] pq.toArray] I (fun v w=>v=.slice A (l.filter fun x=>!q x).length c/\Own w B0 83 3 encWr A c (l.filter fun x=>!q x)/\I.grownBy w (Value.slice A l.length c).ownBlock):=by
 have aE:=d.cap;refine enter Tryz.func208 rfl 42 rfl rfl ?_;intro a e
 have o:I.grownBy I (Value.slice A l.length c).ownBlock:=World.grownBy.refl _ _
 refine Zs e fun _ aQ=>?_;refine Za rfl<|Zx aQ fun a e _ aR=>?_;refine Zm rfl<|Zm rfl<|Zf (Vc (Xsd _ A c l d.rd.top kq pq Fq q (fun x w' hE'=>hq x w' (gbel o hE')) aP) Xfq) ?_;rintro _ w1 ⟨rfl,H⟩;have d:=d.bw H;have o:=gbel o H;refine Za rfl<|ZX aR fun a e _ aS=>?_;refine Zs e fun _ aT=>?_;refine Zm rfl<|Ze (X0m rfl rfl)<|Zt aT fun a e=>?_
 refine Xi e rfl (fun C=>?_) (fun C=>?_)
 ·have aF:=C;have D:=Xat C;refine Zs e fun _ aU=>?_;refine Zm rfl<|Za rfl<|Zt aU fun a e=>?_;refine Q6<|Xa<|X6 e (Xu e rfl rfl) ?_;exact ⟨by rw [D],by rw [D];exact d,o⟩
 have aF:=C;obtain ⟨k9,u0,aV,aG,aW,aX⟩:=Xfk C;have bA:=(Qg.1 aG).1;refine Q7<|aS _ _<|Q5 fun _ aY=>?_;refine Zs e fun _ aH=>?_;refine Zm rfl<|Ze (Xm rfl rfl (by omega) (by omega))<|Za rfl<|Zt aH fun a e=>?_;refine Q8 ?_
 rw [aV] at e
 refine X04 (σ:=Nat×Nat×(List Wr)) (fun (s:Nat×Nat×(List Wr)) (a:Act) (w:World)=>match s with|(i,j,m)=>Fr a 42 [(0,.slice A l.length c),(1,.func (.func kq) #[] pq.toArray),(5,vi (i:Int)),(6,vi (j:Int))]/\(Strk l q i j m)/\Own w B0 83 3 encWr A c m/\I.grownBy w (Value.slice A l.length c).ownBlock) (fun (s:Nat×Nat×(List Wr))=>match s with|(i,j,m)=>l.length-j) (k9,(k9+1),l) ?_ ?_
 ·exact ⟨e.sb,(Strk.init aX aG aW),d,o⟩
 rintro ⟨i,j,m⟩ a w2 ⟨e,hs,d,o⟩;refine Q5 fun _ aI=>?_;refine Zs e fun _ aJ=>?_;refine Zm rfl<|Zm rfl<|Ze (X0c rfl Xt)<|Ze (X0q rfl rfl)<|Zt aJ fun a e=>?_
 refine Xi e rfl (fun f=>?_) (fun f=>?_)
 ·have a6:=f;have f:=Q2 f
  obtain ⟨bB,b5⟩:=X5 (l:=l) (k:=j) (by omega)
  obtain ⟨p,a7⟩:=X5 (l:=l) (k:=j) (by have:=f;omega)
  have aZ:=hs.at a7;have b0:=hs.len;have b1:=hs.lt;have b2:=hs.jl;refine Q7<|aI _ _<|Q5 fun _ J=>?_;refine Q8<|Zs e fun _ aK=>?_;refine Zm rfl<|Zm rfl<|Zj (k:=j) (u:=p) (enc:=encWr) (l:=m) tv0 rfl (by omega) rfl Xt X0d Xz d.rd aZ (by omega) ?_;intro bC a8;refine Ze (X01 (l:=[vi p.a,vi p.b,.bool p.h]) rfl X16 a8 rfl)<|Zf (Xo (zs:=[vi 0,vi 0,.bool false]) X2m rfl) ?_;rintro _ w3 ⟨bD,rfl,M,H,g⟩;have aA:=Q0 o.size M;have E:=d.away M;have d:=d.bw H;have o:=gbel o H;refine Zo (Vw [vi p.a,vi p.b,.bool p.h] X0d g) ?_;rintro _ w4 ⟨ho,hb⟩;have b6:=g;have d:=d.onlyA ho E;have o:=gonly o ho aA;have g:=hb;refine Zx aK fun a e _ aL=>?_;refine Zm rfl<|Ze (Vn X16 g)<|Zf (X6n (cs:=pq) (vs:=[.agg #[vi p.a,vi p.b,.bool p.h]]) rfl rfl Fq (hq p _ o)) ?_;rintro _ w5 ⟨rfl,H⟩;have g:=g.bw H;have d:=d.bw H;have o:=gbel o H;refine Ze (X0y rfl)<|Zt aL fun a e=>?_
  refine Xi e rfl (fun t=>?_) (fun t=>?_)
  ·have aB:=t
   have aC:q p=false:=by have h8:=t;simpa using h8
   have aD:=hs.yes a7 aC;refine Zs e fun _ aM=>?_;refine Zm rfl<|Zm rfl<|Ze (Vn X16 g)<|Ze (Xx (k:=i) rfl rfl Xt X0d d (by omega) (by omega) (by omega))<|Zo (X17 (enc:=encWr) (l:=m) (vs:=[vi p.a,vi p.b,.bool p.h]) (x0:=(m.getD i wZ)) (u:=p) (k:=i) (j:=0) (n1:=3) rfl rfl X0d d Xz rfl rfl rfl rfl (by decide) (Xb (by omega)) rfl) ?_;rintro _ w6 ⟨B,hg⟩;have G:=d;have o:=gtr o hg
   clear G hg;clear d;have d:=B;clear B;refine Zt aM fun a e=>?_;refine Zr e<|Zm rfl<|Ze (Xm rfl rfl (by omega) (by omega))<|Za rfl ?_;refine Zn fun a e=>?_;refine Xc<|J _ _<|Zr e<|Zm rfl<|Ze (Xm rfl rfl (by omega) (by omega))<|Za rfl ?_;refine Zn fun a e=>?_;refine Xd ?_;exact ⟨(i+1,j+1,(m.set i p)),⟨e.sb,aD,d,o⟩,(by first|omega|(dsimp only;omega))⟩
  have aB:=t
  have aC:q p=true:=by have h8:=t;simpa using h8
  have aD:=hs.no a7 aC;refine Q7<|Xc<|J _ _<|Zr e ?_;refine Zm rfl<|Ze (Xm rfl rfl (by omega) (by omega))<|Za rfl ?_;refine Zn fun a e=>?_;refine Xd ?_;exact ⟨(i,j+1,m),⟨e.sb,aD,d,o⟩,(by first|omega|(dsimp only;omega))⟩
 have a6:=f;have f:=Q1 f
 obtain ⟨b3,b4⟩:=hs.fin (by have:=f;omega)
 have b0:=hs.len;have b1:=hs.lt;have b2:=hs.jl;refine Q9<|Xk<|Xk<|X03 ?_;refine aY _ _<|Zs e fun _ aN=>?_;refine Zm rfl<|Zm rfl ?_;have b7:=(d.rd.top).dropK Xz (c:=c) d.cap i;refine Ze (X6i (l:=l) (k:=i) rfl rfl Xt X0d (by omega) (by omega))<|Zo (Xeo (enc:=encWr) (l:=m) (k:=i) (L:=(l.drop i).length) rfl Xt X2m d rfl rfl Xz (by decide) (by omega) (by rw [List.length_drop];omega)) ?_;rintro _ w7 ⟨B,hg⟩;have G:=d;have o:=gtr o hg
 clear G hg;clear d;have d:=B;clear B;refine Zx aN fun a e _ aO=>?_;refine Zm rfl<|Zm rfl ?_;have b8:=(d.rd.top).takeK Xz i;refine Ze (X3j (l:=l) (k:=i) rfl rfl Xt X0d (by omega) (by omega) aE)<|Za rfl<|Zt aO fun a e=>?_
 refine Q6 (X6 e (Xu e rfl rfl) ?_)
 exact ⟨by rw [b4],b3▸d,o⟩
theorem Xza(g:World)(Al:Option Addr)(cl:Nat)(l:List Int)(aA:Rd g g.heap.size 3 encI Al l)(kq:FuncId)(pq:List Value)(Fq:FuncF Tryz.prog kq)(q:Int->Bool)(hq:∀ x w,Below g.heap.size g w->Ret Tryz.prog kq ([vi x]++pq) w (fun v w'=>v=.bool (q x)/\Below w.heap.size w w'))(aN:l.length<=1000000000) : Ret Tryz.prog 253 [.slice Al l.length cl,.func (.func kq) #[] pq.toArray] g (fun v w=>v=vi (idxF l q)/\Below g.heap.size g w):=by
 refine enter Tryz.func253 rfl 19 rfl rfl ?_;intro a b
 have i:=bz g
 refine Zs b fun _ aG=>?_;refine Za rfl<|ZX aG fun a b _ aH=>?_;refine Zs b fun _ aI=>?_;refine Zm rfl<|Ze (X0c rfl Xj)<|Zm rfl<|Zt aI fun a b=>?_;refine Q8<|X04 (σ:=Nat) (fun (k:Nat) (a:Act) (w:World)=>Fr a 19 [(0,.slice Al l.length cl),(1,.func (.func kq) #[] pq.toArray),(7,vi (l.length:Int)),(8,vi (k:Int))]/\(k<=l.length)/\(((l.take k).all fun x=>!q x)=true)/\Below g.heap.size g w) (fun (k:Nat)=>l.length-k) 0 ?_ ?_
 ·exact ⟨b.sb,(Qf _),rfl,i⟩
 rintro k a w1 ⟨b,hk,e,i⟩;refine Zs b fun _ aJ=>?_;refine Ze (X0q rfl rfl)<|ZX aJ fun a b _ aK=>?_
 refine Xi b rfl (fun c=>?_) (fun c=>?_)
 ·have aB:=c;have c:=Q2 c
  obtain ⟨u8,aO⟩:=X5 (l:=l) (k:=k) (by omega)
  obtain ⟨u9,a6⟩:=X5 (l:=l) (k:=k) (by have:=c;omega)
  refine Q7<|aK _ _<|Q5 fun _ aL=>?_;refine Q8<|Zs b fun _ aC=>?_;refine Zm rfl<|Za rfl<|Zx aC fun a b _ aD=>?_;refine Zm rfl<|Zm rfl<|Zm rfl<|Zi (k:=k) (u:=u9) (enc:=encI) (l:=l) tv0 rfl rfl Xj X09 X9 (aA.bx i) a6 rfl ?_;intro aP a7;refine Ze (X0 rfl X7 a7)<|Zf (X6n (cs:=pq) (vs:=[vi u9]) rfl rfl Fq (hq u9 _ i)) ?_;rintro _ w2 ⟨rfl,hE⟩;have i:=btr i hE;refine Zt aD fun a b=>?_
  refine Xi b rfl (fun d=>?_) (fun d=>?_)
  ·have a8:=d
   have f:idxF l q=(k:Int):=X95 e a6 d
   refine Zs b fun _ aE=>?_;refine Zm rfl<|Za rfl<|Zt aE fun a b=>?_;refine Q6<|X02<|Xa<|Xa ?_;refine X02<|Xa<|X6 b (Xu b rfl rfl) ?_;exact ⟨by rw [f],i⟩
  have a8:=d;have aM:=X79 e a6 d;refine Q7<|Xc<|aL _ _<|Zr b ?_;refine Ze (Xm rfl rfl (by omega) (by omega))<|Zm rfl ?_;refine Zn fun a b=>?_;refine Xd ?_;exact ⟨k+1,⟨b.sb,(by omega),aM,i⟩,(by omega)⟩
 have aB:=c;have c:=Q1 c
 have f:idxF l q = -1:=X9q e (by have:=c;omega)
 refine Q9<|Xk<|Xk<|X03 ?_;refine aH _ _<|Zs b fun _ aF=>?_;refine Za rfl<|Zt aF fun a b=>?_
 refine Q6 (X6 b (Xu b rfl rfl) ?_)
 exact ⟨by rw [f],i⟩
theorem Xyp(B:World)(A:Option Addr)(c B0:Nat)(l:List Int)(b:Own B B0 3 1 encI A c l)(b7:B0<=B.heap.size)(kq:FuncId)(pq:List Value)(Fq:FuncF Tryz.prog kq)(q:Int->Bool)(hq:∀ x w,B.grownBy w (Value.slice A l.length c).ownBlock->Ret Tryz.prog kq ([vi x]++pq) w (fun v w'=>v=.bool (q x)/\Below w.heap.size w w'))(aO:l.length<=1000000000) : Ret Tryz.prog 228 [.slice A l.length c,.func (.func kq) #[] pq.toArray] B (fun v w=>v=.slice A (l.filter fun x=>!q x).length c/\Own w B0 3 1 encI A c (l.filter fun x=>!q x)/\B.grownBy w (Value.slice A l.length c).ownBlock):=by
 have aD:=b.cap;refine enter Tryz.func228 rfl 42 rfl rfl ?_;intro a d
 have o:B.grownBy B (Value.slice A l.length c).ownBlock:=World.grownBy.refl _ _
 refine Zs d fun _ aP=>?_;refine Za rfl<|Zx aP fun a d _ aQ=>?_;refine Zm rfl<|Zm rfl<|Zf (Vc (Xza _ A c l b.rd.top kq pq Fq q (fun x w' hE'=>hq x w' (gbel o hE')) aO) Xkj) ?_;rintro _ w1 ⟨rfl,hE⟩;have b:=b.bw hE;have o:=gbel o hE;refine Za rfl<|ZX aQ fun a d _ aR=>?_;refine Zs d fun _ aS=>?_;refine Zm rfl<|Ze (X0m rfl rfl)<|Zt aS fun a d=>?_
 refine Xi d rfl (fun p=>?_) (fun p=>?_)
 ·have aE:=p;have t:=Xat p;refine Zs d fun _ aT=>?_;refine Zm rfl<|Za rfl<|Zt aT fun a d=>?_;refine Q6<|Xa<|X6 d (Xu d rfl rfl) ?_;exact ⟨by rw [t],by rw [t];exact b,o⟩
 have aE:=p;obtain ⟨k9,u0,aU,aF,aV,aW⟩:=Xfk p;have b8:=(Qg.1 aF).1;refine Q7<|aR _ _<|Q5 fun _ aX=>?_;refine Zs d fun _ aG=>?_;refine Zm rfl<|Ze (Xm rfl rfl (by omega) (by omega))<|Za rfl<|Zt aG fun a d=>?_;refine Q8 ?_
 rw [aU] at d
 refine X04 (σ:=Nat×Nat×(List Int)) (fun (s:Nat×Nat×(List Int)) (a:Act) (w:World)=>match s with|(i,j,m)=>Fr a 42 [(0,.slice A l.length c),(1,.func (.func kq) #[] pq.toArray),(5,vi (i:Int)),(6,vi (j:Int))]/\(Strk l q i j m)/\Own w B0 3 1 encI A c m/\B.grownBy w (Value.slice A l.length c).ownBlock) (fun (s:Nat×Nat×(List Int))=>match s with|(i,j,m)=>l.length-j) (k9,(k9+1),l) ?_ ?_
 ·exact ⟨d.sb,(Strk.init aW aF aV),b,o⟩
 rintro ⟨i,j,m⟩ a w2 ⟨d,hs,b,o⟩;refine Q5 fun _ aH=>?_;refine Zs d fun _ aI=>?_;refine Zm rfl<|Zm rfl<|Ze (X0c rfl Xj)<|Ze (X0q rfl rfl)<|Zt aI fun a d=>?_
 refine Xi d rfl (fun e=>?_) (fun e=>?_)
 ·have a6:=e;have e:=Q2 e
  obtain ⟨b9,b4⟩:=X5 (l:=l) (k:=j) (by omega)
  obtain ⟨C,a7⟩:=X5 (l:=l) (k:=j) (by have:=e;omega)
  have aY:=hs.at a7;have aZ:=hs.len;have b0:=hs.lt;have b1:=hs.jl;refine Q7<|aH _ _<|Q5 fun _ D=>?_;refine Q8<|Zs d fun _ aJ=>?_;refine Zm rfl<|Zm rfl<|Zj (k:=j) (u:=C) (enc:=encI) (l:=m) tv0 rfl (by omega) rfl Xj X09 X9 b.rd aY (by omega) ?_;intro bA a8;refine Ze (X0 rfl X7 a8)<|Za rfl<|Zx aJ fun a d _ aK=>?_;refine Zm rfl<|Zm rfl<|Zf (X6n (cs:=pq) (vs:=[vi C]) rfl rfl Fq (hq C _ o)) ?_;rintro _ w3 ⟨rfl,hE⟩;have b:=b.bw hE;have o:=gbel o hE;refine Ze (X0y rfl)<|Zt aK fun a d=>?_
  refine Xi d rfl (fun f=>?_) (fun f=>?_)
  ·have aA:=f
   have aB:q C=false:=by have h8:=f;simpa using h8
   have aC:=hs.yes a7 aB;refine Zs d fun _ aL=>?_;refine Zm rfl<|Zm rfl<|Zm rfl<|Ze (Xx (k:=i) rfl rfl Xj X09 b (by omega) (by omega) (by omega))<|Zo (X17 (enc:=encI) (l:=m) (vs:=[vi C]) (x0:=(m.getD i 0)) (u:=C) (k:=i) (j:=0) (n1:=1) rfl rfl X09 b X9 rfl rfl rfl rfl (by decide) (Xb (by omega)) rfl) ?_;rintro _ w4 ⟨g,hg⟩;have h:=b;have o:=gtr o hg
   clear h hg;clear b;have b:=g;clear g;refine Zt aL fun a d=>?_;refine Zr d<|Zm rfl<|Ze (Xm rfl rfl (by omega) (by omega))<|Za rfl ?_;refine Zn fun a d=>?_;refine Xc<|D _ _<|Zr d<|Zm rfl<|Ze (Xm rfl rfl (by omega) (by omega))<|Za rfl ?_;refine Zn fun a d=>?_;refine Xd ?_;exact ⟨(i+1,j+1,(m.set i C)),⟨d.sb,aC,b,o⟩,(by first|omega|(dsimp only;omega))⟩
  have aA:=f
  have aB:q C=true:=by have h8:=f;simpa using h8
  have aC:=hs.no a7 aB;refine Q7<|Xc<|D _ _<|Zr d ?_;refine Zm rfl<|Ze (Xm rfl rfl (by omega) (by omega))<|Za rfl ?_;refine Zn fun a d=>?_;refine Xd ?_;exact ⟨(i,j+1,m),⟨d.sb,aC,b,o⟩,(by first|omega|(dsimp only;omega))⟩
 have a6:=e;have e:=Q1 e
 obtain ⟨b2,b3⟩:=hs.fin (by have:=e;omega)
 have aZ:=hs.len;have b0:=hs.lt;have b1:=hs.jl;refine Q9<|Xk<|Xk<|X03 ?_;refine aX _ _<|Zs d fun _ aM=>?_;refine Zm rfl<|Zm rfl ?_;have b5:=(b.rd.top).dropK X9 (c:=c) b.cap i;refine Ze (X6i (l:=l) (k:=i) rfl rfl Xj X09 (by omega) (by omega))<|Zo (Xeo (enc:=encI) (l:=m) (k:=i) (L:=(l.drop i).length) rfl Xj z_3 b rfl rfl X9 (by decide) (by omega) (by rw [List.length_drop];omega)) ?_;rintro _ w5 ⟨g,hg⟩;have h:=b;have o:=gtr o hg
 clear h hg;clear b;have b:=g;clear g;refine Zx aM fun a d _ aN=>?_;refine Zm rfl<|Zm rfl ?_;have b6:=(b.rd.top).takeK X9 i;refine Ze (X3j (l:=l) (k:=i) rfl rfl Xj X09 (by omega) (by omega) aD)<|Za rfl<|Zt aN fun a d=>?_
 refine Q6 (X6 d (Xu d rfl rfl) ?_)
 exact ⟨by rw [b3],b2▸b,o⟩
theorem Y00(w0:World)(A:Option Addr)(c B0:Nat)(l:List Wr)(d:Own w0 B0 83 3 encWr A c l)(aJ:B0<=w0.heap.size)(p:Int)(hp:0<=p/\p<(l.length:Int))(aK:l.length<=1000000000) : Ret Tryz.prog 185 [.slice A l.length c,vi p,vi (p+1)] w0 (fun v w=>v=.slice A (ctW l p.toNat).length c/\Own w B0 83 3 encWr A c (ctW l p.toNat)/\w0.grownBy w (Value.slice A l.length c).ownBlock):=by
 have o:=d.cap
 have a6:=Xwx (l:=l) (i:=p.toNat) (by omega)
 have aC:l.take p.toNat++l.drop (p.toNat+1)=ctW l p.toNat:=rfl
 have aL:(l.take p.toNat++l.drop (p.toNat+1)).length+1=l.length:=a6
 have aM:=Qn (i:=p.toNat) (l:=l);have aN:=List.length_drop (i:=p.toNat+1) (l:=l);refine enter Tryz.func185 rfl 33 rfl rfl ?_;intro a e
 have hW:w0.grownBy w0 (Value.slice A l.length c).ownBlock:=World.grownBy.refl _ _
 refine Zs e fun _ aD=>?_;refine Za rfl<|Zx aD fun a e _ aE=>?_;refine Zm rfl<|Zm rfl<|Zm rfl<|Zm rfl<|Ze (X0c rfl Xt)<|Ze (Xon (k:=p.toNat) (m:=(p.toNat+1)) (r:=l.length) rfl rfl rfl rfl Xt X0d (by omega) (by omega) rfl (by omega) (by omega) o)<|ZX aE fun a e _ aF=>?_;refine Zs e fun _ aG=>?_;refine Zm rfl<|Zm rfl<|Ze (X0m rfl rfl)<|Zt aG fun a e=>?_
 refine Xi e rfl (fun g=>?_) (fun g=>?_)
 ·have a7:=g;exact absurd (beq_iff_eq.1 g) (by omega)
 have a7:=g;refine Q7<|aF _ _<|Zs e fun _ aH=>?_;refine Zm rfl<|Ze (X0c rfl Xt)<|Za rfl<|ZX aH fun a e _ aI=>?_;refine X00 none (fun j=>[6,6].contains j) mixed ?_;intro w1 hE;have d:=d.bw hE;have hW:=gbel hW hE;refine Yb e<|Yo 0 rfl (fun _=>X3 rfl)<|Yo 1 rfl (fun _=>X3 rfl) ?_
 have q:=d.takeK Xz (k:=p.toNat) (by omega)
 refine Yo 2 rfl (fun _=>X3j (l:=l) (k:=p.toNat) rfl rfl Xt X0d (by omega) (by omega) d.cap)<|Yo 3 rfl (fun _=>X3 rfl)<|Yo 4 rfl (fun _=>X3 rfl) ?_;have a8:=(d.rd.top).dropK Xz (c:=c) d.cap (p.toNat+1);refine Yo 5 rfl (fun _=>X6i (l:=l) (k:=(p.toNat+1)) rfl rfl Xt X0d (by omega) (by omega))<|Y1 6 ?_;refine Yt rfl tv0 rfl (Xid (enc:=encWr) (l:=((l.take p.toNat))) (l2:=((l.drop (p.toNat+1)))) rfl rfl Xt X0d Xz X1r q a8 (by omega)) ?_;rintro _ w2 ⟨rfl,b,hg⟩;have f:=q;have hW:=gtr hW hg;clear f hg;refine Yo 7 rfl (fun _=>Xr rfl) ?_;refine Yd fun a e=>?_;refine aI _ _<|Zs e fun _ aA=>?_;refine Zm rfl<|Zm rfl<|Ze (X0c rfl Xt)<|Zm rfl<|Ze (Xra (k:=(l.take p.toNat++l.drop (p.toNat+1)).length) (m:=l.length) rfl rfl rfl Xt X0d rfl rfl (by omega) o)<|Zo (Xeo (enc:=encWr) (l:=((l.take p.toNat)++(l.drop (p.toNat+1)))) (k:=(l.take p.toNat++l.drop (p.toNat+1)).length) (L:=(l.length-(l.take p.toNat++l.drop (p.toNat+1)).length)) rfl Xt X2m b rfl rfl Xz (by decide) (Qb _) (by omega)) ?_;rintro _ w3 ⟨t,hg⟩;have f:=b;have hW:=gtr hW hg
 clear f hg;clear b;have b:=t;clear t;refine Zx aA fun a e _ aB=>?_;refine Zm rfl<|Za rfl<|Zt aB fun a e=>?_
 refine Q6 (X6 e (Xu e rfl rfl) ?_)
 exact ⟨rfl,by rw [<- aC];exact (List.take_length (l:=l.take p.toNat++l.drop (p.toNat+1)))▸b,hW⟩
end Go.Proofs.YtpifljegadknkaaGreat
namespace Go.Proofs.YtpifljegadknkaaGreat
open Go.RowKit Go.Sort Go.Shelf Go.Lib
def sortWr_ren:Go.Shelf.Ren:=⟨fun|6=>184|15=>222|14=>221|28=>242|29=>243|20=>234|21=>235|22=>236|23=>237|24=>238|25=>239|26=>240|27=>241|46=>254|47=>255|48=>256|49=>257|50=>258|57=>262|n=>n,fun|22=>37|24=>83|25=>141|3=>3|39=>147|0=>0|53=>237|55=>101|4=>4|46=>231|45=>230|50=>76|5=>5|9=>9|66=>244|70=>248|76=>252|77=>253|n=>n,fun|n=>n⟩
theorem Xn2:SlLaysF0.n6 Tryz.prog sortWr_ren:={
 mixed:=by kernel_rfl
 f6:=⟨Tryz.f184.name,by decide,Tryz.func184.trans (congrArg some (by kernel_rfl))⟩
 f14:=⟨Tryz.f221.name,by decide,Tryz.func221.trans (congrArg some (by kernel_rfl))⟩
 f15:=Tryz.func222.trans (congrArg some (by kernel_rfl))
 f20:=⟨Tryz.f234.name,by decide,Tryz.func234.trans (congrArg some (by kernel_rfl))⟩
 f21:=⟨Tryz.f235.name,by decide,Tryz.func235.trans (congrArg some (by kernel_rfl))⟩
 f22:=⟨Tryz.f236.name,by decide,Tryz.func236.trans (congrArg some (by kernel_rfl))⟩
 f23:=⟨Tryz.f237.name,by decide,Tryz.func237.trans (congrArg some (by kernel_rfl))⟩
 f24:=⟨Tryz.f238.name,by decide,Tryz.func238.trans (congrArg some (by kernel_rfl))⟩
 f25:=⟨Tryz.f239.name,by decide,Tryz.func239.trans (congrArg some (by kernel_rfl))⟩
 f26:=⟨Tryz.f240.name,by decide,Tryz.func240.trans (congrArg some (by kernel_rfl))⟩
 f27:=⟨Tryz.f241.name,by decide,Tryz.func241.trans (congrArg some (by kernel_rfl))⟩
 f28:=Tryz.func242.trans (congrArg some (by kernel_rfl))
 f29:=Tryz.func243.trans (congrArg some (by kernel_rfl))
 f46:=⟨Tryz.f254.name,by decide,Tryz.func254.trans (congrArg some (by kernel_rfl))⟩
 f47:=Tryz.func255.trans (congrArg some (by kernel_rfl))
 f48:=Tryz.func256.trans (congrArg some (by kernel_rfl))
 f49:=⟨Tryz.f257.name,by decide,Tryz.func257.trans (congrArg some (by kernel_rfl))⟩
 f50:=⟨Tryz.f258.name,by decide,Tryz.func258.trans (congrArg some (by kernel_rfl))⟩
 f57:=⟨Tryz.f262.name,by decide,Tryz.func262.trans (congrArg some (by kernel_rfl))⟩
 t0:=Tryz.underlying0
 a0:=Tryz.isAgg0
 z0:=Tryz.sizeOf0
 v0:=Tryz.zeroValue0
 t3:=Tryz.underlying3
 a3:=Tryz.isAgg3
 z3:=Tryz.sizeOf3
 v3:=Tryz.zeroValue3
 t4:=Tryz.underlying4
 a4:=Tryz.isAgg4
 z4:=Tryz.sizeOf4
 v4:=Tryz.zeroValue4
 t5:=Tryz.underlying5
 a5:=Tryz.isAgg5
 z5:=Tryz.sizeOf5
 v5:=Tryz.zeroValue5
 t9:=Tryz.underlying9
 a9:=Tryz.isAgg9
 z9:=Tryz.sizeOf9
 v9:=Tryz.zeroValue9
 t22:=Tryz.underlying37
 a22:=Tryz.isAgg37
 z22:=Tryz.sizeOf37
 v22:=Tryz.zeroValue37
 t25:=Tryz.underlying141
 a25:=Tryz.isAgg141
 z25:=Tryz.sizeOf141
 v25:=Tryz.zeroValue141
 t39:=Tryz.underlying147
 a39:=Tryz.isAgg147
 z39:=Tryz.sizeOf147
 v39:=Tryz.zeroValue147
 t45:=Tryz.underlying230
 a45:=Tryz.isAgg230
 z45:=Tryz.sizeOf230
 v45:=Tryz.zeroValue230
 t46:=Tryz.underlying231
 a46:=Tryz.isAgg231
 z46:=Tryz.sizeOf231
 v46:=Tryz.zeroValue231
 t50:=Tryz.underlying76
 a50:=Tryz.isAgg76
 z50:=Tryz.sizeOf76
 v50:=Tryz.zeroValue76
 t53:=Tryz.underlying237
 a53:=Tryz.isAgg237
 z53:=Tryz.sizeOf237
 v53:=Tryz.zeroValue237
 t55:=Tryz.underlying101
 a55:=Tryz.isAgg101
 z55:=Tryz.sizeOf101
 v55:=Tryz.zeroValue101
 t66:=Tryz.underlying244
 a66:=Tryz.isAgg244
 z66:=Tryz.sizeOf244
 v66:=Tryz.zeroValue244
 t70:=Tryz.underlying248
 a70:=Tryz.isAgg248
 z70:=Tryz.sizeOf248
 v70:=Tryz.zeroValue248
 t76:=Tryz.underlying252
 a76:=Tryz.isAgg252
 z76:=Tryz.sizeOf252
 v76:=Tryz.zeroValue252
 t77:=Tryz.underlying253
 a77:=Tryz.isAgg253
 z77:=Tryz.sizeOf253
 v77:=Tryz.zeroValue253 }
section
variable {P : Program} {a : Act} {w : World} {n : Nat} {e : Env} {ty : TypeId} {pos : String} {af : Array Edge} {g : Option (Nat × Bool)} {d : Option Tmp}
theorem Xpx{T:TypeId}{x:Operand}{v:Value}{zs:List Value}(hf:Fr a n e)(hx:ev e x=some v)(hzs:v.cells.toList=zs) : Ef P ⟨d,.box T x,ty,pos,af,g⟩ a w (fun v w'=>∃ b,v=.pointer (some ⟨b,0,none⟩)/\w.heap.size<=b/\Below w.heap.size w w'/\Blk w' b T zs/\w'.drawn=w.drawn):=by
 subst hzs
 have h:(execOp a.eval ⟨d,.box T x,ty,pos,af,g⟩).run P w=.ok (.value (.pointer (some ⟨w.heap.size,0,none⟩))) (w.alloc (.cells v.cells T)):=by
  simp [execOp,Instr.box,X6g,hf.ev hx]
 refine (Ef.of_run h).mono fun v' w' ⟨e1,e2⟩=>?_
 subst e1;subst e2
 have h9:=X4h w T v.cells.toList;exact ⟨_,rfl,Qb _,(Below.refl _ _).alloc (Qb _) _,by simpa using h9,rfl⟩
theorem Xsp{T:TypeId}{x:Operand}{v:Value}{zs:List Value}(hx:ev e x=some v)(hzs:v.cells.toList=zs) : EfW P ⟨d,.box T x,ty,pos,af,g⟩ n e w (fun v w'=>∃ b,v=.pointer (some ⟨b,0,none⟩)/\w.heap.size<=b/\Below w.heap.size w w'/\Blk w' b T zs/\w'.drawn=w.drawn):=fun a hf=>Xpx hf hx hzs
theorem X92{T E sz bytes:Nat}{k:Nat}{parts:List (Nat×Operand)}{vs zs:List Value}(hf:Fr a n e)(hp:evp e parts=some (numb 0 vs))(hT:SliceT P T E)(hi:InfoT P E sz bytes)(hv:(vs.all (fun v=>Nat.beq v.cells.size sz)&&Nat.beq vs.length k&&Nat.ble (k*sz) 1000)=true)(hz:vs.flatMap (fun v=>v.cells.toList)=zs) :
  Ef P ⟨d,.buildSlice T k parts.toArray,ty,pos,af,g⟩ a w (fun v w'=>∃ b,v=.slice (some ⟨b,0,none⟩) k k/\w.heap.size<=b/\Below w.heap.size w w'/\Blk w' b E zs/\w'.drawn=w.drawn):=by
 subst hz
 obtain ⟨i,z,hi1,hi2,hi3,hi4,hi5,hi6⟩:=hi
 simp only [Qd,W1] at hv
 obtain ⟨⟨hv1,hv2⟩,hv3⟩:=hv
 have hk:vs.length=k:=Nat.eq_of_beq_eq_true hv2
 have hk3:k*sz<=1000:=Nat.le_of_ble_eq_true hv3
 have h1:=hf.evp hp
 have hfill:=X7x sz vs 0 ((Array.range (k*sz)).map fun j=>z.cells[j % z.cells.size]!) (fun v hv=>Nat.eq_of_beq_eq_true (hv1 v hv)) (by simp [hk])
 simp only [Nat.zero_mul,List.take_zero,List.nil_append] at hfill
 refine (Ef.of_run (v:=.slice (some ⟨w.heap.size,0,none⟩) k k) (w':=w.alloc (.cells (vs.flatMap fun v=>v.cells.toList).toArray E)) ?_).mono fun v w' ⟨e1,e2⟩=>?_
 ·simp only [execOp,List.map_toArray]
  rw [show (List.map (fun x:Nat×Operand=>match x with|(i,x)=>(i,a.eval x)) parts)=numb 0 vs from h1]
  have h24:¬ (16777216<k*sz):=by omega
  by_cases h0:k*sz=0
  ·have hf0:Instr.fill (fun i=>some (i*sz,sz)) #[] (numb 0 vs)=some (vs.flatMap fun v=>v.cells.toList).toArray:=by
    rw [<- hfill,h0]
    congr 1
    simp [Array.range_zero']
   simp [Instr.buildSlice,X0j hT,sizeOf,typeInfo,hi1,hi3,h0,newRow,newObj,Sem.run,Array.range_zero',hf0]
  ·simp [Instr.buildSlice,X0j hT,sizeOf,typeInfo,hi1,hi3,h24,h0,zeroValue,hi2,newRow,newObj,Sem.run,hfill]
 ·subst e1;subst e2
  exact ⟨_,rfl,Qb _,(Below.refl _ _).alloc (Qb _) _,X4h w E _,rfl⟩
theorem Xbm{T E sz bytes:Nat}{k:Nat}{parts:List (Nat×Operand)}{vs zs:List Value}(hp:evp e parts=some (numb 0 vs))(hT:SliceT P T E)(hi:InfoT P E sz bytes)(hv:(vs.all (fun v=>Nat.beq v.cells.size sz)&&Nat.beq vs.length k&&Nat.ble (k*sz) 1000)=true)(hz:vs.flatMap (fun v=>v.cells.toList)=zs) : EfW P ⟨d,.buildSlice T k parts.toArray,ty,pos,af,g⟩ n e w (fun v w'=>∃ b,v=.slice (some ⟨b,0,none⟩) k k/\w.heap.size<=b/\Below w.heap.size w w'/\Blk w' b E zs/\w'.drawn=w.drawn):=fun a hf=>X92 hf hp hT hi hv hz
theorem Xjf(V:Option Vk)(tl:Nat->Bool){id:Nat}{l:List Oper}{Q':Exit->Act->World->Prop}(hm:P.follows .mixedOrders=true)
  (h:∀ w',Below w.heap.size w w'->w.drawn<=w'.drawn->wpS P l.toArray V tl (Q' .normal) l.length (mask l.toArray []) a w') : (Code.region id l.toArray true).wp P Q' a w:=by
 refine wp_region_any hm ?_
 rw [Xd3]
 exact X36 (fun _ _ h=>h) _ _ _ _ (by simpa using h w.drew (Below.refl _ _).drew (Nat.le_succ _))
end
theorem Xus(w0:World)(x:Wr)(y:Wr) : Ret Tryz.prog 101 [.agg #[vi x.a,vi x.b,.bool x.h],.agg #[vi y.a,vi y.b,.bool y.h]] w0 (fun v w=>v=vi (cmW x y)/\Below w0.heap.size w0 w/\w0.drawn<=w.drawn):=by
 refine enter Tryz.func101 rfl 17 rfl rfl ?_;intro a hf
 have hW:Below w0.heap.size w0 w0:=Below.refl _ _
 have hDr:w0.drawn<=w0.drawn:=Qb _
 refine Zs hf fun _ hK1=>?_;refine Zf (Xsp (zs:=[vi x.a,vi x.b,.bool x.h]) rfl rfl) ?_;rintro _ w1 ⟨b2,rfl,hl2,hE,hB2,hd⟩;replace hDr:=Q0 hDr (Nat.le_of_eq hd.symm);clear hd;have hlo2:=Q0 hW.size hl2;replace hW:=btr hW hE;clear hE;refine Zf (Xsp (zs:=[vi y.a,vi y.b,.bool y.h]) rfl rfl) ?_;rintro _ w2 ⟨b3,rfl,hl3,hE,hB3,hd⟩;replace hDr:=Q0 hDr (Nat.le_of_eq hd.symm);clear hd
 have hne2_3:b2≠b3:=by have:=hB2.lt;omega
 have hlo3:=Q0 hW.size hl3;replace hB2:=hB2.bw hE;replace hW:=btr hW hE;clear hE;refine Za rfl ?_;refine Zt hK1 fun a hf=>?_;refine Q5 fun _ hK4=>?_;refine Xjf none (fun _=>false) mixed ?_;intro w3 hE hd;replace hDr:=Q0 hDr hd;clear hd;replace hB2:=hB2.bw hE;replace hB3:=hB3.bw hE;replace hW:=btr hW hE;clear hE;refine Yb hf ?_;refine Yo 0 rfl (fun _=>Vd rfl X0r 0) ?_;refine Ye 1 rfl (X0 rfl X7 (hB2.at 0)) ?_;refine Yo 2 rfl (fun _=>Vd rfl X0r 0) ?_;refine Ye 3 rfl (X0 rfl X7 (hB3.at 0)) ?_;refine Yo 5 rfl (fun _=>Vd rfl X0s 1) ?_;refine Ye 6 rfl (X0 rfl X7 (hB2.at 1)) ?_;refine Yo 7 rfl (fun _=>Vd rfl X0s 1) ?_;refine Ye 8 rfl (X0 rfl X7 (hB3.at 1)) ?_;refine Y1 4 ?_;refine Yz rfl trivial (Vc (Xg1 _ x.a y.a) X8d) ?_;refine Y1 9 ?_;refine Yz rfl trivial (Vc (Xg1 _ x.b y.b) X8d) ?_;refine Y1 10 ?_;refine Yk rfl trivial (Xbm (k:=2) (vs:=[vi (cmI x.a y.a),vi (cmI x.b y.b)]) (zs:=[vi (cmI x.a y.a),vi (cmI x.b y.b)]) rfl Xj X1h rfl rfl) (fun _ _ ⟨_,_,_,h,_⟩=>h) ?_;rintro _ w4 ⟨b5,rfl,hl5,hE,hB5,hd⟩;replace hDr:=Q0 hDr (Nat.le_of_eq hd.symm);clear hd;have hlo5:=Q0 hW.size hl5;replace hB2:=hB2.bw hE;replace hB3:=hB3.bw hE;replace hW:=btr hW hE;clear hE;refine Y1 11 ?_;refine Yz rfl trivial (Vc (Xsv _ (some ⟨b5,0,none⟩) 2 ([cmI x.a y.a,cmI x.b y.b]) (Rd.of_blk hB5 rfl _ hB5.lt) (by simp)) Xhd) ?_;refine Yo 12 rfl (fun _=>Xr rfl) ?_;refine Yd fun a hf=>?_;refine hK4 _ _ ?_;refine Q6 ?_;refine X6 hf (Xu hf rfl rfl) ?_;exact ⟨by rw [Xtb],hW,hDr⟩
theorem Xey{w w':World}(h:Below w.heap.size w w')(hd:w.drawn<=w'.drawn) : ∃ q os',w'=grow (w.drewN q) os':=by
 refine ⟨w'.drawn-w.drawn,(w'.heap.extract w.heap.size w'.heap.size),?_⟩
 have h1:w.heap++w'.heap.extract w.heap.size w'.heap.size=w'.heap:=by
  apply Array.ext_getElem?
  intro k
  rw [Array.getElem?_append]
  split
  ·rename_i hk
   exact (h.block k hk).symm
  ·rename_i hk
   rw [Array.getElem?_extract]
   have:=h.size
   by_cases h9:k<w'.heap.size
   ·rw [Q4 (by omega)]
    congr 1
    omega
   ·rw [Q3 (by omega),We (by omega)]
 cases w' with
 | mk hp tp dr os out=>
  unfold grow World.drewN
  have e1:=h.os
  have e2:=h.tape
  have e3:=h.output
  dsimp only at e1 e2 e3 h1 hd ⊢
  rw [h1,e1,e2,e3]
  congr 1
  omega
theorem Xv1(x y:Wr)(W:World) : Calls Tryz.prog 101 #[.agg #[.int .i64 x.a,.int .i64 x.b,.bool x.h],.agg #[.int .i64 y.a,.int .i64 y.b,.bool y.h]] W fun e w'=>e=.returned (.int .i64 (cmW x y))/\∃ q os',w'=grow (W.drewN q) os':=
 Calls.mono (Xus W x y) fun e w ⟨v,h1,h2,h3,h4⟩=>⟨by rw [h1,h2],Xey h3 h4⟩
instance:Inhabited Wr:=⟨wZ⟩
theorem Xm3(x y:Wr) : decide (cmW x y<0)=wlt x y:=by
 unfold cmW cmI wlt
 apply Bool.eq_iff_iff.2
 simp only [Qr,Bool.or_eq_true,Qd,beq_iff_eq]
 by_cases h1:x.a<y.a
 ·simp [h1]
 by_cases h2:y.a<x.a
 ·have:¬ x.a=y.a:=by omega
  simp [h1,h2,this]
 have h3:x.a=y.a:=by omega
 by_cases h4:x.b<y.b
 ·simp [h3,h4]
 by_cases h5:y.b<x.b
 ·simp [h3,h4,h5]
 ·simp [h3,h4,h5]
theorem ltW(x y:Wr) : ltOf cmW x y=wlt x y:=by
 unfold ltOf
 exact Xm3 x y
theorem Y35:SWO (ltOf cmW) where
 irrefl x:=by rw [ltW,X5n];omega
 trans x y z h1 h2:=by rw [ltW] at *;exact Xem h1 h2
 ntrans x y z h1 h2:=by rw [ltW,X5n] at *;omega
theorem Xkb(blk off size:Nat)(w:World) : CmpLays Tryz.prog 101 #[] encWr 3 cmW blk off size w:=fun _ _ _ _ x y=>Xv1 x y _
theorem Y29(w0:World)(B0:Nat)(A:Option Addr)(c:Nat)(l:List Wr)(ho:Own w0 B0 83 3 encWr A c l)(hl:l.length<=100000000) :
  Ret Tryz.prog 184 [.slice A l.length c,.func (.func 101) #[] #[]] w0 (fun v w=>v=.tuple #[]/\(∃ l',l'.Perm l/\(l'.Pairwise fun x y=>wlt y x=false)/\Own w B0 83 3 encWr A c l')/\w0.grownBy w (Value.slice A l.length c).ownBlock):=by
 by_cases h0:l=[]
 ·subst h0
  refine Calls.mono (AnyF.slices_SortFunc_none Xn2 A c _ w0) fun e w ⟨e1,e2⟩=>⟨_,e1,?_⟩
  subst e2
  exact ⟨rfl,⟨[],List.Perm.refl _,List.Pairwise.nil,ho⟩,World.grownBy.refl w _⟩
 ·rcases ho.2 with ⟨h1,h2⟩|⟨g,cap,cur,h1,h2,h3,h4,h5,h6,h7⟩
  ·exact absurd (List.eq_nil_of_length_eq_zero h2) h0
  ·injection h1 with h1 _ h1''
   subst h1;subst h1''
   have hfl:(flatK encWr 3 l.toArray).toList=l.flatMap encWr:=X8s Xz l
   have hfs:(flatK encWr 3 l.toArray).size=l.length*3:=by simp
   have hH:HoldsK encWr 3 w0 g 0 l.toArray:=Xvh h3 (by rw [hfs,hfl];exact h7)
   have eg:Enters Tryz.prog 101:=enters_of Tryz.func101 (by kernel_rfl) rfl
   have hcon:=AnyQ.slices_SortFunc Xn2 3 Tryz.isAgg83 Tryz.sizeOf83 encWr Xz (fun x v hv=>by simp [encWr] at hv;rcases hv with rfl|rfl|rfl<;>rfl) cmW Y35 _ #[] g 0 c l.toArray w0 eg (Xkb _ _ _ _) hH (Qp.1 h3).1 (by simp;omega)
   have hcon2:Calls Tryz.prog 184 #[.slice (some ⟨g,0,none⟩) l.length c,.func (.func 101) #[] #[]] w0 fun e w'=>e=.returned (.tuple #[])/\∃ d' n os,PermIn 0 l.toArray.size l.toArray d'/\SortedIn (ltOf cmW) 0 l.toArray.size d'/\w'=sortWorldK encWr 3 w0 g 0 n d' os:=by
    have e:l.toArray.size=l.length:=by simp
    rw [e] at hcon ⊢
    exact hcon
   refine Calls.mono hcon2 fun e w ⟨e1,d',n,os,hp,hs,e2⟩=>⟨_,e1,rfl,?_⟩
   subst e2
   have hd:d'.size=l.length:=by rw [hp.1];simp
   have hpl:d'.toList.Perm l:=by
    have:=hp.2.2
    rw [<- hp.1] at this
    simpa [Qi (show l.length<=d'.size by omega)] using this
   have hfs2:(flatK encWr 3 d').size=l.length*3:=by simp [hd]
   have hfl2:(flatK encWr 3 d').toList=d'.toList.flatMap encWr:=by
    have:=X8s Xz d'.toList
    rw [Array.toArray_toList] at this
    exact this
   have hcur:(flatK encWr 3 d').size<=cur.size:=by
    have:=congrArg List.length h7
    rw [Qn,Xq Xz] at this
    rw [hfs2]
    have h8:cur.toList.length=cur.size:=Array.length_toList
    omega
   have hlen:d'.toList.length=l.length:=by simp [hd]
   refine ⟨⟨d'.toList,hpl,?_,⟨Xq Xz _,.inr ⟨g,c,_,by rw [hlen],h2,Xil _ h3,by rw [hlen];omega,h5,by simp [putCells,h6],?_⟩⟩⟩,?_⟩
   ·rw [W0]
    intro i j hi hj hij
    have hi':i<d'.size:=by simpa using hi
    have hj':j<d'.size:=by simpa using hj
    have h9:=hs i j (Qf _) hij (by rw [<- hp.1];exact hj')
    rw [ltW] at h9
    rw [getElem!_pos d' i hi',getElem!_pos d' j hj'] at h9
    exact h9
   ·have:=Xii cur (flatK encWr 3 d') hcur
    rw [hfs2,hfl2] at this
    rw [hlen];exact this
   ·exact Xej _
end Go.Proofs.YtpifljegadknkaaGreat
