/-
  For all drawn diagrams, the simplified diagram admits no further step, is reached by the log, and has the same meaning. Conditions: none.
-/
import Derived.Test.YtpifljegadknkaaGreatT4
import Derived.Test.YtpifljegadknkaaGreatT3
import Derived.Test.YtpifljegadknkaaGreatT1
import Derived.Test.YtpifljegadknkaaGreatT2
set_option linter.unusedVariables false
set_option linter.unusedSimpArgs false
set_option maxHeartbeats 1000000
set_option maxRecDepth 4000
set_option linter.unusedSectionVars false
namespace Go.Proofs.YtpifljegadknkaaGreat
open Go.RowKit
theorem Y2x(w0:World)(bV:Nat)(f:Bool)(g:Blk w0 bV 91 [.bool f])(d:Dg)(md:Nat)(aS:md=d.ns.length)(Ad:Option Addr)(cd:Nat)(D:Rd w0 w0.heap.size 81 encNd Ad d.ns)(Bd:Option Addr)(dd:Nat)(B:Rd w0 w0.heap.size 83 encWr Bd d.ws)(Q:d.ws.length<=dd)(i:Int)(j:Int)(hG:goodD d=true)(cB:(((spL d.ns).length:Nat) : Int)+2*d.n<=16) : Ret Tryz.prog 109 [(pZ9 bV),.agg #[vi d.n,.slice Ad md cd,.slice Bd d.ws.length dd,vi d.t,vi d.r],vi i,vi j] w0 (fun v w=>v=dV (zcV (smD d (bdB d i j)) (exD d))/\Kept bV w0.heap.size w0 w/\Blk w bV 91 [.bool (f||zcB (smD d (bdB d i j)) (exD d))]):=by
 have eR:=g.lt;have hD:=X0e hG;have eX:=hD.len;have eY:=hD.m;have eZ:=X1b hG;have eE:=Xp9 d.ns
 have f0:=Xx9 cB (by omega)
 have f3:=Xur hG
 have f5:(List.replicate d.ns.length (0:Int)).length=d.ns.length:=List.length_replicate
 refine enter Tryz.func109 rfl 142 rfl rfl ?_;intro a E
 have I:Kept bV w0.heap.size w0 w0:=Kept.refl _ _ _
 refine Zs E fun _ eF=>?_;refine Zf (X0l (zs:=[vi d.n,.slice Ad md cd,.slice Bd d.ws.length dd,vi d.t,vi d.r]) rfl rfl) ?_;rintro _ w1 ⟨b4,rfl,eG,G,H⟩;have eS:=Q0 I.size eG;have g:=g.bw G;have D:=D.bw G;have B:=B.bw G;have I:=ktr I G;refine Zf (Xq (zs:=[vi 0,vi 0,vi 0,vi 0,vi 0]) Xm7 rfl) ?_;rintro _ w2 ⟨b5,rfl,eH,G,o⟩;have aT:=Q0 I.size eH;have g:=g.bw G;have H:=H.bw G;have D:=D.bw G;have B:=B.bw G;have I:=ktr I G;refine Zx eF fun a E _ eI=>?_;refine Ze (Vn X2 H)<|Zf (Vc (Xiv _ d md aS Ad cd D.top Bd dd B.top Q (by omega)) Xan) ?_;rintro _ w3 ⟨A7,c7,rfl,L,G⟩;have L:=L.lower I.size;have g:=g.bw G;have H:=H.bw G;have o:=o.bw G;have D:=D.bw G;have B:=B.bw G;have I:=ktr I G;refine Za rfl<|Zx eI fun a E _ eJ=>?_;refine Ze (Vd rfl Xf 1)<|Ze (X0 rfl Xz (H.at 1))<|Ze (X09 rfl Xm)<|Zf (X8p (m:=md) (enc:=encI) (z0:=0) rfl rfl Xj X1g z_3 rfl Xd (by first|omega|(simp only [maxLen];omega)) (by omega)) ?_;rintro _ w4 ⟨b9,rfl,cC,G,J⟩;have aW:=Q0 I.size cC;have aI:=L.away cC;have g:=g.bw G;have H:=H.bw G;have o:=o.bw G;have D:=D.bw G;have B:=B.bw G;have L:=L.bw G;have I:=ktr I G;refine Za rfl<|ZX eJ fun a E _ cD=>?_;refine Zs E fun _ cE=>?_;refine Ze (Vd rfl Xf 1)<|Ze (X0 rfl Xz (H.at 1))<|Ze (X09 rfl Xm)<|Zm rfl<|Zt cE fun a E=>?_;refine Q8<|X01 (σ:=Nat×(List Int)) (fun (s:Nat×(List Int)) (a:Act) (w:World)=>match s with|(k,m)=>Fr a 142 [(0,(pZ9 bV)),(2,vi i),(3,vi j),(5,(pZ9 b4)),(8,(pZ9 b5)),(9,.slice A7 (spL d.ns).length c7),(10,.slice (some ⟨b9,0,none⟩) md md),(29,.slice Ad md cd),(30,vi (md:Int)),(31,vi (k:Int))]/\(k<=d.ns.length)/\(m=bsO (cutB (bdB d i j) k) d.ns.length)/\Blk w bV 91 [.bool f]/\Blk w b4 39 [vi d.n,.slice Ad md cd,.slice Bd d.ws.length dd,vi d.t,vi d.r]/\Blk w b5 96 [vi 0,vi 0,vi 0,vi 0,vi 0]/\Blk w b9 3 (m.flatMap encI)/\Rd w w0.heap.size 81 encNd Ad d.ns/\Rd w w0.heap.size 83 encWr Bd d.ws/\Own w w0.heap.size 3 1 encI A7 c7 (spL d.ns)/\d.ws.length<=dd/\Kept bV w0.heap.size w0 w) (fun (s:Nat×(List Int))=>match s with|(k,m)=>d.ns.length-k) (0,List.replicate md 0) ?_ ?_
 ·exact ⟨E.sb,(Qf _),(by rw [aS];exact (Y0n _ _).symm),g,H,o,J,D,B,L,Q,I⟩
 rintro ⟨k,m⟩ a w5 ⟨E,hk,hm,g,H,o,J,D,B,L,Q,I⟩;refine Zs E fun _ cF=>?_;refine Ze (X0n rfl rfl)<|ZX cF fun a E _ cG=>?_
 refine Xi E rfl (fun W=>?_) (fun W=>?_)
 ·have aN:=W;have W:=Q2 W
  obtain ⟨u9,aV⟩:=X4 (l:=d.ns) (k:=k) (by have:=W;omega)
  refine Q7<|cG _ _<|Q5 fun _ aX=>?_;refine Q8<|Zs E fun _ cH=>?_;refine Zm rfl<|Zj (k:=k) (u:=u9) (enc:=encNd) (l:=d.ns) tv0 rfl aS rfl Xm X06 Xv D aV (by omega) ?_;intro f7 bK;refine Ze (X03 (l:=[vi u9.k,vi u9.p]) rfl X22 bK rfl)<|Zf (Xq (zs:=[vi 0,vi 0]) X6g rfl) ?_;rintro _ w6 ⟨f8,rfl,bE,G,aF⟩;have aY:=Q0 I.size bE;have cI:=D.away bE;have g:=g.bw G;have H:=H.bw G;have o:=o.bw G;have J:=J.bw G;have D:=D.bw G;have B:=B.bw G;have L:=L.bw G;have I:=ktr I G;refine Za rfl<|Zo (Vw [vi u9.k,vi u9.p] X06 aF) ?_;rintro _ w7 ⟨M,hb⟩;have A:=aF;have g:=g.oz M A rfl;have H:=H.oz M A rfl;have o:=o.oz M A rfl;have J:=J.oz M A rfl;have D:=D.oy M aY;have B:=B.oT M A rfl;have L:=L.oT M A rfl;have I:=Kept.oy I M aY;have aF:=hb;refine Zx cH fun a E _ cJ=>?_;refine Ze (Vd rfl X12 0)<|Ze (X0 rfl X9 (aF.at 0))<|Zt cJ fun a E=>?_;refine Q8<|Zs E fun _ cK=>?_;refine Ze (X0k rfl rfl)<|Za rfl<|Zt cK fun a E=>?_
  refine Xi E rfl (fun aG=>?_) (fun aG=>?_)
  ·have bL:=aG;have bM:=Y5f (i:=i) (j:=j) aV aG
   have eK:=Y2q hG aV (.inl (by simpa using aG))
   have U:bsO (cutB (bdB d i j) (k+1)) d.ns.length=m.set k (bitF d.n j u9.p):=by rw [bM,hm];exact (Xfy _ _ _).symm
   refine Zr E<|Zm rfl<|Zm rfl<|Ze (Vd rfl X16 0)<|Ze (X0 rfl X9 (H.at 0))<|Zm rfl<|Ze (Vd rfl X07 1)<|Ze (X0 rfl X9 (aF.at 1))<|Zf (Vc (Y3o _ d.n j u9.p (by omega) (by omega) (by omega)) Xkj) ?_;rintro _ _ ⟨rfl,rfl⟩;refine Ze (Xbm (k:=k) (off:=k*1) rfl rfl Xj X0b rfl (by first|(rw [hm,X4t];omega)|omega) rfl)<|Zo (Xbv (enc:=encI) (l:=m) (u:=bitF d.n j u9.p) (k:=k) rfl rfl X0b J Xd X1z rfl (by first|(rw [hm,X4t];omega)|omega)) ?_;rintro _ w8 ⟨M,hb⟩;have A:=J;have g:=g.oz M A rfl;have H:=H.oz M A rfl;have o:=o.oz M A rfl;have D:=D.oT M A rfl;have B:=B.oT M A rfl;have L:=L.onlyA M aI;have I:=Kept.oy I M aW;have J:=hb;refine Zn fun a E=>?_;refine Xa<|Xa<|aX _ _<|Zr E ?_;refine Ze (Xs rfl rfl (by omega) (by omega))<|Zm rfl ?_;refine Zn fun a E=>?_;refine Xc ?_;exact ⟨(k+1,(m.set k (bitF d.n j u9.p))),⟨E.sb,(by omega),U.symm,g,H,o,J,D,B,L,Q,I⟩,(by first|omega|(dsimp only;omega))⟩
  have bL:=aG;have cL:=aG;refine Zs E fun _ cM=>?_;refine Ze (X0k rfl rfl)<|Za rfl<|Zt cM fun a E=>?_
  refine Xi E rfl (fun aH=>?_) (fun aH=>?_)
  ·have bN:=aH;have bM:=Y4z (i:=i) (j:=j) aV cL aH
   have eK:=Y2q hG aV (.inr (by simpa using aH))
   have U:bsO (cutB (bdB d i j) (k+1)) d.ns.length=m.set k (bitF d.n i u9.p):=by rw [bM,hm];exact (Xfy _ _ _).symm
   refine Zr E<|Zm rfl<|Zm rfl<|Ze (Vd rfl X16 0)<|Ze (X0 rfl X9 (H.at 0))<|Zm rfl<|Ze (Vd rfl X07 1)<|Ze (X0 rfl X9 (aF.at 1))<|Zf (Vc (Y3o _ d.n i u9.p (by omega) (by omega) (by omega)) Xkj) ?_;rintro _ _ ⟨rfl,rfl⟩;refine Ze (Xbm (k:=k) (off:=k*1) rfl rfl Xj X0b rfl (by first|(rw [hm,X4t];omega)|omega) rfl)<|Zo (Xbv (enc:=encI) (l:=m) (u:=bitF d.n i u9.p) (k:=k) rfl rfl X0b J Xd X1z rfl (by first|(rw [hm,X4t];omega)|omega)) ?_;rintro _ w9 ⟨M,hb⟩;have A:=J;have g:=g.oz M A rfl;have H:=H.oz M A rfl;have o:=o.oz M A rfl;have D:=D.oT M A rfl;have B:=B.oT M A rfl;have L:=L.onlyA M aI;have I:=Kept.oy I M aW;have J:=hb;refine Zn fun a E=>?_;refine Xa<|Xa<|aX _ _<|Zr E ?_;refine Ze (Xs rfl rfl (by omega) (by omega))<|Zm rfl ?_;refine Zn fun a E=>?_;refine Xc ?_;exact ⟨(k+1,(m.set k (bitF d.n i u9.p))),⟨E.sb,(by omega),U.symm,g,H,o,J,D,B,L,Q,I⟩,(by first|omega|(dsimp only;omega))⟩
  have bN:=aH;have eL:=Y4d (i:=i) (j:=j) aV cL aH
  have U:bsO (cutB (bdB d i j) (k+1)) d.ns.length=m:=by rw [hm,Xk7 eL]
  refine Q7<|Xa<|Xa<|aX _ _ ?_;refine Zr E<|Ze (Xs rfl rfl (by omega) (by omega))<|Zm rfl ?_;refine Zn fun a E=>?_;refine Xc ?_;exact ⟨(k+1,m),⟨E.sb,(by omega),U.symm,g,H,o,J,D,B,L,Q,I⟩,(by first|omega|(dsimp only;omega))⟩
 have aN:=W;have W:=Q1 W
 have eM:m=bsO (bdB d i j) d.ns.length:=by rw [hm];exact Xod (by have:=W;omega)
 refine Q9<|Xk<|Xk<|X02 ?_;refine cD _ _<|Zs E fun _ cN=>?_;refine Ze (X0s (ps:=[]) (cs:=[vi 0,vi 0,vi 0,vi 0]) rfl (fun _=>by first|rfl|kernel_rfl))<|Zf (Xq (zs:=[vi 0,vi 0,vi 0,vi 0]) Xae rfl) ?_;rintro _ f9 ⟨aJ,rfl,cO,G,C⟩;have aO:=Q0 I.size cO;have g:=g.bw G;have H:=H.bw G;have o:=o.bw G;have J:=J.bw G;have D:=D.bw G;have B:=B.bw G;have L:=L.bw G;have I:=ktr I G;refine Zo (Vw [vi 0,vi 0,vi 0,vi 0] X43 C) ?_;rintro _ fA ⟨M,hb⟩;have A:=C;have g:=g.oz M A rfl;have H:=H.oz M A rfl;have o:=o.oz M A rfl;have J:=J.oz M A rfl;have D:=D.oT M A rfl;have B:=B.oT M A rfl;have L:=L.oT M A rfl;have I:=Kept.oy I M aO;have C:=hb;refine ZX cN fun a E _ cP=>?_;refine Zs E fun _ cQ=>?_;refine Za rfl<|Zt cQ fun a E=>?_;refine Q8<|X01 (σ:=Nat×Rg×(Nat->Bool)×(List Int)) (fun (s:Nat×Rg×(Nat->Bool)×(List Int)) (a:Act) (w:World)=>match s with|(n,z,be,r)=>Fr a 142 [(0,(pZ9 bV)),(5,(pZ9 b4)),(8,(pZ9 b5)),(9,.slice A7 (spL d.ns).length c7),(10,.slice (some ⟨b9,0,none⟩) md md),(13,(pZ9 aJ)),(14,vi (n:Int))]/\(n<=2^(spL d.ns).length)/\(z=smK d i j n)/\(r=bsO be d.ns.length)/\(∀ x,x ∉ spS d.ns->be x=(bdB d i j) x)/\Blk w bV 91 [.bool f]/\Blk w b4 39 [vi d.n,.slice Ad md cd,.slice Bd d.ws.length dd,vi d.t,vi d.r]/\Blk w b5 96 [vi 0,vi 0,vi 0,vi 0,vi 0]/\Blk w b9 3 (r.flatMap encI)/\Blk w aJ 94 [vi z.a,vi z.b,vi z.c,vi z.d]/\Rd w w0.heap.size 81 encNd Ad d.ns/\Rd w w0.heap.size 83 encWr Bd d.ws/\Own w w0.heap.size 3 1 encI A7 c7 (spL d.ns)/\d.ws.length<=dd/\Kept bV w0.heap.size w0 w) (fun (s:Nat×Rg×(Nat->Bool)×(List Int))=>match s with|(n,z,be,r)=>2^(spL d.ns).length-n) (0,rZ,(bdB d i j),m) ?_ ?_
 ·exact ⟨E.sb,(Qf _),rfl,eM,(fun _ _=>rfl),g,H,o,J,C,D,B,L,Q,I⟩
 rintro ⟨n,z,be,r⟩ a fB ⟨E,hn,hz,hr,bO,g,H,o,J,C,D,B,L,Q,I⟩;refine Q5 fun _ cR=>?_;refine Zs E fun _ cS=>?_;refine Zm rfl<|Zm rfl<|Ze (X09 rfl Xj)<|Ze (Xka (m:=(spL d.ns).length) Tryz.underlying3 Tryz.underlying147 rfl rfl (by omega))<|Ze (Vx (Xyb (m:=(spL d.ns).length) rfl rfl rfl (by omega)) (Xk0 (by omega)))<|Ze (X0n rfl rfl)<|Zt cS fun a E=>?_
 refine Xi E rfl (fun a6=>?_) (fun a6=>?_)
 ·have aP:=a6;have a6:=Q2 a6
  have fC:n<2^(spL d.ns).length:=by have:=a6;omega
  refine Q7<|cR _ _<|Q5 fun _ bF=>?_;refine Q8<|Q5 fun _ cT=>?_;refine Zs E fun _ cU=>?_;refine Zm rfl<|Ze (X09 rfl Xj)<|Zm rfl<|Zt cU fun a E=>?_;refine Q8<|X01 (σ:=Nat×(List Int)) (fun (s:Nat×(List Int)) (a:Act) (w:World)=>match s with|(q,r2)=>Fr a 142 [(0,(pZ9 bV)),(5,(pZ9 b4)),(8,(pZ9 b5)),(9,.slice A7 (spL d.ns).length c7),(10,.slice (some ⟨b9,0,none⟩) md md),(13,(pZ9 aJ)),(14,vi (n:Int)),(70,.slice A7 (spL d.ns).length c7),(71,vi ((spL d.ns).length:Int)),(72,vi (q:Int))]/\(q<=(spL d.ns).length)/\(r2=bsO (asK ((spS d.ns).take q) n be) d.ns.length)/\Blk w bV 91 [.bool f]/\Blk w b4 39 [vi d.n,.slice Ad md cd,.slice Bd d.ws.length dd,vi d.t,vi d.r]/\Blk w b5 96 [vi 0,vi 0,vi 0,vi 0,vi 0]/\Blk w b9 3 (r2.flatMap encI)/\Blk w aJ 94 [vi z.a,vi z.b,vi z.c,vi z.d]/\Rd w w0.heap.size 81 encNd Ad d.ns/\Rd w w0.heap.size 83 encWr Bd d.ws/\Own w w0.heap.size 3 1 encI A7 c7 (spL d.ns)/\d.ws.length<=dd/\Kept bV w0.heap.size w0 w) (fun (s:Nat×(List Int))=>match s with|(q,r2)=>(spL d.ns).length-q) (0,r) ?_ ?_
  ·exact ⟨E.sb,(Qf _),hr,g,H,o,J,C,D,B,L,Q,I⟩
  rintro ⟨q,r2⟩ a fE ⟨E,hq,b6,g,H,o,J,C,D,B,L,Q,I⟩;refine Zs E fun _ cV=>?_;refine Ze (X0n rfl rfl)<|ZX cV fun a E _ cW=>?_
  refine Xi E rfl (fun a7=>?_) (fun a7=>?_)
  ·have bP:=a7;have a7:=Q2 a7
   obtain ⟨fF,eT⟩:=X4 (l:=(spL d.ns)) (k:=q) (by omega)
   obtain ⟨x8,cX⟩:=X4 (l:=spS d.ns) (k:=q) (by have:=a7;omega)
   have cY:=Xug cX;have eU:=cY.2;have U:=Xoy (β:=be) (N:=d.ns.length) (m:=n) cX
   rw [<- b6] at U
   refine Q7<|cW _ _<|Q5 fun _ cZ=>?_;refine Q8<|Zs E fun _ d5=>?_;refine Zm rfl<|Zi (k:=q) (u:=((x8:Nat) : Int)) (enc:=encI) (l:=(spL d.ns)) tv0 rfl rfl Xj X0b Xd L.rd cY.1 rfl ?_;intro fG bQ;refine Ze (X0 rfl X9 bQ)<|Za rfl<|Za rfl<|Zt d5 fun a E=>?_;refine Zr E<|Zm rfl<|Zm rfl<|Zm rfl<|Zm rfl<|Ze (Xka (m:=q) Tryz.underlying3 Tryz.underlying147 rfl rfl (by omega))<|Ze (Y0u (m:=q) rfl rfl rfl (by omega))<|Ze (Vx (Xyy rfl rfl) (Xl7 (by omega)))<|Ze (Xbm (k:=x8) (off:=x8*1) rfl rfl Xj X0b rfl (by first|(rw [b6,X4t];omega)|omega) rfl)<|Zo (Xbv (enc:=encI) (l:=r2) (u:=(b1 (n.testBit q))) (k:=x8) rfl rfl X0b J Xd X1z rfl (by first|(rw [b6,X4t];omega)|omega)) ?_;rintro _ fH ⟨M,hb⟩;have A:=J;have g:=g.oz M A rfl;have H:=H.oz M A rfl;have o:=o.oz M A rfl;have C:=C.oz M A rfl;have D:=D.oT M A rfl;have B:=B.oT M A rfl;have L:=L.onlyA M aI;have I:=Kept.oy I M aW;have J:=hb;refine Zn fun a E=>?_;refine Xa<|cZ _ _<|Zr E<|Ze (Xs rfl rfl (by omega) (by omega))<|Zm rfl ?_;refine Zn fun a E=>?_;refine Xc ?_;exact ⟨(q+1,(r2.set x8 (b1 (n.testBit q)))),⟨E.sb,(by omega),U,g,H,o,J,C,D,B,L,Q,I⟩,(by first|omega|(dsimp only;omega))⟩
  have bP:=a7;have a7:=Q1 a7
  have b7:r2=bsO (asK (spS d.ns) n be) d.ns.length:=by rw [b6,Qi (by have:=a7;omega)]
  have d6:r2=bsO (asK (spS d.ns) n (bdB d i j)) d.ns.length:=by rw [b7,Xhc _ _ bO]
  have aZ:=d6.symm;refine Q9<|Xk<|Xk<|X02 ?_;refine cT _ _<|Zs E fun _ d7=>?_;refine Ze (Vn X2 H)<|Zm rfl<|Zf (Vc (Y02 _ d md aS Ad cd D.top Bd dd B.top Q (some ⟨b9,0,none⟩) md r2 md (Rd.of_blk J rfl _ J.lt) (by rw [b7,X4t];omega) hG (asK (spS d.ns) n (bdB d i j)) d6) Xpt) ?_;rintro _ fI ⟨rfl,G⟩;have g:=g.bw G;have H:=H.bw G;have o:=o.bw G;have J:=J.bw G;have C:=C.bw G;have D:=D.bw G;have B:=B.bw G;have L:=L.bw G;have I:=ktr I G;refine Za rfl<|Zx d7 fun a E _ d8=>?_;refine Zm rfl<|Ze (X5h rfl rfl)<|Zt d8 fun a E=>?_
  refine Xi E rfl (fun a8=>?_) (fun a8=>?_)
  ·have bR:=a8;have a8:=Q2 a8
   have U:=Xzs (i:=i) (j:=j) (n:=n) hG (by omega) (by rw [aZ];have h8:=a8;omega)
   rw [aZ,<- hz] at U
   refine X04 none (fun j=>[5].contains j) mixed ?_;intro fJ G;have g:=g.bw G;have H:=H.bw G;have o:=o.bw G;have J:=J.bw G;have C:=C.bw G;have D:=D.bw G;have B:=B.bw G;have L:=L.bw G;have I:=ktr I G;refine Yb E<|Ye 0 rfl (Vn X2e C)<|Yo 1 rfl (fun _=>X0s (ps:=[(0,vi 1)]) (cs:=[vi 1,vi 0,vi 0,vi 0]) rfl (fun _=>by first|rfl|kernel_rfl))<|Yo 2 rfl (fun _=>X3 rfl)<|Y1 3 ?_;refine Yk rfl tv0 (Vc (Y4h _ (⟨1,0,0,0⟩ : Rg) (tmL d r2)) Xub) (fun _ _ ⟨_,G⟩=>G) ?_;rintro _ fK ⟨rfl,G⟩;have g:=g.bw G;have H:=H.bw G;have o:=o.bw G;have J:=J.bw G;have C:=C.bw G;have D:=D.bw G;have B:=B.bw G;have L:=L.bw G;have I:=ktr I G;refine Y1 4<|Yk rfl tv0 (Vc (Y54 _ z (rTurn (⟨1,0,0,0⟩ : Rg) (tmL d r2))) Xuw) (fun _ _ ⟨_,G⟩=>G) ?_;rintro _ fL ⟨rfl,G⟩;have g:=g.bw G;have H:=H.bw G;have o:=o.bw G;have J:=J.bw G;have C:=C.bw G;have D:=D.bw G;have B:=B.bw G;have L:=L.bw G;have I:=ktr I G;refine Y1 5<|Yh rfl tv0 rfl (Vw [vi ((rAdd z (rTurn (⟨1,0,0,0⟩ : Rg) (tmL d r2))).a),vi ((rAdd z (rTurn (⟨1,0,0,0⟩ : Rg) (tmL d r2))).b),vi ((rAdd z (rTurn (⟨1,0,0,0⟩ : Rg) (tmL d r2))).c),vi ((rAdd z (rTurn (⟨1,0,0,0⟩ : Rg) (tmL d r2))).d)] X43 C) ?_;rintro _ fM ⟨M,hb⟩;have A:=C;have g:=g.oz M A rfl;have H:=H.oz M A rfl;have o:=o.oz M A rfl;have J:=J.oz M A rfl;have D:=D.oT M A rfl;have B:=B.oT M A rfl;have L:=L.oT M A rfl
   have I:=Kept.oy I M aO;have C:=hb;refine Yd fun a E=>?_;refine Xa<|bF _ _<|Zr E<|Zm rfl<|Ze (Xs rfl rfl (by omega) (by omega))<|Za rfl ?_;refine Zn fun a E=>?_;refine Xc ?_;exact ⟨(n+1,(rAdd z (rTurn (⟨1,0,0,0⟩ : Rg) (tmL d r2))),(asK (spS d.ns) n be),r2),⟨E.sb,(by omega),U,b7,(fun x hx=>by rw [Xeo _ _ _ hx];exact bO x hx),g,H,o,J,C,D,B,L,Q,I⟩,(by first|omega|(dsimp only;omega))⟩
  have bR:=a8;have a8:=Q1 a8
  have U:=Y2o (i:=i) (j:=j) (n:=n) hG (by rw [aZ];have h8:=a8;omega)
  rw [<- hz] at U
  refine Q7<|Xa<|bF _ _<|Zr E ?_;refine Zm rfl<|Ze (Xs rfl rfl (by omega) (by omega))<|Za rfl ?_;refine Zn fun a E=>?_;refine Xc ?_;exact ⟨(n+1,z,(asK (spS d.ns) n be),r2),⟨E.sb,(by omega),U,b7,(fun x hx=>by rw [Xeo _ _ _ hx];exact bO x hx),g,H,o,J,C,D,B,L,Q,I⟩,(by first|omega|(dsimp only;omega))⟩
 have aP:=a6;have a6:=Q1 a6
 have eO:n=2^(spS d.ns).length:=by have:=a6;rw [eE];omega
 have b0:z=(smD d (bdB d i j)):=by rw [hz,eO];exact Xl5 _ _ _
 have eP:rOk z=true:=by rw [b0];exact Xfm hG cB _
 refine Q9<|Xk<|Xk<|X02 ?_;refine cP _ _<|Zs E fun _ d9=>?_;refine Ze (Vd rfl X00 4)<|Ze (X0 rfl X9 (H.at 4))<|Ze (Vx (Xv5 rfl) (X1q (by omega) (by omega)))<|Za rfl<|ZX d9 fun a E _ dA=>?_;refine Zs E fun _ dB=>?_;refine Ze (Vd rfl Xl 2)<|Ze (X0 rfl X0d (H.at 2))<|Ze (X09 rfl Xr)<|Zm rfl<|Zt dB fun a E=>?_;refine Q8<|X01 (σ:=Nat×Int) (fun (s:Nat×Int) (a:Act) (w:World)=>match s with|(k2,e)=>Fr a 142 [(0,(pZ9 bV)),(8,(pZ9 b5)),(13,(pZ9 aJ)),(18,vi e),(100,.slice Bd d.ws.length dd),(101,vi (d.ws.length:Int)),(102,vi (k2:Int))]/\(k2<=d.ws.length)/\(e=hdN (d.ws.take k2)-d.r)/\(-60<=e/\e<=60+k2)/\Blk w bV 91 [.bool f]/\Blk w b5 96 [vi 0,vi 0,vi 0,vi 0,vi 0]/\Blk w aJ 94 [vi z.a,vi z.b,vi z.c,vi z.d]/\Rd w w0.heap.size 83 encWr Bd d.ws/\d.ws.length<=dd/\Kept bV w0.heap.size w0 w) (fun (s:Nat×Int)=>match s with|(k2,e)=>d.ws.length-k2) (0,(-d.r)) ?_ ?_
 ·exact ⟨E.sb,(Qf _),(by show -d.r=0-d.r;omega),(by omega),g,o,C,B,Q,I⟩
 rintro ⟨k2,e⟩ a fN ⟨E,fO,he,fP,g,o,C,B,Q,I⟩;refine Zs E fun _ dC=>?_;refine Ze (X0n rfl rfl)<|ZX dC fun a E _ dD=>?_
 refine Xi E rfl (fun aA=>?_) (fun aA=>?_)
 ·have aQ:=aA;have aA:=Q2 aA
  obtain ⟨fQ,eV⟩:=X4 (l:=d.ws) (k:=k2) (by omega)
  obtain ⟨u7,dE⟩:=X4 (l:=d.ws) (k:=k2) (by have:=aA;omega)
  have U:=Xyq dE;refine Q7<|dD _ _<|Q5 fun _ bG=>?_;refine Q8<|Zs E fun _ dF=>?_;refine Zi (k:=k2) (u:=u7) (enc:=encWr) (l:=d.ws) tv0 rfl rfl Xr X0c Xy B dE rfl ?_;intro fR bS;refine Ze (X03 (l:=[vi u7.a,vi u7.b,.bool u7.h]) rfl X10 bS rfl)<|Zf (Xq (zs:=[vi 0,vi 0,.bool false]) X2s rfl) ?_;rintro _ fS ⟨fT,rfl,bH,G,aU⟩;have b2:=Q0 I.size bH;have dG:=B.away bH;have g:=g.bw G;have o:=o.bw G;have C:=C.bw G;have B:=B.bw G;have I:=ktr I G;refine Zo (Vw [vi u7.a,vi u7.b,.bool u7.h] X0c aU) ?_;rintro _ fU ⟨M,hb⟩;have A:=aU;have g:=g.oz M A rfl;have o:=o.oz M A rfl;have C:=C.oz M A rfl;have B:=B.oy M b2;have I:=Kept.oy I M b2;have aU:=hb;refine Zx dF fun a E _ dH=>?_;refine Ze (Vd rfl X3n 2)<|Ze (X0 rfl X6q (aU.at 2))<|Zt dH fun a E=>?_
  refine Xi E rfl (fun aK=>?_) (fun aK=>?_)
  ·have bT:=aK
   have b3:hdN (d.ws.take (k2+1))-d.r=e+1:=by rw [U,Q4 aK];omega
   refine Zr E<|Zm rfl<|Ze (Xs rfl rfl (by omega) (by omega))<|Za rfl ?_;refine Zn fun a E=>?_;refine Xa<|bG _ _<|Zr E<|Ze (Xs rfl rfl (by omega) (by omega))<|Zm rfl ?_;refine Zn fun a E=>?_;refine Xc ?_;exact ⟨(k2+1,e+1),⟨E.sb,(by omega),(by rw [b3]),(by omega),g,o,C,B,Q,I⟩,(by first|omega|(dsimp only;omega))⟩
  have bT:=aK
  have b3:hdN (d.ws.take (k2+1))-d.r=e:=by rw [U,Q3 (by rw [aK];decide)];omega
  refine Q7<|Xa<|bG _ _<|Zr E ?_;refine Ze (Xs rfl rfl (by omega) (by omega))<|Zm rfl ?_;refine Zn fun a E=>?_;refine Xc ?_;exact ⟨(k2+1,e),⟨E.sb,(by omega),(by rw [b3]),(by omega),g,o,C,B,Q,I⟩,(by first|omega|(dsimp only;omega))⟩
 have aQ:=aA;have aA:=Q1 aA
 have b8:e=exD d:=by rw [he,Qi (by have:=aA;omega)];rfl
 refine Q9<|Xk<|Xk<|X02 ?_;refine dA _ _<|Q5 fun _ dI=>?_;refine Zs E fun _ dJ=>?_;refine Ze (Vn X2e C)<|Ze (X0s (ps:=[]) (cs:=[vi 0,vi 0,vi 0,vi 0]) rfl (fun _=>by first|rfl|kernel_rfl))<|Ze (Xs7 rfl rfl Xu8 (fun w=>eqR 9998 z (⟨0,0,0,0⟩ : Rg) w))<|Zt dJ fun a E=>?_
 refine Xi E rfl (fun aB=>?_) (fun aB=>?_)
 ·have aR:=aB;have aB:=Q2 aB
  have bA:z=rZ:=by show z=⟨0,0,0,0⟩;have h8:=aB;simpa using h8
  have dK:=Y5l (e:=e) bA;refine Zs E fun _ dL=>?_;refine Ze (X0s (ps:=[]) (cs:=[vi 0,vi 0,vi 0,vi 0,vi 0]) rfl (fun _=>by first|rfl|kernel_rfl))<|Zo (Vw [vi 0,vi 0,vi 0,vi 0,vi 0] X5b o) ?_;rintro _ fV ⟨M,hb⟩;have A:=o;have g:=g.oz M A rfl;have I:=Kept.oy I M aT;have o:=hb;refine Zt dL fun a E=>?_;refine Q6<|X8<|X6 E (Xp E rfl (ResV.cellN (l:=[vi 0,vi 0,vi 0,vi 0,vi 0]) rfl X4n (o.at 0) rfl)) ?_
  rw [<- b0,<- b8,dK.1,dK.2,Bool.or_false]
  exact ⟨rfl,I,g⟩
 have aR:=aB;have aB:=Q1 aB
 have bA:¬ z=rZ:=by show ¬ z=⟨0,0,0,0⟩;have h8:=aB;simpa using h8
 refine Q7<|dI _ _<|Q5 fun _ dM=>?_;refine Q8<|X01 (σ:=Rg×Int) (fun (s:Rg×Int) (a:Act) (w:World)=>match s with|(y,e4)=>Fr a 142 [(0,(pZ9 bV)),(8,(pZ9 b5)),(13,(pZ9 aJ)),(18,vi e4)]/\(RsI z (-e).toNat y e4)/\(e4=e∨(e<0/\e4<=0))/\(-60<=e4/\e4<=1700)/\Blk w bV 91 [.bool f]/\Blk w b5 96 [vi 0,vi 0,vi 0,vi 0,vi 0]/\Blk w aJ 94 [vi y.a,vi y.b,vi y.c,vi y.d]/\Kept bV w0.heap.size w0 w) (fun (s:Rg×Int)=>match s with|(y,e4)=>(-e4).toNat) (z,e) ?_ ?_
 ·exact ⟨E.sb,(RsI.start eP rfl),(.inl rfl),(by omega),g,o,C,I⟩
 rintro ⟨y,e4⟩ a w24 ⟨E,bU,eQ,fW,g,o,C,I⟩;refine Q5 fun _ dN=>?_;refine Q5 fun _ dO=>?_;refine X0a (fun a w=>Fr a 142 [(0,(pZ9 bV)),(8,(pZ9 b5)),(13,(pZ9 aJ)),(18,vi e4),(120,.bool ((decide (e4<0))&&(rOk y)))]/\Below w24.heap.size w24 w) ?_ ?_
 ·have bB:Below w24.heap.size w24 w24:=Below.refl _ _
  refine Zr E<|Zm rfl<|Ze (X0n rfl rfl)<|Zm rfl ?_
  refine Zg 117 rfl (fun aC=>?_) (fun aC=>?_)
  ·refine Zv (gW aC) (Vn X2e C) ?_;refine Zk (gW aC) (Vc (Xzl _ y) Xjg) ?_;rintro _ w25 ⟨rfl,G⟩;have I:=ktr I G;have bB:=btr bB G;refine Ze (X5 rfl aC rfl) ?_;refine Zn fun a E=>?_
   have bW:Below w24.heap.size w24 w25:=bB
   exact ⟨E.sub ⟨rfl,rfl,rfl,rfl,X1 rfl (by simp [aN,aP,aQ,aR,aC]),trivial⟩,bW⟩
  (iterate 2 refine Zp (gP aC) ?_);refine Ze (Xb rfl aC rfl) ?_;refine Zn fun a E=>?_
  have bW:Below w24.heap.size w24 w24:=bB
  exact ⟨E.sub ⟨rfl,rfl,rfl,rfl,X1 rfl (by simp [aN,aP,aQ,aR,aC]),trivial⟩,bW⟩
 rintro a fX ⟨E,G⟩;have g:=g.bw G;have o:=o.bw G;have C:=C.bw G;have I:=ktr I G;refine dO _ _ ?_
 refine Xi E rfl (fun aL=>?_) (fun aL=>?_)
 ·have bX:=aL
  have bC:e4<0/\rOk y=true:=by have h8:=aL;revert h8;cases rOk y<;>simp
  refine Q7<|dN _ _<|Q8<|Zs E fun _ dP=>?_;refine Ze (Vn X2e C)<|Zf (Vc (Y05 _ y) Xll) ?_;rintro _ fY ⟨rfl,G⟩;have g:=g.bw G;have o:=o.bw G;have C:=C.bw G;have I:=ktr I G;refine Zo (Vw [vi ((rRoot y).a),vi ((rRoot y).b),vi ((rRoot y).c),vi ((rRoot y).d)] X43 C) ?_;rintro _ fZ ⟨M,hb⟩;have A:=C;have g:=g.oz M A rfl;have o:=o.oz M A rfl;have I:=Kept.oy I M aO;have C:=hb;refine Zt dP fun a E=>?_;refine Zr E<|Zm rfl<|Ze (Xs rfl rfl (by omega) (by omega))<|Za rfl ?_;refine Zn fun a E=>?_;refine Xa<|Xc ?_;exact ⟨((rRoot y),e4+1),⟨E.sb,(bU.step bC.1 bC.2),(by omega),(by omega),g,o,C,I⟩,(by first|omega|(dsimp only;omega))⟩
 have bX:=aL
 have bC:rOk y=true->0<=e4:=by have h8:=aL;revert h8;cases rOk y<;>simp
 refine Q9<|Xk<|Xk<|X02 ?_;refine dM _ _<|Q5 fun _ dQ=>?_;refine Zs E fun _ dR=>?_;refine Ze (Vn X2e C)<|Zf (Vc (Xzl _ y) Xjg) ?_;rintro _ g5 ⟨rfl,G⟩;have g:=g.bw G;have o:=o.bw G;have C:=C.bw G;have I:=ktr I G;refine Ze (X0w rfl)<|Zt dR fun a E=>?_
 refine Xi E rfl (fun aM=>?_) (fun aM=>?_)
 ·have bY:=aM
  have dS:=bU.bad2 rfl bA (by have h8:=aM;simpa using h8)
  refine Zs E fun _ dT=>?_;refine Zm rfl<|Ze (X08 rfl)<|Ze (Vd rfl X75 0)<|Zo (X15 (vs:=[.bool true]) (l':=[.bool true]) rfl rfl X6a g rfl rfl rfl rfl rfl) ?_;rintro _ g6 ⟨M,hb⟩;have A:=g;have o:=o.oz M A rfl;have I:=I.self M;have g:=hb;refine Zx dT fun a E _ dU=>?_;refine Ze (X0s (ps:=[]) (cs:=[vi 0,vi 0,vi 0,vi 0,vi 0]) rfl (fun _=>by first|rfl|kernel_rfl))<|Zo (Vw [vi 0,vi 0,vi 0,vi 0,vi 0] X5b o) ?_;rintro _ g7 ⟨M,hb⟩;have A:=o;have g:=g.oz M A rfl;have I:=Kept.oy I M aT;have o:=hb;refine Zt dU fun a E=>?_;refine Q6<|X8<|X6 E (Xp E rfl (ResV.cellN (l:=[vi 0,vi 0,vi 0,vi 0,vi 0]) rfl X4n (o.at 0) rfl)) ?_
  rw [<- b0,<- b8,dS.1,dS.2,Bool.or_true]
  exact ⟨rfl,I,g⟩
 have bY:=aM
 have dW:rOk y=true:=by have h8:=aM;simpa using h8
 have bD:=bU.fin2 rfl bA dW (bC dW) eQ;refine Q7<|dQ _ _<|Zs E fun _ dX=>?_;refine Ze (Vn X2e C)<|Zm rfl<|Zf (X1k (vs:=[.agg #[vi y.a,vi y.b,vi y.c,vi y.d],vi e4]) rfl Xwo (Y5p _ y e4 (by omega))) ?_;rintro _ g8 ⟨rfl,G⟩;have g:=g.bw G;have o:=o.bw G;have I:=ktr I G;refine Zf (Xq (zs:=[vi 0,vi 0,vi 0,vi 0,vi 0]) Xm7 rfl) ?_;rintro _ gA ⟨b77,rfl,dY,G,aD⟩
 have eA:b5≠b77:=by have:=o.lt;omega
 have bZ:=Q0 I.size dY;have g:=g.bw G;have o:=o.bw G;have I:=ktr I G;refine Zo (Vw [vi ((dLow y e4).num.a),vi ((dLow y e4).num.b),vi ((dLow y e4).num.c),vi ((dLow y e4).num.d),vi ((dLow y e4).exp)] X5b aD) ?_;rintro _ gB ⟨M,hb⟩;have A:=aD;have g:=g.oz M A rfl;have o:=o.oy M (by omega);have I:=Kept.oy I M bZ;have aD:=hb;refine ZX dX fun a E _ bJ=>?_;refine Zs E fun _ eB=>?_;refine Ze (Vd rfl Xmk 4)<|Ze (X0 rfl X9 (aD.at 4))<|Ze (X2y rfl rfl)<|Zt eB fun a E=>?_
 refine Xi E rfl (fun aE=>?_) (fun aE=>?_)
 ·have c5:=aE;have aE:=Q2 aE
  have cA:zcB z e=true:=by rw [bD.1];exact decide_eq_true (by have h8:=aE;simpa using h8)
  refine Zr E<|Zm rfl<|Ze (X08 rfl)<|Ze (Vd rfl X75 0)<|Zo (X15 (vs:=[.bool true]) (l':=[.bool true]) rfl rfl X6a g rfl rfl rfl rfl rfl) ?_;rintro _ gC ⟨M,hb⟩;have A:=g;have o:=o.oz M A rfl;have aD:=aD.oz M A rfl;have I:=I.self M;have g:=hb;refine Zx bJ fun a E _ eC=>?_;refine Ze (Vn X4n aD)<|Zo (Vw [vi ((dLow y e4).num.a),vi ((dLow y e4).num.b),vi ((dLow y e4).num.c),vi ((dLow y e4).num.d),vi ((dLow y e4).exp)] X5b o) ?_;rintro _ gD ⟨M,hb⟩;have A:=o;have g:=g.oz M A rfl;have I:=Kept.oy I M aT;have o:=hb;refine Zt eC fun a E=>?_
  refine Q6 (X6 E (Xp E rfl (ResV.cellN (l:=[vi ((dLow y e4).num.a),vi ((dLow y e4).num.b),vi ((dLow y e4).num.c),vi ((dLow y e4).num.d),vi ((dLow y e4).exp)]) rfl X4n (o.at 0) rfl)) ?_)
  rw [<- b0,<- b8,cA,bD.2]
  first|(rw [Bool.or_true];exact ⟨rfl,I,g⟩)|(rw [Bool.or_false];exact ⟨rfl,I,g⟩)
 have c5:=aE;have aE:=Q1 aE
 have cA:zcB z e=false:=by rw [bD.1];exact decide_eq_false (by have h8:=aE;simpa using h8)
 refine Q7<|bJ _ _<|Zs E fun _ eD=>?_;refine Ze (Vn X4n aD)<|Zo (Vw [vi ((dLow y e4).num.a),vi ((dLow y e4).num.b),vi ((dLow y e4).num.c),vi ((dLow y e4).num.d),vi ((dLow y e4).exp)] X5b o) ?_;rintro _ gE ⟨M,hb⟩;have A:=o;have g:=g.oz M A rfl;have I:=Kept.oy I M aT;have o:=hb;refine Zt eD fun a E=>?_
 refine Q6 (X6 E (Xp E rfl (ResV.cellN (l:=[vi ((dLow y e4).num.a),vi ((dLow y e4).num.b),vi ((dLow y e4).num.c),vi ((dLow y e4).num.d),vi ((dLow y e4).exp)]) rfl X4n (o.at 0) rfl)) ?_)
 rw [<- b0,<- b8,cA,bD.2]
 first|(rw [Bool.or_true];exact ⟨rfl,I,g⟩)|(rw [Bool.or_false];exact ⟨rfl,I,g⟩)
theorem Y1m{k n:Nat}(hk:k<=1000000) : wr ((k:Int).tdiv (n:Int))=((k/n:Nat) : Int):=by
 rw [show (k:Int).tdiv (n:Int)=((k/n:Nat) : Int) from rfl]
 have h1:=Nat.div_le_self k n
 generalize k/n=m at h1 ⊢
 exact X1q (by omega) (by omega)
theorem Y1g(k n:Nat) : (k:Int).tmod (n:Int)=((k % n:Nat) : Int):=rfl
theorem Y27(w0:World)(bV:Nat)(f:Bool)(o:Blk w0 bV 91 [.bool f])(d:Dg)(md:Nat)(aE:md=d.ns.length)(Ad:Option Addr)(cd:Nat)(e:Rd w0 w0.heap.size 81 encNd Ad d.ns)(Bd:Option Addr)(dd:Nat)(g:Rd w0 w0.heap.size 83 encWr Bd d.ws)(I:d.ws.length<=dd)(hG:goodD d=true)(aS:(((spL d.ns).length:Nat) : Int)+2*d.n<=16) : Ret Tryz.prog 56 [(pZ9 bV),.agg #[vi d.n,.slice Ad md cd,.slice Bd d.ws.length dd,vi d.t,vi d.r]] w0 (fun v w=>∃ A c1,v=mV A c1 (mgM d f)/\Own w w0.heap.size 96 5 encD A c1 (mgM d f).cells/\Kept bV w0.heap.size w0 w/\Blk w bV 91 [.bool (mgF d f)]):=by
 have b3:=o.lt;have b7:=X1b hG
 have W:2^d.n.toNat<=32:=Nat.pow_le_pow_right (n:=2) (by decide) (show d.n.toNat<=5 by omega)
 have b8:0<2^d.n.toNat:=Nat.pow_pos (by decide)
 have b9:=Xgf W W
 have aF:(((2^d.n.toNat:Nat) : Int)==0)=false:=by rw [beq_eq_false_iff_ne];omega
 refine enter Tryz.func56 rfl 44 rfl rfl ?_;intro a E
 have C:Kept bV w0.heap.size w0 w0:=Kept.refl _ _ _
 refine Zs E fun _ aT=>?_;refine Zf (X0l (zs:=[vi d.n,.slice Ad md cd,.slice Bd d.ws.length dd,vi d.t,vi d.r]) rfl rfl) ?_;rintro _ w1 ⟨b4,rfl,aU,y,q⟩;have b5:=Q0 C.size aU;have o:=o.bw y;have e:=e.bw y;have g:=g.bw y;have C:=ktr C y;refine Zf (Xq (zs:=[vi 0,vi 0,.slice none 0 0]) Xa7 rfl) ?_;rintro _ w2 ⟨b6,rfl,aV,y,x⟩;have aG:=Q0 C.size aV;have o:=o.bw y;have q:=q.bw y;have e:=e.bw y;have g:=g.bw y;have C:=ktr C y;refine Zx aT fun a E _ aW=>?_;refine Ze (Vd rfl X16 0)<|Ze (X0 rfl X9 (q.at 0))<|Ze (Xka (m:=d.n.toNat) Tryz.underlying3 Tryz.underlying147 rfl (by omega) (by omega))<|Ze (Vx (Xyb (m:=d.n.toNat) rfl rfl rfl (by omega)) (Xk0 (by omega)))<|Za rfl<|Zx aW fun a E _ aX=>?_;refine Zm rfl<|Zm rfl<|Ze (X0s (ps:=[(0,vi ((2^d.n.toNat:Nat) : Int)),(1,vi ((2^d.n.toNat:Nat) : Int))]) (cs:=[vi ((2^d.n.toNat:Nat) : Int),vi ((2^d.n.toNat:Nat) : Int),.slice none 0 0]) rfl (fun _=>by first|rfl|kernel_rfl))<|Zf (Xq (zs:=[vi 0,vi 0,.slice none 0 0]) Xa7 rfl) ?_;rintro _ w3 ⟨b11,rfl,aH,y,i⟩
 have aI:b6≠b11:=by have:=x.lt;omega
 have N:=Q0 C.size aH;have o:=o.bw y;have q:=q.bw y;have x:=x.bw y;have e:=e.bw y;have g:=g.bw y;have C:=ktr C y;refine Zo (Vw [vi ((2^d.n.toNat:Nat) : Int),vi ((2^d.n.toNat:Nat) : Int),.slice none 0 0] X5a i) ?_;rintro _ w4 ⟨G,hb⟩;have p:=i;have o:=o.oz G p rfl;have q:=q.oz G p rfl;have x:=x.oy G (by omega);have e:=e.oT G p rfl;have g:=g.oT G p rfl;have C:=Kept.oy C G N;have i:=hb;refine ZX aX fun a E _ aJ=>?_;refine Zs E fun _ aK=>?_;refine Za rfl<|Zt aK fun a E=>?_;refine Q8<|X01 (σ:=Nat×(List Dy)×Bool) (fun (s:Nat×(List Dy)×Bool) (a:Act) (w:World)=>match s with|(k,l,f1)=>∃ J L,Fr a 44 [(0,(pZ9 bV)),(3,(pZ9 b4)),(4,(pZ9 b6)),(5,vi ((2^d.n.toNat:Nat) : Int)),(6,(pZ9 b11)),(7,vi (k:Int))]/\(k<=2^d.n.toNat*2^d.n.toNat)/\(mgL d f k=(f1,l))/\Blk w bV 91 [.bool f1]/\Blk w b4 39 [vi d.n,.slice Ad md cd,.slice Bd d.ws.length dd,vi d.t,vi d.r]/\Blk w b6 50 [vi 0,vi 0,.slice none 0 0]/\Blk w b11 50 [vi ((2^d.n.toNat:Nat) : Int),vi ((2^d.n.toNat:Nat) : Int),.slice J l.length L]/\Rd w w0.heap.size 81 encNd Ad d.ns/\Rd w w0.heap.size 83 encWr Bd d.ws/\Own w w0.heap.size 96 5 encD J L l/\d.ws.length<=dd/\Kept bV w0.heap.size w0 w) (fun (s:Nat×(List Dy)×Bool)=>match s with|(k,l,f1)=>2^d.n.toNat*2^d.n.toNat-k) (0,[],f) ?_ ?_
 ·exact ⟨none,0,E.sb,(Qf _),rfl,o,q,x,i,e,g,(Own.nil _ _ _ _ _),I,C⟩
 rintro ⟨k,l,f1⟩ a w5 ⟨J,L,E,hk,hl,o,q,x,i,e,g,B,I,C⟩;refine Q5 fun _ aL=>?_;refine Q5 fun _ aM=>?_;refine X0a (fun a w=>Fr a 44 [(0,(pZ9 bV)),(3,(pZ9 b4)),(4,(pZ9 b6)),(5,vi ((2^d.n.toNat:Nat) : Int)),(6,(pZ9 b11)),(7,vi (k:Int)),(26,.bool ((decide ((k:Int)<((2^d.n.toNat*2^d.n.toNat:Nat) : Int)))&&(!f1)))]/\w5=w) ?_ ?_
 ·refine Zr E<|Zm rfl<|Zm rfl<|Zm rfl<|Ze (Y24 (m:=2^d.n.toNat) (k:=2^d.n.toNat) rfl rfl (by omega))<|Ze (X0n rfl rfl)<|Zm rfl ?_
  refine Zg 20 rfl (fun u=>?_) (fun u=>?_)
  ·refine Zv (gW u) (X3 rfl) ?_;refine Zv (gW u) (X08 rfl) ?_;refine Zv (gW u) (Vd rfl X75 0) ?_;refine Zv (gW u) (X0 rfl X6q (o.at 0)) ?_;refine Zv (gW u) (X0w rfl) ?_;refine Ze (X5 rfl u rfl) ?_;refine Zn fun a E=>?_;exact ⟨E.sub ⟨rfl,rfl,rfl,rfl,rfl,rfl,X1 rfl (by first|rfl|(simp only [u,bs];done)|simp [u]),trivial⟩,rfl⟩
  (iterate 5 refine Zp (gP u) ?_);refine Ze (Xb rfl u rfl) ?_;refine Zn fun a E=>?_;exact ⟨E.sub ⟨rfl,rfl,rfl,rfl,rfl,rfl,X1 rfl (by first|rfl|(simp only [u,bs];done)|simp [u]),trivial⟩,rfl⟩
 rintro a _ ⟨E,rfl⟩;refine aM _ _ ?_
 refine Xi E rfl (fun H=>?_) (fun H=>?_)
 ·have a8:=H
  have aY:(k:Int)<(2^d.n.toNat*2^d.n.toNat:Nat)/\f1=false:=by simpa using H
  have bA:k<2^d.n.toNat*2^d.n.toNat:=by omega
  have aZ:=Xrk hl aY.2;have aN:=Xli (d:=d) (f:=f) k
  rw [hl] at aN
  dsimp only at aN
  refine Q7<|aL _ _<|Q5 fun _ aO=>?_;refine Q8<|X04 (some bV) (fun j=>[12,14].contains j) mixed ?_;intro w6 y;have o:=o.bw y;have q:=q.bw y;have x:=x.bw y;have i:=i.bw y;have e:=e.bw y;have g:=g.bw y;have B:=B.bw y;have C:=ktr C y;refine Yb E<|Yo 0 rfl (fun _=>Vd rfl X3v 2) ?_;refine Yw 1 rfl tv0 (fun w1 h1=>X0 rfl X7v ((i.oz h1 o rfl).at 2)) ?_;refine Yo 2 rfl (fun _=>X3 rfl) ?_;refine Yw 3 rfl tv0 (fun w1 h1=>X03 (l:=[vi d.n,.slice Ad md cd,.slice Bd d.ws.length dd,vi d.t,vi d.r]) rfl X2 ((q.oz h1 o rfl).at 0) rfl) ?_;refine Yo 4 rfl (fun _=>X3 rfl)<|Yo 5 rfl (fun _=>X3 rfl)<|Yo 6 rfl (fun _=>Vx (Xif rfl rfl aF) (Y1m (by omega)))<|Yo 7 rfl (fun _=>X3 rfl)<|Yo 8 rfl (fun _=>X3 rfl)<|Yo 9 rfl (fun _=>Vx (X3k rfl rfl aF) (Y1g _ _))<|Y1 10 ?_;refine Yf rfl tv0 (EfW.mono (Vc (Y2x _ bV f1 o d md aE Ad cd e.top Bd dd g.top I ((k/2^d.n.toNat:Nat) : Int) ((k % 2^d.n.toNat:Nat) : Int) hG aS) Xoq) (fun _ _ h=>⟨fun _=>by obtain ⟨rfl,hK,aA⟩:=h;exact hK.keep,h⟩)) ?_;rintro _ w7 ⟨rfl,hK,aA⟩;obtain ⟨wm,hO,hm,y⟩:=hK.mid;clear hm;have p:=o;have q:=q.oz hO p rfl;have x:=x.oz hO p rfl;have i:=i.oz hO p rfl;have e:=e.oT hO p rfl;have g:=g.oT hO p rfl;have B:=B.oT hO p rfl;have C:=C.self hO;have q:=q.bw y;have x:=x.bw y;have i:=i.bw y;have e:=e.bw y;have g:=g.bw y;have B:=B.bw y;have C:=ktr C y
  clear p y hO hK;have o:=aA;clear aA;refine Y1 11<|Yf rfl tv0 (EfW.mono (Xn (k:=1) (vs:=[.agg #[vi ((zcV (smD d (bdB d ((k/2^d.n.toNat:Nat) : Int) ((k % 2^d.n.toNat:Nat) : Int))) (exD d)).num.a),vi ((zcV (smD d (bdB d ((k/2^d.n.toNat:Nat) : Int) ((k % 2^d.n.toNat:Nat) : Int))) (exD d)).num.b),vi ((zcV (smD d (bdB d ((k/2^d.n.toNat:Nat) : Int) ((k % 2^d.n.toNat:Nat) : Int))) (exD d)).num.c),vi ((zcV (smD d (bdB d ((k/2^d.n.toNat:Nat) : Int) ((k % 2^d.n.toNat:Nat) : Int))) (exD d)).num.d),vi ((zcV (smD d (bdB d ((k/2^d.n.toNat:Nat) : Int) ((k % 2^d.n.toNat:Nat) : Int))) (exD d)).exp)]]) (zs:=[vi ((zcV (smD d (bdB d ((k/2^d.n.toNat:Nat) : Int) ((k % 2^d.n.toNat:Nat) : Int))) (exD d)).num.a),vi ((zcV (smD d (bdB d ((k/2^d.n.toNat:Nat) : Int) ((k % 2^d.n.toNat:Nat) : Int))) (exD d)).num.b),vi ((zcV (smD d (bdB d ((k/2^d.n.toNat:Nat) : Int) ((k % 2^d.n.toNat:Nat) : Int))) (exD d)).num.c),vi ((zcV (smD d (bdB d ((k/2^d.n.toNat:Nat) : Int) ((k % 2^d.n.toNat:Nat) : Int))) (exD d)).num.d),vi ((zcV (smD d (bdB d ((k/2^d.n.toNat:Nat) : Int) ((k % 2^d.n.toNat:Nat) : Int))) (exD d)).exp)]) rfl X6k Xg3 rfl rfl) (fun _ _ h=>⟨fun _=>by obtain ⟨_,_,_,y,_⟩:=h;exact Keep.of_below y,h⟩)) ?_;rintro _ w8 ⟨bB,rfl,a6,y,Q⟩;have b0:=Q0 C.size a6;have M:=B.away a6;have o:=o.bw y;have q:=q.bw y;have x:=x.bw y;have i:=i.bw y;have e:=e.bw y;have g:=g.bw y;have B:=B.bw y;have C:=ktr C y;refine Y1 12<|Yt rfl tv0 rfl (X0t (enc:=encD) (l:=(l)) (l2:=([(zcV (smD d (bdB d ((k/2^d.n.toNat:Nat) : Int) ((k % 2^d.n.toNat:Nat) : Int))) (exD d))])) (B0:=w0.heap.size) rfl rfl X6k Xg3 X9h Xjn B (Rd.of_blk Q rfl _ Q.lt) (by simp only [maxLen];simp;omega) (by simp;omega) C.size) ?_;rintro _ w9 ⟨aB,aC,rfl,U,hg,aP⟩
  have D:Own _ w0.heap.size 96 5 encD _ _ (l):=B
  have aD:=aP _ Q.lt M;clear aP;have o:=o.appT D hg rfl;have q:=q.appT D hg rfl;have x:=x.appT D hg rfl;have i:=i.appT D hg rfl;have e:=e.appT D hg rfl;have g:=g.appT D hg rfl;have C:=Kept.app C D hg (Qb _) C.size;clear D hg;refine Yo 13 rfl (fun _=>Vd rfl X3v 2)<|Y1 14 ?_;refine Yh rfl tv0 rfl (Vu (vs:=[.slice aB (l++([(zcV (smD d (bdB d ((k/2^d.n.toNat:Nat) : Int) ((k % 2^d.n.toNat:Nat) : Int))) (exD d))])).length aC]) (l':=[vi ((2^d.n.toNat:Nat) : Int),vi ((2^d.n.toNat:Nat) : Int),.slice aB (l++([(zcV (smD d (bdB d ((k/2^d.n.toNat:Nat) : Int) ((k % 2^d.n.toNat:Nat) : Int))) (exD d))])).length aC]) rfl rfl Xue i) ?_;rintro _ bC ⟨G,hb⟩;have p:=i;have o:=o.oz G p rfl;have q:=q.oz G p rfl;have x:=x.oy G (by omega);have e:=e.oT G p rfl;have g:=g.oT G p rfl;have U:=U.oT G p rfl;have C:=Kept.oy C G N;have i:=hb;refine Yd fun a E=>?_;refine Xa<|aO _ _<|Zr E<|Zm rfl<|Ze (Xs rfl rfl (by omega) (by omega))<|Za rfl ?_;refine Zn fun a E=>?_;refine Xc ?_;exact ⟨(k+1,l++([(zcV (smD d (bdB d ((k/2^d.n.toNat:Nat) : Int) ((k % 2^d.n.toNat:Nat) : Int))) (exD d))]),(f1||zcB (smD d (bdB d ((k/2^d.n.toNat:Nat) : Int) ((k % 2^d.n.toNat:Nat) : Int))) (exD d))),⟨aB,aC,E.sb,(by omega),aZ,o,q,x,i,e,g,U,I,C⟩,(by first|omega|(dsimp only;omega))⟩
 have a8:=H
 have aQ:f1=true∨k=2^d.n.toNat*2^d.n.toNat:=by (cases f1 with|true=>exact .inl rfl|false=>exact .inr (by have h9:¬ (k:Int)<(2^d.n.toNat*2^d.n.toNat:Nat):=(by simpa using H);omega))
 have a7:=Xw6 hl hk aQ;refine Q9<|Xk<|Xk<|X02 ?_;refine aJ _ _<|Zs E fun _ aR=>?_;refine Ze (Vn X5d i)<|Zo (Vw [vi ((2^d.n.toNat:Nat) : Int),vi ((2^d.n.toNat:Nat) : Int),.slice J l.length L] X5a x) ?_;rintro _ bD ⟨G,hb⟩;have p:=x;have o:=o.oz G p rfl;have B:=B.oT G p rfl;have C:=Kept.oy C G aG;have x:=hb;refine Zt aR fun a E=>?_
 refine Q6 (X6 E (Xp E rfl (ResV.cellN (l:=[vi ((2^d.n.toNat:Nat) : Int),vi ((2^d.n.toNat:Nat) : Int),.slice J l.length L]) rfl X5d (x.at 0) rfl)) ?_)
 have b1:mgM d f=⟨((2^d.n.toNat:Nat) : Int),((2^d.n.toNat:Nat) : Int),l⟩:=by unfold mgM;rw [a7]
 have b2:mgF d f=f1:=by unfold mgF;rw [a7]
 rw [b1,b2]
 exact ⟨J,L,rfl,B,C,o⟩
theorem Xtm(J:World)(d:Dg)(md:Nat)(B:md=d.ns.length)(Ad:Option Addr)(cd:Nat)(C:Rd J J.heap.size 81 encNd Ad d.ns)(Bd:Option Addr)(dd:Nat)(D:Rd J J.heap.size 83 encWr Bd d.ws)(E:d.ws.length<=dd)(b2:d.ws.length<=900000000)(aR:∀ x ∈ d.ws,-1000000<=x.b/\x.b<=1000000)(hN:md<=1000) : Ret Tryz.prog 19 [.agg #[vi d.n,.slice Ad md cd,.slice Bd d.ws.length dd,vi d.t,vi d.r]] J (fun v w=>∃ A c,v=.tuple #[mV A c (((mnO d)).getD mZ),.bool ((mnO d)).isSome]/\Own w J.heap.size 96 5 encD A c (((mnO d)).getD mZ).cells/\Below J.heap.size J w):=by
 refine enter Tryz.func19 rfl 31 rfl rfl ?_;intro a p
 have g:=bz J
 refine Zs p fun _ aS=>?_;refine Zf (X0l (zs:=[vi d.n,.slice Ad md cd,.slice Bd d.ws.length dd,vi d.t,vi d.r]) rfl rfl) ?_;rintro _ w1 ⟨b4,rfl,aT,i,j⟩;have b0:=Q0 g.size aT;have g:=btr g i;refine Zf (Xq (zs:=[vi 0,vi 0,.slice none 0 0]) Xa7 rfl) ?_;rintro _ w2 ⟨b6,rfl,aU,i,e⟩;have G:=Q0 g.size aU;have j:=j.bw i;have g:=btr g i;refine Za rfl<|ZX aS fun a p _ aV=>?_;refine Q5 fun _ aW=>?_;refine X0a (fun a w=>Fr a 31 [(1,(pZ9 b4)),(2,(pZ9 b6)),(18,.bool ((!(goodD d))||(decide (16<(((spL d.ns).length:Int)+(2*d.n))))))]/\Below w2.heap.size w2 w) ?_ ?_
 ·have u:Below w2.heap.size w2 w2:=Below.refl _ _
  refine X04 none (fun _=>false) mixed ?_;intro w3 i;have j:=j.bw i;have g:=btr g i;have u:=btr u i;refine Yb p<|Ye 0 rfl (Vn X2 j)<|Y1 1 ?_;refine Yk rfl tv0 (Vc (Xgy _ d md B Ad cd (C.bx g).top Bd dd (D.bx g).top E (by omega) aR) X89) (fun _ _ ⟨_,i⟩=>i) ?_;rintro _ w4 ⟨rfl,i⟩;have j:=j.bw i;have g:=btr g i;have u:=btr u i;refine Yo 2 rfl (fun _=>X0w rfl)<|Yo 3 rfl (fun _=>X3 rfl) ?_
  refine Yl 9 rfl (fun f=>?_) (fun f=>?_)
  ·refine Yp 4 rfl (gP f) ?_;refine Yp 7 rfl (gP f) ?_;refine Yp 8 rfl (gP f) ?_;refine Yp 9 rfl (gP f) ?_;refine Y1 5<|Yq rfl ⟨_,_,rfl,rfl,f⟩ ?_;refine Yp 6 rfl (gP f) ?_;refine Yp 10 rfl (gP f) ?_;refine Yp 11 rfl (gP f) ?_;refine Yo 12 rfl (fun _=>X5 rfl f rfl) ?_;refine Yd fun a p=>?_
   have a6:Below w2.heap.size w2 w4:=u
   exact ⟨p.sub ⟨rfl,rfl,X1 rfl (by simp [f]),trivial⟩,a6⟩
  have b3:=X1b (d:=d) (by have L:=f;simpa using L)
  have b1:(spL d.ns).length<=d.ns.length:=Xb8 d.ns d.ns.length
  refine Yv 4 rfl (gW f) (Vn X2 j) ?_;refine Yu 7 rfl (gW f) (fun _=>Vd rfl X16 0) ?_;refine Yv 8 rfl (gW f) (X0 rfl X9 (j.at 0)) ?_;refine Yu 9 rfl (gW f) (fun _=>X62 rfl rfl (by omega) (by omega)) ?_;refine Y1 5<|Yk rfl ⟨_,_,rfl,rfl,f⟩ (Vc (Xiv _ d md B Ad cd (C.bx g).top Bd dd (D.bx g).top E hN) Xan) (fun _ _ ⟨aX,aY,_,H,i⟩=>i) ?_;rintro _ w5 ⟨aX,aY,rfl,H,i⟩;have H:=H.lower g.size;have g:=btr g i;have u:=btr u i;refine Yu 6 rfl (gW f) (fun _=>X09 rfl Xj) ?_;refine Yu 10 rfl (gW f) (fun _=>Xs rfl rfl (by omega) (by omega)) ?_;refine Yu 11 rfl (gW f) (fun _=>X2y rfl rfl) ?_;refine Yo 12 rfl (fun _=>Xb rfl f rfl) ?_;refine Yd fun a p=>?_
  have a6:Below w2.heap.size w2 w5:=u
  exact ⟨p.sub ⟨rfl,rfl,X1 rfl (by simp [f]),trivial⟩,a6⟩
 rintro a w6 ⟨p,i⟩;have j:=j.bw i;have e:=e.bw i;have g:=btr g i;refine aW _ _ ?_
 refine Xi p rfl (fun q=>?_) (fun q=>?_)
 ·have a7:=q
  have a8:mnO d=none:=by
   cases f:goodD d with
   | false=>exact Xvb f
   | true=>exact Xvr (by have L:=q;rw [f] at L;simp at L;omega)
  refine Zs p fun _ aE=>?_;refine Ze (X0s (ps:=[]) (cs:=[vi 0,vi 0,.slice none 0 0]) rfl (fun _=>by first|rfl|kernel_rfl))<|Zo (Vw [vi 0,vi 0,.slice none 0 0] X5a e) ?_;rintro _ w7 ⟨I,hb⟩;have k:=e;have g:=Below.oy g I G;have e:=hb;refine Za rfl<|Zt aE fun a p=>?_;refine Q6<|X8<|X6 p (X1v p rfl (ResV.cellN (l:=[vi 0,vi 0,.slice none 0 0]) rfl X5d (e.at 0) rfl) rfl) ?_
  rw [a8]
  exact ⟨none,0,rfl,(Own.nil _ _ _ _ _),g⟩
 have a7:=q
 have hG:goodD d=true:=by have L:=q;revert L;cases goodD d<;>simp
 have aA:(((spL d.ns).length:Nat) : Int)+2*d.n<=16:=by have L:=q;rw [hG] at L;simp at L;omega
 refine Q7<|aV _ _<|Zs p fun _ aF=>?_;refine Ze (X0s (ps:=[]) (cs:=[.bool false]) rfl (fun _=>by first|rfl|kernel_rfl))<|Zf (X0l (zs:=[.bool false]) rfl rfl) ?_;rintro _ w8 ⟨aZ,rfl,aG,i,m⟩;have aB:=Q0 g.size aG;have j:=j.bw i;have e:=e.bw i;have g:=btr g i;refine Za rfl<|Zx aF fun a p _ aH=>?_;refine Zm rfl<|Ze (Vn X2 j)<|Zf (Vc (Y27 _ aZ false m d md B Ad cd (C.bx g).top Bd dd (D.bx g).top E hG aA) Xqj) ?_;rintro _ w9 ⟨M,N,rfl,o,hK,aI⟩;have aJ:=g.size;obtain ⟨wm,hO,hm,i⟩:=hK.mid;clear hm;have k:=m;have e:=e.oz hO k rfl;have g:=Below.oy g hO aB;have e:=e.bw i;have g:=btr g i
 clear k i hO hK;have m:=aI;clear aI
 have o:=o.lower aJ;clear aJ;refine Zf (Xq (zs:=[vi 0,vi 0,.slice none 0 0]) Xa7 rfl) ?_;rintro _ b5 ⟨b19,rfl,aK,i,h⟩
 have aL:b6≠b19:=by have:=e.lt;omega
 have aC:=Q0 g.size aK;have e:=e.bw i;have m:=m.bw i;have o:=o.bw i;have g:=btr g i;refine Zo (Vw [vi ((mgM d false).rows),vi ((mgM d false).cols),.slice M ((mgM d false).cells).length N] X5a h) ?_;rintro _ b7 ⟨I,hb⟩;have k:=h;have e:=e.oy I (by omega);have m:=m.oz I k rfl;have o:=o.oT I k rfl;have g:=Below.oy g I aC;have h:=hb;refine ZX aH fun a p _ aM=>?_;refine Zs p fun _ aN=>?_;refine Zm rfl<|Ze (X08 rfl)<|Ze (Vd rfl X75 0)<|Ze (X0 rfl X6q (m.at 0))<|Zt aN fun a p=>?_
 refine Xi p rfl (fun y=>?_) (fun y=>?_)
 ·have aD:=y
  have a8:mnO d=none:=by rw [Xtk hG aA];exact Q4 y
  refine Zs p fun _ aO=>?_;refine Ze (X0s (ps:=[]) (cs:=[vi 0,vi 0,.slice none 0 0]) rfl (fun _=>by first|rfl|kernel_rfl))<|Zo (Vw [vi 0,vi 0,.slice none 0 0] X5a e) ?_;rintro _ b8 ⟨I,hb⟩;have k:=e;have g:=Below.oy g I G;have e:=hb;refine Za rfl<|Zt aO fun a p=>?_;refine Q6<|X8<|X6 p (X1v p rfl (ResV.cellN (l:=[vi 0,vi 0,.slice none 0 0]) rfl X5d (e.at 0) rfl) rfl) ?_
  rw [a8]
  exact ⟨none,0,rfl,(Own.nil _ _ _ _ _),g⟩
 have aD:=y
 have aP:mnO d=some (mgM d false):=by rw [Xtk hG aA];exact Q3 (by rw [y];decide)
 refine Q7<|aM _ _<|Zs p fun _ aQ=>?_;refine Ze (Vn X5d h)<|Zo (Vw [vi ((mgM d false).rows),vi ((mgM d false).cols),.slice M ((mgM d false).cells).length N] X5a e) ?_;rintro _ b9 ⟨I,hb⟩;have k:=e;have o:=o.oT I k rfl;have g:=Below.oy g I G;have e:=hb;refine Za rfl<|Zt aQ fun a p=>?_
 refine Q6 (X6 p (X1v p rfl (ResV.cellN (l:=[vi ((mgM d false).rows),vi ((mgM d false).cols),.slice M ((mgM d false).cells).length N]) rfl X5d (e.at 0) rfl) rfl) ?_)
 rw [aP]
 exact ⟨M,N,rfl,o,g⟩
section
end
def Drq(w:World)(b B0:Nat)(A0:Option Addr)(c0:Nat)(BW:Option Addr)(eW:Nat)(A1:Option Addr)(c1:Nat)(A2:Option Addr)(c2 m n:Nat)(x:Br) : Prop:=
 Blk w b 171 [vi x.d.n,.slice A0 m c0,.slice BW x.d.ws.length eW,vi x.d.t,vi x.d.r,.slice A1 n c1,.slice A2 n c2]/\Own w B0 81 2 encNd A0 c0 x.d.ns/\Own w B0 83 3 encWr BW eW x.d.ws/\Own w B0 3 1 encI A1 c1 x.la/\Own w B0 4 1 encB A2 c2 x.hd/\m=x.d.ns.length/\n=x.la.length/\n=x.hd.length
theorem X8y(w0:World)(bV B0:Nat)(A0:Option Addr)(c0:Nat)(BW:Option Addr)(eW:Nat)(A1:Option Addr)(c1:Nat)(A2:Option Addr)(c2 m0 n0:Nat)(x:Br)(a7:Drq w0 bV B0 A0 c0 BW eW A1 c1 A2 c2 m0 n0 x)(aF:B0<=w0.heap.size)(q:Int)(hq:0<=q/\q.toNat<n0) : Ret Tryz.prog 188 [(pZ9 bV),vi q] w0 (fun v w=>∃ A c B e m,TurnS (SB bV [A0,BW,A1,A2]) w0 w/\Us (SB bV [A0,BW,A1,A2]) w0 A/\Us (SB bV [A0,BW,A1,A2]) w0 B/\Drq w bV B0 A c B e A1 c1 A2 c2 m n0 (flpB x q)):=by
 obtain ⟨f,i,n,o,b,a8,aA,a6⟩:=a7;have aE:=f.lt
 have aB:Us (SB bV [A0,BW,A1,A2]) w0 A0:=SB.us (by simp)
 have aC:Us (SB bV [A0,BW,A1,A2]) w0 BW:=SB.us (by simp)
 have aG:Us (SB bV [A0,BW,A1,A2]) w0 A1:=SB.us (by simp)
 have aD:Us (SB bV [A0,BW,A1,A2]) w0 A2:=SB.us (by simp)
 refine enter Tryz.func188 rfl 18 rfl rfl ?_;intro a hf
 have hW:TurnS (SB bV [A0,BW,A1,A2]) w0 w0:=TurnS.refl _ _
 refine X04 none (fun j=>[14].contains j) mixed ?_;intro w1 hE;have f:=f.bw hE;have i:=i.bw hE;have n:=n.bw hE;have o:=o.bw hE;have b:=b.bw hE;have hW:=tsbel hW hE;refine Yb hf<|Yo 0 rfl (fun _=>X3 rfl)<|Yo 1 rfl (fun _=>X08 rfl)<|Yo 2 rfl (fun _=>Vd rfl X2c 6)<|Ye 3 rfl (X0 rfl X4w (f.at 6))<|Yo 4 rfl (fun _=>X3 rfl)<|Yo 5 rfl (fun _=>X3 rfl)<|Yo 6 rfl (fun _=>X08 rfl)<|Yo 7 rfl (fun _=>Vd rfl X2c 6)<|Ye 8 rfl (X0 rfl X4w (f.at 6))<|Yo 9 rfl (fun _=>X3 rfl) ?_;refine Yo 10 rfl (fun _=>Xx (k:=q.toNat) rfl rfl X40 X6a b a6 (by omega) (by omega))<|Ye 11 rfl (X0 rfl X6q (X0x b X2a (Xg (d:=false) (by omega)) 0 rfl))<|Yo 12 rfl (fun _=>X0w rfl)<|Yo 13 rfl (fun _=>Xx (k:=q.toNat) rfl rfl X40 X6a b a6 (by omega) (by omega))<|Y1 14 ?_;refine Yh rfl tv0 rfl (X11 (enc:=encB) (l:=x.hd) (vs:=[.bool (!(x.hd.getD q.toNat false))]) (x0:=(x.hd.getD q.toNat false)) (u:=!(x.hd.getD q.toNat false)) (k:=q.toNat) (j:=0) (n1:=1) rfl rfl X6a b X2a rfl rfl rfl rfl (by decide) (Xg (d:=false) (by omega)) rfl) ?_;rintro _ w2 ⟨p,hg⟩;have g:=b;have f:=f.appT g hg rfl;have i:=i.appT g hg rfl;have n:=n.appT g hg rfl;have o:=o.appT g hg rfl;have hW:=tsrow hW hg aD
 clear g hg;clear b;have b:=p;clear p;refine Yd fun a hf=>?_;refine X28 hf (X3g rfl) ?_;exact ⟨A0,c0,BW,eW,m0,hW,aB,aC,⟨f,i,n,o,b,a8,aA,(a6.trans List.length_set.symm)⟩⟩
theorem Xs5(w0:World)(bV B0:Nat)(A0:Option Addr)(c0:Nat)(BW:Option Addr)(eW:Nat)(A1:Option Addr)(c1:Nat)(A2:Option Addr)(c2 m0 n0:Nat)(x:Br)(aH:Drq w0 bV B0 A0 c0 BW eW A1 c1 A2 c2 m0 n0 x)(aB:B0<=w0.heap.size)(k:Int)(p:Int)(q:Int)(hq:0<=q/\q.toNat<n0)(aQ:x.d.ns.length<=100000000/\x.d.ws.length<=100000000) : Ret Tryz.prog 137 [(pZ9 bV),vi k,vi p,vi q] w0 (fun v w=>∃ A c B e m,TurnS (SB bV [A0,BW,A1,A2]) w0 w/\Us (SB bV [A0,BW,A1,A2]) w0 A/\Us (SB bV [A0,BW,A1,A2]) w0 B/\Drq w bV B0 A c B e A1 c1 A2 c2 m n0 (nodB x k p q)):=by
 obtain ⟨b,I,C,g,i,aI,a6,a7⟩:=aH;have aO:=b.lt
 subst aI
 have aC:Us (SB bV [A0,BW,A1,A2]) w0 A0:=SB.us (by simp)
 have aR:Us (SB bV [A0,BW,A1,A2]) w0 BW:=SB.us (by simp)
 have aJ:Us (SB bV [A0,BW,A1,A2]) w0 A1:=SB.us (by simp)
 have aK:Us (SB bV [A0,BW,A1,A2]) w0 A2:=SB.us (by simp)
 have aS:(x.d.ns++[(⟨k,p⟩ : Nd)]).length=x.d.ns.length+1:=by simp
 refine enter Tryz.func137 rfl 68 rfl rfl ?_;intro a L
 have D:TurnS (SB bV [A0,BW,A1,A2]) w0 w0:=TurnS.refl _ _
 refine Zs L fun _ aL=>?_;refine Zm rfl<|Zm rfl<|Ze (X08 rfl)<|Ze (Vd rfl X0m 0)<|Ze (Vd rfl Xf 1)<|Ze (X0 rfl Xz (b.at 1))<|Zm rfl<|Zm rfl<|Ze (X0s (ps:=[(0,vi k),(1,vi p)]) (cs:=[vi k,vi p]) rfl (fun _=>by first|rfl|kernel_rfl))<|Zf (Xn (k:=1) (vs:=[.agg #[vi k,vi p]]) (zs:=[vi k,vi p]) rfl Xm X1x rfl rfl) ?_;rintro _ w1 ⟨b6,rfl,aD,E,a8⟩;have aP:=Q0 D.size aD;have M:=I.away aD;have b:=b.bw E;have I:=I.bw E;have C:=C.bw E;have g:=g.bw E;have i:=i.bw E;have D:=tsbel D E;refine Zf (X0t (enc:=encNd) (l:=(x.d.ns)) (l2:=([(⟨k,p⟩ : Nd)])) (B0:=B0) rfl rfl Xm X1x Xv X33 I (Rd.of_blk a8 rfl _ a8.lt) (by simp only [maxLen];simp;omega) (by simp;omega) (Q0 aB D.size)) ?_;rintro _ w2 ⟨A8,c8,rfl,h,G,aA⟩
 have f:Own _ B0 81 2 encNd _ _ (x.d.ns):=I
 have aG:=aA _ a8.lt M;have aM:=Us.app aC aA D.size;clear aA;have b:=b.appT f G rfl;have C:=C.appT f G rfl;have g:=g.appT f G rfl;have i:=i.appT f G rfl;have D:=tsrow D G aC;clear f G;refine Ze (X08 rfl)<|Ze (Vd rfl X0m 0)<|Ze (Vd rfl Xf 1)<|Zo (X15 (vs:=[.slice A8 (x.d.ns++([(⟨k,p⟩ : Nd)])).length c8]) (l':=[vi x.d.n,.slice A8 (x.d.ns++([(⟨k,p⟩ : Nd)])).length c8,.slice BW x.d.ws.length eW,vi x.d.t,vi x.d.r,.slice A1 n0 c1,.slice A2 n0 c2]) rfl rfl X4m b rfl rfl rfl rfl rfl) ?_;rintro _ w3 ⟨J,hb⟩;have y:=b;have C:=C.oT J y rfl;have g:=g.oT J y rfl;have i:=i.oT J y rfl;have h:=h.oT J y rfl;have D:=tsonly D J (.inl (.inl rfl));have b:=hb;refine Zx aL fun a L _ aN=>?_;refine Zm rfl<|Ze (X08 rfl)<|Ze (Vd rfl X0m 0)<|Ze (Vd rfl Xf 1)<|Ze (X0 rfl Xz (b.at 1))<|Ze (X09 rfl Xm)<|Ze (Vx (X1h rfl rfl (by omega) (by omega)) (show _=(x.d.ns.length:Int) from (by omega)))<|Za rfl<|ZX aN fun a L _ aE=>?_;refine X04 none (fun j=>[25].contains j) mixed ?_;intro w4 E;have b:=b.bw E;have C:=C.bw E;have g:=g.bw E;have i:=i.bw E;have h:=h.bw E;have D:=tsbel D E;refine Yb L<|Yo 0 rfl (fun _=>X3 rfl)<|Yo 1 rfl (fun _=>X3 rfl)<|Yo 2 rfl (fun _=>X08 rfl)<|Yo 3 rfl (fun _=>Vd rfl X0m 0)<|Yo 4 rfl (fun _=>Vd rfl Xl 2)<|Ye 5 rfl (X0 rfl X0d (b.at 2))<|Yo 6 rfl (fun _=>X3 rfl)<|Yo 7 rfl (fun _=>X08 rfl)<|Yo 8 rfl (fun _=>Vd rfl X20 5)<|Ye 9 rfl (X0 rfl X54 (b.at 5)) ?_;refine Yo 10 rfl (fun _=>X3 rfl)<|Yo 11 rfl (fun _=>Xx (k:=q.toNat) rfl rfl Xj X0b g a6 (by omega) (by omega))<|Ye 12 rfl (X0 rfl X9 (X0x g Xd (Xg (d:=(0:Int)) (by omega)) 0 rfl))<|Yo 13 rfl (fun _=>X3 rfl)<|Yo 14 rfl (fun _=>X3 rfl)<|Yo 15 rfl (fun _=>X08 rfl)<|Yo 16 rfl (fun _=>Vd rfl X2c 6)<|Ye 17 rfl (X0 rfl X4w (b.at 6))<|Yo 18 rfl (fun _=>X3 rfl)<|Yo 19 rfl (fun _=>Xx (k:=q.toNat) rfl rfl X40 X6a i a7 (by omega) (by omega)) ?_
 refine Ye 20 rfl (X0 rfl X6q (X0x i X2a (Xg (d:=false) (by omega)) 0 rfl))<|Y1 21 ?_;refine Yk rfl tv0 (Vc (X94 _ BW eW x.d.ws C.rd.top (x.la.getD q.toNat 0) (x.d.ns.length:Int) (x.hd.getD q.toNat false) (by omega) C.cap) X4q) (fun _ _ ⟨N,Q,_,o,E⟩=>E) ?_;rintro _ w5 ⟨N,Q,rfl,o,E⟩;have o:=o.lower D.size;have b:=b.bw E;have g:=g.bw E;have i:=i.bw E;have h:=h.bw E;have D:=tsbel D E;refine Yo 22 rfl (fun _=>X08 rfl)<|Yo 23 rfl (fun _=>Vd rfl X0m 0)<|Yo 24 rfl (fun _=>Vd rfl Xl 2)<|Y1 25 ?_;refine Yh rfl tv0 rfl (X15 (vs:=[.slice N (jnW x.d.ws (x.la.getD q.toNat 0) (x.d.ns.length:Int) (x.hd.getD q.toNat false)).length Q]) (l':=[vi x.d.n,.slice A8 (x.d.ns++([(⟨k,p⟩ : Nd)])).length c8,.slice N (jnW x.d.ws (x.la.getD q.toNat 0) (x.d.ns.length:Int) (x.hd.getD q.toNat false)).length Q,vi x.d.t,vi x.d.r,.slice A1 n0 c1,.slice A2 n0 c2]) rfl rfl X1f b rfl rfl rfl rfl rfl) ?_;rintro _ w6 ⟨J,hb⟩;have y:=b;have g:=g.oT J y rfl;have i:=i.oT J y rfl;have h:=h.oT J y rfl;have o:=o.oT J y rfl;have D:=tsonly D J (.inl (.inl rfl));have b:=hb;refine Yd fun a L=>?_;refine aE _ _<|Zs L fun _ aF=>?_;refine Zm rfl<|Ze (X08 rfl)<|Ze (Vd rfl X20 5)<|Ze (X0 rfl X54 (b.at 5))<|Zm rfl<|Zm rfl<|Ze (Xx (k:=q.toNat) rfl rfl Xj X0b g a6 (by omega) (by omega))<|Zo (X11 (enc:=encI) (l:=x.la) (vs:=[vi (x.d.ns.length:Int)]) (x0:=(x.la.getD q.toNat 0)) (u:=(x.d.ns.length:Int)) (k:=q.toNat) (j:=0) (n1:=1) rfl rfl X0b g Xd rfl rfl rfl rfl (by decide) (Xg (d:=(0:Int)) (by omega)) rfl) ?_;rintro _ w7 ⟨H,G⟩;have f:=g;have b:=b.appT f G rfl;have i:=i.appT f G rfl
 have h:=h.appT f G rfl;have o:=o.appT f G rfl;have D:=tsrow D G aJ
 clear f G;clear g;have g:=H;clear H;refine Zt aF fun a L=>?_;refine Zr L<|Zm rfl<|Ze (X08 rfl)<|Ze (Vd rfl X2c 6)<|Ze (X0 rfl X4w (b.at 6))<|Zm rfl<|Ze (Xx (k:=q.toNat) rfl rfl X40 X6a i a7 (by omega) (by omega))<|Zo (X11 (enc:=encB) (l:=x.hd) (vs:=[.bool false]) (x0:=(x.hd.getD q.toNat false)) (u:=false) (k:=q.toNat) (j:=0) (n1:=1) rfl rfl X6a i X2a rfl rfl rfl rfl (by decide) (Xg (d:=false) (by omega)) rfl) ?_;rintro _ w8 ⟨H,G⟩;have f:=i;have b:=b.appT f G rfl;have h:=h.appT f G rfl;have o:=o.appT f G rfl;have g:=g.appT f G rfl;have D:=tsrow D G aK
 clear f G;clear i;have i:=H;clear H;refine Zn fun a L=>?_;refine X28 L (X3g rfl) ?_;exact ⟨A8,c8,N,Q,((x.d.ns++([(⟨k,p⟩ : Nd)])).length),D,aM,(Us.new o),⟨b,h,(o.lower aB),g,i,rfl,(a6.trans List.length_set.symm),(a7.trans List.length_set.symm)⟩⟩
theorem Xnf(w0:World)(bV B0:Nat)(A0:Option Addr)(c0:Nat)(BW:Option Addr)(eW:Nat)(A1:Option Addr)(c1:Nat)(A2:Option Addr)(c2 m0 n0:Nat)(x:Br)(aN:Drq w0 bV B0 A0 c0 BW eW A1 c1 A2 c2 m0 n0 x)(aO:B0<=w0.heap.size)(q:Int)(hq:0<=q/\q.toNat<n0)(aP:BrOk n0 x)(b0:x.d.ns.length<=90000000/\x.d.ws.length<=90000000) : Ret Tryz.prog 223 [(pZ9 bV),vi q] w0 (fun v w=>∃ A c B e m,v=vi ((plcB x q).la.getD q.toNat 0)/\TurnS (SB bV [A0,BW,A1,A2]) w0 w/\Us (SB bV [A0,BW,A1,A2]) w0 A/\Us (SB bV [A0,BW,A1,A2]) w0 B/\Drq w bV B0 A c B e A1 c1 A2 c2 m n0 (plcB x q)):=by
 obtain ⟨f,n,C,g,i,a6,D,a7⟩:=aN;have aZ:=f.lt
 have aC:Us (SB bV [A0,BW,A1,A2]) w0 A0:=SB.us (by simp)
 have aD:Us (SB bV [A0,BW,A1,A2]) w0 BW:=SB.us (by simp)
 have aQ:Us (SB bV [A0,BW,A1,A2]) w0 A1:=SB.us (by simp)
 have aR:Us (SB bV [A0,BW,A1,A2]) w0 A2:=SB.us (by simp)
 have b1:=aP.at hq;refine enter Tryz.func223 rfl 40 rfl rfl ?_;intro a j
 have u:TurnS (SB bV [A0,BW,A1,A2]) w0 w0:=TurnS.refl _ _
 refine Zs j fun _ aS=>?_;refine Za rfl<|ZX aS fun a j _ aE=>?_;refine Q5 fun _ aT=>?_;refine X0a (fun a w=>Fr a 40 [(0,(pZ9 bV)),(1,vi q),(29,.bool ((x.hd.getD q.toNat false)||(((x.d.ns.getD (x.la.getD q.toNat 0).toNat nZ).k) != 3)))]/\Below w0.heap.size w0 w) ?_ ?_
 ·have E:=bz w0
  refine X04 none (fun _=>false) mixed ?_;intro w1 t;have f:=f.bw t;have n:=n.bw t;have g:=g.bw t;have i:=i.bw t;have u:=tsbel u t;have E:=btr E t;refine Yb j<|Yo 0 rfl (fun _=>X3 rfl)<|Yo 1 rfl (fun _=>X08 rfl)<|Yo 2 rfl (fun _=>Vd rfl X2c 6)<|Ye 3 rfl (X0 rfl X4w (f.at 6))<|Yo 4 rfl (fun _=>X3 rfl)<|Yo 5 rfl (fun _=>Xx (k:=q.toNat) rfl rfl X40 X6a i a7 (by omega) (by omega))<|Ye 6 rfl (X0 rfl X6q (X0x i X2a (Xg (d:=false) (by omega)) 0 rfl))<|Yo 7 rfl (fun _=>X3 rfl) ?_
  refine Yl 12 rfl (fun b=>?_) (fun b=>?_)
  ·refine Yp 8 rfl (gP b) ?_;refine Yp 9 rfl (gP b) ?_;refine Yp 10 rfl (gP b) ?_;refine Yp 11 rfl (gP b) ?_;refine Yp 12 rfl (gP b) ?_;refine Yp 13 rfl (gP b) ?_;refine Yp 14 rfl (gP b) ?_;refine Yp 15 rfl (gP b) ?_;refine Yp 16 rfl (gP b) ?_;refine Yp 17 rfl (gP b) ?_;refine Yp 18 rfl (gP b) ?_;refine Yp 19 rfl (gP b) ?_;refine Yp 20 rfl (gP b) ?_;refine Yp 21 rfl (gP b) ?_;refine Yp 22 rfl (gP b) ?_;refine Yp 23 rfl (gP b) ?_;refine Yo 24 rfl (fun _=>X5 rfl b rfl) ?_;refine Yd fun a j=>?_
   have a8:Below w0.heap.size w0 w1:=E
   exact ⟨j.sub ⟨rfl,rfl,X1 rfl (by first|rfl|(simp only [b,bs];done)|simp [b]),trivial⟩,a8⟩
  refine Yu 8 rfl (gW b) (fun _=>X3 rfl) ?_;refine Yu 9 rfl (gW b) (fun _=>X08 rfl) ?_;refine Yu 10 rfl (gW b) (fun _=>Vd rfl X0m 0) ?_;refine Yu 11 rfl (gW b) (fun _=>Vd rfl Xf 1) ?_;refine Yv 12 rfl (gW b) (X0 rfl Xz (f.at 1)) ?_;refine Yu 13 rfl (gW b) (fun _=>X3 rfl) ?_;refine Yu 14 rfl (gW b) (fun _=>X08 rfl) ?_;refine Yu 15 rfl (gW b) (fun _=>Vd rfl X20 5) ?_;refine Yv 16 rfl (gW b) (X0 rfl X54 (f.at 5)) ?_;refine Yu 17 rfl (gW b) (fun _=>X3 rfl) ?_;refine Yu 18 rfl (gW b) (fun _=>Xx (k:=q.toNat) rfl rfl Xj X0b g D (by omega) (by omega)) ?_;refine Yv 19 rfl (gW b) (X0 rfl X9 (X0x g Xd (Xg (d:=(0:Int)) (by omega)) 0 rfl)) ?_;refine Yu 20 rfl (gW b) (fun _=>Xx (k:=(x.la.getD q.toNat 0).toNat) rfl rfl Xm X06 n a6 (by omega) (by omega)) ?_;refine Yu 21 rfl (gW b) (fun _=>X0y rfl X12 (m':=(x.la.getD q.toNat 0).toNat*2+0) rfl) ?_;refine Yv 22 rfl (gW b) (X0 rfl X9 (X0x n Xv (Xg (d:=nZ) (by omega)) 0 rfl)) ?_;refine Yu 23 rfl (gW b) (fun _=>X1e rfl rfl) ?_;refine Yo 24 rfl (fun _=>Xb rfl b rfl) ?_;refine Yd fun a j=>?_
  have a8:Below w0.heap.size w0 w1:=E
  exact ⟨j.sub ⟨rfl,rfl,X1 rfl (by first|rfl|(simp only [b,bs];done)|simp [b]),trivial⟩,a8⟩
 rintro a w2 ⟨j,t⟩;have f:=f.bw t;have n:=n.bw t;have C:=C.bw t;have g:=g.bw t;have i:=i.bw t;have u:=tsbel u t;refine aT _ _ ?_
 refine Xi j rfl (fun y=>?_) (fun y=>?_)
 ·have aF:=y;have aA:=Xzi y;refine Zr j<|Zm rfl<|Zm rfl<|Zf (X1k (vs:=[(pZ9 bV),vi 3,vi 0,vi q]) rfl Xhi (Xs5 _ bV B0 A0 c0 BW eW A1 c1 A2 c2 m0 n0 x ⟨f,n,C,g,i,a6,D,a7⟩ (Q0 aO u.size) 3 0 q hq (by omega))) ?_;rintro _ w3 ⟨aU,aV,aW,aX,aY,aG,o,p,aH,aI,aJ,H,I,aK,h,aB⟩;have G:=SB.lift (S:=SB bV [A0,BW,A1,A2]) (w0:=w0) (.inl (.inl rfl)) (alc aC (alc aD (alc aQ (alc aR al0))));have o:=Us.trans o G u.size;have p:=Us.trans p G u.size
  have u:=tstr u aG G;clear G
  clear aG f;have f:=aH;clear aH
  clear g;have g:=H;clear H
  clear i;have i:=I;clear I;refine Zx aE fun a j _ aL=>?_;refine Zm rfl<|Ze (X08 rfl)<|Ze (Vd rfl X20 5)<|Ze (X0 rfl X54 (f.at 5))<|Zm rfl<|Ze (Xx (k:=q.toNat) rfl rfl Xj X0b g h (by omega) (by omega))<|Ze (X0 rfl X9 (X0x g Xd (Xg (d:=(0:Int)) (by omega)) 0 rfl))<|Za rfl<|Zt aL fun a j=>?_
  refine Q6 (X6 j (Xp j rfl rfl) ?_)
  rw [aA]
  exact ⟨aU,aV,aW,aX,aY,rfl,u,o,p,⟨f,aI,aJ,g,i,aK,h,aB⟩⟩
 have aF:=y;have aA:=Xzj y;refine Q7<|aE _ _<|Zs j fun _ aM=>?_;refine Zm rfl<|Ze (X08 rfl)<|Ze (Vd rfl X20 5)<|Ze (X0 rfl X54 (f.at 5))<|Zm rfl<|Ze (Xx (k:=q.toNat) rfl rfl Xj X0b g D (by omega) (by omega))<|Ze (X0 rfl X9 (X0x g Xd (Xg (d:=(0:Int)) (by omega)) 0 rfl))<|Za rfl<|Zt aM fun a j=>?_
 refine Q6 (X6 j (Xp j rfl rfl) ?_)
 rw [aA]
 exact ⟨A0,c0,BW,eW,m0,rfl,u,aC,aD,⟨f,n,C,g,i,a6,D,a7⟩⟩
theorem Xf6(w0:World)(bV B0:Nat)(A0:Option Addr)(c0:Nat)(BW:Option Addr)(eW:Nat)(A1:Option Addr)(c1:Nat)(A2:Option Addr)(c2 m0 n0:Nat)(x:Br)(aD:Drq w0 bV B0 A0 c0 BW eW A1 c1 A2 c2 m0 n0 x)(aE:B0<=w0.heap.size)(q:Int)(f:Int)(hq:0<=q/\q.toNat<n0)(a7:BrOk n0 x)(aQ:x.d.ns.length<=80000000/\x.d.ws.length<=80000000)(aR:0<=f/\f<=900) : Ret Tryz.prog 189 [(pZ9 bV),vi q,vi f] w0 (fun v w=>∃ A c B e m,TurnS (SB bV [A0,BW,A1,A2]) w0 w/\Us (SB bV [A0,BW,A1,A2]) w0 A/\Us (SB bV [A0,BW,A1,A2]) w0 B/\Drq w bV B0 A c B e A1 c1 A2 c2 m n0 (trnB x q f)):=by
 obtain ⟨b,aF,aG,i,n,aH,aI,aJ⟩:=aD;have aP:=b.lt
 have aK:Us (SB bV [A0,BW,A1,A2]) w0 A0:=SB.us (by simp)
 have aL:Us (SB bV [A0,BW,A1,A2]) w0 BW:=SB.us (by simp)
 have aM:Us (SB bV [A0,BW,A1,A2]) w0 A1:=SB.us (by simp)
 have aN:Us (SB bV [A0,BW,A1,A2]) w0 A2:=SB.us (by simp)
 have E:=X45 a7 q;have aS:=E.at hq;have aT:=X4r x q;have aU:=X1l E.p ((plcB x q).la.getD q.toNat 0).toNat;refine enter Tryz.func189 rfl 30 rfl rfl ?_;intro a hf
 have C:TurnS (SB bV [A0,BW,A1,A2]) w0 w0:=TurnS.refl _ _
 refine Zs hf fun _ aO=>?_;refine Zm rfl<|Zm rfl<|Zf (X1k (vs:=[(pZ9 bV),vi q]) rfl Xar (Xnf _ bV B0 A0 c0 BW eW A1 c1 A2 c2 m0 n0 x ⟨b,aF,aG,i,n,aH,aI,aJ⟩ (Q0 aE C.size) q hq a7 (by omega))) ?_;rintro _ w1 ⟨A6,c6,A7,c7,m6,rfl,a8,t,y,aA,g,h,G,H,a6,aB,aC⟩;have D:=SB.lift (S:=SB bV [A0,BW,A1,A2]) (w0:=w0) (.inl (.inl rfl)) (alc aK (alc aL (alc aM (alc aN al0))));have t:=Us.trans t D C.size;have y:=Us.trans y D C.size
 have C:=tstr C a8 D;clear D
 clear a8 b;have b:=aA;clear aA
 clear i;have i:=G;clear G
 clear n;have n:=H;clear H;refine Za rfl<|Zt aO fun a hf=>?_;refine X04 none (fun j=>[20].contains j) mixed ?_;intro w2 hE;have b:=b.bw hE;have i:=i.bw hE;have n:=n.bw hE;have g:=g.bw hE;have h:=h.bw hE;have C:=tsbel C hE;refine Yb hf<|Yo 0 rfl (fun _=>X3 rfl)<|Yo 1 rfl (fun _=>X08 rfl)<|Yo 2 rfl (fun _=>Vd rfl X0m 0)<|Yo 3 rfl (fun _=>Vd rfl Xf 1)<|Ye 4 rfl (X0 rfl Xz (b.at 1))<|Yo 5 rfl (fun _=>X3 rfl)<|Yo 6 rfl (fun _=>X3 rfl)<|Yo 7 rfl (fun _=>X08 rfl)<|Yo 8 rfl (fun _=>Vd rfl X0m 0)<|Yo 9 rfl (fun _=>Vd rfl Xf 1) ?_;refine Ye 10 rfl (X0 rfl Xz (b.at 1))<|Yo 11 rfl (fun _=>X3 rfl)<|Yo 12 rfl (fun _=>Xx (k:=((plcB x q).la.getD q.toNat 0).toNat) rfl rfl Xm X06 g a6 (by omega) (by omega))<|Yo 13 rfl (fun _=>X0y rfl X07 (m':=((plcB x q).la.getD q.toNat 0).toNat*2+1) rfl)<|Ye 14 rfl (X0 rfl X9 (X0x g Xv (Xg (d:=nZ) (by omega)) 1 rfl))<|Yo 15 rfl (fun _=>X3 rfl)<|Yo 16 rfl (fun _=>Xs rfl rfl (by omega) (by omega))<|Yo 17 rfl (fun _=>Vx (X3k rfl rfl rfl) (tm8 (by omega)))<|Yo 18 rfl (fun _=>Xx (k:=((plcB x q).la.getD q.toNat 0).toNat) rfl rfl Xm X06 g a6 (by omega) (by omega))<|Yo 19 rfl (fun _=>X0y rfl X07 (m':=((plcB x q).la.getD q.toNat 0).toNat*2+1) rfl) ?_;refine Y1 20<|Yh rfl tv0 rfl (X11 (enc:=encNd) (l:=(plcB x q).d.ns) (vs:=[vi ((((plcB x q).d.ns.getD ((plcB x q).la.getD q.toNat 0).toNat nZ).p+f) % 8)]) (x0:=((plcB x q).d.ns.getD ((plcB x q).la.getD q.toNat 0).toNat nZ)) (u:=(⟨((plcB x q).d.ns.getD ((plcB x q).la.getD q.toNat 0).toNat nZ).k,((((plcB x q).d.ns.getD ((plcB x q).la.getD q.toNat 0).toNat nZ).p+f) % 8)⟩ : Nd)) (k:=((plcB x q).la.getD q.toNat 0).toNat) (j:=1) (n1:=1) rfl rfl X0b g Xv rfl rfl rfl rfl (by decide) (Xg (d:=nZ) (by omega)) rfl) ?_;rintro _ w3 ⟨I,hg⟩
 have o:=g;have b:=b.appT o hg rfl;have i:=i.appT o hg rfl;have n:=n.appT o hg rfl;have h:=h.appT o hg rfl;have C:=tsrow C hg t
 clear o hg;clear g;have g:=I;clear I;refine Yd fun a hf=>?_;refine X28 hf (X3g rfl) ?_;exact ⟨A6,c6,A7,c7,m6,C,t,y,⟨b,g,h,i,n,(a6.trans List.length_set.symm),aB,aC⟩⟩
theorem Xrv(w0:World)(bV B0:Nat)(A0:Option Addr)(c0:Nat)(BW:Option Addr)(eW:Nat)(A1:Option Addr)(c1:Nat)(A2:Option Addr)(c2 m0 J:Nat)(x:Br)(aW:Drq w0 bV B0 A0 c0 BW eW A1 c1 A2 c2 m0 J x)(a6:B0<=w0.heap.size)(p:Int)(q:Int)(hp:0<=p/\p.toNat<J)(hq:0<=q/\q.toNat<J)(aJ:BrOk J x)(bD:x.d.ns.length<=80000000/\x.d.ws.length<=80000000) : Ret Tryz.prog 190 [(pZ9 bV),vi p,vi q] w0 (fun v w=>∃ A c B e m,TurnS (SB bV [A0,BW,A1,A2]) w0 w/\Us (SB bV [A0,BW,A1,A2]) w0 A/\Us (SB bV [A0,BW,A1,A2]) w0 B/\Drq w bV B0 A c B e A1 c1 A2 c2 m J (czB x p q)):=by
 obtain ⟨b,aX,aY,g,i,aZ,b0,b1⟩:=aW;have b9:=b.lt
 have b2:Us (SB bV [A0,BW,A1,A2]) w0 A0:=SB.us (by simp)
 have b3:Us (SB bV [A0,BW,A1,A2]) w0 BW:=SB.us (by simp)
 have aK:Us (SB bV [A0,BW,A1,A2]) w0 A1:=SB.us (by simp)
 have aL:Us (SB bV [A0,BW,A1,A2]) w0 A2:=SB.us (by simp)
 have aC:=X45 aJ p;have bA:=X4r x p;have bB:=X45 aC q;have bC:=X4r (plcB x p) q;have aM:=Xaf (plcB (plcB x p) q).d.ws ((plcB x p).la.getD p.toNat 0) ((plcB (plcB x p) q).la.getD q.toNat 0);refine enter Tryz.func190 rfl 66 rfl rfl ?_;intro a I
 have o:TurnS (SB bV [A0,BW,A1,A2]) w0 w0:=TurnS.refl _ _
 refine Zs I fun _ b4=>?_;refine Zm rfl<|Zm rfl<|Zf (X1k (vs:=[(pZ9 bV),vi p]) rfl Xar (Xnf _ bV B0 A0 c0 BW eW A1 c1 A2 c2 m0 J x ⟨b,aX,aY,g,i,aZ,b0,b1⟩ (Q0 a6 o.size) p hp aJ (by omega))) ?_;rintro _ w1 ⟨A6,c6,A7,c7,m6,rfl,M,N,Q,U,b5,b6,G,H,b7,aN,aO⟩;have D:=SB.lift (S:=SB bV [A0,BW,A1,A2]) (w0:=w0) (.inl (.inl rfl)) (alc b2 (alc b3 (alc aK (alc aL al0))));have N:=Us.trans N D o.size;have Q:=Us.trans Q D o.size
 have o:=tstr o M D;clear D
 clear M b;have b:=U;clear U
 clear g;have g:=G;clear G
 clear i;have i:=H;clear H;refine Za rfl<|Zx b4 fun a I _ b8=>?_;refine Zm rfl<|Zm rfl<|Zf (X1k (vs:=[(pZ9 bV),vi q]) rfl Xar (Xnf _ bV B0 A6 c6 A7 c7 A1 c1 A2 c2 m6 J (plcB x p) ⟨b,b5,b6,g,i,b7,aN,aO⟩ (Q0 a6 o.size) q hq aC (by omega))) ?_;rintro _ w2 ⟨A9,c9,aF,aG,m9,rfl,M,L,W,U,j,h,G,H,aP,aD,aE⟩;have D:=SB.lift (S:=SB bV [A0,BW,A1,A2]) (w0:=w0) (.inl (.inl rfl)) (alc N (alc Q (alc aK (alc aL al0))));have L:=Us.trans L D o.size;have W:=Us.trans W D o.size
 have o:=tstr o M D;clear D
 clear M b;have b:=U;clear U
 clear g;have g:=G;clear G
 clear i;have i:=H;clear H;refine Za rfl<|ZX b8 fun a I _ aQ=>?_;refine Zs I fun _ aR=>?_;refine Zm rfl<|Ze (X08 rfl)<|Ze (Vd rfl X0m 0)<|Ze (Vd rfl Xl 2)<|Ze (X0 rfl X0d (b.at 2))<|Zm rfl<|Zm rfl<|Zf (Vc (Xd0 _ aF aG ((plcB (plcB x p) q).d.ws) h.rd.top ((plcB x p).la.getD p.toNat 0) ((plcB (plcB x p) q).la.getD q.toNat 0) (by omega)) X6x) ?_;rintro _ w3 ⟨rfl,E⟩;have b:=b.bw E;have g:=g.bw E;have i:=i.bw E;have j:=j.bw E;have h:=h.bw E;have o:=tsbel o E;refine Za rfl<|Zx aR fun a I _ aS=>?_;refine Zm rfl<|Ze (X5h rfl rfl)<|Zt aS fun a I=>?_
 refine Xi I rfl (fun k=>?_) (fun k=>?_)
 ·have aH:=k;have k:=Q2 k;have aI:=Y3g k;refine Zs I fun _ aT=>?_;refine Zm rfl<|Zm rfl<|Ze (X08 rfl)<|Ze (Vd rfl X0m 0)<|Ze (Vd rfl Xl 2)<|Ze (X0 rfl X0d (b.at 2))<|Zm rfl<|Zf (Vc (Xfe _ aF aG ((plcB (plcB x p) q).d.ws) h.rd.top (fdW ((plcB (plcB x p) q).d.ws) ((plcB x p).la.getD p.toNat 0) ((plcB (plcB x p) q).la.getD q.toNat 0)) (by omega) h.cap ⟨by omega,aM⟩) X86) ?_;rintro _ w4 ⟨a7,a8,rfl,u,E⟩;have u:=u.lower o.size;have b:=b.bw E;have g:=g.bw E;have i:=i.bw E;have j:=j.bw E;have o:=tsbel o E;refine Ze (X08 rfl)<|Ze (Vd rfl X0m 0)<|Ze (Vd rfl Xl 2)<|Zo (X15 (vs:=[.slice a7 (ctW ((plcB (plcB x p) q).d.ws) (fdW ((plcB (plcB x p) q).d.ws) ((plcB x p).la.getD p.toNat 0) ((plcB (plcB x p) q).la.getD q.toNat 0)).toNat).length a8]) (l':=[vi ((plcB (plcB x p) q).d.n),.slice A9 m9 c9,.slice a7 (ctW ((plcB (plcB x p) q).d.ws) (fdW ((plcB (plcB x p) q).d.ws) ((plcB x p).la.getD p.toNat 0) ((plcB (plcB x p) q).la.getD q.toNat 0)).toNat).length a8,vi ((plcB (plcB x p) q).d.t),vi ((plcB (plcB x p) q).d.r),.slice A1 J c1,.slice A2 J c2]) rfl rfl X1f b rfl rfl rfl rfl rfl) ?_;rintro _ w5 ⟨C,hb⟩;have f:=b;have g:=g.oT C f rfl;have i:=i.oT C f rfl;have j:=j.oT C f rfl;have u:=u.oT C f rfl;have o:=tsonly o C (.inl (.inl rfl));have b:=hb;refine Zx aT fun a I _ aU=>?_;refine Zm rfl<|Ze (X08 rfl)<|Ze (Vd rfl X0m 0)<|Ze (Vd rfl X00 4)<|Ze (X0 rfl X9 (b.at 4))<|Ze (X9m rfl rfl)<|Ze (X08 rfl)<|Ze (Vd rfl X0m 0)<|Ze (Vd rfl X00 4)<|Zo (X15 (vs:=[vi (wr (((plcB (plcB x p) q).d.r)-1))]) (l':=[vi ((plcB (plcB x p) q).d.n),.slice A9 m9 c9,.slice a7 (ctW ((plcB (plcB x p) q).d.ws) (fdW ((plcB (plcB x p) q).d.ws) ((plcB x p).la.getD p.toNat 0) ((plcB (plcB x p) q).la.getD q.toNat 0)).toNat).length a8,vi ((plcB (plcB x p) q).d.t),vi (wr (((plcB (plcB x p) q).d.r)-1)),.slice A1 J c1,.slice A2 J c2]) rfl rfl X0b b rfl rfl rfl rfl rfl) ?_;rintro _ w6 ⟨C,hb⟩
  have f:=b;have g:=g.oT C f rfl;have i:=i.oT C f rfl;have j:=j.oT C f rfl;have u:=u.oT C f rfl;have o:=tsonly o C (.inl (.inl rfl));have b:=hb;refine Zt aU fun a I=>?_;refine Q6<|X8<|X6 I (X3g rfl) ?_
  rw [aI]
  exact ⟨A9,c9,a7,a8,m9,o,L,(Us.new u),⟨b,j,(u.lower a6),g,i,aP,aD,aE⟩⟩
 have aH:=k;have k:=Q1 k;have aI:=Y39 k;refine Q7<|aQ _ _<|Zs I fun _ aV=>?_;refine Zm rfl<|Zm rfl<|Ze (X08 rfl)<|Ze (Vd rfl X0m 0)<|Ze (Vd rfl Xl 2)<|Ze (X0 rfl X0d (b.at 2))<|Zm rfl<|Zm rfl<|Zf (Vc (X94 _ aF aG ((plcB (plcB x p) q).d.ws) h.rd.top ((plcB x p).la.getD p.toNat 0) ((plcB (plcB x p) q).la.getD q.toNat 0) true (by omega) h.cap) X4q) ?_;rintro _ w7 ⟨aA,aB,rfl,y,E⟩;have y:=y.lower o.size;have b:=b.bw E;have g:=g.bw E;have i:=i.bw E;have j:=j.bw E;have o:=tsbel o E;refine Ze (X08 rfl)<|Ze (Vd rfl X0m 0)<|Ze (Vd rfl Xl 2)<|Zo (X15 (vs:=[.slice aA (jnW ((plcB (plcB x p) q).d.ws) ((plcB x p).la.getD p.toNat 0) ((plcB (plcB x p) q).la.getD q.toNat 0) true).length aB]) (l':=[vi ((plcB (plcB x p) q).d.n),.slice A9 m9 c9,.slice aA (jnW ((plcB (plcB x p) q).d.ws) ((plcB x p).la.getD p.toNat 0) ((plcB (plcB x p) q).la.getD q.toNat 0) true).length aB,vi ((plcB (plcB x p) q).d.t),vi ((plcB (plcB x p) q).d.r),.slice A1 J c1,.slice A2 J c2]) rfl rfl X1f b rfl rfl rfl rfl rfl) ?_;rintro _ w8 ⟨C,hb⟩;have f:=b;have g:=g.oT C f rfl;have i:=i.oT C f rfl;have j:=j.oT C f rfl;have y:=y.oT C f rfl;have o:=tsonly o C (.inl (.inl rfl));have b:=hb;refine Zt aV fun a I=>?_;refine Zr I<|Zm rfl<|Ze (X08 rfl)<|Ze (Vd rfl X0m 0)<|Ze (Vd rfl X00 4)<|Ze (X0 rfl X9 (b.at 4))<|Ze (X2z rfl rfl)<|Ze (X08 rfl)<|Ze (Vd rfl X0m 0)<|Ze (Vd rfl X00 4)<|Zo (X15 (vs:=[vi (wr (((plcB (plcB x p) q).d.r)+1))]) (l':=[vi ((plcB (plcB x p) q).d.n),.slice A9 m9 c9,.slice aA (jnW ((plcB (plcB x p) q).d.ws) ((plcB x p).la.getD p.toNat 0) ((plcB (plcB x p) q).la.getD q.toNat 0) true).length aB,vi ((plcB (plcB x p) q).d.t),vi (wr (((plcB (plcB x p) q).d.r)+1)),.slice A1 J c1,.slice A2 J c2]) rfl rfl X0b b rfl rfl rfl rfl rfl) ?_;rintro _ w9 ⟨C,hb⟩
 have f:=b;have g:=g.oT C f rfl;have i:=i.oT C f rfl;have j:=j.oT C f rfl;have y:=y.oT C f rfl;have o:=tsonly o C (.inl (.inl rfl));have b:=hb;refine Zn fun a I=>?_;refine X28 I (X3g rfl) ?_
 rw [aI]
 exact ⟨A9,c9,aA,aB,m9,o,L,(Us.new y),⟨b,j,(y.lower a6),g,i,aP,aD,aE⟩⟩
theorem Y1y(w0:World)(bV B0:Nat)(A0:Option Addr)(c0:Nat)(BW:Option Addr)(eW:Nat)(A1:Option Addr)(c1:Nat)(A2:Option Addr)(c2 m0 n0:Nat)(x:Br)(fB:Drq w0 bV B0 A0 c0 BW eW A1 c1 A2 c2 m0 n0 x)(a8:B0<=w0.heap.size)(g:Gt)(aD:BrOk n0 x)(iI:x.d.ns.length<=70000000/\x.d.ws.length<=70000000)(Q:gOk (n0:Int) g=true) : Ret Tryz.prog 136 [(pZ9 bV),.agg #[vi g.k,vi g.a,vi g.b]] w0 (fun v w=>∃ A c B e m,TurnS (SB bV [A0,BW,A1,A2]) w0 w/\Us (SB bV [A0,BW,A1,A2]) w0 A/\Us (SB bV [A0,BW,A1,A2]) w0 B/\Drq w bV B0 A c B e A1 c1 A2 c2 m n0 (gtB x g)):=by
 obtain ⟨i,G,H,o,p,aE,aA,aB⟩:=fB;have iE:=i.lt
 have aF:Us (SB bV [A0,BW,A1,A2]) w0 A0:=SB.us (by simp)
 have aG:Us (SB bV [A0,BW,A1,A2]) w0 BW:=SB.us (by simp)
 have U:Us (SB bV [A0,BW,A1,A2]) w0 A1:=SB.us (by simp)
 have W:Us (SB bV [A0,BW,A1,A2]) w0 A2:=SB.us (by simp)
 have aC:=Xcx Q;have bJ:=Xdr Q;have iJ:=Xcs Q
 have bE:x.d.ns.length<=80000000/\x.d.ws.length<=80000000:=by omega
 have o1:=X57 aD g.a 4
 have l1:=X70 x g.a 4
 have iF:=aD.la;have iG:=aD.hd;refine enter Tryz.func136 rfl 164 rfl rfl ?_;intro a L
 have D:TurnS (SB bV [A0,BW,A1,A2]) w0 w0:=TurnS.refl _ _
 refine Zs L fun _ fC=>?_;refine Zf (X0l (zs:=[vi g.k,vi g.a,vi g.b]) rfl rfl) ?_;rintro _ w1 ⟨b6,rfl,fE,M,f⟩;have iH:=Q0 D.size fE;have i:=i.bw M;have G:=G.bw M;have H:=H.bw M;have o:=o.bw M;have p:=p.bw M;have D:=tsbel D M;refine Zx fC fun a L _ fF=>?_;refine Ze (Vd rfl X74 0)<|Ze (X0 rfl X9 (f.at 0))<|Zt fF fun a L=>?_;refine Q8<|Zs L fun _ fG=>?_;refine Ze (X0k rfl rfl)<|Za rfl<|Zt fG fun a L=>?_
 refine Xi L rfl (fun bF=>?_) (fun bF=>?_)
 ·have dE:=bF;have a6:=Y5r (x:=x) bF;refine Zr L<|Zm rfl<|Ze (Vd rfl X1d 1)<|Ze (X0 rfl X9 (f.at 1))<|Zf (X1k (vs:=[(pZ9 bV),vi g.a]) rfl X4k (X8y _ bV B0 A0 c0 BW eW A1 c1 A2 c2 m0 n0 x ⟨i,G,H,o,p,aE,aA,aB⟩ (Q0 a8 D.size) g.a aC)) ?_;rintro _ w2 ⟨fH,fI,fJ,fK,fL,E,aN,aO,J,dF,dG,y,C,dH,cB,cC⟩;have f:=f.tu E i rfl (alc (nrow G f rfl) (alc (nrow H f rfl) (alc (nrow o f rfl) (alc (nrow p f rfl) al0))));have q:=SB.lift (S:=SB bV [A0,BW,A1,A2]) (w0:=w0) (.inl (.inl rfl)) (alc aF (alc aG (alc U (alc W al0))));have aN:=Us.trans aN q D.size;have aO:=Us.trans aO q D.size
  have D:=tstr D E q;clear q
  clear E i;have i:=J;clear J
  clear o;have o:=y;clear y
  clear p;have p:=C;clear C;refine Zn fun a L=>?_;refine Xa<|X28 L (X3g rfl) ?_
  rw [a6]
  exact ⟨fH,fI,fJ,fK,fL,D,aN,aO,⟨i,dF,dG,o,p,dH,cB,cC⟩⟩
 have dE:=bF
 have g1:=bF
 refine Zs L fun _ dI=>?_;refine Ze (X0k rfl rfl)<|Za rfl<|Zt dI fun a L=>?_
 refine Xi L rfl (fun aH=>?_) (fun aH=>?_)
 ·have cD:=aH;have a6:=Y4u (x:=x) g1 aH;refine Zs L fun _ dJ=>?_;refine Zm rfl<|Ze (Vd rfl X1d 1)<|Ze (X0 rfl X9 (f.at 1))<|Zf (X1k (vs:=[(pZ9 bV),vi g.a]) rfl X4k (X8y _ bV B0 A0 c0 BW eW A1 c1 A2 c2 m0 n0 x ⟨i,G,H,o,p,aE,aA,aB⟩ (Q0 a8 D.size) g.a aC)) ?_;rintro _ w3 ⟨fM,fN,fO,fP,fQ,E,aP,aQ,J,bL,bM,y,C,dK,cE,cF⟩;have f:=f.tu E i rfl (alc (nrow G f rfl) (alc (nrow H f rfl) (alc (nrow o f rfl) (alc (nrow p f rfl) al0))));have q:=SB.lift (S:=SB bV [A0,BW,A1,A2]) (w0:=w0) (.inl (.inl rfl)) (alc aF (alc aG (alc U (alc W al0))));have aP:=Us.trans aP q D.size;have aQ:=Us.trans aQ q D.size
  have D:=tstr D E q;clear q
  clear E i;have i:=J;clear J
  clear o;have o:=y;clear y
  clear p;have p:=C;clear C;refine Zx dJ fun a L _ dL=>?_;refine Zm rfl<|Ze (Vd rfl X1d 1)<|Ze (X0 rfl X9 (f.at 1))<|Zf (X1k (vs:=[(pZ9 bV),vi g.a,vi 4]) rfl X8f (Xf6 _ bV B0 fM fN fO fP A1 c1 A2 c2 fQ n0 (flpB x g.a) ⟨i,bL,bM,o,p,dK,cE,cF⟩ (Q0 a8 D.size) g.a 4 aC (X24 aD g.a) bE ⟨by decide,by decide⟩)) ?_;rintro _ w4 ⟨fR,fS,fT,fU,fV,E,aR,aS,J,bN,bO,y,C,dM,cG,cH⟩;have f:=f.tu E i rfl (alc (nrow bL f rfl) (alc (nrow bM f rfl) (alc (nrow o f rfl) (alc (nrow p f rfl) al0))));have q:=SB.lift (S:=SB bV [A0,BW,A1,A2]) (w0:=w0) (.inl (.inl rfl)) (alc aP (alc aQ (alc U (alc W al0))));have aR:=Us.trans aR q D.size;have aS:=Us.trans aS q D.size
  have D:=tstr D E q;clear q
  clear E i;have i:=J;clear J
  clear o;have o:=y;clear y
  clear p;have p:=C;clear C;refine Zt dL fun a L=>?_;refine Zr L<|Zm rfl<|Ze (Vd rfl X1d 1)<|Ze (X0 rfl X9 (f.at 1))<|Zf (X1k (vs:=[(pZ9 bV),vi g.a]) rfl X4k (X8y _ bV B0 fR fS fT fU A1 c1 A2 c2 fV n0 (trnB (flpB x g.a) g.a 4) ⟨i,bN,bO,o,p,dM,cG,cH⟩ (Q0 a8 D.size) g.a aC)) ?_;rintro _ w5 ⟨fW,fX,fY,fZ,g5,E,aT,aU,J,dN,dO,y,C,dP,cI,cJ⟩;have f:=f.tu E i rfl (alc (nrow bN f rfl) (alc (nrow bO f rfl) (alc (nrow o f rfl) (alc (nrow p f rfl) al0))));have q:=SB.lift (S:=SB bV [A0,BW,A1,A2]) (w0:=w0) (.inl (.inl rfl)) (alc aR (alc aS (alc U (alc W al0))));have aT:=Us.trans aT q D.size;have aU:=Us.trans aU q D.size
  have D:=tstr D E q;clear q
  clear E i;have i:=J;clear J
  clear o;have o:=y;clear y
  clear p;have p:=C;clear C;refine Zn fun a L=>?_;refine Xa<|X28 L (X3g rfl) ?_
  rw [a6]
  exact ⟨fW,fX,fY,fZ,g5,D,aT,aU,⟨i,dN,dO,o,p,dP,cI,cJ⟩⟩
 have cD:=aH
 have g2:=aH
 refine Zs L fun _ dQ=>?_;refine Ze (X0k rfl rfl)<|Za rfl<|Zt dQ fun a L=>?_
 refine Xi L rfl (fun aI=>?_) (fun aI=>?_)
 ·have cK:=aI;have a6:=Y56 (x:=x) g1 g2 aI;refine Zs L fun _ dR=>?_;refine Zm rfl<|Ze (Vd rfl X1d 1)<|Ze (X0 rfl X9 (f.at 1))<|Zf (X1k (vs:=[(pZ9 bV),vi g.a,vi 4]) rfl X8f (Xf6 _ bV B0 A0 c0 BW eW A1 c1 A2 c2 m0 n0 x ⟨i,G,H,o,p,aE,aA,aB⟩ (Q0 a8 D.size) g.a 4 aC aD bE ⟨by decide,by decide⟩)) ?_;rintro _ w6 ⟨g6,g7,g8,gA,gB,E,aV,aW,J,bP,bQ,y,C,dS,cL,cM⟩;have f:=f.tu E i rfl (alc (nrow G f rfl) (alc (nrow H f rfl) (alc (nrow o f rfl) (alc (nrow p f rfl) al0))));have q:=SB.lift (S:=SB bV [A0,BW,A1,A2]) (w0:=w0) (.inl (.inl rfl)) (alc aF (alc aG (alc U (alc W al0))));have aV:=Us.trans aV q D.size;have aW:=Us.trans aW q D.size
  have D:=tstr D E q;clear q
  clear E i;have i:=J;clear J
  clear o;have o:=y;clear y
  clear p;have p:=C;clear C;refine Zx dR fun a L _ dT=>?_;refine Zm rfl<|Ze (Vd rfl X1d 1)<|Ze (X0 rfl X9 (f.at 1))<|Zf (X1k (vs:=[(pZ9 bV),vi g.a]) rfl X4k (X8y _ bV B0 g6 g7 g8 gA A1 c1 A2 c2 gB n0 (trnB x g.a 4) ⟨i,bP,bQ,o,p,dS,cL,cM⟩ (Q0 a8 D.size) g.a aC)) ?_;rintro _ w7 ⟨gC,gD,gE,gF,gG,E,aX,aY,J,bR,bS,y,C,dU,cN,cO⟩;have f:=f.tu E i rfl (alc (nrow bP f rfl) (alc (nrow bQ f rfl) (alc (nrow o f rfl) (alc (nrow p f rfl) al0))));have q:=SB.lift (S:=SB bV [A0,BW,A1,A2]) (w0:=w0) (.inl (.inl rfl)) (alc aV (alc aW (alc U (alc W al0))));have aX:=Us.trans aX q D.size;have aY:=Us.trans aY q D.size
  have D:=tstr D E q;clear q
  clear E i;have i:=J;clear J
  clear o;have o:=y;clear y
  clear p;have p:=C;clear C;refine Zx dT fun a L _ dW=>?_;refine Zm rfl<|Ze (Vd rfl X1d 1)<|Ze (X0 rfl X9 (f.at 1))<|Zf (X1k (vs:=[(pZ9 bV),vi g.a,vi 4]) rfl X8f (Xf6 _ bV B0 gC gD gE gF A1 c1 A2 c2 gG n0 (flpB (trnB x g.a 4) g.a) ⟨i,bR,bS,o,p,dU,cN,cO⟩ (Q0 a8 D.size) g.a 4 aC (X24 o1 g.a) (show (trnB x g.a 4).d.ns.length<=_/\(trnB x g.a 4).d.ws.length<=_ by omega) ⟨by decide,by decide⟩)) ?_;rintro _ w8 ⟨gH,gI,gJ,gK,gL,E,aZ,b0,J,bT,bU,y,C,dX,cP,cQ⟩;have f:=f.tu E i rfl (alc (nrow bR f rfl) (alc (nrow bS f rfl) (alc (nrow o f rfl) (alc (nrow p f rfl) al0))));have q:=SB.lift (S:=SB bV [A0,BW,A1,A2]) (w0:=w0) (.inl (.inl rfl)) (alc aX (alc aY (alc U (alc W al0))));have aZ:=Us.trans aZ q D.size;have b0:=Us.trans b0 q D.size
  have D:=tstr D E q;clear q
  clear E i;have i:=J;clear J
  clear o;have o:=y;clear y
  clear p;have p:=C;clear C;refine Zx dW fun a L _ dY=>?_;refine Zm rfl<|Ze (Vd rfl X1d 1)<|Ze (X0 rfl X9 (f.at 1))<|Zf (X1k (vs:=[(pZ9 bV),vi g.a]) rfl X4k (X8y _ bV B0 gH gI gJ gK A1 c1 A2 c2 gL n0 (trnB (flpB (trnB x g.a 4) g.a) g.a 4) ⟨i,bT,bU,o,p,dX,cP,cQ⟩ (Q0 a8 D.size) g.a aC)) ?_;rintro _ w9 ⟨eA,eB,eC,eD,eE,E,b1,b2,J,bG,bH,y,C,eF,cR,cS⟩;have f:=f.tu E i rfl (alc (nrow bT f rfl) (alc (nrow bU f rfl) (alc (nrow o f rfl) (alc (nrow p f rfl) al0))));have q:=SB.lift (S:=SB bV [A0,BW,A1,A2]) (w0:=w0) (.inl (.inl rfl)) (alc aZ (alc b0 (alc U (alc W al0))));have b1:=Us.trans b1 q D.size;have b2:=Us.trans b2 q D.size
  have D:=tstr D E q;clear q
  clear E i;have i:=J;clear J
  clear o;have o:=y;clear y
  clear p;have p:=C;clear C;refine Zt dY fun a L=>?_;refine Zr L<|Zm rfl<|Ze (X08 rfl)<|Ze (Vd rfl X0m 0)<|Ze (Vd rfl X0q 3)<|Ze (X0 rfl X9 (i.at 3))<|Ze (X2z rfl rfl)<|Ze (X08 rfl)<|Ze (Vd rfl X0m 0)<|Ze (Vd rfl X0q 3)<|Zo (X15 (vs:=[vi (wr (((flpB (trnB (flpB (trnB x g.a 4) g.a) g.a 4) g.a).d.t)+2))]) (l':=[vi ((flpB (trnB (flpB (trnB x g.a 4) g.a) g.a 4) g.a).d.n),.slice eA eE eB,.slice eC ((flpB (trnB (flpB (trnB x g.a 4) g.a) g.a 4) g.a).d.ws).length eD,vi (wr (((flpB (trnB (flpB (trnB x g.a 4) g.a) g.a 4) g.a).d.t)+2)),vi ((flpB (trnB (flpB (trnB x g.a 4) g.a) g.a 4) g.a).d.r),.slice A1 n0 c1,.slice A2 n0 c2]) rfl rfl X0b i rfl rfl rfl rfl rfl) ?_;rintro _ iK ⟨ho,hb⟩;have a7:=i;have o:=o.oT ho a7 rfl;have p:=p.oT ho a7 rfl;have bG:=bG.oT ho a7 rfl;have bH:=bH.oT ho a7 rfl;have D:=tsonly D ho (.inl (.inl rfl));have i:=hb;refine Zn fun a L=>?_;refine Xa<|X28 L (X3g rfl) ?_
  rw [a6]
  exact ⟨eA,eB,eC,eD,eE,D,b1,b2,⟨i,bG,bH,o,p,eF,cR,cS⟩⟩
 have cK:=aI
 have g3:=aI
 refine Zs L fun _ eG=>?_;refine Ze (X0k rfl rfl)<|Za rfl<|Zt eG fun a L=>?_
 refine Xi L rfl (fun aJ=>?_) (fun aJ=>?_)
 ·have cT:=aJ;have a6:=Y4y (x:=x) g1 g2 g3 aJ;refine Zs L fun _ eH=>?_;refine Zm rfl<|Ze (Vd rfl X2v 2)<|Ze (X0 rfl X9 (f.at 2))<|Zf (X1k (vs:=[(pZ9 bV),vi g.b]) rfl X4k (X8y _ bV B0 A0 c0 BW eW A1 c1 A2 c2 m0 n0 x ⟨i,G,H,o,p,aE,aA,aB⟩ (Q0 a8 D.size) g.b bJ)) ?_;rintro _ iM ⟨gM,gN,gO,gQ,gR,E,b3,b4,J,bW,bX,y,C,eI,cU,cV⟩;have f:=f.tu E i rfl (alc (nrow G f rfl) (alc (nrow H f rfl) (alc (nrow o f rfl) (alc (nrow p f rfl) al0))));have q:=SB.lift (S:=SB bV [A0,BW,A1,A2]) (w0:=w0) (.inl (.inl rfl)) (alc aF (alc aG (alc U (alc W al0))));have b3:=Us.trans b3 q D.size;have b4:=Us.trans b4 q D.size
  have D:=tstr D E q;clear q
  clear E i;have i:=J;clear J
  clear o;have o:=y;clear y
  clear p;have p:=C;clear C;refine Zx eH fun a L _ eJ=>?_;refine Zm rfl<|Ze (Vd rfl X1d 1)<|Ze (X0 rfl X9 (f.at 1))<|Ze (Vd rfl X2v 2)<|Ze (X0 rfl X9 (f.at 2))<|Zf (X1k (vs:=[(pZ9 bV),vi g.a,vi g.b]) rfl Xfu (Xrv _ bV B0 gM gN gO gQ A1 c1 A2 c2 gR n0 (flpB x g.b) ⟨i,bW,bX,o,p,eI,cU,cV⟩ (Q0 a8 D.size) g.a g.b aC bJ (X24 aD g.b) bE)) ?_;rintro _ iN ⟨gS,gT,gU,gX,gY,E,b5,b7,J,bY,bZ,y,C,eK,cW,cX⟩;have f:=f.tu E i rfl (alc (nrow bW f rfl) (alc (nrow bX f rfl) (alc (nrow o f rfl) (alc (nrow p f rfl) al0))));have q:=SB.lift (S:=SB bV [A0,BW,A1,A2]) (w0:=w0) (.inl (.inl rfl)) (alc b3 (alc b4 (alc U (alc W al0))));have b5:=Us.trans b5 q D.size;have b7:=Us.trans b7 q D.size
  have D:=tstr D E q;clear q
  clear E i;have i:=J;clear J
  clear o;have o:=y;clear y
  clear p;have p:=C;clear C;refine Zt eJ fun a L=>?_;refine Zr L<|Zm rfl<|Ze (Vd rfl X2v 2)<|Ze (X0 rfl X9 (f.at 2))<|Zf (X1k (vs:=[(pZ9 bV),vi g.b]) rfl X4k (X8y _ bV B0 gS gT gU gX A1 c1 A2 c2 gY n0 (czB (flpB x g.b) g.a g.b) ⟨i,bY,bZ,o,p,eK,cW,cX⟩ (Q0 a8 D.size) g.b bJ)) ?_;rintro _ iO ⟨gZ,hJ,hY,i0,i1,E,b8,b9,J,eL,eM,y,C,eO,cY,cZ⟩;have f:=f.tu E i rfl (alc (nrow bY f rfl) (alc (nrow bZ f rfl) (alc (nrow o f rfl) (alc (nrow p f rfl) al0))));have q:=SB.lift (S:=SB bV [A0,BW,A1,A2]) (w0:=w0) (.inl (.inl rfl)) (alc b5 (alc b7 (alc U (alc W al0))));have b8:=Us.trans b8 q D.size;have b9:=Us.trans b9 q D.size
  have D:=tstr D E q;clear q
  clear E i;have i:=J;clear J
  clear o;have o:=y;clear y
  clear p;have p:=C;clear C;refine Zn fun a L=>?_;refine Xa<|X28 L (X3g rfl) ?_
  rw [a6]
  exact ⟨gZ,hJ,hY,i0,i1,D,b8,b9,⟨i,eL,eM,o,p,eO,cY,cZ⟩⟩
 have cT:=aJ
 have g9:=aJ
 refine Zs L fun _ eP=>?_;refine Ze (X0k rfl rfl)<|Za rfl<|Zt eP fun a L=>?_
 refine Xi L rfl (fun aK=>?_) (fun aK=>?_)
 ·have d5:=aK;have a6:=Xyo (x:=x) g1 g2 g3 g9 aK;refine Zr L<|Zm rfl<|Ze (Vd rfl X1d 1)<|Ze (X0 rfl X9 (f.at 1))<|Ze (Vd rfl X2v 2)<|Ze (X0 rfl X9 (f.at 2))<|Zf (X1k (vs:=[(pZ9 bV),vi g.a,vi g.b]) rfl Xfu (Xrv _ bV B0 A0 c0 BW eW A1 c1 A2 c2 m0 n0 x ⟨i,G,H,o,p,aE,aA,aB⟩ (Q0 a8 D.size) g.a g.b aC bJ aD bE)) ?_;rintro _ iP ⟨i2,i4,i5,i6,i7,E,bA,bB,J,eQ,eR,y,C,eS,d6,d7⟩;have f:=f.tu E i rfl (alc (nrow G f rfl) (alc (nrow H f rfl) (alc (nrow o f rfl) (alc (nrow p f rfl) al0))));have q:=SB.lift (S:=SB bV [A0,BW,A1,A2]) (w0:=w0) (.inl (.inl rfl)) (alc aF (alc aG (alc U (alc W al0))));have bA:=Us.trans bA q D.size;have bB:=Us.trans bB q D.size
  have D:=tstr D E q;clear q
  clear E i;have i:=J;clear J
  clear o;have o:=y;clear y
  clear p;have p:=C;clear C;refine Zn fun a L=>?_;refine Xa<|X28 L (X3g rfl) ?_
  rw [a6]
  exact ⟨i2,i4,i5,i6,i7,D,bA,bB,⟨i,eQ,eR,o,p,eS,d6,d7⟩⟩
 have d5:=aK
 have bK:=aK
 refine Zs L fun _ eT=>?_;refine Ze (X0k rfl rfl)<|Za rfl<|Zt eT fun a L=>?_
 refine Xi L rfl (fun aL=>?_) (fun aL=>?_)
 ·have d8:=aL;have a6:=Y2w (x:=x) g1 g2 g3 g9 bK aL;refine Q5 fun _ eU=>?_;refine X04 none (fun _=>false) mixed ?_;intro iQ M;have i:=i.bw M;have f:=f.bw M;have G:=G.bw M;have H:=H.bw M;have o:=o.bw M;have p:=p.bw M;have D:=tsbel D M;refine Yb L<|Yo 0 rfl (fun _=>X3 rfl)<|Yo 1 rfl (fun _=>X08 rfl)<|Yo 2 rfl (fun _=>Vd rfl X20 5)<|Ye 3 rfl (X0 rfl X54 (i.at 5))<|Yo 4 rfl (fun _=>Vd rfl X1d 1)<|Ye 5 rfl (X0 rfl X9 (f.at 1))<|Yo 6 rfl (fun _=>Xx (k:=g.a.toNat) rfl rfl Xj X0b o aA (by omega) (by first|omega|(rw [List.length_set];omega)))<|Ye 7 rfl (X0 rfl X9 (X0x o Xd (Xg (d:=(0:Int)) (by first|omega|(rw [List.length_set];omega))) 0 rfl))<|Yo 8 rfl (fun _=>X3 rfl)<|Yo 9 rfl (fun _=>X08 rfl) ?_;refine Yo 10 rfl (fun _=>Vd rfl X2c 6)<|Ye 11 rfl (X0 rfl X4w (i.at 6))<|Yo 12 rfl (fun _=>Vd rfl X1d 1)<|Ye 13 rfl (X0 rfl X9 (f.at 1))<|Yo 14 rfl (fun _=>Xx (k:=g.a.toNat) rfl rfl X40 X6a p aB (by omega) (by first|omega|(rw [List.length_set];omega)))<|Ye 15 rfl (X0 rfl X6q (X0x p X2a (Xg (d:=false) (by first|omega|(rw [List.length_set];omega))) 0 rfl))<|Yo 16 rfl (fun _=>X0u rfl)<|Yo 17 rfl (fun _=>X0u rfl) ?_;refine Yd fun a L=>?_;refine eU _ _<|Q5 fun _ eV=>?_;refine X04 none (fun j=>[15].contains j) mixed ?_;intro iS M;have i:=i.bw M;have f:=f.bw M;have G:=G.bw M;have H:=H.bw M;have o:=o.bw M;have p:=p.bw M;have D:=tsbel D M;refine Yb L<|Yo 0 rfl (fun _=>X3 rfl)<|Yo 1 rfl (fun _=>X08 rfl)<|Yo 2 rfl (fun _=>Vd rfl X20 5)<|Ye 3 rfl (X0 rfl X54 (i.at 5))<|Yo 4 rfl (fun _=>Vd rfl X1d 1)<|Ye 5 rfl (X0 rfl X9 (f.at 1))<|Yo 6 rfl (fun _=>X3 rfl)<|Yo 7 rfl (fun _=>X08 rfl)<|Yo 8 rfl (fun _=>Vd rfl X20 5)<|Ye 9 rfl (X0 rfl X54 (i.at 5)) ?_
  refine Yo 10 rfl (fun _=>Vd rfl X2v 2)<|Ye 11 rfl (X0 rfl X9 (f.at 2))<|Yo 12 rfl (fun _=>Xx (k:=g.b.toNat) rfl rfl Xj X0b o aA (by omega) (by first|omega|(rw [List.length_set];omega)))<|Ye 13 rfl (X0 rfl X9 (X0x o Xd (Xg (d:=(0:Int)) (by first|omega|(rw [List.length_set];omega))) 0 rfl))<|Yo 14 rfl (fun _=>Xx (k:=g.a.toNat) rfl rfl Xj X0b o aA (by omega) (by first|omega|(rw [List.length_set];omega)))<|Y1 15 ?_;refine Yh rfl tv0 rfl (X11 (enc:=encI) (l:=x.la) (vs:=[vi (x.la.getD g.b.toNat 0)]) (x0:=(x.la.getD g.a.toNat 0)) (u:=(x.la.getD g.b.toNat 0)) (k:=g.a.toNat) (j:=0) (n1:=1) rfl rfl X0b o Xd rfl rfl rfl rfl (by decide) (Xg (d:=(0:Int)) (by first|omega|(rw [List.length_set];omega))) rfl) ?_;rintro _ iT ⟨N,Q⟩;have I:=o;have i:=i.appT I Q rfl;have f:=f.appT I Q rfl;have G:=G.appT I Q rfl;have H:=H.appT I Q rfl;have p:=p.appT I Q rfl;have D:=tsrow D Q U
  clear I Q;clear o;have o:=N;clear N;refine Yd fun a L=>?_;refine eV _ _<|Q5 fun _ eX=>?_;refine X04 none (fun j=>[15].contains j) mixed ?_;intro iU M;have i:=i.bw M;have f:=f.bw M;have G:=G.bw M;have H:=H.bw M;have p:=p.bw M;have o:=o.bw M;have D:=tsbel D M;refine Yb L<|Yo 0 rfl (fun _=>X3 rfl)<|Yo 1 rfl (fun _=>X08 rfl)<|Yo 2 rfl (fun _=>Vd rfl X2c 6)<|Ye 3 rfl (X0 rfl X4w (i.at 6))<|Yo 4 rfl (fun _=>Vd rfl X1d 1)<|Ye 5 rfl (X0 rfl X9 (f.at 1))<|Yo 6 rfl (fun _=>X3 rfl)<|Yo 7 rfl (fun _=>X08 rfl)<|Yo 8 rfl (fun _=>Vd rfl X2c 6)<|Ye 9 rfl (X0 rfl X4w (i.at 6)) ?_;refine Yo 10 rfl (fun _=>Vd rfl X2v 2)<|Ye 11 rfl (X0 rfl X9 (f.at 2))<|Yo 12 rfl (fun _=>Xx (k:=g.b.toNat) rfl rfl X40 X6a p aB (by omega) (by first|omega|(rw [List.length_set];omega)))<|Ye 13 rfl (X0 rfl X6q (X0x p X2a (Xg (d:=false) (by first|omega|(rw [List.length_set];omega))) 0 rfl))<|Yo 14 rfl (fun _=>Xx (k:=g.a.toNat) rfl rfl X40 X6a p aB (by omega) (by first|omega|(rw [List.length_set];omega)))<|Y1 15 ?_;refine Yh rfl tv0 rfl (X11 (enc:=encB) (l:=x.hd) (vs:=[.bool (x.hd.getD g.b.toNat false)]) (x0:=(x.hd.getD g.a.toNat false)) (u:=(x.hd.getD g.b.toNat false)) (k:=g.a.toNat) (j:=0) (n1:=1) rfl rfl X6a p X2a rfl rfl rfl rfl (by decide) (Xg (d:=false) (by first|omega|(rw [List.length_set];omega))) rfl) ?_;rintro _ iV ⟨N,Q⟩;have I:=p;have i:=i.appT I Q rfl;have f:=f.appT I Q rfl;have G:=G.appT I Q rfl;have H:=H.appT I Q rfl;have o:=o.appT I Q rfl;have D:=tsrow D Q W
  clear I Q;clear p;have p:=N;clear N;refine Yd fun a L=>?_;refine eX _ _<|Q5 fun _ eY=>?_;refine X04 none (fun j=>[8].contains j) mixed ?_;intro iW M;have i:=i.bw M;have f:=f.bw M;have G:=G.bw M;have H:=H.bw M;have o:=o.bw M;have p:=p.bw M;have D:=tsbel D M;refine Yb L<|Yo 0 rfl (fun _=>X3 rfl)<|Yo 1 rfl (fun _=>X08 rfl)<|Yo 2 rfl (fun _=>Vd rfl X20 5)<|Ye 3 rfl (X0 rfl X54 (i.at 5))<|Yo 4 rfl (fun _=>Vd rfl X2v 2)<|Ye 5 rfl (X0 rfl X9 (f.at 2))<|Yo 6 rfl (fun _=>X3 rfl)<|Yo 7 rfl (fun _=>Xx (k:=g.b.toNat) rfl rfl Xj X0b o (aA.trans List.length_set.symm) (by omega) (by first|omega|(rw [List.length_set];omega)))<|Y1 8 ?_;refine Yh rfl tv0 rfl (X11 (enc:=encI) (l:=(x.la.set g.a.toNat (x.la.getD g.b.toNat 0))) (vs:=[vi (x.la.getD g.a.toNat 0)]) (x0:=((x.la.set g.a.toNat (x.la.getD g.b.toNat 0)).getD g.b.toNat 0)) (u:=(x.la.getD g.a.toNat 0)) (k:=g.b.toNat) (j:=0) (n1:=1) rfl rfl X0b o Xd rfl rfl rfl rfl (by decide) (Xg (d:=(0:Int)) (by first|omega|(rw [List.length_set];omega))) rfl) ?_;rintro _ iX ⟨N,Q⟩;have I:=o;have i:=i.appT I Q rfl;have f:=f.appT I Q rfl;have G:=G.appT I Q rfl;have H:=H.appT I Q rfl;have p:=p.appT I Q rfl;have D:=tsrow D Q U
  clear I Q;clear o;have o:=N;clear N;refine Yd fun a L=>?_;refine eY _ _<|X04 none (fun j=>[8].contains j) mixed ?_;intro iY M;have i:=i.bw M;have f:=f.bw M;have G:=G.bw M;have H:=H.bw M;have p:=p.bw M;have o:=o.bw M;have D:=tsbel D M;refine Yb L<|Yo 0 rfl (fun _=>X3 rfl)<|Yo 1 rfl (fun _=>X08 rfl)<|Yo 2 rfl (fun _=>Vd rfl X2c 6)<|Ye 3 rfl (X0 rfl X4w (i.at 6))<|Yo 4 rfl (fun _=>Vd rfl X2v 2)<|Ye 5 rfl (X0 rfl X9 (f.at 2))<|Yo 6 rfl (fun _=>X3 rfl)<|Yo 7 rfl (fun _=>Xx (k:=g.b.toNat) rfl rfl X40 X6a p (aB.trans List.length_set.symm) (by omega) (by first|omega|(rw [List.length_set];omega)))<|Y1 8 ?_;refine Yh rfl tv0 rfl (X11 (enc:=encB) (l:=(x.hd.set g.a.toNat (x.hd.getD g.b.toNat false))) (vs:=[.bool (x.hd.getD g.a.toNat false)]) (x0:=((x.hd.set g.a.toNat (x.hd.getD g.b.toNat false)).getD g.b.toNat false)) (u:=(x.hd.getD g.a.toNat false)) (k:=g.b.toNat) (j:=0) (n1:=1) rfl rfl X6a p X2a rfl rfl rfl rfl (by decide) (Xg (d:=false) (by first|omega|(rw [List.length_set];omega))) rfl) ?_;rintro _ iZ ⟨N,Q⟩;have I:=p;have i:=i.appT I Q rfl;have G:=G.appT I Q rfl;have H:=H.appT I Q rfl;have o:=o.appT I Q rfl;have D:=tsrow D Q W
  clear I Q;clear p;have p:=N;clear N;refine Yd fun a L=>?_;refine Xa<|X28 L (X3g rfl) ?_
  rw [a6]
  exact ⟨A0,c0,BW,eW,m0,D,aF,aG,⟨i,G,H,o,p,aE,((aA.trans List.length_set.symm).trans List.length_set.symm),((aB.trans List.length_set.symm).trans List.length_set.symm)⟩⟩
 have d8:=aL
 have d9:=aL
 refine Zs L fun _ eZ=>?_;refine Ze (X0k rfl rfl)<|Za rfl<|Zt eZ fun a L=>?_
 refine Xi L rfl (fun aM=>?_) (fun aM=>?_)
 ·have dA:=aM;have a6:=Y25 (x:=x) g1 g2 g3 g9 bK d9 aM;refine Zr L<|Zm rfl<|Ze (X08 rfl)<|Ze (Vd rfl X0m 0)<|Ze (Vd rfl X0q 3)<|Ze (X0 rfl X9 (i.at 3))<|Ze (X2z rfl rfl)<|Ze (X08 rfl)<|Ze (Vd rfl X0m 0)<|Ze (Vd rfl X0q 3)<|Zo (X15 (vs:=[vi (wr (x.d.t+1))]) (l':=[vi x.d.n,.slice A0 m0 c0,.slice BW x.d.ws.length eW,vi (wr (x.d.t+1)),vi x.d.r,.slice A1 n0 c1,.slice A2 n0 c2]) rfl rfl X0b i rfl rfl rfl rfl rfl) ?_;rintro _ j0 ⟨ho,hb⟩;have a7:=i;have G:=G.oT ho a7 rfl;have H:=H.oT ho a7 rfl;have o:=o.oT ho a7 rfl;have p:=p.oT ho a7 rfl;have D:=tsonly D ho (.inl (.inl rfl));have i:=hb;refine Zn fun a L=>?_;refine Xa<|X28 L (X3g rfl) ?_
  rw [a6]
  exact ⟨A0,c0,BW,eW,m0,D,aF,aG,⟨i,G,H,o,p,aE,aA,aB⟩⟩
 have dA:=aM
 have f0:=aM
 have a6:=Y5g (x:=x) g1 g2 g3 g9 bK d9 f0
 have f3:4<=g.k/\g.k<=8:=by simp only [beq_eq_false_iff_ne] at g1 g2 g3 g9 bK d9 f0;omega
 have f5:=Xvw f3;refine X04 none (fun j=>[9].contains j) mixed ?_;intro j1 M;have i:=i.bw M;have f:=f.bw M;have G:=G.bw M;have H:=H.bw M;have o:=o.bw M;have p:=p.bw M;have D:=tsbel D M;refine Yb L<|Yo 0 rfl (fun _=>X3 rfl)<|Yo 1 rfl (fun _=>Vd rfl X1d 1)<|Ye 2 rfl (X0 rfl X9 (f.at 1))<|Yo 4 rfl (fun _=>Vd rfl X74 0)<|Ye 5 rfl (X0 rfl X9 (f.at 0))<|Yo 6 rfl (fun _=>X1h rfl rfl (by omega) (by omega))<|Y1 3 ?_;refine Yk rfl tv0 (Xn (k:=5) (vs:=[vi 4,vi 2,vi 6,vi 1,vi 7]) (zs:=[vi 4,vi 2,vi 6,vi 1,vi 7]) rfl Xj X1g rfl rfl) (fun _ _ ⟨_,_,_,h,_⟩=>h) ?_;rintro _ j3 ⟨j4,rfl,c5,M,cA⟩;have i8:=Q0 D.size c5;have f7:=o.away c5;have i:=i.bw M;have f:=f.bw M;have G:=G.bw M;have H:=H.bw M;have o:=o.bw M;have p:=p.bw M;have D:=tsbel D M;refine Yi (k:=(g.k-4).toNat) (u:=(rotC g.k)) (enc:=encI) (l:=[4,2,6,1,7]) 7 rfl tv0 rfl rfl Xj X0b Xd (Rd.of_blk cA rfl _ cA.lt) f5.1 (by omega) ?_;intro j5 dB;refine Ye 8 rfl (X0 rfl X9 dB)<|Y1 9 ?_;refine Yt rfl tv0 rfl (X1k (vs:=[(pZ9 bV),vi g.a,vi (rotC g.k)]) rfl X8f (Xf6 _ bV B0 A0 c0 BW eW A1 c1 A2 c2 m0 n0 x ⟨i,G,H,o,p,aE,aA,aB⟩ (Q0 a8 D.size) g.a (rotC g.k) aC aD bE f5.2)) ?_;rintro _ j6 ⟨i9,iA,iB,iC,iD,E,bC,bD,J,f8,f9,y,C,fA,dC,dD⟩;have f:=f.tu E i rfl (alc (nrow G f rfl) (alc (nrow H f rfl) (alc (nrow o f rfl) (alc (nrow p f rfl) al0))));have q:=SB.lift (S:=SB bV [A0,BW,A1,A2]) (w0:=w0) (.inl (.inl rfl)) (alc aF (alc aG (alc U (alc W al0))));have bC:=Us.trans bC q D.size
 have bD:=Us.trans bD q D.size
 have D:=tstr D E q;clear q
 clear E i;have i:=J;clear J
 clear o;have o:=y;clear y
 clear p;have p:=C;clear C;refine Yd fun a L=>?_;refine Xa<|X28 L (X3g rfl) ?_
 rw [a6]
 exact ⟨i9,iA,iB,iC,iD,D,bC,bD,⟨i,f8,f9,o,p,fA,dC,dD⟩⟩
theorem Xyu(Q:World)(c:Cx)(Ac:Option Addr)(cc:Nat)(bM:Rd Q Q.heap.size 123 encG Ac c.gs)(hc:cOk c=true) : Ret Tryz.prog 84 [.agg #[vi c.n,.slice Ac c.gs.length cc]] Q (fun v w=>∃ A c1 B e,v=.agg #[vi (ofD c).n,.slice A (ofD c).ns.length c1,.slice B (ofD c).ws.length e,vi (ofD c).t,vi (ofD c).r]/\Own w Q.heap.size 81 2 encNd A c1 (ofD c).ns/\Own w Q.heap.size 83 3 encWr B e (ofD c).ws/\Below Q.heap.size Q w):=by
 obtain ⟨n9,eV,eX,eY⟩:=Xa6 hc
 have cJ:c.n=((c.n.toNat:Nat) : Int):=by omega
 have eZ:=Xo7 hc
 have cK:(List.replicate (c.n.toNat:Nat) false).length=(c.n.toNat:Nat):=List.length_replicate
 have cL:(c.n.toNat:Nat)<=maxLen:=by simp only [maxLen];omega
 refine enter Tryz.func84 rfl 79 rfl rfl ?_;intro a C
 have q:=bz Q
 refine Zs C fun _ dX=>?_;refine Zf (X0l (zs:=[vi c.n,.slice Ac c.gs.length cc]) rfl rfl) ?_;rintro _ w1 ⟨b3,rfl,dY,G,i⟩;have eT:=Q0 q.size dY;have q:=btr q G;refine Zf (Xq (zs:=[vi 0,.slice none 0 0,.slice none 0 0,vi 0,vi 0]) X0h rfl) ?_;rintro _ w2 ⟨b6,rfl,eA,G,o⟩;have cM:=Q0 q.size eA;have i:=i.bw G;have q:=btr q G;refine ZX dX fun a C _ eB=>?_;refine X04 none (fun _=>false) mixed ?_;intro w3 G;have i:=i.bw G;have o:=o.bw G;have q:=btr q G;refine Yb C<|Yo 0 rfl (fun _=>Vd rfl X81 0)<|Ye 1 rfl (X0 rfl X9 (i.at 0))<|Yo 2 rfl (fun _=>X0s (ps:=[(0,vi c.n)]) (cs:=[vi c.n,.slice none 0 0,.slice none 0 0,vi 0,vi 0]) rfl (fun _=>by first|rfl|kernel_rfl))<|Yo 3 rfl (fun _=>Vd rfl X81 0)<|Ye 4 rfl (Vx (X0 rfl X9 (i.at 0)) cJ)<|Y1 5 ?_;refine Yk rfl tv0 (X8p (m:=(c.n.toNat:Nat)) (enc:=encB) (z0:=false) rfl rfl X40 Xz0 z_4 rfl X2a (by omega) (by omega)) (fun _ _ ⟨_,_,_,h,_⟩=>h) ?_;rintro _ w4 ⟨bF,rfl,cN,G,b0⟩;have bQ:=Q0 q.size cN;have i:=i.bw G;have o:=o.bw G;have q:=btr q G;refine Yo 6 rfl (fun _=>X0s (ps:=[(0,.agg #[vi c.n,.slice none 0 0,.slice none 0 0,vi 0,vi 0]),(2,.slice (some ⟨bF,0,none⟩) (c.n.toNat:Nat) (c.n.toNat:Nat))]) (cs:=[vi c.n,.slice none 0 0,.slice none 0 0,vi 0,vi 0,.slice none 0 0,.slice (some ⟨bF,0,none⟩) (c.n.toNat:Nat) (c.n.toNat:Nat)]) rfl (fun _=>by first|rfl|kernel_rfl))<|Y1 7 ?_;refine Yk rfl tv0 (X0l (zs:=[vi c.n,.slice none 0 0,.slice none 0 0,vi 0,vi 0,.slice none 0 0,.slice (some ⟨bF,0,none⟩) (c.n.toNat:Nat) (c.n.toNat:Nat)]) rfl rfl) (fun _ _ ⟨_,_,_,h,_⟩=>h) ?_;rintro _ w5 ⟨aF,rfl,cO,G,g⟩;have aC:=Q0 q.size cO
 have i:=i.bw G;have o:=o.bw G;have b0:=b0.bw G;have q:=btr q G;refine Yo 8 rfl (fun _=>X0u rfl) ?_;refine Yd fun a C=>?_;refine eB _ _<|Q5 fun _ cP=>?_;refine Zs C fun _ cQ=>?_;refine Za rfl<|Zt cQ fun a C=>?_;refine Q8<|X01 (σ:=Nat×(List Nd)×(List Int)) (fun (s:Nat×(List Nd)×(List Int)) (a:Act) (w:World)=>match s with|(k,u,v)=>∃ bG bH b1 b2 aO aP,Fr a 79 [(1,(pZ9 b3)),(2,(pZ9 b6)),(3,(pZ9 aF)),(4,vi (k:Int))]/\(k<=c.n.toNat)/\(u=inN k)/\(v=ranI k)/\Blk w b3 30 [vi c.n,.slice Ac c.gs.length cc]/\Blk w b6 39 [vi 0,.slice none 0 0,.slice none 0 0,vi 0,vi 0]/\Blk w aF 171 [vi c.n,.slice bG u.length bH,.slice none 0 0,vi 0,vi 0,.slice b1 v.length b2,.slice aO (c.n.toNat:Nat) aP]/\Own w Q.heap.size 81 2 encNd bG bH u/\Own w Q.heap.size 3 1 encI b1 b2 v/\Own w Q.heap.size 4 1 encB aO aP (List.replicate (c.n.toNat:Nat) false)/\Below Q.heap.size Q w) (fun (s:Nat×(List Nd)×(List Int))=>match s with|(k,u,v)=>c.n.toNat-k) (0,[],[]) ?_ ?_
 ·exact ⟨none,0,none,0,some ⟨bF,0,none⟩,(c.n.toNat:Nat),C.sb,(Qf _),rfl,rfl,i,o,g,(Own.nil _ _ _ _ _),(Own.nil _ _ _ _ _),(Own.of_flat X2a b0 bQ cK cL),q⟩
 rintro ⟨k,u,v⟩ a w6 ⟨bG,bH,b1,b2,aO,aP,C,hk,hu,hv,i,o,g,aH,J,E,q⟩;have cR:=X8h k;have cS:=X9f k
 rw [<- hu] at cR
 rw [<- hv] at cS
 refine Q5 fun _ cT=>?_;refine Zs C fun _ cU=>?_;refine Zm rfl<|Ze (Vd rfl X81 0)<|Ze (X0 rfl X9 (i.at 0))<|Ze (X0n rfl rfl)<|Zt cU fun a C=>?_
 refine Xi C rfl (fun W=>?_) (fun W=>?_)
 ·have bR:=W;have W:=Q2 W
  have bJ:k<c.n.toNat:=by have:=W;omega
  refine Q7<|cT _ _<|Q5 fun _ cV=>?_;refine Q8<|Zs C fun _ cW=>?_;refine Zm rfl<|Zm rfl<|Ze (X08 rfl)<|Ze (Vd rfl X0m 0)<|Ze (Vd rfl Xf 1)<|Ze (X0 rfl Xz (g.at 1))<|Zm rfl<|Ze (X0s (ps:=[(0,vi 1),(1,vi (k:Int))]) (cs:=[vi 1,vi (k:Int)]) rfl (fun _=>by first|rfl|kernel_rfl))<|Zf (Xn (k:=1) (vs:=[.agg #[vi 1,vi (k:Int)]]) (zs:=[vi 1,vi (k:Int)]) rfl Xm X1x rfl rfl) ?_;rintro _ w7 ⟨f0,rfl,bN,G,b4⟩;have eC:=Q0 q.size bN;have aQ:=aH.away bN;have i:=i.bw G;have o:=o.bw G;have g:=g.bw G;have aH:=aH.bw G;have J:=J.bw G;have E:=E.bw G;have q:=btr q G;refine Zf (X0t (enc:=encNd) (l:=(u)) (l2:=([(⟨1,(k:Int)⟩ : Nd)])) (B0:=Q.heap.size) rfl rfl Xm X1x Xv X33 aH (Rd.of_blk b4 rfl _ b4.lt) (by simp only [maxLen];simp;omega) (by simp;omega) q.size) ?_;rintro _ w8 ⟨bK,bL,rfl,a6,hg,b5⟩
  have D:Own _ Q.heap.size 81 2 encNd _ _ (u):=aH
  have cH:=b5 _ b4.lt aQ;clear b5;have i:=i.appT D hg rfl;have o:=o.appT D hg rfl;have g:=g.appT D hg rfl;have J:=J.appT D hg rfl;have E:=E.appT D hg rfl;have q:=Below.app q D hg (Qb _) q.size;clear D hg;refine Ze (X08 rfl)<|Ze (Vd rfl X0m 0)<|Ze (Vd rfl Xf 1)<|Zo (Vu (vs:=[.slice bK (u++([(⟨1,(k:Int)⟩ : Nd)])).length bL]) (l':=[vi c.n,.slice bK (u++([(⟨1,(k:Int)⟩ : Nd)])).length bL,.slice none 0 0,vi 0,vi 0,.slice b1 v.length b2,.slice aO (c.n.toNat:Nat) aP]) rfl rfl X4m g) ?_;rintro _ w9 ⟨U,hb⟩;have p:=g;have i:=i.oz U p rfl;have o:=o.oz U p rfl;have J:=J.oT U p rfl;have E:=E.oT U p rfl;have a6:=a6.oT U p rfl;have q:=Below.oy q U aC;have g:=hb;refine Zt cW fun a C=>?_;refine Zr C<|Zm rfl<|Zm rfl<|Ze (X08 rfl)<|Ze (Vd rfl X20 5)<|Ze (X0 rfl X54 (g.at 5))<|Zm rfl<|Zf (Xn (k:=1) (vs:=[vi (k:Int)]) (zs:=[vi (k:Int)]) rfl Xj X1g rfl rfl) ?_;rintro _ f3 ⟨f5,rfl,bO,G,b7⟩;have eD:=Q0 q.size bO;have aR:=J.away bO;have i:=i.bw G;have o:=o.bw G;have g:=g.bw G;have J:=J.bw G;have E:=E.bw G;have a6:=a6.bw G;have q:=btr q G;refine Zf (X0t (enc:=encI) (l:=(v)) (l2:=([(k:Int)])) (B0:=Q.heap.size) rfl rfl Xj X1g Xd X1z J (Rd.of_blk b7 rfl _ b7.lt) (by simp only [maxLen];simp;omega) (by simp;omega) q.size) ?_;rintro _ f7 ⟨bS,bT,rfl,b8,hg,b5⟩
  have D:Own _ Q.heap.size 3 1 encI _ _ (v):=J
  have cI:=b5 _ b7.lt aR;clear b5;have i:=i.appT D hg rfl;have o:=o.appT D hg rfl;have g:=g.appT D hg rfl;have E:=E.appT D hg rfl;have a6:=a6.appT D hg rfl;have q:=Below.app q D hg (Qb _) q.size;clear D hg;refine Ze (X08 rfl)<|Ze (Vd rfl X20 5)<|Zo (Vu (vs:=[.slice bS (v++([(k:Int)])).length bT]) (l':=[vi c.n,.slice bK (u++([(⟨1,(k:Int)⟩ : Nd)])).length bL,.slice none 0 0,vi 0,vi 0,.slice bS (v++([(k:Int)])).length bT,.slice aO (c.n.toNat:Nat) aP]) rfl rfl Xjo g) ?_;rintro _ f8 ⟨U,hb⟩;have p:=g;have i:=i.oz U p rfl;have o:=o.oz U p rfl;have E:=E.oT U p rfl;have a6:=a6.oT U p rfl;have b8:=b8.oT U p rfl;have q:=Below.oy q U aC;have g:=hb;refine Zn fun a C=>?_;refine Xa<|cV _ _<|Zr C<|Zm rfl<|Ze (Xs rfl rfl (by omega) (by omega))<|Za rfl ?_;refine Zn fun a C=>?_;refine Xc ?_;exact ⟨(k+1,u++([(⟨1,(k:Int)⟩ : Nd)]),v++([(k:Int)])),⟨bK,bL,bS,bT,aO,aP,C.sb,(by omega),(by rw [Y2s,<- hu]),(by rw [Xwa,<- hv]),i,o,g,a6,b8,E,q⟩,(by first|omega|(dsimp only;omega))⟩
 have bR:=W;have W:=Q1 W
 have bJ:k=c.n.toNat:=by have:=W;omega
 have cX:v.length=c.n.toNat:=by rw [hv,bJ];exact X9f _
 have cY:(⟨⟨c.n,u,[],0,0⟩,v,List.replicate c.n.toNat false⟩ : Br)=ofB0 c:=by rw [hu,hv,bJ];rfl
 have f9:u.length=c.n.toNat:=by rw [hu,bJ];exact X8h _
 refine Q9<|Xk<|Xk<|X02 ?_;refine cP _ _<|Q5 fun _ cZ=>?_;refine Zs C fun _ d5=>?_;refine Ze (Vd rfl Xb9 1)<|Ze (X0 rfl Xsi (i.at 1))<|Ze (X09 rfl Xhj)<|Zm rfl<|Zt d5 fun a C=>?_;refine Q8 ?_
 rw [cX] at g
 refine X01 (σ:=Nat×Br×Nat) (fun (s:Nat×Br×Nat) (a:Act) (w:World)=>match s with|(k,x,mz)=>∃ b9 bA bB bC aS aT aU aV,Fr a 79 [(1,(pZ9 b3)),(2,(pZ9 b6)),(3,(pZ9 aF)),(46,.slice Ac c.gs.length cc),(47,vi (c.gs.length:Int)),(48,vi (k:Int))]/\(k<=c.gs.length)/\(x=(c.gs.take k).foldl gtB (ofB0 c))/\(BrOk c.n.toNat x)/\(c.n.toNat=x.la.length)/\(c.n.toNat=x.hd.length)/\(mz=x.d.ns.length)/\(x.d.ns.length<=5+3*k/\x.d.ws.length<=3*k)/\Blk w b3 30 [vi c.n,.slice Ac c.gs.length cc]/\Blk w b6 39 [vi 0,.slice none 0 0,.slice none 0 0,vi 0,vi 0]/\Blk w aF 171 [vi x.d.n,.slice b9 mz bA,.slice bB x.d.ws.length bC,vi x.d.t,vi x.d.r,.slice aS c.n.toNat aT,.slice aU c.n.toNat aV]/\Own w Q.heap.size 81 2 encNd b9 bA x.d.ns/\Own w Q.heap.size 83 3 encWr bB bC x.d.ws/\Own w Q.heap.size 3 1 encI aS aT x.la/\Own w Q.heap.size 4 1 encB aU aV x.hd/\Below Q.heap.size Q w) (fun (s:Nat×Br×Nat)=>match s with|(k,x,mz)=>c.gs.length-k) (0,⟨⟨c.n,u,[],0,0⟩,v,List.replicate c.n.toNat false⟩,u.length) ?_ ?_
 ·exact ⟨bG,bH,none,0,b1,b2,aO,aP,C.sb,(Qf _),cY,(cY▸Xc5 ⟨by omega,by omega⟩),cX.symm,cK.symm,rfl,⟨by show u.length<=_;omega,Qb _⟩,i,o,g,aH,(Own.nil _ _ _ _ _),J,E,q⟩
 rintro ⟨k,x,mz⟩ a fA ⟨b9,bA,bB,bC,aS,aT,aU,aV,C,hk,hx,bD,d6,d7,d8,eE,i,o,g,L,M,H,I,q⟩;refine Zs C fun _ d9=>?_;refine Ze (X0n rfl rfl)<|ZX d9 fun a C _ dA=>?_
 refine Xi C rfl (fun a7=>?_) (fun a7=>?_)
 ·have bU:=a7;have a7:=Q2 a7
  obtain ⟨fB,eU⟩:=X4 (l:=c.gs) (k:=k) (by omega)
  obtain ⟨u9,bW⟩:=X4 (l:=c.gs) (k:=k) (by have:=a7;omega)
  have dB:gOk (c.n.toNat:Int) u9=true:=Xn4 hc cJ bW
  have dC:=X3t (f:=gtB) (b:=ofB0 c) bW
  rw [<- hx] at dC
  refine Q7<|dA _ _<|Q5 fun _ dD=>?_;refine Q8<|Zs C fun _ dE=>?_;refine Zi (k:=k) (u:=u9) (enc:=encG) (l:=c.gs) tv0 rfl rfl Xhj X6e Xcy (bM.bx q) bW rfl ?_;intro fC bX;refine Ze (X03 (l:=[vi u9.k,vi u9.a,vi u9.b]) rfl X4p bX rfl)<|Zf (Xq (zs:=[vi 0,vi 0,vi 0]) Xln rfl) ?_;rintro _ fE ⟨fF,rfl,bP,G,N⟩;have bY:=Q0 q.size bP;have dF:=(bM.bx q).away bP;have i:=i.bw G;have o:=o.bw G;have g:=g.bw G;have L:=L.bw G;have M:=M.bw G;have H:=H.bw G;have I:=I.bw G;have q:=btr q G;refine Zo (Vw [vi u9.k,vi u9.a,vi u9.b] X6e N) ?_;rintro _ fG ⟨U,hb⟩;have p:=N;have i:=i.oz U p rfl;have o:=o.oz U p rfl;have g:=g.oz U p rfl;have L:=L.oT U p rfl;have M:=M.oT U p rfl;have H:=H.oT U p rfl;have I:=I.oT U p rfl;have q:=Below.oy q U bY;have N:=hb;refine Zt dE fun a C=>?_;refine Zr C<|Zm rfl<|Ze (Vn X4p N)<|Zf (X1k (vs:=[(pZ9 aF),.agg #[vi u9.k,vi u9.a,vi u9.b]]) rfl Xno (Y1y _ aF Q.heap.size b9 bA bB bC aS aT aU aV mz c.n.toNat x ⟨g,L,M,H,I,d8,d6,d7⟩ q.size u9 bD (by omega) dB)) ?_;rintro _ fH ⟨eF,eG,eH,eI,eJ,aG,bZ,c5,bE,dG,dH,aM,aN,dI,cA,cB⟩;have i:=i.tu aG g rfl (alc (nrow L i rfl) (alc (nrow M i rfl) (alc (nrow H i rfl) (alc (nrow I i rfl) al0))));have o:=o.tu aG g rfl (alc (nrow L o rfl) (alc (nrow M o rfl) (alc (nrow H o rfl) (alc (nrow I o rfl) al0))));have N:=N.tu aG g rfl (alc (nrow L N rfl) (alc (nrow M N rfl) (alc (nrow H N rfl) (alc (nrow I N rfl) al0))))
  have q:=Below.ts q aG (SB.ge aC (alc (fun _ h9=>X2i L h9) (alc (fun _ h9=>X2i M h9) (alc (fun _ h9=>X2i H h9) (alc (fun _ h9=>X2i I h9) al0))))) q.size
  clear bZ;clear c5
  clear aG g;have g:=bE;clear bE
  clear H;have H:=aM;clear aM
  clear I;have I:=aN;clear aN;refine Zn fun a C=>?_;refine Xa<|dD _ _<|Zr C<|Ze (Xs rfl rfl (by omega) (by omega))<|Zm rfl ?_;refine Zn fun a C=>?_;refine Xc ?_;exact ⟨(k+1,(gtB x u9),eJ),⟨eF,eG,eH,eI,aS,aT,aU,aV,C.sb,(by omega),(by rw [dC]),(Xjh bD dB),cA,cB,dI,(by have:=Xmg x u9;omega),i,o,g,dG,dH,H,I,q⟩,(by first|omega|(dsimp only;omega))⟩
 have bU:=a7;have a7:=Q1 a7
 have eK:x=ofB1 c:=by rw [hx,Qi (by have:=a7;omega)];rfl
 refine Q9<|Xk<|Xk<|X02 ?_;refine cZ _ _<|Q5 fun _ dJ=>?_;refine Zs C fun _ dK=>?_;refine Za rfl<|Zt dK fun a C=>?_;refine Q8<|X01 (σ:=Nat×Br×Nat) (fun (s:Nat×Br×Nat) (a:Act) (w:World)=>match s with|(j,y,my)=>∃ aI aJ aK aL aW aX aY aZ,Fr a 79 [(1,(pZ9 b3)),(2,(pZ9 b6)),(3,(pZ9 aF)),(7,vi (j:Int))]/\(j<=c.n.toNat)/\(y=ofK c j)/\(BrOk c.n.toNat y)/\(c.n.toNat=y.la.length)/\(c.n.toNat=y.hd.length)/\(my=y.d.ns.length)/\(y.d.ns.length<=5+3*400+j/\y.d.ws.length<=3*400+j)/\Blk w b3 30 [vi c.n,.slice Ac c.gs.length cc]/\Blk w b6 39 [vi 0,.slice none 0 0,.slice none 0 0,vi 0,vi 0]/\Blk w aF 171 [vi y.d.n,.slice aI my aJ,.slice aK y.d.ws.length aL,vi y.d.t,vi y.d.r,.slice aW c.n.toNat aX,.slice aY c.n.toNat aZ]/\Own w Q.heap.size 81 2 encNd aI aJ y.d.ns/\Own w Q.heap.size 83 3 encWr aK aL y.d.ws/\Own w Q.heap.size 3 1 encI aW aX y.la/\Own w Q.heap.size 4 1 encB aY aZ y.hd/\Below Q.heap.size Q w) (fun (s:Nat×Br×Nat)=>match s with|(j,y,my)=>c.n.toNat-j) (0,x,mz) ?_ ?_
 ·exact ⟨b9,bA,bB,bC,aS,aT,aU,aV,C.sb,(Qf _),eK,bD,d6,d7,d8,(by omega),i,o,g,L,M,H,I,q⟩
 rintro ⟨j,y,my⟩ a fI ⟨aI,aJ,aK,aL,aW,aX,aY,aZ,C,hj,hy,bD,eL,eM,dL,eE,i,o,g,a8,aA,aD,aE,q⟩;refine Q5 fun _ dM=>?_;refine Zs C fun _ dN=>?_;refine Zm rfl<|Ze (Vd rfl X81 0)<|Ze (X0 rfl X9 (i.at 0))<|Ze (X0n rfl rfl)<|Zt dN fun a C=>?_
 refine Xi C rfl (fun aB=>?_) (fun aB=>?_)
 ·have cC:=aB;have aB:=Q2 aB
  have dO:j<c.n.toNat:=by have:=aB;omega
  refine Q7<|dM _ _<|Q5 fun _ dP=>?_;refine Q8<|Zr C<|Zm rfl<|Zm rfl<|Zm rfl<|Zf (X1k (vs:=[(pZ9 aF),vi 2,vi (j:Int),vi (j:Int)]) rfl Xhi (Xs5 _ aF Q.heap.size aI aJ aK aL aW aX aY aZ my c.n.toNat y ⟨g,a8,aA,aD,aE,dL,eL,eM⟩ q.size 2 (j:Int) (j:Int) ⟨by omega,by omega⟩ (by omega))) ?_;rintro _ fJ ⟨eO,eP,eQ,eR,eS,aG,cD,cE,bE,dQ,dR,aM,aN,dS,cF,cG⟩;have i:=i.tu aG g rfl (alc (nrow a8 i rfl) (alc (nrow aA i rfl) (alc (nrow aD i rfl) (alc (nrow aE i rfl) al0))));have o:=o.tu aG g rfl (alc (nrow a8 o rfl) (alc (nrow aA o rfl) (alc (nrow aD o rfl) (alc (nrow aE o rfl) al0))))
  have q:=Below.ts q aG (SB.ge aC (alc (fun _ h9=>X2i a8 h9) (alc (fun _ h9=>X2i aA h9) (alc (fun _ h9=>X2i aD h9) (alc (fun _ h9=>X2i aE h9) al0))))) q.size
  clear cD;clear cE
  clear aG g;have g:=bE;clear bE
  clear aD;have aD:=aM;clear aM
  clear aE;have aE:=aN;clear aN;refine Zn fun a C=>?_;refine Xa<|dP _ _<|Zr C<|Zm rfl<|Ze (Xs rfl rfl (by omega) (by omega))<|Za rfl ?_;refine Zn fun a C=>?_;refine Xc ?_;exact ⟨(j+1,(nodB y 2 (j:Int) (j:Int)),eS),⟨eO,eP,eQ,eR,aW,aX,aY,aZ,C.sb,(by omega),(by rw [Xd2,<- hy]),(Xc6 bD ⟨by omega,by omega⟩),cF,cG,dS,(by have:=X8g y 2 (j:Int) (j:Int);omega),i,o,g,dQ,dR,aD,aE,q⟩,(by first|omega|(dsimp only;omega))⟩
 have cC:=aB;have aB:=Q1 aB
 have dO:j=c.n.toNat:=by have:=aB;omega
 have dT:outD y.d=ofD c:=by rw [hy,dO];rfl
 refine Q9<|Xk<|Xk<|X02 ?_;refine dJ _ _<|Zs C fun _ dU=>?_;refine Zm rfl<|Ze (X08 rfl)<|Ze (Vd rfl X0m 0)<|Ze (Vd rfl X0q 3)<|Ze (X0 rfl X9 (g.at 3))<|Ze (X3k rfl rfl rfl)<|Ze (X08 rfl)<|Ze (Vd rfl X0m 0)<|Ze (Vd rfl X0q 3)<|Zo (Vu (vs:=[vi (y.d.t.tmod 8)]) (l':=[vi y.d.n,.slice aI my aJ,.slice aK y.d.ws.length aL,vi (y.d.t.tmod 8),vi y.d.r,.slice aW c.n.toNat aX,.slice aY c.n.toNat aZ]) rfl rfl X0b g) ?_;rintro _ fK ⟨U,hb⟩;have p:=g;have o:=o.oz U p rfl;have a8:=a8.oT U p rfl;have aA:=aA.oT U p rfl;have q:=Below.oy q U aC;have g:=hb;refine Zx dU fun a C _ dW=>?_;refine Zm rfl<|Ze (X08 rfl)<|Ze (Vd rfl X0m 0)<|Ze (X03 (l:=[vi y.d.n,.slice aI my aJ,.slice aK y.d.ws.length aL,vi (y.d.t.tmod 8),vi y.d.r]) rfl X2 ((g.at 0).take 5) rfl)<|Zo (Vw [vi y.d.n,.slice aI my aJ,.slice aK y.d.ws.length aL,vi (y.d.t.tmod 8),vi y.d.r] Xh o) ?_;rintro _ fL ⟨U,hb⟩;have p:=o;have a8:=a8.oT U p rfl;have aA:=aA.oT U p rfl;have q:=Below.oy q U cM;have o:=hb;refine Zt dW fun a C=>?_
 refine Q6 (X6 C (Xp C rfl (ResV.cellN (l:=[vi y.d.n,.slice aI my aJ,.slice aK y.d.ws.length aL,vi (y.d.t.tmod 8),vi y.d.r]) rfl X2 (o.at 0) rfl)) ?_)
 rw [<- dT]
 subst dL
 exact ⟨aI,aJ,aK,aL,rfl,a8,aA,q⟩
theorem Xtr(w0:World)(bV:Nat){bN:TypeId}(a8:Option Addr)(aD:Nat)(J:List Int)(b:Rd w0 w0.heap.size bN encU a8 J)(aI:∀ x ∈ J,0<=x/\x<=255)(a7:AwayR J a8 bV)(t:Nat)(sd:Int)(q:Blk w0 bV 103 [.slice a8 J.length aD,vi (t:Int),.int .u64 sd])(ht:t+100<=100000000) : Ret Tryz.prog 118 [(pZ9 bV)] w0 (fun v w=>∃ (d:Dg) (A:Option Addr) (c1:Nat) (B:Option Addr) (e:Nat) (t1:Nat) (s1:Int),v=.agg #[vi d.n,.slice A d.ns.length c1,.slice B d.ws.length e,vi d.t,vi d.r]/\(InD d/\1<=d.ns.length/\1<=d.ws.length/\d.ns.length<=310/\d.ws.length<=320/\ExQ d)/\(t<=t1/\t1<=t+100)/\Own w w0.heap.size 81 2 encNd A c1 d.ns/\Own w w0.heap.size 83 3 encWr B e d.ws/\Kept bV w0.heap.size w0 w/\Blk w bV 103 [.slice a8 J.length aD,vi (t1:Int),.int .u64 s1]):=by
 have eD:=q.lt;refine enter Tryz.func118 rfl 88 rfl rfl ?_;intro a L
 have D:Kept bV w0.heap.size w0 w0:=Kept.refl _ _ _
 refine Zs L fun _ dM=>?_;refine Zf (Xq (zs:=[vi 0,.slice none 0 0,.slice none 0 0,vi 0,vi 0]) X0h rfl) ?_;rintro _ w1 ⟨b5,rfl,cG,p,o⟩;have cH:=Q0 D.size cG;have dK:=b.away cG;have q:=q.bw p;have b:=b.bw p;have D:=ktr D p;refine Zx dM fun a L _ dN=>?_;refine Zm rfl<|Zm rfl<|Zf (Vc (X26 _ bV a8 aD J b.top aI a7 t sd q 2 (by omega)) X14) ?_;rintro _ w2 ⟨b8,cI,cJ,rfl,dO,dP,hK,G⟩;obtain ⟨wm,E,hm,p⟩:=hK.mid;clear hm;have i:=q;have o:=o.oz E i rfl;have b:=b.onlyA E a7;have D:=D.self E;have o:=o.bw p;have b:=b.bw p;have D:=ktr D p
 clear i p E hK;have q:=G;clear G;refine Ze (Xs rfl rfl (by omega) (by omega))<|Zf (Xn (k:=15) (vs:=[vi 1,vi 1,vi 7,vi 7,vi 5,vi 3,vi 8,vi 9,vi 9,vi 10,vi 10,vi 11,vi 12,vi 2,vi 4]) (zs:=[vi 1,vi 1,vi 7,vi 7,vi 5,vi 3,vi 8,vi 9,vi 9,vi 10,vi 10,vi 11,vi 12,vi 2,vi 4]) rfl Xj X1g rfl rfl) ?_;rintro _ w3 ⟨b7,rfl,cK,p,cL⟩;have eE:=Q0 D.size cK;have dL:=b.away cK;have q:=q.bw p;have o:=o.bw p;have b:=b.bw p;have D:=ktr D p;refine Zf (X1k (vs:=[(pZ9 bV),vi (1+b8),vi 9,.slice (some ⟨b7,0,none⟩) ([1,1,7,7,5,3,8,9,9,10,10,11,12,2,4]).length 15]) rfl Xrq (Xym _ bV a8 aD J b.top aI a7 cI cJ q (1+b8) 9 (some ⟨b7,0,none⟩) 15 ([1,1,7,7,5,3,8,9,9,10,10,11,12,2,4]) (Rd.of_blk cL rfl _ cL.lt) (by omega) (by decide) (by omega) (by simp) (by simp) (by omega))) ?_;rintro _ w4 ⟨f,b9,bA,cM,cN,rfl,aW,dQ,aN,hK,G⟩;have cO:=D.size;obtain ⟨wm,E,hm,p⟩:=hK.mid;clear hm;have i:=q;have o:=o.oz E i rfl;have b:=b.onlyA E a7;have D:=D.self E;have o:=o.bw p;have b:=b.bw p;have D:=ktr D p
 clear i p E hK;have q:=G;clear G
 have aN:=aN.lower cO;clear cO
 have cP:cOk f=true:=Y45 (by omega) (by omega) (by rw [aW.1];exact aW.2.2)
 obtain ⟨dR,eH,eI,eJ,eK⟩:=Y1t cP (by omega)
 have cQ:=Y36 (c:=f) (by omega) (by omega)
 have eF:(spL (ofD f).ns).length<=(ofD f).ns.length:=Xb8 _ _
 refine Zf (X1k (vs:=[.agg #[vi f.n,.slice b9 f.gs.length bA]]) rfl Xrd (Xyu _ f b9 bA aN.rd.top cP)) ?_;rintro _ w5 ⟨aU,aV,bO,bP,rfl,y,M,p⟩;have y:=y.lower D.size;have M:=M.lower D.size;have q:=q.bw p;have o:=o.bw p;have b:=b.bw p;have D:=ktr D p;refine Zf (Xq (zs:=[vi 0,.slice none 0 0,.slice none 0 0,vi 0,vi 0]) X0h rfl) ?_;rintro _ w6 ⟨b14,rfl,bB,p,g⟩
 have cR:b5≠b14:=by have:=o.lt;omega
 have aJ:=Q0 D.size bB;have cS:=b.away bB;have q:=q.bw p;have o:=o.bw p;have b:=b.bw p;have y:=y.bw p;have M:=M.bw p;have D:=ktr D p;refine Zo (Vw [vi ((ofD f).n),.slice aU ((ofD f).ns).length aV,.slice bO ((ofD f).ws).length bP,vi ((ofD f).t),vi ((ofD f).r)] Xh g) ?_;rintro _ w7 ⟨ho,hb⟩;have i:=g;have q:=q.oz ho i rfl;have o:=o.oy ho (by omega);have b:=b.oy ho aJ;have y:=y.oT ho i rfl;have M:=M.oT ho i rfl;have D:=Kept.oy D ho aJ;have g:=hb;refine Zx dN fun a L _ cT=>?_;refine Ze (Vn X2 g)<|Zf (Vc (Xiv _ (ofD f) (((ofD f).ns).length) rfl aU aV y.rd.top bO bP M.rd.top M.cap (by omega)) Xan) ?_;rintro _ w8 ⟨aO,aP,rfl,m,p⟩;have m:=m.lower D.size;have q:=q.bw p;have o:=o.bw p;have g:=g.bw p;have b:=b.bw p;have y:=y.bw p;have M:=M.bw p;have D:=ktr D p;refine Za rfl<|ZX cT fun a L _ cU=>?_;refine Zs L fun _ cV=>?_;refine Zm rfl<|Zf (Vc (X26 _ bV a8 aD J b.top aI a7 cM cN q 3 (by omega)) X14) ?_;rintro _ w9 ⟨cW,cX,cY,rfl,dS,dT,hK,G⟩;obtain ⟨wm,E,hm,p⟩:=hK.mid;clear hm;have i:=q;have o:=o.oz E i rfl;have g:=g.oz E i rfl;have b:=b.onlyA E a7;have y:=y.oT E i rfl;have M:=M.oT E i rfl;have m:=m.oT E i rfl;have D:=D.self E;have o:=o.bw p;have g:=g.bw p;have b:=b.bw p;have y:=y.bw p
 have M:=M.bw p;have m:=m.bw p;have D:=ktr D p
 clear i p E hK;have q:=G;clear G;refine Za rfl<|Zt cV fun a L=>?_;refine Q8<|X01 (σ:=Int×(List Wr)×Nat×Int) (fun (s:Int×(List Wr)×Nat×Int) (a:Act) (w:World)=>match s with|(j,W,t2,s2)=>∃ aF aG,Fr a 88 [(0,(pZ9 bV)),(2,(pZ9 b5)),(3,(pZ9 b14)),(4,.slice aO (spL (ofD f).ns).length aP),(5,vi j)]/\(0<=j/\j<=2)/\(1<=W.length/\W.length+j.toNat<=313)/\(InD ⟨(ofD f).n,(ofD f).ns,W,(ofD f).t,(ofD f).r⟩)/\(t<=t2/\t2+6*j.toNat<=t+80)/\(hdN W+j<=hdN (ofD f).ws+2)/\Blk w bV 103 [.slice a8 J.length aD,vi (t2:Int),.int .u64 s2]/\Blk w b5 39 [vi 0,.slice none 0 0,.slice none 0 0,vi 0,vi 0]/\Blk w b14 39 [vi ((ofD f).n),.slice aU ((ofD f).ns).length aV,.slice aF W.length aG,vi ((ofD f).t),vi ((ofD f).r)]/\Rd w w0.heap.size bN encU a8 J/\Own w w0.heap.size 81 2 encNd aU aV ((ofD f).ns)/\Own w w0.heap.size 3 1 encI aO aP (spL (ofD f).ns)/\Own w w0.heap.size 83 3 encWr aF aG W/\Kept bV w0.heap.size w0 w) (fun (s:Int×(List Wr)×Nat×Int)=>match s with|(j,W,t2,s2)=>j.toNat) (cW,(ofD f).ws,cX,cY) ?_ ?_
 ·exact ⟨bO,bP,L.sb,(by omega),(by omega),dR,(by omega),(by omega),q,o,g,b,y,m,M,D⟩
 rintro ⟨j,W,t2,s2⟩ a dU ⟨aF,aG,L,hj,eL,hI,eM,eO,q,o,g,b,y,m,C,D⟩;refine Q5 fun _ cZ=>?_;refine Q5 fun _ d5=>?_;refine X0a (fun a w=>Fr a 88 [(0,(pZ9 bV)),(2,(pZ9 b5)),(3,(pZ9 b14)),(4,.slice aO (spL (ofD f).ns).length aP),(5,vi j),(26,.bool ((decide (0<j))&&(decide (1<((spL (ofD f).ns).length:Int)))))]/\dU=w) ?_ ?_
 ·refine Zr L<|Zm rfl<|Ze (X2y rfl rfl)<|Zm rfl ?_
  refine Zg 22 rfl (fun a6=>?_) (fun a6=>?_)
  ·have eP:=a6;refine Zv (gW a6) (X3 rfl) ?_;refine Zv (gW a6) (X09 rfl Xj) ?_;refine Zv (gW a6) (X2y rfl rfl) ?_;refine Ze (X5 rfl a6 rfl) ?_;refine Zn fun a L=>?_;exact ⟨L.sub ⟨rfl,rfl,rfl,rfl,rfl,X1 rfl (by simp [a6]),trivial⟩,rfl⟩
  (iterate 3 refine Zp (gP a6) ?_);refine Ze (Xb rfl a6 rfl) ?_;refine Zn fun a L=>?_;exact ⟨L.sub ⟨rfl,rfl,rfl,rfl,rfl,X1 rfl (by simp [a6]),trivial⟩,rfl⟩
 rintro a _ ⟨L,rfl⟩;refine d5 _ _ ?_
 refine Xi L rfl (fun aS=>?_) (fun aS=>?_)
 ·have aC:=aS
  have eQ:0<j/\1<(spL (ofD f).ns).length:=by have h8:=aS;simp at h8;omega
  refine Q7<|cZ _ _<|Q5 fun _ bC=>?_;refine Q8<|Q5 fun _ d6=>?_;refine X04 (some bV) (fun _=>false) mixed ?_;intro eR p;have q:=q.bw p;have o:=o.bw p;have g:=g.bw p;have b:=b.bw p;have y:=y.bw p;have m:=m.bw p;have C:=C.bw p;have D:=ktr D p;refine Yb L<|Yo 0 rfl (fun _=>X3 rfl)<|Yo 1 rfl (fun _=>X3 rfl)<|Yo 2 rfl (fun _=>X3 rfl)<|Yo 3 rfl (fun _=>X09 rfl Xj)<|Yo 7 rfl (fun _=>X3 rfl)<|Yo 8 rfl (fun _=>X3 rfl)<|Yo 9 rfl (fun _=>X3 rfl)<|Yo 10 rfl (fun _=>X09 rfl Xj)<|Y1 4 ?_;refine Yf rfl tv0 (EfW.mono (Vc (X26 _ bV a8 aD J b.top aI a7 t2 s2 q ((spL (ofD f).ns).length:Int) (by omega)) X14) (fun _ _ h=>⟨fun _=>by obtain ⟨Q,bD,bE,rfl,bQ,bR,hK,G⟩:=h;exact hK.keep,h⟩)) ?_;rintro _ eS ⟨Q,bD,bE,rfl,bQ,bR,hK,G⟩;obtain ⟨wm,E,hm,p⟩:=hK.mid;clear hm;have i:=q;have o:=o.oz E i rfl;have g:=g.oz E i rfl;have b:=b.onlyA E a7;have y:=y.oT E i rfl;have m:=m.oT E i rfl;have C:=C.oT E i rfl;have D:=D.self E;have o:=o.bw p;have g:=g.bw p;have b:=b.bw p;have y:=y.bw p;have m:=m.bw p;have C:=C.bw p;have D:=ktr D p
  clear i p E hK;have q:=G;clear G;refine Ya (k:=Q.toNat) (u:=((spL (ofD f).ns).getD Q.toNat 0)) (enc:=encI) (l:=(spL (ofD f).ns)) 5 rfl tv0 q rfl rfl rfl Xj X0b Xd m.rd (Xg (by omega)) (by omega) ?_;intro eT bS b0;refine Yw 6 rfl tv0 (fun w1 h1=>X0 rfl X9 (bS.oy h1 b0)) ?_;refine Y1 11<|Yf rfl tv0 (EfW.mono (Vc (X26 _ bV a8 aD J b.top aI a7 bD bE q ((spL (ofD f).ns).length:Int) (by omega)) X14) (fun _ _ h=>⟨fun _=>by obtain ⟨U,aX,aY,rfl,bT,bU,hK,G⟩:=h;exact hK.keep,h⟩)) ?_;rintro _ w13 ⟨U,aX,aY,rfl,bT,bU,hK,G⟩;obtain ⟨wm,E,hm,p⟩:=hK.mid;clear hm;have i:=q;have o:=o.oz E i rfl;have g:=g.oz E i rfl;have b:=b.onlyA E a7;have y:=y.oT E i rfl;have m:=m.oT E i rfl;have C:=C.oT E i rfl;have D:=D.self E;have o:=o.bw p;have g:=g.bw p;have b:=b.bw p;have y:=y.bw p;have m:=m.bw p;have C:=C.bw p;have D:=ktr D p
  clear i p E hK;have q:=G;clear G;refine Ya (k:=U.toNat) (u:=((spL (ofD f).ns).getD U.toNat 0)) (enc:=encI) (l:=(spL (ofD f).ns)) 12 rfl tv0 q rfl rfl rfl Xj X0b Xd m.rd (Xg (by omega)) (by omega) ?_;intro eU bW b1;refine Yw 13 rfl tv0 (fun w1 h1=>X0 rfl X9 (bW.oy h1 b1)) ?_;refine Yo 14 rfl (fun _=>X0u rfl)<|Yo 15 rfl (fun _=>X0u rfl) ?_;refine Yd fun a L=>?_;refine d6 _ _<|Q5 fun _ d7=>?_;refine X0a (fun a w=>Fr a 88 [(0,(pZ9 bV)),(2,(pZ9 b5)),(3,(pZ9 b14)),(4,.slice aO (spL (ofD f).ns).length aP),(5,vi j),(6,vi ((spL (ofD f).ns).getD Q.toNat 0)),(7,vi ((spL (ofD f).ns).getD U.toNat 0)),(53,.bool ((((spL (ofD f).ns).getD Q.toNat 0) != ((spL (ofD f).ns).getD U.toNat 0))&&(decide ((fdW W ((spL (ofD f).ns).getD Q.toNat 0) ((spL (ofD f).ns).getD U.toNat 0))<0))))]/\Below w13.heap.size w13 w) ?_ ?_
  ·have b2:Below w13.heap.size w13 w13:=Below.refl _ _
   refine Zr L<|Zm rfl<|Zm rfl<|Ze (X1e rfl rfl)<|Zm rfl ?_
   refine Zg 46 rfl (fun H=>?_) (fun H=>?_)
   ·refine Zv (gW H) (Vd rfl Xl 2) ?_;refine Zv (gW H) (X0 rfl X0d (g.at 2)) ?_;refine Zv (gW H) (X3 rfl) ?_;refine Zv (gW H) (X3 rfl) ?_;refine Zk (gW H) (Vc (Xd0 _ aF aG W C.rd.top ((spL (ofD f).ns).getD Q.toNat 0) ((spL (ofD f).ns).getD U.toNat 0) (by omega)) X6x) ?_;rintro _ w14 ⟨rfl,p⟩;have D:=ktr D p;have b2:=btr b2 p;refine Zv (gW H) (X0n rfl rfl) ?_;refine Ze (X5 rfl H rfl) ?_;refine Zn fun a L=>?_
    have bX:Below w13.heap.size w13 w14:=b2
    exact ⟨L.sub ⟨rfl,rfl,rfl,rfl,rfl,rfl,rfl,X1 rfl (by first|rfl|(simp only [aC,H,bs];done)|simp [aC,H]),trivial⟩,bX⟩
   (iterate 6 refine Zp (gP H) ?_);refine Ze (Xb rfl H rfl) ?_;refine Zn fun a L=>?_
   have bX:Below w13.heap.size w13 w13:=b2
   exact ⟨L.sub ⟨rfl,rfl,rfl,rfl,rfl,rfl,rfl,X1 rfl (by first|rfl|(simp only [aC,H,bs];done)|simp [aC,H]),trivial⟩,bX⟩
  rintro a eV ⟨L,p⟩;have q:=q.bw p;have o:=o.bw p;have g:=g.bw p;have b:=b.bw p;have y:=y.bw p;have m:=m.bw p;have C:=C.bw p;have D:=ktr D p;refine d7 _ _ ?_
  refine Xi L rfl (fun aK=>?_) (fun aK=>?_)
  ·have bY:=aK
   have d8:=Xe6 (ns:=(ofD f).ns) (Xg (d:=(0:Int)) (l:=(spL (ofD f).ns)) (k:=Q.toNat) (by omega))
   have d9:=Xe6 (ns:=(ofD f).ns) (Xg (d:=(0:Int)) (l:=(spL (ofD f).ns)) (k:=U.toNat) (by omega))
   have dW:(((spL (ofD f).ns).getD Q.toNat 0) != ((spL (ofD f).ns).getD U.toNat 0))=true:=by have h8:=aK;rw [Qd] at h8;exact h8.1
   have dX:fdW W ((spL (ofD f).ns).getD Q.toNat 0) ((spL (ofD f).ns).getD U.toNat 0)<0:=by have h8:=aK;rw [Qd] at h8;exact Q2 h8.2
   refine X04 (some bV) (fun j=>[9].contains j) mixed ?_;intro eX p;have q:=q.bw p;have o:=o.bw p;have g:=g.bw p;have b:=b.bw p;have y:=y.bw p;have m:=m.bw p;have C:=C.bw p;have D:=ktr D p;refine Yb L<|Yo 0 rfl (fun _=>Vd rfl Xl 2) ?_;refine Yw 1 rfl tv0 (fun w1 h1=>X0 rfl X0d ((g.oz h1 q rfl).at 2)) ?_;refine Yo 2 rfl (fun _=>X3 rfl)<|Yo 3 rfl (fun _=>X3 rfl)<|Yo 4 rfl (fun _=>X3 rfl)<|Y1 5 ?_;refine Yf rfl tv0 (EfW.mono (Vc (X26 _ bV a8 aD J b.top aI a7 aX aY q 3 (by omega)) X14) (fun _ _ h=>⟨fun _=>by obtain ⟨aL,bF,bG,rfl,bZ,c5,hK,G⟩:=h;exact hK.keep,h⟩)) ?_;rintro _ eY ⟨aL,bF,bG,rfl,bZ,c5,hK,G⟩;obtain ⟨wm,E,hm,p⟩:=hK.mid;clear hm;have i:=q;have o:=o.oz E i rfl;have g:=g.oz E i rfl;have b:=b.onlyA E a7;have y:=y.oT E i rfl;have m:=m.oT E i rfl;have C:=C.oT E i rfl;have D:=D.self E;have o:=o.bw p;have g:=g.bw p;have b:=b.bw p;have y:=y.bw p;have m:=m.bw p;have C:=C.bw p;have D:=ktr D p
   clear i p E hK;have q:=G;clear G;refine Yo 6 rfl (fun _=>X2y rfl rfl)<|Y1 7 ?_;refine Yf rfl tv0 (EfW.mono (Vc (X94 _ aF aG W C.rd.top ((spL (ofD f).ns).getD Q.toNat 0) ((spL (ofD f).ns).getD U.toNat 0) (decide (0<aL)) (by omega) C.cap) X4q) (fun _ _ h=>⟨fun _=>by obtain ⟨b3,b4,rfl,aH,p⟩:=h;exact Keep.of_below p,h⟩)) ?_;rintro _ eZ ⟨b3,b4,rfl,aH,p⟩;have aH:=aH.lower D.size;have q:=q.bw p;have o:=o.bw p;have g:=g.bw p;have b:=b.bw p;have y:=y.bw p;have m:=m.bw p;have D:=ktr D p;refine Yo 8 rfl (fun _=>Vd rfl Xl 2)<|Y1 9 ?_;refine Yh rfl tv0 rfl (Vu (vs:=[.slice b3 (jnW W ((spL (ofD f).ns).getD Q.toNat 0) ((spL (ofD f).ns).getD U.toNat 0) (decide (0<aL))).length b4]) (l':=[vi ((ofD f).n),.slice aU ((ofD f).ns).length aV,.slice b3 (jnW W ((spL (ofD f).ns).getD Q.toNat 0) ((spL (ofD f).ns).getD U.toNat 0) (decide (0<aL))).length b4,vi ((ofD f).t),vi ((ofD f).r)]) rfl rfl X1f g) ?_;rintro _ f0 ⟨ho,hb⟩;have i:=g;have q:=q.oz ho i rfl;have o:=o.oy ho (by omega);have b:=b.oy ho aJ;have y:=y.oT ho i rfl;have m:=m.oT ho i rfl;have aH:=aH.oT ho i rfl;have D:=Kept.oy D ho aJ;have g:=hb;refine Yd fun a L=>?_;refine Xa<|bC _ _<|Zr L<|Zm rfl<|Ze (X1h rfl rfl (by omega) (by omega))<|Za rfl ?_;refine Zn fun a L=>?_;refine Xc ?_;exact ⟨(j-1,(jnW W ((spL (ofD f).ns).getD Q.toNat 0) ((spL (ofD f).ns).getD U.toNat 0) (decide (0<aL))),bF,bG),⟨b3,b4,L.sb,(by omega),(by rw [X3u];omega),(Y2y hI ⟨d8.1,by omega⟩ ⟨d9.1,by omega⟩ dW dX _),(by omega),(by rw [X8n];split<;>omega),q,o,g,b,y,m,aH,D⟩,(by first|omega|(dsimp only;omega))⟩
  have bY:=aK;refine Q7<|Xa<|bC _ _<|Zr L ?_;refine Zm rfl<|Ze (X1h rfl rfl (by omega) (by omega))<|Za rfl ?_;refine Zn fun a L=>?_;refine Xc ?_;exact ⟨(j-1,W,aX,aY),⟨aF,aG,L.sb,(by omega),(by have:=X3u W 0 0 true;omega),hI,(by omega),(by omega),q,o,g,b,y,m,C,D⟩,(by first|omega|(dsimp only;omega))⟩
 have aC:=aS;refine Q9<|Xk<|Xk<|X02 ?_;refine cU _ _<|Q5 fun _ dA=>?_;refine Zs L fun _ dB=>?_;refine Zm rfl<|Zf (Vc (X26 _ bV a8 aD J b.top aI a7 t2 s2 q 2 (by omega)) X14) ?_;rintro _ f3 ⟨dC,dD,dE,rfl,dY,eA,hK,G⟩;obtain ⟨wm,E,hm,p⟩:=hK.mid;clear hm;have i:=q;have o:=o.oz E i rfl;have g:=g.oz E i rfl;have b:=b.onlyA E a7;have y:=y.oT E i rfl;have m:=m.oT E i rfl;have C:=C.oT E i rfl;have D:=D.self E;have o:=o.bw p;have g:=g.bw p;have b:=b.bw p;have y:=y.bw p;have m:=m.bw p;have C:=C.bw p;have D:=ktr D p
 clear i p E hK;have q:=G;clear G;refine Za rfl<|Zt dB fun a L=>?_;refine Q8<|X01 (σ:=Int×(List Nd)×Nat×Nat×Int) (fun (s:Int×(List Nd)×Nat×Nat×Int) (a:Act) (w:World)=>match s with|(j2,N,mz,t3,s3)=>∃ aQ aR,Fr a 88 [(0,(pZ9 bV)),(2,(pZ9 b5)),(3,(pZ9 b14)),(4,.slice aO (spL (ofD f).ns).length aP),(8,vi j2)]/\(0<=j2/\j2<=1)/\(mz=N.length)/\(N.length=(ofD f).ns.length)/\(InD ⟨(ofD f).n,N,W,(ofD f).t,(ofD f).r⟩)/\(t<=t3/\t3+4*j2.toNat<=t+90)/\Blk w bV 103 [.slice a8 J.length aD,vi (t3:Int),.int .u64 s3]/\Blk w b5 39 [vi 0,.slice none 0 0,.slice none 0 0,vi 0,vi 0]/\Blk w b14 39 [vi ((ofD f).n),.slice aQ mz aR,.slice aF W.length aG,vi ((ofD f).t),vi ((ofD f).r)]/\Rd w w0.heap.size bN encU a8 J/\Own w w0.heap.size 3 1 encI aO aP (spL (ofD f).ns)/\Own w w0.heap.size 83 3 encWr aF aG W/\Own w w0.heap.size 81 2 encNd aQ aR N/\Kept bV w0.heap.size w0 w) (fun (s:Int×(List Nd)×Nat×Nat×Int)=>match s with|(j2,N,mz,t3,s3)=>j2.toNat) (dC,(ofD f).ns,(ofD f).ns.length,dD,dE) ?_ ?_
 ·exact ⟨aU,aV,L.sb,(by omega),rfl,rfl,hI,(by omega),q,o,g,b,m,C,y,D⟩
 rintro ⟨j2,N,mz,t3,s3⟩ a eB ⟨aQ,aR,L,f5,cA,eC,dF,f7,q,o,g,b,m,C,I,D⟩;refine Q5 fun _ dG=>?_;refine Q5 fun _ dH=>?_;refine X0a (fun a w=>Fr a 88 [(0,(pZ9 bV)),(2,(pZ9 b5)),(3,(pZ9 b14)),(4,.slice aO (spL (ofD f).ns).length aP),(8,vi j2),(71,.bool ((decide (0<j2))&&(decide (0<((spL (ofD f).ns).length:Int)))))]/\eB=w) ?_ ?_
 ·refine Zr L<|Zm rfl<|Ze (X2y rfl rfl)<|Zm rfl ?_
  refine Zg 67 rfl (fun aA=>?_) (fun aA=>?_)
  ·refine Zv (gW aA) (X3 rfl) ?_;refine Zv (gW aA) (X09 rfl Xj) ?_;refine Zv (gW aA) (X2y rfl rfl) ?_;refine Ze (X5 rfl aA rfl) ?_;refine Zn fun a L=>?_;exact ⟨L.sub ⟨rfl,rfl,rfl,rfl,rfl,X1 rfl (by simp [aC,aA]),trivial⟩,rfl⟩
  (iterate 3 refine Zp (gP aA) ?_);refine Ze (Xb rfl aA rfl) ?_;refine Zn fun a L=>?_;exact ⟨L.sub ⟨rfl,rfl,rfl,rfl,rfl,X1 rfl (by simp [aC,aA]),trivial⟩,rfl⟩
 rintro a _ ⟨L,rfl⟩;refine dH _ _ ?_
 refine Xi L rfl (fun aT=>?_) (fun aT=>?_)
 ·have cB:=aT
  have f8:0<j2/\0<(spL (ofD f).ns).length:=by have h8:=aT;simp at h8;omega
  refine Q7<|dG _ _<|Q5 fun _ dI=>?_;refine Q8<|X04 (some bV) (fun j=>[13].contains j) mixed ?_;intro f9 p;have q:=q.bw p;have o:=o.bw p;have g:=g.bw p;have b:=b.bw p;have m:=m.bw p;have C:=C.bw p;have I:=I.bw p;have D:=ktr D p;refine Yb L<|Yo 0 rfl (fun _=>Vd rfl Xf 1) ?_;refine Yw 1 rfl tv0 (fun w1 h1=>X0 rfl Xz ((g.oz h1 q rfl).at 1)) ?_;refine Yo 2 rfl (fun _=>X3 rfl)<|Yo 3 rfl (fun _=>X3 rfl)<|Yo 4 rfl (fun _=>X3 rfl)<|Yo 5 rfl (fun _=>X09 rfl Xj)<|Yo 9 rfl (fun _=>X3 rfl)<|Y1 6 ?_;refine Yf rfl tv0 (EfW.mono (Vc (X26 _ bV a8 aD J b.top aI a7 t3 s3 q ((spL (ofD f).ns).length:Int) (by omega)) X14) (fun _ _ h=>⟨fun _=>by obtain ⟨aB,bH,bJ,rfl,cC,cD,hK,G⟩:=h;exact hK.keep,h⟩)) ?_;rintro _ fA ⟨aB,bH,bJ,rfl,cC,cD,hK,G⟩;obtain ⟨wm,E,hm,p⟩:=hK.mid;clear hm;have i:=q;have o:=o.oz E i rfl;have g:=g.oz E i rfl;have b:=b.onlyA E a7;have m:=m.oT E i rfl;have C:=C.oT E i rfl;have I:=I.oT E i rfl;have D:=D.self E;have o:=o.bw p;have g:=g.bw p;have b:=b.bw p;have m:=m.bw p;have C:=C.bw p;have I:=I.bw p;have D:=ktr D p
  clear i p E hK;have q:=G;clear G
  have eG:=Xe6 (ns:=(ofD f).ns) (Xg (d:=(0:Int)) (l:=(spL (ofD f).ns)) (k:=aB.toNat) (by omega))
  refine Ya (k:=aB.toNat) (u:=((spL (ofD f).ns).getD aB.toNat 0)) (enc:=encI) (l:=(spL (ofD f).ns)) 7 rfl tv0 q rfl rfl rfl Xj X0b Xd m.rd (Xg (by omega)) (by omega) ?_;intro fB cE b6;refine Yw 8 rfl tv0 (fun w1 h1=>X0 rfl X9 (cE.oy h1 b6)) ?_;refine Y1 10<|Yf rfl tv0 (EfW.mono (Vc (X26 _ bV a8 aD J b.top aI a7 bH bJ q 8 (by omega)) X14) (fun _ _ h=>⟨fun _=>by obtain ⟨aM,bK,bL,rfl,aZ,cF,hK,G⟩:=h;exact hK.keep,h⟩)) ?_;rintro _ fC ⟨aM,bK,bL,rfl,aZ,cF,hK,G⟩;obtain ⟨wm,E,hm,p⟩:=hK.mid;clear hm;have i:=q;have o:=o.oz E i rfl;have g:=g.oz E i rfl;have b:=b.onlyA E a7;have m:=m.oT E i rfl;have C:=C.oT E i rfl;have I:=I.oT E i rfl;have D:=D.self E;have o:=o.bw p;have g:=g.bw p;have b:=b.bw p;have m:=m.bw p;have C:=C.bw p;have I:=I.bw p;have D:=ktr D p
  clear i p E hK;have q:=G;clear G;refine Yo 11 rfl (fun _=>Xx (k:=((spL (ofD f).ns).getD aB.toNat 0).toNat) rfl rfl Xm X06 I cA (by omega) (by omega))<|Yo 12 rfl (fun _=>X0y rfl X07 (m':=((spL (ofD f).ns).getD aB.toNat 0).toNat*2+1) rfl)<|Y1 13 ?_;refine Yh rfl tv0 rfl (X11 (enc:=encNd) (l:=N) (vs:=[vi aM]) (x0:=(N.getD ((spL (ofD f).ns).getD aB.toNat 0).toNat nZ)) (u:=(⟨(N.getD ((spL (ofD f).ns).getD aB.toNat 0).toNat nZ).k,aM⟩ : Nd)) (k:=((spL (ofD f).ns).getD aB.toNat 0).toNat) (j:=1) (n1:=1) rfl rfl X0b I Xv rfl rfl rfl rfl (by decide) (Xg (d:=nZ) (by omega)) rfl) ?_;rintro _ fE ⟨bM,hg⟩;have aE:=I;have q:=q.appT aE hg rfl;have o:=o.appT aE hg rfl;have g:=g.appT aE hg rfl;have b:=b.appB aE hg (Qb _);have m:=m.appT aE hg rfl;have C:=C.appT aE hg rfl;have D:=Kept.app D aE hg (Qb _) D.size
  clear aE hg;clear I;have I:=bM;clear bM;refine Yd fun a L=>?_;refine Xa<|dI _ _<|Zr L<|Zm rfl<|Ze (X1h rfl rfl (by omega) (by omega))<|Za rfl ?_;refine Zn fun a L=>?_;refine Xc ?_;exact ⟨(j2-1,(N.set (((spL (ofD f).ns).getD aB.toNat 0).toNat) (⟨(N.getD ((spL (ofD f).ns).getD aB.toNat 0).toNat nZ).k,aM⟩ : Nd)),mz,bK,bL),⟨aQ,aR,L.sb,(by omega),(cA.trans List.length_set.symm),(by rw [List.length_set];exact eC),(Y41 dF _ ⟨aZ.1,by show aM<=7;omega⟩),(by omega),q,o,g,b,m,C,I,D⟩,(by first|omega|(dsimp only;omega))⟩
 have cB:=aT;refine Q9<|Xk<|Xk<|X02 ?_;refine dA _ _<|Zs L fun _ dJ=>?_;refine Ze (Vn X2 g)<|Zo (Vw [vi ((ofD f).n),.slice aQ mz aR,.slice aF W.length aG,vi ((ofD f).t),vi ((ofD f).r)] Xh o) ?_;rintro _ fF ⟨ho,hb⟩;have i:=o;have q:=q.oz ho i rfl;have C:=C.oT ho i rfl;have I:=I.oT ho i rfl;have D:=Kept.oy D ho cH;have o:=hb;refine Zt dJ fun a L=>?_
 refine Q6 (X6 L (Xp L rfl (ResV.cellN (l:=[vi ((ofD f).n),.slice aQ mz aR,.slice aF W.length aG,vi ((ofD f).t),vi ((ofD f).r)]) rfl X2 (o.at 0) rfl)) ?_)
 subst cA
 exact ⟨(⟨(ofD f).n,N,W,(ofD f).t,(ofD f).r⟩ : Dg),aQ,aR,aF,aG,_,_,(by first|rfl|(simp only [List.length_set])),⟨dF,by show 1<=N.length;omega,by show 1<=W.length;omega,by show N.length<=310;omega,by show W.length<=320;omega,cQ.1,by show -1000<=hdN W-(ofD f).r/\hdN W-(ofD f).r<=31;have h8:=Xck W;have h9:hdN (ofD f).ws-(ofD f).r<=29:=cQ.2.2;omega⟩,⟨by omega,by omega⟩,I,C,D,q⟩
theorem Y2g(w0:World)(bV:Nat){b4:TypeId}(a8:Option Addr)(aD:Nat)(H:List Int)(c:Rd w0 w0.heap.size b4 encU a8 H)(aO:∀ x ∈ H,0<=x/\x<=255)(aC:AwayR H a8 bV)(t:Nat)(sd:Int)(q:Blk w0 bV 103 [.slice a8 H.length aD,vi (t:Int),.int .u64 sd])(ht:t+130<=100000000) : Ret Tryz.prog 63 [(pZ9 bV)] w0 (fun v w=>∃ (d:Dg) (A:Option Addr) (c1:Nat) (B:Option Addr) (e:Nat) (t1:Nat) (s1:Int),v=.agg #[vi d.n,.slice A d.ns.length c1,.slice B d.ws.length e,vi d.t,vi d.r]/\(InD d/\ExQ d)/\(t<=t1/\t1<=t+130)/\Rd w w.heap.size 81 encNd A d.ns/\Rd w w.heap.size 83 encWr B d.ws/\d.ws.length<=e/\Kept bV w0.heap.size w0 w/\Blk w bV 103 [.slice a8 H.length aD,vi (t1:Int),.int .u64 s1]):=by
 have bX:=q.lt;refine enter Tryz.func63 rfl 35 rfl rfl ?_;intro a M
 have E:Kept bV w0.heap.size w0 w0:=Kept.refl _ _ _
 refine Zs M fun _ bN=>?_;refine Zf (Xq (zs:=[vi 0,.slice none 0 0,.slice none 0 0,vi 0,vi 0]) X0h rfl) ?_;rintro _ w1 ⟨b5,rfl,b6,y,p⟩;have b7:=Q0 E.size b6;have bM:=c.away b6;have q:=q.bw y;have c:=c.bw y;have E:=ktr E y;refine Zx bN fun a M _ bO=>?_;refine Zm rfl<|Zf (Vc (Xtr _ bV a8 aD H c.top aO aC t sd q (by omega)) Xgz) ?_;rintro _ w2 ⟨aG,b8,b9,bA,bB,bP,bQ,rfl,aR,bY,I,G,hK,N⟩;have aH:=E.size;have aH:=E.size;obtain ⟨wm,L,hm,y⟩:=hK.mid;clear hm;have m:=q;have p:=p.oz L m rfl;have c:=c.onlyA L aC;have E:=E.self L;have p:=p.bw y;have c:=c.bw y;have E:=ktr E y
 clear m y L hK;have q:=N;clear N
 have I:=I.lower aH;clear aH
 have G:=G.lower aH;clear aH;refine Zf (Xq (zs:=[vi 0,.slice none 0 0,.slice none 0 0,vi 0,vi 0]) X0h rfl) ?_;rintro _ w3 ⟨b11,rfl,aS,y,i⟩
 have bC:b5≠b11:=by have:=p.lt;omega
 have aB:=Q0 E.size aS;have bD:=c.away aS;have q:=q.bw y;have p:=p.bw y;have c:=c.bw y;have I:=I.bw y;have G:=G.bw y;have E:=ktr E y;refine Zo (Vw [vi aG.n,.slice b8 aG.ns.length b9,.slice bA aG.ws.length bB,vi aG.t,vi aG.r] Xh i) ?_;rintro _ w4 ⟨ho,hb⟩;have m:=i;have q:=q.oz ho m rfl;have p:=p.oy ho (by omega);have c:=c.oy ho aB;have I:=I.oT ho m rfl;have G:=G.oT ho m rfl;have E:=Kept.oy E ho aB;have i:=hb;refine ZX bO fun a M _ bE=>?_;refine Zs M fun _ bF=>?_;refine Zm rfl<|Zf (Vc (X26 _ bV a8 aD H c.top aO aC bP bQ q 5 (by omega)) X14) ?_;rintro _ w5 ⟨bR,bS,bT,rfl,bZ,c5,hK,N⟩;obtain ⟨wm,L,hm,y⟩:=hK.mid;clear hm;have m:=q;have p:=p.oz L m rfl;have i:=i.oz L m rfl;have c:=c.onlyA L aC;have I:=I.oT L m rfl;have G:=G.oT L m rfl;have E:=E.self L;have p:=p.bw y;have i:=i.bw y;have c:=c.bw y;have I:=I.bw y;have G:=G.bw y;have E:=ktr E y
 clear m y L hK;have q:=N;clear N;refine Za rfl<|Zt bF fun a M=>?_;refine Q8<|X01 (σ:=Int×Dg×Nat×Int) (fun (s:Int×Dg×Nat×Int) (a:Act) (w:World)=>match s with|(j,o,t2,s2)=>∃ U aA W a6,Fr a 35 [(0,(pZ9 bV)),(2,(pZ9 b5)),(3,(pZ9 b11)),(4,vi j)]/\(0<=j/\j<=4)/\(InD o)/\(t<=t2/\t2+4*j.toNat<=t+120)/\(ExQ o)/\Blk w bV 103 [.slice a8 H.length aD,vi (t2:Int),.int .u64 s2]/\Blk w b5 39 [vi 0,.slice none 0 0,.slice none 0 0,vi 0,vi 0]/\Blk w b11 39 [vi o.n,.slice U o.ns.length aA,.slice W o.ws.length a6,vi o.t,vi o.r]/\Rd w w0.heap.size b4 encU a8 H/\Rd w w.heap.size 81 encNd U o.ns/\Rd w w.heap.size 83 encWr W o.ws/\o.ws.length<=a6/\Kept bV w0.heap.size w0 w) (fun (s:Int×Dg×Nat×Int)=>match s with|(j,o,t2,s2)=>j.toNat) (bR,aG,bS,bT) ?_ ?_
 ·exact ⟨b8,b9,bA,bB,M.sb,(by omega),aR.1,(by omega),aR.2.2.2.2.2,q,p,i,c,I.rd,G.rd,G.cap,E⟩
 rintro ⟨j,o,t2,s2⟩ a w6 ⟨U,aA,W,a6,M,hj,hI,cA,hX,q,p,i,c,C,D,aP,E⟩;refine Q5 fun _ bG=>?_;refine Zs M fun _ bH=>?_;refine Zm rfl<|Ze (X2y rfl rfl)<|Zt bH fun a M=>?_
 refine Xi M rfl (fun a7=>?_) (fun a7=>?_)
 ·have aX:=a7;have a7:=Q2 a7;refine Q7<|bG _ _<|Q5 fun _ aT=>?_;refine Q8<|Q5 fun _ bJ=>?_;refine X04 (some bV) (fun _=>false) mixed ?_;intro w7 y;have q:=q.bw y;have p:=p.bw y;have i:=i.bw y;have c:=c.bw y;have C:=C.bw y;have D:=D.bw y;have E:=ktr E y;refine Yb M<|Yw 0 rfl tv0 (fun w1 h1=>X03 (l:=[vi o.n,.slice U o.ns.length aA,.slice W o.ws.length a6,vi o.t,vi o.r]) rfl X2 ((i.oz h1 q rfl).at 0) rfl) ?_;refine Yo 1 rfl (fun _=>X3 rfl)<|Y1 2 ?_;refine Yf rfl tv0 (EfW.mono (Vc (X26 _ bV a8 aD H c.top aO aC t2 s2 q 5 (by omega)) X14) (fun _ _ h=>⟨fun _=>by obtain ⟨f,aI,aJ,rfl,aY,aZ,hK,N⟩:=h;exact hK.keep,h⟩)) ?_;rintro _ w8 ⟨f,aI,aJ,rfl,aY,aZ,hK,N⟩;obtain ⟨wm,L,hm,y⟩:=hK.mid;clear hm;have m:=q;have p:=p.oz L m rfl;have i:=i.oz L m rfl;have c:=c.onlyA L aC;have C:=C.oT L m rfl;have D:=D.oT L m rfl;have E:=E.self L;have p:=p.bw y;have i:=i.bw y;have c:=c.bw y;have C:=C.bw y;have D:=D.bw y;have E:=ktr E y
  clear m y L hK;have q:=N;clear N;refine Yo 3 rfl (fun _=>Xs rfl rfl (by omega) (by omega))<|Y1 4 ?_;refine Yf rfl tv0 (EfW.mono (Vc (Xtq _ o o.ns.length rfl U aA C.top W a6 D.top aP (1+f) hI) Xfr) (fun _ _ h=>⟨fun _=>by obtain ⟨bU,bW,rfl,J,y⟩:=h;exact Keep.of_below y,h⟩)) ?_;rintro _ w9 ⟨bU,bW,rfl,J,y⟩;have J:=J.lower E.size;have q:=q.bw y;have p:=p.bw y;have i:=i.bw y;have c:=c.bw y;have C:=C.bw y;have D:=D.bw y;have E:=ktr E y;refine Yo 5 rfl (fun _=>X0u rfl) ?_;refine Yd fun a M=>?_;refine bJ _ _<|Zs M fun _ bK=>?_;refine Zm rfl<|Ze (X09 rfl X13)<|Ze (X2y rfl rfl)<|Zt bK fun a M=>?_
  refine Xi M rfl (fun Q=>?_) (fun Q=>?_)
  ·have b0:=Q;have Q:=Q2 Q
   have cB:0<(alL o (1+f)).length:=by have h8:=Q;omega
   refine X04 (some bV) (fun j=>[12].contains j) mixed ?_;intro cC y;have q:=q.bw y;have p:=p.bw y;have i:=i.bw y;have c:=c.bw y;have C:=C.bw y;have D:=D.bw y;have J:=J.bw y;have E:=ktr E y;refine Yb M<|Yw 0 rfl tv0 (fun w1 h1=>X03 (l:=[vi o.n,.slice U o.ns.length aA,.slice W o.ws.length a6,vi o.t,vi o.r]) rfl X2 ((i.oz h1 q rfl).at 0) rfl) ?_;refine Yo 1 rfl (fun _=>X3 rfl)<|Yo 2 rfl (fun _=>X3 rfl)<|Yo 3 rfl (fun _=>X3 rfl)<|Yo 4 rfl (fun _=>X09 rfl X13)<|Y1 5 ?_;refine Yf rfl tv0 (EfW.mono (Vc (X26 _ bV a8 aD H c.top aO aC aI aJ q ((alL o (1+f)).length:Int) (by omega)) X14) (fun _ _ h=>⟨fun _=>by obtain ⟨g,aU,aV,rfl,b1,b2,hK,N⟩:=h;exact hK.keep,h⟩)) ?_;rintro _ cD ⟨g,aU,aV,rfl,b1,b2,hK,N⟩;obtain ⟨wm,L,hm,y⟩:=hK.mid;clear hm;have m:=q;have p:=p.oz L m rfl;have i:=i.oz L m rfl;have c:=c.onlyA L aC;have C:=C.oT L m rfl;have D:=D.oT L m rfl;have J:=J.oT L m rfl;have E:=E.self L;have p:=p.bw y;have i:=i.bw y;have c:=c.bw y;have C:=C.bw y;have D:=D.bw y;have J:=J.bw y;have E:=ktr E y
   clear m y L hK;have q:=N;clear N;refine Ya (k:=g.toNat) (u:=((alL o (1+f)).getD g.toNat rwZ)) (enc:=encRz) (l:=(alL o (1+f))) 6 rfl tv0 q rfl rfl rfl X13 X27 X2l J.rd (Xg (d:=rwZ) (by omega)) (by omega) ?_;intro cE b3 aQ;refine Yw 7 rfl tv0 (fun w1 h1=>X03 (l:=[vi (((alL o (1+f)).getD g.toNat rwZ).u),vi (((alL o (1+f)).getD g.toNat rwZ).a),vi (((alL o (1+f)).getD g.toNat rwZ).b)]) rfl X1n (b3.oy h1 aQ) rfl) ?_;refine Y1 8<|Yf rfl tv0 (EfW.mono (Vc (Xmf _ o o.ns.length rfl U aA C.top W a6 D.top aP ((alL o (1+f)).getD g.toNat rwZ) hI) Xbo) (fun _ _ h=>⟨fun _=>by obtain ⟨aK,aL,aM,aN,rfl,aE,aF,aW,y⟩:=h;exact Keep.of_below y,h⟩)) ?_;rintro _ cF ⟨aK,aL,aM,aN,rfl,aE,aF,aW,y⟩;have q:=q.bw y;have p:=p.bw y;have i:=i.bw y;have c:=c.bw y;have E:=ktr E y;refine Yo 9 rfl (fun _=>X3 rfl)<|Yo 10 rfl (fun _=>Xo (vs:=[.agg #[vi ((if (apC o ((alL o (1+f)).getD g.toNat rwZ))=true then apD o ((alL o (1+f)).getD g.toNat rwZ) else zD).n),.slice aK ((if (apC o ((alL o (1+f)).getD g.toNat rwZ))=true then apD o ((alL o (1+f)).getD g.toNat rwZ) else zD).ns).length aL,.slice aM ((if (apC o ((alL o (1+f)).getD g.toNat rwZ))=true then apD o ((alL o (1+f)).getD g.toNat rwZ) else zD).ws).length aN,vi ((if (apC o ((alL o (1+f)).getD g.toNat rwZ))=true then apD o ((alL o (1+f)).getD g.toNat rwZ) else zD).t),vi ((if (apC o ((alL o (1+f)).getD g.toNat rwZ))=true then apD o ((alL o (1+f)).getD g.toNat rwZ) else zD).r)],.bool (apC o ((alL o (1+f)).getD g.toNat rwZ))]) rfl rfl)<|Yo 11 rfl (fun _=>Xo (vs:=[.agg #[vi ((if (apC o ((alL o (1+f)).getD g.toNat rwZ))=true then apD o ((alL o (1+f)).getD g.toNat rwZ) else zD).n),.slice aK ((if (apC o ((alL o (1+f)).getD g.toNat rwZ))=true then apD o ((alL o (1+f)).getD g.toNat rwZ) else zD).ns).length aL,.slice aM ((if (apC o ((alL o (1+f)).getD g.toNat rwZ))=true then apD o ((alL o (1+f)).getD g.toNat rwZ) else zD).ws).length aN,vi ((if (apC o ((alL o (1+f)).getD g.toNat rwZ))=true then apD o ((alL o (1+f)).getD g.toNat rwZ) else zD).t),vi ((if (apC o ((alL o (1+f)).getD g.toNat rwZ))=true then apD o ((alL o (1+f)).getD g.toNat rwZ) else zD).r)],.bool (apC o ((alL o (1+f)).getD g.toNat rwZ))]) rfl rfl)<|Y1 12 ?_
   refine Yh rfl tv0 rfl (Vw [vi ((if (apC o ((alL o (1+f)).getD g.toNat rwZ))=true then apD o ((alL o (1+f)).getD g.toNat rwZ) else zD).n),.slice aK ((if (apC o ((alL o (1+f)).getD g.toNat rwZ))=true then apD o ((alL o (1+f)).getD g.toNat rwZ) else zD).ns).length aL,.slice aM ((if (apC o ((alL o (1+f)).getD g.toNat rwZ))=true then apD o ((alL o (1+f)).getD g.toNat rwZ) else zD).ws).length aN,vi ((if (apC o ((alL o (1+f)).getD g.toNat rwZ))=true then apD o ((alL o (1+f)).getD g.toNat rwZ) else zD).t),vi ((if (apC o ((alL o (1+f)).getD g.toNat rwZ))=true then apD o ((alL o (1+f)).getD g.toNat rwZ) else zD).r)] Xh i) ?_;rintro _ cG ⟨ho,hb⟩;have m:=i;have q:=q.oz ho m rfl;have p:=p.oy ho (by omega);have c:=c.oy ho aB;have aE:=aE.oT ho m rfl;have aF:=aF.oT ho m rfl;have E:=Kept.oy E ho aB;have i:=hb;refine Yd fun a M=>?_;refine Xa<|aT _ _<|Zr M<|Zm rfl<|Ze (X1h rfl rfl (by omega) (by omega))<|Za rfl ?_;refine Zn fun a M=>?_;refine Xc ?_;exact ⟨(j-1,(if (apC o ((alL o (1+f)).getD g.toNat rwZ))=true then apD o ((alL o (1+f)).getD g.toNat rwZ) else zD),aU,aV),⟨aK,aL,aM,aN,M.sb,(by omega),Y23,(by omega),(Xx7 hI hX),q,p,i,c,aE.top,aF.top,aW,E⟩,(by first|omega|(dsimp only;omega))⟩
  have b0:=Q;have Q:=Q1 Q;refine Q7<|Xa<|aT _ _<|Zr M ?_;refine Zm rfl<|Ze (X1h rfl rfl (by omega) (by omega))<|Za rfl ?_;refine Zn fun a M=>?_;refine Xc ?_;exact ⟨(j-1,o,aI,aJ),⟨U,aA,W,a6,M.sb,(by omega),hI,(by omega),hX,q,p,i,c,C.top,D.top,aP,E⟩,(by first|omega|(dsimp only;omega))⟩
 have aX:=a7;have a7:=Q1 a7;refine Q9<|Xk<|Xk<|X02 ?_;refine bE _ _<|Zs M fun _ bL=>?_;refine Ze (Vn X2 i)<|Zo (Vw [vi o.n,.slice U o.ns.length aA,.slice W o.ws.length a6,vi o.t,vi o.r] Xh p) ?_;rintro _ cH ⟨ho,hb⟩;have m:=p;have q:=q.oz ho m rfl;have C:=C.oT ho m rfl;have D:=D.oT ho m rfl;have E:=Kept.oy E ho b7;have p:=hb;refine Zt bL fun a M=>?_
 refine Q6 (X6 M (Xp M rfl (ResV.cellN (l:=[vi o.n,.slice U o.ns.length aA,.slice W o.ws.length a6,vi o.t,vi o.r]) rfl X2 (p.at 0) rfl)) ?_)
 exact ⟨o,U,aA,W,a6,_,_,(by first|rfl|(simp only [List.length_set])),⟨hI,hX⟩,⟨by omega,by omega⟩,C.top,D.top,aP,E,q⟩
theorem Y3f(w0:World)(bV:Nat){eB:TypeId}(aD:Option Addr)(aH:Nat)(a6:List Int)(f:Rd w0 w0.heap.size eB encU aD a6)(aM:∀ x ∈ a6,0<=x/\x<=255)(aB:AwayR a6 aD bV)(t:Nat)(sd:Int)(C:Blk w0 bV 103 [.slice aD a6.length aH,vi (t:Int),.int .u64 sd])(ht:t+120<=100000000) : Ret Tryz.prog 66 [(pZ9 bV)] w0 (fun v w=>∃ (d:Dg) (A:Option Addr) (c1:Nat) (B:Option Addr) (e:Nat) (t1:Nat) (s1:Int),v=.agg #[vi d.n,.slice A d.ns.length c1,.slice B d.ws.length e,vi d.t,vi d.r]/\(d.ns.length<=400/\d.ws.length<=400/\(∀ x ∈ d.ws,-1000000<=x.b/\x.b<=1000000)/\ExL d)/\(t<=t1/\t1<=t+120)/\Rd w w.heap.size 81 encNd A d.ns/\Rd w w.heap.size 83 encWr B d.ws/\d.ws.length<=e/\Kept bV w0.heap.size w0 w/\Blk w bV 103 [.slice aD a6.length aH,vi (t1:Int),.int .u64 s1]):=by
 have eU:=C.lt;refine enter Tryz.func66 rfl 80 rfl rfl ?_;intro a M
 have E:Kept bV w0.heap.size w0 w0:=Kept.refl _ _ _
 refine Zs M fun _ eC=>?_;refine Zf (Xq (zs:=[vi 0,.slice none 0 0,.slice none 0 0,vi 0,vi 0]) X0h rfl) ?_;rintro _ w1 ⟨b5,rfl,cX,D,y⟩;have aJ:=Q0 E.size cX;have eA:=f.away cX;have C:=C.bw D;have f:=f.bw D;have E:=ktr E D;refine Zx eC fun a M _ eD=>?_;refine Zm rfl<|Zf (Vc (Xtr _ bV aD aH a6 f.top aM aB t sd C (by omega)) Xgz) ?_;rintro _ w2 ⟨q,U,W,Q,N,eE,eF,rfl,bR,eV,m,o,hK,I⟩;have b4:=E.size;have b4:=E.size;obtain ⟨wm,H,hm,D⟩:=hK.mid;clear hm;have g:=C;have y:=y.oz H g rfl;have f:=f.onlyA H aB;have E:=E.self H;have y:=y.bw D;have f:=f.bw D;have E:=ktr E D
 clear g D H hK;have C:=I;clear I
 have m:=m.lower b4;clear b4
 have o:=o.lower b4;clear b4;have a7:=Xex bR.1;have a8:=bR.2.2.2.2.2.l;have eX:=o.cap;refine Zf (Xq (zs:=[vi 0,.slice none 0 0,.slice none 0 0,vi 0,vi 0]) X0h rfl) ?_;rintro _ w3 ⟨b11,rfl,bS,D,i⟩
 have cY:b5≠b11:=by have:=y.lt;omega
 have aI:=Q0 E.size bS;have cZ:=f.away bS;have C:=C.bw D;have y:=y.bw D;have f:=f.bw D;have m:=m.bw D;have o:=o.bw D;have E:=ktr E D;refine Zo (Vw [vi q.n,.slice U q.ns.length W,.slice Q q.ws.length N,vi q.t,vi q.r] Xh i) ?_;rintro _ w4 ⟨J,hb⟩;have g:=i;have C:=C.oz J g rfl;have y:=y.oy J (by omega);have f:=f.oy J aI;have m:=m.oT J g rfl;have o:=o.oT J g rfl;have E:=Kept.oy E J aI;have i:=hb;refine ZX eD fun a M _ aK=>?_;refine Zs M fun _ d5=>?_;refine Zm rfl<|Zf (Vc (X26 _ bV aD aH a6 f.top aM aB eE eF C 24 (by omega)) X14) ?_;rintro _ w5 ⟨f8,aX,aY,rfl,eY,eZ,hK,I⟩;obtain ⟨wm,H,hm,D⟩:=hK.mid;clear hm;have g:=C;have y:=y.oz H g rfl;have i:=i.oz H g rfl;have f:=f.onlyA H aB;have m:=m.oT H g rfl;have o:=o.oT H g rfl;have E:=E.self H;have y:=y.bw D;have i:=i.bw D;have f:=f.bw D;have m:=m.bw D;have o:=o.bw D;have E:=ktr E D
 clear g D H hK;have C:=I;clear I;refine Zt d5 fun a M=>?_;refine Q8<|Zs M fun _ d6=>?_;refine Ze (X0k rfl rfl)<|Za rfl<|Zt d6 fun a M=>?_
 refine Xi M rfl (fun b6=>?_) (fun b6=>?_)
 ·have cE:=b6;refine X04 (some bV) (fun j=>[12].contains j) mixed ?_;intro w6 D;have C:=C.bw D;have y:=y.bw D;have i:=i.bw D;have f:=f.bw D;have m:=m.bw D;have o:=o.bw D;have E:=ktr E D;refine Yb M<|Yo 0 rfl (fun _=>Vd rfl Xf 1) ?_;refine Yw 1 rfl tv0 (fun w1 h1=>X0 rfl Xz ((i.oz h1 C rfl).at 1)) ?_;refine Yo 2 rfl (fun _=>X3 rfl)<|Yo 3 rfl (fun _=>Vd rfl Xf 1) ?_;refine Yw 4 rfl tv0 (fun w1 h1=>X0 rfl Xz ((i.oz h1 C rfl).at 1)) ?_;refine Yo 5 rfl (fun _=>X09 rfl Xm)<|Yo 7 rfl (fun _=>X3 rfl) ?_;refine Y2 6 8 ?_ ?_
  ·refine Yf rfl tv0 (EfW.mono (Vc (X26 _ bV aD aH a6 f.top aM aB aX aY C (q.ns.length:Int) (by omega)) X14) (fun _ _ h=>⟨fun _=>by obtain ⟨aA,aR,aS,rfl,aZ,b0,hK,I⟩:=h;exact hK.keep,h⟩)) ?_;rintro _ w7 ⟨aA,aR,aS,rfl,aZ,b0,hK,I⟩;obtain ⟨wm,H,hm,D⟩:=hK.mid;clear hm;have g:=C;have y:=y.oz H g rfl;have i:=i.oz H g rfl;have f:=f.onlyA H aB;have m:=m.oT H g rfl;have o:=o.oT H g rfl;have E:=E.self H;have y:=y.bw D;have i:=i.bw D;have f:=f.bw D;have m:=m.bw D;have o:=o.bw D;have E:=ktr E D
   clear g D H hK;have C:=I;clear I;refine Y1 8<|Yf rfl tv0 (EfW.mono (Xn (k:=4) (vs:=[vi 8,vi 3,vi 1,vi (-1)]) (zs:=[vi 8,vi 3,vi 1,vi (-1)]) rfl Xj X1g rfl rfl) (fun _ _ h=>⟨fun _=>by obtain ⟨_,_,_,D,_⟩:=h;exact Keep.of_below D,h⟩)) ?_;rintro _ w8 ⟨eG,rfl,bT,D,bU⟩;have eH:=Q0 E.size bT;have d7:=f.away bT;have C:=C.bw D;have y:=y.bw D;have i:=i.bw D;have f:=f.bw D;have m:=m.bw D;have o:=o.bw D;have E:=ktr E D;refine Y1 9<|Yf rfl tv0 (EfW.mono (Vc (Xg7 _ bV aD aH a6 f.top aM aB aR aS C (some ⟨eG,0,none⟩) 4 ([8,3,1,-1]) (Rd.of_blk bU rfl _ bU.lt) (by simp) (by simp) (by omega)) X8b) (fun _ _ h=>⟨fun _=>by obtain ⟨aL,b7,b8,rfl,b1,b2,hK,I⟩:=h;exact hK.keep,h⟩)) ?_;rintro _ w9 ⟨aL,b7,b8,rfl,b1,b2,hK,I⟩;obtain ⟨wm,H,hm,D⟩:=hK.mid;clear hm;have g:=C;have y:=y.oz H g rfl;have i:=i.oz H g rfl;have m:=m.oT H g rfl;have o:=o.oT H g rfl;have E:=E.self H;have y:=y.bw D;have i:=i.bw D;have m:=m.bw D;have o:=o.bw D;have E:=ktr E D
   clear g D H hK;have C:=I;clear I;refine Yo 10 rfl (fun _=>Xx (k:=aA.toNat) rfl rfl Xm X06 m rfl (by omega) (by omega))<|Yo 11 rfl (fun _=>X0y rfl X07 (m':=aA.toNat*2+1) rfl)<|Y1 12 ?_;refine Yh rfl tv0 rfl (X11 (enc:=encNd) (l:=q.ns) (vs:=[vi aL]) (x0:=(q.ns.getD aA.toNat nZ)) (u:=(⟨(q.ns.getD aA.toNat nZ).k,aL⟩ : Nd)) (k:=aA.toNat) (j:=1) (n1:=1) rfl rfl X0b m Xv rfl rfl rfl rfl (by decide) (Xg (d:=nZ) (by omega)) rfl) ?_;rintro _ f9 ⟨aN,hg⟩;have G:=m;have C:=C.appT G hg rfl;have y:=y.appT G hg rfl;have i:=i.appT G hg rfl;have o:=o.appT G hg rfl;have E:=Kept.app E G hg (Qb _) E.size
   clear G hg;clear m;have m:=aN;clear aN;refine Yd fun a M=>?_;refine Xa<|aK _ _<|Zs M fun _ d8=>?_;refine Ze (Vn X2 i)<|Zo (Vw [vi q.n,.slice U q.ns.length W,.slice Q q.ws.length N,vi q.t,vi q.r] Xh y) ?_;rintro _ fA ⟨J,hb⟩;have g:=y;have C:=C.oz J g rfl;have o:=o.oT J g rfl;have m:=m.oT J g rfl;have E:=Kept.oy E J aJ;have y:=hb;refine Zt d8 fun a M=>?_
   refine Q6 (X6 M (Xp M rfl (ResV.cellN (l:=[vi q.n,.slice U q.ns.length W,.slice Q q.ws.length N,vi q.t,vi q.r]) rfl X2 (y.at 0) rfl)) ?_)
   exact ⟨(⟨q.n,(q.ns.set aA.toNat (⟨(q.ns.getD aA.toNat nZ).k,aL⟩ : Nd)),q.ws,q.t,q.r⟩ : Dg),U,W,Q,N,_,_,(by first|rfl|(simp only [List.length_set])),⟨(by (try dsimp only);first|omega|(simp only [List.length_set,Qh,List.length_drop,List.length_singleton];omega)),(by (try dsimp only);first|omega|(simp only [List.length_set,Qh,List.length_drop,List.length_singleton];omega)),(by first|exact a7|exact (fun x L=>a7 x (List.mem_of_mem_drop L))|exact (fun x L=>by rcases Qu.1 L with L|L;exact a7 x L;rw [Qm] at L;subst L;dsimp only;omega)),(by first|exact a8|exact X2w a8 _|exact X3i a8|exact X77 (by have h8:=aC;simp only [Qv,List.not_mem_nil,or_false] at h8;dsimp only;omega))⟩,⟨by omega,by omega⟩,m.rd.top,o.rd.top,o.cap,E,C⟩
  refine Yf rfl tv0 (EfW.mono (Xn (k:=4) (vs:=[vi 8,vi 3,vi 1,vi (-1)]) (zs:=[vi 8,vi 3,vi 1,vi (-1)]) rfl Xj X1g rfl rfl) (fun _ _ h=>⟨fun _=>by obtain ⟨_,_,_,D,_⟩:=h;exact Keep.of_below D,h⟩)) ?_;rintro _ fB ⟨eI,rfl,bW,D,aP⟩;have eJ:=Q0 E.size bW;have d9:=f.away bW;have C:=C.bw D;have y:=y.bw D;have i:=i.bw D;have f:=f.bw D;have m:=m.bw D;have o:=o.bw D;have E:=ktr E D;refine Y1 6<|Yf rfl tv0 (EfW.mono (Vc (X26 _ bV aD aH a6 f.top aM aB aX aY C (q.ns.length:Int) (by omega)) X14) (fun _ _ h=>⟨fun _=>by obtain ⟨aA,aR,aS,rfl,aZ,b0,hK,I⟩:=h;exact hK.keep,h⟩)) ?_;rintro _ fC ⟨aA,aR,aS,rfl,aZ,b0,hK,I⟩;obtain ⟨wm,H,hm,D⟩:=hK.mid;clear hm;have g:=C;have y:=y.oz H g rfl;have i:=i.oz H g rfl;have aP:=aP.oz H g rfl;have f:=f.onlyA H aB;have m:=m.oT H g rfl;have o:=o.oT H g rfl;have E:=E.self H;have y:=y.bw D;have i:=i.bw D;have aP:=aP.bw D;have f:=f.bw D;have m:=m.bw D;have o:=o.bw D;have E:=ktr E D
  clear g D H hK;have C:=I;clear I;refine Y1 9<|Yf rfl tv0 (EfW.mono (Vc (Xg7 _ bV aD aH a6 f.top aM aB aR aS C (some ⟨eI,0,none⟩) 4 ([8,3,1,-1]) (Rd.of_blk aP rfl _ aP.lt) (by simp) (by simp) (by omega)) X8b) (fun _ _ h=>⟨fun _=>by obtain ⟨aL,b7,b8,rfl,b1,b2,hK,I⟩:=h;exact hK.keep,h⟩)) ?_;rintro _ fE ⟨aL,b7,b8,rfl,b1,b2,hK,I⟩;obtain ⟨wm,H,hm,D⟩:=hK.mid;clear hm;have g:=C;have y:=y.oz H g rfl;have i:=i.oz H g rfl;have m:=m.oT H g rfl;have o:=o.oT H g rfl;have E:=E.self H;have y:=y.bw D;have i:=i.bw D;have m:=m.bw D;have o:=o.bw D;have E:=ktr E D
  clear g D H hK;have C:=I;clear I;refine Yo 10 rfl (fun _=>Xx (k:=aA.toNat) rfl rfl Xm X06 m rfl (by omega) (by omega))<|Yo 11 rfl (fun _=>X0y rfl X07 (m':=aA.toNat*2+1) rfl)<|Y1 12 ?_;refine Yh rfl tv0 rfl (X11 (enc:=encNd) (l:=q.ns) (vs:=[vi aL]) (x0:=(q.ns.getD aA.toNat nZ)) (u:=(⟨(q.ns.getD aA.toNat nZ).k,aL⟩ : Nd)) (k:=aA.toNat) (j:=1) (n1:=1) rfl rfl X0b m Xv rfl rfl rfl rfl (by decide) (Xg (d:=nZ) (by omega)) rfl) ?_;rintro _ fF ⟨aN,hg⟩;have G:=m;have C:=C.appT G hg rfl;have y:=y.appT G hg rfl;have i:=i.appT G hg rfl;have o:=o.appT G hg rfl;have E:=Kept.app E G hg (Qb _) E.size
  clear G hg;clear m;have m:=aN;clear aN;refine Yd fun a M=>?_;refine Xa<|aK _ _<|Zs M fun _ dA=>?_;refine Ze (Vn X2 i)<|Zo (Vw [vi q.n,.slice U q.ns.length W,.slice Q q.ws.length N,vi q.t,vi q.r] Xh y) ?_;rintro _ fG ⟨J,hb⟩;have g:=y;have C:=C.oz J g rfl;have o:=o.oT J g rfl;have m:=m.oT J g rfl;have E:=Kept.oy E J aJ;have y:=hb;refine Zt dA fun a M=>?_
  refine Q6 (X6 M (Xp M rfl (ResV.cellN (l:=[vi q.n,.slice U q.ns.length W,.slice Q q.ws.length N,vi q.t,vi q.r]) rfl X2 (y.at 0) rfl)) ?_)
  exact ⟨(⟨q.n,(q.ns.set aA.toNat (⟨(q.ns.getD aA.toNat nZ).k,aL⟩ : Nd)),q.ws,q.t,q.r⟩ : Dg),U,W,Q,N,_,_,(by first|rfl|(simp only [List.length_set])),⟨(by (try dsimp only);first|omega|(simp only [List.length_set,Qh,List.length_drop,List.length_singleton];omega)),(by (try dsimp only);first|omega|(simp only [List.length_set,Qh,List.length_drop,List.length_singleton];omega)),(by first|exact a7|exact (fun x L=>a7 x (List.mem_of_mem_drop L))|exact (fun x L=>by rcases Qu.1 L with L|L;exact a7 x L;rw [Qm] at L;subst L;dsimp only;omega)),(by first|exact a8|exact X2w a8 _|exact X3i a8|exact X77 (by have h8:=aC;simp only [Qv,List.not_mem_nil,or_false] at h8;dsimp only;omega))⟩,⟨by omega,by omega⟩,m.rd.top,o.rd.top,o.cap,E,C⟩
 have cE:=b6;refine Zs M fun _ dB=>?_;refine Ze (X0k rfl rfl)<|Za rfl<|Zt dB fun a M=>?_
 refine Xi M rfl (fun b9=>?_) (fun b9=>?_)
 ·have cF:=b9;refine X04 (some bV) (fun j=>[11].contains j) mixed ?_;intro fH D;have C:=C.bw D;have y:=y.bw D;have i:=i.bw D;have f:=f.bw D;have m:=m.bw D;have o:=o.bw D;have E:=ktr E D;refine Yb M<|Yo 0 rfl (fun _=>Vd rfl Xf 1) ?_;refine Yw 1 rfl tv0 (fun w1 h1=>X0 rfl Xz ((i.oz h1 C rfl).at 1)) ?_;refine Yo 2 rfl (fun _=>X3 rfl)<|Yo 3 rfl (fun _=>Vd rfl Xf 1) ?_;refine Yw 4 rfl tv0 (fun w1 h1=>X0 rfl Xz ((i.oz h1 C rfl).at 1)) ?_;refine Yo 5 rfl (fun _=>X09 rfl Xm)<|Yo 7 rfl (fun _=>X3 rfl)<|Y1 6 ?_;refine Yf rfl tv0 (EfW.mono (Vc (X26 _ bV aD aH a6 f.top aM aB aX aY C (q.ns.length:Int) (by omega)) X14) (fun _ _ h=>⟨fun _=>by obtain ⟨aO,bX,bY,rfl,cG,cH,hK,I⟩:=h;exact hK.keep,h⟩)) ?_;rintro _ fI ⟨aO,bX,bY,rfl,cG,cH,hK,I⟩;obtain ⟨wm,H,hm,D⟩:=hK.mid;clear hm;have g:=C;have y:=y.oz H g rfl;have i:=i.oz H g rfl;have f:=f.onlyA H aB;have m:=m.oT H g rfl;have o:=o.oT H g rfl;have E:=E.self H;have y:=y.bw D;have i:=i.bw D;have f:=f.bw D;have m:=m.bw D;have o:=o.bw D;have E:=ktr E D
  clear g D H hK;have C:=I;clear I;refine Y1 8<|Yf rfl tv0 (EfW.mono (Vc (X26 _ bV aD aH a6 f.top aM aB bX bY C 5 (by omega)) X14) (fun _ _ h=>⟨fun _=>by obtain ⟨b3,dC,dD,rfl,cI,cJ,hK,I⟩:=h;exact hK.keep,h⟩)) ?_;rintro _ fJ ⟨b3,dC,dD,rfl,cI,cJ,hK,I⟩;obtain ⟨wm,H,hm,D⟩:=hK.mid;clear hm;have g:=C;have y:=y.oz H g rfl;have i:=i.oz H g rfl;have m:=m.oT H g rfl;have o:=o.oT H g rfl;have E:=E.self H;have y:=y.bw D;have i:=i.bw D;have m:=m.bw D;have o:=o.bw D;have E:=ktr E D
  clear g D H hK;have C:=I;clear I;refine Yo 9 rfl (fun _=>Xx (k:=aO.toNat) rfl rfl Xm X06 m rfl (by omega) (by omega))<|Yo 10 rfl (fun _=>X0y rfl X12 (m':=aO.toNat*2+0) rfl)<|Y1 11 ?_;refine Yh rfl tv0 rfl (X11 (enc:=encNd) (l:=q.ns) (vs:=[vi b3]) (x0:=(q.ns.getD aO.toNat nZ)) (u:=(⟨b3,(q.ns.getD aO.toNat nZ).p⟩ : Nd)) (k:=aO.toNat) (j:=0) (n1:=1) rfl rfl X0b m Xv rfl rfl rfl rfl (by decide) (Xg (d:=nZ) (by omega)) rfl) ?_;rintro _ fK ⟨aN,hg⟩;have G:=m;have C:=C.appT G hg rfl;have y:=y.appT G hg rfl;have i:=i.appT G hg rfl;have o:=o.appT G hg rfl;have E:=Kept.app E G hg (Qb _) E.size
  clear G hg;clear m;have m:=aN;clear aN;refine Yd fun a M=>?_;refine Xa<|aK _ _<|Zs M fun _ dE=>?_;refine Ze (Vn X2 i)<|Zo (Vw [vi q.n,.slice U q.ns.length W,.slice Q q.ws.length N,vi q.t,vi q.r] Xh y) ?_;rintro _ fL ⟨J,hb⟩;have g:=y;have C:=C.oz J g rfl;have o:=o.oT J g rfl;have m:=m.oT J g rfl;have E:=Kept.oy E J aJ;have y:=hb;refine Zt dE fun a M=>?_
  refine Q6 (X6 M (Xp M rfl (ResV.cellN (l:=[vi q.n,.slice U q.ns.length W,.slice Q q.ws.length N,vi q.t,vi q.r]) rfl X2 (y.at 0) rfl)) ?_)
  exact ⟨(⟨q.n,(q.ns.set aO.toNat (⟨b3,(q.ns.getD aO.toNat nZ).p⟩ : Nd)),q.ws,q.t,q.r⟩ : Dg),U,W,Q,N,_,_,(by first|rfl|(simp only [List.length_set])),⟨(by (try dsimp only);first|omega|(simp only [List.length_set,Qh,List.length_drop,List.length_singleton];omega)),(by (try dsimp only);first|omega|(simp only [List.length_set,Qh,List.length_drop,List.length_singleton];omega)),(by first|exact a7|exact (fun x L=>a7 x (List.mem_of_mem_drop L))|exact (fun x L=>by rcases Qu.1 L with L|L;exact a7 x L;rw [Qm] at L;subst L;dsimp only;omega)),(by first|exact a8|exact X2w a8 _|exact X3i a8|exact X77 (by have h8:=aC;simp only [Qv,List.not_mem_nil,or_false] at h8;dsimp only;omega))⟩,⟨by omega,by omega⟩,m.rd.top,o.rd.top,o.cap,E,C⟩
 have cF:=b9;refine Zs M fun _ dF=>?_;refine Ze (X0k rfl rfl)<|Za rfl<|Zt dF fun a M=>?_
 refine Xi M rfl (fun bA=>?_) (fun bA=>?_)
 ·have cK:=bA;refine X04 (some bV) (fun j=>[12,14].contains j) mixed ?_;intro fM D;have C:=C.bw D;have y:=y.bw D;have i:=i.bw D;have f:=f.bw D;have m:=m.bw D;have o:=o.bw D;have E:=ktr E D;refine Yb M<|Yo 0 rfl (fun _=>Vd rfl Xl 2) ?_;refine Yw 1 rfl tv0 (fun w1 h1=>X0 rfl X0d ((i.oz h1 C rfl).at 2)) ?_;refine Yo 2 rfl (fun _=>X3 rfl)<|Yo 4 rfl (fun _=>X3 rfl)<|Yo 5 rfl (fun _=>Vd rfl Xf 1) ?_;refine Yw 6 rfl tv0 (fun w1 h1=>X0 rfl Xz ((i.oz h1 C rfl).at 1)) ?_;refine Yo 7 rfl (fun _=>X09 rfl Xm)<|Yo 8 rfl (fun _=>Xs rfl rfl (by omega) (by omega))<|Y1 3 ?_;refine Yf rfl tv0 (EfW.mono (Vc (X26 _ bV aD aH a6 f.top aM aB aX aY C 3 (by omega)) X14) (fun _ _ h=>⟨fun _=>by obtain ⟨aE,bZ,c5,rfl,cL,cM,hK,I⟩:=h;exact hK.keep,h⟩)) ?_;rintro _ fN ⟨aE,bZ,c5,rfl,cL,cM,hK,I⟩;obtain ⟨wm,H,hm,D⟩:=hK.mid;clear hm;have g:=C;have y:=y.oz H g rfl;have i:=i.oz H g rfl;have f:=f.onlyA H aB;have m:=m.oT H g rfl;have o:=o.oT H g rfl;have E:=E.self H;have y:=y.bw D;have i:=i.bw D;have f:=f.bw D;have m:=m.bw D;have o:=o.bw D;have E:=ktr E D
  clear g D H hK;have C:=I;clear I;refine Y1 9<|Yf rfl tv0 (EfW.mono (Vc (X26 _ bV aD aH a6 f.top aM aB bZ c5 C ((q.ns.length:Int)+1) (by omega)) X14) (fun _ _ h=>⟨fun _=>by obtain ⟨aF,dG,dH,rfl,cN,cO,hK,I⟩:=h;exact hK.keep,h⟩)) ?_;rintro _ fO ⟨aF,dG,dH,rfl,cN,cO,hK,I⟩;obtain ⟨wm,H,hm,D⟩:=hK.mid;clear hm;have g:=C;have y:=y.oz H g rfl;have i:=i.oz H g rfl;have f:=f.onlyA H aB;have m:=m.oT H g rfl;have o:=o.oT H g rfl;have E:=E.self H;have y:=y.bw D;have i:=i.bw D;have f:=f.bw D;have m:=m.bw D;have o:=o.bw D;have E:=ktr E D
  clear g D H hK;have C:=I;clear I;refine Yo 10 rfl (fun _=>X0s (ps:=[(0,vi aE),(1,vi aF)]) (cs:=[vi aE,vi aF,.bool false]) rfl (fun _=>by first|rfl|kernel_rfl))<|Y1 11 ?_;refine Yf rfl tv0 (EfW.mono (Xn (k:=1) (vs:=[.agg #[vi aE,vi aF,.bool false]]) (zs:=[vi aE,vi aF,.bool false]) rfl Xr X0z rfl rfl) (fun _ _ h=>⟨fun _=>by obtain ⟨_,_,_,D,_⟩:=h;exact Keep.of_below D,h⟩)) ?_;rintro _ fP ⟨fQ,rfl,bB,D,bC⟩;have eK:=Q0 E.size bB;have dI:=f.away bB;have bD:=o.away bB;have C:=C.bw D;have y:=y.bw D;have i:=i.bw D;have m:=m.bw D;have o:=o.bw D;have E:=ktr E D;refine Y1 12<|Yt rfl tv0 rfl (X0t (enc:=encWr) (l:=(q.ws)) (l2:=([(⟨aE,aF,false⟩ : Wr)])) (B0:=w0.heap.size) rfl rfl Xr X0z Xy X1p o (Rd.of_blk bC rfl _ bC.lt) (by simp only [maxLen];simp;omega) (by simp;omega) E.size) ?_;rintro _ fR ⟨bE,bF,rfl,aQ,hg,bG⟩
  have G:Own _ w0.heap.size 83 3 encWr _ _ (q.ws):=o
  have cV:=bG _ bC.lt bD;clear bG;have C:=C.appT G hg rfl;have y:=y.appT G hg rfl;have i:=i.appT G hg rfl;have m:=m.appT G hg rfl;have E:=Kept.app E G hg (Qb _) E.size;clear G hg;refine Yo 13 rfl (fun _=>Vd rfl Xl 2)<|Y1 14 ?_;refine Yh rfl tv0 rfl (Vu (vs:=[.slice bE (q.ws++([(⟨aE,aF,false⟩ : Wr)])).length bF]) (l':=[vi q.n,.slice U q.ns.length W,.slice bE (q.ws++([(⟨aE,aF,false⟩ : Wr)])).length bF,vi q.t,vi q.r]) rfl rfl X1f i) ?_;rintro _ fS ⟨J,hb⟩;have g:=i;have C:=C.oz J g rfl;have y:=y.oy J (by omega);have m:=m.oT J g rfl;have aQ:=aQ.oT J g rfl;have E:=Kept.oy E J aI;have i:=hb;refine Yd fun a M=>?_;refine Xa<|aK _ _<|Zs M fun _ dJ=>?_;refine Ze (Vn X2 i)<|Zo (Vw [vi q.n,.slice U q.ns.length W,.slice bE (q.ws++([(⟨aE,aF,false⟩ : Wr)])).length bF,vi q.t,vi q.r] Xh y) ?_;rintro _ fT ⟨J,hb⟩;have g:=y;have C:=C.oz J g rfl;have m:=m.oT J g rfl;have aQ:=aQ.oT J g rfl;have E:=Kept.oy E J aJ;have y:=hb;refine Zt dJ fun a M=>?_
  refine Q6 (X6 M (Xp M rfl (ResV.cellN (l:=[vi q.n,.slice U q.ns.length W,.slice bE (q.ws++([(⟨aE,aF,false⟩ : Wr)])).length bF,vi q.t,vi q.r]) rfl X2 (y.at 0) rfl)) ?_)
  exact ⟨(⟨q.n,q.ns,q.ws++([(⟨aE,aF,false⟩ : Wr)]),q.t,q.r⟩ : Dg),U,W,bE,bF,_,_,(by first|rfl|(simp only [List.length_set])),⟨(by (try dsimp only);first|omega|(simp only [List.length_set,Qh,List.length_drop,List.length_singleton];omega)),(by (try dsimp only);first|omega|(simp only [List.length_set,Qh,List.length_drop,List.length_singleton];omega)),(by first|exact a7|exact (fun x L=>a7 x (List.mem_of_mem_drop L))|exact (fun x L=>by rcases Qu.1 L with L|L;exact a7 x L;rw [Qm] at L;subst L;dsimp only;omega)),(by first|exact a8|exact X2w a8 _|exact X3i a8|exact X77 (by have h8:=aC;simp only [Qv,List.not_mem_nil,or_false] at h8;dsimp only;omega))⟩,⟨by omega,by omega⟩,m.rd.top,aQ.rd.top,aQ.cap,E,C⟩
 have cK:=bA;refine Zs M fun _ dK=>?_;refine Ze (X0k rfl rfl)<|Za rfl<|Zt dK fun a M=>?_
 refine Xi M rfl (fun bH=>?_) (fun bH=>?_)
 ·have cP:=bH;refine Zr M<|Ze (Vd rfl Xl 2)<|Ze (X0 rfl X0d (i.at 2)) ?_;have aT:=(o.rd.top).dropK Xy (c:=N) o.cap 1;refine Ze (X6f (l:=q.ws) (k:=1) rfl rfl Xr X0c rfl (by omega))<|Ze (Vd rfl Xl 2)<|Zo (Vu (vs:=[.slice (if N=1 then Q else Q.map (·.add (1*3))) (q.ws.drop 1).length (N-1)]) (l':=[vi q.n,.slice U q.ns.length W,.slice (if N=1 then Q else Q.map (·.add (1*3))) (q.ws.drop 1).length (N-1),vi q.t,vi q.r]) rfl rfl X1f i) ?_;rintro _ fU ⟨J,hb⟩;have g:=i;have C:=C.oz J g rfl;have y:=y.oy J (by omega);have m:=m.oT J g rfl;have aT:=aT.oT J g rfl;have E:=Kept.oy E J aI;have i:=hb;refine Zn fun a M=>?_;refine Xa<|aK _ _<|Zs M fun _ dL=>?_;refine Ze (Vn X2 i)<|Zo (Vw [vi q.n,.slice U q.ns.length W,.slice (if N=1 then Q else Q.map (·.add (1*3))) (q.ws.drop 1).length (N-1),vi q.t,vi q.r] Xh y) ?_;rintro _ fV ⟨J,hb⟩;have g:=y;have C:=C.oz J g rfl;have m:=m.oT J g rfl;have aT:=aT.oT J g rfl;have E:=Kept.oy E J aJ;have y:=hb;refine Zt dL fun a M=>?_
  refine Q6 (X6 M (Xp M rfl (ResV.cellN (l:=[vi q.n,.slice U q.ns.length W,.slice (if N=1 then Q else Q.map (·.add (1*3))) (q.ws.drop 1).length (N-1),vi q.t,vi q.r]) rfl X2 (y.at 0) rfl)) ?_)
  exact ⟨(⟨q.n,q.ns,(q.ws.drop 1),q.t,q.r⟩ : Dg),U,W,(if N=1 then Q else Q.map (·.add (1*3))),(N-1),_,_,(by first|rfl|(simp only [List.length_set])),⟨(by (try dsimp only);first|omega|(simp only [List.length_set,Qh,List.length_drop,List.length_singleton];omega)),(by (try dsimp only);first|omega|(simp only [List.length_set,Qh,List.length_drop,List.length_singleton];omega)),(by first|exact a7|exact (fun x L=>a7 x (List.mem_of_mem_drop L))|exact (fun x L=>by rcases Qu.1 L with L|L;exact a7 x L;rw [Qm] at L;subst L;dsimp only;omega)),(by first|exact a8|exact X2w a8 _|exact X3i a8|exact X77 (by have h8:=aC;simp only [Qv,List.not_mem_nil,or_false] at h8;dsimp only;omega))⟩,⟨by omega,by omega⟩,m.rd.top,aT.top,(by rw [List.length_drop];omega),E,C⟩
 have cP:=bH;refine Zs M fun _ dM=>?_;refine Ze (X0k rfl rfl)<|Za rfl<|Zt dM fun a M=>?_
 refine Xi M rfl (fun bJ=>?_) (fun bJ=>?_)
 ·have cQ:=bJ;refine Zr M<|Zm rfl<|Zf (Xn (k:=2) (vs:=[vi 8,vi (-1)]) (zs:=[vi 8,vi (-1)]) rfl Xj X1g rfl rfl) ?_;rintro _ fW ⟨eL,rfl,cA,D,cB⟩;have eM:=Q0 E.size cA;have dN:=f.away cA;have C:=C.bw D;have y:=y.bw D;have i:=i.bw D;have f:=f.bw D;have m:=m.bw D;have o:=o.bw D;have E:=ktr E D;refine Zf (Vc (Xg7 _ bV aD aH a6 f.top aM aB aX aY C (some ⟨eL,0,none⟩) 2 ([8,-1]) (Rd.of_blk cB rfl _ cB.lt) (by simp) (by simp) (by omega)) X8b) ?_;rintro _ fX ⟨aU,f0,f3,rfl,eO,eP,hK,I⟩;obtain ⟨wm,H,hm,D⟩:=hK.mid;clear hm;have g:=C;have y:=y.oz H g rfl;have i:=i.oz H g rfl;have m:=m.oT H g rfl;have o:=o.oT H g rfl;have E:=E.self H;have y:=y.bw D;have i:=i.bw D;have m:=m.bw D;have o:=o.bw D;have E:=ktr E D
  clear g D H hK;have C:=I;clear I;refine Ze (Vd rfl X0q 3)<|Zo (Vu (vs:=[vi aU]) (l':=[vi q.n,.slice U q.ns.length W,.slice Q q.ws.length N,vi aU,vi q.r]) rfl rfl X0b i) ?_;rintro _ fY ⟨J,hb⟩;have g:=i;have C:=C.oz J g rfl;have y:=y.oy J (by omega);have m:=m.oT J g rfl;have o:=o.oT J g rfl;have E:=Kept.oy E J aI;have i:=hb;refine Zn fun a M=>?_;refine Xa<|aK _ _<|Zs M fun _ dO=>?_;refine Ze (Vn X2 i)<|Zo (Vw [vi q.n,.slice U q.ns.length W,.slice Q q.ws.length N,vi aU,vi q.r] Xh y) ?_;rintro _ fZ ⟨J,hb⟩;have g:=y;have C:=C.oz J g rfl;have m:=m.oT J g rfl;have o:=o.oT J g rfl;have E:=Kept.oy E J aJ;have y:=hb;refine Zt dO fun a M=>?_
  refine Q6 (X6 M (Xp M rfl (ResV.cellN (l:=[vi q.n,.slice U q.ns.length W,.slice Q q.ws.length N,vi aU,vi q.r]) rfl X2 (y.at 0) rfl)) ?_)
  exact ⟨(⟨q.n,q.ns,q.ws,aU,q.r⟩ : Dg),U,W,Q,N,_,_,(by first|rfl|(simp only [List.length_set])),⟨(by (try dsimp only);first|omega|(simp only [List.length_set,Qh,List.length_drop,List.length_singleton];omega)),(by (try dsimp only);first|omega|(simp only [List.length_set,Qh,List.length_drop,List.length_singleton];omega)),(by first|exact a7|exact (fun x L=>a7 x (List.mem_of_mem_drop L))|exact (fun x L=>by rcases Qu.1 L with L|L;exact a7 x L;rw [Qm] at L;subst L;dsimp only;omega)),(by first|exact a8|exact X2w a8 _|exact X3i a8|exact X77 (by have h8:=aC;simp only [Qv,List.not_mem_nil,or_false] at h8;dsimp only;omega))⟩,⟨by omega,by omega⟩,m.rd.top,o.rd.top,o.cap,E,C⟩
 have cQ:=bJ;refine Zs M fun _ dP=>?_;refine Ze (X0k rfl rfl)<|Za rfl<|Zt dP fun a M=>?_
 refine Xi M rfl (fun bK=>?_) (fun bK=>?_)
 ·have cR:=bK;refine Zr M<|Zm rfl<|Zf (Xn (k:=4) (vs:=[vi 61,vi (-61),vi 60,vi (-60)]) (zs:=[vi 61,vi (-61),vi 60,vi (-60)]) rfl Xj X1g rfl rfl) ?_;rintro _ g5 ⟨eQ,rfl,cC,D,cD⟩;have eR:=Q0 E.size cC;have dQ:=f.away cC;have C:=C.bw D;have y:=y.bw D;have i:=i.bw D;have f:=f.bw D;have m:=m.bw D;have o:=o.bw D;have E:=ktr E D;refine Zf (Vc (Xg7 _ bV aD aH a6 f.top aM aB aX aY C (some ⟨eQ,0,none⟩) 4 ([61,-61,60,-60]) (Rd.of_blk cD rfl _ cD.lt) (by simp) (by simp) (by omega)) X8b) ?_;rintro _ g6 ⟨aV,f5,f7,rfl,aC,eS,hK,I⟩;obtain ⟨wm,H,hm,D⟩:=hK.mid;clear hm;have g:=C;have y:=y.oz H g rfl;have i:=i.oz H g rfl;have m:=m.oT H g rfl;have o:=o.oT H g rfl;have E:=E.self H;have y:=y.bw D;have i:=i.bw D;have m:=m.bw D;have o:=o.bw D;have E:=ktr E D
  clear g D H hK;have C:=I;clear I;refine Ze (Vd rfl X00 4)<|Zo (Vu (vs:=[vi aV]) (l':=[vi q.n,.slice U q.ns.length W,.slice Q q.ws.length N,vi q.t,vi aV]) rfl rfl X0b i) ?_;rintro _ g7 ⟨J,hb⟩;have g:=i;have C:=C.oz J g rfl;have y:=y.oy J (by omega);have m:=m.oT J g rfl;have o:=o.oT J g rfl;have E:=Kept.oy E J aI;have i:=hb;refine Zn fun a M=>?_;refine Xa<|aK _ _<|Zs M fun _ dR=>?_;refine Ze (Vn X2 i)<|Zo (Vw [vi q.n,.slice U q.ns.length W,.slice Q q.ws.length N,vi q.t,vi aV] Xh y) ?_;rintro _ g8 ⟨J,hb⟩;have g:=y;have C:=C.oz J g rfl;have m:=m.oT J g rfl;have o:=o.oT J g rfl;have E:=Kept.oy E J aJ;have y:=hb;refine Zt dR fun a M=>?_
  refine Q6 (X6 M (Xp M rfl (ResV.cellN (l:=[vi q.n,.slice U q.ns.length W,.slice Q q.ws.length N,vi q.t,vi aV]) rfl X2 (y.at 0) rfl)) ?_)
  exact ⟨(⟨q.n,q.ns,q.ws,q.t,aV⟩ : Dg),U,W,Q,N,_,_,(by first|rfl|(simp only [List.length_set])),⟨(by (try dsimp only);first|omega|(simp only [List.length_set,Qh,List.length_drop,List.length_singleton];omega)),(by (try dsimp only);first|omega|(simp only [List.length_set,Qh,List.length_drop,List.length_singleton];omega)),(by first|exact a7|exact (fun x L=>a7 x (List.mem_of_mem_drop L))|exact (fun x L=>by rcases Qu.1 L with L|L;exact a7 x L;rw [Qm] at L;subst L;dsimp only;omega)),(by first|exact a8|exact X2w a8 _|exact X3i a8|exact X77 (by have h8:=aC;simp only [Qv,List.not_mem_nil,or_false] at h8;dsimp only;omega))⟩,⟨by omega,by omega⟩,m.rd.top,o.rd.top,o.cap,E,C⟩
 have cR:=bK;refine Zs M fun _ dS=>?_;refine Ze (X0k rfl rfl)<|Za rfl<|Zt dS fun a M=>?_
 refine Xi M rfl (fun bL=>?_) (fun bL=>?_)
 ·have cS:=bL;refine X04 (some bV) (fun j=>[6,8].contains j) mixed ?_;intro gA D;have C:=C.bw D;have y:=y.bw D;have i:=i.bw D;have f:=f.bw D;have m:=m.bw D;have o:=o.bw D;have E:=ktr E D;refine Yb M<|Yo 0 rfl (fun _=>Vd rfl Xf 1) ?_;refine Yw 1 rfl tv0 (fun w1 h1=>X0 rfl Xz ((i.oz h1 C rfl).at 1)) ?_;refine Yo 2 rfl (fun _=>X3 rfl)<|Y1 3 ?_;refine Yf rfl tv0 (EfW.mono (Vc (X26 _ bV aD aH a6 f.top aM aB aX aY C 4 (by omega)) X14) (fun _ _ h=>⟨fun _=>by obtain ⟨aG,dT,dU,rfl,cT,cU,hK,I⟩:=h;exact hK.keep,h⟩)) ?_;rintro _ gB ⟨aG,dT,dU,rfl,cT,cU,hK,I⟩;obtain ⟨wm,H,hm,D⟩:=hK.mid;clear hm;have g:=C;have y:=y.oz H g rfl;have i:=i.oz H g rfl;have f:=f.onlyA H aB;have m:=m.oT H g rfl;have o:=o.oT H g rfl;have E:=E.self H;have y:=y.bw D;have i:=i.bw D;have f:=f.bw D;have m:=m.bw D;have o:=o.bw D;have E:=ktr E D
  clear g D H hK;have C:=I;clear I;refine Yo 4 rfl (fun _=>X0s (ps:=[(0,vi aG)]) (cs:=[vi aG,vi 0]) rfl (fun _=>by first|rfl|kernel_rfl))<|Y1 5 ?_;refine Yf rfl tv0 (EfW.mono (Xn (k:=1) (vs:=[.agg #[vi aG,vi 0]]) (zs:=[vi aG,vi 0]) rfl Xm X1x rfl rfl) (fun _ _ h=>⟨fun _=>by obtain ⟨_,_,_,D,_⟩:=h;exact Keep.of_below D,h⟩)) ?_;rintro _ gC ⟨gD,rfl,bM,D,bN⟩;have eT:=Q0 E.size bM;have dW:=f.away bM;have bO:=m.away bM;have C:=C.bw D;have y:=y.bw D;have i:=i.bw D;have m:=m.bw D;have o:=o.bw D;have E:=ktr E D;refine Y1 6<|Yt rfl tv0 rfl (X0t (enc:=encNd) (l:=(q.ns)) (l2:=([(⟨aG,0⟩ : Nd)])) (B0:=w0.heap.size) rfl rfl Xm X1x Xv X33 m (Rd.of_blk bN rfl _ bN.lt) (by simp only [maxLen];simp;omega) (by simp;omega) E.size) ?_;rintro _ gE ⟨bP,bQ,rfl,aW,hg,bG⟩
  have G:Own _ w0.heap.size 81 2 encNd _ _ (q.ns):=m
  have cW:=bG _ bN.lt bO;clear bG;have C:=C.appT G hg rfl;have y:=y.appT G hg rfl;have i:=i.appT G hg rfl;have o:=o.appT G hg rfl;have E:=Kept.app E G hg (Qb _) E.size;clear G hg;refine Yo 7 rfl (fun _=>Vd rfl Xf 1)<|Y1 8 ?_;refine Yh rfl tv0 rfl (Vu (vs:=[.slice bP (q.ns++([(⟨aG,0⟩ : Nd)])).length bQ]) (l':=[vi q.n,.slice bP (q.ns++([(⟨aG,0⟩ : Nd)])).length bQ,.slice Q q.ws.length N,vi q.t,vi q.r]) rfl rfl X4m i) ?_;rintro _ gF ⟨J,hb⟩;have g:=i;have C:=C.oz J g rfl;have y:=y.oy J (by omega);have o:=o.oT J g rfl;have aW:=aW.oT J g rfl;have E:=Kept.oy E J aI;have i:=hb;refine Yd fun a M=>?_;refine Xa<|aK _ _<|Zs M fun _ dX=>?_;refine Ze (Vn X2 i)<|Zo (Vw [vi q.n,.slice bP (q.ns++([(⟨aG,0⟩ : Nd)])).length bQ,.slice Q q.ws.length N,vi q.t,vi q.r] Xh y) ?_;rintro _ gG ⟨J,hb⟩;have g:=y;have C:=C.oz J g rfl;have o:=o.oT J g rfl;have aW:=aW.oT J g rfl;have E:=Kept.oy E J aJ;have y:=hb;refine Zt dX fun a M=>?_
  refine Q6 (X6 M (Xp M rfl (ResV.cellN (l:=[vi q.n,.slice bP (q.ns++([(⟨aG,0⟩ : Nd)])).length bQ,.slice Q q.ws.length N,vi q.t,vi q.r]) rfl X2 (y.at 0) rfl)) ?_)
  exact ⟨(⟨q.n,q.ns++([(⟨aG,0⟩ : Nd)]),q.ws,q.t,q.r⟩ : Dg),bP,bQ,Q,N,_,_,(by first|rfl|(simp only [List.length_set])),⟨(by (try dsimp only);first|omega|(simp only [List.length_set,Qh,List.length_drop,List.length_singleton];omega)),(by (try dsimp only);first|omega|(simp only [List.length_set,Qh,List.length_drop,List.length_singleton];omega)),(by first|exact a7|exact (fun x L=>a7 x (List.mem_of_mem_drop L))|exact (fun x L=>by rcases Qu.1 L with L|L;exact a7 x L;rw [Qm] at L;subst L;dsimp only;omega)),(by first|exact a8|exact X2w a8 _|exact X3i a8|exact X77 (by have h8:=aC;simp only [Qv,List.not_mem_nil,or_false] at h8;dsimp only;omega))⟩,⟨by omega,by omega⟩,aW.rd.top,o.rd.top,o.cap,E,C⟩
 have cS:=bL;refine Q7<|Xa<|aK _ _<|Zs M fun _ dY=>?_;refine Ze (Vn X2 i)<|Zo (Vw [vi q.n,.slice U q.ns.length W,.slice Q q.ws.length N,vi q.t,vi q.r] Xh y) ?_;rintro _ gH ⟨J,hb⟩;have g:=y;have C:=C.oz J g rfl;have m:=m.oT J g rfl;have o:=o.oT J g rfl;have E:=Kept.oy E J aJ;have y:=hb;refine Zt dY fun a M=>?_
 refine Q6 (X6 M (Xp M rfl (ResV.cellN (l:=[vi q.n,.slice U q.ns.length W,.slice Q q.ws.length N,vi q.t,vi q.r]) rfl X2 (y.at 0) rfl)) ?_)
 exact ⟨q,U,W,Q,N,_,_,(by first|rfl|(simp only [List.length_set])),⟨(by (try dsimp only);first|omega|(simp only [List.length_set,Qh,List.length_drop,List.length_singleton];omega)),(by (try dsimp only);first|omega|(simp only [List.length_set,Qh,List.length_drop,List.length_singleton];omega)),(by first|exact a7|exact (fun x L=>a7 x (List.mem_of_mem_drop L))|exact (fun x L=>by rcases Qu.1 L with L|L;exact a7 x L;rw [Qm] at L;subst L;dsimp only;omega)),(by first|exact a8|exact X2w a8 _|exact X3i a8|exact X77 (by have h8:=aC;simp only [Qv,List.not_mem_nil,or_false] at h8;dsimp only;omega))⟩,⟨by omega,by omega⟩,m.rd.top,o.rd.top,o.cap,E,C⟩
theorem Xrn{d e:Dg}(h1:d.n=e.n)(h2:d.ns=e.ns)(h3:d.ws=e.ws)(h4:d.t=e.t)(h5:d.r=e.r) : d=e:=by
 obtain ⟨a,b,c,p,q⟩:=d;obtain ⟨a2,b2,c2,p2,q2⟩:=e
 dsimp only at *
 rw [h1,h2,h3,h4,h5]
theorem Y0d(I:World)(d:Dg)(md:Nat)(aI:md=d.ns.length)(Ad:Option Addr)(cd:Nat)(aJ:Rd I I.heap.size 81 encNd Ad d.ns)(Bd:Option Addr)(dd:Nat)(aK:Rd I I.heap.size 83 encWr Bd d.ws)(C:d.ws.length<=dd)(e:Dg)(me:Nat)(aL:me=e.ns.length)(Ae:Option Addr)(ce:Nat)(aM:Rd I I.heap.size 81 encNd Ae e.ns)(Be:Option Addr)(de:Nat)(aN:Rd I I.heap.size 83 encWr Be e.ws)(D:e.ws.length<=de)(bN:d.ws.length<=1000000000)(bO:md<=1000000000) : Ret Tryz.prog 16 [.agg #[vi d.n,.slice Ad md cd,.slice Bd d.ws.length dd,vi d.t,vi d.r],.agg #[vi e.n,.slice Ae me ce,.slice Be e.ws.length de,vi e.t,vi e.r]] I (fun v w=>v=.bool (decide (d=e))/\Below I.heap.size I w):=by
 subst aI
 subst aL
 refine enter Tryz.func16 rfl 80 rfl rfl ?_;intro a f
 have A:=bz I
 refine Zs f fun _ b9=>?_;refine Zf (X0l (zs:=[vi d.n,.slice Ad d.ns.length cd,.slice Bd d.ws.length dd,vi d.t,vi d.r]) rfl rfl) ?_;rintro _ w1 ⟨b6,rfl,bA,J,o⟩;have bJ:=Q0 A.size bA;have A:=btr A J;refine Zf (X0l (zs:=[vi e.n,.slice Ae e.ns.length ce,.slice Be e.ws.length de,vi e.t,vi e.r]) rfl rfl) ?_;rintro _ w2 ⟨b7,rfl,bB,J,q⟩
 have b8:b6≠b7:=by have:=o.lt;omega
 have bK:=Q0 A.size bB;have o:=o.bw J;have A:=btr A J;refine Za rfl<|ZX b9 fun a f _ bC=>?_;refine Q5 fun _ bD=>?_;refine X0a (fun a w=>Fr a 80 [(2,(pZ9 b6)),(3,(pZ9 b7)),(43,.bool (((((d.n != e.n)||(d.t != e.t))||(d.r != e.r))||((d.ns.length:Int) != (e.ns.length:Int)))||((d.ws.length:Int) != (e.ws.length:Int))))]/\w2=w) ?_ ?_
 ·refine Zr f<|Ze (Vd rfl X16 0)<|Ze (X0 rfl X9 (o.at 0))<|Ze (Vd rfl X16 0)<|Ze (X0 rfl X9 (q.at 0))<|Ze (X1e rfl rfl)<|Zm rfl ?_
  refine Zg 12 rfl (fun i=>?_) (fun i=>?_)
  ·(iterate 5 refine Zp (gP i) ?_);refine Ze (X5 rfl i rfl)<|Zm rfl<|Zp (gP rfl) ?_;(iterate 4 refine Zp (gP rfl) ?_);refine Ze (X5 rfl rfl rfl)<|Zm rfl<|Zp (gP rfl) ?_;(iterate 6 refine Zp (gP rfl) ?_);refine Ze (X5 rfl rfl rfl)<|Zm rfl<|Zp (gP rfl) ?_;(iterate 6 refine Zp (gP rfl) ?_);refine Ze (X5 rfl rfl rfl) ?_;refine Zn fun a f=>?_;exact ⟨f.sub ⟨rfl,rfl,X1 rfl (by simp [i]),trivial⟩,rfl⟩
  refine Zv (gW i) (Vd rfl X0q 3) ?_;refine Zv (gW i) (X0 rfl X9 (o.at 3)) ?_;refine Zv (gW i) (Vd rfl X0q 3) ?_;refine Zv (gW i) (X0 rfl X9 (q.at 3)) ?_;refine Zv (gW i) (X1e rfl rfl) ?_;refine Ze (Xb rfl i rfl)<|Zm rfl ?_
  refine Zg 19 rfl (fun m=>?_) (fun m=>?_)
  ·(iterate 5 refine Zp (gP m) ?_);refine Ze (X5 rfl m rfl)<|Zm rfl<|Zp (gP rfl) ?_;(iterate 6 refine Zp (gP rfl) ?_);refine Ze (X5 rfl rfl rfl)<|Zm rfl<|Zp (gP rfl) ?_;(iterate 6 refine Zp (gP rfl) ?_);refine Ze (X5 rfl rfl rfl) ?_;refine Zn fun a f=>?_;exact ⟨f.sub ⟨rfl,rfl,X1 rfl (by simp [i,m]),trivial⟩,rfl⟩
  refine Zv (gW m) (Vd rfl X00 4) ?_;refine Zv (gW m) (X0 rfl X9 (o.at 4)) ?_;refine Zv (gW m) (Vd rfl X00 4) ?_;refine Zv (gW m) (X0 rfl X9 (q.at 4)) ?_;refine Zv (gW m) (X1e rfl rfl) ?_;refine Ze (Xb rfl m rfl)<|Zm rfl ?_
  refine Zg 26 rfl (fun c=>?_) (fun c=>?_)
  ·(iterate 7 refine Zp (gP c) ?_);refine Ze (X5 rfl c rfl)<|Zm rfl<|Zp (gP rfl) ?_;(iterate 6 refine Zp (gP rfl) ?_);refine Ze (X5 rfl rfl rfl) ?_;refine Zn fun a f=>?_;exact ⟨f.sub ⟨rfl,rfl,X1 rfl (by simp [i,m,c]),trivial⟩,rfl⟩
  refine Zv (gW c) (Vd rfl Xf 1) ?_;refine Zv (gW c) (X0 rfl Xz (o.at 1)) ?_;refine Zv (gW c) (X09 rfl Xm) ?_;refine Zv (gW c) (Vd rfl Xf 1) ?_;refine Zv (gW c) (X0 rfl Xz (q.at 1)) ?_;refine Zv (gW c) (X09 rfl Xm) ?_;refine Zv (gW c) (X1e rfl rfl) ?_;refine Ze (Xb rfl c rfl)<|Zm rfl ?_
  refine Zg 35 rfl (fun g=>?_) (fun g=>?_)
  ·(iterate 7 refine Zp (gP g) ?_);refine Ze (X5 rfl g rfl) ?_;refine Zn fun a f=>?_;exact ⟨f.sub ⟨rfl,rfl,X1 rfl (by simp [i,m,c,g]),trivial⟩,rfl⟩
  refine Zv (gW g) (Vd rfl Xl 2) ?_;refine Zv (gW g) (X0 rfl X0d (o.at 2)) ?_;refine Zv (gW g) (X09 rfl Xr) ?_;refine Zv (gW g) (Vd rfl Xl 2) ?_;refine Zv (gW g) (X0 rfl X0d (q.at 2)) ?_;refine Zv (gW g) (X09 rfl Xr) ?_;refine Zv (gW g) (X1e rfl rfl) ?_;refine Ze (Xb rfl g rfl) ?_;refine Zn fun a f=>?_;exact ⟨f.sub ⟨rfl,rfl,X1 rfl (by simp [i,m,c,g]),trivial⟩,rfl⟩
 rintro a _ ⟨f,rfl⟩;refine bD _ _ ?_
 refine Xi f rfl (fun E=>?_) (fun E=>?_)
 ·have a6:=E
  have B:decide (d=e)=false:=by apply decide_eq_false;rintro rfl;have h8:=E;simp at h8
  refine Zs f fun _ aO=>?_;refine Za rfl<|Zt aO fun a f=>?_;refine Q6<|X8<|X6 f (Xp f rfl rfl) ?_;exact ⟨by rw [B],A⟩
 have a6:=E;have hq:=E
 simp at hq
 have en:d.n=e.n:=by omega
 have et:d.t=e.t:=by omega
 have er:d.r=e.r:=by omega
 have eN:d.ns.length=e.ns.length:=by omega
 have eW:d.ws.length=e.ws.length:=by omega
 refine Q7<|bC _ _<|Q5 fun _ aP=>?_;refine Zs f fun _ aQ=>?_;refine Ze (Vd rfl Xf 1)<|Ze (X0 rfl Xz (o.at 1))<|Ze (X09 rfl Xm)<|Zm rfl<|Zt aQ fun a f=>?_;refine Q8<|X01 (σ:=Nat) (fun (k:Nat) (a:Act) (w:World)=>Fr a 80 [(2,(pZ9 b6)),(3,(pZ9 b7)),(46,vi (d.ns.length:Int)),(47,vi (k:Int))]/\(k<=d.ns.length)/\(d.ns.take k=e.ns.take k)/\Blk w b6 39 [vi d.n,.slice Ad d.ns.length cd,.slice Bd d.ws.length dd,vi d.t,vi d.r]/\Blk w b7 39 [vi e.n,.slice Ae e.ns.length ce,.slice Be e.ws.length de,vi e.t,vi e.r]/\d.ws.length<=dd/\e.ws.length<=de/\Below I.heap.size I w) (fun (k:Nat)=>d.ns.length-k) 0 ?_ ?_
 ·exact ⟨f.sb,(Qf _),rfl,o,q,C,D,A⟩
 rintro k a w3 ⟨f,hk,L,o,q,C,D,A⟩;refine Zs f fun _ aR=>?_;refine Ze (X0n rfl rfl)<|ZX aR fun a f _ aS=>?_
 refine Xi f rfl (fun x=>?_) (fun x=>?_)
 ·have a7:=x;have x:=Q2 x
  obtain ⟨bP,bL⟩:=X4 (l:=d.ns) (k:=k) (by omega)
  obtain ⟨u9,a8⟩:=X4 (l:=d.ns) (k:=k) (by have:=x;omega)
  obtain ⟨v9,N⟩:=X4 (l:=e.ns) (k:=k) (by have:=x;omega)
  refine Q7<|aS _ _<|Q5 fun _ aT=>?_;refine Q8<|Zs f fun _ aU=>?_;refine Zm rfl<|Za rfl<|ZX aU fun a f _ aV=>?_;refine X04 none (fun _=>false) mixed ?_;intro w4 J;have o:=o.bw J;have q:=q.bw J;have A:=btr A J;refine Yb f<|Yo 0 rfl (fun _=>Vd rfl Xf 1)<|Ye 1 rfl (X0 rfl Xz (o.at 1))<|Yo 2 rfl (fun _=>X3 rfl)<|Yi (k:=k) (u:=u9) (enc:=encNd) (l:=d.ns) 3 rfl tv0 rfl rfl Xm X06 Xv (aJ.bx A) a8 rfl ?_;intro bQ aA;refine Ye 4 rfl (X03 (l:=[vi u9.k,vi u9.p]) rfl X22 aA rfl)<|Yo 5 rfl (fun _=>Vd rfl Xf 1)<|Ye 6 rfl (X0 rfl Xz (q.at 1))<|Yo 7 rfl (fun _=>X3 rfl)<|Yi (k:=k) (u:=v9) (enc:=encNd) (l:=e.ns) 8 rfl tv0 rfl rfl Xm X06 Xv (aM.bx A) N rfl ?_;intro bR aB;refine Ye 9 rfl (X03 (l:=[vi v9.k,vi v9.p]) rfl X22 aB rfl)<|Yo 10 rfl (fun _=>Xcb rfl rfl Xax (fun w=>Xb3 9998 u9 v9 w)) ?_;refine Yd fun a f=>?_;refine aV _ _ ?_
  refine Xi f rfl (fun G=>?_) (fun G=>?_)
  ·have aC:=G
   have B:decide (d=e)=false:=by apply decide_eq_false;rintro rfl;rw [a8] at N;injection N with h9;subst h9;have h8:=G;simp at h8
   refine Zs f fun _ aW=>?_;refine Za rfl<|Zt aW fun a f=>?_;refine Q6<|Xw<|X8<|X8 ?_;refine Xw<|X8<|X6 f (Xp f rfl rfl) ?_;exact ⟨by rw [B],A⟩
  have aC:=G
  have bE:u9=v9:=by simpa using G
  refine Q7<|Xa<|aT _ _<|Zr f ?_;refine Ze (Xs rfl rfl (by omega) (by omega))<|Zm rfl ?_;refine Zn fun a f=>?_;refine Xc ?_;exact ⟨k+1,⟨f.sb,(by omega),(X7a L a8 N bE),o,q,C,D,A⟩,(by omega)⟩
 have a7:=x;have x:=Q1 x
 have bF:d.ns=e.ns:=by rw [Qi (by have:=x;omega),Qi (by have:=x;omega)] at L;exact L
 refine Q9<|Xk<|Xk<|X02 ?_;refine aP _ _<|Q5 fun _ aX=>?_;refine Zs f fun _ aY=>?_;refine Ze (Vd rfl Xl 2)<|Ze (X0 rfl X0d (o.at 2))<|Ze (X09 rfl Xr)<|Zm rfl<|Zt aY fun a f=>?_;refine Q8<|X01 (σ:=Nat) (fun (j:Nat) (a:Act) (w:World)=>Fr a 80 [(2,(pZ9 b6)),(3,(pZ9 b7)),(64,vi (d.ws.length:Int)),(65,vi (j:Int))]/\(j<=d.ws.length)/\(d.ws.take j=e.ws.take j)/\Blk w b6 39 [vi d.n,.slice Ad d.ns.length cd,.slice Bd d.ws.length dd,vi d.t,vi d.r]/\Blk w b7 39 [vi e.n,.slice Ae e.ns.length ce,.slice Be e.ws.length de,vi e.t,vi e.r]/\d.ws.length<=dd/\e.ws.length<=de/\Below I.heap.size I w) (fun (j:Nat)=>d.ws.length-j) 0 ?_ ?_
 ·exact ⟨f.sb,(Qf _),rfl,o,q,C,D,A⟩
 rintro j a w5 ⟨f,hj,M,o,q,C,D,A⟩;refine Zs f fun _ aZ=>?_;refine Ze (X0n rfl rfl)<|ZX aZ fun a f _ b0=>?_
 refine Xi f rfl (fun y=>?_) (fun y=>?_)
 ·have aD:=y;have y:=Q2 y
  obtain ⟨bS,bM⟩:=X4 (l:=d.ws) (k:=j) (by omega)
  obtain ⟨u8,aE⟩:=X4 (l:=d.ws) (k:=j) (by have:=y;omega)
  obtain ⟨v8,Q⟩:=X4 (l:=e.ws) (k:=j) (by have:=y;omega)
  refine Q7<|b0 _ _<|Q5 fun _ b1=>?_;refine Q8<|Zs f fun _ b2=>?_;refine Zm rfl<|Za rfl<|ZX b2 fun a f _ b3=>?_;refine X04 none (fun _=>false) mixed ?_;intro w6 J;have o:=o.bw J;have q:=q.bw J;have A:=btr A J;refine Yb f<|Yo 0 rfl (fun _=>Vd rfl Xl 2)<|Ye 1 rfl (X0 rfl X0d (o.at 2))<|Yo 2 rfl (fun _=>X3 rfl)<|Yi (k:=j) (u:=u8) (enc:=encWr) (l:=d.ws) 3 rfl tv0 rfl rfl Xr X0c Xy (aK.bx A) aE rfl ?_;intro bT aF;refine Ye 4 rfl (X03 (l:=[vi u8.a,vi u8.b,.bool u8.h]) rfl X10 aF rfl)<|Yo 5 rfl (fun _=>Vd rfl Xl 2)<|Ye 6 rfl (X0 rfl X0d (q.at 2))<|Yo 7 rfl (fun _=>X3 rfl)<|Yi (k:=j) (u:=v8) (enc:=encWr) (l:=e.ws) 8 rfl tv0 rfl rfl Xr X0c Xy (aN.bx A) Q rfl ?_;intro bU aG;refine Ye 9 rfl (X03 (l:=[vi v8.a,vi v8.b,.bool v8.h]) rfl X10 aG rfl)<|Yo 10 rfl (fun _=>Xcb rfl rfl Xgb (fun w=>Xez 9998 u8 v8 w)) ?_;refine Yd fun a f=>?_;refine b3 _ _ ?_
  refine Xi f rfl (fun H=>?_) (fun H=>?_)
  ·have aH:=H
   have B:decide (d=e)=false:=by apply decide_eq_false;rintro rfl;rw [aE] at Q;injection Q with h9;subst h9;have h8:=H;simp at h8
   refine Zs f fun _ b4=>?_;refine Za rfl<|Zt b4 fun a f=>?_;refine Q6<|Xw<|X8<|X8 ?_;refine Xw<|X8<|X6 f (Xp f rfl rfl) ?_;exact ⟨by rw [B],A⟩
  have aH:=H
  have bG:u8=v8:=by simpa using H
  refine Q7<|Xa<|b1 _ _<|Zr f ?_;refine Ze (Xs rfl rfl (by omega) (by omega))<|Zm rfl ?_;refine Zn fun a f=>?_;refine Xc ?_;exact ⟨j+1,⟨f.sb,(by omega),(X7a M aE Q bG),o,q,C,D,A⟩,(by omega)⟩
 have aD:=y;have y:=Q1 y
 have bH:d.ws=e.ws:=by rw [Qi (by have:=y;omega),Qi (by have:=y;omega)] at M;exact M
 have B:decide (d=e)=true:=decide_eq_true (Xrn en bF bH et er)
 refine Q9<|Xk<|Xk<|X02 ?_;refine aX _ _<|Zs f fun _ b5=>?_;refine Za rfl<|Zt b5 fun a f=>?_
 refine Q6 (X6 f (Xp f rfl rfl) ?_)
 exact ⟨by rw [B],A⟩
theorem Xx5(d:Dg) : ((mnO d).getD mZ).cells.length<=1024:=by
 cases h:mnO d with
 | none=>exact Qf _
 | some M=>
  show M.cells.length<=1024
  unfold mnO at h
  split at h
  ·rename_i hg
   rw [Qd] at hg
   have hn:=(X1b hg.1).1;have h1:=X8v h
   rw [h1.2.2.2,Qj]
   have h2:2^d.n.toNat<=32:=Nat.pow_le_pow_right (n:=2) (by decide) (show d.n.toNat<=5 by omega)
   exact Xgf h2 h2
  ·cases h
theorem Y1u(i:World)(Ap:Option Addr)(cp:Nat)(p:List Nd)(aC:Rd i i.heap.size 81 encNd Ap p)(Aq:Option Addr)(cq:Nat)(q:List Nd)(aD:Rd i i.heap.size 81 encNd Aq q)(aU:p.length<=1000000000) : Ret Tryz.prog 104 [.slice Ap p.length cp,.slice Aq q.length cq] i (fun v w=>v=.bool (decide (p=q))/\Below i.heap.size i w):=by
 refine enter Tryz.func104 rfl 26 rfl rfl ?_;intro a c
 have j:=bz i
 refine Zs c fun _ aM=>?_;refine Za rfl<|ZX aM fun a c _ aN=>?_;refine Zs c fun _ aO=>?_;refine Zm rfl<|Ze (X09 rfl Xm)<|Zm rfl<|Ze (X09 rfl Xm)<|Ze (X1e rfl rfl)<|Zt aO fun a c=>?_
 refine Xi c rfl (fun f=>?_) (fun f=>?_)
 ·have aE:=f
  have d:decide (p=q)=false:=by apply decide_eq_false;rintro rfl;have h8:=f;simp at h8
  refine Zs c fun _ aP=>?_;refine Za rfl<|Zt aP fun a c=>?_;refine Q6<|X8<|X6 c (Xp c rfl rfl) ?_;exact ⟨by rw [d],j⟩
 have aE:=f
 have aV:p.length=q.length:=by have h9:(p.length:Int)=q.length:=(by simpa using f);omega
 refine Q7<|aN _ _<|Q5 fun _ aQ=>?_;refine Zs c fun _ aR=>?_;refine Zm rfl<|Ze (X09 rfl Xm)<|Zm rfl<|Zt aR fun a c=>?_;refine Q8<|X01 (σ:=Nat) (fun (k:Nat) (a:Act) (w:World)=>Fr a 26 [(0,.slice Ap p.length cp),(1,.slice Aq q.length cq),(12,vi (p.length:Int)),(13,vi (k:Int))]/\(k<=p.length)/\(p.take k=q.take k)/\Below i.heap.size i w) (fun (k:Nat)=>p.length-k) 0 ?_ ?_
 ·exact ⟨c.sb,(Qf _),rfl,j⟩
 rintro k a w1 ⟨c,hk,g,j⟩;refine Zs c fun _ aF=>?_;refine Ze (X0n rfl rfl)<|ZX aF fun a c _ aG=>?_
 refine Xi c rfl (fun b=>?_) (fun b=>?_)
 ·have a6:=b;have b:=Q2 b
  obtain ⟨aW,aT⟩:=X4 (l:=p) (k:=k) (by omega)
  obtain ⟨u9,a7⟩:=X4 (l:=p) (k:=k) (by have:=b;omega)
  obtain ⟨v9,m⟩:=X4 (l:=q) (k:=k) (by have:=b;omega)
  refine Q7<|aG _ _<|Q5 fun _ aH=>?_;refine Q8<|Zs c fun _ aI=>?_;refine Zm rfl<|Za rfl<|ZX aI fun a c _ aJ=>?_;refine X04 none (fun _=>false) mixed ?_;intro w2 hE;have j:=btr j hE;refine Yb c<|Yo 0 rfl (fun _=>X3 rfl)<|Yo 1 rfl (fun _=>X3 rfl)<|Yi (k:=k) (u:=u9) (enc:=encNd) (l:=p) 2 rfl tv0 rfl rfl Xm X06 Xv (aC.bx j) a7 rfl ?_;intro aX a8;refine Ye 3 rfl (X03 (l:=[vi u9.k,vi u9.p]) rfl X22 a8 rfl)<|Yo 4 rfl (fun _=>X3 rfl)<|Yo 5 rfl (fun _=>X3 rfl)<|Yi (k:=k) (u:=v9) (enc:=encNd) (l:=q) 6 rfl tv0 rfl rfl Xm X06 Xv (aD.bx j) m rfl ?_;intro aY aA;refine Ye 7 rfl (X03 (l:=[vi v9.k,vi v9.p]) rfl X22 aA rfl)<|Yo 8 rfl (fun _=>Xcb rfl rfl Xax (fun w=>Xb3 9998 u9 v9 w)) ?_;refine Yd fun a c=>?_;refine aJ _ _ ?_
  refine Xi c rfl (fun e=>?_) (fun e=>?_)
  ·have aB:=e
   have d:decide (p=q)=false:=by apply decide_eq_false;rintro rfl;rw [a7] at m;injection m with h9;subst h9;have h8:=e;simp at h8
   refine Zs c fun _ aK=>?_;refine Za rfl<|Zt aK fun a c=>?_;refine Q6<|Xw<|X8<|X8 ?_;refine Xw<|X8<|X6 c (Xp c rfl rfl) ?_;exact ⟨by rw [d],j⟩
  have aB:=e
  have aS:u9=v9:=by simpa using e
  refine Q7<|Xa<|aH _ _<|Zr c ?_;refine Ze (Xs rfl rfl (by omega) (by omega))<|Zm rfl ?_;refine Zn fun a c=>?_;refine Xc ?_;exact ⟨k+1,⟨c.sb,(by omega),(X7a g a7 m aS),j⟩,(by omega)⟩
 have a6:=b;have b:=Q1 b
 have d:decide (p=q)=true:=by apply decide_eq_true;rw [Qi (by have:=b;omega),Qi (by have:=b;omega)] at g;exact g
 refine Q9<|Xk<|Xk<|X02 ?_;refine aQ _ _<|Zs c fun _ aL=>?_;refine Za rfl<|Zt aL fun a c=>?_
 refine Q6 (X6 c (Xp c rfl rfl) ?_)
 exact ⟨by rw [d],j⟩
theorem Xz3(j:World)(Ap:Option Addr)(cp:Nat)(p:List Wr)(aC:Rd j j.heap.size 83 encWr Ap p)(Aq:Option Addr)(cq:Nat)(q:List Wr)(aD:Rd j j.heap.size 83 encWr Aq q)(aU:p.length<=1000000000) : Ret Tryz.prog 105 [.slice Ap p.length cp,.slice Aq q.length cq] j (fun v w=>v=.bool (decide (p=q))/\Below j.heap.size j w):=by
 refine enter Tryz.func105 rfl 26 rfl rfl ?_;intro a d
 have m:=bz j
 refine Zs d fun _ aM=>?_;refine Za rfl<|ZX aM fun a d _ aN=>?_;refine Zs d fun _ aO=>?_;refine Zm rfl<|Ze (X09 rfl Xr)<|Zm rfl<|Ze (X09 rfl Xr)<|Ze (X1e rfl rfl)<|Zt aO fun a d=>?_
 refine Xi d rfl (fun g=>?_) (fun g=>?_)
 ·have aE:=g
  have e:decide (p=q)=false:=by apply decide_eq_false;rintro rfl;have h8:=g;simp at h8
  refine Zs d fun _ aP=>?_;refine Za rfl<|Zt aP fun a d=>?_;refine Q6<|X8<|X6 d (Xp d rfl rfl) ?_;exact ⟨by rw [e],m⟩
 have aE:=g
 have aV:p.length=q.length:=by have h9:(p.length:Int)=q.length:=(by simpa using g);omega
 refine Q7<|aN _ _<|Q5 fun _ aQ=>?_;refine Zs d fun _ aR=>?_;refine Zm rfl<|Ze (X09 rfl Xr)<|Zm rfl<|Zt aR fun a d=>?_;refine Q8<|X01 (σ:=Nat) (fun (k:Nat) (a:Act) (w:World)=>Fr a 26 [(0,.slice Ap p.length cp),(1,.slice Aq q.length cq),(12,vi (p.length:Int)),(13,vi (k:Int))]/\(k<=p.length)/\(p.take k=q.take k)/\Below j.heap.size j w) (fun (k:Nat)=>p.length-k) 0 ?_ ?_
 ·exact ⟨d.sb,(Qf _),rfl,m⟩
 rintro k a w1 ⟨d,hk,i,m⟩;refine Zs d fun _ aF=>?_;refine Ze (X0n rfl rfl)<|ZX aF fun a d _ aG=>?_
 refine Xi d rfl (fun c=>?_) (fun c=>?_)
 ·have a6:=c;have c:=Q2 c
  obtain ⟨aW,aT⟩:=X4 (l:=p) (k:=k) (by omega)
  obtain ⟨u9,a7⟩:=X4 (l:=p) (k:=k) (by have:=c;omega)
  obtain ⟨v9,n⟩:=X4 (l:=q) (k:=k) (by have:=c;omega)
  refine Q7<|aG _ _<|Q5 fun _ aH=>?_;refine Q8<|Zs d fun _ aI=>?_;refine Zm rfl<|Za rfl<|ZX aI fun a d _ aJ=>?_;refine X04 none (fun _=>false) mixed ?_;intro w2 hE;have m:=btr m hE;refine Yb d<|Yo 0 rfl (fun _=>X3 rfl)<|Yo 1 rfl (fun _=>X3 rfl)<|Yi (k:=k) (u:=u9) (enc:=encWr) (l:=p) 2 rfl tv0 rfl rfl Xr X0c Xy (aC.bx m) a7 rfl ?_;intro aX a8;refine Ye 3 rfl (X03 (l:=[vi u9.a,vi u9.b,.bool u9.h]) rfl X10 a8 rfl)<|Yo 4 rfl (fun _=>X3 rfl)<|Yo 5 rfl (fun _=>X3 rfl)<|Yi (k:=k) (u:=v9) (enc:=encWr) (l:=q) 6 rfl tv0 rfl rfl Xr X0c Xy (aD.bx m) n rfl ?_;intro aY aA;refine Ye 7 rfl (X03 (l:=[vi v9.a,vi v9.b,.bool v9.h]) rfl X10 aA rfl)<|Yo 8 rfl (fun _=>Xcb rfl rfl Xgb (fun w=>Xez 9998 u9 v9 w)) ?_;refine Yd fun a d=>?_;refine aJ _ _ ?_
  refine Xi d rfl (fun f=>?_) (fun f=>?_)
  ·have aB:=f
   have e:decide (p=q)=false:=by apply decide_eq_false;rintro rfl;rw [a7] at n;injection n with h9;subst h9;have h8:=f;simp at h8
   refine Zs d fun _ aK=>?_;refine Za rfl<|Zt aK fun a d=>?_;refine Q6<|Xw<|X8<|X8 ?_;refine Xw<|X8<|X6 d (Xp d rfl rfl) ?_;exact ⟨by rw [e],m⟩
  have aB:=f
  have aS:u9=v9:=by simpa using f
  refine Q7<|Xa<|aH _ _<|Zr d ?_;refine Ze (Xs rfl rfl (by omega) (by omega))<|Zm rfl ?_;refine Zn fun a d=>?_;refine Xc ?_;exact ⟨k+1,⟨d.sb,(by omega),(X7a i a7 n aS),m⟩,(by omega)⟩
 have a6:=c;have c:=Q1 c
 have e:decide (p=q)=true:=by apply decide_eq_true;rw [Qi (by have:=c;omega),Qi (by have:=c;omega)] at i;exact i
 refine Q9<|Xk<|Xk<|X02 ?_;refine aQ _ _<|Zs d fun _ aL=>?_;refine Za rfl<|Zt aL fun a d=>?_
 refine Q6 (X6 d (Xp d rfl rfl) ?_)
 exact ⟨by rw [e],m⟩
theorem Xvm(d e:Dg) : (decide (d.n=e.n)&&decide (d.ns=e.ns)&&decide (d.ws=e.ws)&&decide (d.t=e.t)&&decide (d.r=e.r))=decide (d=e):=by
 obtain ⟨a,b,c,p,q⟩:=d;obtain ⟨a2,b2,c2,p2,q2⟩:=e
 rw [Bool.eq_iff_iff]
 simp [and_assoc]
theorem Y07(u:World)(d:Dg)(md:Nat)(a6:md=d.ns.length)(Ad:Option Addr)(cd:Nat)(a7:Rd u u.heap.size 81 encNd Ad d.ns)(Bd:Option Addr)(dd:Nat)(a8:Rd u u.heap.size 83 encWr Bd d.ws)(aK:d.ws.length<=dd)(e:Dg)(me:Nat)(aA:me=e.ns.length)(Ae:Option Addr)(ce:Nat)(aB:Rd u u.heap.size 81 encNd Ae e.ns)(Be:Option Addr)(de:Nat)(aC:Rd u u.heap.size 83 encWr Be e.ws)(aL:e.ws.length<=de)(aE:d.ws.length<=1000000000)(aF:md<=1000000000) : Ret Tryz.prog 53 [.agg #[vi d.n,.slice Ad md cd,.slice Bd d.ws.length dd,vi d.t,vi d.r],.agg #[vi e.n,.slice Ae me ce,.slice Be e.ws.length de,vi e.t,vi e.r]] u (fun v w=>v=.bool (decide (d=e))/\Below u.heap.size u w):=by
 subst a6
 subst aA
 refine enter Tryz.func53 rfl 38 rfl rfl ?_;intro a p
 have o:=bz u
 refine Zs p fun _ aG=>?_;refine Zf (X0l (zs:=[vi d.n,.slice Ad d.ns.length cd,.slice Bd d.ws.length dd,vi d.t,vi d.r]) rfl rfl) ?_;rintro _ w1 ⟨b6,rfl,aH,q,i⟩;have aM:=Q0 o.size aH;have o:=btr o q;refine Zf (X0l (zs:=[vi e.n,.slice Ae e.ns.length ce,.slice Be e.ws.length de,vi e.t,vi e.r]) rfl rfl) ?_;rintro _ w2 ⟨b7,rfl,aI,q,j⟩
 have aD:b6≠b7:=by have:=i.lt;omega
 have aN:=Q0 o.size aI;have i:=i.bw q;have o:=btr o q;refine Za rfl<|ZX aG fun a p _ aJ=>?_;refine X0a (fun a w=>Fr a 38 [(4,.bool (((((d.n==e.n)&&(decide (d.ns=e.ns)))&&(decide (d.ws=e.ws)))&&(d.t==e.t))&&(d.r==e.r)))]/\Below w2.heap.size w2 w) ?_ ?_
 ·have k:Below w2.heap.size w2 w2:=Below.refl _ _
  refine Zr p<|Ze (Vd rfl X16 0)<|Ze (X0 rfl X9 (i.at 0))<|Ze (Vd rfl X16 0)<|Ze (X0 rfl X9 (j.at 0))<|Ze (X0k rfl rfl)<|Zm rfl ?_
  refine Zg 10 rfl (fun g=>?_) (fun g=>?_)
  ·refine Zv (gW g) (Vd rfl Xf 1) ?_;refine Zv (gW g) (X0 rfl Xz (i.at 1)) ?_;refine Zv (gW g) (Vd rfl Xf 1) ?_;refine Zv (gW g) (X0 rfl Xz (j.at 1)) ?_;refine Zk (gW g) (Vc (Y1u _ Ad cd d.ns (a7.bx o).top Ae ce e.ns (aB.bx o).top aF) Xqe) ?_;rintro _ w3 ⟨rfl,q⟩;have i:=i.bw q;have j:=j.bw q;have o:=btr o q;have k:=btr k q;refine Ze (X5 rfl g rfl)<|Zm rfl ?_
   refine Zg 17 rfl (fun b=>?_) (fun b=>?_)
   ·refine Zv (gW b) (Vd rfl Xl 2) ?_;refine Zv (gW b) (X0 rfl X0d (i.at 2)) ?_;refine Zv (gW b) (Vd rfl Xl 2) ?_;refine Zv (gW b) (X0 rfl X0d (j.at 2)) ?_;refine Zk (gW b) (Vc (Xz3 _ Bd dd d.ws (a8.bx o).top Be de e.ws (aC.bx o).top aE) Xpw) ?_;rintro _ w4 ⟨rfl,q⟩;have i:=i.bw q;have j:=j.bw q;have o:=btr o q;have k:=btr k q;refine Ze (X5 rfl b rfl)<|Zm rfl ?_
    refine Zg 24 rfl (fun c=>?_) (fun c=>?_)
    ·refine Zv (gW c) (Vd rfl X0q 3) ?_;refine Zv (gW c) (X0 rfl X9 (i.at 3)) ?_;refine Zv (gW c) (Vd rfl X0q 3) ?_;refine Zv (gW c) (X0 rfl X9 (j.at 3)) ?_;refine Zv (gW c) (X0k rfl rfl) ?_;refine Ze (X5 rfl c rfl)<|Zm rfl ?_
     refine Zg 31 rfl (fun f=>?_) (fun f=>?_)
     ·refine Zv (gW f) (Vd rfl X00 4) ?_;refine Zv (gW f) (X0 rfl X9 (i.at 4)) ?_;refine Zv (gW f) (Vd rfl X00 4) ?_;refine Zv (gW f) (X0 rfl X9 (j.at 4)) ?_;refine Zv (gW f) (X0k rfl rfl) ?_;refine Ze (X5 rfl f rfl)<|Za rfl ?_;refine Zn fun a p=>?_
      have m:Below w2.heap.size w2 w4:=k
      exact ⟨p.sub ⟨X1 rfl (by simp [g,b,c,f]),trivial⟩,m⟩
     (iterate 5 refine Zp (gP f) ?_);refine Ze (Xb rfl f rfl)<|Za rfl ?_;refine Zn fun a p=>?_
     have m:Below w2.heap.size w2 w4:=k
     exact ⟨p.sub ⟨X1 rfl (by simp [g,b,c,f]),trivial⟩,m⟩
    (iterate 5 refine Zp (gP c) ?_);refine Ze (Xb rfl c rfl)<|Zm rfl<|Zp (gP rfl) ?_;(iterate 4 refine Zp (gP rfl) ?_);refine Ze (Xb rfl rfl rfl)<|Za rfl ?_;refine Zn fun a p=>?_
    have m:Below w2.heap.size w2 w4:=k
    exact ⟨p.sub ⟨X1 rfl (by simp [g,b,c]),trivial⟩,m⟩
   (iterate 5 refine Zp (gP b) ?_);refine Ze (Xb rfl b rfl)<|Zm rfl<|Zp (gP rfl) ?_;(iterate 4 refine Zp (gP rfl) ?_);refine Ze (Xb rfl rfl rfl)<|Zm rfl<|Zp (gP rfl) ?_;(iterate 4 refine Zp (gP rfl) ?_);refine Ze (Xb rfl rfl rfl)<|Za rfl ?_;refine Zn fun a p=>?_
   have m:Below w2.heap.size w2 w3:=k
   exact ⟨p.sub ⟨X1 rfl (by simp [g,b]),trivial⟩,m⟩
  (iterate 5 refine Zp (gP g) ?_);refine Ze (Xb rfl g rfl)<|Zm rfl<|Zp (gP rfl) ?_;(iterate 4 refine Zp (gP rfl) ?_);refine Ze (Xb rfl rfl rfl)<|Zm rfl<|Zp (gP rfl) ?_;(iterate 4 refine Zp (gP rfl) ?_);refine Ze (Xb rfl rfl rfl)<|Zm rfl<|Zp (gP rfl) ?_;(iterate 4 refine Zp (gP rfl) ?_);refine Ze (Xb rfl rfl rfl)<|Za rfl ?_;refine Zn fun a p=>?_
  have m:Below w2.heap.size w2 w2:=k
  exact ⟨p.sub ⟨X1 rfl (by simp [g]),trivial⟩,m⟩
 rintro a w5 ⟨p,q⟩;have o:=btr o q;refine aJ _ _ ?_
 refine Q6 (X6 p (Xp p rfl rfl) ?_)
 exact ⟨congrArg Value.bool (Xvm d e),o⟩
theorem Xyi(c:World)(d:Dg)(md:Nat)(a6:md=d.ns.length)(Ad:Option Addr)(cd:Nat)(a7:Rd c c.heap.size 81 encNd Ad d.ns)(Bd:Option Addr)(dd:Nat)(a8:Rd c c.heap.size 83 encWr Bd d.ws)(aA:d.ws.length<=dd)(aB:d.ws.length<=1000000000)(aC:∀ x ∈ d.ws,-1000000<=x.b/\x.b<=1000000) : Ret Tryz.prog 24 [.agg #[vi d.n,.slice Ad md cd,.slice Bd d.ws.length dd,vi d.t,vi d.r]] c (fun v w=>v=.bool (goodD d)/\Below c.heap.size c w):=by
 refine enter Tryz.func24 rfl 5 rfl rfl ?_;intro a hf
 have e:=bz c
 refine Zs hf fun _ aD=>?_;refine Zf (X0l (zs:=[vi d.n,.slice Ad md cd,.slice Bd d.ws.length dd,vi d.t,vi d.r]) rfl rfl) ?_;rintro _ w1 ⟨b4,rfl,aE,hE,aF⟩;have aH:=Q0 e.size aE;have e:=btr e hE;refine Za rfl<|Zx aD fun a hf _ aG=>?_;refine Ze (Vn X2 aF)<|Zf (Vc (Xgy _ d md a6 Ad cd (a7.bx e).top Bd dd (a8.bx e).top aA aB aC) X89) ?_;rintro _ w2 ⟨rfl,hE⟩;have e:=btr e hE;refine Za rfl<|Zt aG fun a hf=>?_
 refine Q6 (X6 hf (Xp hf rfl rfl) ?_)
 exact ⟨rfl,e⟩
theorem Y17(b:World)(Al:Option Addr)(cl:Nat)(l:List Wr)(a6:Rd b b.heap.size 83 encWr Al l)(kq:FuncId)(pq:List Value)(Fq:FuncF Tryz.prog kq)(q:Wr->Bool)(hq:∀ x w,Below b.heap.size b w->Ret Tryz.prog kq ([wrV x]++pq) w (fun v w'=>v=.bool (q x)/\Below w.heap.size w w'))(a7:l.length<=1000000000) : Ret Tryz.prog 110 [.slice Al l.length cl,.func (.func kq) #[] pq.toArray] b (fun v w=>v=.bool (l.any q)/\Below b.heap.size b w):=by
 refine enter Tryz.func110 rfl 9 rfl rfl ?_;intro a hf
 have hW:=bz b
 refine Zs hf fun _ a8=>?_;refine Za rfl<|Zx a8 fun a hf _ aA=>?_;refine Zm rfl<|Zm rfl<|Zf (Vc (Xm9 _ Al cl l (a6.bx hW).top kq pq Fq q (fun x w' hE'=>hq x w' (hW.trans (hE'.mono hW.size))) a7) Xbs) ?_;rintro _ w1 ⟨rfl,hE⟩;have hW:=btr hW hE;refine Ze (X5h rfl rfl)<|Za rfl<|Zt aA fun a hf=>?_
 refine Q6 (X6 hf (Xp hf rfl rfl) ?_)
 exact ⟨by rw [Xb7],hW⟩
def glD(d:Dg) : Bool:=!(d.ws.any fun x=>!x.h&&spI d.ns x.a&&spI d.ns x.b)
theorem Xyz(q:World)(x:Wr)(d:Dg)(md:Nat)(u:md=d.ns.length)(Ad:Option Addr)(cd:Nat)(y:Rd q q.heap.size 81 encNd Ad d.ns)(Bd:Option Addr)(dd:Nat)(m:Rd q q.heap.size 83 encWr Bd d.ws)(A:d.ws.length<=dd)(ba:Nat)(f:Blk q ba 39 [vi d.n,.slice Ad md cd,.slice Bd d.ws.length dd,vi d.t,vi d.r])(hN:md<=1000) : Ret Tryz.prog 111 [.agg #[vi x.a,vi x.b,.bool x.h],(pZ9 ba)] q (fun v w=>v=.bool (!x.h&&spI d.ns x.a&&spI d.ns x.b)/\Below q.heap.size q w):=by
 have a8:=f.lt;refine enter Tryz.func111 rfl 19 rfl rfl ?_;intro a j
 have g:=bz q
 refine Zs j fun _ aA=>?_;refine Zf (X0l (zs:=[vi x.a,vi x.b,.bool x.h]) rfl rfl) ?_;rintro _ w1 ⟨b4,rfl,a6,k,o⟩;have aC:=Q0 g.size a6;have a7:=(m.bx g).away a6;have f:=f.bw k;have g:=btr g k;refine Za rfl<|ZX aA fun a j _ aB=>?_;refine X0a (fun a w=>Fr a 19 [(3,.bool (((!x.h)&&(spI d.ns x.a))&&(spI d.ns x.b)))]/\Below w1.heap.size w1 w) ?_ ?_
 ·have i:Below w1.heap.size w1 w1:=Below.refl _ _
  refine Zr j<|Ze (Vd rfl X3n 2)<|Ze (X0 rfl X6q (o.at 2))<|Ze (X0w rfl)<|Zm rfl ?_
  refine Zg 7 rfl (fun c=>?_) (fun c=>?_)
  ·refine Zv (gW c) (X03 (l:=[vi d.n,.slice Ad md cd,.slice Bd d.ws.length dd,vi d.t,vi d.r]) rfl X2 (f.at 0) rfl) ?_;refine Zv (gW c) (Vd rfl X0p 0) ?_;refine Zv (gW c) (X0 rfl X9 (o.at 0)) ?_;refine Zk (gW c) (Vc (X52 _ d md u Ad cd (y.bx g).top Bd dd (m.bx g).top A x.a hN) X2h) ?_;rintro _ w2 ⟨rfl,k⟩;have f:=f.bw k;have o:=o.bw k;have g:=btr g k;have i:=btr i k;refine Ze (X5 rfl c rfl)<|Zm rfl ?_
   refine Zg 13 rfl (fun e=>?_) (fun e=>?_)
   ·refine Zv (gW e) (X03 (l:=[vi d.n,.slice Ad md cd,.slice Bd d.ws.length dd,vi d.t,vi d.r]) rfl X2 (f.at 0) rfl) ?_;refine Zv (gW e) (Vd rfl X0r 1) ?_;refine Zv (gW e) (X0 rfl X9 (o.at 1)) ?_;refine Zk (gW e) (Vc (X52 _ d md u Ad cd (y.bx g).top Bd dd (m.bx g).top A x.b hN) X2h) ?_;rintro _ w3 ⟨rfl,k⟩;have g:=btr g k;have i:=btr i k;refine Ze (X5 rfl e rfl)<|Za rfl ?_;refine Zn fun a j=>?_
    have p:Below w1.heap.size w1 w3:=i
    exact ⟨j.sub ⟨X1 rfl (by simp [c,e]),trivial⟩,p⟩
   (iterate 4 refine Zp (gP e) ?_);refine Ze (Xb rfl e rfl)<|Za rfl ?_;refine Zn fun a j=>?_
   have p:Below w1.heap.size w1 w2:=i
   exact ⟨j.sub ⟨X1 rfl (by simp [c,e]),trivial⟩,p⟩
  (iterate 4 refine Zp (gP c) ?_);refine Ze (Xb rfl c rfl)<|Zm rfl<|Zp (gP rfl) ?_;(iterate 3 refine Zp (gP rfl) ?_);refine Ze (Xb rfl rfl rfl)<|Za rfl ?_;refine Zn fun a j=>?_
  have p:Below w1.heap.size w1 w1:=i
  exact ⟨j.sub ⟨X1 rfl (by simp [c]),trivial⟩,p⟩
 rintro a w4 ⟨j,k⟩;have g:=btr g k;refine aB _ _ ?_
 refine Q6 (X6 j (Xp j rfl rfl) ?_)
 exact ⟨rfl,g⟩
theorem Y1l(e:World)(d:Dg)(md:Nat)(a6:md=d.ns.length)(Ad:Option Addr)(cd:Nat)(a7:Rd e e.heap.size 81 encNd Ad d.ns)(Bd:Option Addr)(dd:Nat)(f:Rd e e.heap.size 83 encWr Bd d.ws)(a8:d.ws.length<=dd)(aB:d.ws.length<=1000000000)(hN:md<=1000) : Ret Tryz.prog 57 [.agg #[vi d.n,.slice Ad md cd,.slice Bd d.ws.length dd,vi d.t,vi d.r]] e (fun v w=>v=.bool (glD d)/\Below e.heap.size e w):=by
 refine enter Tryz.func57 rfl 8 rfl rfl ?_;intro a hf
 have c:=bz e
 refine Zs hf fun _ aC=>?_;refine Zf (X0l (zs:=[vi d.n,.slice Ad md cd,.slice Bd d.ws.length dd,vi d.t,vi d.r]) rfl rfl) ?_;rintro _ w1 ⟨b4,rfl,aD,hE,aA⟩;have aF:=Q0 c.size aD;have c:=btr c hE;refine Za rfl<|Zx aC fun a hf _ aE=>?_;refine Ze (Vd rfl Xl 2)<|Ze (X0 rfl X0d (aA.at 2))<|Ze (X3p (vs:=[(pZ9 b4)]) rfl)<|Zf (Vc (Y17 _ Bd dd d.ws (f.bx c).top 111 [(pZ9 b4)] Xor (fun x=>!x.h&&spI d.ns x.a&&spI d.ns x.b) (fun x w' hE'=>Xyz w' x d md a6 Ad cd (((a7.bx c).top).bw hE').top Bd dd (((f.bx c).top).bw hE').top a8 _ (aA.bw hE') hN) aB) Xnz) ?_;rintro _ w2 ⟨rfl,hE⟩;have c:=btr c hE;refine Ze (X0w rfl)<|Za rfl<|Zt aE fun a hf=>?_
 refine Q6 (X6 hf (Xp hf rfl rfl) ?_)
 exact ⟨rfl,c⟩
theorem Y2i(g:World)(d:Dg)(md:Nat)(i:md=d.ns.length)(Ad:Option Addr)(cd:Nat)(j:Rd g g.heap.size 81 encNd Ad d.ns)(Bd:Option Addr)(dd:Nat)(k:Rd g g.heap.size 83 encWr Bd d.ws)(m:d.ws.length<=dd)(a6:d.ws.length<=1000000000)(hN:md<=1000) : Ret Tryz.prog 23 [.agg #[vi d.n,.slice Ad md cd,.slice Bd d.ws.length dd,vi d.t,vi d.r]] g (fun v w=>v=.tuple #[.bool (ivD d&&glD d),.bool (ivD d)]/\Below g.heap.size g w):=by
 refine enter Tryz.func23 rfl 9 rfl rfl ?_;intro a b
 have c:=bz g
 refine Zs b fun _ a8=>?_;refine Zf (X0l (zs:=[vi d.n,.slice Ad md cd,.slice Bd d.ws.length dd,vi d.t,vi d.r]) rfl rfl) ?_;rintro _ w1 ⟨b4,rfl,aA,hE,f⟩;have aH:=Q0 c.size aA;have c:=btr c hE;refine Za rfl<|Za rfl<|ZX a8 fun a b _ aB=>?_;refine Zs b fun _ aC=>?_;refine Ze (Vn X2 f)<|Zf (Vc (Xdb _ d md i Ad cd (j.bx c).top Bd dd (k.bx c).top m a6) X7h) ?_;rintro _ w2 ⟨rfl,hE⟩;have f:=f.bw hE;have c:=btr c hE;refine Ze (X0w rfl)<|Zt aC fun a b=>?_
 refine Xi b rfl (fun e=>?_) (fun e=>?_)
 ·have a7:=e
  have aD:ivD d=false:=by have h8:=e;simpa using h8
  refine Zs b fun _ aE=>?_;refine Za rfl<|Za rfl<|Zt aE fun a b=>?_;refine Q6<|X8<|X6 b (X1v b rfl rfl rfl) ?_;exact ⟨by rw [aD];rfl,c⟩
 have a7:=e
 have aF:ivD d=true:=by have h8:=e;simpa using h8
 refine Q7<|aB _ _<|Zs b fun _ aG=>?_;refine Ze (Vn X2 f)<|Zf (Vc (Y1l _ d md i Ad cd (j.bx c).top Bd dd (k.bx c).top m a6 hN) Xq8) ?_;rintro _ w3 ⟨rfl,hE⟩;have c:=btr c hE;refine Za rfl<|Za rfl<|Zt aG fun a b=>?_
 refine Q6 (X6 b (X1v b rfl rfl rfl) ?_)
 exact ⟨by rw [aF,Qw],c⟩
theorem Xrw(w0:World){aQ:TypeId}(y:Option Addr)(D:Nat)(o:List Int)(g:Rd w0 w0.heap.size aQ encU y o)(aE:∀ x ∈ o,0<=x/\x<=255) : Ret Tryz.prog 46 [.slice y o.length D] w0 (fun v w=>∃ (d:Dg) (A:Option Addr) (c1:Nat) (B:Option Addr) (e:Nat),v=.agg #[vi d.n,.slice A d.ns.length c1,.slice B d.ws.length e,vi d.t,vi d.r]/\(d.ns.length<=1000/\d.ws.length<=2000000/\(∀ x ∈ d.ws,-1000000<=x.b/\x.b<=1000000)/\ExL d)/\Rd w w.heap.size 81 encNd A d.ns/\Rd w w.heap.size 83 encWr B d.ws/\d.ws.length<=e/\Below w0.heap.size w0 w):=by
 refine enter Tryz.func46 rfl 13 rfl rfl ?_;intro a J
 have p:=bz w0
 refine Zs J fun _ aR=>?_;refine Zf (Xq (zs:=[vi 0,.slice none 0 0,.slice none 0 0,vi 0,vi 0]) X0h rfl) ?_;rintro _ w1 ⟨b5,rfl,aI,C,c⟩;have aD:=Q0 p.size aI;have aP:=(g.bx p).away aI;have p:=btr p C;refine Zx aR fun a J _ aS=>?_;refine Zm rfl<|Ze (X0s (ps:=[(0,.slice y o.length D)]) (cs:=[.slice y o.length D,vi 0,.int .u64 0]) rfl (fun _=>by first|rfl|kernel_rfl))<|Zf (X0l (zs:=[.slice y o.length D,vi 0,.int .u64 0]) rfl rfl) ?_;rintro _ w2 ⟨b8,rfl,aJ,C,q⟩;have L:=Q0 p.size aJ;have u:=(g.bx p).away aJ;have c:=c.bw C;have p:=btr p C;refine Za rfl<|ZX aS fun a J _ aT=>?_;refine Zs J fun _ aK=>?_;refine Zm rfl<|Zf (Vc (Y3p _ b8 y D o (g.bx p).top aE u 0 0 q 10 (by omega)) Xpc) ?_;rintro _ w3 ⟨b2,aL,aM,rfl,aW,aX,hK,h⟩;obtain ⟨wm,M,hm,C⟩:=hK.mid;clear hm;have f:=q;have c:=c.oz M f rfl;have p:=Below.oy p M L;have c:=c.bw C;have p:=btr p C
 clear f C M hK;have q:=h;clear h;refine Zt aK fun a J=>?_
 refine Xi J rfl (fun N=>?_) (fun N=>?_)
 ·have aF:=N;refine Zs J fun _ aN=>?_;refine Zm rfl<|Zf (Vc (Y3f _ b8 y D o (g.bx p).top aE u aL aM q (by omega)) Xoj) ?_;rintro _ w4 ⟨i,Q,U,W,a6,aY,aZ,rfl,a7,aU,E,G,aG,hK,h⟩;obtain ⟨wm,M,hm,C⟩:=hK.mid;clear hm;have f:=q;have c:=c.oz M f rfl;have p:=Below.oy p M L;have c:=c.bw C;have p:=btr p C
  clear f C M hK;have q:=h;clear h;refine Zo (Vw [vi i.n,.slice Q i.ns.length U,.slice W i.ws.length a6,vi i.t,vi i.r] Xh c) ?_;rintro _ w5 ⟨ho,hb⟩;have f:=c;have E:=E.oT ho f rfl;have G:=G.oT ho f rfl;have p:=Below.oy p ho aD;have c:=hb;refine Zt aN fun a J=>?_;refine Q6<|X8<|X6 J (Xp J rfl (ResV.cellN (l:=[vi i.n,.slice Q i.ns.length U,.slice W i.ws.length a6,vi i.t,vi i.r]) rfl X2 (c.at 0) rfl)) ?_;exact ⟨i,Q,U,W,a6,rfl,by first|exact ⟨by omega,by omega,a7.2.2⟩|exact ⟨j.1.m,Q0 j.1.len (by decide),Xex j.1,j.2.l⟩,E.top,G.top,aG,p⟩
 have aF:=N;refine Q7<|aT _ _<|Zs J fun _ aO=>?_;refine Zm rfl<|Zf (Vc (Y2g _ b8 y D o (g.bx p).top aE u aL aM q (by omega)) Xru) ?_;rintro _ w6 ⟨k,a8,aA,aB,aC,b0,b1,rfl,j,aV,H,I,aH,hK,h⟩;obtain ⟨wm,M,hm,C⟩:=hK.mid;clear hm;have f:=q;have c:=c.oz M f rfl;have p:=Below.oy p M L;have c:=c.bw C;have p:=btr p C
 clear f C M hK;have q:=h;clear h;refine Zo (Vw [vi k.n,.slice a8 k.ns.length aA,.slice aB k.ws.length aC,vi k.t,vi k.r] Xh c) ?_;rintro _ w7 ⟨ho,hb⟩;have f:=c;have H:=H.oT ho f rfl;have I:=I.oT ho f rfl;have p:=Below.oy p ho aD;have c:=hb;refine Zt aO fun a J=>?_
 refine Q6 (X6 J (Xp J rfl (ResV.cellN (l:=[vi k.n,.slice a8 k.ns.length aA,.slice aB k.ws.length aC,vi k.t,vi k.r]) rfl X2 (c.at 0) rfl)) ?_)
 exact ⟨k,a8,aA,aB,aC,rfl,by first|exact ⟨by omega,by omega,a7.2.2⟩|exact ⟨j.1.m,Q0 j.1.len (by decide),Xex j.1,j.2.l⟩,H.top,I.top,aH,p⟩
theorem Xyp(w0:World){aI:TypeId}(a6:Option Addr)(aC:Nat)(g:List Int)(f:Rd w0 w0.heap.size aI encU a6 g)(aJ:∀ x ∈ g,0<=x/\x<=255) : Ret Tryz.prog 13 [.slice a6 g.length aC] w0 (fun v w=>∃ (d:Dg) (A:Option Addr) (c1:Nat) (B:Option Addr) (e:Nat),v=.agg #[vi d.n,.slice A d.ns.length c1,.slice B d.ws.length e,vi d.t,vi d.r]/\(d.ns.length<=1000/\d.ws.length<=2000000/\(∀ x ∈ d.ws,-1000000<=x.b/\x.b<=1000000)/\ExL d)/\Rd w w.heap.size 81 encNd A d.ns/\Rd w w.heap.size 83 encWr B d.ws/\d.ws.length<=e/\Below w0.heap.size w0 w):=by
 refine enter Tryz.func13 rfl 5 rfl rfl ?_;intro a hf
 have m:=bz w0
 refine Zs hf fun _ aK=>?_;refine Zf (Xq (zs:=[vi 0,.slice none 0 0,.slice none 0 0,vi 0,vi 0]) X0h rfl) ?_;rintro _ w1 ⟨b5,rfl,aD,hE,i⟩;have aE:=Q0 m.size aD;have aH:=(f.bx m).away aD;have m:=btr m hE;refine Zx aK fun a hf _ aL=>?_;refine Zm rfl<|Zf (Vc (Xrw _ a6 aC g (f.bx m).top aJ) Xgl) ?_;rintro _ w2 ⟨c,a7,a8,aA,aB,rfl,aF,j,k,aG,hE⟩;have i:=i.bw hE;have m:=btr m hE;refine Zo (Vw [vi c.n,.slice a7 c.ns.length a8,.slice aA c.ws.length aB,vi c.t,vi c.r] Xh i) ?_;rintro _ w3 ⟨ho,hb⟩;have o:=i;have j:=j.oT ho o rfl;have k:=k.oT ho o rfl;have m:=Below.oy m ho aE;have i:=hb;refine Zt aL fun a hf=>?_
 refine Q6 (X6 hf (Xp hf rfl (ResV.cellN (l:=[vi c.n,.slice a7 c.ns.length a8,.slice aA c.ws.length aB,vi c.t,vi c.r]) rfl X2 (i.at 0) rfl)) ?_)
 exact ⟨c,a7,a8,aA,aB,rfl,by first|exact aF,j.top,k.top,aG,m⟩
theorem Y2a(w0:World){aI:TypeId}(a6:Option Addr)(aC:Nat)(g:List Int)(f:Rd w0 w0.heap.size aI encU a6 g)(aJ:∀ x ∈ g,0<=x/\x<=255) : Ret Tryz.prog 21 [.slice a6 g.length aC] w0 (fun v w=>∃ (d:Dg) (A:Option Addr) (c1:Nat) (B:Option Addr) (e:Nat),v=.agg #[vi d.n,.slice A d.ns.length c1,.slice B d.ws.length e,vi d.t,vi d.r]/\(d.ns.length<=1000/\d.ws.length<=2000000/\(∀ x ∈ d.ws,-1000000<=x.b/\x.b<=1000000)/\ExL d)/\Rd w w.heap.size 81 encNd A d.ns/\Rd w w.heap.size 83 encWr B d.ws/\d.ws.length<=e/\Below w0.heap.size w0 w):=by
 refine enter Tryz.func21 rfl 5 rfl rfl ?_;intro a hf
 have m:=bz w0
 refine Zs hf fun _ aK=>?_;refine Zf (Xq (zs:=[vi 0,.slice none 0 0,.slice none 0 0,vi 0,vi 0]) X0h rfl) ?_;rintro _ w1 ⟨b5,rfl,aD,hE,i⟩;have aE:=Q0 m.size aD;have aH:=(f.bx m).away aD;have m:=btr m hE;refine Zx aK fun a hf _ aL=>?_;refine Zm rfl<|Zf (Vc (Xrw _ a6 aC g (f.bx m).top aJ) Xgl) ?_;rintro _ w2 ⟨c,a7,a8,aA,aB,rfl,aF,j,k,aG,hE⟩;have i:=i.bw hE;have m:=btr m hE;refine Zo (Vw [vi c.n,.slice a7 c.ns.length a8,.slice aA c.ws.length aB,vi c.t,vi c.r] Xh i) ?_;rintro _ w3 ⟨ho,hb⟩;have o:=i;have j:=j.oT ho o rfl;have k:=k.oT ho o rfl;have m:=Below.oy m ho aE;have i:=hb;refine Zt aL fun a hf=>?_
 refine Q6 (X6 hf (Xp hf rfl (ResV.cellN (l:=[vi c.n,.slice a7 c.ns.length a8,.slice aA c.ws.length aB,vi c.t,vi c.r]) rfl X2 (i.at 0) rfl)) ?_)
 exact ⟨c,a7,a8,aA,aB,rfl,by first|exact aF,j.top,k.top,aG,m⟩
theorem Y1i(i:World)(Al:Option Addr)(cl:Nat)(l:List Int)(e:Rd i i.heap.size 3 encI Al l)(g:l=alR5)(aH:l.length<=cl) : Ret Tryz.prog 96 [.slice Al l.length cl] i (fun v w=>v=.bool true/\Below i.heap.size i w):=by
 have aO:l.length=5:=by rw [g];rfl
 refine enter Tryz.func96 rfl 20 rfl rfl ?_;intro a b
 have f:=bz i
 refine Zs b fun _ aI=>?_;refine Za rfl<|ZX aI fun a b _ aJ=>?_;refine Zs b fun _ aK=>?_;refine Zm rfl<|Ze (X09 rfl Xj)<|Zm rfl<|Zt aK fun a b=>?_;refine Q8<|X01 (σ:=Nat) (fun (k:Nat) (a:Act) (w:World)=>Fr a 20 [(0,.slice Al l.length cl),(5,.slice Al l.length cl),(6,vi (l.length:Int)),(7,vi (k:Int))]/\(k<=l.length)/\Below i.heap.size i w) (fun (k:Nat)=>l.length-k) 0 ?_ ?_
 ·exact ⟨b.sb,(Qf _),f⟩
 rintro k a w1 ⟨b,hk,f⟩;refine Zs b fun _ aL=>?_;refine Ze (X0n rfl rfl)<|ZX aL fun a b _ aM=>?_
 refine Xi b rfl (fun c=>?_) (fun c=>?_)
 ·have a8:=c;have c:=Q2 c
  obtain ⟨u8,aP⟩:=X4 (l:=l) (k:=k) (by omega)
  obtain ⟨u9,aA⟩:=X4 (l:=l) (k:=k) (by have:=c;omega)
  have aB:=(Xsl g aA).2;refine Q7<|aM _ _<|Q5 fun _ aN=>?_;refine Q8<|Zs b fun _ aC=>?_;refine Zm rfl<|Zi (k:=k) (u:=u9) (enc:=encI) (l:=l) tv0 rfl rfl Xj X0b Xd (e.bx f) aA rfl ?_;intro aQ a6;refine Ze (X0 rfl X9 a6)<|Za rfl<|Za rfl<|Zx aC fun a b _ aD=>?_;refine Zm rfl<|Zm rfl ?_;have aE:=((e.bx f).top).takeK Xd k;refine Ze (X2r (l:=l) (k:=k) rfl rfl Xj X0b rfl hk aH)<|Zm rfl<|Zf (Vc (Xho _ Al cl (l.take k) aE.top u9 (by rw [Qn];omega)) X7n) ?_;rintro _ w2 ⟨rfl,hE⟩;have f:=btr f hE;refine Zt aD fun a b=>?_
  refine Xi b rfl (fun d=>?_) (fun d=>?_)
  ·have a7:=d
   exfalso;have h8:=d;rw [List.any_eq_true] at h8;obtain ⟨y,hy,aF⟩:=h8;rw [W7] at aB;exact aB y hy (by rw [beq_iff_eq] at aF ⊢;exact aF.symm)
  have a7:=d;refine Q7<|Xa<|aN _ _<|Zr b ?_;refine Ze (Xs rfl rfl (by omega) (by omega))<|Zm rfl ?_;refine Zn fun a b=>?_;refine Xc ?_;exact ⟨k+1,⟨b.sb,(by omega),f⟩,(by omega)⟩
 have a8:=c;have c:=Q1 c;refine Q9<|Xk<|Xk<|X02 ?_;refine aJ _ _<|Zs b fun _ aG=>?_;refine Zm rfl<|Zf (Vc (Y0j _ Al cl l (e.bx f).top 1 5 (by rw [g];decide)) Xld) ?_;rintro _ w3 ⟨rfl,hE⟩;have f:=btr f hE;refine Za rfl<|Zt aG fun a b=>?_
 refine Q6 (X6 b (Xp b rfl rfl) ?_)
 exact ⟨congrArg Value.bool (by rw [g];decide),f⟩
def sbD(d:Dg)(l:List Int) : Dg:=if goodD d=true then siD d l else zD
def sbL(d:Dg)(l:List Int) : List Rz:=if goodD d=true then siL d l else []
theorem Xj4{d:Dg}{l:List Int}(h:goodD d=false) : sbD d l=zD/\sbL d l=[]:=by unfold sbD sbL;rw [h];exact ⟨rfl,rfl⟩
theorem Xbc{d:Dg}{l:List Int}(h:goodD d=true) : sbD d l=siD d l/\sbL d l=siL d l:=by unfold sbD sbL;rw [h];exact ⟨rfl,rfl⟩
theorem Xz6(L:World)(d:Dg)(md:Nat)(M:md=d.ns.length)(Ad:Option Addr)(cd:Nat)(N:Rd L L.heap.size 81 encNd Ad d.ns)(Bd:Option Addr)(dd:Nat)(Q:Rd L L.heap.size 83 encWr Bd d.ws)(U:d.ws.length<=dd)(Al:Option Addr)(cl:Nat)(l:List Int)(W:Rd L L.heap.size 3 encI Al l)(aV:d.ws.length<=900000000)(aP:∀ x ∈ d.ws,-1000000<=x.b/\x.b<=1000000)(aE:l=alR5)(aQ:l.length<=cl) : Ret Tryz.prog 49 [.agg #[vi d.n,.slice Ad md cd,.slice Bd d.ws.length dd,vi d.t,vi d.r],.slice Al l.length cl] L (fun v w=>∃ A c B e P q,v=.tuple #[.agg #[vi (sbD d l).n,.slice A (sbD d l).ns.length c,.slice B (sbD d l).ws.length e,vi (sbD d l).t,vi (sbD d l).r],.slice P (sbL d l).length q,.bool (goodD d)]/\Rd w w.heap.size 81 encNd A (sbD d l).ns/\Rd w w.heap.size 83 encWr B (sbD d l).ws/\(sbD d l).ws.length<=e/\Own w L.heap.size 58 3 encRz P q (sbL d l)/\Below L.heap.size L w):=by
 refine enter Tryz.func49 rfl 26 rfl rfl ?_;intro a y
 have i:=bz L
 refine Zs y fun _ aR=>?_;refine Zf (X0l (zs:=[vi d.n,.slice Ad md cd,.slice Bd d.ws.length dd,vi d.t,vi d.r]) rfl rfl) ?_;rintro _ w1 ⟨b5,rfl,aS,m,u⟩;have aU:=Q0 i.size aS;have i:=btr i m;refine Zf (Xq (zs:=[vi 0,.slice none 0 0,.slice none 0 0,vi 0,vi 0]) X0h rfl) ?_;rintro _ w2 ⟨b8,rfl,aT,m,f⟩
 have aO:b5≠b8:=by have:=u.lt;omega
 have a6:=Q0 i.size aT;have u:=u.bw m;have i:=btr i m;refine Za rfl<|Za rfl<|ZX aR fun a y _ aF=>?_;refine Q5 fun _ aG=>?_;refine X0a (fun a w=>Fr a 26 [(1,.slice Al l.length cl),(2,(pZ9 b5)),(4,(pZ9 b8)),(16,.bool ((!(goodD d))&&true))]/\Below w2.heap.size w2 w) ?_ ?_
 ·have D:Below w2.heap.size w2 w2:=Below.refl _ _
  refine Zr y<|Ze (Vn X2 u)<|Zf (Vc (Xgy _ d md M Ad cd (N.bx i).top Bd dd (Q.bx i).top U (by omega) aP) X89) ?_;rintro _ w3 ⟨rfl,m⟩;have i:=btr i m;have D:=btr D m;refine Ze (X0w rfl)<|Zm rfl ?_
  refine Zg 12 rfl (fun g=>?_) (fun g=>?_)
  ·(iterate 3 refine Zp (gP g) ?_);refine Ze (X5 rfl g rfl) ?_;refine Zn fun a y=>?_
   have a7:Below w2.heap.size w2 w3:=D
   exact ⟨y.sub ⟨rfl,rfl,rfl,X1 rfl (by simp [g]),trivial⟩,a7⟩
  refine Zv (gW g) (X3 rfl) ?_;refine Zk (gW g) (Vc (Y1i _ Al cl l (W.bx i).top aE aQ) Xrf) ?_;rintro _ w4 ⟨rfl,m⟩;have i:=btr i m;have D:=btr D m;refine Zv (gW g) (X0w rfl) ?_;refine Ze (Xb rfl g rfl) ?_;refine Zn fun a y=>?_
  have a7:Below w2.heap.size w2 w4:=D
  exact ⟨y.sub ⟨rfl,rfl,rfl,X1 rfl (by simp [g]),trivial⟩,a7⟩
 rintro a w5 ⟨y,m⟩;have u:=u.bw m;have f:=f.bw m;have i:=btr i m;refine aG _ _ ?_
 refine Xi y rfl (fun h=>?_) (fun h=>?_)
 ·have a8:=h
  have aA:goodD d=false:=by have h8:=h;revert h8;cases goodD d<;>simp
  refine Zs y fun _ aH=>?_;refine Ze (X0s (ps:=[]) (cs:=[vi 0,.slice none 0 0,.slice none 0 0,vi 0,vi 0]) rfl (fun _=>by first|rfl|kernel_rfl))<|Zo (Vw [vi 0,.slice none 0 0,.slice none 0 0,vi 0,vi 0] Xh f) ?_;rintro _ w6 ⟨J,hb⟩;have k:=f;have i:=Below.oy i J a6;have f:=hb;refine Za rfl<|Za rfl<|Zt aH fun a y=>?_;refine Q6<|X8<|X6 y (Xdk y rfl (ResV.cellN (l:=[vi 0,.slice none 0 0,.slice none 0 0,vi 0,vi 0]) rfl X2 (f.at 0) rfl) rfl rfl) ?_
  rw [(Xj4 aA).1,(Xj4 aA).2,aA]
  exact ⟨none,0,none,0,none,0,rfl,(Rd.nil _ _ _ _ _),(Rd.nil _ _ _ _ _),(Qf _),(Own.nil _ _ _ _ _),i⟩
 have a8:=h
 have hG:goodD d=true:=by have h8:=h;revert h8;cases goodD d<;>simp
 refine Q7<|aF _ _<|Zs y fun _ aI=>?_;refine Ze (Vn X2 u)<|Zm rfl<|Zf (Vc (Xyj _ d md M Ad cd (N.bx i).top Bd dd (Q.bx i).top U Al cl l (W.bx i).top (X0e hG) (by rw [aE];decide)) Xqq) ?_;rintro _ w7 ⟨E,G,H,I,aB,aC,rfl,o,p,aJ,j,m⟩;have j:=j.lower i.size;have u:=u.bw m;have f:=f.bw m;have i:=btr i m;refine Zm rfl<|Ze (Xo (vs:=[.agg #[vi ((siD d l).n),.slice E ((siD d l).ns).length G,.slice H ((siD d l).ws).length I,vi ((siD d l).t),vi ((siD d l).r)],.slice aB (siL d l).length aC]) rfl rfl)<|Ze (Xo (vs:=[.agg #[vi ((siD d l).n),.slice E ((siD d l).ns).length G,.slice H ((siD d l).ws).length I,vi ((siD d l).t),vi ((siD d l).r)],.slice aB (siL d l).length aC]) rfl rfl)<|Zf (Xq (zs:=[vi 0,.slice none 0 0,.slice none 0 0,vi 0,vi 0]) X0h rfl) ?_;rintro _ w8 ⟨b24,rfl,aK,m,C⟩
 have aL:b5≠b24:=by have:=u.lt;omega
 have aM:b8≠b24:=by have:=f.lt;omega
 have aD:=Q0 i.size aK;have f:=f.bw m;have o:=o.bw m;have p:=p.bw m;have j:=j.bw m;have i:=btr i m;refine Zo (Vw [vi ((siD d l).n),.slice E ((siD d l).ns).length G,.slice H ((siD d l).ws).length I,vi ((siD d l).t),vi ((siD d l).r)] Xh C) ?_;rintro _ w9 ⟨J,hb⟩;have k:=C;have f:=f.oy J (by omega);have o:=o.oT J k rfl;have p:=p.oT J k rfl;have j:=j.oT J k rfl;have i:=Below.oy i J aD;have C:=hb;refine Za rfl<|Zx aI fun a y _ aN=>?_;refine Ze (Vn X2 C)<|Zm rfl<|Zo (Vw [vi ((siD d l).n),.slice E ((siD d l).ns).length G,.slice H ((siD d l).ws).length I,vi ((siD d l).t),vi ((siD d l).r)] Xh f) ?_;rintro _ aW ⟨J,hb⟩;have k:=f;have o:=o.oT J k rfl;have p:=p.oT J k rfl;have j:=j.oT J k rfl;have i:=Below.oy i J a6;have f:=hb;refine Za rfl<|Za rfl<|Zt aN fun a y=>?_
 refine Q6 (X6 y (Xdk y rfl (ResV.cellN (l:=[vi ((siD d l).n),.slice E ((siD d l).ns).length G,.slice H ((siD d l).ws).length I,vi ((siD d l).t),vi ((siD d l).r)]) rfl X2 (f.at 0) rfl) rfl rfl) ?_)
 rw [(Xbc hG).1,(Xbc hG).2,hG]
 exact ⟨E,G,H,I,aB,aC,rfl,o.top,p.top,aJ,j,i⟩
theorem Xzp(I:World)(d:Dg)(md:Nat)(a6:md=d.ns.length)(Ad:Option Addr)(cd:Nat)(a7:Rd I I.heap.size 81 encNd Ad d.ns)(Bd:Option Addr)(dd:Nat)(a8:Rd I I.heap.size 83 encWr Bd d.ws)(aA:d.ws.length<=dd)(aL:d.ws.length<=900000000)(aF:∀ x ∈ d.ws,-1000000<=x.b/\x.b<=1000000) : Ret Tryz.prog 15 [.agg #[vi d.n,.slice Ad md cd,.slice Bd d.ws.length dd,vi d.t,vi d.r]] I (fun v w=>∃ A c B e P q,v=.tuple #[.agg #[vi (sbD d alR5).n,.slice A (sbD d alR5).ns.length c,.slice B (sbD d alR5).ws.length e,vi (sbD d alR5).t,vi (sbD d alR5).r],.slice P (sbL d alR5).length q,.bool (goodD d)]/\Rd w w.heap.size 81 encNd A (sbD d alR5).ns/\Rd w w.heap.size 83 encWr B (sbD d alR5).ws/\(sbD d alR5).ws.length<=e/\Own w I.heap.size 58 3 encRz P q (sbL d alR5)/\Below I.heap.size I w):=by
 refine enter Tryz.func15 rfl 11 rfl rfl ?_;intro a hf
 have i:=bz I
 refine Zs hf fun _ aG=>?_;refine Zf (X0l (zs:=[vi d.n,.slice Ad md cd,.slice Bd d.ws.length dd,vi d.t,vi d.r]) rfl rfl) ?_;rintro _ w1 ⟨b4,rfl,aH,k,D⟩;have aK:=Q0 i.size aH;have i:=btr i k;refine Zf (Xq (zs:=[vi 0,.slice none 0 0,.slice none 0 0,vi 0,vi 0]) X0h rfl) ?_;rintro _ w2 ⟨b7,rfl,aI,k,f⟩
 have aE:b4≠b7:=by have:=D.lt;omega
 have aB:=Q0 i.size aI;have D:=D.bw k;have i:=btr i k;refine Za rfl<|Za rfl<|ZX aG fun a hf _ aJ=>?_;refine X04 none (fun j=>[6].contains j) mixed ?_;intro w3 k;have D:=D.bw k;have f:=f.bw k;have i:=btr i k;refine Yb hf<|Ye 0 rfl (Vn X2 D)<|Y1 1 ?_;refine Yk rfl tv0 (Vc (Y3l _) Xpl) (fun _ _ ⟨aC,aD,_,m,k⟩=>k) ?_;rintro _ w4 ⟨aC,aD,rfl,m,k⟩;have m:=m.lower i.size;have f:=f.bw k;have i:=btr i k;refine Y1 2<|Yk rfl tv0 (Vc (Xz6 _ d md a6 Ad cd (a7.bx i).top Bd dd (a8.bx i).top aA aC aD ([(1:Int),2,3,4,5]) m.rd.top (by omega) aF rfl m.cap) Xoc) (fun _ _ ⟨o,p,u,y,E,G,_,h,C,J,g,k⟩=>k) ?_;rintro _ w5 ⟨o,p,u,y,E,G,rfl,h,C,J,g,k⟩;have g:=g.lower i.size;have f:=f.bw k;have i:=btr i k;refine Yo 3 rfl (fun _=>Xo (vs:=[.agg #[vi ((sbD d ([(1:Int),2,3,4,5])).n),.slice o ((sbD d ([(1:Int),2,3,4,5])).ns).length p,.slice u ((sbD d ([(1:Int),2,3,4,5])).ws).length y,vi ((sbD d ([(1:Int),2,3,4,5])).t),vi ((sbD d ([(1:Int),2,3,4,5])).r)],.slice E (sbL d ([(1:Int),2,3,4,5])).length G,.bool (goodD d)]) rfl rfl)<|Yo 4 rfl (fun _=>Xo (vs:=[.agg #[vi ((sbD d ([(1:Int),2,3,4,5])).n),.slice o ((sbD d ([(1:Int),2,3,4,5])).ns).length p,.slice u ((sbD d ([(1:Int),2,3,4,5])).ws).length y,vi ((sbD d ([(1:Int),2,3,4,5])).t),vi ((sbD d ([(1:Int),2,3,4,5])).r)],.slice E (sbL d ([(1:Int),2,3,4,5])).length G,.bool (goodD d)]) rfl rfl)<|Yo 5 rfl (fun _=>Xo (vs:=[.agg #[vi ((sbD d ([(1:Int),2,3,4,5])).n),.slice o ((sbD d ([(1:Int),2,3,4,5])).ns).length p,.slice u ((sbD d ([(1:Int),2,3,4,5])).ws).length y,vi ((sbD d ([(1:Int),2,3,4,5])).t),vi ((sbD d ([(1:Int),2,3,4,5])).r)],.slice E (sbL d ([(1:Int),2,3,4,5])).length G,.bool (goodD d)]) rfl rfl)<|Y1 6 ?_
 refine Yh rfl tv0 rfl (Vw [vi ((sbD d ([(1:Int),2,3,4,5])).n),.slice o ((sbD d ([(1:Int),2,3,4,5])).ns).length p,.slice u ((sbD d ([(1:Int),2,3,4,5])).ws).length y,vi ((sbD d ([(1:Int),2,3,4,5])).t),vi ((sbD d ([(1:Int),2,3,4,5])).r)] Xh f) ?_;rintro _ w6 ⟨ho,hb⟩;have H:=f;have h:=h.oT ho H rfl;have C:=C.oT ho H rfl;have g:=g.oT ho H rfl;have i:=Below.oy i ho aB;have f:=hb;refine Yo 7 rfl (fun _=>X0u rfl)<|Yo 8 rfl (fun _=>X0u rfl) ?_;refine Yd fun a hf=>?_;refine aJ _ _ ?_
 refine Q6 (X6 hf (Xdk hf rfl (ResV.cellN (l:=[vi ((sbD d ([(1:Int),2,3,4,5])).n),.slice o ((sbD d ([(1:Int),2,3,4,5])).ns).length p,.slice u ((sbD d ([(1:Int),2,3,4,5])).ws).length y,vi ((sbD d ([(1:Int),2,3,4,5])).t),vi ((sbD d ([(1:Int),2,3,4,5])).r)]) rfl X2 (f.at 0) rfl) rfl rfl) ?_)
 exact ⟨o,p,u,y,E,G,rfl,h.top,C.top,J,g,i⟩
theorem Xyh(G:World)(d:Dg)(md:Nat)(b8:md=d.ns.length)(Ad:Option Addr)(cd:Nat)(aH:Rd G G.heap.size 81 encNd Ad d.ns)(Bd:Option Addr)(dd:Nat)(aI:Rd G G.heap.size 83 encWr Bd d.ws)(y:d.ws.length<=dd)(x:Int)(hG:goodD d=true) : Ret Tryz.prog 103 [.agg #[vi d.n,.slice Ad md cd,.slice Bd d.ws.length dd,vi d.t,vi d.r],vi x,vi 1] G (fun v w=>∃ A c,v=.slice A ((alL d x).take 1).length c/\Own w G.heap.size 58 3 encRz A c ((alL d x).take 1)/\Below G.heap.size G w):=by
 subst b8
 have hD:=X0e hG;have cV:=hD.m;have cW:=hD.len;refine enter Tryz.func103 rfl 61 rfl rfl ?_;intro a e
 have p:=bz G
 refine Zs e fun _ cA=>?_;refine Zf (X0l (zs:=[vi d.n,.slice Ad d.ns.length cd,.slice Bd d.ws.length dd,vi d.t,vi d.r]) rfl rfl) ?_;rintro _ w1 ⟨b4,rfl,cB,h,b⟩;have cP:=Q0 p.size cB;have p:=btr p h;refine Za rfl<|Zx cA fun a e _ cC=>?_;refine Zf (Xn (k:=0) (vs:=[]) (zs:=[]) rfl X13 X2f rfl rfl) ?_;rintro _ w2 ⟨b7,rfl,cD,h,cE⟩;have b9:=Q0 p.size cD;have b:=b.bw h;have p:=btr p h;refine Za rfl<|ZX cC fun a e _ cF=>?_;refine Zs e fun _ bA=>?_;refine Ze (Vd rfl Xf 1)<|Ze (X0 rfl Xz (b.at 1))<|Ze (X09 rfl Xm)<|Zm rfl<|Zt bA fun a e=>?_;refine Q8<|X01 (σ:=Nat×(List Rz)) (fun (s:Nat×(List Rz)) (a:Act) (w:World)=>match s with|(k,m)=>∃ J L,Fr a 61 [(1,vi x),(2,vi 1),(3,(pZ9 b4)),(7,.slice J m.length L),(18,vi (d.ns.length:Int)),(19,vi (k:Int))]/\(k<=d.ns.length)/\(m=stA d x k)/\(m.length<=1)/\Blk w b4 39 [vi d.n,.slice Ad d.ns.length cd,.slice Bd d.ws.length dd,vi d.t,vi d.r]/\Own w G.heap.size 58 3 encRz J L m/\d.ws.length<=dd/\Below G.heap.size G w) (fun (s:Nat×(List Rz))=>match s with|(k,m)=>d.ns.length-k) (0,[]) ?_ ?_
 ·exact ⟨some ⟨b7,0,none⟩,0,e.sb,(Qf _),rfl,(by simp),b,(Own.empty cE b9),y,p⟩
 rintro ⟨k,m⟩ a w3 ⟨J,L,e,hk,hm,bB,b,B,y,p⟩;refine Zs e fun _ bC=>?_;refine Ze (X0n rfl rfl)<|ZX bC fun a e _ bD=>?_
 refine Xi e rfl (fun C=>?_) (fun C=>?_)
 ·have U:=C;have C:=Q2 C
  obtain ⟨cX,cQ⟩:=X4 (l:=d.ns) (k:=k) (by omega)
  have cG:k<d.ns.length:=by have:=C;omega
  have cY:=Xoo hD x (k:Int);refine Q7<|bD _ _<|Q5 fun _ bE=>?_;refine Q8<|Zs e fun _ bF=>?_;refine Zm rfl<|Za rfl<|Zx bF fun a e _ bG=>?_;refine Zf (Xn (k:=1) (vs:=[vi 0]) (zs:=[vi 0]) rfl Xj X1g rfl rfl) ?_;rintro _ w4 ⟨bH,rfl,bJ,h,aB⟩;have cH:=Q0 p.size bJ;have b:=b.bw h;have B:=B.bw h;have p:=btr p h;refine Za rfl<|ZX bG fun a e _ bK=>?_;refine Q5 fun _ bL=>?_;refine X0a (fun a w=>Fr a 61 [(1,vi x),(2,vi 1),(3,(pZ9 b4)),(7,.slice J m.length L),(8,vi (k:Int)),(9,.slice (some ⟨bH,0,none⟩) ([0]).length 1),(18,vi (d.ns.length:Int)),(19,vi (k:Int)),(28,.bool ((x==1)||(x==4)))]/\w4=w) ?_ ?_
  ·refine Zr e<|Zm rfl<|Ze (X0k rfl rfl)<|Zm rfl ?_
   refine Zg 25 rfl (fun D=>?_) (fun D=>?_)
   ·(iterate 2 refine Zp (gP D) ?_);refine Ze (X5 rfl D rfl) ?_;refine Zn fun a e=>?_;exact ⟨e.sub ⟨rfl,rfl,rfl,rfl,rfl,rfl,rfl,rfl,X1 rfl (by simp [U,D]),trivial⟩,rfl⟩
   refine Zv (gW D) (X3 rfl) ?_;refine Zv (gW D) (X0k rfl rfl) ?_;refine Ze (Xb rfl D rfl) ?_;refine Zn fun a e=>?_;exact ⟨e.sub ⟨rfl,rfl,rfl,rfl,rfl,rfl,rfl,rfl,X1 rfl (by simp [U,D]),trivial⟩,rfl⟩
  rintro a _ ⟨e,rfl⟩;refine bL _ _<|X0a (fun a w=>∃ aC aM,Fr a 61 [(1,vi x),(2,vi 1),(3,(pZ9 b4)),(7,.slice J m.length L),(8,vi (k:Int)),(9,.slice aC (secL d x k).length aM),(18,vi (d.ns.length:Int)),(19,vi (k:Int))]/\Blk w b4 39 [vi d.n,.slice Ad d.ns.length cd,.slice Bd d.ws.length dd,vi d.t,vi d.r]/\Own w G.heap.size 58 3 encRz J L m/\Rd w w.heap.size 3 encI aC (secL d x k)/\d.ws.length<=dd/\Below G.heap.size G w) ?_ ?_
  ·refine Xi e rfl (fun M=>?_) (fun M=>?_)
   ·have aN:=M;have aD:=Y3t (d:=d) (a:=(k:Int)) M;refine Zr e<|Ze (Vn X2 b)<|Zm rfl<|Zf (Vc (Xa1 _ d d.ns.length rfl Ad cd (aH.bx p).top Bd dd (aI.bx p).top y (k:Int) hD.w (by omega)) X5j) ?_;rintro _ w5 ⟨cI,cJ,rfl,W,h⟩;have b2:=W.awayNew aB.lt;have W:=W.lower p.size;have b:=b.bw h;have B:=B.bw h;have p:=btr p h;refine Za rfl ?_;refine Zn fun a e=>?_
    rw [aD]
    refine Xc ?_;exact ⟨cI,cJ,e.sb,b,B,W.rd.top,y,p⟩
   have aN:=M;have aD:=Y1w (d:=d) (a:=(k:Int)) M;refine Q7 ?_
   rw [aD]
   refine Xc ?_;exact ⟨some ⟨bH,0,none⟩,1,e.sb,b,B,(Rd.of_blk aB rfl _ aB.lt),y,p⟩
  rintro a w6 ⟨aC,aM,e,b,B,f,y,p⟩;refine bK _ _<|Zs e fun _ bM=>?_;refine Zm rfl<|Ze (X09 rfl Xj)<|Zm rfl<|Zt bM fun a e=>?_;refine Q8<|X01 (σ:=Nat×(List Rz)) (fun (s:Nat×(List Rz)) (a:Act) (w:World)=>match s with|(j,g)=>∃ a7 a8,Fr a 61 [(1,vi x),(2,vi 1),(3,(pZ9 b4)),(7,.slice a7 g.length a8),(8,vi (k:Int)),(18,vi (d.ns.length:Int)),(19,vi (k:Int)),(32,.slice aC (secL d x k).length aM),(33,vi ((secL d x k).length:Int)),(34,vi (j:Int))]/\(j<=(secL d x k).length)/\(g=stA d x k++stR d x k ((secL d x k).take j))/\(g.length<=1)/\Blk w b4 39 [vi d.n,.slice Ad d.ns.length cd,.slice Bd d.ws.length dd,vi d.t,vi d.r]/\Own w G.heap.size 58 3 encRz a7 a8 g/\Rd w w6.heap.size 3 encI aC (secL d x k)/\d.ws.length<=dd/\Below G.heap.size G w) (fun (s:Nat×(List Rz))=>match s with|(j,g)=>(secL d x k).length-j) (0,m) ?_ ?_
  ·exact ⟨J,L,e.sb,(Qf _),(by rw [hm];simp [stR]),bB,b,B,f,y,p⟩
  rintro ⟨j,g⟩ a w7 ⟨a7,a8,e,hj,hg,aO,b,i,f,y,p⟩;refine Zs e fun _ bN=>?_;refine Ze (X0n rfl rfl)<|ZX bN fun a e _ bO=>?_
  refine Xi e rfl (fun E=>?_) (fun E=>?_)
  ·have aP:=E;have E:=Q2 E
   obtain ⟨cZ,cR⟩:=X4 (l:=(secL d x k)) (k:=j) (by omega)
   obtain ⟨q,aQ⟩:=X4 (l:=secL d x k) (k:=j) (by have:=E;omega)
   refine Q7<|bO _ _<|Q5 fun _ aJ=>?_;refine Q8<|Zs e fun _ bP=>?_;refine Zi (k:=j) (u:=q) (enc:=encI) (l:=(secL d x k)) tv0 rfl rfl Xj X0b Xd f aQ rfl ?_;intro d5 aR;refine Ze (X0 rfl X9 aR)<|Za rfl<|Zx bP fun a e _ bQ=>?_;refine Zm rfl<|Zm rfl<|Zm rfl<|Ze (X0s (ps:=[(0,vi x),(1,vi (k:Int)),(2,vi q)]) (cs:=[vi x,vi (k:Int),vi q]) rfl (fun _=>by first|rfl|kernel_rfl))<|Zf (Xq (zs:=[vi 0,vi 0,vi 0]) X44 rfl) ?_;rintro _ w8 ⟨cK,rfl,aK,h,o⟩;have aS:=Q0 p.size aK;have H:=i.away aK;have b:=b.bw h;have i:=i.bw h;have f:=f.bw h;have p:=btr p h;refine Zo (Vw [vi x,vi (k:Int),vi q] X27 o) ?_;rintro _ w9 ⟨ho,hb⟩;have I:=o;have b:=b.oz ho I rfl;have i:=i.onlyA ho H;have f:=f.oT ho I rfl;have p:=Below.oy p ho aS;have o:=hb;refine ZX bQ fun a e _ bR=>?_;refine Zs e fun _ bS=>?_;refine Zm rfl<|Ze (X09 rfl X13)<|Zm rfl<|Ze (X0k rfl rfl)<|Zt bS fun a e=>?_
   refine Xi e rfl (fun N=>?_) (fun N=>?_)
   ·have aT:=N
    have aE:(alL d x).take 1=g:=Xvf hD cG hg (by have h8:=N;simp at h8;omega)
    refine Zs e fun _ bT=>?_;refine Zm rfl<|Za rfl<|Zt bT fun a e=>?_;refine Q6<|X8<|Xw<|X8 ?_;refine X8<|Xw<|Xw<|X8 ?_;refine X8<|Xw<|X8<|X6 e (Xp e rfl rfl) ?_
    rw [aE]
    exact ⟨a7,a8,rfl,i,p⟩
   have aT:=N
   have d6:g.length=0:=by have h8:=N;simp at h8;omega
   refine Q7<|bR _ _<|Zs e fun _ bU=>?_;refine Ze (Vn X2 b)<|Ze (Vn X1n o)<|Zf (Vc (Xj5 _ d d.ns.length rfl Ad cd (aH.bx p).top Bd dd (aI.bx p).top y (⟨x,(k:Int),q⟩ : Rz) hG) Xc8) ?_;rintro _ d7 ⟨aU,aV,aW,aX,rfl,cS,cT,cU,h⟩;have b:=b.bw h;have o:=o.bw h;have i:=i.bw h;have f:=f.bw h;have p:=btr p h;refine Zm rfl<|Ze (Xo (vs:=[.agg #[vi ((if (apC d (⟨x,(k:Int),q⟩ : Rz))=true then apD d (⟨x,(k:Int),q⟩ : Rz) else zD).n),.slice aU ((if (apC d (⟨x,(k:Int),q⟩ : Rz))=true then apD d (⟨x,(k:Int),q⟩ : Rz) else zD).ns).length aV,.slice aW ((if (apC d (⟨x,(k:Int),q⟩ : Rz))=true then apD d (⟨x,(k:Int),q⟩ : Rz) else zD).ws).length aX,vi ((if (apC d (⟨x,(k:Int),q⟩ : Rz))=true then apD d (⟨x,(k:Int),q⟩ : Rz) else zD).t),vi ((if (apC d (⟨x,(k:Int),q⟩ : Rz))=true then apD d (⟨x,(k:Int),q⟩ : Rz) else zD).r)],.bool (apC d (⟨x,(k:Int),q⟩ : Rz))]) rfl rfl)<|Ze (Xo (vs:=[.agg #[vi ((if (apC d (⟨x,(k:Int),q⟩ : Rz))=true then apD d (⟨x,(k:Int),q⟩ : Rz) else zD).n),.slice aU ((if (apC d (⟨x,(k:Int),q⟩ : Rz))=true then apD d (⟨x,(k:Int),q⟩ : Rz) else zD).ns).length aV,.slice aW ((if (apC d (⟨x,(k:Int),q⟩ : Rz))=true then apD d (⟨x,(k:Int),q⟩ : Rz) else zD).ws).length aX,vi ((if (apC d (⟨x,(k:Int),q⟩ : Rz))=true then apD d (⟨x,(k:Int),q⟩ : Rz) else zD).t),vi ((if (apC d (⟨x,(k:Int),q⟩ : Rz))=true then apD d (⟨x,(k:Int),q⟩ : Rz) else zD).r)],.bool (apC d (⟨x,(k:Int),q⟩ : Rz))]) rfl rfl)<|Zf (Xq (zs:=[vi 0,.slice none 0 0,.slice none 0 0,vi 0,vi 0]) X0h rfl) ?_;rintro _ d8 ⟨b48,rfl,bW,h,aF⟩
   have bX:b4≠b48:=by have:=b.lt;omega
   have aY:=Q0 p.size bW;have b:=b.bw h;have o:=o.bw h;have i:=i.bw h;have f:=f.bw h;have p:=btr p h;refine Zo (Vw [vi ((if (apC d (⟨x,(k:Int),q⟩ : Rz))=true then apD d (⟨x,(k:Int),q⟩ : Rz) else zD).n),.slice aU ((if (apC d (⟨x,(k:Int),q⟩ : Rz))=true then apD d (⟨x,(k:Int),q⟩ : Rz) else zD).ns).length aV,.slice aW ((if (apC d (⟨x,(k:Int),q⟩ : Rz))=true then apD d (⟨x,(k:Int),q⟩ : Rz) else zD).ws).length aX,vi ((if (apC d (⟨x,(k:Int),q⟩ : Rz))=true then apD d (⟨x,(k:Int),q⟩ : Rz) else zD).t),vi ((if (apC d (⟨x,(k:Int),q⟩ : Rz))=true then apD d (⟨x,(k:Int),q⟩ : Rz) else zD).r)] Xh aF) ?_;rintro _ d9 ⟨ho,hb⟩;have I:=aF;have b:=b.oy ho (by omega);have o:=o.oz ho I rfl;have i:=i.oT ho I rfl;have f:=f.oT ho I rfl;have p:=Below.oy p ho aY;have aF:=hb;refine Za rfl<|Zx bU fun a e _ bY=>?_;refine Zm rfl<|Zt bY fun a e=>?_
   refine Xi e rfl (fun Q=>?_) (fun Q=>?_)
   ·have aZ:=Q;have b0:=Y20 aQ Q;refine Zr e<|Zm rfl<|Ze (Vn X1n o)<|Zf (Xn (k:=1) (vs:=[.agg #[vi x,vi (k:Int),vi q]]) (zs:=[vi x,vi (k:Int),vi q]) rfl X13 X2f rfl rfl) ?_;rintro _ dA ⟨b51,rfl,aL,h,aG⟩
    have b3:cK≠b51:=by have:=o.lt;omega
    have cL:=Q0 p.size aL;have aA:=i.away aL;have b:=b.bw h;have o:=o.bw h;have i:=i.bw h;have f:=f.bw h;have p:=btr p h;refine Zf (X0t (enc:=encRz) (l:=(g)) (l2:=([(⟨x,(k:Int),q⟩ : Rz)])) (B0:=G.heap.size) rfl rfl X13 X2f X2l X5x i (Rd.of_blk aG rfl _ aG.lt) (by simp only [maxLen];simp;omega) (by simp;omega) p.size) ?_;rintro _ dB ⟨cM,cN,rfl,bZ,hg,b1⟩
    have a6:Own _ G.heap.size 58 3 encRz _ _ (g):=i
    have b5:=b1 _ o.lt H;have b6:=b1 _ aG.lt aA;clear b1;have b:=b.appT a6 hg rfl;have f:=f.appT a6 hg rfl;have p:=Below.app p a6 hg (Qb _) p.size;clear a6 hg;refine Za rfl ?_;refine Zn fun a e=>?_;refine Xa<|aJ _ _<|Zr e<|Ze (Xs rfl rfl (by omega) (by omega))<|Zm rfl ?_;refine Zn fun a e=>?_;refine Xc ?_;exact ⟨(j+1,g++([(⟨x,(k:Int),q⟩ : Rz)])),⟨cM,cN,e.sb,(by omega),(by rw [b0,hg];try rw [Qx]),(by first|exact aO|(rw [Qh,List.length_singleton];omega)),b,bZ,f,y,p⟩,(by first|omega|(dsimp only;omega))⟩
   have aZ:=Q;have b0:=Y37 aQ Q;refine Q7<|Xa<|aJ _ _<|Zr e ?_;refine Ze (Xs rfl rfl (by omega) (by omega))<|Zm rfl ?_;refine Zn fun a e=>?_;refine Xc ?_;exact ⟨(j+1,g),⟨a7,a8,e.sb,(by omega),(by rw [b0,hg];try rw [Qx]),(by first|exact aO|(rw [Qh,List.length_singleton];omega)),b,i,f,y,p⟩,(by first|omega|(dsimp only;omega))⟩
  have aP:=E;have E:=Q1 E
  have cO:g=stA d x (k+1):=by rw [Xfd,hg,Qi (by have:=E;omega)]
  refine Q9<|Xk<|Xk<|X02 ?_;refine Xa<|bE _ _<|Zr e<|Ze (Xs rfl rfl (by omega) (by omega))<|Zm rfl ?_;refine Zn fun a e=>?_;refine Xc ?_;exact ⟨(k+1,g),⟨a7,a8,e.sb,(by omega),cO,aO,b,i,y,p⟩,(by first|omega|(dsimp only;omega))⟩
 have U:=C;have C:=Q1 C
 have aE:(alL d x).take 1=m:=by rw [<- Xks hD,show d.ns.length=k by have:=C;omega,<- hm];exact Qi bB
 refine Q9<|Xk<|Xk<|X02 ?_;refine cF _ _<|Zs e fun _ c5=>?_;refine Zm rfl<|Za rfl<|Zt c5 fun a e=>?_
 refine Q6 (X6 e (Xp e rfl rfl) ?_)
 rw [aE]
 exact ⟨J,L,rfl,B,p⟩
theorem Xmx(q:World)(d:Dg)(md:Nat)(aD:md=d.ns.length)(Ad:Option Addr)(cd:Nat)(aE:Rd q q.heap.size 81 encNd Ad d.ns)(Bd:Option Addr)(dd:Nat)(aF:Rd q q.heap.size 83 encWr Bd d.ws)(o:d.ws.length<=dd)(Al:Option Addr)(cl:Nat)(l:List Int)(aG:Rd q q.heap.size 3 encI Al l)(hG:goodD d=true)(aZ:l.length<=1000000000) : Ret Tryz.prog 51 [.agg #[vi d.n,.slice Ad md cd,.slice Bd d.ws.length dd,vi d.t,vi d.r],.slice Al l.length cl] q (fun v w=>v=.tuple #[.agg #[vi ((fsF d l).getD rwZ).u,vi ((fsF d l).getD rwZ).a,vi ((fsF d l).getD rwZ).b],.bool ((fsF d l).isSome)]/\Below q.heap.size q w):=by
 subst aD
 refine enter Tryz.func51 rfl 26 rfl rfl ?_;intro a g
 have i:=bz q
 refine Zs g fun _ aQ=>?_;refine Zf (X0l (zs:=[vi d.n,.slice Ad d.ns.length cd,.slice Bd d.ws.length dd,vi d.t,vi d.r]) rfl rfl) ?_;rintro _ w1 ⟨b5,rfl,aR,y,j⟩;have aX:=Q0 i.size aR;have i:=btr i y;refine Zf (Xq (zs:=[vi 0,vi 0,vi 0]) X44 rfl) ?_;rintro _ w2 ⟨b6,rfl,aS,y,c⟩;have h:=Q0 i.size aS;have j:=j.bw y;have i:=btr i y;refine Za rfl<|ZX aQ fun a g _ aT=>?_;refine Zs g fun _ aU=>?_;refine Zm rfl<|Ze (X09 rfl Xj)<|Zm rfl<|Zt aU fun a g=>?_;refine Q8<|X01 (σ:=Nat) (fun (k:Nat) (a:Act) (w:World)=>Fr a 26 [(2,(pZ9 b5)),(4,(pZ9 b6)),(9,.slice Al l.length cl),(10,vi (l.length:Int)),(11,vi (k:Int))]/\(k<=l.length)/\(fsF d (l.take k)=none)/\Blk w b5 39 [vi d.n,.slice Ad d.ns.length cd,.slice Bd d.ws.length dd,vi d.t,vi d.r]/\Blk w b6 58 [vi 0,vi 0,vi 0]/\d.ws.length<=dd/\Below q.heap.size q w) (fun (k:Nat)=>l.length-k) 0 ?_ ?_
 ·exact ⟨g.sb,(Qf _),rfl,j,c,o,i⟩
 rintro k a w3 ⟨g,hk,a6,j,c,o,i⟩;refine Zs g fun _ aV=>?_;refine Ze (X0n rfl rfl)<|ZX aV fun a g _ aH=>?_
 refine Xi g rfl (fun e=>?_) (fun e=>?_)
 ·have a7:=e;have e:=Q2 e
  obtain ⟨b0,aY⟩:=X4 (l:=l) (k:=k) (by omega)
  obtain ⟨m,a8⟩:=X4 (l:=l) (k:=k) (by have:=e;omega)
  refine Q7<|aH _ _<|Q5 fun _ aI=>?_;refine Q8<|Zs g fun _ aJ=>?_;refine Zi (k:=k) (u:=m) (enc:=encI) (l:=l) tv0 rfl rfl Xj X0b Xd (aG.bx i) a8 rfl ?_;intro b1 aA;refine Ze (X0 rfl X9 aA)<|Za rfl<|Zx aJ fun a g _ aK=>?_;refine Ze (Vn X2 j)<|Zm rfl<|Zf (Vc (Xyh _ d d.ns.length rfl Ad cd (aE.bx i).top Bd dd (aF.bx i).top o m hG) Xoe) ?_;rintro _ w4 ⟨b2,b3,rfl,p,y⟩;have aL:=p.awayNew c.lt;have p:=p.lower i.size;have j:=j.bw y;have c:=c.bw y;have i:=btr i y;refine Za rfl<|Zx aK fun a g _ aM=>?_;refine Zm rfl<|Ze (X09 rfl X13)<|Ze (X2y rfl rfl)<|Zt aM fun a g=>?_
  refine Xi g rfl (fun f=>?_) (fun f=>?_)
  ·have aB:=f;have f:=Q2 f
   have A:0<((alL d m).take 1).length:=by have:=f;omega
   have x:fsF d l=some ((alL d m).getD 0 rwZ):=Xlo a6 a8 (Xi7 A)
   refine Zs g fun _ aN=>?_;refine Zm rfl<|Zi (k:=0) (u:=((alL d m).getD 0 rwZ)) (enc:=encRz) (l:=((alL d m).take 1)) tv0 rfl rfl X13 X27 X2l p.rd (Xk4 A) rfl ?_;intro b4 aC;refine Ze (X03 (l:=[vi (((alL d m).getD 0 rwZ).u),vi (((alL d m).getD 0 rwZ).a),vi (((alL d m).getD 0 rwZ).b)]) rfl X1n aC rfl)<|Zo (Vw [vi (((alL d m).getD 0 rwZ).u),vi (((alL d m).getD 0 rwZ).a),vi (((alL d m).getD 0 rwZ).b)] X27 c) ?_;rintro _ w5 ⟨ho,hb⟩;have aO:=c;have i:=Below.oy i ho h;have c:=hb;refine Za rfl<|Zt aN fun a g=>?_;refine Q6<|Xw<|X8<|X8 ?_;refine Xw<|X8<|X6 g (X1v g rfl (ResV.cellN (l:=[vi (((alL d m).getD 0 rwZ).u),vi (((alL d m).getD 0 rwZ).a),vi (((alL d m).getD 0 rwZ).b)]) rfl X1n (c.at 0) rfl) rfl) ?_;exact ⟨by rw [x];rfl,i⟩
  have aB:=f;have f:=Q1 f
  have aW:fsF d (l.take (k+1))=none:=Xt2 a6 a8 (Xhw (by have:=f;omega))
  refine Q7<|Xa<|aI _ _<|Zr g ?_;refine Ze (Xs rfl rfl (by omega) (by omega))<|Zm rfl ?_;refine Zn fun a g=>?_;refine Xc ?_;exact ⟨k+1,⟨g.sb,(by omega),aW,j,c,o,i⟩,(by omega)⟩
 have a7:=e;have e:=Q1 e
 have x:fsF d l=none:=Xnj a6 (by have:=e;omega)
 refine Q9<|Xk<|Xk<|X02 ?_;refine aT _ _<|Zs g fun _ aP=>?_;refine Ze (X0s (ps:=[]) (cs:=[vi 0,vi 0,vi 0]) rfl (fun _=>by first|rfl|kernel_rfl))<|Zo (Vw [vi 0,vi 0,vi 0] X27 c) ?_;rintro _ w6 ⟨ho,hb⟩;have aO:=c;have i:=Below.oy i ho h;have c:=hb;refine Za rfl<|Zt aP fun a g=>?_
 refine Q6 (X6 g (X1v g rfl (ResV.cellN (l:=[vi 0,vi 0,vi 0]) rfl X1n (c.at 0) rfl) rfl) ?_)
 exact ⟨by rw [x];rfl,i⟩
theorem Xt1(w0:World)(d:Dg)(md:Nat)(bG:md=d.ns.length)(Ad:Option Addr)(cd:Nat)(aX:Rd w0 w0.heap.size 81 encNd Ad d.ns)(Bd:Option Addr)(dd:Nat)(aY:Rd w0 w0.heap.size 83 encWr Bd d.ws)(M:d.ws.length<=dd)(Al:Option Addr)(cl:Nat)(l:List Int)(aM:Rd w0 w0.heap.size 3 encI Al l)(d8:d.ws.length<=90000000)(hN:d.ns.length<=1000)(cO:∀ (k:Nat) (u:Int),l[k]? = some u->inR u 1 5=true/\((l.take k).any fun y=>u==y)=false)(d5:l.length<=5)(cP:l.length<=cl) : Ret Tryz.prog 47 [.agg #[vi d.n,.slice Ad md cd,.slice Bd d.ws.length dd,vi d.t,vi d.r],.slice Al l.length cl] w0 (fun v w=>∃ A c B e P q,v=.tuple #[.agg #[vi (sbD d l).n,.slice A (sbD d l).ns.length c,.slice B (sbD d l).ws.length e,vi (sbD d l).t,vi (sbD d l).r],.slice P (sbL d l).length q,.bool (goodD d)]/\Rd w w.heap.size 81 encNd A (sbD d l).ns/\Rd w w.heap.size 83 encWr B (sbD d l).ws/\(sbD d l).ws.length<=e/\Own w w0.heap.size 58 3 encRz P q (sbL d l)/\Below w0.heap.size w0 w):=by
 subst bG
 refine enter Tryz.func47 rfl 64 rfl rfl ?_;intro a h
 have i:=bz w0
 refine Zs h fun _ cQ=>?_;refine Zf (X0l (zs:=[vi d.n,.slice Ad d.ns.length cd,.slice Bd d.ws.length dd,vi d.t,vi d.r]) rfl rfl) ?_;rintro _ w1 ⟨b5,rfl,cR,j,E⟩;have d6:=Q0 i.size cR;have i:=btr i j;refine Zf (Xq (zs:=[vi 0,.slice none 0 0,.slice none 0 0,vi 0,vi 0]) X0h rfl) ?_;rintro _ w2 ⟨b8,rfl,cS,j,f⟩
 have cN:b5≠b8:=by have:=E.lt;omega
 have aZ:=Q0 i.size cS;have E:=E.bw j;have i:=btr i j;refine Za rfl<|Za rfl<|ZX cQ fun a h _ bH=>?_;refine Q5 fun _ bJ=>?_;refine X0a (fun a w=>Fr a 64 [(1,.slice Al l.length cl),(2,(pZ9 b5)),(4,(pZ9 b8)),(20,.bool ((!(ivD d))||(decide (5<(l.length:Int)))))]/\Below w2.heap.size w2 w) ?_ ?_
 ·have aA:Below w2.heap.size w2 w2:=Below.refl _ _
  refine Zr h<|Ze (Vn X2 E)<|Zf (Vc (Xdb _ d d.ns.length rfl Ad cd (aX.bx i).top Bd dd (aY.bx i).top M (by omega)) X7h) ?_;rintro _ w3 ⟨rfl,j⟩;have i:=btr i j;have aA:=btr aA j;refine Ze (X0w rfl)<|Zm rfl ?_
  refine Zg 16 rfl (fun G=>?_) (fun G=>?_)
  ·(iterate 3 refine Zp (gP G) ?_);refine Ze (X5 rfl G rfl) ?_;refine Zn fun a h=>?_
   have aG:Below w2.heap.size w2 w3:=aA
   exact ⟨h.sub ⟨rfl,rfl,rfl,X1 rfl (by simp [G]),trivial⟩,aG⟩
  refine Zv (gW G) (X3 rfl) ?_;refine Zv (gW G) (X09 rfl Xj) ?_;refine Zv (gW G) (X2y rfl rfl) ?_;refine Ze (Xb rfl G rfl) ?_;refine Zn fun a h=>?_
  have aG:Below w2.heap.size w2 w3:=aA
  exact ⟨h.sub ⟨rfl,rfl,rfl,X1 rfl (by simp [G]),trivial⟩,aG⟩
 rintro a w4 ⟨h,j⟩;have E:=E.bw j;have f:=f.bw j;have i:=btr i j;refine bJ _ _ ?_
 refine Xi h rfl (fun aB=>?_) (fun aB=>?_)
 ·have aH:=aB
  have aN:goodD d=false:=by have h8:=aB;rw [X4x] at h8;revert h8;cases goodD d<;>simp<;>omega
  refine Zs h fun _ bK=>?_;refine Ze (X0s (ps:=[]) (cs:=[vi 0,.slice none 0 0,.slice none 0 0,vi 0,vi 0]) rfl (fun _=>by first|rfl|kernel_rfl))<|Zo (Vw [vi 0,.slice none 0 0,.slice none 0 0,vi 0,vi 0] Xh f) ?_;rintro _ w5 ⟨N,hb⟩;have x:=f;have i:=Below.oy i N aZ;have f:=hb;refine Za rfl<|Za rfl<|Zt bK fun a h=>?_;refine Q6<|X8<|X6 h (Xdk h rfl (ResV.cellN (l:=[vi 0,.slice none 0 0,.slice none 0 0,vi 0,vi 0]) rfl X2 (f.at 0) rfl) rfl rfl) ?_
  rw [(Xj4 aN).1,(Xj4 aN).2,aN]
  exact ⟨none,0,none,0,none,0,rfl,(Rd.nil _ _ _ _ _),(Rd.nil _ _ _ _ _),(Qf _),(Own.nil _ _ _ _ _),i⟩
 have aH:=aB
 have hG:goodD d=true:=by have h8:=aB;rw [X4x] at h8;revert h8;cases goodD d<;>simp
 have hD:=X0e hG;have d9:=hD.len;have dA:=hD.m;have dB:=Xe8 d.ns;refine Q7<|bH _ _<|Q5 fun _ bL=>?_;refine Zs h fun _ bM=>?_;refine Zm rfl<|Ze (X09 rfl Xj)<|Zm rfl<|Zt bM fun a h=>?_;refine Q8<|X01 (σ:=Nat) (fun (k:Nat) (a:Act) (w:World)=>Fr a 64 [(1,.slice Al l.length cl),(2,(pZ9 b5)),(4,(pZ9 b8)),(22,.slice Al l.length cl),(23,vi (l.length:Int)),(24,vi (k:Int))]/\(k<=l.length)/\Blk w b5 39 [vi d.n,.slice Ad d.ns.length cd,.slice Bd d.ws.length dd,vi d.t,vi d.r]/\Blk w b8 39 [vi 0,.slice none 0 0,.slice none 0 0,vi 0,vi 0]/\d.ws.length<=dd/\Below w0.heap.size w0 w) (fun (k:Nat)=>l.length-k) 0 ?_ ?_
 ·exact ⟨h.sb,(Qf _),E,f,M,i⟩
 rintro k a w6 ⟨h,hk,E,f,M,i⟩;refine Zs h fun _ bN=>?_;refine Ze (X0n rfl rfl)<|ZX bN fun a h _ bO=>?_
 refine Xi h rfl (fun Q=>?_) (fun Q=>?_)
 ·have aI:=Q;have Q:=Q2 Q
  obtain ⟨dC,d7⟩:=X4 (l:=l) (k:=k) (by omega)
  obtain ⟨u9,bP⟩:=X4 (l:=l) (k:=k) (by have:=Q;omega)
  have bQ:=cO k u9 bP;refine Q7<|bO _ _<|Q5 fun _ bR=>?_;refine Q8<|Zs h fun _ bS=>?_;refine Zm rfl<|Zi (k:=k) (u:=u9) (enc:=encI) (l:=l) tv0 rfl rfl Xj X0b Xd (aM.bx i) bP rfl ?_;intro dD b3;refine Ze (X0 rfl X9 b3)<|Za rfl<|Za rfl<|ZX bS fun a h _ bT=>?_;refine X0a (fun a w=>Fr a 64 [(1,.slice Al l.length cl),(2,(pZ9 b5)),(4,(pZ9 b8)),(22,.slice Al l.length cl),(23,vi (l.length:Int)),(24,vi (k:Int)),(38,.bool ((!(inR u9 1 5))||((l.take k).any fun y=>u9==y)))]/\Below w6.heap.size w6 w) ?_ ?_
  ·have aA:Below w6.heap.size w6 w6:=Below.refl _ _
   refine Zr h<|Zm rfl<|Zf (Vc (F91 _ u9 1 5) X7z) ?_;rintro _ _ ⟨rfl,rfl⟩;refine Ze (X0w rfl)<|Zm rfl ?_
   refine Zg 32 rfl (fun C=>?_) (fun C=>?_)
   ·(iterate 5 refine Zp (gP C) ?_);refine Ze (X5 rfl C rfl) ?_;refine Zn fun a h=>?_
    have aG:Below w6.heap.size w6 w6:=aA
    exact ⟨h.sub ⟨rfl,rfl,rfl,rfl,rfl,rfl,X1 rfl (by simp [aH,aI,C]),trivial⟩,aG⟩
   refine Zv (gW C) (X3 rfl) ?_;refine Zv (gW C) (X3 rfl) ?_;have bU:=((aM.bx i).top).takeK Xd k;refine Zv (gW C) (X2r (l:=l) (k:=k) rfl rfl Xj X0b rfl hk cP) ?_;refine Zv (gW C) (X3 rfl) ?_;refine Zk (gW C) (Vc (Xkb _ Al cl (l.take k) bU.top u9 (by rw [Qn];omega)) X8r) ?_;rintro _ w7 ⟨rfl,j⟩;have i:=btr i j;have aA:=btr aA j;refine Ze (Xb rfl C rfl) ?_;refine Zn fun a h=>?_
   have aG:Below w6.heap.size w6 w7:=aA
   exact ⟨h.sub ⟨rfl,rfl,rfl,rfl,rfl,rfl,X1 rfl (by simp [aH,aI,C]),trivial⟩,aG⟩
  rintro a w8 ⟨h,j⟩;have E:=E.bw j;have f:=f.bw j;have i:=btr i j;refine bT _ _ ?_
  refine Xi h rfl (fun aK=>?_) (fun aK=>?_)
  ·have b4:=aK;exact absurd aK (by rw [bQ.1,bQ.2];decide)
  have b4:=aK;refine Q7<|Xa<|bR _ _<|Zr h ?_;refine Ze (Xs rfl rfl (by omega) (by omega))<|Zm rfl ?_;refine Zn fun a h=>?_;refine Xc ?_;exact ⟨k+1,⟨h.sb,(by omega),E,f,M,i⟩,(by omega)⟩
 have aI:=Q;have Q:=Q1 Q;refine Q9<|Xk<|Xk<|X02 ?_;refine bL _ _<|Zs h fun _ bW=>?_;refine Ze (Vn X2 E)<|Zf (Vc (Xfn _ d d.ns.length rfl Ad cd (aX.bx i).top Bd dd (aY.bx i).top M ⟨by omega,by omega⟩) X83) ?_;rintro _ w9 ⟨bX,bY,bZ,c5,rfl,L,J,j⟩;have L:=L.lower i.size;have J:=J.lower i.size;have E:=E.bw j;have f:=f.bw j;have i:=btr i j;refine Zf (Xn (k:=0) (vs:=[]) (zs:=[]) rfl X13 X2f rfl rfl) ?_;rintro _ dE ⟨cT,rfl,cA,j,a6⟩;have b6:=Q0 i.size cA;have E:=E.bw j;have f:=f.bw j;have L:=L.bw j;have J:=J.bw j;have i:=btr i j;refine Zf (Xq (zs:=[vi 0,.slice none 0 0,.slice none 0 0,vi 0,vi 0]) X0h rfl) ?_;rintro _ dF ⟨b39,rfl,cB,j,g⟩
 have cC:b5≠b39:=by have:=E.lt;omega
 have cD:b8≠b39:=by have:=f.lt;omega
 have aO:=Q0 i.size cB;have f:=f.bw j;have a6:=a6.bw j;have L:=L.bw j;have J:=J.bw j;have i:=btr i j;refine Zo (Vw [vi d.n,.slice bX d.ns.length bY,.slice bZ d.ws.length c5,vi d.t,vi d.r] Xh g) ?_;rintro _ dG ⟨N,hb⟩;have x:=g;have f:=f.oy N (by omega);have a6:=a6.oz N x rfl;have L:=L.oT N x rfl;have J:=J.oT N x rfl;have i:=Below.oy i N aO;have g:=hb;refine Za rfl<|Zt bW fun a h=>?_;refine Q8<|X01 (σ:=Dg×(List Rz)) (fun (s:Dg×(List Rz)) (a:Act) (w:World)=>match s with|(o,m)=>∃ aR aS aC aJ aD aE,Fr a 64 [(1,.slice Al l.length cl),(4,(pZ9 b8)),(9,(pZ9 b39)),(10,.slice aR m.length aS)]/\(goodD o=true)/\(siD o l=siD d l)/\(m++siL o l=siL d l)/\(m.length+spN o.ns<=spN d.ns)/\Blk w b8 39 [vi 0,.slice none 0 0,.slice none 0 0,vi 0,vi 0]/\Blk w b39 39 [vi o.n,.slice aC o.ns.length aJ,.slice aD o.ws.length aE,vi o.t,vi o.r]/\Own w w0.heap.size 58 3 encRz aR aS m/\Rd w w.heap.size 81 encNd aC o.ns/\Rd w w.heap.size 83 encWr aD o.ws/\d.ws.length<=dd/\o.ws.length<=aE/\Below w0.heap.size w0 w) (fun (s:Dg×(List Rz))=>match s with|(o,m)=>spN o.ns) (d,[]) ?_ ?_
 ·exact ⟨some ⟨cT,0,none⟩,0,bX,bY,bZ,c5,h.sb,hG,rfl,rfl,(by simp),f,g,(Own.empty a6 b6),L.rd,J.rd,M,J.cap,i⟩
 rintro ⟨o,m⟩ a dH ⟨aR,aS,aC,aJ,aD,aE,h,hI,hs,hm,dI,f,g,p,H,I,M,b7,i⟩;refine Q8<|Zs h fun _ cE=>?_;refine Ze (Vn X2 g)<|Zm rfl<|Zf (Vc (Xmx _ o o.ns.length rfl aC aJ H.top aD aE I.top b7 Al cl l (aM.bx i).top hI (by omega)) Xbd) ?_;rintro _ dJ ⟨rfl,j⟩;have f:=f.bw j;have g:=g.bw j;have p:=p.bw j;have H:=H.bw j;have I:=I.bw j;have i:=btr i j;refine Zm rfl<|Ze (Xo (vs:=[.agg #[vi (((fsF o l).getD rwZ).u),vi (((fsF o l).getD rwZ).a),vi (((fsF o l).getD rwZ).b)],.bool ((fsF o l).isSome)]) rfl rfl)<|Ze (Xo (vs:=[.agg #[vi (((fsF o l).getD rwZ).u),vi (((fsF o l).getD rwZ).a),vi (((fsF o l).getD rwZ).b)],.bool ((fsF o l).isSome)]) rfl rfl)<|Zf (Xq (zs:=[vi 0,vi 0,vi 0]) X44 rfl) ?_;rintro _ dK ⟨cU,rfl,b0,j,D⟩;have b9:=Q0 i.size b0;have a7:=p.away b0;have f:=f.bw j;have g:=g.bw j;have p:=p.bw j;have H:=H.bw j;have I:=I.bw j;have i:=btr i j;refine Zo (Vw [vi (((fsF o l).getD rwZ).u),vi (((fsF o l).getD rwZ).a),vi (((fsF o l).getD rwZ).b)] X27 D) ?_;rintro _ dL ⟨N,hb⟩;have x:=D;have f:=f.oz N x rfl;have g:=g.oz N x rfl;have p:=p.onlyA N a7;have H:=H.oT N x rfl;have I:=I.oT N x rfl;have i:=Below.oy i N b9;have D:=hb;refine Za rfl<|ZX cE fun a h _ cF=>?_;refine Zs h fun _ cG=>?_;refine Zm rfl<|Ze (X0w rfl)<|Zt cG fun a h=>?_
 refine Xi h rfl (fun aF=>?_) (fun aF=>?_)
 ·have bA:=aF
  have aN:fsF o l=none:=by have h8:=aF;simpa using h8
  have b1:=X8o aN
  have cV:siD d l=o:=by rw [<- hs,b1.1]
  have cW:siL d l=m:=by rw [<- hm,b1.2,List.append_nil]
  refine Zs h fun _ cH=>?_;refine Ze (Vn X2 g)<|Zm rfl<|Zo (Vw [vi o.n,.slice aC o.ns.length aJ,.slice aD o.ws.length aE,vi o.t,vi o.r] Xh f) ?_;rintro _ dM ⟨N,hb⟩;have x:=f;have p:=p.oT N x rfl;have H:=H.oT N x rfl;have I:=I.oT N x rfl;have i:=Below.oy i N aZ;have f:=hb;refine Za rfl<|Za rfl<|Zt cH fun a h=>?_;refine Q6<|X8<|Xw<|X8 ?_;refine Xw<|X6 h (Xdk h rfl (ResV.cellN (l:=[vi o.n,.slice aC o.ns.length aJ,.slice aD o.ws.length aE,vi o.t,vi o.r]) rfl X2 (f.at 0) rfl) rfl rfl) ?_
  rw [(Xbc hG).1,(Xbc hG).2,hG,cV,cW]
  exact ⟨aC,aJ,aD,aE,aR,aS,rfl,H.top,I.top,b7,p,i⟩
 have bA:=aF
 have cI:fsF o l=some ((fsF o l).getD rwZ):=by have h8:=aF;cases h9:fsF o l with
  | none=>rw [h9] at h8;cases h8
  | some r=>rfl
 have bB:=X42 cI;have cJ:=X6r (X0e hI) cI;have dN:=Xdi (X0e hI) bB
 have aP:(if apC o ((fsF o l).getD rwZ)=true then apD o ((fsF o l).getD rwZ) else zD)=apD o ((fsF o l).getD rwZ):=Q4 bB
 refine Q7<|cF _ _<|Zs h fun _ cK=>?_;refine Ze (Vn X2 g)<|Ze (Vn X1n D)<|Zf (Vc (Xj5 _ o o.ns.length rfl aC aJ H.top aD aE I.top b7 ((fsF o l).getD rwZ) hI) Xc8) ?_;rintro _ dO ⟨aT,aU,aV,aW,rfl,U,W,cL,j⟩;have f:=f.bw j;have g:=g.bw j;have D:=D.bw j;have p:=p.bw j;have i:=btr i j;refine Zm rfl<|Ze (Xo (vs:=[.agg #[vi ((if (apC o ((fsF o l).getD rwZ))=true then apD o ((fsF o l).getD rwZ) else zD).n),.slice aT ((if (apC o ((fsF o l).getD rwZ))=true then apD o ((fsF o l).getD rwZ) else zD).ns).length aU,.slice aV ((if (apC o ((fsF o l).getD rwZ))=true then apD o ((fsF o l).getD rwZ) else zD).ws).length aW,vi ((if (apC o ((fsF o l).getD rwZ))=true then apD o ((fsF o l).getD rwZ) else zD).t),vi ((if (apC o ((fsF o l).getD rwZ))=true then apD o ((fsF o l).getD rwZ) else zD).r)],.bool (apC o ((fsF o l).getD rwZ))]) rfl rfl)<|Ze (Xo (vs:=[.agg #[vi ((if (apC o ((fsF o l).getD rwZ))=true then apD o ((fsF o l).getD rwZ) else zD).n),.slice aT ((if (apC o ((fsF o l).getD rwZ))=true then apD o ((fsF o l).getD rwZ) else zD).ns).length aU,.slice aV ((if (apC o ((fsF o l).getD rwZ))=true then apD o ((fsF o l).getD rwZ) else zD).ws).length aW,vi ((if (apC o ((fsF o l).getD rwZ))=true then apD o ((fsF o l).getD rwZ) else zD).t),vi ((if (apC o ((fsF o l).getD rwZ))=true then apD o ((fsF o l).getD rwZ) else zD).r)],.bool (apC o ((fsF o l).getD rwZ))]) rfl rfl)<|Zo (Vw [vi ((if (apC o ((fsF o l).getD rwZ))=true then apD o ((fsF o l).getD rwZ) else zD).n),.slice aT ((if (apC o ((fsF o l).getD rwZ))=true then apD o ((fsF o l).getD rwZ) else zD).ns).length aU,.slice aV ((if (apC o ((fsF o l).getD rwZ))=true then apD o ((fsF o l).getD rwZ) else zD).ws).length aW,vi ((if (apC o ((fsF o l).getD rwZ))=true then apD o ((fsF o l).getD rwZ) else zD).t),vi ((if (apC o ((fsF o l).getD rwZ))=true then apD o ((fsF o l).getD rwZ) else zD).r)] Xh g) ?_;rintro _ dP ⟨N,hb⟩
 have x:=g;have f:=f.oy N (by omega);have D:=D.oz N x rfl;have p:=p.oT N x rfl;have U:=U.oT N x rfl;have W:=W.oT N x rfl;have i:=Below.oy i N aO;have g:=hb;refine Zt cK fun a h=>?_;refine Zr h<|Zm rfl<|Ze (Vn X1n D)<|Zf (Xn (k:=1) (vs:=[.agg #[vi (((fsF o l).getD rwZ).u),vi (((fsF o l).getD rwZ).a),vi (((fsF o l).getD rwZ).b)]]) (zs:=[vi (((fsF o l).getD rwZ).u),vi (((fsF o l).getD rwZ).a),vi (((fsF o l).getD rwZ).b)]) rfl X13 X2f rfl rfl) ?_;rintro _ dQ ⟨b52,rfl,b2,j,aQ⟩
 have bD:cU≠b52:=by have:=D.lt;omega
 have cX:=Q0 i.size b2;have aL:=p.away b2;have f:=f.bw j;have g:=g.bw j;have D:=D.bw j;have p:=p.bw j;have U:=U.bw j;have W:=W.bw j;have i:=btr i j;refine Zf (X0t (enc:=encRz) (l:=(m)) (l2:=([((fsF o l).getD rwZ)])) (B0:=w0.heap.size) rfl rfl X13 X2f X2l X5x p (Rd.of_blk aQ rfl _ aQ.lt) (by simp only [maxLen];simp;omega) (by simp;omega) i.size) ?_;rintro _ dR ⟨cY,cZ,rfl,cM,hg,bC⟩
 have a8:Own _ w0.heap.size 58 3 encRz _ _ (m):=p
 have bE:=bC _ D.lt a7;have bF:=bC _ aQ.lt aL;clear bC;have f:=f.appT a8 hg rfl;have g:=g.appT a8 hg rfl;have U:=U.appT a8 hg rfl;have W:=W.appT a8 hg rfl;have i:=Below.app i a8 hg (Qb _) i.size;clear a8 hg;refine Za rfl ?_;refine Zn fun a h=>?_;refine Xa<|Xc ?_;exact ⟨((if (apC o ((fsF o l).getD rwZ))=true then apD o ((fsF o l).getD rwZ) else zD),m++([((fsF o l).getD rwZ)])),⟨cY,cZ,aT,aU,aV,aW,h.sb,(by rw [aP];exact X48 bB),(by rw [aP,<- cJ.1];exact hs),(by rw [aP,Qx,<- hm,cJ.2];rfl),(by rw [aP,Qh,List.length_singleton];omega),f,g,cM,U.top,W.top,M,cL,i⟩,(by rw [aP];omega)⟩
theorem Xis(w0:World) : Ret Tryz.prog 48 [] w0 (fun v w=>∃ A c,v=.slice A ([(1:Int),2,3,4,5]).length c/\Own w w0.heap.size 3 1 encI A c ([(1:Int),2,3,4,5])/\Below w0.heap.size w0 w):=by
 refine enter Tryz.func48 rfl 2 rfl rfl ?_;intro a hf
 have hW:=bz w0
 refine Zs hf fun _ a7=>?_;refine Za rfl<|Zx a7 fun a hf _ a8=>?_;refine Zf (Xn (k:=5) (vs:=[vi 1,vi 2,vi 3,vi 4,vi 5]) (zs:=[vi 1,vi 2,vi 3,vi 4,vi 5]) rfl Xj X1g rfl rfl) ?_;rintro _ w1 ⟨b4,rfl,aA,hE,aB⟩;have a6:=Q0 hW.size aA;have hW:=btr hW hE;refine Za rfl<|Zt a8 fun a hf=>?_
 refine Q6 (X6 hf (Xp hf rfl rfl) ?_)
 exact ⟨(some ⟨b4,0,none⟩),5,rfl,(Own.of_blkL Xd aB a6 rfl rfl (by decide)),hW⟩
theorem Y28(G:World)(d:Dg)(md:Nat)(a8:md=d.ns.length)(Ad:Option Addr)(cd:Nat)(aA:Rd G G.heap.size 81 encNd Ad d.ns)(Bd:Option Addr)(dd:Nat)(aB:Rd G G.heap.size 83 encWr Bd d.ws)(aC:d.ws.length<=dd)(aF:d.ws.length<=90000000)(hN:md<=1000) : Ret Tryz.prog 14 [.agg #[vi d.n,.slice Ad md cd,.slice Bd d.ws.length dd,vi d.t,vi d.r]] G (fun v w=>∃ A c B e P q,v=.tuple #[.agg #[vi (sbD d alR5).n,.slice A (sbD d alR5).ns.length c,.slice B (sbD d alR5).ws.length e,vi (sbD d alR5).t,vi (sbD d alR5).r],.slice P (sbL d alR5).length q,.bool (goodD d)]/\Rd w w.heap.size 81 encNd A (sbD d alR5).ns/\Rd w w.heap.size 83 encWr B (sbD d alR5).ws/\(sbD d alR5).ws.length<=e/\Own w G.heap.size 58 3 encRz P q (sbL d alR5)/\Below G.heap.size G w):=by
 refine enter Tryz.func14 rfl 11 rfl rfl ?_;intro a hf
 have g:=bz G
 refine Zs hf fun _ aG=>?_;refine Zf (X0l (zs:=[vi d.n,.slice Ad md cd,.slice Bd d.ws.length dd,vi d.t,vi d.r]) rfl rfl) ?_;rintro _ w1 ⟨b4,rfl,aH,i,h⟩;have aK:=Q0 g.size aH;have g:=btr g i;refine Zf (Xq (zs:=[vi 0,.slice none 0 0,.slice none 0 0,vi 0,vi 0]) X0h rfl) ?_;rintro _ w2 ⟨b7,rfl,aI,i,b⟩
 have aE:b4≠b7:=by have:=h.lt;omega
 have aD:=Q0 g.size aI;have h:=h.bw i;have g:=btr g i;refine Za rfl<|Za rfl<|ZX aG fun a hf _ aJ=>?_;refine X04 none (fun j=>[6].contains j) mixed ?_;intro w3 i;have h:=h.bw i;have b:=b.bw i;have g:=btr g i;refine Yb hf<|Ye 0 rfl (Vn X2 h)<|Y1 1 ?_;refine Yk rfl tv0 (Vc (Xis _) Xbg) (fun _ _ ⟨a6,a7,_,k,i⟩=>i) ?_;rintro _ w4 ⟨a6,a7,rfl,k,i⟩;have k:=k.lower g.size;have b:=b.bw i;have g:=btr g i;refine Y1 2<|Yk rfl tv0 (X1k (vs:=[.agg #[vi d.n,.slice Ad md cd,.slice Bd d.ws.length dd,vi d.t,vi d.r],.slice a6 ([(1:Int),2,3,4,5]).length a7]) rfl Xf4 (Xt1 _ d md a8 Ad cd (aA.bx g).top Bd dd (aB.bx g).top aC a6 a7 ([(1:Int),2,3,4,5]) k.rd.top aF (by omega) (fun _ _ hu=>Xsl rfl hu) (by decide) k.cap)) (fun _ _ ⟨m,o,p,u,C,D,_,x,y,H,f,i⟩=>i) ?_;rintro _ w5 ⟨m,o,p,u,C,D,rfl,x,y,H,f,i⟩;have f:=f.lower g.size;have b:=b.bw i;have g:=btr g i;refine Yo 3 rfl (fun _=>Xo (vs:=[.agg #[vi ((sbD d ([(1:Int),2,3,4,5])).n),.slice m ((sbD d ([(1:Int),2,3,4,5])).ns).length o,.slice p ((sbD d ([(1:Int),2,3,4,5])).ws).length u,vi ((sbD d ([(1:Int),2,3,4,5])).t),vi ((sbD d ([(1:Int),2,3,4,5])).r)],.slice C (sbL d ([(1:Int),2,3,4,5])).length D,.bool (goodD d)]) rfl rfl)<|Yo 4 rfl (fun _=>Xo (vs:=[.agg #[vi ((sbD d ([(1:Int),2,3,4,5])).n),.slice m ((sbD d ([(1:Int),2,3,4,5])).ns).length o,.slice p ((sbD d ([(1:Int),2,3,4,5])).ws).length u,vi ((sbD d ([(1:Int),2,3,4,5])).t),vi ((sbD d ([(1:Int),2,3,4,5])).r)],.slice C (sbL d ([(1:Int),2,3,4,5])).length D,.bool (goodD d)]) rfl rfl)<|Yo 5 rfl (fun _=>Xo (vs:=[.agg #[vi ((sbD d ([(1:Int),2,3,4,5])).n),.slice m ((sbD d ([(1:Int),2,3,4,5])).ns).length o,.slice p ((sbD d ([(1:Int),2,3,4,5])).ws).length u,vi ((sbD d ([(1:Int),2,3,4,5])).t),vi ((sbD d ([(1:Int),2,3,4,5])).r)],.slice C (sbL d ([(1:Int),2,3,4,5])).length D,.bool (goodD d)]) rfl rfl)<|Y1 6 ?_
 refine Yh rfl tv0 rfl (Vw [vi ((sbD d ([(1:Int),2,3,4,5])).n),.slice m ((sbD d ([(1:Int),2,3,4,5])).ns).length o,.slice p ((sbD d ([(1:Int),2,3,4,5])).ws).length u,vi ((sbD d ([(1:Int),2,3,4,5])).t),vi ((sbD d ([(1:Int),2,3,4,5])).r)] Xh b) ?_;rintro _ w6 ⟨ho,hb⟩;have E:=b;have x:=x.oT ho E rfl;have y:=y.oT ho E rfl;have f:=f.oT ho E rfl;have g:=Below.oy g ho aD;have b:=hb;refine Yo 7 rfl (fun _=>X0u rfl)<|Yo 8 rfl (fun _=>X0u rfl) ?_;refine Yd fun a hf=>?_;refine aJ _ _ ?_
 refine Q6 (X6 hf (Xdk hf rfl (ResV.cellN (l:=[vi ((sbD d ([(1:Int),2,3,4,5])).n),.slice m ((sbD d ([(1:Int),2,3,4,5])).ns).length o,.slice p ((sbD d ([(1:Int),2,3,4,5])).ws).length u,vi ((sbD d ([(1:Int),2,3,4,5])).t),vi ((sbD d ([(1:Int),2,3,4,5])).r)]) rfl X2 (b.at 0) rfl) rfl rfl) ?_)
 exact ⟨m,o,p,u,C,D,rfl,x.top,y.top,H,f,g⟩
theorem Xyf{k:Nat}{u:Int}(hu:[(1:Int)][k]? = some u) : inR u 1 5=true/\(([(1:Int)].take k).any fun y=>u==y)=false:=by
 match k,hu with
 | 0,hu=>injection hu with hu;subst hu;exact ⟨rfl,rfl⟩
 | k+1,hu=>simp at hu
theorem Y0b(h:World)(d:Dg)(md:Nat)(a6:md=d.ns.length)(Ad:Option Addr)(cd:Nat)(a7:Rd h h.heap.size 81 encNd Ad d.ns)(Bd:Option Addr)(dd:Nat)(a8:Rd h h.heap.size 83 encWr Bd d.ws)(aA:d.ws.length<=dd)(aG:d.ws.length<=90000000)(hN:md<=1000) : Ret Tryz.prog 22 [.agg #[vi d.n,.slice Ad md cd,.slice Bd d.ws.length dd,vi d.t,vi d.r]] h (fun v w=>∃ A c B e P q,v=.tuple #[.agg #[vi (sbD d [1]).n,.slice A (sbD d [1]).ns.length c,.slice B (sbD d [1]).ws.length e,vi (sbD d [1]).t,vi (sbD d [1]).r],.slice P (sbL d [1]).length q,.bool (goodD d)]/\Rd w w.heap.size 81 encNd A (sbD d [1]).ns/\Rd w w.heap.size 83 encWr B (sbD d [1]).ws/\(sbD d [1]).ws.length<=e/\Own w h.heap.size 58 3 encRz P q (sbL d [1])/\Below h.heap.size h w):=by
 refine enter Tryz.func22 rfl 11 rfl rfl ?_;intro a hf
 have b:=bz h
 refine Zs hf fun _ aH=>?_;refine Zf (X0l (zs:=[vi d.n,.slice Ad md cd,.slice Bd d.ws.length dd,vi d.t,vi d.r]) rfl rfl) ?_;rintro _ w1 ⟨b4,rfl,aI,y,C⟩;have aM:=Q0 b.size aI;have b:=btr b y;refine Zf (Xq (zs:=[vi 0,.slice none 0 0,.slice none 0 0,vi 0,vi 0]) X0h rfl) ?_;rintro _ w2 ⟨b7,rfl,aJ,y,f⟩
 have aF:b4≠b7:=by have:=C.lt;omega
 have aB:=Q0 b.size aJ;have C:=C.bw y;have b:=btr b y;refine Za rfl<|Za rfl<|Zx aH fun a hf _ aK=>?_;refine Ze (Vn X2 C)<|Zf (Xn (k:=1) (vs:=[vi 1]) (zs:=[vi 1]) rfl Xj X1g rfl rfl) ?_;rintro _ w3 ⟨aC,rfl,aD,y,G⟩;have aL:=Q0 b.size aD;have f:=f.bw y;have b:=btr b y;refine Zf (X1k (vs:=[.agg #[vi d.n,.slice Ad md cd,.slice Bd d.ws.length dd,vi d.t,vi d.r],.slice (some ⟨aC,0,none⟩) ([1]).length 1]) rfl Xf4 (Xt1 _ d md a6 Ad cd (a7.bx b).top Bd dd (a8.bx b).top aA (some ⟨aC,0,none⟩) 1 ([1]) (Rd.of_blk G rfl _ G.lt) aG (by omega) (fun _ _ hu=>Xyf hu) (by decide) (by decide))) ?_;rintro _ w4 ⟨i,j,m,o,D,E,rfl,p,u,aE,g,y⟩;have g:=g.lower b.size;have f:=f.bw y;have b:=btr b y;refine Ze (Xo (vs:=[.agg #[vi ((sbD d ([1])).n),.slice i ((sbD d ([1])).ns).length j,.slice m ((sbD d ([1])).ws).length o,vi ((sbD d ([1])).t),vi ((sbD d ([1])).r)],.slice D (sbL d ([1])).length E,.bool (goodD d)]) rfl rfl)<|Ze (Xo (vs:=[.agg #[vi ((sbD d ([1])).n),.slice i ((sbD d ([1])).ns).length j,.slice m ((sbD d ([1])).ws).length o,vi ((sbD d ([1])).t),vi ((sbD d ([1])).r)],.slice D (sbL d ([1])).length E,.bool (goodD d)]) rfl rfl)<|Ze (Xo (vs:=[.agg #[vi ((sbD d ([1])).n),.slice i ((sbD d ([1])).ns).length j,.slice m ((sbD d ([1])).ws).length o,vi ((sbD d ([1])).t),vi ((sbD d ([1])).r)],.slice D (sbL d ([1])).length E,.bool (goodD d)]) rfl rfl)<|Zo (Vw [vi ((sbD d ([1])).n),.slice i ((sbD d ([1])).ns).length j,.slice m ((sbD d ([1])).ws).length o,vi ((sbD d ([1])).t),vi ((sbD d ([1])).r)] Xh f) ?_;rintro _ w5 ⟨ho,hb⟩;have x:=f;have p:=p.oT ho x rfl;have u:=u.oT ho x rfl;have g:=g.oT ho x rfl
 have b:=Below.oy b ho aB;have f:=hb;refine Za rfl<|Za rfl<|Zt aK fun a hf=>?_
 refine Q6 (X6 hf (Xdk hf rfl (ResV.cellN (l:=[vi ((sbD d ([1])).n),.slice i ((sbD d ([1])).ns).length j,.slice m ((sbD d ([1])).ws).length o,vi ((sbD d ([1])).t),vi ((sbD d ([1])).r)]) rfl X2 (f.at 0) rfl) rfl rfl) ?_)
 exact ⟨i,j,m,o,D,E,rfl,p.top,u.top,aE,g,b⟩
theorem Xzy(x:World)(d:Dg)(md:Nat)(y:md=d.ns.length)(Ad:Option Addr)(cd:Nat)(A:Rd x x.heap.size 81 encNd Ad d.ns)(Bd:Option Addr)(dd:Nat)(B:Rd x x.heap.size 83 encWr Bd d.ws)(C:d.ws.length<=dd)(b9:d.ws.length<=90000000)(hN:md<=1000) : Ret Tryz.prog 17 [.agg #[vi d.n,.slice Ad md cd,.slice Bd d.ws.length dd,vi d.t,vi d.r]] x (fun v w=>v=.tuple #[.bool (goodD d&&!(fsF d alR5).isSome),.bool (goodD d)]/\Below x.heap.size x w):=by
 refine enter Tryz.func17 rfl 17 rfl rfl ?_;intro a i
 have g:=bz x
 refine Zs i fun _ aV=>?_;refine Zf (X0l (zs:=[vi d.n,.slice Ad md cd,.slice Bd d.ws.length dd,vi d.t,vi d.r]) rfl rfl) ?_;rintro _ w1 ⟨b4,rfl,aW,c,p⟩;have b7:=Q0 g.size aW;have g:=btr g c;refine Za rfl<|Za rfl<|ZX aV fun a i _ aX=>?_;refine Zs i fun _ aY=>?_;refine Ze (Vn X2 p)<|Zf (Vc (Xdb _ d md y Ad cd (A.bx g).top Bd dd (B.bx g).top C (by omega)) X7h) ?_;rintro _ w2 ⟨rfl,c⟩;have p:=p.bw c;have g:=btr g c;refine Ze (X0w rfl)<|Zt aY fun a i=>?_
 refine Xi i rfl (fun D=>?_) (fun D=>?_)
 ·have aO:=D
  have aZ:goodD d=false:=by rw [<- X4x];have h8:=D;simpa using h8
  refine Zs i fun _ b0=>?_;refine Za rfl<|Za rfl<|Zt b0 fun a i=>?_;refine Q6<|X8<|X6 i (X1v i rfl rfl rfl) ?_;exact ⟨by rw [aZ];rfl,g⟩
 have aO:=D
 have hG:goodD d=true:=by rw [<- X4x];have h8:=D;simpa using h8
 refine Q7<|aX _ _<|Q5 fun _ b1=>?_;refine X0a (fun a w=>Fr a 17 [(5,.bool ((fsF d ([(1:Int),2,3,4,5])).isSome))]/\Below w2.heap.size w2 w) ?_ ?_
 ·have f:Below w2.heap.size w2 w2:=Below.refl _ _
  refine X04 none (fun j=>[7].contains j) mixed ?_;intro w3 c;have p:=p.bw c;have g:=btr g c;have f:=btr f c;refine Yb i<|Ye 0 rfl (Vn X2 p) ?_
  have e:Below w3.heap.size w3 w3:=Below.refl _ _
  refine Yc [0,1,2,3,4,5,6] 2 (fun a w=>∃ q,Fr a 17 [(4,(pZ9 q)),(13,.agg #[vi (((fsF d ([(1:Int),2,3,4,5])).getD rwZ).u),vi (((fsF d ([(1:Int),2,3,4,5])).getD rwZ).a),vi (((fsF d ([(1:Int),2,3,4,5])).getD rwZ).b)]),(14,.bool ((fsF d ([(1:Int),2,3,4,5])).isSome))]/\x.heap.size<=q/\Blk w q 58 [vi 0,vi 0,vi 0]/\w3.heap.size<=q/\w2.heap.size<=q/\Below w3.heap.size w3 w) ?_ ?_
  ·rintro a w4 ⟨q,i,a6,E,a7,a8,c⟩;clear e;have e:=c;have g:=btr g c;have f:=btr f c;refine Yb i<|Y1 7<|Yh rfl tv0 rfl (Vw [vi (((fsF d ([(1:Int),2,3,4,5])).getD rwZ).u),vi (((fsF d ([(1:Int),2,3,4,5])).getD rwZ).a),vi (((fsF d ([(1:Int),2,3,4,5])).getD rwZ).b)] X27 E) ?_;rintro _ w5 ⟨ho,hb⟩;have b8:=E;have f:=Below.oy f ho a8;have e:=Below.oy e ho a7;have g:=Below.oy g ho a6;have E:=hb;refine Yo 8 rfl (fun _=>X0u rfl) ?_;refine Yd fun a i=>?_
   have b2:Below w2.heap.size w2 w5:=f
   exact ⟨i.sb,b2⟩
  intro Q;refine Yc [0,1,6] 6 (fun a w=>∃ m M N,Fr a 17 [(4,(pZ9 m)),(10,.agg #[vi d.n,.slice Ad md cd,.slice Bd d.ws.length dd,vi d.t,vi d.r]),(11,.slice M ([(1:Int),2,3,4,5]).length N)]/\x.heap.size<=m/\Blk w m 58 [vi 0,vi 0,vi 0]/\w3.heap.size<=m/\w2.heap.size<=m/\Own w x.heap.size 3 1 encI M N ([(1:Int),2,3,4,5])/\Below w3.heap.size w3 w) ?_ ?_
  ·rintro a w6 ⟨m,M,N,i,aA,G,aB,aC,aP,c⟩;clear e;have e:=c;have g:=btr g c;have f:=btr f c;refine Yb i<|Y1 2<|Yk rfl tv0 (Vc (Xmx _ d md y Ad cd (A.bx g).top Bd dd (B.bx g).top C M N ([(1:Int),2,3,4,5]) aP.rd.top hG (by decide)) Xbd) (fun _ _ ⟨_,c⟩=>c) ?_;rintro _ w7 ⟨rfl,c⟩;have G:=G.bw c;have g:=btr g c;have f:=btr f c;have e:=btr e c;refine Yo 3 rfl (fun _=>X3 rfl)<|Yo 4 rfl (fun _=>Xo (vs:=[.agg #[vi (((fsF d ([(1:Int),2,3,4,5])).getD rwZ).u),vi (((fsF d ([(1:Int),2,3,4,5])).getD rwZ).a),vi (((fsF d ([(1:Int),2,3,4,5])).getD rwZ).b)],.bool ((fsF d ([(1:Int),2,3,4,5])).isSome)]) rfl rfl)<|Yo 5 rfl (fun _=>Xo (vs:=[.agg #[vi (((fsF d ([(1:Int),2,3,4,5])).getD rwZ).u),vi (((fsF d ([(1:Int),2,3,4,5])).getD rwZ).a),vi (((fsF d ([(1:Int),2,3,4,5])).getD rwZ).b)],.bool ((fsF d ([(1:Int),2,3,4,5])).isSome)]) rfl rfl) ?_;exact fun a i=>Q _ a _ rfl ⟨m,i.sb,aA,G,aB,aC,e⟩
  intro U;refine Y2 1 6 ?_ ?_
  ·refine Yk rfl tv0 (Vc (Xis _) Xbg) (fun _ _ ⟨aD,aE,_,k,c⟩=>c) ?_;rintro _ w8 ⟨aD,aE,rfl,k,c⟩;have k:=k.lower g.size;have g:=btr g c;have f:=btr f c;have e:=btr e c;refine Y2 2 6 ?_ ?_
   ·refine Yk rfl tv0 (Vc (Xmx _ d md y Ad cd (A.bx g).top Bd dd (B.bx g).top C aD aE ([(1:Int),2,3,4,5]) k.rd.top hG (by decide)) Xbd) (fun _ _ ⟨_,c⟩=>c) ?_;rintro _ w9 ⟨rfl,c⟩;have g:=btr g c;have f:=btr f c;have e:=btr e c;refine Yo 3 rfl (fun _=>X3 rfl)<|Yo 4 rfl (fun _=>Xo (vs:=[.agg #[vi (((fsF d ([(1:Int),2,3,4,5])).getD rwZ).u),vi (((fsF d ([(1:Int),2,3,4,5])).getD rwZ).a),vi (((fsF d ([(1:Int),2,3,4,5])).getD rwZ).b)],.bool ((fsF d ([(1:Int),2,3,4,5])).isSome)]) rfl rfl)<|Yo 5 rfl (fun _=>Xo (vs:=[.agg #[vi (((fsF d ([(1:Int),2,3,4,5])).getD rwZ).u),vi (((fsF d ([(1:Int),2,3,4,5])).getD rwZ).a),vi (((fsF d ([(1:Int),2,3,4,5])).getD rwZ).b)],.bool ((fsF d ([(1:Int),2,3,4,5])).isSome)]) rfl rfl)<|Y1 6 ?_;refine Yk rfl tv0 (Xq (zs:=[vi 0,vi 0,vi 0]) X44 rfl) (fun _ _ ⟨_,_,_,h,_⟩=>h) ?_;rintro _ bA ⟨b3,rfl,H,c,aQ⟩;have aF:=Q0 g.size H;have aG:=Q0 f.size H;have aH:=Q0 e.size H;have g:=btr g c;have f:=btr f c;have e:=btr e c;exact fun a i=>Q _ a _ rfl ⟨b3,i.sb,aF,aQ,aH,aG,e⟩
   refine Yk rfl tv0 (Xq (zs:=[vi 0,vi 0,vi 0]) X44 rfl) (fun _ _ ⟨_,_,_,h,_⟩=>h) ?_;rintro _ bB ⟨b5,rfl,I,c,aR⟩;have aI:=Q0 g.size I;have aJ:=Q0 f.size I;have aK:=Q0 e.size I;have k:=k.bw c;have g:=btr g c;have f:=btr f c;have e:=btr e c;exact fun a i=>U _ a _ rfl ⟨b5,aD,aE,i.sb,aI,aR,aK,aJ,k,e⟩
  refine Yk rfl tv0 (Xq (zs:=[vi 0,vi 0,vi 0]) X44 rfl) (fun _ _ ⟨_,_,_,h,_⟩=>h) ?_;rintro _ bC ⟨b6,rfl,J,c,L⟩;have aL:=Q0 g.size J;have aM:=Q0 f.size J;have aN:=Q0 e.size J;have g:=btr g c;have f:=btr f c;have e:=btr e c;refine Y1 1<|Yk rfl tv0 (Vc (Xis _) Xbg) (fun _ _ ⟨aS,aT,_,o,c⟩=>c) ?_;rintro _ bD ⟨aS,aT,rfl,o,c⟩;have o:=o.lower g.size;have L:=L.bw c;have g:=btr g c;have f:=btr f c;have e:=btr e c;exact fun a i=>U _ a _ rfl ⟨b6,aS,aT,i.sb,aL,L,aN,aM,o,e⟩
 rintro a bE ⟨i,c⟩;have g:=btr g c;refine b1 _ _<|Zs i fun _ aU=>?_;refine Zm rfl<|Ze (X0w rfl)<|Za rfl<|Za rfl<|Zt aU fun a i=>?_
 refine Q6 (X6 i (X1v i rfl rfl rfl) ?_)
 exact ⟨by rw [hG,Qw];rfl,g⟩
theorem Y44(w0:World)(d:Dg)(md:Nat)(aG:md=d.ns.length)(Ad:Option Addr)(cd:Nat)(aH:Rd w0 w0.heap.size 81 encNd Ad d.ns)(Bd:Option Addr)(dd:Nat)(aI:Rd w0 w0.heap.size 83 encWr Bd d.ws)(L:d.ws.length<=dd)(Al:Option Addr)(cl:Nat)(l:List Rz)(aJ:Rd w0 w0.heap.size 58 encRz Al l)(hG:goodD d=true)(aV:l=siL d alR5)(hN:md<=1000) : Ret Tryz.prog 52 [.agg #[vi d.n,.slice Ad md cd,.slice Bd d.ws.length dd,vi d.t,vi d.r],.slice Al l.length cl] w0 (fun v w=>∃ A c B e,v=.tuple #[.agg #[vi (siD d alR5).n,.slice A (siD d alR5).ns.length c,.slice B (siD d alR5).ws.length e,vi (siD d alR5).t,vi (siD d alR5).r],vi (l.length:Int),.bool true]/\Rd w w.heap.size 81 encNd A (siD d alR5).ns/\Rd w w.heap.size 83 encWr B (siD d alR5).ws/\(siD d alR5).ws.length<=e/\Below w0.heap.size w0 w):=by
 have hD:=X0e hG;have cB:=hD.len;have cC:=hD.m
 have bR:ivD d=true:=by rw [X4x];exact hG
 have cD:l.length<=60:=by rw [aV];have h1:(siL d alR5).length<=spN d.ns:=Xg9 _ d;have h2:=Xe8 d.ns;have h3:=(X1b hG).2.1;omega
 refine enter Tryz.func52 rfl 45 rfl rfl ?_;intro a x
 have j:=bz w0
 refine Zs x fun _ bS=>?_;refine Zf (X0l (zs:=[vi d.n,.slice Ad md cd,.slice Bd d.ws.length dd,vi d.t,vi d.r]) rfl rfl) ?_;rintro _ w1 ⟨b5,rfl,bT,p,J⟩;have c5:=Q0 j.size bT;have j:=btr j p;refine Zf (Xq (zs:=[vi 0,.slice none 0 0,.slice none 0 0,vi 0,vi 0]) X0h rfl) ?_;rintro _ w2 ⟨b8,rfl,bU,p,g⟩
 have bQ:b5≠b8:=by have:=J.lt;omega
 have aW:=Q0 j.size bU;have J:=J.bw p;have j:=btr j p;refine Za rfl<|Za rfl<|ZX bS fun a x _ bW=>?_;refine Q5 fun _ aX=>?_;refine X0a (fun a w=>Fr a 45 [(1,.slice Al l.length cl),(2,(pZ9 b5)),(4,(pZ9 b8)),(19,.bool ((!(ivD d))||(decide (60<(l.length:Int)))))]/\Below w2.heap.size w2 w) ?_ ?_
 ·have aF:Below w2.heap.size w2 w2:=Below.refl _ _
  refine Zr x<|Ze (Vn X2 J)<|Zf (Vc (Xdb _ d md aG Ad cd (aH.bx j).top Bd dd (aI.bx j).top L (by omega)) X7h) ?_;rintro _ w3 ⟨rfl,p⟩;have j:=btr j p;have aF:=btr aF p;refine Ze (X0w rfl)<|Zm rfl ?_
  refine Zg 15 rfl (fun q=>?_) (fun q=>?_)
  ·(iterate 3 refine Zp (gP q) ?_);refine Ze (X5 rfl q rfl) ?_;refine Zn fun a x=>?_
   have aL:Below w2.heap.size w2 w3:=aF
   exact ⟨x.sub ⟨rfl,rfl,rfl,X1 rfl (by simp [q]),trivial⟩,aL⟩
  refine Zv (gW q) (X3 rfl) ?_;refine Zv (gW q) (X09 rfl X13) ?_;refine Zv (gW q) (X2y rfl rfl) ?_;refine Ze (Xb rfl q rfl) ?_;refine Zn fun a x=>?_
  have aL:Below w2.heap.size w2 w3:=aF
  exact ⟨x.sub ⟨rfl,rfl,rfl,X1 rfl (by simp [q]),trivial⟩,aL⟩
 rintro a w4 ⟨x,p⟩;have J:=J.bw p;have g:=g.bw p;have j:=btr j p;refine aX _ _ ?_
 refine Xi x rfl (fun U=>?_) (fun U=>?_)
 ·have aM:=U;exact absurd U (by rw [bR];simp;omega)
 have aM:=U;refine Q7<|bW _ _<|Zs x fun _ aY=>?_;refine Ze (Vn X2 J)<|Zf (Vc (Xfn _ d md aG Ad cd (aH.bx j).top Bd dd (aI.bx j).top L ⟨by omega,by omega⟩) X83) ?_;rintro _ w5 ⟨aZ,b0,b1,b2,rfl,G,h,p⟩;have G:=G.lower j.size;have h:=h.lower j.size;have J:=J.bw p;have g:=g.bw p;have j:=btr j p;refine Zf (Xq (zs:=[vi 0,.slice none 0 0,.slice none 0 0,vi 0,vi 0]) X0h rfl) ?_;rintro _ w6 ⟨b18,rfl,b3,p,f⟩
 have b4:b5≠b18:=by have:=J.lt;omega
 have b6:b8≠b18:=by have:=g.lt;omega
 have aA:=Q0 j.size b3;have g:=g.bw p;have G:=G.bw p;have h:=h.bw p;have j:=btr j p;refine Zo (Vw [vi d.n,.slice aZ d.ns.length b0,.slice b1 d.ws.length b2,vi d.t,vi d.r] Xh f) ?_;rintro _ w7 ⟨E,hb⟩;have i:=f;have g:=g.oy E (by omega);have G:=G.oT E i rfl;have h:=h.oT E i rfl;have j:=Below.oy j E aA;have f:=hb;refine ZX aY fun a x _ b7=>?_;refine Zs x fun _ b9=>?_;refine Zm rfl<|Ze (X09 rfl X13)<|Zm rfl<|Zt b9 fun a x=>?_;refine Q8<|X01 (σ:=Nat×Dg) (fun (s:Nat×Dg) (a:Act) (w:World)=>match s with|(k,o)=>∃ M a8 N Q,Fr a 45 [(1,.slice Al l.length cl),(4,(pZ9 b8)),(7,(pZ9 b18)),(23,.slice Al l.length cl),(24,vi (l.length:Int)),(25,vi (k:Int))]/\(k<=l.length)/\(goodD o=true)/\(siD o alR5=siD d alR5)/\(siL o alR5=l.drop k)/\Blk w b8 39 [vi 0,.slice none 0 0,.slice none 0 0,vi 0,vi 0]/\Blk w b18 39 [vi o.n,.slice M o.ns.length a8,.slice N o.ws.length Q,vi o.t,vi o.r]/\Rd w w.heap.size 81 encNd M o.ns/\Rd w w.heap.size 83 encWr N o.ws/\d.ws.length<=dd/\o.ws.length<=Q/\Below w0.heap.size w0 w) (fun (s:Nat×Dg)=>match s with|(k,o)=>l.length-k) (0,d) ?_ ?_
 ·exact ⟨aZ,b0,b1,b2,x.sb,(Qf _),hG,rfl,aV.symm,g,f,G.rd,h.rd,L,h.cap,j⟩
 rintro ⟨k,o⟩ a w8 ⟨M,a8,N,Q,x,hk,hI,hs,bA,g,f,C,D,L,bB,j⟩;refine Zs x fun _ bC=>?_;refine Ze (X0n rfl rfl)<|ZX bC fun a x _ bD=>?_
 refine Xi x rfl (fun y=>?_) (fun y=>?_)
 ·have aN:=y;have y:=Q2 y
  obtain ⟨cE,cA⟩:=X4 (l:=l) (k:=k) (by omega)
  obtain ⟨u9,bE⟩:=X4 (l:=l) (k:=k) (by have:=y;omega)
  obtain ⟨aO,bX,bY⟩:=Xp0 hI hs bA bE
  have aP:(if apC o u9=true then apD o u9 else zD)=apD o u9:=Q4 aO
  refine Q7<|bD _ _<|Q5 fun _ bF=>?_;refine Q8<|Zs x fun _ bG=>?_;refine Zm rfl<|Zi (k:=k) (u:=u9) (enc:=encRz) (l:=l) tv0 rfl rfl X13 X27 X2l (aJ.bx j) bE rfl ?_;intro cF aQ;refine Ze (X03 (l:=[vi u9.u,vi u9.a,vi u9.b]) rfl X1n aQ rfl)<|Zf (Xq (zs:=[vi 0,vi 0,vi 0]) X44 rfl) ?_;rintro _ w9 ⟨cG,rfl,aK,p,W⟩;have aR:=Q0 j.size aK;have bH:=(aJ.bx j).away aK;have g:=g.bw p;have f:=f.bw p;have C:=C.bw p;have D:=D.bw p;have j:=btr j p;refine Za rfl<|Zo (Vw [vi u9.u,vi u9.a,vi u9.b] X27 W) ?_;rintro _ cH ⟨E,hb⟩;have i:=W;have g:=g.oz E i rfl;have f:=f.oz E i rfl;have C:=C.oT E i rfl;have D:=D.oT E i rfl;have j:=Below.oy j E aR;have W:=hb;refine Zx bG fun a x _ bJ=>?_;refine Ze (Vn X2 f)<|Ze (Vn X1n W)<|Zf (Vc (Xj5 _ o o.ns.length rfl M a8 C.top N Q D.top bB u9 hI) Xc8) ?_;rintro _ cI ⟨aB,aC,aD,aE,rfl,H,I,bK,p⟩;have g:=g.bw p;have f:=f.bw p;have j:=btr j p;refine Zm rfl<|Ze (Xo (vs:=[.agg #[vi ((if (apC o u9)=true then apD o u9 else zD).n),.slice aB ((if (apC o u9)=true then apD o u9 else zD).ns).length aC,.slice aD ((if (apC o u9)=true then apD o u9 else zD).ws).length aE,vi ((if (apC o u9)=true then apD o u9 else zD).t),vi ((if (apC o u9)=true then apD o u9 else zD).r)],.bool (apC o u9)]) rfl rfl)<|Ze (Xo (vs:=[.agg #[vi ((if (apC o u9)=true then apD o u9 else zD).n),.slice aB ((if (apC o u9)=true then apD o u9 else zD).ns).length aC,.slice aD ((if (apC o u9)=true then apD o u9 else zD).ws).length aE,vi ((if (apC o u9)=true then apD o u9 else zD).t),vi ((if (apC o u9)=true then apD o u9 else zD).r)],.bool (apC o u9)]) rfl rfl)<|Zf (Xq (zs:=[vi 0,.slice none 0 0,.slice none 0 0,vi 0,vi 0]) X0h rfl) ?_;rintro _ cJ ⟨b37,rfl,bL,p,a6⟩
  have bM:b8≠b37:=by have:=g.lt;omega
  have aU:b18≠b37:=by have:=f.lt;omega
  have aS:=Q0 j.size bL;have g:=g.bw p;have f:=f.bw p;have H:=H.bw p;have I:=I.bw p;have j:=btr j p;refine Zo (Vw [vi ((if (apC o u9)=true then apD o u9 else zD).n),.slice aB ((if (apC o u9)=true then apD o u9 else zD).ns).length aC,.slice aD ((if (apC o u9)=true then apD o u9 else zD).ws).length aE,vi ((if (apC o u9)=true then apD o u9 else zD).t),vi ((if (apC o u9)=true then apD o u9 else zD).r)] Xh a6) ?_;rintro _ cK ⟨E,hb⟩;have i:=a6;have g:=g.oy E (by omega);have f:=f.oy E (by omega);have H:=H.oT E i rfl;have I:=I.oT E i rfl;have j:=Below.oy j E aS;have a6:=hb;refine Za rfl<|ZX bJ fun a x _ bN=>?_;refine Zs x fun _ bO=>?_;refine Zm rfl<|Ze (X0w rfl)<|Zt bO fun a x=>?_
  refine Xi x rfl (fun a7=>?_) (fun a7=>?_)
  ·have aT:=a7;exact absurd a7 (by rw [aO];decide)
  have aT:=a7;refine Q7<|bN _ _<|Zr x<|Ze (Vn X2 a6)<|Zo (Vw [vi ((if (apC o u9)=true then apD o u9 else zD).n),.slice aB ((if (apC o u9)=true then apD o u9 else zD).ns).length aC,.slice aD ((if (apC o u9)=true then apD o u9 else zD).ws).length aE,vi ((if (apC o u9)=true then apD o u9 else zD).t),vi ((if (apC o u9)=true then apD o u9 else zD).r)] Xh f) ?_;rintro _ cL ⟨E,hb⟩;have i:=f;have g:=g.oy E (by omega);have H:=H.oT E i rfl;have I:=I.oT E i rfl;have j:=Below.oy j E aA;have f:=hb;refine Zn fun a x=>?_;refine Xa<|bF _ _<|Zr x<|Ze (Xs rfl rfl (by omega) (by omega))<|Zm rfl ?_;refine Zn fun a x=>?_;refine Xc ?_;exact ⟨(k+1,(if (apC o u9)=true then apD o u9 else zD)),⟨aB,aC,aD,aE,x.sb,(by omega),(by rw [aP];exact X48 aO),(by rw [aP];exact bX),(by rw [aP];exact bY),g,f,H.top,I.top,L,bK,j⟩,(by first|omega|(dsimp only;omega))⟩
 have aN:=y;have y:=Q1 y
 have bZ:=Xwk hI hs bA (by have:=y;omega)
 have cM:k=l.length:=by have:=y;omega
 refine Q9<|Xk<|Xk<|X02 ?_;refine b7 _ _<|Zs x fun _ bP=>?_;refine Ze (Vn X2 f)<|Zm rfl<|Ze (X09 rfl X13)<|Zo (Vw [vi o.n,.slice M o.ns.length a8,.slice N o.ws.length Q,vi o.t,vi o.r] Xh g) ?_;rintro _ cN ⟨E,hb⟩;have i:=g;have C:=C.oT E i rfl;have D:=D.oT E i rfl;have j:=Below.oy j E aW;have g:=hb;refine Za rfl<|Za rfl<|Zt bP fun a x=>?_
 refine Q6 (X6 x (Xdk x rfl (ResV.cellN (l:=[vi o.n,.slice M o.ns.length a8,.slice N o.ws.length Q,vi o.t,vi o.r]) rfl X2 (g.at 0) rfl) rfl rfl) ?_)
 rw [bZ]
 exact ⟨M,a8,N,Q,rfl,C.top,D.top,bB,j⟩
theorem Y0e(o:World)(d:Dg)(md:Nat)(a8:md=d.ns.length)(Ad:Option Addr)(cd:Nat)(aA:Rd o o.heap.size 81 encNd Ad d.ns)(Bd:Option Addr)(dd:Nat)(aB:Rd o o.heap.size 83 encWr Bd d.ws)(aC:d.ws.length<=dd)(Al:Option Addr)(cl:Nat)(l:List Rz)(aD:Rd o o.heap.size 58 encRz Al l)(e:Dg)(me:Nat)(aE:me=e.ns.length)(Ae:Option Addr)(ce:Nat)(aF:Rd o o.heap.size 81 encNd Ae e.ns)(Be:Option Addr)(de:Nat)(aG:Rd o o.heap.size 83 encWr Be e.ws)(aH:e.ws.length<=de)(hG:goodD d=true)(aQ:l=siL d alR5)(hN:md<=1000) : Ret Tryz.prog 18 [.agg #[vi d.n,.slice Ad md cd,.slice Bd d.ws.length dd,vi d.t,vi d.r],.slice Al l.length cl,.agg #[vi e.n,.slice Ae me ce,.slice Be e.ws.length de,vi e.t,vi e.r]] o (fun v w=>v=.tuple #[.bool (decide (siD d alR5=e)),.bool true]/\Below o.heap.size o w):=by
 have hS:=X0e (X6s alR5 hG);have aX:=hS.len;have aY:=hS.m;refine enter Tryz.func18 rfl 29 rfl rfl ?_;intro a p
 have c:=bz o
 refine Zs p fun _ aR=>?_;refine Zf (X0l (zs:=[vi d.n,.slice Ad md cd,.slice Bd d.ws.length dd,vi d.t,vi d.r]) rfl rfl) ?_;rintro _ w1 ⟨b7,rfl,aS,f,k⟩;have aV:=Q0 c.size aS;have c:=btr c f;refine Zf (X0l (zs:=[vi e.n,.slice Ae me ce,.slice Be e.ws.length de,vi e.t,vi e.r]) rfl rfl) ?_;rintro _ w2 ⟨b8,rfl,aT,f,g⟩
 have aP:b7≠b8:=by have:=k.lt;omega
 have aW:=Q0 c.size aT;have k:=k.bw f;have c:=btr c f;refine Za rfl<|Za rfl<|Zx aR fun a p _ aU=>?_;refine Ze (Vn X2 k)<|Zm rfl<|Zf (Vc (Y44 _ d md a8 Ad cd (aA.bx c).top Bd dd (aB.bx c).top aC Al cl l (aD.bx c).top hG aQ hN) Xoi) ?_;rintro _ w3 ⟨u,x,y,h,rfl,i,j,aI,f⟩;have k:=k.bw f;have g:=g.bw f;have c:=btr c f;refine Zm rfl<|Ze (Xo (vs:=[.agg #[vi ((siD d alR5).n),.slice u ((siD d alR5).ns).length x,.slice y ((siD d alR5).ws).length h,vi ((siD d alR5).t),vi ((siD d alR5).r)],vi (l.length:Int),.bool true]) rfl rfl)<|Ze (Xo (vs:=[.agg #[vi ((siD d alR5).n),.slice u ((siD d alR5).ns).length x,.slice y ((siD d alR5).ws).length h,vi ((siD d alR5).t),vi ((siD d alR5).r)],vi (l.length:Int),.bool true]) rfl rfl)<|Ze (Xo (vs:=[.agg #[vi ((siD d alR5).n),.slice u ((siD d alR5).ns).length x,.slice y ((siD d alR5).ws).length h,vi ((siD d alR5).t),vi ((siD d alR5).r)],vi (l.length:Int),.bool true]) rfl rfl)<|Zf (Xq (zs:=[vi 0,.slice none 0 0,.slice none 0 0,vi 0,vi 0]) X0h rfl) ?_;rintro _ w4 ⟨b14,rfl,aJ,f,q⟩
 have aK:b7≠b14:=by have:=k.lt;omega
 have aL:b8≠b14:=by have:=g.lt;omega
 have a6:=Q0 c.size aJ;have g:=g.bw f;have i:=i.bw f;have j:=j.bw f;have c:=btr c f;refine Zo (Vw [vi ((siD d alR5).n),.slice u ((siD d alR5).ns).length x,.slice y ((siD d alR5).ws).length h,vi ((siD d alR5).t),vi ((siD d alR5).r)] Xh q) ?_;rintro _ w5 ⟨ho,hb⟩;have B:=q;have g:=g.oy ho (by omega);have i:=i.oT ho B rfl;have j:=j.oT ho B rfl;have c:=Below.oy c ho a6;have q:=hb;refine Za rfl<|Za rfl<|ZX aU fun a p _ aM=>?_;refine Zs p fun _ aN=>?_;refine Zm rfl<|Ze (X0w rfl)<|Zt aN fun a p=>?_;refine Xbu p rfl ?_;refine Q7<|aM _ _<|Q5 fun _ aO=>?_;refine X0a (fun a w=>Fr a 29 [(6,.bool (((l.length:Int)==(l.length:Int))&&(decide ((siD d alR5)=e)))),(7,.bool true)]/\Below w5.heap.size w5 w) ?_ ?_
 ·have A:Below w5.heap.size w5 w5:=Below.refl _ _
  refine Zr p<|Zm rfl<|Zm rfl<|Ze (X09 rfl X13)<|Ze (X0k rfl rfl)<|Zm rfl ?_
  refine Zg 24 rfl (fun b=>?_) (fun b=>?_)
  ·refine Zv (gW b) (Vn X2 q) ?_;refine Zv (gW b) (Vn X2 g) ?_;refine Zk (gW b) (Vc (Y07 _ (siD d alR5) (((siD d alR5).ns).length) rfl u x i.top y h j.top aI e me aE Ae ce (aF.bx c).top Be de (aG.bx c).top aH (by omega) (by omega)) Xq7) ?_;rintro _ w6 ⟨rfl,f⟩;have c:=btr c f;have A:=btr A f;refine Ze (X5 rfl b rfl)<|Za rfl<|Za rfl ?_;refine Zn fun a p=>?_
   have a7:Below w5.heap.size w5 w6:=A
   exact ⟨p.sub ⟨X1 rfl (by simp [b]),rfl,trivial⟩,a7⟩
  (iterate 3 refine Zp (gP b) ?_);refine Ze (Xb rfl b rfl)<|Za rfl<|Za rfl ?_;refine Zn fun a p=>?_
  have a7:Below w5.heap.size w5 w5:=A
  exact ⟨p.sub ⟨X1 rfl (by first|rfl|(simp only [b,bs];done)|simp [b]),rfl,trivial⟩,a7⟩
 rintro a w7 ⟨p,f⟩;have c:=btr c f;refine aO _ _ ?_
 refine Q6 (X6 p (X1v p rfl rfl rfl) ?_)
 exact ⟨by simp,c⟩
end Go.Proofs.YtpifljegadknkaaGreat
