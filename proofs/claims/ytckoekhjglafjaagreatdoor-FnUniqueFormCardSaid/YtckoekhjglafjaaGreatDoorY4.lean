/-
  For every drawn normal form, the code and the reference have one matrix for it, the normal form of that matrix, where there is one, is the form again, and its text is read back; forms at two places differ, and a form at a place is valid and has its length.
-/
import Derived.Test.YtckoekhjglafjaaGreatDoorY3
import Derived.Test.YtckoekhjglafjaaGreatDoorY2
set_option linter.unusedVariables false
set_option linter.unusedSimpArgs false
set_option maxHeartbeats 1000000
set_option maxRecDepth 4000
set_option linter.unusedSectionVars false
namespace Go.Proofs.YtckoekhjglafjaaGreatDoor
open Go.RowKit
theorem Xyy(w0:World)(m:Mx)(Am:Option Addr)(cm:Nat)(W:Rd w0 w0.heap.size 53 encD Am m.cells)(p:Mx)(Ap:Option Addr)(cp:Nat)(aA:Rd w0 w0.heap.size 53 encD Ap p.cells)(i:Nat)(j:Nat)(cH:m.cells.length≤2305843009213693951)(cJ:oneQ m=true)(b0:p=adjS m)(aD:i<3)(aE:j<3)(cK:HalfT w0) : Ret Tryz.prog 57 [.agg #[vi m.rows,vi m.cols,.slice Am m.cells.length cm],.agg #[vi p.rows,vi p.cols,.slice Ap p.cells.length cp],vi (i:Int),vi (j:Int)] w0 (fun v w=>v=.tuple #[dV ((celB m i j).getD dZ),.bool ((celB m i j).isSome)]∧Below w0.heap.size w0 w):=by
 obtain ⟨_,b1,cM,cO⟩:=X40 cJ
 have cP:p.cells.length≤2305843009213693951:=by rw [b0];exact Xlz b1
 refine enter Tryz.func57 rfl 83 rfl rfl ?_;intro a L
 have f:=bz w0
 refine Zs L fun _ cQ=>?_;refine Zf (X0j (zs:=[vi m.rows,vi m.cols,.slice Am m.cells.length cm]) rfl rfl) ?_;rintro _ w1 ⟨b4,rfl,cR,n,t⟩;have cX:=Q0 f.size cR;have f:=btr f n;refine Zf (X0j (zs:=[vi p.rows,vi p.cols,.slice Ap p.cells.length cp]) rfl rfl) ?_;rintro _ w2 ⟨b5,rfl,cS,n,o⟩
 have cE:b4≠b5:=by have:=t.lt;omega
 have d5:=Q0 f.size cS;have t:=t.below n;have f:=btr f n;refine Zf (X3 (zs:=[vi 0,vi 0,vi 0,vi 0,vi 0]) X0n rfl) ?_;rintro _ w3 ⟨b6,rfl,aP,n,e⟩;have Q:=Q0 f.size aP;have cF:=(W.below' f).away aP;have cG:=(aA.below' f).away aP;have t:=t.below n;have o:=o.below n;have f:=btr f n;refine Za rfl<|Zx cQ fun a L _ cU=>?_;refine Ze (Xg (ps:=[(0,vi 2),(1,vi 3),(2,vi 4)]) (cs:=[vi 2,vi 3,vi 4]) rfl (fun _=>by first|rfl|kernel_rfl))<|Zf (X3 (zs:=[vi 0,vi 0,vi 0]) Xsx rfl) ?_;rintro _ w4 ⟨b8,rfl,cV,n,I⟩;have b2:=Q0 f.size cV;have t:=t.below n;have o:=o.below n;have e:=e.below n;have f:=btr f n;refine Zo (Vw [vi 2,vi 3,vi 4] Xqg I) ?_;rintro _ w5 ⟨u,J⟩;have g:=I;have t:=t.only u (Blk.ne t g rfl);have o:=o.only u (Blk.ne o g rfl);have e:=e.only u (Blk.ne e g rfl);have f:=Below.only f u b2;have I:=J;refine Zx cU fun a L _ cW=>?_;refine Zm rfl<|Ze (Xbv (k:=i) rfl rfl Tryz.underlying140 X65 rfl aD (Nat.zero_add _))<|Ze (X0 rfl X9 (Xmr I aD))<|Ze (Xg (ps:=[(0,vi (2+(i:Int)))]) (cs:=[vi (2+(i:Int)),vi 0,vi 0]) rfl (fun _=>by first|rfl|kernel_rfl))<|Zf (X1d (vs:=[vi 1,.agg #[vi (2+(i:Int)),vi 0,vi 0]]) rfl X9s (by have hq:=Xk5 w5 1 (⟨(2+(i:Int)),0,0⟩ : Gt);rw [Xem aD,Qq,Option.isSome_some] at hq;exact hq)) ?_;rintro _ w6 ⟨aF,aG,rfl,z,n⟩;have b3:=z.awayNew e.lt;have z:=z.lower f.size;have t:=t.below n;have o:=o.below n;have e:=e.below n;have I:=I.below n;have f:=btr f n;refine Zm rfl<|Ze (X1 (vs:=[.agg #[vi ((pauM i).rows),vi ((pauM i).cols),.slice aF ((pauM i).cells).length aG],.bool true]) rfl rfl)<|Ze (X1 (vs:=[.agg #[vi ((pauM i).rows),vi ((pauM i).cols),.slice aF ((pauM i).cells).length aG],.bool true]) rfl rfl)<|Zf (X3 (zs:=[vi 0,vi 0,.slice none 0 0]) X0y rfl) ?_;rintro _ w7 ⟨b12,rfl,b7,n,h⟩
 have b9:b4≠b12:=by have:=t.lt;omega
 have bC:b5≠b12:=by have:=o.lt;omega
 have aQ:=Q0 f.size b7;have t:=t.below n;have o:=o.below n;have e:=e.below n;have I:=I.below n;have z:=z.below n;have f:=btr f n;refine Zo (Vw [vi ((pauM i).rows),vi ((pauM i).cols),.slice aF ((pauM i).cells).length aG] X0b h) ?_;rintro _ w8 ⟨u,J⟩;have g:=h;have t:=t.only u (by omega);have o:=o.only u (by omega);have e:=e.only u (Blk.ne e g rfl);have I:=I.only u (Blk.ne I g rfl);have z:=z.onlyT u g rfl;have f:=Below.only f u aQ;have h:=J;refine Za rfl<|Zx cW fun a L _ bD=>?_;refine Zm rfl<|Ze (Xbv (k:=j) rfl rfl Tryz.underlying140 X65 rfl aE (Nat.zero_add _))<|Ze (X0 rfl X9 (Xmr I aE))<|Ze (Xg (ps:=[(0,vi (2+(j:Int)))]) (cs:=[vi (2+(j:Int)),vi 0,vi 0]) rfl (fun _=>by first|rfl|kernel_rfl))<|Zf (X1d (vs:=[vi 1,.agg #[vi (2+(j:Int)),vi 0,vi 0]]) rfl X9s (by have hq:=Xk5 w8 1 (⟨(2+(j:Int)),0,0⟩ : Gt);rw [Xem aE,Qq,Option.isSome_some] at hq;exact hq)) ?_;rintro _ w9 ⟨aH,aI,rfl,A,n⟩;have bE:=A.awayNew e.lt;have A:=A.lower f.size;have t:=t.below n;have o:=o.below n;have e:=e.below n;have h:=h.below n;have z:=z.below n;have f:=btr f n;refine Zm rfl<|Ze (X1 (vs:=[.agg #[vi ((pauM j).rows),vi ((pauM j).cols),.slice aH ((pauM j).cells).length aI],.bool true]) rfl rfl)<|Ze (X1 (vs:=[.agg #[vi ((pauM j).rows),vi ((pauM j).cols),.slice aH ((pauM j).cells).length aI],.bool true]) rfl rfl)<|Zf (X3 (zs:=[vi 0,vi 0,.slice none 0 0]) X0y rfl) ?_;rintro _ d6 ⟨b16,rfl,bF,n,C⟩
 have bG:b4≠b16:=by have:=t.lt;omega
 have bH:b5≠b16:=by have:=o.lt;omega
 have aU:b12≠b16:=by have:=h.lt;omega
 have aR:=Q0 f.size bF;have t:=t.below n;have o:=o.below n;have e:=e.below n;have h:=h.below n;have z:=z.below n;have A:=A.below n;have f:=btr f n;refine Zo (Vw [vi ((pauM j).rows),vi ((pauM j).cols),.slice aH ((pauM j).cells).length aI] X0b C) ?_;rintro _ d7 ⟨u,J⟩;have g:=C;have t:=t.only u (by omega);have o:=o.only u (by omega);have e:=e.only u (Blk.ne e g rfl);have h:=h.only u (by omega);have z:=z.onlyT u g rfl;have A:=A.onlyT u g rfl;have f:=Below.only f u aR;have C:=J;refine Za rfl<|Zx bD fun a L _ bI=>?_;refine Ze (Vn Xr h)<|Ze (Vn Xr t)<|Zf (Vc (Xk6 _ (pauM i) aF aG z.rd.top m Am cm (W.below' f).top (Xkk _) cH) Xa3) ?_;rintro _ d8 ⟨aJ,aK,rfl,H,n⟩;have bJ:=H.awayNew e.lt;have H:=H.lower f.size;have t:=t.below n;have o:=o.below n;have e:=e.below n;have h:=h.below n;have C:=C.below n;have A:=A.below n;have f:=btr f n;refine Zm rfl<|Ze (X1 (vs:=[.agg #[vi (((mulI (pauM i) m).getD mZ).rows),vi (((mulI (pauM i) m).getD mZ).cols),.slice aJ (((mulI (pauM i) m).getD mZ).cells).length aK],.bool ((mulI (pauM i) m).isSome)]) rfl rfl)<|Ze (X1 (vs:=[.agg #[vi (((mulI (pauM i) m).getD mZ).rows),vi (((mulI (pauM i) m).getD mZ).cols),.slice aJ (((mulI (pauM i) m).getD mZ).cells).length aK],.bool ((mulI (pauM i) m).isSome)]) rfl rfl)<|Zf (X3 (zs:=[vi 0,vi 0,.slice none 0 0]) X0y rfl) ?_;rintro _ d9 ⟨b20,rfl,bK,n,x⟩
 have bL:b4≠b20:=by have:=t.lt;omega
 have bM:b5≠b20:=by have:=o.lt;omega
 have aW:b12≠b20:=by have:=h.lt;omega
 have aX:b16≠b20:=by have:=C.lt;omega
 have U:=Q0 f.size bK;have o:=o.below n;have e:=e.below n;have C:=C.below n;have A:=A.below n;have H:=H.below n;have f:=btr f n;refine Zo (Vw [vi (((mulI (pauM i) m).getD mZ).rows),vi (((mulI (pauM i) m).getD mZ).cols),.slice aJ (((mulI (pauM i) m).getD mZ).cells).length aK] X0b x) ?_;rintro _ dA ⟨u,J⟩;have g:=x;have o:=o.only u (by omega);have e:=e.only u (Blk.ne e g rfl);have C:=C.only u (by omega);have A:=A.onlyT u g rfl;have H:=H.onlyT u g rfl;have f:=Below.only f u U;have x:=J;refine Za rfl<|Zx bI fun a L _ bN=>?_;refine Ze (Vn Xr x)<|Ze (Vn Xr C)<|Zf (Vc (Xk6 _ ((mulI (pauM i) m).getD mZ) aJ aK H.rd.top (pauM j) aH aI A.rd.top (X7u _ _) (Xkk _)) Xa3) ?_;rintro _ dB ⟨aL,aM,rfl,N,n⟩;have bO:=N.awayNew e.lt;have N:=N.lower f.size;have o:=o.below n;have e:=e.below n;have x:=x.below n;have f:=btr f n;refine Zm rfl<|Ze (X1 (vs:=[.agg #[vi (((mulI ((mulI (pauM i) m).getD mZ) (pauM j)).getD mZ).rows),vi (((mulI ((mulI (pauM i) m).getD mZ) (pauM j)).getD mZ).cols),.slice aL (((mulI ((mulI (pauM i) m).getD mZ) (pauM j)).getD mZ).cells).length aM],.bool ((mulI ((mulI (pauM i) m).getD mZ) (pauM j)).isSome)]) rfl rfl)<|Ze (X1 (vs:=[.agg #[vi (((mulI ((mulI (pauM i) m).getD mZ) (pauM j)).getD mZ).rows),vi (((mulI ((mulI (pauM i) m).getD mZ) (pauM j)).getD mZ).cols),.slice aL (((mulI ((mulI (pauM i) m).getD mZ) (pauM j)).getD mZ).cells).length aM],.bool ((mulI ((mulI (pauM i) m).getD mZ) (pauM j)).isSome)]) rfl rfl)<|Zo (Vw [vi (((mulI ((mulI (pauM i) m).getD mZ) (pauM j)).getD mZ).rows),vi (((mulI ((mulI (pauM i) m).getD mZ) (pauM j)).getD mZ).cols),.slice aL (((mulI ((mulI (pauM i) m).getD mZ) (pauM j)).getD mZ).cells).length aM] X0b x) ?_;rintro _ dC ⟨u,J⟩
 have g:=x;have o:=o.only u (by omega);have e:=e.only u (Blk.ne e g rfl);have N:=N.onlyT u g rfl;have f:=Below.only f u U;have x:=J;refine Za rfl<|Zx bN fun a L _ bP=>?_;refine Ze (Vn Xr x)<|Ze (Vn Xr o)<|Zf (Vc (Xk6 _ ((mulI ((mulI (pauM i) m).getD mZ) (pauM j)).getD mZ) aL aM N.rd.top p Ap cp (aA.below' f).top (X7u _ _) cP) Xa3) ?_;rintro _ dD ⟨aN,aO,rfl,E,n⟩;have bQ:=E.awayNew e.lt;have E:=E.lower f.size;have e:=e.below n;have x:=x.below n;have f:=btr f n;refine Zm rfl<|Ze (X1 (vs:=[.agg #[vi (((mulI ((mulI ((mulI (pauM i) m).getD mZ) (pauM j)).getD mZ) p).getD mZ).rows),vi (((mulI ((mulI ((mulI (pauM i) m).getD mZ) (pauM j)).getD mZ) p).getD mZ).cols),.slice aN (((mulI ((mulI ((mulI (pauM i) m).getD mZ) (pauM j)).getD mZ) p).getD mZ).cells).length aO],.bool ((mulI ((mulI ((mulI (pauM i) m).getD mZ) (pauM j)).getD mZ) p).isSome)]) rfl rfl)<|Ze (X1 (vs:=[.agg #[vi (((mulI ((mulI ((mulI (pauM i) m).getD mZ) (pauM j)).getD mZ) p).getD mZ).rows),vi (((mulI ((mulI ((mulI (pauM i) m).getD mZ) (pauM j)).getD mZ) p).getD mZ).cols),.slice aN (((mulI ((mulI ((mulI (pauM i) m).getD mZ) (pauM j)).getD mZ) p).getD mZ).cells).length aO],.bool ((mulI ((mulI ((mulI (pauM i) m).getD mZ) (pauM j)).getD mZ) p).isSome)]) rfl rfl)<|Zo (Vw [vi (((mulI ((mulI ((mulI (pauM i) m).getD mZ) (pauM j)).getD mZ) p).getD mZ).rows),vi (((mulI ((mulI ((mulI (pauM i) m).getD mZ) (pauM j)).getD mZ) p).getD mZ).cols),.slice aN (((mulI ((mulI ((mulI (pauM i) m).getD mZ) (pauM j)).getD mZ) p).getD mZ).cells).length aO] X0b x) ?_;rintro _ dE ⟨u,J⟩;have g:=x;have e:=e.only u (Blk.ne e g rfl);have E:=E.onlyT u g rfl;have f:=Below.only f u U;have x:=J
 refine Za rfl<|Zx bP fun a L _ bR=>?_;refine Ze (Vn Xr x)<|Zf (Vc (Xwa _ ((mulI ((mulI ((mulI (pauM i) m).getD mZ) (pauM j)).getD mZ) p).getD mZ) aN aO E.rd.top (X7u _ _)) Xnr) ?_;rintro _ dF ⟨rfl,n⟩;have e:=e.below n;have E:=E.below n;have f:=btr f n;refine Zm rfl<|Ze (X1 (vs:=[.agg #[vi (((trI ((mulI ((mulI ((mulI (pauM i) m).getD mZ) (pauM j)).getD mZ) p).getD mZ)).getD dZ).num.a),vi (((trI ((mulI ((mulI ((mulI (pauM i) m).getD mZ) (pauM j)).getD mZ) p).getD mZ)).getD dZ).num.b),vi (((trI ((mulI ((mulI ((mulI (pauM i) m).getD mZ) (pauM j)).getD mZ) p).getD mZ)).getD dZ).num.c),vi (((trI ((mulI ((mulI ((mulI (pauM i) m).getD mZ) (pauM j)).getD mZ) p).getD mZ)).getD dZ).num.d),vi (((trI ((mulI ((mulI ((mulI (pauM i) m).getD mZ) (pauM j)).getD mZ) p).getD mZ)).getD dZ).exp)],.bool ((trI ((mulI ((mulI ((mulI (pauM i) m).getD mZ) (pauM j)).getD mZ) p).getD mZ)).isSome)]) rfl rfl)<|Ze (X1 (vs:=[.agg #[vi (((trI ((mulI ((mulI ((mulI (pauM i) m).getD mZ) (pauM j)).getD mZ) p).getD mZ)).getD dZ).num.a),vi (((trI ((mulI ((mulI ((mulI (pauM i) m).getD mZ) (pauM j)).getD mZ) p).getD mZ)).getD dZ).num.b),vi (((trI ((mulI ((mulI ((mulI (pauM i) m).getD mZ) (pauM j)).getD mZ) p).getD mZ)).getD dZ).num.c),vi (((trI ((mulI ((mulI ((mulI (pauM i) m).getD mZ) (pauM j)).getD mZ) p).getD mZ)).getD dZ).num.d),vi (((trI ((mulI ((mulI ((mulI (pauM i) m).getD mZ) (pauM j)).getD mZ) p).getD mZ)).getD dZ).exp)],.bool ((trI ((mulI ((mulI ((mulI (pauM i) m).getD mZ) (pauM j)).getD mZ) p).getD mZ)).isSome)]) rfl rfl)<|Zf (X3 (zs:=[vi 0,vi 0,vi 0,vi 0,vi 0]) X0n rfl) ?_;rintro _ dG ⟨b26,rfl,aB,n,M⟩
 have bS:b6≠b26:=by have:=e.lt;omega
 have aS:=Q0 f.size aB;have bU:=(W.below' f).away aB;have bW:=(aA.below' f).away aB;have aY:=E.away aB;have e:=e.below n;have f:=btr f n;refine Zo (Vw [vi (((trI ((mulI ((mulI ((mulI (pauM i) m).getD mZ) (pauM j)).getD mZ) p).getD mZ)).getD dZ).num.a),vi (((trI ((mulI ((mulI ((mulI (pauM i) m).getD mZ) (pauM j)).getD mZ) p).getD mZ)).getD dZ).num.b),vi (((trI ((mulI ((mulI ((mulI (pauM i) m).getD mZ) (pauM j)).getD mZ) p).getD mZ)).getD dZ).num.c),vi (((trI ((mulI ((mulI ((mulI (pauM i) m).getD mZ) (pauM j)).getD mZ) p).getD mZ)).getD dZ).num.d),vi (((trI ((mulI ((mulI ((mulI (pauM i) m).getD mZ) (pauM j)).getD mZ) p).getD mZ)).getD dZ).exp)] Xd M) ?_;rintro _ dH ⟨u,J⟩;have g:=M;have e:=e.only u (by omega);have f:=Below.only f u aS;have M:=J;refine Za rfl<|Zx bR fun a L _ bZ=>?_;refine Ze (Vn X6 M)<|Ze (X09 (l:=[vi dHf.num.a,vi dHf.num.b,vi dHf.num.c,vi dHf.num.d,vi dHf.exp]) rfl X6 ((cK.of f).at 0) rfl)<|Zf (Vc (Xas _ ((trI ((mulI ((mulI ((mulI (pauM i) m).getD mZ) (pauM j)).getD mZ) p).getD mZ)).getD dZ) dHf) X4l) ?_;rintro _ dI ⟨rfl,n⟩;have e:=e.below n;have M:=M.below n;have f:=btr f n;refine Zm rfl<|Ze (X1 (vs:=[.agg #[vi (((dMulI ((trI ((mulI ((mulI ((mulI (pauM i) m).getD mZ) (pauM j)).getD mZ) p).getD mZ)).getD dZ) dHf).getD dZ).num.a),vi (((dMulI ((trI ((mulI ((mulI ((mulI (pauM i) m).getD mZ) (pauM j)).getD mZ) p).getD mZ)).getD dZ) dHf).getD dZ).num.b),vi (((dMulI ((trI ((mulI ((mulI ((mulI (pauM i) m).getD mZ) (pauM j)).getD mZ) p).getD mZ)).getD dZ) dHf).getD dZ).num.c),vi (((dMulI ((trI ((mulI ((mulI ((mulI (pauM i) m).getD mZ) (pauM j)).getD mZ) p).getD mZ)).getD dZ) dHf).getD dZ).num.d),vi (((dMulI ((trI ((mulI ((mulI ((mulI (pauM i) m).getD mZ) (pauM j)).getD mZ) p).getD mZ)).getD dZ) dHf).getD dZ).exp)],.bool ((dMulI ((trI ((mulI ((mulI ((mulI (pauM i) m).getD mZ) (pauM j)).getD mZ) p).getD mZ)).getD dZ) dHf).isSome)]) rfl rfl)<|Ze (X1 (vs:=[.agg #[vi (((dMulI ((trI ((mulI ((mulI ((mulI (pauM i) m).getD mZ) (pauM j)).getD mZ) p).getD mZ)).getD dZ) dHf).getD dZ).num.a),vi (((dMulI ((trI ((mulI ((mulI ((mulI (pauM i) m).getD mZ) (pauM j)).getD mZ) p).getD mZ)).getD dZ) dHf).getD dZ).num.b),vi (((dMulI ((trI ((mulI ((mulI ((mulI (pauM i) m).getD mZ) (pauM j)).getD mZ) p).getD mZ)).getD dZ) dHf).getD dZ).num.c),vi (((dMulI ((trI ((mulI ((mulI ((mulI (pauM i) m).getD mZ) (pauM j)).getD mZ) p).getD mZ)).getD dZ) dHf).getD dZ).num.d),vi (((dMulI ((trI ((mulI ((mulI ((mulI (pauM i) m).getD mZ) (pauM j)).getD mZ) p).getD mZ)).getD dZ) dHf).getD dZ).exp)],.bool ((dMulI ((trI ((mulI ((mulI ((mulI (pauM i) m).getD mZ) (pauM j)).getD mZ) p).getD mZ)).getD dZ) dHf).isSome)]) rfl rfl)<|Zf (X3 (zs:=[vi 0,vi 0,vi 0,vi 0,vi 0]) X0n rfl) ?_;rintro _ dJ ⟨b28,rfl,aC,n,q⟩
 have cA:b6≠b28:=by have:=e.lt;omega
 have aZ:b26≠b28:=by have:=M.lt;omega
 have aT:=Q0 f.size aC;have cB:=(W.below' f).away aC;have cC:=(aA.below' f).away aC;have e:=e.below n;have f:=btr f n;refine Zo (Vw [vi (((dMulI ((trI ((mulI ((mulI ((mulI (pauM i) m).getD mZ) (pauM j)).getD mZ) p).getD mZ)).getD dZ) dHf).getD dZ).num.a),vi (((dMulI ((trI ((mulI ((mulI ((mulI (pauM i) m).getD mZ) (pauM j)).getD mZ) p).getD mZ)).getD dZ) dHf).getD dZ).num.b),vi (((dMulI ((trI ((mulI ((mulI ((mulI (pauM i) m).getD mZ) (pauM j)).getD mZ) p).getD mZ)).getD dZ) dHf).getD dZ).num.c),vi (((dMulI ((trI ((mulI ((mulI ((mulI (pauM i) m).getD mZ) (pauM j)).getD mZ) p).getD mZ)).getD dZ) dHf).getD dZ).num.d),vi (((dMulI ((trI ((mulI ((mulI ((mulI (pauM i) m).getD mZ) (pauM j)).getD mZ) p).getD mZ)).getD dZ) dHf).getD dZ).exp)] Xd q) ?_;rintro _ dK ⟨u,J⟩;have g:=q;have e:=e.only u (by omega);have f:=Below.only f u aT;have q:=J;refine Za rfl<|ZX bZ fun a L _ cD=>?_;refine X02 (fun a w=>Fr a 83 [(8,.pointer (some ⟨b6,0,none⟩)),(9,.bool ((((((mulI (pauM i) m).isSome)&&((mulI ((mulI (pauM i) m).getD mZ) (pauM j)).isSome))&&((mulI ((mulI ((mulI (pauM i) m).getD mZ) (pauM j)).getD mZ) p).isSome))&&((trI ((mulI ((mulI ((mulI (pauM i) m).getD mZ) (pauM j)).getD mZ) p).getD mZ)).isSome))&&((dMulI ((trI ((mulI ((mulI ((mulI (pauM i) m).getD mZ) (pauM j)).getD mZ) p).getD mZ)).getD dZ) dHf).isSome)))]∧Blk w b6 53 [vi (((dMulI ((trI ((mulI ((mulI ((mulI (pauM i) m).getD mZ) (pauM j)).getD mZ) p).getD mZ)).getD dZ) dHf).getD dZ).num.a),vi (((dMulI ((trI ((mulI ((mulI ((mulI (pauM i) m).getD mZ) (pauM j)).getD mZ) p).getD mZ)).getD dZ) dHf).getD dZ).num.b),vi (((dMulI ((trI ((mulI ((mulI ((mulI (pauM i) m).getD mZ) (pauM j)).getD mZ) p).getD mZ)).getD dZ) dHf).getD dZ).num.c),vi (((dMulI ((trI ((mulI ((mulI ((mulI (pauM i) m).getD mZ) (pauM j)).getD mZ) p).getD mZ)).getD dZ) dHf).getD dZ).num.d),vi (((dMulI ((trI ((mulI ((mulI ((mulI (pauM i) m).getD mZ) (pauM j)).getD mZ) p).getD mZ)).getD dZ) dHf).getD dZ).exp)]∧Blk w b28 53 [vi (((dMulI ((trI ((mulI ((mulI ((mulI (pauM i) m).getD mZ) (pauM j)).getD mZ) p).getD mZ)).getD dZ) dHf).getD dZ).num.a),vi (((dMulI ((trI ((mulI ((mulI ((mulI (pauM i) m).getD mZ) (pauM j)).getD mZ) p).getD mZ)).getD dZ) dHf).getD dZ).num.b),vi (((dMulI ((trI ((mulI ((mulI ((mulI (pauM i) m).getD mZ) (pauM j)).getD mZ) p).getD mZ)).getD dZ) dHf).getD dZ).num.c),vi (((dMulI ((trI ((mulI ((mulI ((mulI (pauM i) m).getD mZ) (pauM j)).getD mZ) p).getD mZ)).getD dZ) dHf).getD dZ).num.d),vi (((dMulI ((trI ((mulI ((mulI ((mulI (pauM i) m).getD mZ) (pauM j)).getD mZ) p).getD mZ)).getD dZ) dHf).getD dZ).exp)]∧Below w0.heap.size w0 w) ?_ ?_
 ·refine Zr L<|Ze (Vn X6 q)<|Zm rfl<|Zm rfl ?_
  refine Zg 71 rfl (fun y=>?_) (fun y=>?_)
  ·refine Zv (gW y) (X7 rfl) ?_;refine Ze (Xe rfl y rfl)<|Zm rfl ?_
   refine Zg 74 rfl (fun B=>?_) (fun B=>?_)
   ·refine Zv (gW B) (X7 rfl) ?_;refine Ze (Xe rfl B rfl)<|Zm rfl ?_
    refine Zg 77 rfl (fun D=>?_) (fun D=>?_)
    ·refine Zv (gW D) (X7 rfl) ?_;refine Ze (Xe rfl D rfl)<|Zm rfl ?_
     refine Zg 80 rfl (fun G=>?_) (fun G=>?_)
     ·refine Zv (gW G) (X7 rfl) ?_;refine Ze (Xe rfl G rfl)<|Zo (Vw [vi (((dMulI ((trI ((mulI ((mulI ((mulI (pauM i) m).getD mZ) (pauM j)).getD mZ) p).getD mZ)).getD dZ) dHf).getD dZ).num.a),vi (((dMulI ((trI ((mulI ((mulI ((mulI (pauM i) m).getD mZ) (pauM j)).getD mZ) p).getD mZ)).getD dZ) dHf).getD dZ).num.b),vi (((dMulI ((trI ((mulI ((mulI ((mulI (pauM i) m).getD mZ) (pauM j)).getD mZ) p).getD mZ)).getD dZ) dHf).getD dZ).num.c),vi (((dMulI ((trI ((mulI ((mulI ((mulI (pauM i) m).getD mZ) (pauM j)).getD mZ) p).getD mZ)).getD dZ) dHf).getD dZ).num.d),vi (((dMulI ((trI ((mulI ((mulI ((mulI (pauM i) m).getD mZ) (pauM j)).getD mZ) p).getD mZ)).getD dZ) dHf).getD dZ).exp)] Xd e) ?_;rintro _ dL ⟨u,J⟩;have g:=e;have q:=q.only u (by omega);have f:=Below.only f u Q;have e:=J;refine Za rfl ?_;refine Zn fun a L=>?_;exact ⟨L.sub ⟨rfl,X2 rfl (by first|rfl|(simp only [y,B,D,G,bs];done)|simp [y,B,D,G]),trivial⟩,e,q,f⟩
     refine Zp (gP G) ?_;refine Ze (Xc rfl G rfl)<|Zo (Vw [vi (((dMulI ((trI ((mulI ((mulI ((mulI (pauM i) m).getD mZ) (pauM j)).getD mZ) p).getD mZ)).getD dZ) dHf).getD dZ).num.a),vi (((dMulI ((trI ((mulI ((mulI ((mulI (pauM i) m).getD mZ) (pauM j)).getD mZ) p).getD mZ)).getD dZ) dHf).getD dZ).num.b),vi (((dMulI ((trI ((mulI ((mulI ((mulI (pauM i) m).getD mZ) (pauM j)).getD mZ) p).getD mZ)).getD dZ) dHf).getD dZ).num.c),vi (((dMulI ((trI ((mulI ((mulI ((mulI (pauM i) m).getD mZ) (pauM j)).getD mZ) p).getD mZ)).getD dZ) dHf).getD dZ).num.d),vi (((dMulI ((trI ((mulI ((mulI ((mulI (pauM i) m).getD mZ) (pauM j)).getD mZ) p).getD mZ)).getD dZ) dHf).getD dZ).exp)] Xd e) ?_;rintro _ dM ⟨u,J⟩;have g:=e;have q:=q.only u (by omega);have f:=Below.only f u Q;have e:=J;refine Za rfl ?_;refine Zn fun a L=>?_;exact ⟨L.sub ⟨rfl,X2 rfl (by first|rfl|(simp only [y,B,D,G,bs];done)|simp [y,B,D,G]),trivial⟩,e,q,f⟩
    refine Zp (gP D) ?_;refine Ze (Xc rfl D rfl)<|Zm rfl<|Zp (gP rfl) ?_;refine Ze (Xc rfl rfl rfl)<|Zo (Vw [vi (((dMulI ((trI ((mulI ((mulI ((mulI (pauM i) m).getD mZ) (pauM j)).getD mZ) p).getD mZ)).getD dZ) dHf).getD dZ).num.a),vi (((dMulI ((trI ((mulI ((mulI ((mulI (pauM i) m).getD mZ) (pauM j)).getD mZ) p).getD mZ)).getD dZ) dHf).getD dZ).num.b),vi (((dMulI ((trI ((mulI ((mulI ((mulI (pauM i) m).getD mZ) (pauM j)).getD mZ) p).getD mZ)).getD dZ) dHf).getD dZ).num.c),vi (((dMulI ((trI ((mulI ((mulI ((mulI (pauM i) m).getD mZ) (pauM j)).getD mZ) p).getD mZ)).getD dZ) dHf).getD dZ).num.d),vi (((dMulI ((trI ((mulI ((mulI ((mulI (pauM i) m).getD mZ) (pauM j)).getD mZ) p).getD mZ)).getD dZ) dHf).getD dZ).exp)] Xd e) ?_;rintro _ dN ⟨u,J⟩;have g:=e;have q:=q.only u (by omega);have f:=Below.only f u Q;have e:=J;refine Za rfl ?_;refine Zn fun a L=>?_;exact ⟨L.sub ⟨rfl,X2 rfl (by first|rfl|(simp only [y,B,D,bs];done)|simp [y,B,D]),trivial⟩,e,q,f⟩
   refine Zp (gP B) ?_;refine Ze (Xc rfl B rfl)<|Zm rfl<|Zp (gP rfl) ?_;refine Ze (Xc rfl rfl rfl)<|Zm rfl<|Zp (gP rfl) ?_;refine Ze (Xc rfl rfl rfl)<|Zo (Vw [vi (((dMulI ((trI ((mulI ((mulI ((mulI (pauM i) m).getD mZ) (pauM j)).getD mZ) p).getD mZ)).getD dZ) dHf).getD dZ).num.a),vi (((dMulI ((trI ((mulI ((mulI ((mulI (pauM i) m).getD mZ) (pauM j)).getD mZ) p).getD mZ)).getD dZ) dHf).getD dZ).num.b),vi (((dMulI ((trI ((mulI ((mulI ((mulI (pauM i) m).getD mZ) (pauM j)).getD mZ) p).getD mZ)).getD dZ) dHf).getD dZ).num.c),vi (((dMulI ((trI ((mulI ((mulI ((mulI (pauM i) m).getD mZ) (pauM j)).getD mZ) p).getD mZ)).getD dZ) dHf).getD dZ).num.d),vi (((dMulI ((trI ((mulI ((mulI ((mulI (pauM i) m).getD mZ) (pauM j)).getD mZ) p).getD mZ)).getD dZ) dHf).getD dZ).exp)] Xd e) ?_;rintro _ dP ⟨u,J⟩;have g:=e;have q:=q.only u (by omega);have f:=Below.only f u Q;have e:=J;refine Za rfl ?_;refine Zn fun a L=>?_;exact ⟨L.sub ⟨rfl,X2 rfl (by first|rfl|(simp only [y,B,bs];done)|simp [y,B]),trivial⟩,e,q,f⟩
  refine Zp (gP y) ?_;refine Ze (Xc rfl y rfl)<|Zm rfl<|Zp (gP rfl) ?_;refine Ze (Xc rfl rfl rfl)<|Zm rfl<|Zp (gP rfl) ?_;refine Ze (Xc rfl rfl rfl)<|Zm rfl<|Zp (gP rfl) ?_;refine Ze (Xc rfl rfl rfl)<|Zo (Vw [vi (((dMulI ((trI ((mulI ((mulI ((mulI (pauM i) m).getD mZ) (pauM j)).getD mZ) p).getD mZ)).getD dZ) dHf).getD dZ).num.a),vi (((dMulI ((trI ((mulI ((mulI ((mulI (pauM i) m).getD mZ) (pauM j)).getD mZ) p).getD mZ)).getD dZ) dHf).getD dZ).num.b),vi (((dMulI ((trI ((mulI ((mulI ((mulI (pauM i) m).getD mZ) (pauM j)).getD mZ) p).getD mZ)).getD dZ) dHf).getD dZ).num.c),vi (((dMulI ((trI ((mulI ((mulI ((mulI (pauM i) m).getD mZ) (pauM j)).getD mZ) p).getD mZ)).getD dZ) dHf).getD dZ).num.d),vi (((dMulI ((trI ((mulI ((mulI ((mulI (pauM i) m).getD mZ) (pauM j)).getD mZ) p).getD mZ)).getD dZ) dHf).getD dZ).exp)] Xd e) ?_;rintro _ dQ ⟨u,J⟩;have g:=e;have q:=q.only u (by omega);have f:=Below.only f u Q;have e:=J;refine Za rfl ?_;refine Zn fun a L=>?_;exact ⟨L.sub ⟨rfl,X2 rfl (by first|rfl|(simp only [y,bs];done)|simp [y]),trivial⟩,e,q,f⟩
 rintro a dR ⟨L,e,q,f⟩;refine cD _ _ ?_
 refine Q6 (X4 L (X0r L rfl (ResV.cellN (l:=[vi (((dMulI ((trI ((mulI ((mulI ((mulI (pauM i) m).getD mZ) (pauM j)).getD mZ) p).getD mZ)).getD dZ) dHf).getD dZ).num.a),vi (((dMulI ((trI ((mulI ((mulI ((mulI (pauM i) m).getD mZ) (pauM j)).getD mZ) p).getD mZ)).getD dZ) dHf).getD dZ).num.b),vi (((dMulI ((trI ((mulI ((mulI ((mulI (pauM i) m).getD mZ) (pauM j)).getD mZ) p).getD mZ)).getD dZ) dHf).getD dZ).num.c),vi (((dMulI ((trI ((mulI ((mulI ((mulI (pauM i) m).getD mZ) (pauM j)).getD mZ) p).getD mZ)).getD dZ) dHf).getD dZ).num.d),vi (((dMulI ((trI ((mulI ((mulI ((mulI (pauM i) m).getD mZ) (pauM j)).getD mZ) p).getD mZ)).getD dZ) dHf).getD dZ).exp)]) rfl X6 (e.at 0) rfl) rfl) ?_)
 subst b0
 have h9:=Xj7 b1 cM cO aD aE
 injection h9 with h91 h92
 exact ⟨by rw [← h91,← h92],f⟩
theorem Xml(W:World)(m:Mx)(Am:Option Addr)(cm:Nat)(G:Rd W W.heap.size 53 encD Am m.cells)(aN:m.cells.length≤2305843009213693951)(cA:HalfT W) : Ret Tryz.prog 24 [.agg #[vi m.rows,vi m.cols,.slice Am m.cells.length cm]] W (fun v w=>∃ A c1,v=.tuple #[.agg #[.slice A ((blochI m).getD []).length c1],.bool ((blochI m).isSome)]∧Own w W.heap.size 53 5 encD A c1 ((blochI m).getD [])∧Below W.heap.size W w):=by
 refine enter Tryz.func24 rfl 47 rfl rfl ?_;intro a x
 have t:=bz W
 refine Zs x fun _ cB=>?_;refine Zf (X0j (zs:=[vi m.rows,vi m.cols,.slice Am m.cells.length cm]) rfl rfl) ?_;rintro _ w1 ⟨b3,rfl,cC,u,n⟩;have cO:=Q0 t.size cC;have t:=btr t u;refine Zf (X3 (zs:=[.slice none 0 0]) X4k rfl) ?_;rintro _ w2 ⟨b5,rfl,cD,u,f⟩;have aD:=Q0 t.size cD;have n:=n.below u;have t:=btr t u;refine Za rfl<|ZX cB fun a x _ cE=>?_;refine Zs x fun _ cF=>?_;refine Ze (Vn Xr n)<|Zf (Vc (Xww _ m Am cm (G.below' t).top aN) Xpi) ?_;rintro _ w3 ⟨rfl,u⟩;have n:=n.below u;have f:=f.below u;have t:=btr t u;refine Ze (X0o rfl)<|Zt cF fun a x=>?_
 refine Xl x rfl (fun aE=>?_) (fun aE=>?_)
 ·have b1:=aE
  have cG:oneQ m=false:=by simpa using aE
  refine Zs x fun _ cH=>?_;refine Ze (Xg (ps:=[]) (cs:=[.slice none 0 0]) rfl (fun _=>by first|rfl|kernel_rfl))<|Zo (Vw [.slice none 0 0] X2s f) ?_;rintro _ w4 ⟨z,hb⟩;have q:=f;have t:=Below.only t z aD;have f:=hb;refine Za rfl<|Zt cH fun a x=>?_;refine Q6<|Xf<|X4 x (X0r x rfl (ResV.cellN (l:=[.slice none 0 0]) rfl X23 (f.at 0) rfl) rfl) ?_
  have he:blochI m=none:=by rw [blochI,Q3 (by rw [cG];decide)]
  rw [he]
  exact ⟨none,0,rfl,(Own.nil _ _ _ _ _),t⟩
 have b1:=aE
 have aI:oneQ m=true:=by simpa using aE
 obtain ⟨_,cJ,cQ,cR⟩:=X40 aI;refine Q7<|cE _ _<|Zs x fun _ b2=>?_;refine Ze (Vn Xr n)<|Zf (X1d (vs:=[.agg #[vi m.rows,vi m.cols,.slice Am m.cells.length cm]]) rfl Xgx (by have hq:=Xrn w3 m Am cm (G.below' t).top aN;rw [Xb4 cJ,Qq,Option.isSome_some] at hq;exact hq)) ?_;rintro _ w5 ⟨H,aA,rfl,e,u⟩;have e:=e.lower t.size;have n:=n.below u;have f:=f.below u;have t:=btr t u
 obtain ⟨B8,M⟩ : ∃ B8,B8=w5.heap.size:=⟨_,rfl⟩
 have p:B8≤w5.heap.size:=Nat.le_of_eq M
 have aM:W.heap.size≤B8:=by rw [M];exact t.size
 have e:=e.rd.top
 rw [← M] at e
 clear M;refine Zm rfl<|Ze (X1 (vs:=[.agg #[vi ((adjS m).rows),vi ((adjS m).cols),.slice H ((adjS m).cells).length aA],.bool true]) rfl rfl)<|Ze (X1 (vs:=[.agg #[vi ((adjS m).rows),vi ((adjS m).cols),.slice H ((adjS m).cells).length aA],.bool true]) rfl rfl)<|Zf (X3 (zs:=[vi 0,vi 0,.slice none 0 0]) X0y rfl) ?_;rintro _ w6 ⟨b14,rfl,b4,u,g⟩
 have b6:b3≠b14:=by have:=n.lt;omega
 have aO:=Q0 t.size b4;have n:=n.below u;have f:=f.below u;have e:=e.below u;have p:=Q0 p u.size;have t:=btr t u;refine Zo (Vw [vi ((adjS m).rows),vi ((adjS m).cols),.slice H ((adjS m).cells).length aA] X0b g) ?_;rintro _ w7 ⟨z,hb⟩;have q:=g;have n:=n.only z (by omega);have f:=f.only z (Blk.ne f q rfl);have e:=e.onlyT z q rfl;have p:=Q0 p (Nat.le_of_eq z.size.symm);have t:=Below.only t z aO;have g:=hb;refine Za rfl<|Zx b2 fun a x _ b7=>?_;refine Ze (Xg (ps:=[]) (cs:=[.slice none 0 0]) rfl (fun _=>by first|rfl|kernel_rfl))<|Zf (X3 (zs:=[.slice none 0 0]) X4k rfl) ?_;rintro _ w8 ⟨b18,rfl,b8,u,o⟩
 have b9:b5≠b18:=by have:=f.lt;omega
 have aF:=Q0 t.size b8;have n:=n.below u;have f:=f.below u;have g:=g.below u;have e:=e.below u;have p:=Q0 p u.size;have t:=btr t u;refine Zo (Vw [.slice none 0 0] X2s o) ?_;rintro _ w9 ⟨z,hb⟩;have q:=o;have n:=n.only z (Blk.ne n q rfl);have f:=f.only z (by omega);have g:=g.only z (Blk.ne g q rfl);have e:=e.onlyT z q rfl;have p:=Q0 p (Nat.le_of_eq z.size.symm);have t:=Below.only t z aF;have o:=hb;refine ZX b7 fun a x _ bC=>?_;refine Zs x fun _ bD=>?_;refine Zm rfl<|Zt bD fun a x=>?_;refine Q8<|X07 (σ:=Nat×(List Dy)) (fun (s:Nat×(List Dy)) (a:Act) (w:World)=>match s with|(i,l)=>∃ J L,Fr a 47 [(1,.pointer (some ⟨b3,0,none⟩)),(2,.pointer (some ⟨b5,0,none⟩)),(4,.pointer (some ⟨b14,0,none⟩)),(6,.pointer (some ⟨b18,0,none⟩)),(21,vi (i:Int))]∧(i≤3)∧(seqO (gridG (celB m) 3) (i*3)=some l)∧Blk w b3 29 [vi m.rows,vi m.cols,.slice Am m.cells.length cm]∧Blk w b5 58 [.slice none 0 0]∧Blk w b14 29 [vi ((adjS m).rows),vi ((adjS m).cols),.slice H ((adjS m).cells).length aA]∧Blk w b18 58 [.slice J l.length L]∧Rd w B8 53 encD H ((adjS m).cells)∧Own w B8 53 5 encD J L l∧B8≤w.heap.size∧Below W.heap.size W w) (fun (s:Nat×(List Dy))=>match s with|(i,l)=>3-i) (0,[]) ?_ ?_
 ·exact ⟨none,0,x.sb,(by omega),(by rw [Nat.zero_mul];rfl),n,f,g,o,e,(Own.nil _ _ _ _ _),p,t⟩
 rintro ⟨i,l⟩ a cS ⟨J,L,x,hi,hl,n,f,g,o,e,N,p,t⟩;refine Zs x fun _ bE=>?_;refine Ze (X1h rfl rfl)<|ZX bE fun a x _ bF=>?_
 refine Xl x rfl (fun h=>?_) (fun h=>?_)
 ·have aP:=h;have h:=Q2 h
  have aQ:i<3:=by have:=h;omega
  refine Q7<|bF _ _<|Q5 fun _ bG=>?_;refine Q8<|Zs x fun _ bH=>?_;refine Zm rfl<|Za rfl<|Zx bH fun a x _ bI=>?_;refine Zm rfl<|Zt bI fun a x=>?_;refine Q8<|X07 (σ:=Nat×(List Dy)) (fun (s:Nat×(List Dy)) (a:Act) (w:World)=>match s with|(j,l2)=>∃ aJ aK,Fr a 47 [(1,.pointer (some ⟨b3,0,none⟩)),(2,.pointer (some ⟨b5,0,none⟩)),(4,.pointer (some ⟨b14,0,none⟩)),(6,.pointer (some ⟨b18,0,none⟩)),(7,vi (i:Int)),(21,vi (i:Int)),(24,vi (j:Int))]∧(j≤3)∧(seqO (gridG (celB m) 3) (i*3+j)=some l2)∧Blk w b3 29 [vi m.rows,vi m.cols,.slice Am m.cells.length cm]∧Blk w b5 58 [.slice none 0 0]∧Blk w b14 29 [vi ((adjS m).rows),vi ((adjS m).cols),.slice H ((adjS m).cells).length aA]∧Blk w b18 58 [.slice aJ l2.length aK]∧Rd w B8 53 encD H ((adjS m).cells)∧Own w B8 53 5 encD aJ aK l2∧B8≤w.heap.size∧Below W.heap.size W w) (fun (s:Nat×(List Dy))=>match s with|(j,l2)=>3-j) (0,l) ?_ ?_
  ·exact ⟨J,L,x.sb,(by omega),hl,n,f,g,o,e,N,p,t⟩
  rintro ⟨j,l2⟩ a cU ⟨aJ,aK,x,hj,aL,n,f,g,o,e,y,p,t⟩;refine Zs x fun _ bJ=>?_;refine Ze (X1h rfl rfl)<|ZX bJ fun a x _ bK=>?_
  refine Xl x rfl (fun B=>?_) (fun B=>?_)
  ·have aR:=B;have B:=Q2 B
   have aS:j<3:=by have:=B;omega
   have cP:=X35 aL;refine Q7<|bK _ _<|Q5 fun _ bL=>?_;refine Q8<|Zs x fun _ bM=>?_;refine Zm rfl<|Za rfl<|Zx bM fun a x _ bN=>?_;refine Ze (Vn Xr n)<|Ze (Vn Xr g)<|Zm rfl<|Zm rfl<|Zf (Vc (Xyy _ m Am cm (G.below' t).top (adjS m) H aA e.top i j aN aI rfl aQ aS (cA.of t)) Xpl) ?_;rintro _ cV ⟨rfl,u⟩;have n:=n.below u;have f:=f.below u;have g:=g.below u;have o:=o.below u;have e:=e.below u;have y:=y.below u;have p:=Q0 p u.size;have t:=btr t u;refine Zm rfl<|Ze (X1 (vs:=[.agg #[vi (((celB m i j).getD dZ).num.a),vi (((celB m i j).getD dZ).num.b),vi (((celB m i j).getD dZ).num.c),vi (((celB m i j).getD dZ).num.d),vi (((celB m i j).getD dZ).exp)],.bool ((celB m i j).isSome)]) rfl rfl)<|Ze (X1 (vs:=[.agg #[vi (((celB m i j).getD dZ).num.a),vi (((celB m i j).getD dZ).num.b),vi (((celB m i j).getD dZ).num.c),vi (((celB m i j).getD dZ).num.d),vi (((celB m i j).getD dZ).exp)],.bool ((celB m i j).isSome)]) rfl rfl)<|Zf (X3 (zs:=[vi 0,vi 0,vi 0,vi 0,vi 0]) X0n rfl) ?_;rintro _ cW ⟨cK,rfl,Q,u,C⟩;have aT:=Q0 t.size Q;have bO:=(G.below' t).away Q;have aB:=e.away Q;have E:=y.away Q;have n:=n.below u;have f:=f.below u;have g:=g.below u;have o:=o.below u;have e:=e.below u;have y:=y.below u;have p:=Q0 p u.size;have t:=btr t u;refine Zo (Vw [vi (((celB m i j).getD dZ).num.a),vi (((celB m i j).getD dZ).num.b),vi (((celB m i j).getD dZ).num.c),vi (((celB m i j).getD dZ).num.d),vi (((celB m i j).getD dZ).exp)] Xd C) ?_;rintro _ cX ⟨z,hb⟩;have q:=C;have n:=n.only z (Blk.ne n q rfl);have f:=f.only z (Blk.ne f q rfl)
   have g:=g.only z (Blk.ne g q rfl);have o:=o.only z (Blk.ne o q rfl);have e:=e.onlyA z aB;have y:=y.onlyA z E;have p:=Q0 p (Nat.le_of_eq z.size.symm);have t:=Below.only t z aT;have C:=hb;refine Za rfl<|ZX bN fun a x _ bP=>?_;refine Zs x fun _ bQ=>?_;refine Zm rfl<|Ze (X0o rfl)<|Zt bQ fun a x=>?_
   refine Xl x rfl (fun I=>?_) (fun I=>?_)
   ·have aU:=I
    have hn:gridG (celB m) 3 (i*3+j)=none:=by rw [X3a (by omega)];have h9:=I;revert h9;cases celB m i j<;>simp
    refine Zs x fun _ bR=>?_;refine Ze (Xg (ps:=[]) (cs:=[.slice none 0 0]) rfl (fun _=>by first|rfl|kernel_rfl))<|Zo (Vw [.slice none 0 0] X2s f) ?_;rintro _ d5 ⟨z,hb⟩;have q:=f;have p:=Q0 p (Nat.le_of_eq z.size.symm);have t:=Below.only t z aD;have f:=hb;refine Za rfl<|Zt bR fun a x=>?_;refine Q6<|Xf<|X05<|Xf ?_;refine Xf<|X05<|X05<|Xf ?_;refine Xf<|X05<|Xf<|X4 x (X0r x rfl (ResV.cellN (l:=[.slice none 0 0]) rfl X23 (f.at 0) rfl) rfl) ?_
    have he:blochI m=none:=by rw [blochI,Q4 aI];exact X4z hn 9 (by omega)
    rw [he]
    exact ⟨none,0,rfl,(Own.nil _ _ _ _ _),t⟩
   have aU:=I
   have hx:gridG (celB m) 3 (i*3+j)=some ((celB m i j).getD dZ):=by rw [X3a (by omega)];have h9:=I;revert h9;cases celB m i j<;>simp
   refine Q7<|bP _ _<|Zr x<|Ze (Vd rfl X1e 0)<|Ze (X0 rfl X0p (o.at 0))<|Ze (Vn X6 C)<|Zf (Xb (k:=1) (vs:=[.agg #[vi (((celB m i j).getD dZ).num.a),vi (((celB m i j).getD dZ).num.b),vi (((celB m i j).getD dZ).num.c),vi (((celB m i j).getD dZ).num.d),vi (((celB m i j).getD dZ).exp)]]) (zs:=[vi (((celB m i j).getD dZ).num.a),vi (((celB m i j).getD dZ).num.b),vi (((celB m i j).getD dZ).num.c),vi (((celB m i j).getD dZ).num.d),vi (((celB m i j).getD dZ).exp)]) rfl X01 X13 rfl rfl) ?_;rintro _ d6 ⟨b41,rfl,U,u,aG⟩
   have aX:cK≠b41:=by have:=C.lt;omega
   have cM:=Q0 t.size U;have bS:=(G.below' t).away U;have aY:=e.away U;have aC:=y.away U;have n:=n.below u;have f:=f.below u;have g:=g.below u;have o:=o.below u;have C:=C.below u;have e:=e.below u;have y:=y.below u;have p:=Q0 p u.size;have t:=btr t u;refine Zf (X0q (enc:=encD) (l:=(l2)) (l2:=([((celB m i j).getD dZ)])) (B0:=B8) rfl rfl X01 X13 X06 X2h y (Rd.of_blk aG rfl _ aG.lt) (by simp only [maxLen];simp;omega) (by simp;omega) p) ?_;rintro _ d7 ⟨bU,bW,rfl,aH,hg,aW⟩
   have D:Own _ B8 53 5 encD _ _ (l2):=y
   have aZ:=aW _ C.lt E;have b0:=aW _ aG.lt aC;clear aW;have n:=n.appT D hg rfl;have f:=f.appT D hg rfl;have g:=g.appT D hg rfl;have o:=o.appT D hg rfl;have e:=e.appB D hg (Qb _);have p:=Q0 p hg.size;have t:=Below.app t D hg aM t.size;clear D hg;refine Ze (Vd rfl X1e 0)<|Zo (Vw [.slice bU (l2++([((celB m i j).getD dZ)])).length bW] X4a o) ?_;rintro _ d8 ⟨z,hb⟩;have q:=o;have n:=n.only z (Blk.ne n q rfl);have f:=f.only z (by omega);have g:=g.only z (Blk.ne g q rfl);have e:=e.onlyT z q rfl;have aH:=aH.onlyT z q rfl;have p:=Q0 p (Nat.le_of_eq z.size.symm);have t:=Below.only t z aF;have o:=hb;refine Zn fun a x=>?_;refine Xn<|bL _ _<|Zr x<|Ze (X03 rfl rfl (by omega) (by omega))<|Zm rfl ?_;refine Zn fun a x=>?_;refine Xo ?_;exact ⟨(j+1,l2++[((celB m i j).getD dZ)]),⟨bU,bW,x.sb,(by omega),(X4n aL hx),n,f,g,o,e,aH,p,t⟩,(by first|omega|(dsimp only;omega))⟩
  have aR:=B;have B:=Q1 B
  have aS:j=3:=by have:=B;omega
  refine Q9<|Xm<|Xm<|X08 ?_;refine Xn<|bG _ _<|Zr x<|Ze (X03 rfl rfl (by omega) (by omega))<|Zm rfl ?_;refine Zn fun a x=>?_;refine Xo ?_;exact ⟨(i+1,l2),⟨aJ,aK,x.sb,(by omega),(by rw [Wb,Nat.one_mul];rw [aS] at aL;exact aL),n,f,g,o,e,y,p,t⟩,(by first|omega|(dsimp only;omega))⟩
 have aP:=h;have h:=Q1 h
 have aQ:i=3:=by have:=h;omega
 refine Q9<|Xm<|Xm<|X08 ?_;refine bC _ _<|Zs x fun _ bZ=>?_;refine Ze (Vn X23 o)<|Zo (Vw [.slice J l.length L] X2s f) ?_;rintro _ d9 ⟨z,hb⟩;have q:=f;have N:=N.onlyT z q rfl;have p:=Q0 p (Nat.le_of_eq z.size.symm);have t:=Below.only t z aD;have f:=hb;refine Za rfl<|Zt bZ fun a x=>?_
 refine Q6 (X4 x (X0r x rfl (ResV.cellN (l:=[.slice J l.length L]) rfl X23 (f.at 0) rfl) rfl) ?_)
 have he:blochI m=some l:=by rw [blochI,Q4 aI];rw [aQ] at hl;exact hl
 rw [he]
 exact ⟨J,L,rfl,Own.lower N aM,t⟩
theorem at9{l:List Dy}(h:l.length=9){i j:Nat}(hi:i<3)(hj:j<3) : l[3*i+j]? = some ((bm3 l).at i j):=by
 show _=some (l.getD (i*3+j) dZ)
 rw [Wi 3 i,Qa,Qc (by omega)];rfl
theorem Xin{l:List Dy}{k:Nat}{u:Dy}(h:l[k]? = some u) : bexp (l.take (k+1))=max (bexp (l.take k)) u.exp:=by
 unfold bexp
 rw [Qt,h,List.foldl_append];rfl
def reaB(x:Dy) : Bool:=dOk x&&x.num.c==0&&x.num.d==wr (-x.num.b)
theorem Xc4(a:List Dy) : (trB a).length=9:=X2p _ _ _
theorem Xja(Q:World)(Ap:Option Addr)(cp:Nat)(p:List Dy)(H:Rd Q Q.heap.size 53 encD Ap p)(Aq:Option Addr)(cq:Nat)(q:List Dy)(I:Rd Q Q.heap.size 53 encD Aq q)(dI:p.length=9)(dJ:q.length=9) : Ret Tryz.prog 58 [.slice Ap p.length cp,.slice Aq q.length cq] Q (fun v w=>∃ A c1,v=.tuple #[.slice A ((mulBI p q).getD []).length c1,.bool ((mulBI p q).isSome)]∧Own w Q.heap.size 53 5 encD A c1 ((mulBI p q).getD [])∧Below Q.heap.size Q w):=by
 refine enter Tryz.func58 rfl 65 rfl rfl ?_;intro a g
 have m:=bz Q
 refine Zs g fun _ dK=>?_;refine Za rfl<|Za rfl<|Zx dK fun a g _ dL=>?_;refine Zf (Xb (k:=0) (vs:=[]) (zs:=[]) rfl X01 X13 rfl rfl) ?_;rintro _ w1 ⟨b6,rfl,b7,o,dM⟩;have bW:=Q0 m.size b7;have dG:=(H.below' m).away b7;have dH:=(I.below' m).away b7;have m:=btr m o;refine Za rfl<|ZX dL fun a g _ dN=>?_;refine Zs g fun _ dP=>?_;refine Zm rfl<|Zt dP fun a g=>?_;refine Q8<|X07 (σ:=Nat×(List Dy)) (fun (s:Nat×(List Dy)) (a:Act) (w:World)=>match s with|(i,l)=>∃ aP aQ,Fr a 65 [(0,.slice Ap p.length cp),(1,.slice Aq q.length cq),(6,.slice aP l.length aQ),(16,vi (i:Int))]∧(i≤3)∧(seqO (gridG (fun i j=>dotI (bm3 p) (bm3 q) i j 3) 3) (i*3)=some l)∧Own w Q.heap.size 53 5 encD aP aQ l∧Below Q.heap.size Q w) (fun (s:Nat×(List Dy))=>match s with|(i,l)=>3-i) (0,[]) ?_ ?_
 ·exact ⟨some ⟨b6,0,none⟩,0,g.sb,(by omega),(by rw [Nat.zero_mul];rfl),(Own.empty dM bW),m⟩
 rintro ⟨i,l⟩ a w2 ⟨aP,aQ,g,hi,hl,b3,m⟩;refine Zs g fun _ bZ=>?_;refine Ze (X1h rfl rfl)<|ZX bZ fun a g _ cA=>?_
 refine Xl g rfl (fun B=>?_) (fun B=>?_)
 ·have J:=B;have B:=Q2 B
  have b8:i<3:=by have:=B;omega
  refine Q7<|cA _ _<|Q5 fun _ cB=>?_;refine Q8<|Zs g fun _ cC=>?_;refine Zm rfl<|Za rfl<|Zx cC fun a g _ cD=>?_;refine Zm rfl<|Zt cD fun a g=>?_;refine Q8<|X07 (σ:=Nat×(List Dy)) (fun (s:Nat×(List Dy)) (a:Act) (w:World)=>match s with|(j,l2)=>∃ U aC,Fr a 65 [(0,.slice Ap p.length cp),(1,.slice Aq q.length cq),(6,.slice U l2.length aC),(7,vi (i:Int)),(16,vi (i:Int)),(19,vi (j:Int))]∧(j≤3)∧(seqO (gridG (fun i j=>dotI (bm3 p) (bm3 q) i j 3) 3) (i*3+j)=some l2)∧Own w Q.heap.size 53 5 encD U aC l2∧Below Q.heap.size Q w) (fun (s:Nat×(List Dy))=>match s with|(j,l2)=>3-j) (0,l) ?_ ?_
  ·exact ⟨aP,aQ,g.sb,(by omega),hl,b3,m⟩
  rintro ⟨j,l2⟩ a w3 ⟨U,aC,g,hj,b1,e,m⟩;refine Zs g fun _ cE=>?_;refine Ze (X1h rfl rfl)<|ZX cE fun a g _ cF=>?_
  refine Xl g rfl (fun C=>?_) (fun C=>?_)
  ·have L:=C;have C:=Q2 C
   have aR:j<3:=by have:=C;omega
   have dY:=X35 b1;refine Q7<|cF _ _<|Q5 fun _ cG=>?_;refine Q8<|Zs g fun _ cH=>?_;refine Zm rfl<|Za rfl<|Zx cH fun a g _ cJ=>?_;refine Ze (Xg (ps:=[]) (cs:=[vi 0,vi 0,vi 0,vi 0,vi 0]) rfl (fun _=>by first|rfl|kernel_rfl))<|Zf (X3 (zs:=[vi 0,vi 0,vi 0,vi 0,vi 0]) X0n rfl) ?_;rintro _ w4 ⟨M,rfl,aF,o,f⟩;have aS:=Q0 m.size aF;have G:=e.away aF;have cK:=(H.below' m).away aF;have cM:=(I.below' m).away aF;have e:=e.below o;have m:=btr m o;refine Zo (Vw [vi 0,vi 0,vi 0,vi 0,vi 0] Xd f) ?_;rintro _ w5 ⟨ho,hb⟩;have aT:=f;have e:=e.onlyA ho G;have m:=Below.only m ho aS;have f:=hb;refine ZX cJ fun a g _ cO=>?_;refine Zs g fun _ cP=>?_;refine Zm rfl<|Zt cP fun a g=>?_;refine Q8<|X07 (σ:=Nat×Dy) (fun (s:Nat×Dy) (a:Act) (w:World)=>match s with|(k,s)=>Fr a 65 [(0,.slice Ap p.length cp),(1,.slice Aq q.length cq),(6,.slice U l2.length aC),(7,vi (i:Int)),(8,vi (j:Int)),(9,.pointer (some ⟨M,0,none⟩)),(16,vi (i:Int)),(19,vi (j:Int)),(23,vi (k:Int))]∧(k≤3)∧(dotI (bm3 p) (bm3 q) i j k=some s)∧Blk w M 53 [vi s.num.a,vi s.num.b,vi s.num.c,vi s.num.d,vi s.exp]∧Own w Q.heap.size 53 5 encD U aC l2∧Below Q.heap.size Q w) (fun (s:Nat×Dy)=>match s with|(k,s)=>3-k) (0,dZ) ?_ ?_
   ·exact ⟨g.sb,(by omega),rfl,f,e,m⟩
   rintro ⟨k,s⟩ a w6 ⟨g,hk,hs,f,e,m⟩;refine Zs g fun _ cQ=>?_;refine Ze (X1h rfl rfl)<|ZX cQ fun a g _ cR=>?_
   refine Xl g rfl (fun D=>?_) (fun D=>?_)
   ·have N:=D;have D:=Q2 D
    have b2:k<3:=by have:=D;omega
    refine Q7<|cR _ _<|Q5 fun _ cS=>?_;refine Q8<|Zs g fun _ cU=>?_;refine Zm rfl<|Za rfl<|ZX cU fun a g _ cV=>?_;refine X02 (fun a w=>∃ t,Fr a 65 [(0,.slice Ap p.length cp),(1,.slice Aq q.length cq),(6,.slice U l2.length aC),(7,vi (i:Int)),(8,vi (j:Int)),(9,.pointer (some ⟨M,0,none⟩)),(11,.pointer (some ⟨t,0,none⟩)),(12,.bool ((dMulI ((bm3 p).at i k) ((bm3 q).at k j)).isSome)),(16,vi (i:Int)),(19,vi (j:Int)),(23,vi (k:Int))]∧Q.heap.size≤t∧Blk w t 53 [vi (((dMulI ((bm3 p).at i k) ((bm3 q).at k j)).getD dZ).num.a),vi (((dMulI ((bm3 p).at i k) ((bm3 q).at k j)).getD dZ).num.b),vi (((dMulI ((bm3 p).at i k) ((bm3 q).at k j)).getD dZ).num.c),vi (((dMulI ((bm3 p).at i k) ((bm3 q).at k j)).getD dZ).num.d),vi (((dMulI ((bm3 p).at i k) ((bm3 q).at k j)).getD dZ).exp)]∧M≠t∧Below w6.heap.size w6 w) ?_ ?_
    ·have x:Below w6.heap.size w6 w6:=Below.refl _ _
     refine Xz none (fun j=>[19].contains j) mixed ?_;intro w7 o;have f:=f.below o;have e:=e.below o;have m:=btr m o;have x:=btr x o;refine Yb g<|Yo 0 rfl (fun _=>X7 rfl)<|Yo 1 rfl (fun _=>X7 rfl)<|Yo 2 rfl (fun _=>X7x rfl rfl (by omega) (by omega))<|Yo 3 rfl (fun _=>X7 rfl)<|Yo 4 rfl (fun _=>X03 rfl rfl (by omega) (by omega))<|Yi (k:=(3*i+k)) (u:=((bm3 p).at i k)) (enc:=encD) (l:=p) 5 rfl trivial rfl rfl X01 Xd X06 (H.below' m) (at9 dI b8 b2) (by omega) ?_;intro e7 b9;refine Ye 6 rfl (X09 (l:=[vi (((bm3 p).at i k).num.a),vi (((bm3 p).at i k).num.b),vi (((bm3 p).at i k).num.c),vi (((bm3 p).at i k).num.d),vi (((bm3 p).at i k).exp)]) rfl X6 b9 rfl)<|Yo 7 rfl (fun _=>X7 rfl)<|Yo 8 rfl (fun _=>X7 rfl)<|Yo 9 rfl (fun _=>X7x rfl rfl (by omega) (by omega))<|Yo 10 rfl (fun _=>X7 rfl)<|Yo 11 rfl (fun _=>X03 rfl rfl (by omega) (by omega))<|Yi (k:=(3*k+j)) (u:=((bm3 q).at k j)) (enc:=encD) (l:=q) 12 rfl trivial rfl rfl X01 Xd X06 (I.below' m) (at9 dJ b2 aR) (by omega) ?_;intro e8 bC;refine Ye 13 rfl (X09 (l:=[vi (((bm3 q).at k j).num.a),vi (((bm3 q).at k j).num.b),vi (((bm3 q).at k j).num.c),vi (((bm3 q).at k j).num.d),vi (((bm3 q).at k j).exp)]) rfl X6 bC rfl) ?_
     have z:Below w7.heap.size w7 w7:=Below.refl _ _
     refine Yc [0,1,2,3,4,5,6,7,8,9,10,11,12,13,14,15,16,17,18] 2 (fun a w=>∃ t,Fr a 65 [(0,.slice Ap p.length cp),(1,.slice Aq q.length cq),(6,.slice U l2.length aC),(7,vi (i:Int)),(8,vi (j:Int)),(9,.pointer (some ⟨M,0,none⟩)),(11,.pointer (some ⟨t,0,none⟩)),(16,vi (i:Int)),(19,vi (j:Int)),(23,vi (k:Int)),(42,.agg #[vi (((dMulI ((bm3 p).at i k) ((bm3 q).at k j)).getD dZ).num.a),vi (((dMulI ((bm3 p).at i k) ((bm3 q).at k j)).getD dZ).num.b),vi (((dMulI ((bm3 p).at i k) ((bm3 q).at k j)).getD dZ).num.c),vi (((dMulI ((bm3 p).at i k) ((bm3 q).at k j)).getD dZ).num.d),vi (((dMulI ((bm3 p).at i k) ((bm3 q).at k j)).getD dZ).exp)]),(43,.bool ((dMulI ((bm3 p).at i k) ((bm3 q).at k j)).isSome))]∧Q.heap.size≤t∧Blk w t 53 [vi 0,vi 0,vi 0,vi 0,vi 0]∧M≠t∧w7.heap.size≤t∧w6.heap.size≤t∧Away U t∧AwayR p Ap t∧AwayR q Aq t∧Below w7.heap.size w7 w) ?_ ?_
     ·rintro a w8 ⟨t,g,aE,E,W,bD,bE,bO,cW,cX,o⟩;clear z;have z:=o;have m:=btr m o;have x:=btr x o;refine Yb g<|Y1 19<|Yh rfl trivial rfl (Vw [vi (((dMulI ((bm3 p).at i k) ((bm3 q).at k j)).getD dZ).num.a),vi (((dMulI ((bm3 p).at i k) ((bm3 q).at k j)).getD dZ).num.b),vi (((dMulI ((bm3 p).at i k) ((bm3 q).at k j)).getD dZ).num.c),vi (((dMulI ((bm3 p).at i k) ((bm3 q).at k j)).getD dZ).num.d),vi (((dMulI ((bm3 p).at i k) ((bm3 q).at k j)).getD dZ).exp)] Xd E) ?_;rintro _ w9 ⟨ho,hb⟩;have aT:=E;have x:=Below.only x ho bE;have z:=Below.only z ho bD;have m:=Below.only m ho aE;have E:=hb;refine Yo 20 rfl (fun _=>X0i rfl) ?_;refine Yd fun a g=>?_
      have dQ:Below w6.heap.size w6 w9:=x
      exact ⟨t,g.sb,aE,E,W,dQ⟩
     intro b4;refine Y2 14 18 ?_ ?_
     ·refine Yk rfl trivial (Vc (Xas _ ((bm3 p).at i k) ((bm3 q).at k j)) X4l) (fun _ _ ⟨_,o⟩=>o) ?_;rintro _ eA ⟨rfl,o⟩;have f:=f.below o;have e:=e.below o;have m:=btr m o;have x:=btr x o;have z:=btr z o;refine Yo 15 rfl (fun _=>X7 rfl)<|Yo 16 rfl (fun _=>X1 (vs:=[.agg #[vi (((dMulI ((bm3 p).at i k) ((bm3 q).at k j)).getD dZ).num.a),vi (((dMulI ((bm3 p).at i k) ((bm3 q).at k j)).getD dZ).num.b),vi (((dMulI ((bm3 p).at i k) ((bm3 q).at k j)).getD dZ).num.c),vi (((dMulI ((bm3 p).at i k) ((bm3 q).at k j)).getD dZ).num.d),vi (((dMulI ((bm3 p).at i k) ((bm3 q).at k j)).getD dZ).exp)],.bool ((dMulI ((bm3 p).at i k) ((bm3 q).at k j)).isSome)]) rfl rfl)<|Yo 17 rfl (fun _=>X1 (vs:=[.agg #[vi (((dMulI ((bm3 p).at i k) ((bm3 q).at k j)).getD dZ).num.a),vi (((dMulI ((bm3 p).at i k) ((bm3 q).at k j)).getD dZ).num.b),vi (((dMulI ((bm3 p).at i k) ((bm3 q).at k j)).getD dZ).num.c),vi (((dMulI ((bm3 p).at i k) ((bm3 q).at k j)).getD dZ).num.d),vi (((dMulI ((bm3 p).at i k) ((bm3 q).at k j)).getD dZ).exp)],.bool ((dMulI ((bm3 p).at i k) ((bm3 q).at k j)).isSome)]) rfl rfl)<|Y1 18 ?_;refine Yk rfl trivial (X3 (zs:=[vi 0,vi 0,vi 0,vi 0,vi 0]) X0n rfl) (fun _ _ ⟨_,_,_,h,_⟩=>h) ?_;rintro _ eB ⟨b39,rfl,aA,o,d5⟩
      have aJ:M≠b39:=by have:=f.lt;omega
      have bF:=Q0 m.size aA;have bG:=Q0 x.size aA;have bH:=Q0 z.size aA;have aK:=e.away aA;have aU:=(H.below' m).away aA;have aW:=(I.below' m).away aA;have m:=btr m o;have x:=btr x o;have z:=btr z o;exact fun a g=>b4 _ a _ rfl ⟨b39,g.sb,bF,d5,aJ,bH,bG,aK,aU,aW,z⟩
     refine Yk rfl trivial (X3 (zs:=[vi 0,vi 0,vi 0,vi 0,vi 0]) X0n rfl) (fun _ _ ⟨_,_,_,h,_⟩=>h) ?_;rintro _ eC ⟨b40,rfl,aB,o,aX⟩
     have aL:M≠b40:=by have:=f.lt;omega
     have bI:=Q0 m.size aB;have bJ:=Q0 x.size aB;have bK:=Q0 z.size aB;have aM:=e.away aB;have aY:=(H.below' m).away aB;have aZ:=(I.below' m).away aB;have m:=btr m o;have x:=btr x o;have z:=btr z o;refine Y1 14<|Yk rfl trivial (Vc (Xas _ ((bm3 p).at i k) ((bm3 q).at k j)) X4l) (fun _ _ ⟨_,o⟩=>o) ?_;rintro _ eD ⟨rfl,o⟩;have aX:=aX.below o;have m:=btr m o;have x:=btr x o;have z:=btr z o;refine Yo 15 rfl (fun _=>X7 rfl)<|Yo 16 rfl (fun _=>X1 (vs:=[.agg #[vi (((dMulI ((bm3 p).at i k) ((bm3 q).at k j)).getD dZ).num.a),vi (((dMulI ((bm3 p).at i k) ((bm3 q).at k j)).getD dZ).num.b),vi (((dMulI ((bm3 p).at i k) ((bm3 q).at k j)).getD dZ).num.c),vi (((dMulI ((bm3 p).at i k) ((bm3 q).at k j)).getD dZ).num.d),vi (((dMulI ((bm3 p).at i k) ((bm3 q).at k j)).getD dZ).exp)],.bool ((dMulI ((bm3 p).at i k) ((bm3 q).at k j)).isSome)]) rfl rfl)<|Yo 17 rfl (fun _=>X1 (vs:=[.agg #[vi (((dMulI ((bm3 p).at i k) ((bm3 q).at k j)).getD dZ).num.a),vi (((dMulI ((bm3 p).at i k) ((bm3 q).at k j)).getD dZ).num.b),vi (((dMulI ((bm3 p).at i k) ((bm3 q).at k j)).getD dZ).num.c),vi (((dMulI ((bm3 p).at i k) ((bm3 q).at k j)).getD dZ).num.d),vi (((dMulI ((bm3 p).at i k) ((bm3 q).at k j)).getD dZ).exp)],.bool ((dMulI ((bm3 p).at i k) ((bm3 q).at k j)).isSome)]) rfl rfl) ?_;exact fun a g=>b4 _ a _ rfl ⟨b40,g.sb,bI,aX,aL,bK,bJ,aM,aY,aZ,z⟩
    rintro a eE ⟨t,g,aE,E,W,o⟩;have f:=f.below o;have e:=e.below o;have m:=btr m o;refine cV _ _<|Zs g fun _ d6=>?_;refine Ze (Vn X6 f)<|Ze (Vn X6 E)<|Zf (Vc (Xqe _ s ((dMulI ((bm3 p).at i k) ((bm3 q).at k j)).getD dZ)) Xca) ?_;rintro _ eF ⟨rfl,o⟩;have f:=f.below o;have E:=E.below o;have e:=e.below o;have m:=btr m o;refine Zm rfl<|Ze (X1 (vs:=[.agg #[vi (((dAddI s ((dMulI ((bm3 p).at i k) ((bm3 q).at k j)).getD dZ)).getD dZ).num.a),vi (((dAddI s ((dMulI ((bm3 p).at i k) ((bm3 q).at k j)).getD dZ)).getD dZ).num.b),vi (((dAddI s ((dMulI ((bm3 p).at i k) ((bm3 q).at k j)).getD dZ)).getD dZ).num.c),vi (((dAddI s ((dMulI ((bm3 p).at i k) ((bm3 q).at k j)).getD dZ)).getD dZ).num.d),vi (((dAddI s ((dMulI ((bm3 p).at i k) ((bm3 q).at k j)).getD dZ)).getD dZ).exp)],.bool ((dAddI s ((dMulI ((bm3 p).at i k) ((bm3 q).at k j)).getD dZ)).isSome)]) rfl rfl)<|Ze (X1 (vs:=[.agg #[vi (((dAddI s ((dMulI ((bm3 p).at i k) ((bm3 q).at k j)).getD dZ)).getD dZ).num.a),vi (((dAddI s ((dMulI ((bm3 p).at i k) ((bm3 q).at k j)).getD dZ)).getD dZ).num.b),vi (((dAddI s ((dMulI ((bm3 p).at i k) ((bm3 q).at k j)).getD dZ)).getD dZ).num.c),vi (((dAddI s ((dMulI ((bm3 p).at i k) ((bm3 q).at k j)).getD dZ)).getD dZ).num.d),vi (((dAddI s ((dMulI ((bm3 p).at i k) ((bm3 q).at k j)).getD dZ)).getD dZ).exp)],.bool ((dAddI s ((dMulI ((bm3 p).at i k) ((bm3 q).at k j)).getD dZ)).isSome)]) rfl rfl)<|Zf (X3 (zs:=[vi 0,vi 0,vi 0,vi 0,vi 0]) X0n rfl) ?_;rintro _ eH ⟨b42,rfl,aG,o,aH⟩
    have bP:M≠b42:=by have:=f.lt;omega
    have bQ:t≠b42:=by have:=E.lt;omega
    have bL:=Q0 m.size aG;have aN:=e.away aG;have d7:=(H.below' m).away aG;have d8:=(I.below' m).away aG;have f:=f.below o;have e:=e.below o;have m:=btr m o;refine Zo (Vw [vi (((dAddI s ((dMulI ((bm3 p).at i k) ((bm3 q).at k j)).getD dZ)).getD dZ).num.a),vi (((dAddI s ((dMulI ((bm3 p).at i k) ((bm3 q).at k j)).getD dZ)).getD dZ).num.b),vi (((dAddI s ((dMulI ((bm3 p).at i k) ((bm3 q).at k j)).getD dZ)).getD dZ).num.c),vi (((dAddI s ((dMulI ((bm3 p).at i k) ((bm3 q).at k j)).getD dZ)).getD dZ).num.d),vi (((dAddI s ((dMulI ((bm3 p).at i k) ((bm3 q).at k j)).getD dZ)).getD dZ).exp)] Xd aH) ?_;rintro _ dR ⟨ho,hb⟩;have aT:=aH;have f:=f.only ho (by omega);have e:=e.onlyA ho aN;have m:=Below.only m ho bL;have aH:=hb;refine Za rfl<|ZX d6 fun a g _ d9=>?_;refine Q5 fun _ dA=>?_;refine X02 (fun a w=>Fr a 65 [(0,.slice Ap p.length cp),(1,.slice Aq q.length cq),(6,.slice U l2.length aC),(7,vi (i:Int)),(8,vi (j:Int)),(9,.pointer (some ⟨M,0,none⟩)),(13,.pointer (some ⟨b42,0,none⟩)),(16,vi (i:Int)),(19,vi (j:Int)),(23,vi (k:Int)),(55,.bool ((!((dMulI ((bm3 p).at i k) ((bm3 q).at k j)).isSome))||(!((dAddI s ((dMulI ((bm3 p).at i k) ((bm3 q).at k j)).getD dZ)).isSome))))]∧dR=w) ?_ ?_
    ·refine Zr g<|Zm rfl<|Ze (X0o rfl)<|Zm rfl ?_
     refine Zg 52 rfl (fun y=>?_) (fun y=>?_)
     ·refine Zp (gP y) ?_;refine Zp (gP y) ?_;refine Ze (Xe rfl y rfl) ?_;refine Zn fun a g=>?_;exact ⟨g.sub ⟨rfl,rfl,rfl,rfl,rfl,rfl,rfl,rfl,rfl,rfl,X2 rfl (by first|rfl|(simp only [J,L,N,y,bs];done)|simp [J,L,N,y]),trivial⟩,rfl⟩
     refine Zv (gW y) (X7 rfl) ?_;refine Zv (gW y) (X0o rfl) ?_;refine Ze (Xc rfl y rfl) ?_;refine Zn fun a g=>?_;exact ⟨g.sub ⟨rfl,rfl,rfl,rfl,rfl,rfl,rfl,rfl,rfl,rfl,X2 rfl (by first|rfl|(simp only [J,L,N,y,bs];done)|simp [J,L,N,y]),trivial⟩,rfl⟩
    rintro a _ ⟨g,rfl⟩;refine dA _ _ ?_
    refine Xl g rfl (fun aD=>?_) (fun aD=>?_)
    ·have bM:=aD;have hn:=X4w aD
     have dS:dotI (bm3 p) (bm3 q) i j (k+1)=none:=by rw [dotI,hs];simp only [Qz];revert hn;cases dMulI ((bm3 p).at i k) ((bm3 q).at k j)<;>simp
     have dT:=X8n dS 3 (by omega)
     refine Zs g fun _ dB=>?_;refine Za rfl<|Za rfl<|Zt dB fun a g=>?_;refine Q6<|Xf<|X05<|Xf ?_;refine Xf<|X05<|Xf<|X05 ?_;refine Xf<|Xf<|X05<|X05 ?_;refine Xf<|Xf<|X05<|Xf ?_;refine X4 g (X0r g rfl rfl rfl) ?_
     have he:mulBI p q=none:=X4z (n:=i*3+j) (by rw [X3a aR];exact dT) 9 (by omega)
     rw [he]
     exact ⟨none,0,rfl,(Own.nil _ _ _ _ _),m⟩
    have bM:=aD;have hy:=X5p aD;refine Q7<|d9 _ _<|Zr g<|Ze (Vn X6 aH)<|Zo (Vw [vi (((dAddI s ((dMulI ((bm3 p).at i k) ((bm3 q).at k j)).getD dZ)).getD dZ).num.a),vi (((dAddI s ((dMulI ((bm3 p).at i k) ((bm3 q).at k j)).getD dZ)).getD dZ).num.b),vi (((dAddI s ((dMulI ((bm3 p).at i k) ((bm3 q).at k j)).getD dZ)).getD dZ).num.c),vi (((dAddI s ((dMulI ((bm3 p).at i k) ((bm3 q).at k j)).getD dZ)).getD dZ).num.d),vi (((dAddI s ((dMulI ((bm3 p).at i k) ((bm3 q).at k j)).getD dZ)).getD dZ).exp)] Xd f) ?_;rintro _ eI ⟨ho,hb⟩;have aT:=f;have e:=e.onlyA ho G;have m:=Below.only m ho aS;have f:=hb;refine Zn fun a g=>?_;refine Xn<|cS _ _<|Zr g<|Ze (X03 rfl rfl (by omega) (by omega))<|Zm rfl ?_;refine Zn fun a g=>?_;refine Xo ?_;exact ⟨(k+1,((dAddI s ((dMulI ((bm3 p).at i k) ((bm3 q).at k j)).getD dZ)).getD dZ)),⟨g.sb,(by omega),(by rw [dotI,hs];simp only [Qz];revert hy;cases dMulI ((bm3 p).at i k) ((bm3 q).at k j)<;>simp;intro hy;revert hy;cases dAddI s _<;>simp),f,e,m⟩,(by first|omega|(dsimp only;omega))⟩
   have N:=D;have D:=Q1 D
   have b2:k=3:=by have:=D;omega
   have hx:gridG (fun i j=>dotI (bm3 p) (bm3 q) i j 3) 3 (i*3+j)=some s:=by rw [X3a aR,← hs,b2]
   refine Q9<|Xm<|Xm<|X08 ?_;refine cO _ _<|Zr g<|Zm rfl<|Ze (Vn X6 f)<|Zf (Xb (k:=1) (vs:=[.agg #[vi s.num.a,vi s.num.b,vi s.num.c,vi s.num.d,vi s.exp]]) (zs:=[vi s.num.a,vi s.num.b,vi s.num.c,vi s.num.d,vi s.exp]) rfl X01 X13 rfl rfl) ?_;rintro _ eJ ⟨b49,rfl,aI,o,b0⟩
   have bR:M≠b49:=by have:=f.lt;omega
   have dU:=Q0 m.size aI;have aO:=e.away aI;have dC:=(H.below' m).away aI;have dD:=(I.below' m).away aI;have f:=f.below o;have e:=e.below o;have m:=btr m o;refine Zf (X0q (enc:=encD) (l:=(l2)) (l2:=([s])) (B0:=Q.heap.size) rfl rfl X01 X13 X06 X2h e (Rd.of_blk b0 rfl _ b0.lt) (by simp only [maxLen];simp;omega) (by simp;omega) m.size) ?_;rintro _ eK ⟨dW,dX,rfl,dE,hg,bN⟩
   have b5:Own _ Q.heap.size 53 5 encD _ _ (l2):=e
   have bS:=bN _ f.lt G;have bU:=bN _ b0.lt aO;clear bN;have m:=Below.app m b5 hg (Qb _) m.size;clear b5 hg;refine Za rfl ?_;refine Zn fun a g=>?_;refine Xn<|cG _ _<|Zr g<|Ze (X03 rfl rfl (by omega) (by omega))<|Zm rfl ?_;refine Zn fun a g=>?_;refine Xo ?_;exact ⟨(j+1,l2++[s]),⟨dW,dX,g.sb,(by omega),(X4n b1 hx),dE,m⟩,(by first|omega|(dsimp only;omega))⟩
  have L:=C;have C:=Q1 C
  have aR:j=3:=by have:=C;omega
  refine Q9<|Xm<|Xm<|X08 ?_;refine Xn<|cB _ _<|Zr g<|Ze (X03 rfl rfl (by omega) (by omega))<|Zm rfl ?_;refine Zn fun a g=>?_;refine Xo ?_;exact ⟨(i+1,l2),⟨U,aC,g.sb,(by omega),(by rw [Wb,Nat.one_mul];rw [aR] at b1;exact b1),e,m⟩,(by first|omega|(dsimp only;omega))⟩
 have J:=B;have B:=Q1 B
 have b8:i=3:=by have:=B;omega
 refine Q9<|Xm<|Xm<|X08 ?_;refine dN _ _<|Zs g fun _ dF=>?_;refine Zm rfl<|Za rfl<|Za rfl<|Zt dF fun a g=>?_
 refine Q6 (X4 g (X0r g rfl rfl rfl) ?_)
 have he:mulBI p q=some l:=by rw [b8] at hl;exact hl
 rw [he]
 exact ⟨aP,aQ,rfl,b3,m⟩
theorem Xrk(o:World)(Ap:Option Addr)(cp:Nat)(p:List Dy)(t:Rd o o.heap.size 53 encD Ap p)(aX:p.length=9) : Ret Tryz.prog 59 [.slice Ap p.length cp] o (fun v w=>∃ A c,v=.slice A (trB p).length c∧Own w o.heap.size 53 5 encD A c (trB p)∧Below o.heap.size o w):=by
 refine enter Tryz.func59 rfl 26 rfl rfl ?_;intro a e
 have m:=bz o
 refine Zs e fun _ aY=>?_;refine Za rfl<|Zx aY fun a e _ aZ=>?_;refine Zf (Xb (k:=0) (vs:=[]) (zs:=[]) rfl X01 X13 rfl rfl) ?_;rintro _ w1 ⟨b5,rfl,aF,hE,b0⟩;have aG:=Q0 m.size aF;have aW:=(t.below' m).away aF;have m:=btr m hE;refine Za rfl<|ZX aZ fun a e _ b1=>?_;refine Zs e fun _ b2=>?_;refine Zm rfl<|Zt b2 fun a e=>?_;refine Q8<|X07 (σ:=Nat×(List Dy)) (fun (s:Nat×(List Dy)) (a:Act) (w:World)=>match s with|(i,l)=>∃ A9 c9,Fr a 26 [(0,.slice Ap p.length cp),(3,.slice A9 l.length c9),(7,vi (i:Int))]∧(i≤3)∧(gridL (fun i j=>(bm3 p).at j i) 3 (i*3)=l)∧Own w o.heap.size 53 5 encD A9 c9 l∧Below o.heap.size o w) (fun (s:Nat×(List Dy))=>match s with|(i,l)=>3-i) (0,[]) ?_ ?_
 ·exact ⟨some ⟨b5,0,none⟩,0,e.sb,(by omega),rfl,(Own.empty b0 aG),m⟩
 rintro ⟨i,l⟩ a w2 ⟨A9,c9,e,hi,hl,aH,m⟩;refine Zs e fun _ aI=>?_;refine Ze (X1h rfl rfl)<|ZX aI fun a e _ aJ=>?_
 refine Xl e rfl (fun f=>?_) (fun f=>?_)
 ·have aA:=f;have f:=Q2 f
  have aB:i<3:=by have:=f;omega
  refine Q7<|aJ _ _<|Q5 fun _ aK=>?_;refine Q8<|Zs e fun _ aL=>?_;refine Zm rfl<|Za rfl<|Zx aL fun a e _ aM=>?_;refine Zm rfl<|Zt aM fun a e=>?_;refine Q8<|X07 (σ:=Nat×(List Dy)) (fun (s:Nat×(List Dy)) (a:Act) (w:World)=>match s with|(j,l2)=>∃ z h,Fr a 26 [(0,.slice Ap p.length cp),(3,.slice z l2.length h),(4,vi (i:Int)),(7,vi (i:Int)),(10,vi (j:Int))]∧(j≤3)∧(gridL (fun i j=>(bm3 p).at j i) 3 (i*3+j)=l2)∧Own w o.heap.size 53 5 encD z h l2∧Below o.heap.size o w) (fun (s:Nat×(List Dy))=>match s with|(j,l2)=>3-j) (0,l) ?_ ?_
  ·exact ⟨A9,c9,e.sb,(by omega),hl,aH,m⟩
  rintro ⟨j,l2⟩ a w3 ⟨z,h,e,hj,B,n,m⟩;refine Zs e fun _ aN=>?_;refine Ze (X1h rfl rfl)<|ZX aN fun a e _ aO=>?_
  refine Xl e rfl (fun g=>?_) (fun g=>?_)
  ·have aC:=g;have g:=Q2 g
   have C:j<3:=by have:=g;omega
   have b7:l2.length=i*3+j:=by rw [← B,X2p]
   refine Q7<|aO _ _<|Q5 fun _ aP=>?_;refine Q8<|Zs e fun _ aQ=>?_;refine Zm rfl<|Za rfl<|Zt aQ fun a e=>?_;refine Zr e<|Zm rfl<|Zm rfl<|Zm rfl<|Ze (X7x rfl rfl (by omega) (by omega))<|Zm rfl<|Ze (X03 rfl rfl (by omega) (by omega))<|Zi (k:=(3*j+i)) (u:=((bm3 p).at j i)) (enc:=encD) (l:=p) trivial rfl rfl X01 Xd X06 (t.below' m) (at9 aX C aB) (by omega) ?_;intro b8 aD;refine Ze (X09 (l:=[vi (((bm3 p).at j i).num.a),vi (((bm3 p).at j i).num.b),vi (((bm3 p).at j i).num.c),vi (((bm3 p).at j i).num.d),vi (((bm3 p).at j i).exp)]) rfl X6 aD rfl)<|Zf (Xb (k:=1) (vs:=[.agg #[vi (((bm3 p).at j i).num.a),vi (((bm3 p).at j i).num.b),vi (((bm3 p).at j i).num.c),vi (((bm3 p).at j i).num.d),vi (((bm3 p).at j i).exp)]]) (zs:=[vi (((bm3 p).at j i).num.a),vi (((bm3 p).at j i).num.b),vi (((bm3 p).at j i).num.c),vi (((bm3 p).at j i).num.d),vi (((bm3 p).at j i).exp)]) rfl X01 X13 rfl rfl) ?_;rintro _ w4 ⟨b9,rfl,x,hE,y⟩;have b3:=Q0 m.size x;have q:=n.away x;have aR:=(t.below' m).away x;have n:=n.below hE;have m:=btr m hE;refine Zf (X0q (enc:=encD) (l:=(l2)) (l2:=([((bm3 p).at j i)])) (B0:=o.heap.size) rfl rfl X01 X13 X06 X2h n (Rd.of_blk y rfl _ y.lt) (by simp only [maxLen];simp;omega) (by simp;omega) m.size) ?_;rintro _ w5 ⟨b4,b6,rfl,aS,hg,aT⟩
   have D:Own _ o.heap.size 53 5 encD _ _ (l2):=n
   have aE:=aT _ y.lt q;clear aT;have m:=Below.app m D hg (Qb _) m.size;clear D hg;refine Za rfl ?_;refine Zn fun a e=>?_;refine Xn<|aP _ _<|Zr e<|Ze (X03 rfl rfl (by omega) (by omega))<|Zm rfl ?_;refine Zn fun a e=>?_;refine Xo ?_;exact ⟨(j+1,l2++[((bm3 p).at j i)]),⟨b4,b6,e.sb,(by omega),(by rw [X77 C,B]),aS,m⟩,(by first|omega|(dsimp only;omega))⟩
  have aC:=g;have g:=Q1 g
  have C:j=3:=by have:=g;omega
  refine Q9<|Xm<|Xm<|X08 ?_;refine Xn<|aK _ _<|Zr e<|Ze (X03 rfl rfl (by omega) (by omega))<|Zm rfl ?_;refine Zn fun a e=>?_;refine Xo ?_;exact ⟨(i+1,l2),⟨z,h,e.sb,(by omega),(by rw [Wb,Nat.one_mul];rw [C] at B;exact B),n,m⟩,(by first|omega|(dsimp only;omega))⟩
 have aA:=f;have f:=Q1 f
 have aB:i=3:=by have:=f;omega
 refine Q9<|Xm<|Xm<|X08 ?_;refine b1 _ _<|Zs e fun _ aU=>?_;refine Zm rfl<|Za rfl<|Zt aU fun a e=>?_
 refine Q6 (X4 e (Xx e rfl rfl) ?_)
 have he:trB p=l:=by rw [aB] at hl;exact hl
 rw [he]
 exact ⟨A9,c9,rfl,aH,m⟩
theorem Xh5(m:World)(Ap:Option Addr)(cp:Nat)(p:List Dy)(n:Rd m m.heap.size 53 encD Ap p)(aS:p.length≤9) : Ret Tryz.prog 25 [.agg #[.slice Ap p.length cp]] m (fun v w=>v=vi (bexp p)∧Below m.heap.size m w):=by
 refine enter Tryz.func25 rfl 19 rfl rfl ?_;intro a f
 have i:=bz m
 refine Zs f fun _ aI=>?_;refine Zf (X0j (zs:=[.slice Ap p.length cp]) rfl rfl) ?_;rintro _ w1 ⟨b3,rfl,aJ,hE,aK⟩;have aQ:=Q0 i.size aJ;have i:=btr i hE;refine Za rfl<|Zx aI fun a f _ aL=>?_;refine Za rfl<|ZX aL fun a f _ aM=>?_;refine Zs f fun _ aN=>?_;refine Ze (Vd rfl X1e 0)<|Ze (X0 rfl X0p (aK.at 0))<|Ze (X2k rfl X01)<|Zm rfl<|Zt aN fun a f=>?_;refine Q8<|X07 (σ:=Nat) (fun (k:Nat) (a:Act) (w:World)=>Fr a 19 [(3,vi (bexp (p.take k))),(7,.slice Ap p.length cp),(8,vi (p.length:Int)),(9,vi (k:Int))]∧(k≤p.length)∧Below m.heap.size m w) (fun (k:Nat)=>p.length-k) 0 ?_ ?_
 ·exact ⟨f.sb,(Qf _),i⟩
 rintro k a w2 ⟨f,hk,i⟩;refine Zs f fun _ aO=>?_;refine Ze (X1h rfl rfl)<|ZX aO fun a f _ aP=>?_
 refine Xl f rfl (fun g=>?_) (fun g=>?_)
 ·have aC:=g;have g:=Q2 g
  obtain ⟨e,o⟩:=Xw (l:=p) (k:=k) (by omega)
  refine Q7<|aP _ _<|Q5 fun _ aD=>?_;refine Q8<|Zs f fun _ aE=>?_;refine Zi (k:=k) (u:=e) (enc:=encD) (l:=p) trivial rfl rfl X01 Xd X06 (n.below' i) o rfl ?_;intro aT aA;refine Ze (X09 (l:=[vi e.num.a,vi e.num.b,vi e.num.c,vi e.num.d,vi e.exp]) rfl X6 aA rfl)<|Zf (X3 (zs:=[vi 0,vi 0,vi 0,vi 0,vi 0]) X0n rfl) ?_;rintro _ w3 ⟨aU,rfl,q,hE,j⟩;have aB:=Q0 i.size q;have aF:=(n.below' i).away q;have i:=btr i hE;refine Zo (Vw [vi e.num.a,vi e.num.b,vi e.num.c,vi e.num.d,vi e.exp] Xd j) ?_;rintro _ w4 ⟨ho,hb⟩;have aR:=j;have i:=Below.only i ho aB;have j:=hb;refine Zt aE fun a f=>?_;refine Zr f<|Zm rfl<|Ze (Vd rfl X12 4)<|Ze (X0 rfl X9 (j.at 4))<|Ze (Vx (Xur rfl rfl) (Xin o).symm)<|Za rfl ?_;refine Zn fun a f=>?_;refine Xn<|aD _ _<|Zr f<|Ze (X03 rfl rfl (by omega) (by omega))<|Zm rfl ?_;refine Zn fun a f=>?_;refine Xo ?_;exact ⟨k+1,⟨f.sb,(by omega),i⟩,(by omega)⟩
 have aC:=g;have g:=Q1 g
 have aG:bexp (p.take k)=bexp p:=by rw [Qi (by omega)]
 refine Q9<|Xm<|Xm<|X08 ?_;refine aM _ _<|Zs f fun _ aH=>?_;refine Zm rfl<|Za rfl<|Zt aH fun a f=>?_
 refine Q6 (X4 f (Xx f rfl rfl) ?_)
 exact ⟨by rw [aG],i⟩
theorem Xxa(w0:World)(x:Dy) : Ret Tryz.prog 98 [.agg #[vi x.num.a,vi x.num.b,vi x.num.c,vi x.num.d,vi x.exp]] w0 (fun v w=>v=.bool (reaB x)∧Below w0.heap.size w0 w):=by
 refine enter Tryz.func98 rfl 21 rfl rfl ?_;intro a i
 have l:=bz w0
 refine Zs i fun _ aA=>?_;refine Zf (X0j (zs:=[vi x.num.a,vi x.num.b,vi x.num.c,vi x.num.d,vi x.exp]) rfl rfl) ?_;rintro _ w1 ⟨b2,rfl,aB,hE,g⟩;have aD:=Q0 l.size aB;have l:=btr l hE;refine Za rfl<|ZX aA fun a i _ aC=>?_;refine X02 (fun a w=>Fr a 21 [(2,.bool (((dOk x)&&(x.num.c==0))&&(x.num.d==(wr (-x.num.b)))))]∧Below w1.heap.size w1 w) ?_ ?_
 ·have j:Below w1.heap.size w1 w1:=Below.refl _ _
  refine Zr i<|Ze (Vn X6 g)<|Zf (Vc (Xar _ x) X4i) ?_;rintro _ w2 ⟨rfl,hE⟩;have g:=g.below hE;have l:=btr l hE;have j:=btr j hE;refine Zm rfl ?_
  refine Zg 5 rfl (fun f=>?_) (fun f=>?_)
  ·refine Zv (gW f) (Vd rfl X1i 0) ?_;refine Zv (gW f) (Vd rfl X0d 2) ?_;refine Zv (gW f) (X0 rfl X9 (g.at 2)) ?_;refine Zv (gW f) (X1b rfl rfl) ?_;refine Ze (Xe rfl f rfl)<|Zm rfl ?_
   refine Zg 11 rfl (fun e=>?_) (fun e=>?_)
   ·refine Zv (gW e) (Vd rfl X1i 0) ?_;refine Zv (gW e) (Vd rfl X0f 3) ?_;refine Zv (gW e) (X0 rfl X9 (g.at 3)) ?_;refine Zv (gW e) (Vd rfl X1i 0) ?_;refine Zv (gW e) (Vd rfl X0a 1) ?_;refine Zv (gW e) (X0 rfl X9 (g.at 1)) ?_;refine Zv (gW e) (X8g rfl) ?_;refine Zv (gW e) (X1b rfl rfl) ?_;refine Ze (Xe rfl e rfl)<|Za rfl ?_;refine Zn fun a i=>?_
    have k:Below w1.heap.size w1 w2:=j
    exact ⟨i.sub ⟨X2 rfl (by first|rfl|(simp only [f,e,bs];done)|simp [f,e]),trivial⟩,k⟩
   refine Zp (gP e) ?_;refine Zp (gP e) ?_;refine Zp (gP e) ?_;refine Zp (gP e) ?_;refine Zp (gP e) ?_;refine Zp (gP e) ?_;refine Zp (gP e) ?_;refine Zp (gP e) ?_;refine Ze (Xc rfl e rfl)<|Za rfl ?_;refine Zn fun a i=>?_
   have k:Below w1.heap.size w1 w2:=j
   exact ⟨i.sub ⟨X2 rfl (by first|rfl|(simp only [f,e,bs];done)|simp [f,e]),trivial⟩,k⟩
  refine Zp (gP f) ?_;refine Zp (gP f) ?_;refine Zp (gP f) ?_;refine Zp (gP f) ?_;refine Ze (Xc rfl f rfl)<|Zm rfl<|Zp (gP rfl) ?_;refine Zp (gP rfl) ?_;refine Zp (gP rfl) ?_;refine Zp (gP rfl) ?_;refine Zp (gP rfl) ?_;refine Zp (gP rfl) ?_;refine Zp (gP rfl) ?_;refine Zp (gP rfl) ?_;refine Ze (Xc rfl rfl rfl)<|Za rfl ?_;refine Zn fun a i=>?_
  have k:Below w1.heap.size w1 w2:=j
  exact ⟨i.sub ⟨X2 rfl (by first|rfl|(simp only [f,bs];done)|simp [f]),trivial⟩,k⟩
 rintro a w3 ⟨i,hE⟩;have l:=btr l hE;refine aC _ _ ?_
 refine Q6 (X4 i (Xx i rfl rfl) ?_)
 exact ⟨by simp [reaB, *],l⟩
theorem Xwx(w0:World)(x:Dy) : Ret Tryz.prog 97 [.agg #[vi x.num.a,vi x.num.b,vi x.num.c,vi x.num.d,vi x.exp]] w0 (fun v w=>v=.bool (!reaB x)∧Below w0.heap.size w0 w):=by
 refine enter Tryz.func97 rfl 6 rfl rfl ?_;intro a hf
 have hW:=bz w0
 refine Zs hf fun _ aA=>?_;refine Zf (X0j (zs:=[vi x.num.a,vi x.num.b,vi x.num.c,vi x.num.d,vi x.exp]) rfl rfl) ?_;rintro _ w1 ⟨b2,rfl,aB,hE,aC⟩;have aE:=Q0 hW.size aB;have hW:=btr hW hE;refine Za rfl<|Zx aA fun a hf _ aD=>?_;refine Ze (Vn X6 aC)<|Zf (Vc (Xxa _ x) Xnm) ?_;rintro _ w2 ⟨rfl,hE⟩;have hW:=btr hW hE;refine Ze (X0o rfl)<|Za rfl<|Zt aD fun a hf=>?_
 refine Q6 (X4 hf (Xx hf rfl rfl) ?_)
 exact ⟨rfl,hW⟩
def rSub(x y:Rg) : Rg:=⟨wr (x.a-y.a),wr (x.b-y.b),wr (x.c-y.c),wr (x.d-y.d)⟩
def dSubI(x y:Dy) : Option Dy:=
 if (dOk x&&dOk y)=true then
  if ((dRaise x (max x.exp y.exp)).2&&(dRaise y (max x.exp y.exp)).2&&rIf2 (rSub (dRaise x (max x.exp y.exp)).1 (dRaise y (max x.exp y.exp)).1) [(dRaise x (max x.exp y.exp)).1,(dRaise y (max x.exp y.exp)).1])=true then
   dOf (rIf1 (rSub (dRaise x (max x.exp y.exp)).1 (dRaise y (max x.exp y.exp)).1) [(dRaise x (max x.exp y.exp)).1,(dRaise y (max x.exp y.exp)).1]) (max x.exp y.exp)
  else none
 else none
def Tri(a:Int) : Prop:=-1≤a∧a≤1
theorem Xql:((List.range 5).all fun i=>(List.range 5).all fun j=>decide (dMulI (dO ((i:Int)-2) 0) (dO ((j:Int)-2) 0)=some (dO (((i:Int)-2)*((j:Int)-2)) 0)))=true:=by kernel_rfl
theorem Xno:((List.range 13).all fun i=>(List.range 13).all fun j=>decide (dAddI (dO ((i:Int)-6) 0) (dO ((j:Int)-6) 0)=some (dO (((i:Int)-6)+((j:Int)-6)) 0))&&decide (dSubI (dO ((i:Int)-6) 0) (dO ((j:Int)-6) 0)=some (dO (((i:Int)-6)-((j:Int)-6)) 0)))=true:=by kernel_rfl
theorem Xxz{a b:Int}(ha:-2≤a∧a≤2)(hb:-2≤b∧b≤2) : dMulI (dO a 0) (dO b 0)=some (dO (a*b) 0):=by
 have h:=Xql
 simp only [W1,W2,Qr] at h
 have:=h (a+2).toNat (by omega) (b+2).toNat (by omega)
 rwa [show (((a+2).toNat:Nat) : Int)-2=a by omega,show (((b+2).toNat:Nat) : Int)-2=b by omega] at this
theorem Xtw{a b:Int}(ha:-6≤a∧a≤6)(hb:-6≤b∧b≤6) : dAddI (dO a 0) (dO b 0)=some (dO (a+b) 0)∧dSubI (dO a 0) (dO b 0)=some (dO (a-b) 0):=by
 have h:=Xno
 simp only [W1,W2,Qd,Qr] at h
 have:=h (a+6).toNat (by omega) (b+6).toNat (by omega)
 rwa [show (((a+6).toNat:Nat) : Int)-6=a by omega,show (((b+6).toNat:Nat) : Int)-6=b by omega] at this
theorem X8d{a b:Int}(ha:Tri a)(hb:Tri b) : Tri (a*b):=by
 unfold Tri at *
 have h1:a = -1∨a=0∨a=1:=by omega
 rcases h1 with rfl|rfl|rfl<;>omega
theorem Xhn{a b:Int}(ha:Tri a)(hb:Tri b) : dMulI (dO a 0) (dO b 0)=some (dO (a*b) 0):=Xxz (by unfold Tri at ha;omega) (by unfold Tri at hb;omega)
theorem Xqr{a b c d:Int}(ha:Tri a)(hd:Tri d)(hb:Tri b)(hc:Tri c) : dSubI (dO (a*d) 0) (dO (b*c) 0)=some (dO (a*d-b*c) 0):=by
 have h1:=X8d ha hd;have h2:=X8d hb hc
 unfold Tri at h1 h2
 exact (Xtw (by omega) (by omega)).2
structure SmB (q:List Int) : Prop where
 len:q.length=9
 tri:∀ n,Tri (q.getD n 0)
theorem SmB.blen{q:List Int}(h:SmB q) : (intB q).length=9:=by simp [intB,h.len]
theorem SmB.get{q:List Int}(h:SmB q){n:Nat}(hn:n<9) : (intB q)[n]? = some (dO (q.getD n 0) 0):=by
 have:=h.len
 rw [intB,List.getElem?_map,Qa,Qc (by omega)];rfl
def rstN(q:List Int)(k:Nat) : Nat→List Int
 | 0=>[]
 | j+1=>if j=k then rstN q k j else rstN q k j++[q.getD (3+j) 0,q.getD (6+j) 0]
theorem Xkl{q:List Int}{k j:Nat}(h:j≠k) : intB (rstN q k j)++[dO (q.getD (3+j) 0) 0,dO (q.getD (6+j) 0) 0]=intB (rstN q k (j+1)):=by
 rw [rstN,Q3 h];simp [intB]
theorem Xln{q:List Int}{k j:Nat}(h:j=k) : intB (rstN q k j)=intB (rstN q k (j+1)):=by rw [rstN,Q4 h]
theorem Xvv(q:List Int)(k j:Nat) : (intB (rstN q k j)).length≤2*j:=by
 induction j with
 | zero=>exact Qf _
 | succ j ih=>
  rw [rstN]
  split
  ·omega
  ·simp [intB] at ih ⊢;omega
def eN(q:List Int)(k n:Nat) : Int:=(rstN q k 3).getD n 0
theorem Xhd{q:List Int}{k:Nat}(h:k<3) : (intB (rstN q k 3)).length=4:=by
 rcases lt3 h with rfl|rfl|rfl<;>rfl
theorem X9k{q:List Int}(_:SmB q){k:Nat}(h:k<3){n:Nat}(hn:n<4) : (intB (rstN q k 3))[n]? = some (dO (eN q k n) 0):=by
 have hl:(rstN q k 3).length=4:=by have:=Xhd (q:=q) h;simpa [intB] using this
 rw [intB,List.getElem?_map,eN,Qa,Qc (by omega)];rfl
theorem X3o{q:List Int}(hS:SmB q){k:Nat}(h:k<3){n:Nat}(hn:n<4) : Tri (eN q k n):=by
 have hn':n=0∨n=1∨n=2∨n=3:=by omega
 rcases lt3 h with rfl|rfl|rfl<;>rcases hn' with rfl|rfl|rfl|rfl<;>exact hS.tri _
def mnN(q:List Int)(k:Nat) : Int:=eN q k 0*eN q k 3-eN q k 2*eN q k 1
def dtN(q:List Int) : Nat→Int
 | 0=>0
 | k+1=>if k=1 then dtN q k-q.getD k 0*mnN q k else dtN q k+q.getD k 0*mnN q k
theorem Xmh{q:List Int}(hS:SmB q){k:Nat}(h:k<3) : -2≤mnN q k∧mnN q k≤2:=by
 have h1:=X8d (X3o hS h (show 0<4 by decide)) (X3o hS h (show 3<4 by decide))
 have h2:=X8d (X3o hS h (show 2<4 by decide)) (X3o hS h (show 1<4 by decide))
 unfold Tri at h1 h2
 unfold mnN
 omega
theorem Xfg{q:List Int}(hS:SmB q){k:Nat}(h:k<3) : -2≤q.getD k 0*mnN q k∧q.getD k 0*mnN q k≤2:=by
 have h1:=Xmh hS h;have h2:=hS.tri k
 unfold Tri at h2
 have h3:q.getD k 0 = -1∨q.getD k 0=0∨q.getD k 0=1:=by omega
 rcases h3 with e|e|e<;>rw [e]<;>omega
theorem Xls{q:List Int}(hS:SmB q) : ∀ k:Nat,k≤3→-(2*(k:Int))≤dtN q k∧dtN q k≤2*(k:Int):=fun k=>by
 induction k with
 | zero=>exact fun _=>⟨Int.le_refl _,Int.le_refl _⟩
 | succ k ih=>
  intro hk
  have h1:=ih (by omega)
  have h2:=Xfg hS (show k<3 by omega)
  rw [dtN]
  split<;>omega
theorem Xgy{q:List Int}(hS:SmB q){k:Nat}(h:k<3) : dMulI (dO (q.getD k 0) 0) (dO (eN q k 0*eN q k 3-eN q k 2*eN q k 1) 0)=some (dO (q.getD k 0*mnN q k) 0):=by
 have h2:=hS.tri k
 unfold Tri at h2
 exact Xxz (by omega) (Xmh hS h)
theorem Xnb{q:List Int}(hS:SmB q){k:Nat}(h:k<3)(h1:k≠1) : dAddI (dO (dtN q k) 0) (dO (q.getD k 0*mnN q k) 0)=some (dO (dtN q (k+1)) 0):=by
 have a:=Xls hS k (by omega)
 have b:=Xfg hS h
 rw [(Xtw (by omega) (by omega)).1,dtN,Q3 h1]
theorem Xpq{q:List Int}(hS:SmB q){k:Nat}(h:k<3)(h1:k=1) : dSubI (dO (dtN q k) 0) (dO (q.getD k 0*mnN q k) 0)=some (dO (dtN q (k+1)) 0):=by
 have a:=Xls hS k (by omega)
 have b:=Xfg hS h
 rw [(Xtw (by omega) (by omega)).2,dtN,Q4 h1]
def qN9(k:Nat) : List Int:=clN.getD k []
theorem Xyz:((List.range 24).all fun k=>(qN9 k).length==9&&(qN9 k).all (fun x=>decide (-1≤x∧x≤1))&&decide (dtN (qN9 k) 3=1)&&!((clB k).any fun x=>!reaB x))=true:=by kernel_rfl
theorem Xhb{k:Nat}(hk:k<24) : SmB (qN9 k)∧dtN (qN9 k) 3=1∧((clB k).any fun x=>!reaB x)=false:=by
 have h1:=W1.1 Xyz k (W2.2 hk)
 simp only [Qd,beq_iff_eq,Qr,Bool.not_eq_true'] at h1
 obtain ⟨⟨⟨h2,h3⟩,h4⟩,h5⟩:=h1
 refine ⟨⟨h2,fun n=>?_⟩,h4,h5⟩
 rw [W1] at h3
 rw [Qa]
 cases e:(qN9 k)[n]? with
 | none=>exact ⟨by decide,by decide⟩
 | some x=>
  have:=h3 x (Qe e)
  simpa [Tri] using this
theorem Xxm:((List.range 24).all fun k=>(trB (clB k)).all dOk&&(List.range 3).all fun i=>(List.range 3).all fun j=>decide ((bm3 (trB (clB k))).at i j=dO (rbN k j i) 0)&&decide (rbN k i 0*rbN k j 0+rbN k i 1*rbN k j 1+rbN k i 2*rbN k j 2=rbN 0 i j))=true:=by kernel_rfl
theorem Xoi{k:Nat}(hk:k<24) : mulBI (clB k) (trB (clB k))=some (clB 0):=by
 have h1:=W1.1 Xxm k (W2.2 hk)
 simp only [Qd,W1,W2,Qr] at h1
 obtain ⟨h2,h3⟩:=h1;have hv:=X5i hk
 have ht:BV (trB (clB k)) 0 (fun i j=>zI (rbN k j i)):=⟨Xc4 _,h2,fun i j hi hj=>by rw [(h3 i hi j hj).1];exact X7a rfl rfl⟩
 have hz:∀ a b:Int,zI a*zI b=zI (a*b):=fun a b=>by apply X0l<;>simp [X2e,X2u,X34,X31,zI]
 have hz2:∀ a b:Int,zI a+zI b=zI (a+b):=fun a b=>rfl
 have ho:∀ i j,i<3→j<3→∃ x,dotI (bm3 (clB k)) (bm3 (trB (clB k))) i j 3=some x:=fun i j hi hj=>X8t hv ht (by decide) (R:=16) (by decide) hi hj fun n hn=>by
  have hs:=(Xhb hk).1.tri
  have t1:Tri (rbN k i n):=hs _
  have t2:Tri (rbN k j n):=hs _
  have t3:=X8d t1 t2
  show qN (zI _*zI _)≤16
  rw [hz]
  unfold Tri at t3
  have h5:rbN k i n*rbN k j n = -1∨rbN k i n*rbN k j n=0∨rbN k i n*rbN k j n=1:=by omega
  rcases h5 with e|e|e<;>rw [e]<;>decide
 obtain ⟨r,hr⟩ : ∃ r,mulBI (clB k) (trB (clB k))=some r:=X6i 9 fun n hn=>ho (n/3) (n % 3) (by omega) (by omega)
 rw [hr]
 have hb:=Xd8 hr hv ht
 rw [Xgq hb (X5i (show 0<24 by decide)) fun i j hi hj=>?_]
 show s2^0*(zI _*zI _+zI _*zI _+zI _*zI _)=s2^(0+0)*zI _
 rw [hz,hz,hz,hz2,hz2,(h3 i hi j hj).2]
theorem Xxi:((List.range 9).all fun n=>decide ((clB 0)[n]? = some (dO (if n % 4=0 then 1 else 0) 0)))=true:=by kernel_rfl
theorem Xt3{n:Nat}(hn:n<9) : (clB 0)[n]? = some (dO (if n % 4=0 then 1 else 0) 0):=by
 have h1:=W1.1 Xxi n (W2.2 hn)
 simpa using h1
theorem Xu8{n:Nat}(hn:n<9) : dO (if n % 4=0 then 1 else 0) 0=(⟨⟨if ((n:Int).tmod 4==0)=true then 1 else 0,0,0,0⟩,0⟩ : Dy):=by
 have h:n=0∨n=1∨n=2∨n=3∨n=4∨n=5∨n=6∨n=7∨n=8:=by omega
 rcases h with rfl|rfl|rfl|rfl|rfl|rfl|rfl|rfl|rfl<;>rfl
theorem Xye(w0:World)(x:Rg)(y:Rg) : Ret Tryz.prog 157 [.agg #[vi x.a,vi x.b,vi x.c,vi x.d],.agg #[vi y.a,vi y.b,vi y.c,vi y.d]] w0 (fun v w=>v=.tuple #[rV (rIf1 (rSub x y) [x,y]),.bool (rIf2 (rSub x y) [x,y])]∧Below w0.heap.size w0 w):=by
 refine enter Tryz.func157 rfl 33 rfl rfl ?_;intro a hf
 have i:=bz w0
 refine Zs hf fun _ aI=>?_;refine Zf (X0j (zs:=[vi x.a,vi x.b,vi x.c,vi x.d]) rfl rfl) ?_;rintro _ w1 ⟨b2,rfl,aJ,j,e⟩;have aO:=Q0 i.size aJ;have i:=btr i j;refine Zf (X0j (zs:=[vi y.a,vi y.b,vi y.c,vi y.d]) rfl rfl) ?_;rintro _ w2 ⟨b3,rfl,aK,j,f⟩
 have aC:b2≠b3:=by have:=e.lt;omega
 have aP:=Q0 i.size aK;have e:=e.below j;have i:=btr i j;refine Zf (X3 (zs:=[vi 0,vi 0,vi 0,vi 0]) X1y rfl) ?_;rintro _ w3 ⟨b4,rfl,aL,j,g⟩
 have aD:b2≠b4:=by have:=e.lt;omega
 have aE:b3≠b4:=by have:=f.lt;omega
 have aA:=Q0 i.size aL;have e:=e.below j;have f:=f.below j;have i:=btr i j;refine Za rfl<|Zx aI fun a hf _ aM=>?_;refine Ze (Vd rfl X0c 0)<|Ze (X0 rfl X9 (e.at 0))<|Ze (Vd rfl X0c 0)<|Ze (X0 rfl X9 (f.at 0))<|Ze (X3t rfl rfl)<|Ze (Vd rfl X0a 1)<|Ze (X0 rfl X9 (e.at 1))<|Ze (Vd rfl X0a 1)<|Ze (X0 rfl X9 (f.at 1))<|Ze (X3t rfl rfl) ?_;refine Ze (Vd rfl X0d 2)<|Ze (X0 rfl X9 (e.at 2))<|Ze (Vd rfl X0d 2)<|Ze (X0 rfl X9 (f.at 2))<|Ze (X3t rfl rfl)<|Ze (Vd rfl X0f 3)<|Ze (X0 rfl X9 (e.at 3))<|Ze (Vd rfl X0f 3)<|Ze (X0 rfl X9 (f.at 3))<|Ze (X3t rfl rfl) ?_;refine Ze (Xg (ps:=[(0,vi (wr (x.a-y.a))),(1,vi (wr (x.b-y.b))),(2,vi (wr (x.c-y.c))),(3,vi (wr (x.d-y.d)))]) (cs:=[vi (wr (x.a-y.a)),vi (wr (x.b-y.b)),vi (wr (x.c-y.c)),vi (wr (x.d-y.d))]) rfl (fun _=>by first|rfl|kernel_rfl))<|Ze (Vn Xv e)<|Ze (Vn Xv f)<|Zf (Xb (k:=2) (vs:=[.agg #[vi x.a,vi x.b,vi x.c,vi x.d],.agg #[vi y.a,vi y.b,vi y.c,vi y.d]]) (zs:=[vi x.a,vi x.b,vi x.c,vi x.d,vi y.a,vi y.b,vi y.c,vi y.d]) rfl X4g X4e rfl rfl) ?_;rintro _ w4 ⟨b6,rfl,aN,j,aB⟩
 have aF:b2≠b6:=by have:=e.lt;omega
 have aG:b3≠b6:=by have:=f.lt;omega
 have aH:b4≠b6:=by have:=g.lt;omega
 have aQ:=Q0 i.size aN;have g:=g.below j;have i:=btr i j;refine Zf (Vc (Xio _ (⟨wr (x.a-y.a),wr (x.b-y.b),wr (x.c-y.c),wr (x.d-y.d)⟩ : Rg) (some ⟨b6,0,none⟩) 2 ([x,y]) (Rd.of_blk aB rfl _ aB.lt) rfl (by simp) (by simp)) X8u) ?_;rintro _ w5 ⟨rfl,j⟩;have g:=g.below j;have i:=btr i j;refine Ze (X1 (vs:=[.agg #[vi ((rIf1 (⟨wr (x.a-y.a),wr (x.b-y.b),wr (x.c-y.c),wr (x.d-y.d)⟩ : Rg) ([x,y])).a),vi ((rIf1 (⟨wr (x.a-y.a),wr (x.b-y.b),wr (x.c-y.c),wr (x.d-y.d)⟩ : Rg) ([x,y])).b),vi ((rIf1 (⟨wr (x.a-y.a),wr (x.b-y.b),wr (x.c-y.c),wr (x.d-y.d)⟩ : Rg) ([x,y])).c),vi ((rIf1 (⟨wr (x.a-y.a),wr (x.b-y.b),wr (x.c-y.c),wr (x.d-y.d)⟩ : Rg) ([x,y])).d)],.bool (rIf2 (⟨wr (x.a-y.a),wr (x.b-y.b),wr (x.c-y.c),wr (x.d-y.d)⟩ : Rg) ([x,y]))]) rfl rfl)<|Ze (X1 (vs:=[.agg #[vi ((rIf1 (⟨wr (x.a-y.a),wr (x.b-y.b),wr (x.c-y.c),wr (x.d-y.d)⟩ : Rg) ([x,y])).a),vi ((rIf1 (⟨wr (x.a-y.a),wr (x.b-y.b),wr (x.c-y.c),wr (x.d-y.d)⟩ : Rg) ([x,y])).b),vi ((rIf1 (⟨wr (x.a-y.a),wr (x.b-y.b),wr (x.c-y.c),wr (x.d-y.d)⟩ : Rg) ([x,y])).c),vi ((rIf1 (⟨wr (x.a-y.a),wr (x.b-y.b),wr (x.c-y.c),wr (x.d-y.d)⟩ : Rg) ([x,y])).d)],.bool (rIf2 (⟨wr (x.a-y.a),wr (x.b-y.b),wr (x.c-y.c),wr (x.d-y.d)⟩ : Rg) ([x,y]))]) rfl rfl)<|Zo (Vw [vi ((rIf1 (⟨wr (x.a-y.a),wr (x.b-y.b),wr (x.c-y.c),wr (x.d-y.d)⟩ : Rg) ([x,y])).a),vi ((rIf1 (⟨wr (x.a-y.a),wr (x.b-y.b),wr (x.c-y.c),wr (x.d-y.d)⟩ : Rg) ([x,y])).b),vi ((rIf1 (⟨wr (x.a-y.a),wr (x.b-y.b),wr (x.c-y.c),wr (x.d-y.d)⟩ : Rg) ([x,y])).c),vi ((rIf1 (⟨wr (x.a-y.a),wr (x.b-y.b),wr (x.c-y.c),wr (x.d-y.d)⟩ : Rg) ([x,y])).d)] X0w g) ?_;rintro _ w6 ⟨ho,hb⟩;have aR:=g;have i:=Below.only i ho aA;have g:=hb;refine Za rfl<|Zt aM fun a hf=>?_
 refine Q6 (X4 hf (X0r hf rfl (ResV.cellN (l:=[vi ((rIf1 (⟨wr (x.a-y.a),wr (x.b-y.b),wr (x.c-y.c),wr (x.d-y.d)⟩ : Rg) ([x,y])).a),vi ((rIf1 (⟨wr (x.a-y.a),wr (x.b-y.b),wr (x.c-y.c),wr (x.d-y.d)⟩ : Rg) ([x,y])).b),vi ((rIf1 (⟨wr (x.a-y.a),wr (x.b-y.b),wr (x.c-y.c),wr (x.d-y.d)⟩ : Rg) ([x,y])).c),vi ((rIf1 (⟨wr (x.a-y.a),wr (x.b-y.b),wr (x.c-y.c),wr (x.d-y.d)⟩ : Rg) ([x,y])).d)]) rfl Xv (g.at 0) rfl) rfl) ?_)
 exact ⟨rfl,i⟩
theorem Xzz(w0:World)(x:Dy)(y:Dy) : Ret Tryz.prog 130 [.agg #[vi x.num.a,vi x.num.b,vi x.num.c,vi x.num.d,vi x.exp],.agg #[vi y.num.a,vi y.num.b,vi y.num.c,vi y.num.d,vi y.exp],.func (.func 157) #[] #[]] w0 (fun v w=>v=.tuple #[dV ((dSubI x y).getD dZ),.bool ((dSubI x y).isSome)]∧Below w0.heap.size w0 w):=by
 refine enter Tryz.func130 rfl 64 rfl rfl ?_;intro a k
 have f:=bz w0
 refine Zs k fun _ aY=>?_;refine Zf (X0j (zs:=[vi x.num.a,vi x.num.b,vi x.num.c,vi x.num.d,vi x.exp]) rfl rfl) ?_;rintro _ w1 ⟨b2,rfl,aZ,g,q⟩;have bD:=Q0 f.size aZ;have f:=btr f g;refine Zf (X0j (zs:=[vi y.num.a,vi y.num.b,vi y.num.c,vi y.num.d,vi y.exp]) rfl rfl) ?_;rintro _ w2 ⟨b3,rfl,b0,g,m⟩
 have aU:b2≠b3:=by have:=q.lt;omega
 have bE:=Q0 f.size b0;have q:=q.below g;have f:=btr f g;refine Zf (X3 (zs:=[vi 0,vi 0,vi 0,vi 0,vi 0]) X0n rfl) ?_;rintro _ w3 ⟨b4,rfl,b1,g,e⟩
 have aW:b2≠b4:=by have:=q.lt;omega
 have aX:b3≠b4:=by have:=m.lt;omega
 have C:=Q0 f.size b1;have q:=q.below g;have m:=m.below g;have f:=btr f g;refine Za rfl<|ZX aY fun a k _ b5=>?_;refine Q5 fun _ b6=>?_;refine X02 (fun a w=>Fr a 64 [(2,.func (.func 157) #[] #[]),(3,.pointer (some ⟨b2,0,none⟩)),(4,.pointer (some ⟨b3,0,none⟩)),(6,.pointer (some ⟨b4,0,none⟩)),(22,.bool ((!(dOk x))||(!(dOk y))))]∧Below w3.heap.size w3 w) ?_ ?_
 ·have B:Below w3.heap.size w3 w3:=Below.refl _ _
  refine Zr k<|Ze (Vn X6 q)<|Zf (Vc (Xar _ x) X4i) ?_;rintro _ w4 ⟨rfl,g⟩;have m:=m.below g;have f:=btr f g;have B:=btr B g;refine Ze (X0o rfl)<|Zm rfl ?_
  refine Zg 18 rfl (fun p=>?_) (fun p=>?_)
  ·refine Zp (gP p) ?_;refine Zp (gP p) ?_;refine Zp (gP p) ?_;refine Ze (Xe rfl p rfl) ?_;refine Zn fun a k=>?_
   have aA:Below w3.heap.size w3 w4:=B
   exact ⟨k.sub ⟨rfl,rfl,rfl,rfl,X2 rfl (by first|rfl|(simp only [p,bs];done)|simp [p]),trivial⟩,aA⟩
  refine Zv (gW p) (Vn X6 m) ?_;refine Zk (gW p) (Vc (Xar _ y) X4i) ?_;rintro _ w5 ⟨rfl,g⟩;have f:=btr f g;have B:=btr B g;refine Zv (gW p) (X0o rfl) ?_;refine Ze (Xc rfl p rfl) ?_;refine Zn fun a k=>?_
  have aA:Below w3.heap.size w3 w5:=B
  exact ⟨k.sub ⟨rfl,rfl,rfl,rfl,X2 rfl (by first|rfl|(simp only [p,bs];done)|simp [p]),trivial⟩,aA⟩
 rintro a w6 ⟨k,g⟩;have q:=q.below g;have m:=m.below g;have e:=e.below g;have f:=btr f g;refine b6 _ _ ?_
 refine Xl k rfl (fun D=>?_) (fun D=>?_)
 ·have t:=D
  have hn:(dOk x&&dOk y)=false:=by revert D;cases dOk x<;>cases dOk y<;>simp
  refine Zs k fun _ b7=>?_;refine Ze (Xg (ps:=[]) (cs:=[vi 0,vi 0,vi 0,vi 0,vi 0]) rfl (fun _=>by first|rfl|kernel_rfl))<|Zo (Vw [vi 0,vi 0,vi 0,vi 0,vi 0] Xd e) ?_;rintro _ w7 ⟨h,E⟩;have o:=e;have f:=Below.only f h C;have e:=E;refine Za rfl<|Zt b7 fun a k=>?_;refine Q6<|Xf<|X4 k (X0r k rfl (ResV.cellN (l:=[vi 0,vi 0,vi 0,vi 0,vi 0]) rfl X6 (e.at 0) rfl) rfl) ?_;exact ⟨by rw [dSubI,hn];rfl,f⟩
 have t:=D
 have hy:(dOk x&&dOk y)=true:=by revert D;cases dOk x<;>cases dOk y<;>simp
 have hx:=X26 (Qd _ _▸hy:dOk x=true∧dOk y=true).1;have hz:=X26 (Qd _ _▸hy:dOk x=true∧dOk y=true).2;refine Q7<|b5 _ _<|Zs k fun _ aI=>?_;refine Ze (Vd rfl X12 4)<|Ze (X0 rfl X9 (q.at 4))<|Ze (Vd rfl X12 4)<|Ze (X0 rfl X9 (m.at 4))<|Ze (Xur rfl rfl)<|Za rfl<|Zx aI fun a k _ aJ=>?_;refine Ze (Vn X6 q)<|Zm rfl<|Zf (Vc (Xo1 _ x (max x.exp y.exp) (by omega) (by omega) (by omega)) Xcv) ?_;rintro _ w8 ⟨rfl,g⟩;have m:=m.below g;have e:=e.below g;have f:=btr f g;refine Zm rfl<|Ze (X1 (vs:=[.agg #[vi (((dRaise x (max x.exp y.exp)).1).a),vi (((dRaise x (max x.exp y.exp)).1).b),vi (((dRaise x (max x.exp y.exp)).1).c),vi (((dRaise x (max x.exp y.exp)).1).d)],.bool ((dRaise x (max x.exp y.exp)).2)]) rfl rfl)<|Ze (X1 (vs:=[.agg #[vi (((dRaise x (max x.exp y.exp)).1).a),vi (((dRaise x (max x.exp y.exp)).1).b),vi (((dRaise x (max x.exp y.exp)).1).c),vi (((dRaise x (max x.exp y.exp)).1).d)],.bool ((dRaise x (max x.exp y.exp)).2)]) rfl rfl)<|Zf (X3 (zs:=[vi 0,vi 0,vi 0,vi 0]) X1y rfl) ?_;rintro _ w9 ⟨aK,rfl,aL,g,i⟩;have aB:=Q0 f.size aL;have m:=m.below g;have e:=e.below g;have f:=btr f g;refine Zo (Vw [vi (((dRaise x (max x.exp y.exp)).1).a),vi (((dRaise x (max x.exp y.exp)).1).b),vi (((dRaise x (max x.exp y.exp)).1).c),vi (((dRaise x (max x.exp y.exp)).1).d)] X0w i) ?_;rintro _ bF ⟨h,E⟩;have o:=i;have m:=m.only h (Blk.ne m o rfl);have e:=e.only h (Blk.ne e o rfl);have f:=Below.only f h aB;have i:=E;refine Za rfl<|Zx aJ fun a k _ aM=>?_;refine Ze (Vn X6 m)<|Zm rfl<|Zf (Vc (Xo1 _ y (max x.exp y.exp) (by omega) (by omega) (by omega)) Xcv) ?_;rintro _ bG ⟨rfl,g⟩
 have e:=e.below g;have i:=i.below g;have f:=btr f g;refine Zm rfl<|Ze (X1 (vs:=[.agg #[vi (((dRaise y (max x.exp y.exp)).1).a),vi (((dRaise y (max x.exp y.exp)).1).b),vi (((dRaise y (max x.exp y.exp)).1).c),vi (((dRaise y (max x.exp y.exp)).1).d)],.bool ((dRaise y (max x.exp y.exp)).2)]) rfl rfl)<|Ze (X1 (vs:=[.agg #[vi (((dRaise y (max x.exp y.exp)).1).a),vi (((dRaise y (max x.exp y.exp)).1).b),vi (((dRaise y (max x.exp y.exp)).1).c),vi (((dRaise y (max x.exp y.exp)).1).d)],.bool ((dRaise y (max x.exp y.exp)).2)]) rfl rfl)<|Zf (X3 (zs:=[vi 0,vi 0,vi 0,vi 0]) X1y rfl) ?_;rintro _ bH ⟨b14,rfl,aN,g,u⟩
 have aF:aK≠b14:=by have:=i.lt;omega
 have aC:=Q0 f.size aN;have e:=e.below g;have i:=i.below g;have f:=btr f g;refine Zo (Vw [vi (((dRaise y (max x.exp y.exp)).1).a),vi (((dRaise y (max x.exp y.exp)).1).b),vi (((dRaise y (max x.exp y.exp)).1).c),vi (((dRaise y (max x.exp y.exp)).1).d)] X0w u) ?_;rintro _ bI ⟨h,E⟩;have o:=u;have e:=e.only h (Blk.ne e o rfl);have i:=i.only h (by omega);have f:=Below.only f h aC;have u:=E;refine Za rfl<|Zx aM fun a k _ aO=>?_;refine Zm rfl<|Ze (Vn Xv i)<|Ze (Vn Xv u)<|Zf (X64 (cs:=[]) (vs:=[.agg #[vi (((dRaise x (max x.exp y.exp)).1).a),vi (((dRaise x (max x.exp y.exp)).1).b),vi (((dRaise x (max x.exp y.exp)).1).c),vi (((dRaise x (max x.exp y.exp)).1).d)],.agg #[vi (((dRaise y (max x.exp y.exp)).1).a),vi (((dRaise y (max x.exp y.exp)).1).b),vi (((dRaise y (max x.exp y.exp)).1).c),vi (((dRaise y (max x.exp y.exp)).1).d)]]) rfl rfl Xq1 (Xye _ ((dRaise x (max x.exp y.exp)).1) ((dRaise y (max x.exp y.exp)).1))) ?_;rintro _ bJ ⟨rfl,g⟩;have e:=e.below g;have i:=i.below g;have u:=u.below g;have f:=btr f g;refine Zm rfl<|Ze (X1 (vs:=[.agg #[vi ((rIf1 (rSub ((dRaise x (max x.exp y.exp)).1) ((dRaise y (max x.exp y.exp)).1)) [((dRaise x (max x.exp y.exp)).1),((dRaise y (max x.exp y.exp)).1)]).a),vi ((rIf1 (rSub ((dRaise x (max x.exp y.exp)).1) ((dRaise y (max x.exp y.exp)).1)) [((dRaise x (max x.exp y.exp)).1),((dRaise y (max x.exp y.exp)).1)]).b),vi ((rIf1 (rSub ((dRaise x (max x.exp y.exp)).1) ((dRaise y (max x.exp y.exp)).1)) [((dRaise x (max x.exp y.exp)).1),((dRaise y (max x.exp y.exp)).1)]).c),vi ((rIf1 (rSub ((dRaise x (max x.exp y.exp)).1) ((dRaise y (max x.exp y.exp)).1)) [((dRaise x (max x.exp y.exp)).1),((dRaise y (max x.exp y.exp)).1)]).d)],.bool (rIf2 (rSub ((dRaise x (max x.exp y.exp)).1) ((dRaise y (max x.exp y.exp)).1)) [((dRaise x (max x.exp y.exp)).1),((dRaise y (max x.exp y.exp)).1)])]) rfl rfl)<|Ze (X1 (vs:=[.agg #[vi ((rIf1 (rSub ((dRaise x (max x.exp y.exp)).1) ((dRaise y (max x.exp y.exp)).1)) [((dRaise x (max x.exp y.exp)).1),((dRaise y (max x.exp y.exp)).1)]).a),vi ((rIf1 (rSub ((dRaise x (max x.exp y.exp)).1) ((dRaise y (max x.exp y.exp)).1)) [((dRaise x (max x.exp y.exp)).1),((dRaise y (max x.exp y.exp)).1)]).b),vi ((rIf1 (rSub ((dRaise x (max x.exp y.exp)).1) ((dRaise y (max x.exp y.exp)).1)) [((dRaise x (max x.exp y.exp)).1),((dRaise y (max x.exp y.exp)).1)]).c),vi ((rIf1 (rSub ((dRaise x (max x.exp y.exp)).1) ((dRaise y (max x.exp y.exp)).1)) [((dRaise x (max x.exp y.exp)).1),((dRaise y (max x.exp y.exp)).1)]).d)],.bool (rIf2 (rSub ((dRaise x (max x.exp y.exp)).1) ((dRaise y (max x.exp y.exp)).1)) [((dRaise x (max x.exp y.exp)).1),((dRaise y (max x.exp y.exp)).1)])]) rfl rfl)<|Zf (X3 (zs:=[vi 0,vi 0,vi 0,vi 0]) X1y rfl) ?_;rintro _ bK ⟨b16,rfl,aP,g,A⟩
 have aG:aK≠b16:=by have:=i.lt;omega
 have aH:b14≠b16:=by have:=u.lt;omega
 have aD:=Q0 f.size aP;have e:=e.below g;have f:=btr f g;refine Zo (Vw [vi ((rIf1 (rSub ((dRaise x (max x.exp y.exp)).1) ((dRaise y (max x.exp y.exp)).1)) [((dRaise x (max x.exp y.exp)).1),((dRaise y (max x.exp y.exp)).1)]).a),vi ((rIf1 (rSub ((dRaise x (max x.exp y.exp)).1) ((dRaise y (max x.exp y.exp)).1)) [((dRaise x (max x.exp y.exp)).1),((dRaise y (max x.exp y.exp)).1)]).b),vi ((rIf1 (rSub ((dRaise x (max x.exp y.exp)).1) ((dRaise y (max x.exp y.exp)).1)) [((dRaise x (max x.exp y.exp)).1),((dRaise y (max x.exp y.exp)).1)]).c),vi ((rIf1 (rSub ((dRaise x (max x.exp y.exp)).1) ((dRaise y (max x.exp y.exp)).1)) [((dRaise x (max x.exp y.exp)).1),((dRaise y (max x.exp y.exp)).1)]).d)] X0w A) ?_;rintro _ b8 ⟨h,E⟩;have o:=A;have e:=e.only h (Blk.ne e o rfl);have f:=Below.only f h aD;have A:=E;refine Za rfl<|ZX aO fun a k _ aQ=>?_;refine Q5 fun _ aR=>?_;refine X02 (fun a w=>Fr a 64 [(6,.pointer (some ⟨b4,0,none⟩)),(8,vi (max x.exp y.exp)),(13,.pointer (some ⟨b16,0,none⟩)),(57,.bool (((!((dRaise x (max x.exp y.exp)).2))||(!((dRaise y (max x.exp y.exp)).2)))||(!(rIf2 (rSub ((dRaise x (max x.exp y.exp)).1) ((dRaise y (max x.exp y.exp)).1)) [((dRaise x (max x.exp y.exp)).1),((dRaise y (max x.exp y.exp)).1)]))))]∧b8=w) ?_ ?_
 ·refine Zr k<|Zm rfl<|Ze (X0o rfl)<|Zm rfl ?_
  refine Zg 50 rfl (fun j=>?_) (fun j=>?_)
  ·refine Zp (gP j) ?_;refine Zp (gP j) ?_;refine Ze (Xe rfl j rfl)<|Zm rfl<|Zp (gP rfl) ?_;refine Zp (gP rfl) ?_;refine Ze (Xe rfl rfl rfl) ?_;refine Zn fun a k=>?_;exact ⟨k.sub ⟨rfl,rfl,rfl,X2 rfl (by first|rfl|(simp only [t,j,bs];done)|simp [t,j]),trivial⟩,rfl⟩
  refine Zv (gW j) (X7 rfl) ?_;refine Zv (gW j) (X0o rfl) ?_;refine Ze (Xc rfl j rfl)<|Zm rfl ?_
  refine Zg 54 rfl (fun n=>?_) (fun n=>?_)
  ·refine Zp (gP n) ?_;refine Zp (gP n) ?_;refine Ze (Xe rfl n rfl) ?_;refine Zn fun a k=>?_;exact ⟨k.sub ⟨rfl,rfl,rfl,X2 rfl (by first|rfl|(simp only [t,j,n,bs];done)|simp [t,j,n]),trivial⟩,rfl⟩
  refine Zv (gW n) (X7 rfl) ?_;refine Zv (gW n) (X0o rfl) ?_;refine Ze (Xc rfl n rfl) ?_;refine Zn fun a k=>?_;exact ⟨k.sub ⟨rfl,rfl,rfl,X2 rfl (by first|rfl|(simp only [t,j,n,bs];done)|simp [t,j,n]),trivial⟩,rfl⟩
 rintro a _ ⟨k,rfl⟩;refine aR _ _ ?_
 refine Xl k rfl (fun z=>?_) (fun z=>?_)
 ·have aE:=z;have b9:=X88 z;refine Zs k fun _ aS=>?_;refine Ze (Xg (ps:=[]) (cs:=[vi 0,vi 0,vi 0,vi 0,vi 0]) rfl (fun _=>by first|rfl|kernel_rfl))<|Zo (Vw [vi 0,vi 0,vi 0,vi 0,vi 0] Xd e) ?_;rintro _ bL ⟨h,E⟩;have o:=e;have f:=Below.only f h C;have e:=E;refine Za rfl<|Zt aS fun a k=>?_;refine Q6<|Xf<|X4 k (X0r k rfl (ResV.cellN (l:=[vi 0,vi 0,vi 0,vi 0,vi 0]) rfl X6 (e.at 0) rfl) rfl) ?_;exact ⟨by rw [dSubI,Q4 hy,b9];rfl,f⟩
 have aE:=z;have bC:=Xad z;refine Q7<|aQ _ _<|Zs k fun _ aT=>?_;refine Ze (Vn Xv A)<|Zm rfl<|Zf (Vc (Xv6 _ (rIf1 (rSub ((dRaise x (max x.exp y.exp)).1) ((dRaise y (max x.exp y.exp)).1)) [((dRaise x (max x.exp y.exp)).1),((dRaise y (max x.exp y.exp)).1)]) (max x.exp y.exp)) Xf3) ?_;rintro _ bM ⟨rfl,g⟩;have e:=e.below g;have f:=btr f g;refine Ze (X1 (vs:=[.agg #[vi (((dOf (rIf1 (rSub ((dRaise x (max x.exp y.exp)).1) ((dRaise y (max x.exp y.exp)).1)) [((dRaise x (max x.exp y.exp)).1),((dRaise y (max x.exp y.exp)).1)]) (max x.exp y.exp)).getD dZ).num.a),vi (((dOf (rIf1 (rSub ((dRaise x (max x.exp y.exp)).1) ((dRaise y (max x.exp y.exp)).1)) [((dRaise x (max x.exp y.exp)).1),((dRaise y (max x.exp y.exp)).1)]) (max x.exp y.exp)).getD dZ).num.b),vi (((dOf (rIf1 (rSub ((dRaise x (max x.exp y.exp)).1) ((dRaise y (max x.exp y.exp)).1)) [((dRaise x (max x.exp y.exp)).1),((dRaise y (max x.exp y.exp)).1)]) (max x.exp y.exp)).getD dZ).num.c),vi (((dOf (rIf1 (rSub ((dRaise x (max x.exp y.exp)).1) ((dRaise y (max x.exp y.exp)).1)) [((dRaise x (max x.exp y.exp)).1),((dRaise y (max x.exp y.exp)).1)]) (max x.exp y.exp)).getD dZ).num.d),vi (((dOf (rIf1 (rSub ((dRaise x (max x.exp y.exp)).1) ((dRaise y (max x.exp y.exp)).1)) [((dRaise x (max x.exp y.exp)).1),((dRaise y (max x.exp y.exp)).1)]) (max x.exp y.exp)).getD dZ).exp)],.bool ((dOf (rIf1 (rSub ((dRaise x (max x.exp y.exp)).1) ((dRaise y (max x.exp y.exp)).1)) [((dRaise x (max x.exp y.exp)).1),((dRaise y (max x.exp y.exp)).1)]) (max x.exp y.exp)).isSome)]) rfl rfl)<|Ze (X1 (vs:=[.agg #[vi (((dOf (rIf1 (rSub ((dRaise x (max x.exp y.exp)).1) ((dRaise y (max x.exp y.exp)).1)) [((dRaise x (max x.exp y.exp)).1),((dRaise y (max x.exp y.exp)).1)]) (max x.exp y.exp)).getD dZ).num.a),vi (((dOf (rIf1 (rSub ((dRaise x (max x.exp y.exp)).1) ((dRaise y (max x.exp y.exp)).1)) [((dRaise x (max x.exp y.exp)).1),((dRaise y (max x.exp y.exp)).1)]) (max x.exp y.exp)).getD dZ).num.b),vi (((dOf (rIf1 (rSub ((dRaise x (max x.exp y.exp)).1) ((dRaise y (max x.exp y.exp)).1)) [((dRaise x (max x.exp y.exp)).1),((dRaise y (max x.exp y.exp)).1)]) (max x.exp y.exp)).getD dZ).num.c),vi (((dOf (rIf1 (rSub ((dRaise x (max x.exp y.exp)).1) ((dRaise y (max x.exp y.exp)).1)) [((dRaise x (max x.exp y.exp)).1),((dRaise y (max x.exp y.exp)).1)]) (max x.exp y.exp)).getD dZ).num.d),vi (((dOf (rIf1 (rSub ((dRaise x (max x.exp y.exp)).1) ((dRaise y (max x.exp y.exp)).1)) [((dRaise x (max x.exp y.exp)).1),((dRaise y (max x.exp y.exp)).1)]) (max x.exp y.exp)).getD dZ).exp)],.bool ((dOf (rIf1 (rSub ((dRaise x (max x.exp y.exp)).1) ((dRaise y (max x.exp y.exp)).1)) [((dRaise x (max x.exp y.exp)).1),((dRaise y (max x.exp y.exp)).1)]) (max x.exp y.exp)).isSome)]) rfl rfl)<|Zo (Vw [vi (((dOf (rIf1 (rSub ((dRaise x (max x.exp y.exp)).1) ((dRaise y (max x.exp y.exp)).1)) [((dRaise x (max x.exp y.exp)).1),((dRaise y (max x.exp y.exp)).1)]) (max x.exp y.exp)).getD dZ).num.a),vi (((dOf (rIf1 (rSub ((dRaise x (max x.exp y.exp)).1) ((dRaise y (max x.exp y.exp)).1)) [((dRaise x (max x.exp y.exp)).1),((dRaise y (max x.exp y.exp)).1)]) (max x.exp y.exp)).getD dZ).num.b),vi (((dOf (rIf1 (rSub ((dRaise x (max x.exp y.exp)).1) ((dRaise y (max x.exp y.exp)).1)) [((dRaise x (max x.exp y.exp)).1),((dRaise y (max x.exp y.exp)).1)]) (max x.exp y.exp)).getD dZ).num.c),vi (((dOf (rIf1 (rSub ((dRaise x (max x.exp y.exp)).1) ((dRaise y (max x.exp y.exp)).1)) [((dRaise x (max x.exp y.exp)).1),((dRaise y (max x.exp y.exp)).1)]) (max x.exp y.exp)).getD dZ).num.d),vi (((dOf (rIf1 (rSub ((dRaise x (max x.exp y.exp)).1) ((dRaise y (max x.exp y.exp)).1)) [((dRaise x (max x.exp y.exp)).1),((dRaise y (max x.exp y.exp)).1)]) (max x.exp y.exp)).getD dZ).exp)] Xd e) ?_;rintro _ bN ⟨h,E⟩
 have o:=e;have f:=Below.only f h C;have e:=E;refine Za rfl<|Zt aT fun a k=>?_
 refine Q6 (X4 k (X0r k rfl (ResV.cellN (l:=[vi (((dOf (rIf1 (rSub ((dRaise x (max x.exp y.exp)).1) ((dRaise y (max x.exp y.exp)).1)) [((dRaise x (max x.exp y.exp)).1),((dRaise y (max x.exp y.exp)).1)]) (max x.exp y.exp)).getD dZ).num.a),vi (((dOf (rIf1 (rSub ((dRaise x (max x.exp y.exp)).1) ((dRaise y (max x.exp y.exp)).1)) [((dRaise x (max x.exp y.exp)).1),((dRaise y (max x.exp y.exp)).1)]) (max x.exp y.exp)).getD dZ).num.b),vi (((dOf (rIf1 (rSub ((dRaise x (max x.exp y.exp)).1) ((dRaise y (max x.exp y.exp)).1)) [((dRaise x (max x.exp y.exp)).1),((dRaise y (max x.exp y.exp)).1)]) (max x.exp y.exp)).getD dZ).num.c),vi (((dOf (rIf1 (rSub ((dRaise x (max x.exp y.exp)).1) ((dRaise y (max x.exp y.exp)).1)) [((dRaise x (max x.exp y.exp)).1),((dRaise y (max x.exp y.exp)).1)]) (max x.exp y.exp)).getD dZ).num.d),vi (((dOf (rIf1 (rSub ((dRaise x (max x.exp y.exp)).1) ((dRaise y (max x.exp y.exp)).1)) [((dRaise x (max x.exp y.exp)).1),((dRaise y (max x.exp y.exp)).1)]) (max x.exp y.exp)).getD dZ).exp)]) rfl X6 (e.at 0) rfl) rfl) ?_)
 exact ⟨by rw [dSubI,Q4 hy,bC];rfl,f⟩
theorem Xr6(w0:World)(x:Dy)(y:Dy) : Ret Tryz.prog 133 [.agg #[vi x.num.a,vi x.num.b,vi x.num.c,vi x.num.d,vi x.exp],.agg #[vi y.num.a,vi y.num.b,vi y.num.c,vi y.num.d,vi y.exp]] w0 (fun v w=>v=.tuple #[dV ((dSubI x y).getD dZ),.bool ((dSubI x y).isSome)]∧Below w0.heap.size w0 w):=by
 refine enter Tryz.func133 rfl 11 rfl rfl ?_;intro a hf
 have f:=bz w0
 refine Zs hf fun _ aE=>?_;refine Zf (X0j (zs:=[vi x.num.a,vi x.num.b,vi x.num.c,vi x.num.d,vi x.exp]) rfl rfl) ?_;rintro _ w1 ⟨b2,rfl,aF,i,e⟩;have aJ:=Q0 f.size aF;have f:=btr f i;refine Zf (X0j (zs:=[vi y.num.a,vi y.num.b,vi y.num.c,vi y.num.d,vi y.exp]) rfl rfl) ?_;rintro _ w2 ⟨b3,rfl,aG,i,j⟩
 have aB:b2≠b3:=by have:=e.lt;omega
 have aK:=Q0 f.size aG;have e:=e.below i;have f:=btr f i;refine Zf (X3 (zs:=[vi 0,vi 0,vi 0,vi 0,vi 0]) X0n rfl) ?_;rintro _ w3 ⟨b4,rfl,aH,i,g⟩
 have aC:b2≠b4:=by have:=e.lt;omega
 have aD:b3≠b4:=by have:=j.lt;omega
 have aA:=Q0 f.size aH;have e:=e.below i;have j:=j.below i;have f:=btr f i;refine Za rfl<|Zx aE fun a hf _ aI=>?_;refine Ze (Vn X6 e)<|Ze (Vn X6 j)<|Zf (X1d (vs:=[.agg #[vi x.num.a,vi x.num.b,vi x.num.c,vi x.num.d,vi x.exp],.agg #[vi y.num.a,vi y.num.b,vi y.num.c,vi y.num.d,vi y.exp],.func (.func 157) #[] #[]]) rfl Xl4 (Xzz _ x y)) ?_;rintro _ w4 ⟨rfl,i⟩;have g:=g.below i;have f:=btr f i;refine Ze (X1 (vs:=[.agg #[vi (((dSubI x y).getD dZ).num.a),vi (((dSubI x y).getD dZ).num.b),vi (((dSubI x y).getD dZ).num.c),vi (((dSubI x y).getD dZ).num.d),vi (((dSubI x y).getD dZ).exp)],.bool ((dSubI x y).isSome)]) rfl rfl)<|Ze (X1 (vs:=[.agg #[vi (((dSubI x y).getD dZ).num.a),vi (((dSubI x y).getD dZ).num.b),vi (((dSubI x y).getD dZ).num.c),vi (((dSubI x y).getD dZ).num.d),vi (((dSubI x y).getD dZ).exp)],.bool ((dSubI x y).isSome)]) rfl rfl)<|Zo (Vw [vi (((dSubI x y).getD dZ).num.a),vi (((dSubI x y).getD dZ).num.b),vi (((dSubI x y).getD dZ).num.c),vi (((dSubI x y).getD dZ).num.d),vi (((dSubI x y).getD dZ).exp)] Xd g) ?_;rintro _ w5 ⟨ho,hb⟩;have aL:=g;have f:=Below.only f ho aA;have g:=hb;refine Za rfl<|Zt aI fun a hf=>?_
 refine Q6 (X4 hf (X0r hf rfl (ResV.cellN (l:=[vi (((dSubI x y).getD dZ).num.a),vi (((dSubI x y).getD dZ).num.b),vi (((dSubI x y).getD dZ).num.c),vi (((dSubI x y).getD dZ).num.d),vi (((dSubI x y).getD dZ).exp)]) rfl X6 (g.at 0) rfl) rfl) ?_)
 exact ⟨rfl,f⟩
theorem Xry(w0:World)(p q r t:Int)(aD:Tri p)(aE:Tri q)(aF:Tri r)(aG:Tri t) : Ret Tryz.prog 132 [.agg #[vi ((dO p 0).num.a),vi ((dO p 0).num.b),vi ((dO p 0).num.c),vi ((dO p 0).num.d),vi ((dO p 0).exp)],.agg #[vi ((dO q 0).num.a),vi ((dO q 0).num.b),vi ((dO q 0).num.c),vi ((dO q 0).num.d),vi ((dO q 0).exp)],.agg #[vi ((dO r 0).num.a),vi ((dO r 0).num.b),vi ((dO r 0).num.c),vi ((dO r 0).num.d),vi ((dO r 0).exp)],.agg #[vi ((dO t 0).num.a),vi ((dO t 0).num.b),vi ((dO t 0).num.c),vi ((dO t 0).num.d),vi ((dO t 0).exp)]] w0 (fun v w=>v=.tuple #[dV (dO (p*t-q*r) 0),.bool true]∧Below w0.heap.size w0 w):=by
 refine enter Tryz.func132 rfl 42 rfl rfl ?_;intro a y
 have g:=bz w0
 refine Zs y fun _ bH=>?_;refine Zf (X0j (zs:=[vi ((dO p 0).num.a),vi ((dO p 0).num.b),vi ((dO p 0).num.c),vi ((dO p 0).num.d),vi ((dO p 0).exp)]) rfl rfl) ?_;rintro _ w1 ⟨b2,rfl,bI,f,k⟩;have bR:=Q0 g.size bI;have g:=btr g f;refine Zf (X0j (zs:=[vi ((dO q 0).num.a),vi ((dO q 0).num.b),vi ((dO q 0).num.c),vi ((dO q 0).num.d),vi ((dO q 0).exp)]) rfl rfl) ?_;rintro _ w2 ⟨b3,rfl,bJ,f,i⟩
 have aT:b2≠b3:=by have:=k.lt;omega
 have bS:=Q0 g.size bJ;have k:=k.below f;have g:=btr g f;refine Zf (X0j (zs:=[vi ((dO r 0).num.a),vi ((dO r 0).num.b),vi ((dO r 0).num.c),vi ((dO r 0).num.d),vi ((dO r 0).exp)]) rfl rfl) ?_;rintro _ w3 ⟨b4,rfl,bK,f,j⟩
 have aU:b2≠b4:=by have:=k.lt;omega
 have aW:b3≠b4:=by have:=i.lt;omega
 have bU:=Q0 g.size bK;have k:=k.below f;have i:=i.below f;have g:=btr g f;refine Zf (X0j (zs:=[vi ((dO t 0).num.a),vi ((dO t 0).num.b),vi ((dO t 0).num.c),vi ((dO t 0).num.d),vi ((dO t 0).exp)]) rfl rfl) ?_;rintro _ w4 ⟨b5,rfl,bL,f,u⟩
 have aX:b2≠b5:=by have:=k.lt;omega
 have aY:b3≠b5:=by have:=i.lt;omega
 have aZ:b4≠b5:=by have:=j.lt;omega
 have bW:=Q0 g.size bL;have k:=k.below f;have i:=i.below f;have j:=j.below f;have g:=btr g f;refine Zf (X3 (zs:=[vi 0,vi 0,vi 0,vi 0,vi 0]) X0n rfl) ?_;rintro _ w5 ⟨b6,rfl,bM,f,e⟩
 have b0:b2≠b6:=by have:=k.lt;omega
 have b1:b3≠b6:=by have:=i.lt;omega
 have b7:b4≠b6:=by have:=j.lt;omega
 have b9:b5≠b6:=by have:=u.lt;omega
 have aH:=Q0 g.size bM;have k:=k.below f;have i:=i.below f;have j:=j.below f;have u:=u.below f;have g:=btr g f;refine Za rfl<|Zx bH fun a y _ bN=>?_;refine Ze (Vn X6 k)<|Ze (Vn X6 u)<|Zf (X1d (vs:=[.agg #[vi ((dO p 0).num.a),vi ((dO p 0).num.b),vi ((dO p 0).num.c),vi ((dO p 0).num.d),vi ((dO p 0).exp)],.agg #[vi ((dO t 0).num.a),vi ((dO t 0).num.b),vi ((dO t 0).num.c),vi ((dO t 0).num.d),vi ((dO t 0).exp)]]) rfl X4l (by have h:=Xas w5 (dO p 0) (dO t 0);rw [Xhn aD aG,Qq,Option.isSome_some] at h;exact h)) ?_;rintro _ w6 ⟨rfl,f⟩;have k:=k.below f;have i:=i.below f;have j:=j.below f;have u:=u.below f;have e:=e.below f;have g:=btr g f;refine Zm rfl<|Ze (X1 (vs:=[.agg #[vi ((dO (p*t) 0).num.a),vi ((dO (p*t) 0).num.b),vi ((dO (p*t) 0).num.c),vi ((dO (p*t) 0).num.d),vi ((dO (p*t) 0).exp)],.bool true]) rfl rfl)<|Ze (X1 (vs:=[.agg #[vi ((dO (p*t) 0).num.a),vi ((dO (p*t) 0).num.b),vi ((dO (p*t) 0).num.c),vi ((dO (p*t) 0).num.d),vi ((dO (p*t) 0).exp)],.bool true]) rfl rfl)<|Zf (X3 (zs:=[vi 0,vi 0,vi 0,vi 0,vi 0]) X0n rfl) ?_;rintro _ w7 ⟨b8,rfl,bO,f,m⟩
 have bC:b2≠b8:=by have:=k.lt;omega
 have bD:b3≠b8:=by have:=i.lt;omega
 have bE:b4≠b8:=by have:=j.lt;omega
 have bF:b5≠b8:=by have:=u.lt;omega
 have bG:b6≠b8:=by have:=e.lt;omega
 have aI:=Q0 g.size bO;have i:=i.below f;have j:=j.below f;have e:=e.below f;have g:=btr g f;refine Zo (Vw [vi ((dO (p*t) 0).num.a),vi ((dO (p*t) 0).num.b),vi ((dO (p*t) 0).num.c),vi ((dO (p*t) 0).num.d),vi ((dO (p*t) 0).exp)] Xd m) ?_;rintro _ w8 ⟨x,hb⟩;have z:=m;have i:=i.only x (by omega);have j:=j.only x (by omega);have e:=e.only x (by omega);have g:=Below.only g x aI;have m:=hb;refine Za rfl<|Zx bN fun a y _ bP=>?_;refine Ze (Vn X6 i)<|Ze (Vn X6 j)<|Zf (X1d (vs:=[.agg #[vi ((dO q 0).num.a),vi ((dO q 0).num.b),vi ((dO q 0).num.c),vi ((dO q 0).num.d),vi ((dO q 0).exp)],.agg #[vi ((dO r 0).num.a),vi ((dO r 0).num.b),vi ((dO r 0).num.c),vi ((dO r 0).num.d),vi ((dO r 0).exp)]]) rfl X4l (by have h:=Xas w8 (dO q 0) (dO r 0);rw [Xhn aE aF,Qq,Option.isSome_some] at h;exact h)) ?_;rintro _ w9 ⟨rfl,f⟩;have i:=i.below f;have j:=j.below f;have e:=e.below f;have m:=m.below f;have g:=btr g f;refine Zm rfl<|Ze (X1 (vs:=[.agg #[vi ((dO (q*r) 0).num.a),vi ((dO (q*r) 0).num.b),vi ((dO (q*r) 0).num.c),vi ((dO (q*r) 0).num.d),vi ((dO (q*r) 0).exp)],.bool true]) rfl rfl)<|Ze (X1 (vs:=[.agg #[vi ((dO (q*r) 0).num.a),vi ((dO (q*r) 0).num.b),vi ((dO (q*r) 0).num.c),vi ((dO (q*r) 0).num.d),vi ((dO (q*r) 0).exp)],.bool true]) rfl rfl)<|Zf (X3 (zs:=[vi 0,vi 0,vi 0,vi 0,vi 0]) X0n rfl) ?_;rintro _ bZ ⟨b10,rfl,aJ,f,o⟩
 have aK:b3≠b10:=by have:=i.lt;omega
 have aL:b4≠b10:=by have:=j.lt;omega
 have aM:b6≠b10:=by have:=e.lt;omega
 have aN:b8≠b10:=by have:=m.lt;omega
 have aA:=Q0 g.size aJ;have e:=e.below f;have m:=m.below f;have g:=btr g f;refine Zo (Vw [vi ((dO (q*r) 0).num.a),vi ((dO (q*r) 0).num.b),vi ((dO (q*r) 0).num.c),vi ((dO (q*r) 0).num.d),vi ((dO (q*r) 0).exp)] Xd o) ?_;rintro _ bQ ⟨x,hb⟩;have z:=o;have e:=e.only x (by omega);have m:=m.only x (by omega);have g:=Below.only g x aA;have o:=hb;refine Za rfl<|Zx bP fun a y _ aO=>?_;refine Ze (Vn X6 m)<|Ze (Vn X6 o)<|Zf (X1d (vs:=[.agg #[vi ((dO (p*t) 0).num.a),vi ((dO (p*t) 0).num.b),vi ((dO (p*t) 0).num.c),vi ((dO (p*t) 0).num.d),vi ((dO (p*t) 0).exp)],.agg #[vi ((dO (q*r) 0).num.a),vi ((dO (q*r) 0).num.b),vi ((dO (q*r) 0).num.c),vi ((dO (q*r) 0).num.d),vi ((dO (q*r) 0).exp)]]) rfl Xhs (by have h:=Xr6 bQ (dO (p*t) 0) (dO (q*r) 0);rw [Xqr aD aG aE aF,Qq,Option.isSome_some] at h;exact h)) ?_;rintro _ cA ⟨rfl,f⟩;have e:=e.below f;have m:=m.below f;have o:=o.below f;have g:=btr g f;refine Zm rfl<|Ze (X1 (vs:=[.agg #[vi ((dO (p*t-q*r) 0).num.a),vi ((dO (p*t-q*r) 0).num.b),vi ((dO (p*t-q*r) 0).num.c),vi ((dO (p*t-q*r) 0).num.d),vi ((dO (p*t-q*r) 0).exp)],.bool true]) rfl rfl)<|Ze (X1 (vs:=[.agg #[vi ((dO (p*t-q*r) 0).num.a),vi ((dO (p*t-q*r) 0).num.b),vi ((dO (p*t-q*r) 0).num.c),vi ((dO (p*t-q*r) 0).num.d),vi ((dO (p*t-q*r) 0).exp)],.bool true]) rfl rfl)<|Zf (X3 (zs:=[vi 0,vi 0,vi 0,vi 0,vi 0]) X0n rfl) ?_;rintro _ cB ⟨b12,rfl,aP,f,n⟩
 have aQ:b6≠b12:=by have:=e.lt;omega
 have aR:b8≠b12:=by have:=m.lt;omega
 have aC:b10≠b12:=by have:=o.lt;omega
 have aB:=Q0 g.size aP;have e:=e.below f;have g:=btr g f;refine Zo (Vw [vi ((dO (p*t-q*r) 0).num.a),vi ((dO (p*t-q*r) 0).num.b),vi ((dO (p*t-q*r) 0).num.c),vi ((dO (p*t-q*r) 0).num.d),vi ((dO (p*t-q*r) 0).exp)] Xd n) ?_;rintro _ cC ⟨x,hb⟩;have z:=n;have e:=e.only x (by omega);have g:=Below.only g x aB;have n:=hb;refine Za rfl<|ZX aO fun a y _ aS=>?_;refine X02 (fun a w=>Fr a 42 [(8,.pointer (some ⟨b6,0,none⟩)),(9,.bool true)]∧Blk w b6 53 [vi ((dO (p*t-q*r) 0).num.a),vi ((dO (p*t-q*r) 0).num.b),vi ((dO (p*t-q*r) 0).num.c),vi ((dO (p*t-q*r) 0).num.d),vi ((dO (p*t-q*r) 0).exp)]∧Blk w b12 53 [vi ((dO (p*t-q*r) 0).num.a),vi ((dO (p*t-q*r) 0).num.b),vi ((dO (p*t-q*r) 0).num.c),vi ((dO (p*t-q*r) 0).num.d),vi ((dO (p*t-q*r) 0).exp)]∧Below w0.heap.size w0 w) ?_ ?_
 ·refine Zr y<|Ze (Vn X6 n)<|Zm rfl<|Zm rfl<|Zv (gW rfl) (X7 rfl) ?_;refine Ze (Xe rfl rfl rfl)<|Zm rfl<|Zv (gW rfl) (X7 rfl) ?_;refine Ze (Xe rfl rfl rfl)<|Zo (Vw [vi ((dO (p*t-q*r) 0).num.a),vi ((dO (p*t-q*r) 0).num.b),vi ((dO (p*t-q*r) 0).num.c),vi ((dO (p*t-q*r) 0).num.d),vi ((dO (p*t-q*r) 0).exp)] Xd e) ?_;rintro _ cD ⟨x,hb⟩;have z:=e;have n:=n.only x (by omega);have g:=Below.only g x aH;have e:=hb;refine Za rfl ?_;refine Zn fun a y=>?_;exact ⟨y.sb,e,n,g⟩
 rintro a cE ⟨y,e,n,g⟩;refine aS _ _ ?_
 refine Q6 (X4 y (X0r y rfl (ResV.cellN (l:=[vi ((dO (p*t-q*r) 0).num.a),vi ((dO (p*t-q*r) 0).num.b),vi ((dO (p*t-q*r) 0).num.c),vi ((dO (p*t-q*r) 0).num.d),vi ((dO (p*t-q*r) 0).exp)]) rfl X6 (e.at 0) rfl) rfl) ?_)
 exact ⟨rfl,g⟩
theorem Xx5(N:World)(Al:Option Addr)(cl:Nat)(l:List Dy)(y:Rd N N.heap.size 53 encD Al l)(q:List Int)(L:SmB q)(bF:l=intB q) : Ret Tryz.prog 99 [.slice Al l.length cl] N (fun v w=>v=.tuple #[dV (dO (dtN q 3) 0),.bool true]∧Below N.heap.size N w):=by
 have fR:l.length=9:=by rw [bF];exact L.blen
 refine enter Tryz.func99 rfl 88 rfl rfl ?_;intro a m
 have i:=bz N
 refine Zs m fun _ fE=>?_;refine Zf (X3 (zs:=[vi 0,vi 0,vi 0,vi 0,vi 0]) X0n rfl) ?_;rintro _ w1 ⟨G,rfl,dH,g,e⟩;have dI:=Q0 i.size dH;have fB:=(y.below' i).away dH;have i:=btr i g;refine Za rfl<|Zx fE fun a m _ fF=>?_;refine Ze (Xg (ps:=[]) (cs:=[vi 0,vi 0,vi 0,vi 0,vi 0]) rfl (fun _=>by first|rfl|kernel_rfl))<|Zf (X3 (zs:=[vi 0,vi 0,vi 0,vi 0,vi 0]) X0n rfl) ?_;rintro _ w2 ⟨b5,rfl,dJ,g,f⟩
 have fC:G≠b5:=by have:=e.lt;omega
 have aR:=Q0 i.size dJ;have fD:=(y.below' i).away dJ;have e:=e.below g;have i:=btr i g;refine Zo (Vw [vi 0,vi 0,vi 0,vi 0,vi 0] Xd f) ?_;rintro _ w3 ⟨E,hb⟩;have H:=f;have e:=e.only E (by omega);have i:=Below.only i E aR;have f:=hb;refine ZX fF fun a m _ fG=>?_;refine Zs m fun _ fH=>?_;refine Zm rfl<|Zt fH fun a m=>?_;refine Q8<|X07 (σ:=Nat) (fun (k:Nat) (a:Act) (w:World)=>Fr a 88 [(0,.slice Al l.length cl),(2,.pointer (some ⟨G,0,none⟩)),(4,.pointer (some ⟨b5,0,none⟩)),(16,vi (k:Int))]∧(k≤3)∧Blk w G 53 [vi 0,vi 0,vi 0,vi 0,vi 0]∧Blk w b5 53 [vi ((dO (dtN q k) 0).num.a),vi ((dO (dtN q k) 0).num.b),vi ((dO (dtN q k) 0).num.c),vi ((dO (dtN q k) 0).num.d),vi ((dO (dtN q k) 0).exp)]∧Below N.heap.size N w) (fun (k:Nat)=>3-k) 0 ?_ ?_
 ·exact ⟨m.sb,(by omega),e,f,i⟩
 rintro k a w4 ⟨m,hk,e,f,i⟩;refine Zs m fun _ fI=>?_;refine Ze (X1h rfl rfl)<|ZX fI fun a m _ fJ=>?_
 refine Xl m rfl (fun C=>?_) (fun C=>?_)
 ·have bR:=C;have C:=Q2 C
  have A:k<3:=by have:=C;omega
  refine Q7<|fJ _ _<|Q5 fun _ bI=>?_;refine Q8<|Zs m fun _ dK=>?_;refine Zm rfl<|Za rfl<|Zx dK fun a m _ dL=>?_;refine Zf (Xb (k:=0) (vs:=[]) (zs:=[]) rfl X01 X13 rfl rfl) ?_;rintro _ w5 ⟨b14,rfl,bJ,g,dM⟩
  have dN:G≠b14:=by have:=e.lt;omega
  have dP:b5≠b14:=by have:=f.lt;omega
  have bS:=Q0 i.size bJ;have dQ:=(y.below' i).away bJ;have e:=e.below g;have f:=f.below g;have i:=btr i g;refine Za rfl<|ZX dL fun a m _ dR=>?_;refine Zs m fun _ dS=>?_;refine Zm rfl<|Zt dS fun a m=>?_;refine Q8<|X07 (σ:=Nat×(List Dy)) (fun (s:Nat×(List Dy)) (a:Act) (w:World)=>match s with|(j,r)=>∃ aF bG,Fr a 88 [(0,.slice Al l.length cl),(2,.pointer (some ⟨G,0,none⟩)),(4,.pointer (some ⟨b5,0,none⟩)),(5,vi (k:Int)),(6,.slice aF r.length bG),(16,vi (k:Int)),(20,vi (j:Int))]∧(j≤3)∧(r=intB (rstN q k j))∧Blk w G 53 [vi 0,vi 0,vi 0,vi 0,vi 0]∧Blk w b5 53 [vi ((dO (dtN q k) 0).num.a),vi ((dO (dtN q k) 0).num.b),vi ((dO (dtN q k) 0).num.c),vi ((dO (dtN q k) 0).num.d),vi ((dO (dtN q k) 0).exp)]∧Own w N.heap.size 53 5 encD aF bG r∧Away aF G∧Away aF b5∧Below N.heap.size N w) (fun (s:Nat×(List Dy))=>match s with|(j,r)=>3-j) (0,[]) ?_ ?_
  ·exact ⟨some ⟨b14,0,none⟩,0,m.sb,(by omega),rfl,e,f,(Own.empty dM bS),(Away.ne (by omega)),(Away.ne (by omega)),i⟩
  rintro ⟨j,r⟩ a w6 ⟨aF,bG,m,hj,hr,e,f,p,I,J,i⟩;refine Zs m fun _ dT=>?_;refine Ze (X1h rfl rfl)<|ZX dT fun a m _ dU=>?_
  refine Xl m rfl (fun D=>?_) (fun D=>?_)
  ·have bU:=D;have D:=Q2 D
   have dW:j<3:=by have:=D;omega
   refine Q7<|dU _ _<|Q5 fun _ bK=>?_;refine Q8<|Zs m fun _ dX=>?_;refine Zm rfl<|Za rfl<|Zx dX fun a m _ dY=>?_;refine Zm rfl<|Zm rfl<|Ze (X4h rfl rfl)<|Zt dY fun a m=>?_
   refine Xl m rfl (fun Q=>?_) (fun Q=>?_)
   ·have bW:=Q
    have bZ:j≠k:=by have h9:=Q;simp at h9;omega
    have e7:=Xvv q k j
    rw [← hr] at e7
    have fQ:r.length≤6:=by have:r.length=(intB (rstN q k j)).length:=(by rw [hr]);omega
    refine Xz none (fun j=>[12].contains j) mixed ?_;intro w7 g;have e:=e.below g;have f:=f.below g;have p:=p.below g;have i:=btr i g;refine Yb m<|Yo 0 rfl (fun _=>X7 rfl)<|Yo 1 rfl (fun _=>X7 rfl)<|Yo 2 rfl (fun _=>X7 rfl)<|Yo 3 rfl (fun _=>X03 rfl rfl (by omega) (by omega))<|Yi (k:=(3+j)) (u:=(dO (q.getD (3+j) 0) 0)) (enc:=encD) (l:=l) 4 rfl trivial rfl rfl X01 Xd X06 (y.below' i) (by rw [bF];exact L.get (by omega)) (by omega) ?_;intro fS cA;refine Ye 5 rfl (X09 (l:=[vi ((dO (q.getD (3+j) 0) 0).num.a),vi ((dO (q.getD (3+j) 0) 0).num.b),vi ((dO (q.getD (3+j) 0) 0).num.c),vi ((dO (q.getD (3+j) 0) 0).num.d),vi ((dO (q.getD (3+j) 0) 0).exp)]) rfl X6 cA rfl)<|Yo 6 rfl (fun _=>X7 rfl)<|Yo 7 rfl (fun _=>X7 rfl)<|Yo 8 rfl (fun _=>X03 rfl rfl (by omega) (by omega))<|Yi (k:=(6+j)) (u:=(dO (q.getD (6+j) 0) 0)) (enc:=encD) (l:=l) 9 rfl trivial rfl rfl X01 Xd X06 (y.below' i) (by rw [bF];exact L.get (by omega)) (by omega) ?_;intro fT cB;refine Ye 10 rfl (X09 (l:=[vi ((dO (q.getD (6+j) 0) 0).num.a),vi ((dO (q.getD (6+j) 0) 0).num.b),vi ((dO (q.getD (6+j) 0) 0).num.c),vi ((dO (q.getD (6+j) 0) 0).num.d),vi ((dO (q.getD (6+j) 0) 0).exp)]) rfl X6 cB rfl)<|Y1 11 ?_;refine Yk rfl trivial (Xb (k:=2) (vs:=[.agg #[vi ((dO (q.getD (3+j) 0) 0).num.a),vi ((dO (q.getD (3+j) 0) 0).num.b),vi ((dO (q.getD (3+j) 0) 0).num.c),vi ((dO (q.getD (3+j) 0) 0).num.d),vi ((dO (q.getD (3+j) 0) 0).exp)],.agg #[vi ((dO (q.getD (6+j) 0) 0).num.a),vi ((dO (q.getD (6+j) 0) 0).num.b),vi ((dO (q.getD (6+j) 0) 0).num.c),vi ((dO (q.getD (6+j) 0) 0).num.d),vi ((dO (q.getD (6+j) 0) 0).exp)]]) (zs:=[vi ((dO (q.getD (3+j) 0) 0).num.a),vi ((dO (q.getD (3+j) 0) 0).num.b),vi ((dO (q.getD (3+j) 0) 0).num.c),vi ((dO (q.getD (3+j) 0) 0).num.d),vi ((dO (q.getD (3+j) 0) 0).exp),vi ((dO (q.getD (6+j) 0) 0).num.a),vi ((dO (q.getD (6+j) 0) 0).num.b),vi ((dO (q.getD (6+j) 0) 0).num.c),vi ((dO (q.getD (6+j) 0) 0).num.d),vi ((dO (q.getD (6+j) 0) 0).exp)]) rfl X01 X13 rfl rfl) (fun _ _ ⟨_,_,_,h,_⟩=>h) ?_;rintro _ w8 ⟨b30,rfl,aS,g,aT⟩
    have e8:G≠b30:=by have:=e.lt;omega
    have eA:b5≠b30:=by have:=f.lt;omega
    have fK:=Q0 i.size aS;have aM:=p.away aS;have eB:=(y.below' i).away aS;have e:=e.below g;have f:=f.below g;have p:=p.below g;have i:=btr i g;refine Y1 12<|Yt rfl trivial rfl (X0q (enc:=encD) (l:=(r)) (l2:=([(dO (q.getD (3+j) 0) 0),(dO (q.getD (6+j) 0) 0)])) (B0:=N.heap.size) rfl rfl X01 X13 X06 X2h p (Rd.of_blk aT rfl _ aT.lt) (by simp only [maxLen];simp;omega) (by simp;omega) i.size) ?_;rintro _ w9 ⟨fL,fM,rfl,eC,hg,bH⟩
    have bL:Own _ N.heap.size 53 5 encD _ _ (r):=p
    have aU:=bH _ e.lt I;have aW:=bH _ f.lt J;have dD:=bH _ aT.lt aM;clear bH;have e:=e.appA hg I;have f:=f.appA hg J;have i:=Below.app i bL hg (Qb _) i.size;clear bL hg;refine Yo 13 rfl (fun _=>X0i rfl) ?_;refine Yd fun a m=>?_;refine Xn<|bK _ _<|Zr m<|Ze (X03 rfl rfl (by omega) (by omega))<|Zm rfl ?_;refine Zn fun a m=>?_;refine Xo ?_;exact ⟨(j+1,r++([(dO (q.getD (3+j) 0) 0),(dO (q.getD (6+j) 0) 0)])),⟨fL,fM,m.sb,(by omega),(by rw [hr];exact Xkl bZ),e,f,eC,aU,aW,i⟩,(by first|omega|(dsimp only;omega))⟩
   have bW:=Q
   have bZ:j=k:=by have h9:=Q;simp at h9;omega
   refine Q7<|Xn<|bK _ _<|Zr m ?_;refine Ze (X03 rfl rfl (by omega) (by omega))<|Zm rfl ?_;refine Zn fun a m=>?_;refine Xo ?_;exact ⟨(j+1,r),⟨aF,bG,m.sb,(by omega),(by rw [hr];exact Xln bZ),e,f,p,I,J,i⟩,(by first|omega|(dsimp only;omega))⟩
  have bU:=D;have D:=Q1 D
  have dW:j=3:=by have:=D;omega
  subst dW
  have fU:r.length=4:=by rw [hr,Xhd A]
  refine Q9<|Xm<|Xm<|X08 ?_;refine dR _ _<|Q5 fun _ eD=>?_;refine X02 (fun a w=>∃ t,Fr a 88 [(0,.slice Al l.length cl),(2,.pointer (some ⟨G,0,none⟩)),(4,.pointer (some ⟨b5,0,none⟩)),(5,vi (k:Int)),(8,.pointer (some ⟨t,0,none⟩)),(9,.bool true),(16,vi (k:Int))]∧N.heap.size≤t∧Blk w t 53 [vi ((dO ((eN q k 0)*(eN q k 3)-(eN q k 2)*(eN q k 1)) 0).num.a),vi ((dO ((eN q k 0)*(eN q k 3)-(eN q k 2)*(eN q k 1)) 0).num.b),vi ((dO ((eN q k 0)*(eN q k 3)-(eN q k 2)*(eN q k 1)) 0).num.c),vi ((dO ((eN q k 0)*(eN q k 3)-(eN q k 2)*(eN q k 1)) 0).num.d),vi ((dO ((eN q k 0)*(eN q k 3)-(eN q k 2)*(eN q k 1)) 0).exp)]∧G≠t∧b5≠t∧Below w6.heap.size w6 w) ?_ ?_
  ·have n:Below w6.heap.size w6 w6:=Below.refl _ _
   refine Xz none (fun j=>[17].contains j) mixed ?_;intro w10 g;have e:=e.below g;have f:=f.below g;have p:=p.below g;have i:=btr i g;have n:=btr n g;refine Yb m<|Yo 0 rfl (fun _=>X7 rfl)<|Yi (k:=0) (u:=(dO (eN q k 0) 0)) (enc:=encD) (l:=r) 1 rfl trivial rfl rfl X01 Xd X06 p.rd (by rw [hr];exact (X9k L A (by decide))) rfl ?_;intro fV cC;refine Ye 2 rfl (X09 (l:=[vi ((dO (eN q k 0) 0).num.a),vi ((dO (eN q k 0) 0).num.b),vi ((dO (eN q k 0) 0).num.c),vi ((dO (eN q k 0) 0).num.d),vi ((dO (eN q k 0) 0).exp)]) rfl X6 cC rfl)<|Yo 3 rfl (fun _=>X7 rfl)<|Yi (k:=2) (u:=(dO (eN q k 2) 0)) (enc:=encD) (l:=r) 4 rfl trivial rfl rfl X01 Xd X06 p.rd (by rw [hr];exact (X9k L A (by decide))) rfl ?_;intro fW cD;refine Ye 5 rfl (X09 (l:=[vi ((dO (eN q k 2) 0).num.a),vi ((dO (eN q k 2) 0).num.b),vi ((dO (eN q k 2) 0).num.c),vi ((dO (eN q k 2) 0).num.d),vi ((dO (eN q k 2) 0).exp)]) rfl X6 cD rfl)<|Yo 6 rfl (fun _=>X7 rfl)<|Yi (k:=1) (u:=(dO (eN q k 1) 0)) (enc:=encD) (l:=r) 7 rfl trivial rfl rfl X01 Xd X06 p.rd (by rw [hr];exact (X9k L A (by decide))) rfl ?_;intro fX cE;refine Ye 8 rfl (X09 (l:=[vi ((dO (eN q k 1) 0).num.a),vi ((dO (eN q k 1) 0).num.b),vi ((dO (eN q k 1) 0).num.c),vi ((dO (eN q k 1) 0).num.d),vi ((dO (eN q k 1) 0).exp)]) rfl X6 cE rfl)<|Yo 9 rfl (fun _=>X7 rfl)<|Yi (k:=3) (u:=(dO (eN q k 3) 0)) (enc:=encD) (l:=r) 10 rfl trivial rfl rfl X01 Xd X06 p.rd (by rw [hr];exact (X9k L A (by decide))) rfl ?_;intro fY cF;refine Ye 11 rfl (X09 (l:=[vi ((dO (eN q k 3) 0).num.a),vi ((dO (eN q k 3) 0).num.b),vi ((dO (eN q k 3) 0).num.c),vi ((dO (eN q k 3) 0).num.d),vi ((dO (eN q k 3) 0).exp)]) rfl X6 cF rfl) ?_
   have o:Below w10.heap.size w10 w10:=Below.refl _ _
   refine Yc [0,1,2,3,4,5,6,7,8,9,10,11,12,13,14,15,16] 2 (fun a w=>∃ t,Fr a 88 [(0,.slice Al l.length cl),(2,.pointer (some ⟨G,0,none⟩)),(4,.pointer (some ⟨b5,0,none⟩)),(5,vi (k:Int)),(8,.pointer (some ⟨t,0,none⟩)),(16,vi (k:Int)),(54,.agg #[vi ((dO ((eN q k 0)*(eN q k 3)-(eN q k 2)*(eN q k 1)) 0).num.a),vi ((dO ((eN q k 0)*(eN q k 3)-(eN q k 2)*(eN q k 1)) 0).num.b),vi ((dO ((eN q k 0)*(eN q k 3)-(eN q k 2)*(eN q k 1)) 0).num.c),vi ((dO ((eN q k 0)*(eN q k 3)-(eN q k 2)*(eN q k 1)) 0).num.d),vi ((dO ((eN q k 0)*(eN q k 3)-(eN q k 2)*(eN q k 1)) 0).exp)]),(55,.bool true)]∧N.heap.size≤t∧Blk w t 53 [vi 0,vi 0,vi 0,vi 0,vi 0]∧G≠t∧b5≠t∧w10.heap.size≤t∧w6.heap.size≤t∧Away aF t∧AwayR l Al t∧Below w10.heap.size w10 w) ?_ ?_
   ·rintro a fZ ⟨t,m,aG,B,U,W,cG,cH,dE,eE,g⟩;clear o;have o:=g;have i:=btr i g;have n:=btr n g;refine Yb m<|Y1 17<|Yh rfl trivial rfl (Vw [vi ((dO ((eN q k 0)*(eN q k 3)-(eN q k 2)*(eN q k 1)) 0).num.a),vi ((dO ((eN q k 0)*(eN q k 3)-(eN q k 2)*(eN q k 1)) 0).num.b),vi ((dO ((eN q k 0)*(eN q k 3)-(eN q k 2)*(eN q k 1)) 0).num.c),vi ((dO ((eN q k 0)*(eN q k 3)-(eN q k 2)*(eN q k 1)) 0).num.d),vi ((dO ((eN q k 0)*(eN q k 3)-(eN q k 2)*(eN q k 1)) 0).exp)] Xd B) ?_;rintro _ w12 ⟨E,hb⟩;have H:=B;have n:=Below.only n E cH;have o:=Below.only o E cG;have i:=Below.only i E aG;have B:=hb;refine Yo 18 rfl (fun _=>X0i rfl) ?_;refine Yd fun a m=>?_
    have cJ:Below w6.heap.size w6 w12:=n
    exact ⟨t,m.sb,aG,B,U,W,cJ⟩
   intro bM;refine Y2 12 16 ?_ ?_
   ·refine Yk rfl trivial (Vc (Xry _ (eN q k 0) (eN q k 2) (eN q k 1) (eN q k 3) (X3o L A (by decide)) (X3o L A (by decide)) (X3o L A (by decide)) (X3o L A (by decide))) Xhv) (fun _ _ ⟨_,g⟩=>g) ?_;rintro _ g7 ⟨rfl,g⟩;have e:=e.below g;have f:=f.below g;have p:=p.below g;have i:=btr i g;have n:=btr n g;have o:=btr o g;refine Yo 13 rfl (fun _=>X7 rfl)<|Yo 14 rfl (fun _=>X1 (vs:=[.agg #[vi ((dO ((eN q k 0)*(eN q k 3)-(eN q k 2)*(eN q k 1)) 0).num.a),vi ((dO ((eN q k 0)*(eN q k 3)-(eN q k 2)*(eN q k 1)) 0).num.b),vi ((dO ((eN q k 0)*(eN q k 3)-(eN q k 2)*(eN q k 1)) 0).num.c),vi ((dO ((eN q k 0)*(eN q k 3)-(eN q k 2)*(eN q k 1)) 0).num.d),vi ((dO ((eN q k 0)*(eN q k 3)-(eN q k 2)*(eN q k 1)) 0).exp)],.bool true]) rfl rfl)<|Yo 15 rfl (fun _=>X1 (vs:=[.agg #[vi ((dO ((eN q k 0)*(eN q k 3)-(eN q k 2)*(eN q k 1)) 0).num.a),vi ((dO ((eN q k 0)*(eN q k 3)-(eN q k 2)*(eN q k 1)) 0).num.b),vi ((dO ((eN q k 0)*(eN q k 3)-(eN q k 2)*(eN q k 1)) 0).num.c),vi ((dO ((eN q k 0)*(eN q k 3)-(eN q k 2)*(eN q k 1)) 0).num.d),vi ((dO ((eN q k 0)*(eN q k 3)-(eN q k 2)*(eN q k 1)) 0).exp)],.bool true]) rfl rfl)<|Y1 16 ?_;refine Yk rfl trivial (X3 (zs:=[vi 0,vi 0,vi 0,vi 0,vi 0]) X0n rfl) (fun _ _ ⟨_,_,_,h,_⟩=>h) ?_;rintro _ g8 ⟨b44,rfl,aA,g,eF⟩
    have aX:G≠b44:=by have:=e.lt;omega
    have aY:b5≠b44:=by have:=f.lt;omega
    have cK:=Q0 i.size aA;have cM:=Q0 n.size aA;have cO:=Q0 o.size aA;have aN:=p.away aA;have aZ:=(y.below' i).away aA;have i:=btr i g;have n:=btr n g;have o:=btr o g;exact fun a m=>bM _ a _ rfl ⟨b44,m.sb,cK,eF,aX,aY,cO,cM,aN,aZ,o⟩
   refine Yk rfl trivial (X3 (zs:=[vi 0,vi 0,vi 0,vi 0,vi 0]) X0n rfl) (fun _ _ ⟨_,_,_,h,_⟩=>h) ?_;rintro _ g9 ⟨b45,rfl,aB,g,b0⟩
   have b1:G≠b45:=by have:=e.lt;omega
   have b2:b5≠b45:=by have:=f.lt;omega
   have cP:=Q0 i.size aB;have cQ:=Q0 n.size aB;have cR:=Q0 o.size aB;have aO:=p.away aB;have b4:=(y.below' i).away aB;have i:=btr i g;have n:=btr n g;have o:=btr o g;refine Y1 12<|Yk rfl trivial (Vc (Xry _ (eN q k 0) (eN q k 2) (eN q k 1) (eN q k 3) (X3o L A (by decide)) (X3o L A (by decide)) (X3o L A (by decide)) (X3o L A (by decide))) Xhv) (fun _ _ ⟨_,g⟩=>g) ?_;rintro _ gA ⟨rfl,g⟩;have b0:=b0.below g;have i:=btr i g;have n:=btr n g;have o:=btr o g;refine Yo 13 rfl (fun _=>X7 rfl)<|Yo 14 rfl (fun _=>X1 (vs:=[.agg #[vi ((dO ((eN q k 0)*(eN q k 3)-(eN q k 2)*(eN q k 1)) 0).num.a),vi ((dO ((eN q k 0)*(eN q k 3)-(eN q k 2)*(eN q k 1)) 0).num.b),vi ((dO ((eN q k 0)*(eN q k 3)-(eN q k 2)*(eN q k 1)) 0).num.c),vi ((dO ((eN q k 0)*(eN q k 3)-(eN q k 2)*(eN q k 1)) 0).num.d),vi ((dO ((eN q k 0)*(eN q k 3)-(eN q k 2)*(eN q k 1)) 0).exp)],.bool true]) rfl rfl)<|Yo 15 rfl (fun _=>X1 (vs:=[.agg #[vi ((dO ((eN q k 0)*(eN q k 3)-(eN q k 2)*(eN q k 1)) 0).num.a),vi ((dO ((eN q k 0)*(eN q k 3)-(eN q k 2)*(eN q k 1)) 0).num.b),vi ((dO ((eN q k 0)*(eN q k 3)-(eN q k 2)*(eN q k 1)) 0).num.c),vi ((dO ((eN q k 0)*(eN q k 3)-(eN q k 2)*(eN q k 1)) 0).num.d),vi ((dO ((eN q k 0)*(eN q k 3)-(eN q k 2)*(eN q k 1)) 0).exp)],.bool true]) rfl rfl) ?_;exact fun a m=>bM _ a _ rfl ⟨b45,m.sb,cP,b0,b1,b2,cR,cQ,aO,b4,o⟩
  rintro a w17 ⟨t,m,aG,B,U,W,g⟩;have e:=e.below g;have f:=f.below g;have i:=btr i g;refine eD _ _<|Q5 fun _ eH=>?_;refine X02 (fun a w=>∃ x,Fr a 88 [(0,.slice Al l.length cl),(2,.pointer (some ⟨G,0,none⟩)),(4,.pointer (some ⟨b5,0,none⟩)),(5,vi (k:Int)),(9,.bool true),(10,.pointer (some ⟨x,0,none⟩)),(11,.bool true),(16,vi (k:Int))]∧N.heap.size≤x∧Blk w x 53 [vi ((dO (q.getD k 0*mnN q k) 0).num.a),vi ((dO (q.getD k 0*mnN q k) 0).num.b),vi ((dO (q.getD k 0*mnN q k) 0).num.c),vi ((dO (q.getD k 0*mnN q k) 0).num.d),vi ((dO (q.getD k 0*mnN q k) 0).exp)]∧G≠x∧b5≠x∧t≠x∧Below w17.heap.size w17 w) ?_ ?_
  ·have n:Below w17.heap.size w17 w17:=Below.refl _ _
   refine Xz none (fun j=>[10].contains j) mixed ?_;intro w18 g;have e:=e.below g;have f:=f.below g;have B:=B.below g;have i:=btr i g;have n:=btr n g;refine Yb m<|Yo 0 rfl (fun _=>X7 rfl)<|Yo 1 rfl (fun _=>X7 rfl)<|Yi (k:=k) (u:=(dO (q.getD k 0) 0)) (enc:=encD) (l:=l) 2 rfl trivial rfl rfl X01 Xd X06 (y.below' i) (by rw [bF];exact L.get (by omega)) rfl ?_;intro gB cS;refine Ye 3 rfl (X09 (l:=[vi ((dO (q.getD k 0) 0).num.a),vi ((dO (q.getD k 0) 0).num.b),vi ((dO (q.getD k 0) 0).num.c),vi ((dO (q.getD k 0) 0).num.d),vi ((dO (q.getD k 0) 0).exp)]) rfl X6 cS rfl)<|Ye 4 rfl (Vn X6 B) ?_
   have o:Below w18.heap.size w18 w18:=Below.refl _ _
   refine Yc [0,1,2,3,4,5,6,7,8,9] 2 (fun a w=>∃ x,Fr a 88 [(0,.slice Al l.length cl),(2,.pointer (some ⟨G,0,none⟩)),(4,.pointer (some ⟨b5,0,none⟩)),(5,vi (k:Int)),(9,.bool true),(10,.pointer (some ⟨x,0,none⟩)),(16,vi (k:Int)),(63,.agg #[vi ((dO (q.getD k 0*mnN q k) 0).num.a),vi ((dO (q.getD k 0*mnN q k) 0).num.b),vi ((dO (q.getD k 0*mnN q k) 0).num.c),vi ((dO (q.getD k 0*mnN q k) 0).num.d),vi ((dO (q.getD k 0*mnN q k) 0).exp)]),(64,.bool true)]∧N.heap.size≤x∧Blk w x 53 [vi 0,vi 0,vi 0,vi 0,vi 0]∧G≠x∧b5≠x∧t≠x∧w18.heap.size≤x∧w17.heap.size≤x∧AwayR l Al x∧Below w18.heap.size w18 w) ?_ ?_
   ·rintro a gC ⟨x,m,aH,z,aC,aD,M,cU,cV,eI,g⟩;clear o;have o:=g;have i:=btr i g;have n:=btr n g;refine Yb m<|Y1 10<|Yh rfl trivial rfl (Vw [vi ((dO (q.getD k 0*mnN q k) 0).num.a),vi ((dO (q.getD k 0*mnN q k) 0).num.b),vi ((dO (q.getD k 0*mnN q k) 0).num.c),vi ((dO (q.getD k 0*mnN q k) 0).num.d),vi ((dO (q.getD k 0*mnN q k) 0).exp)] Xd z) ?_;rintro _ w20 ⟨E,hb⟩;have H:=z;have n:=Below.only n E cV;have o:=Below.only o E cU;have i:=Below.only i E aH;have z:=hb;refine Yo 11 rfl (fun _=>X0i rfl) ?_;refine Yd fun a m=>?_
    have cJ:Below w17.heap.size w17 w20:=n
    exact ⟨x,m.sb,aH,z,aC,aD,M,cJ⟩
   intro bN;refine Y2 5 9 ?_ ?_
   ·refine Yf rfl trivial (EfW.mono (X1d (vs:=[.agg #[vi ((dO (q.getD k 0) 0).num.a),vi ((dO (q.getD k 0) 0).num.b),vi ((dO (q.getD k 0) 0).num.c),vi ((dO (q.getD k 0) 0).num.d),vi ((dO (q.getD k 0) 0).exp)],.agg #[vi ((dO ((eN q k 0)*(eN q k 3)-(eN q k 2)*(eN q k 1)) 0).num.a),vi ((dO ((eN q k 0)*(eN q k 3)-(eN q k 2)*(eN q k 1)) 0).num.b),vi ((dO ((eN q k 0)*(eN q k 3)-(eN q k 2)*(eN q k 1)) 0).num.c),vi ((dO ((eN q k 0)*(eN q k 3)-(eN q k 2)*(eN q k 1)) 0).num.d),vi ((dO ((eN q k 0)*(eN q k 3)-(eN q k 2)*(eN q k 1)) 0).exp)]]) rfl X4l (by have hq:=Xas w18 (dO (q.getD k 0) 0) (dO ((eN q k 0)*(eN q k 3)-(eN q k 2)*(eN q k 1)) 0);rw [Xgy L A,Qq,Option.isSome_some] at hq;exact hq)) (fun _ _ h=>⟨fun _=>by obtain ⟨rfl,g⟩:=h;exact g,h⟩)) ?_;rintro _ gD ⟨rfl,g⟩;have e:=e.below g;have f:=f.below g;have B:=B.below g;have i:=btr i g;have n:=btr n g;have o:=btr o g;refine Yo 6 rfl (fun _=>X7 rfl)<|Yo 7 rfl (fun _=>X1 (vs:=[.agg #[vi ((dO (q.getD k 0*mnN q k) 0).num.a),vi ((dO (q.getD k 0*mnN q k) 0).num.b),vi ((dO (q.getD k 0*mnN q k) 0).num.c),vi ((dO (q.getD k 0*mnN q k) 0).num.d),vi ((dO (q.getD k 0*mnN q k) 0).exp)],.bool true]) rfl rfl)<|Yo 8 rfl (fun _=>X1 (vs:=[.agg #[vi ((dO (q.getD k 0*mnN q k) 0).num.a),vi ((dO (q.getD k 0*mnN q k) 0).num.b),vi ((dO (q.getD k 0*mnN q k) 0).num.c),vi ((dO (q.getD k 0*mnN q k) 0).num.d),vi ((dO (q.getD k 0*mnN q k) 0).exp)],.bool true]) rfl rfl)<|Y1 9 ?_;refine Yk rfl trivial (X3 (zs:=[vi 0,vi 0,vi 0,vi 0,vi 0]) X0n rfl) (fun _ _ ⟨_,_,_,h,_⟩=>h) ?_;rintro _ gE ⟨b51,rfl,aI,g,eJ⟩
    have b6:G≠b51:=by have:=e.lt;omega
    have b7:b5≠b51:=by have:=f.lt;omega
    have aP:t≠b51:=by have:=B.lt;omega
    have cW:=Q0 i.size aI;have cX:=Q0 n.size aI;have d5:=Q0 o.size aI;have b8:=(y.below' i).away aI;have i:=btr i g;have n:=btr n g;have o:=btr o g;exact fun a m=>bN _ a _ rfl ⟨b51,m.sb,cW,eJ,b6,b7,aP,d5,cX,b8,o⟩
   refine Yk rfl trivial (X3 (zs:=[vi 0,vi 0,vi 0,vi 0,vi 0]) X0n rfl) (fun _ _ ⟨_,_,_,h,_⟩=>h) ?_;rintro _ fN ⟨b52,rfl,aJ,g,b9⟩
   have bC:G≠b52:=by have:=e.lt;omega
   have bD:b5≠b52:=by have:=f.lt;omega
   have aQ:t≠b52:=by have:=B.lt;omega
   have d6:=Q0 i.size aJ;have d7:=Q0 n.size aJ;have d8:=Q0 o.size aJ;have bE:=(y.below' i).away aJ;have i:=btr i g;have n:=btr n g;have o:=btr o g;refine Y1 5<|Yf rfl trivial (EfW.mono (X1d (vs:=[.agg #[vi ((dO (q.getD k 0) 0).num.a),vi ((dO (q.getD k 0) 0).num.b),vi ((dO (q.getD k 0) 0).num.c),vi ((dO (q.getD k 0) 0).num.d),vi ((dO (q.getD k 0) 0).exp)],.agg #[vi ((dO ((eN q k 0)*(eN q k 3)-(eN q k 2)*(eN q k 1)) 0).num.a),vi ((dO ((eN q k 0)*(eN q k 3)-(eN q k 2)*(eN q k 1)) 0).num.b),vi ((dO ((eN q k 0)*(eN q k 3)-(eN q k 2)*(eN q k 1)) 0).num.c),vi ((dO ((eN q k 0)*(eN q k 3)-(eN q k 2)*(eN q k 1)) 0).num.d),vi ((dO ((eN q k 0)*(eN q k 3)-(eN q k 2)*(eN q k 1)) 0).exp)]]) rfl X4l (by have hq:=Xas fN (dO (q.getD k 0) 0) (dO ((eN q k 0)*(eN q k 3)-(eN q k 2)*(eN q k 1)) 0);rw [Xgy L A,Qq,Option.isSome_some] at hq;exact hq)) (fun _ _ h=>⟨fun _=>by obtain ⟨rfl,g⟩:=h;exact g,h⟩)) ?_;rintro _ gF ⟨rfl,g⟩;have b9:=b9.below g;have i:=btr i g;have n:=btr n g;have o:=btr o g;refine Yo 6 rfl (fun _=>X7 rfl)<|Yo 7 rfl (fun _=>X1 (vs:=[.agg #[vi ((dO (q.getD k 0*mnN q k) 0).num.a),vi ((dO (q.getD k 0*mnN q k) 0).num.b),vi ((dO (q.getD k 0*mnN q k) 0).num.c),vi ((dO (q.getD k 0*mnN q k) 0).num.d),vi ((dO (q.getD k 0*mnN q k) 0).exp)],.bool true]) rfl rfl)<|Yo 8 rfl (fun _=>X1 (vs:=[.agg #[vi ((dO (q.getD k 0*mnN q k) 0).num.a),vi ((dO (q.getD k 0*mnN q k) 0).num.b),vi ((dO (q.getD k 0*mnN q k) 0).num.c),vi ((dO (q.getD k 0*mnN q k) 0).num.d),vi ((dO (q.getD k 0*mnN q k) 0).exp)],.bool true]) rfl rfl) ?_;exact fun a m=>bN _ a _ rfl ⟨b52,m.sb,d6,b9,bC,bD,aQ,d8,d7,bE,o⟩
  rintro a eK ⟨x,m,aH,z,aC,aD,M,g⟩;have e:=e.below g;have f:=f.below g;have i:=btr i g;refine eH _ _<|Zs m fun _ eM=>?_;refine Za rfl<|ZX eM fun a m _ bO=>?_;refine Zs m fun _ eO=>?_;refine Zm rfl<|Ze (X1b rfl rfl)<|Zt eO fun a m=>?_
  refine Xl m rfl (fun aE=>?_) (fun aE=>?_)
  ·have d9:=aE
   have dA:k=1:=by have h9:=aE;simp at h9;omega
   refine Zr m<|Za rfl<|Zx bO fun a m _ eP=>?_;refine Zm rfl<|Ze (Vn X6 f)<|Ze (Vn X6 z)<|Zf (X64 (cs:=[]) (vs:=[.agg #[vi ((dO (dtN q k) 0).num.a),vi ((dO (dtN q k) 0).num.b),vi ((dO (dtN q k) 0).num.c),vi ((dO (dtN q k) 0).num.d),vi ((dO (dtN q k) 0).exp)],.agg #[vi ((dO (q.getD k 0*mnN q k) 0).num.a),vi ((dO (q.getD k 0*mnN q k) 0).num.b),vi ((dO (q.getD k 0*mnN q k) 0).num.c),vi ((dO (q.getD k 0*mnN q k) 0).num.d),vi ((dO (q.getD k 0*mnN q k) 0).exp)]]) rfl rfl Xhs (by have hq:=Xr6 eK (dO (dtN q k) 0) (dO (q.getD k 0*mnN q k) 0);rw [Xpq L A dA,Qq,Option.isSome_some] at hq;exact hq)) ?_;rintro _ gG ⟨rfl,g⟩;have e:=e.below g;have f:=f.below g;have z:=z.below g;have i:=btr i g;refine Zm rfl<|Ze (X1 (vs:=[.agg #[vi ((dO (dtN q (k+1)) 0).num.a),vi ((dO (dtN q (k+1)) 0).num.b),vi ((dO (dtN q (k+1)) 0).num.c),vi ((dO (dtN q (k+1)) 0).num.d),vi ((dO (dtN q (k+1)) 0).exp)],.bool true]) rfl rfl)<|Ze (X1 (vs:=[.agg #[vi ((dO (dtN q (k+1)) 0).num.a),vi ((dO (dtN q (k+1)) 0).num.b),vi ((dO (dtN q (k+1)) 0).num.c),vi ((dO (dtN q (k+1)) 0).num.d),vi ((dO (dtN q (k+1)) 0).exp)],.bool true]) rfl rfl)<|Zf (X3 (zs:=[vi 0,vi 0,vi 0,vi 0,vi 0]) X0n rfl) ?_;rintro _ gI ⟨b58,rfl,bP,g,aK⟩
   have eQ:G≠b58:=by have:=e.lt;omega
   have eR:b5≠b58:=by have:=f.lt;omega
   have dF:x≠b58:=by have:=z.lt;omega
   have dB:=Q0 i.size bP;have eT:=(y.below' i).away bP;have e:=e.below g;have f:=f.below g;have i:=btr i g;refine Zo (Vw [vi ((dO (dtN q (k+1)) 0).num.a),vi ((dO (dtN q (k+1)) 0).num.b),vi ((dO (dtN q (k+1)) 0).num.c),vi ((dO (dtN q (k+1)) 0).num.d),vi ((dO (dtN q (k+1)) 0).exp)] Xd aK) ?_;rintro _ fO ⟨E,hb⟩;have H:=aK;have e:=e.only E (by omega);have f:=f.only E (by omega);have i:=Below.only i E dB;have aK:=hb;refine Za rfl<|ZX eP fun a m _ eU=>?_;refine Q5 fun _ eV=>?_;refine X02 (fun a w=>Fr a 88 [(0,.slice Al l.length cl),(2,.pointer (some ⟨G,0,none⟩)),(4,.pointer (some ⟨b5,0,none⟩)),(13,.pointer (some ⟨b58,0,none⟩)),(16,vi (k:Int)),(83,.bool false)]∧fO=w) ?_ ?_
   ·refine Zr m<|Zm rfl<|Ze (X0o rfl)<|Zm rfl<|Zv (gW rfl) (X7 rfl) ?_;refine Zv (gW rfl) (X0o rfl) ?_;refine Ze (Xc rfl rfl rfl)<|Zm rfl<|Zv (gW rfl) (X7 rfl) ?_;refine Zv (gW rfl) (X0o rfl) ?_;refine Ze (Xc rfl rfl rfl) ?_;refine Zn fun a m=>?_;exact ⟨m.sb,rfl⟩
   rintro a _ ⟨m,rfl⟩;refine eV _ _<|X3i m rfl ?_;refine Q7<|eU _ _<|Zr m<|Ze (Vn X6 aK)<|Zo (Vw [vi ((dO (dtN q (k+1)) 0).num.a),vi ((dO (dtN q (k+1)) 0).num.b),vi ((dO (dtN q (k+1)) 0).num.c),vi ((dO (dtN q (k+1)) 0).num.d),vi ((dO (dtN q (k+1)) 0).exp)] Xd f) ?_;rintro _ gJ ⟨E,hb⟩;have H:=f;have e:=e.only E (by omega);have i:=Below.only i E aR;have f:=hb;refine Zn fun a m=>?_;refine Xn<|bI _ _<|Zr m<|Ze (X03 rfl rfl (by omega) (by omega))<|Zm rfl ?_;refine Zn fun a m=>?_;refine Xo ?_;exact ⟨k+1,⟨m.sb,(by omega),e,f,i⟩,(by omega)⟩
  have d9:=aE
  have dA:k≠1:=by have h9:=aE;simp at h9;omega
  refine Q7<|bO _ _<|Zs m fun _ eX=>?_;refine Zm rfl<|Ze (Vn X6 f)<|Ze (Vn X6 z)<|Zf (X64 (cs:=[]) (vs:=[.agg #[vi ((dO (dtN q k) 0).num.a),vi ((dO (dtN q k) 0).num.b),vi ((dO (dtN q k) 0).num.c),vi ((dO (dtN q k) 0).num.d),vi ((dO (dtN q k) 0).exp)],.agg #[vi ((dO (q.getD k 0*mnN q k) 0).num.a),vi ((dO (q.getD k 0*mnN q k) 0).num.b),vi ((dO (q.getD k 0*mnN q k) 0).num.c),vi ((dO (q.getD k 0*mnN q k) 0).num.d),vi ((dO (q.getD k 0*mnN q k) 0).exp)]]) rfl rfl Xca (by have hq:=Xqe eK (dO (dtN q k) 0) (dO (q.getD k 0*mnN q k) 0);rw [Xnb L A dA,Qq,Option.isSome_some] at hq;exact hq)) ?_;rintro _ gK ⟨rfl,g⟩;have e:=e.below g;have f:=f.below g;have z:=z.below g;have i:=btr i g;refine Zm rfl<|Ze (X1 (vs:=[.agg #[vi ((dO (dtN q (k+1)) 0).num.a),vi ((dO (dtN q (k+1)) 0).num.b),vi ((dO (dtN q (k+1)) 0).num.c),vi ((dO (dtN q (k+1)) 0).num.d),vi ((dO (dtN q (k+1)) 0).exp)],.bool true]) rfl rfl)<|Ze (X1 (vs:=[.agg #[vi ((dO (dtN q (k+1)) 0).num.a),vi ((dO (dtN q (k+1)) 0).num.b),vi ((dO (dtN q (k+1)) 0).num.c),vi ((dO (dtN q (k+1)) 0).num.d),vi ((dO (dtN q (k+1)) 0).exp)],.bool true]) rfl rfl)<|Zf (X3 (zs:=[vi 0,vi 0,vi 0,vi 0,vi 0]) X0n rfl) ?_;rintro _ gL ⟨b62,rfl,bQ,g,aL⟩
  have eY:G≠b62:=by have:=e.lt;omega
  have eZ:b5≠b62:=by have:=f.lt;omega
  have dG:x≠b62:=by have:=z.lt;omega
  have dC:=Q0 i.size bQ;have f7:=(y.below' i).away bQ;have e:=e.below g;have f:=f.below g;have i:=btr i g;refine Zo (Vw [vi ((dO (dtN q (k+1)) 0).num.a),vi ((dO (dtN q (k+1)) 0).num.b),vi ((dO (dtN q (k+1)) 0).num.c),vi ((dO (dtN q (k+1)) 0).num.d),vi ((dO (dtN q (k+1)) 0).exp)] Xd aL) ?_;rintro _ fP ⟨E,hb⟩;have H:=aL;have e:=e.only E (by omega);have f:=f.only E (by omega);have i:=Below.only i E dC;have aL:=hb;refine Za rfl<|ZX eX fun a m _ f8=>?_;refine Q5 fun _ f9=>?_;refine X02 (fun a w=>Fr a 88 [(0,.slice Al l.length cl),(2,.pointer (some ⟨G,0,none⟩)),(4,.pointer (some ⟨b5,0,none⟩)),(13,.pointer (some ⟨b62,0,none⟩)),(16,vi (k:Int)),(83,.bool false)]∧fP=w) ?_ ?_
  ·refine Zr m<|Zm rfl<|Ze (X0o rfl)<|Zm rfl<|Zv (gW rfl) (X7 rfl) ?_;refine Zv (gW rfl) (X0o rfl) ?_;refine Ze (Xc rfl rfl rfl)<|Zm rfl<|Zv (gW rfl) (X7 rfl) ?_;refine Zv (gW rfl) (X0o rfl) ?_;refine Ze (Xc rfl rfl rfl) ?_;refine Zn fun a m=>?_;exact ⟨m.sb,rfl⟩
  rintro a _ ⟨m,rfl⟩;refine f9 _ _<|X3i m rfl ?_;refine Q7<|f8 _ _<|Zr m<|Ze (Vn X6 aL)<|Zo (Vw [vi ((dO (dtN q (k+1)) 0).num.a),vi ((dO (dtN q (k+1)) 0).num.b),vi ((dO (dtN q (k+1)) 0).num.c),vi ((dO (dtN q (k+1)) 0).num.d),vi ((dO (dtN q (k+1)) 0).exp)] Xd f) ?_;rintro _ gM ⟨E,hb⟩;have H:=f;have e:=e.only E (by omega);have i:=Below.only i E aR;have f:=hb;refine Zn fun a m=>?_;refine Xn<|bI _ _<|Zr m<|Ze (X03 rfl rfl (by omega) (by omega))<|Zm rfl ?_;refine Zn fun a m=>?_;refine Xo ?_;exact ⟨k+1,⟨m.sb,(by omega),e,f,i⟩,(by omega)⟩
 have bR:=C;have C:=Q1 C
 have A:k=3:=by have:=C;omega
 refine Q9<|Xm<|Xm<|X08 ?_;refine fG _ _<|Zs m fun _ fA=>?_;refine Ze (Vn X6 f)<|Zo (Vw [vi ((dO (dtN q k) 0).num.a),vi ((dO (dtN q k) 0).num.b),vi ((dO (dtN q k) 0).num.c),vi ((dO (dtN q k) 0).num.d),vi ((dO (dtN q k) 0).exp)] Xd e) ?_;rintro _ gN ⟨E,hb⟩;have H:=e;have i:=Below.only i E dI;have e:=hb;refine Za rfl<|Zt fA fun a m=>?_
 refine Q6 (X4 m (X0r m rfl (ResV.cellN (l:=[vi ((dO (dtN q k) 0).num.a),vi ((dO (dtN q k) 0).num.b),vi ((dO (dtN q k) 0).num.c),vi ((dO (dtN q k) 0).num.d),vi ((dO (dtN q k) 0).exp)]) rfl X6 (e.at 0) rfl) rfl) ?_)
 subst A
 exact ⟨rfl,i⟩
theorem Xvz(L:World)(Al:Option Addr)(cl:Nat)(l:List Dy)(q:Rd L L.heap.size 53 encD Al l)(k:Nat)(hk:k<24)(M:l=clB k) : Ret Tryz.prog 61 [.agg #[.slice Al l.length cl]] L (fun v w=>v=.bool true∧Below L.heap.size L w):=by
 obtain ⟨hS,aX,aY⟩:=Xhb hk
 have N:l.length=9:=by rw [M];exact hS.blen
 have aZ:mulBI l (trB l)=some (clB 0):=by rw [M];exact Xoi hk
 have b9:(clB 0).length=9:=rfl
 refine enter Tryz.func61 rfl 59 rfl rfl ?_;intro a i
 have g:=bz L
 refine Zs i fun _ b0=>?_;refine Zf (X0j (zs:=[.slice Al l.length cl]) rfl rfl) ?_;rintro _ w1 ⟨b3,rfl,b1,f,j⟩;have b7:=Q0 g.size b1;have g:=btr g f;refine Za rfl<|ZX b0 fun a i _ b2=>?_;refine Q5 fun _ b4=>?_;refine X02 (fun a w=>Fr a 59 [(1,.pointer (some ⟨b3,0,none⟩)),(17,.bool (((l.length:Int) != 9)||(l.any (fun x=>!reaB x))))]∧Below w1.heap.size w1 w) ?_ ?_
 ·have p:Below w1.heap.size w1 w1:=Below.refl _ _
  refine Zr i<|Ze (Vd rfl X1e 0)<|Ze (X0 rfl X0p (j.at 0))<|Ze (X2k rfl X01)<|Ze (X4h rfl rfl)<|Zm rfl ?_
  refine Zg 13 rfl (fun m=>?_) (fun m=>?_)
  ·refine Zp (gP m) ?_;refine Zp (gP m) ?_;refine Zp (gP m) ?_;refine Ze (Xe rfl m rfl) ?_;refine Zn fun a i=>?_
   have G:Below w1.heap.size w1 w1:=p
   exact ⟨i.sub ⟨rfl,X2 rfl (by first|rfl|(simp only [m,bs];done)|simp [m]),trivial⟩,G⟩
  refine Zv (gW m) (Vd rfl X1e 0) ?_;refine Zv (gW m) (X0 rfl X0p (j.at 0)) ?_;refine Zk (gW m) (Vc (Xy4 _ Al cl l (q.below' g).top 97 [] Xpe (fun x=>!reaB x) (fun x w1 bC=>Xwx w1 x) (by rw [N];decide)) Xju) ?_;rintro _ w2 ⟨rfl,f⟩;have g:=btr g f;have p:=btr p f;refine Ze (Xc rfl m rfl) ?_;refine Zn fun a i=>?_
  have G:Below w1.heap.size w1 w2:=p
  exact ⟨i.sub ⟨rfl,X2 rfl (by first|rfl|(simp only [m,bs];done)|simp [m]),trivial⟩,G⟩
 rintro a w3 ⟨i,f⟩;have j:=j.below f;have g:=btr g f;refine b4 _ _ ?_
 refine Xl i rfl (fun H=>?_) (fun H=>?_)
 ·have aG:=H
  rw [N,M,aY] at H;simp at H
 have aG:=H;refine Q7<|b2 _ _<|Q5 fun _ b5=>?_;refine Xz none (fun _=>false) mixed ?_;intro w4 f;have j:=j.below f;have g:=btr g f;refine Yb i<|Yo 0 rfl (fun _=>Vd rfl X1e 0)<|Ye 1 rfl (X0 rfl X0p (j.at 0))<|Yo 2 rfl (fun _=>Vd rfl X1e 0)<|Ye 3 rfl (X0 rfl X0p (j.at 0))<|Y1 4 ?_;refine Yk rfl trivial (Vc (Xrk _ Al cl l (q.below' g).top N) Xhi) (fun _ _ ⟨A9,c9,_,Q,f⟩=>f) ?_;rintro _ w5 ⟨A9,c9,rfl,Q,f⟩;have Q:=Q.lower g.size;have j:=j.below f;have g:=btr g f;refine Y1 5<|Yf rfl trivial (EfW.mono (X1d (vs:=[.slice Al l.length cl,.slice A9 (trB l).length c9]) rfl Xcb (by have hq:=Xja w5 Al cl l (q.below' g).top A9 c9 (trB l) Q.rd.top N (Xc4 l);rw [aZ,Qq,Option.isSome_some] at hq;exact hq)) (fun _ _ h=>⟨fun _=>by obtain ⟨B,C,rfl,e,f⟩:=h;exact f,h⟩)) ?_;rintro _ w6 ⟨B,C,rfl,e,f⟩;have e:=e.lower g.size;have j:=j.below f;have g:=btr g f;refine Yo 6 rfl (fun _=>X7 rfl)<|Yo 7 rfl (fun _=>X1 (vs:=[.slice B (clB 0).length C,.bool true]) rfl rfl)<|Yo 8 rfl (fun _=>X1 (vs:=[.slice B (clB 0).length C,.bool true]) rfl rfl)<|Yo 9 rfl (fun _=>X0i rfl)<|Yo 10 rfl (fun _=>X0i rfl) ?_;refine Yd fun a i=>?_;refine b5 _ _<|Zs i fun _ aH=>?_;refine Ze (Vd rfl X1e 0)<|Ze (X0 rfl X0p (j.at 0))<|Zf (Vc (Xx5 _ Al cl l (q.below' g).top (qN9 k) hS (by rw [M];rfl)) Xnj) ?_;rintro _ w7 ⟨rfl,f⟩;have e:=e.below f;have g:=btr g f;refine Zm rfl<|Ze (X1 (vs:=[.agg #[vi ((dO (dtN (qN9 k) 3) 0).num.a),vi ((dO (dtN (qN9 k) 3) 0).num.b),vi ((dO (dtN (qN9 k) 3) 0).num.c),vi ((dO (dtN (qN9 k) 3) 0).num.d),vi ((dO (dtN (qN9 k) 3) 0).exp)],.bool true]) rfl rfl)<|Ze (X1 (vs:=[.agg #[vi ((dO (dtN (qN9 k) 3) 0).num.a),vi ((dO (dtN (qN9 k) 3) 0).num.b),vi ((dO (dtN (qN9 k) 3) 0).num.c),vi ((dO (dtN (qN9 k) 3) 0).num.d),vi ((dO (dtN (qN9 k) 3) 0).exp)],.bool true]) rfl rfl)<|Zf (X3 (zs:=[vi 0,vi 0,vi 0,vi 0,vi 0]) X0n rfl) ?_;rintro _ w8 ⟨bD,rfl,I,f,t⟩
 have aA:=Q0 g.size I;have aI:=(q.below' g).away I;have D:=e.away I;have e:=e.below f;have g:=btr g f;refine Zo (Vw [vi ((dO (dtN (qN9 k) 3) 0).num.a),vi ((dO (dtN (qN9 k) 3) 0).num.b),vi ((dO (dtN (qN9 k) 3) 0).num.c),vi ((dO (dtN (qN9 k) 3) 0).num.d),vi ((dO (dtN (qN9 k) 3) 0).exp)] Xd t) ?_;rintro _ w9 ⟨ho,hb⟩;have aJ:=t;have e:=e.onlyA ho D;have g:=Below.only g ho aA;have t:=hb;refine Za rfl<|ZX aH fun a i _ aK=>?_;refine Q5 fun _ aL=>?_;refine X02 (fun a w=>Fr a 59 [(3,.slice B (clB 0).length C),(43,.bool (!decide ((dO (dtN (qN9 k) 3) 0)=(⟨⟨1,0,0,0⟩,0⟩ : Dy))))]∧Below w9.heap.size w9 w) ?_ ?_
 ·have p:Below w9.heap.size w9 w9:=Below.refl _ _
  refine Xz none (fun _=>false) mixed ?_;intro bE f;have t:=t.below f;have g:=btr g f;have p:=btr p f;refine Yb i<|Yo 0 rfl (fun _=>X7 rfl)<|Yo 1 rfl (fun _=>X0o rfl)<|Yo 2 rfl (fun _=>X7 rfl)<|Yu 3 rfl (gW rfl) (fun _=>X7 rfl) ?_;refine Yu 4 rfl (gW rfl) (fun _=>X0o rfl) ?_;refine Yo 5 rfl (fun _=>Xc rfl rfl rfl)<|Yo 6 rfl (fun _=>X7 rfl)<|Yv 7 rfl (gW rfl) (Vn X6 t) ?_;refine Y1 8<|Yk rfl ⟨_,_,rfl,rfl,rfl⟩ (Vc (Xik _ 1) X87) (fun _ _ ⟨_,f⟩=>f) ?_;rintro _ w11 ⟨rfl,f⟩;have g:=btr g f;have p:=btr p f;refine Yu 9 rfl (gW rfl) (fun _=>X7w rfl rfl Xaa (fun w=>eqD 9997 (dO (dtN (qN9 k) 3) 0) (⟨⟨1,0,0,0⟩,0⟩ : Dy) w)) ?_;refine Yo 10 rfl (fun _=>Xc rfl rfl rfl) ?_;refine Yd fun a i=>?_
  have G:Below w9.heap.size w9 w11:=p
  exact ⟨i.sb,G⟩
 rintro a bF ⟨i,f⟩;have e:=e.below f;have g:=btr g f;refine aL _ _ ?_
 refine Xl i rfl (fun z=>?_) (fun z=>?_)
 ·have aB:=z;have h9:=z;rw [aX] at h9;simp [dO] at h9
 have aB:=z;refine Q7<|aK _ _<|Q5 fun _ aM=>?_;refine Zs i fun _ aN=>?_;refine Zm rfl<|Ze (X2k rfl X01)<|Zm rfl<|Zt aN fun a i=>?_;refine Q8<|X07 (σ:=Nat) (fun (n:Nat) (a:Act) (w:World)=>Fr a 59 [(44,.slice B (clB 0).length C),(45,vi ((clB 0).length:Int)),(46,vi (n:Int))]∧(n≤9)∧Own w L.heap.size 53 5 encD B C (clB 0)∧Below L.heap.size L w) (fun (n:Nat)=>9-n) 0 ?_ ?_
 ·exact ⟨i.sb,(by omega),e,g⟩
 rintro n a bG ⟨i,hn,e,g⟩;refine Zs i fun _ aO=>?_;refine Ze (X1h rfl rfl)<|ZX aO fun a i _ aP=>?_
 refine Xl i rfl (fun o=>?_) (fun o=>?_)
 ·have aC:=o;have o:=Q2 o
  obtain ⟨bH,b8⟩:=Xw (l:=(clB 0)) (k:=n) (by omega)
  have aQ:n<9:=by have:=o;omega
  have b6:=Xt3 aQ;refine Q7<|aP _ _<|Q5 fun _ aR=>?_;refine Q8<|Zs i fun _ aS=>?_;refine Zm rfl<|Zi (k:=n) (u:=(dO (if n % 4=0 then 1 else 0) 0)) (enc:=encD) (l:=(clB 0)) trivial rfl rfl X01 Xd X06 e.rd b6 rfl ?_;intro bI aD;refine Ze (X09 (l:=[vi ((dO (if n % 4=0 then 1 else 0) 0).num.a),vi ((dO (if n % 4=0 then 1 else 0) 0).num.b),vi ((dO (if n % 4=0 then 1 else 0) 0).num.c),vi ((dO (if n % 4=0 then 1 else 0) 0).num.d),vi ((dO (if n % 4=0 then 1 else 0) 0).exp)]) rfl X6 aD rfl)<|Zf (X3 (zs:=[vi 0,vi 0,vi 0,vi 0,vi 0]) X0n rfl) ?_;rintro _ bJ ⟨bK,rfl,J,f,y⟩;have aE:=Q0 g.size J;have aT:=(q.below' g).away J;have E:=e.away J;have e:=e.below f;have g:=btr g f;refine Za rfl<|Zo (Vw [vi ((dO (if n % 4=0 then 1 else 0) 0).num.a),vi ((dO (if n % 4=0 then 1 else 0) 0).num.b),vi ((dO (if n % 4=0 then 1 else 0) 0).num.c),vi ((dO (if n % 4=0 then 1 else 0) 0).num.d),vi ((dO (if n % 4=0 then 1 else 0) 0).exp)] Xd y) ?_;rintro _ bL ⟨ho,hb⟩;have aJ:=y;have e:=e.onlyA ho E;have g:=Below.only g ho aE;have y:=hb;refine ZX aS fun a i _ aU=>?_;refine Xz none (fun _=>false) mixed ?_;intro bM f;have y:=y.below f;have e:=e.below f;have g:=btr g f;refine Yb i<|Ye 0 rfl (Vn X6 y)<|Yo 1 rfl (fun _=>X7 rfl)<|Yo 2 rfl (fun _=>X67 rfl rfl rfl)<|Yo 3 rfl (fun _=>X1b rfl rfl)<|Y1 4 ?_;refine Yz rfl trivial (Vc (F59 _ (((n:Int).tmod 4)==0)) Xdt) ?_;refine Y1 5<|Yk rfl trivial (Vc (Xik _ (if (((n:Int).tmod 4)==0)=true then 1 else 0)) X87) (fun _ _ ⟨_,f⟩=>f) ?_;rintro _ bN ⟨rfl,f⟩;have e:=e.below f;have g:=btr g f
  refine Yo 6 rfl (fun _=>X7w rfl rfl Xaa (fun w=>eqD 9997 (dO (if n % 4=0 then 1 else 0) 0) (⟨⟨(if (((n:Int).tmod 4)==0)=true then 1 else 0),0,0,0⟩,0⟩ : Dy) w)) ?_;refine Yd fun a i=>?_;refine aU _ _ ?_
  refine Xl i rfl (fun A=>?_) (fun A=>?_)
  ·have aF:=A;have h9:=A;revert h9;rw [Xu8 aQ];simp
  have aF:=A;refine Q7<|Xn<|aR _ _<|Zr i ?_;refine Ze (X03 rfl rfl (by omega) (by omega))<|Zm rfl ?_;refine Zn fun a i=>?_;refine Xo ?_;exact ⟨n+1,⟨i.sb,(by omega),e,g⟩,(by omega)⟩
 have aC:=o;have o:=Q1 o;refine Q9<|Xm<|Xm<|X08 ?_;refine aM _ _<|Zs i fun _ aW=>?_;refine Za rfl<|Zt aW fun a i=>?_
 refine Q6 (X4 i (Xx i rfl rfl) ?_)
 exact ⟨rfl,g⟩
theorem Xmn(x:Rg) : rOk (sRing x)=true:=by
 unfold sRing
 split
 ·assumption
 ·rfl
theorem Xm8:∀ (n:Nat) (f:Bool) (x:Dy),(sRaiseN n f x).2.exp=x.exp+n:=X5c
theorem Xp1{f:Bool}{x y:Dy}(hx:0≤x.exp∧x.exp≤60)(hy:0≤y.exp∧y.exp≤60) : dOk (sAdd f x y).2=true:=by
 unfold sAdd
 have:=Xm8 (y.exp-x.exp).toNat f x
 exact X7n (Xmn _) (by omega) (by omega)
theorem Xhl{a b:Mx}(ha:AllOk a)(hb:AllOk b)(f:Bool)(i j:Nat) : ∀ n,dOk (dotS f a b i j n).2=true
 | 0=>X8y
 | n+1=>by
  rw [dotS]
  split
  ·exact Xhl ha hb f i j n
  ·exact Xp1 (X83 ha hb f i j n) (Xai (X26 (Mx.at_ok ha i n)) (X26 (Mx.at_ok hb n j)))
theorem Xc1{a b:Mx}(ha:AllOk a)(hb:AllOk b)(f:Bool) : ∀ n,∀ x ∈ (timesL f a b n).2,dOk x=true
 | 0,x,hx=>by cases hx
 | n+1,x,hx=>by
  rcases Qu.1 hx with hx|hx
  ·exact Xc1 ha hb f n x hx
  ·rw [Qm.1 hx];exact Xhl ha hb _ _ _ _
theorem X8w{a b:Mx}(ha:mOk a=true)(hb:mOk b=true)(f:Bool) : mOk (timesS f a b).2=true∧(timesS f a b).2.rows=a.rows∧(timesS f a b).2.cols=b.cols:=by
 refine ⟨X6x (X1r ha).1 (X1r hb).2 (X78 f a b _) fun x hx=>Xc1 (X0s ha) (X0s hb) f _ x hx,rfl,rfl⟩
theorem X32(a b:Mx) : (timesS true a b).1=true:=by
 have h:∀ n,(timesL true a b n).1=true:=fun n=>by
  induction n with
  | zero=>rfl
  | succ n ih=>show (dotS (timesL true a b n).1 a b _ _ _).1=true;rw [ih,Xbb]
 exact h _
theorem X5y(x y:Dy) : (sMul true x y).1=true:=by unfold sMul;split<;>rfl
def celX(f:Bool)(m:Mx)(i j:Nat) : Bool×Mx:=timesS (timesS (timesS f (pauM i) m).1 (timesS f (pauM i) m).2 (pauM j)).1 (timesS (timesS f (pauM i) m).1 (timesS f (pauM i) m).2 (pauM j)).2 (adjS m)
def celA(f:Bool)(m:Mx)(i j:Nat) : Bool×Dy:=sAdd (celX f m i j).1 ((celX f m i j).2.cells.getD 0 dZ) ((celX f m i j).2.cells.getD 3 dZ)
def celS(f:Bool)(m:Mx)(i j:Nat) : Bool×Dy:=sMul (celA f m i j).1 (celA f m i j).2 dHf
theorem Xid(m:Mx)(i j:Nat) : (celS true m i j).1=true:=by
 have h1:(celX true m i j).1=true:=by unfold celX;rw [X32,X32,X32]
 have h2:(celA true m i j).1=true:=by unfold celA;rw [h1];exact X5u _ _
 unfold celS;rw [h2];exact X5y _ _
theorem Xgr{m:Mx}(hm:mOk m=true)(hr:m.rows=2)(hc:m.cols=2)(f:Bool){i j:Nat}(hi:i<3)(hj:j<3) :
  mOk (timesS f (pauM i) m).2=true∧(timesS f (pauM i) m).2.cols=(pauM j).rows∧mOk (timesS (timesS f (pauM i) m).1 (timesS f (pauM i) m).2 (pauM j)).2=true∧(timesS (timesS f (pauM i) m).1 (timesS f (pauM i) m).2 (pauM j)).2.cols=(adjS m).rows∧(pauM i).cols=m.rows∧(celX f m i j).2.cells.length=4∧mOk (celX f m i j).2=true:=by
 obtain ⟨a1,a2,a3⟩:=X8w (X3n hi) hm f;obtain ⟨b1,b2,bm3⟩:=X8w a1 (X3n hj) (timesS f (pauM i) m).1;obtain ⟨c1,c2,c3⟩:=X8w b1 (X44 hm) (timesS (timesS f (pauM i) m).1 (timesS f (pauM i) m).2 (pauM j)).1
 refine ⟨a1,by rw [a3,hc,(X2n hj).r],b1,by rw [bm3,(X2n hj).c];exact hc.symm,by rw [(X2n hi).c,hr],?_,c1⟩
 have h1:=(X2q c1).2.2
 have hr2:(celX f m i j).2.rows=2:=by show (timesS _ _ _).2.rows=2;rw [c2,b2,a2,(X2n hi).r]
 have hc2:(celX f m i j).2.cols=2:=by show (timesS _ _ _).2.cols=2;rw [c3];exact hr
 unfold celX at hr2 hc2 ⊢
 rw [h1,hr2,hc2];rfl
theorem Xih{m:Mx}(hm:mOk m=true)(hr:m.rows=2)(hc:m.cols=2){i j:Nat}(hi:i<3)(hj:j<3) :
  (∀ z,celB m i j=some z→celS false m i j=(false,z))∧(celB m i j=none→(celS false m i j).1=true):=by
 obtain ⟨a1,a2,b1,b2,d1,c1,c2⟩:=Xgr hm hr hc false hi hj
 have pi:=X2n hi
 have pj:=X2n hj
 have m1:=X2m (X3n hi) hm d1
 unfold celB
 cases h1:mulI (pauM i) m with
 | none=>
  have f1:=m1.2 h1
  refine ⟨fun z h=>(by cases h),fun _=>?_⟩
  have h1':(celX false m i j).1=true:=by unfold celX;rw [f1,X32,X32]
  have h2:(celA false m i j).1=true:=by unfold celA;rw [h1'];exact X5u _ _
  unfold celS;rw [h2];exact X5y _ _
 | some x=>
  have f1:=(m1.1 x h1).1
  rw [f1] at a1 a2 b1 b2
  simp only [Qz]
  have m2:=X2m a1 (X3n hj) a2
  cases h2:mulI x (pauM j) with
  | none=>
   have f2:=m2.2 h2
   refine ⟨fun z h=>(by cases h),fun _=>?_⟩
   have h1':(celX false m i j).1=true:=by unfold celX;rw [f1];dsimp only;rw [f2,X32]
   have h2:(celA false m i j).1=true:=by unfold celA;rw [h1'];exact X5u _ _
   unfold celS;rw [h2];exact X5y _ _
  | some y=>
   have f2:=(m2.1 y h2).1
   rw [f2] at b1 b2
   simp only [Qz]
   have m3:=X2m b1 (X44 hm) b2
   have hX:celX false m i j=timesS false y (adjS m):=by unfold celX;rw [f1];dsimp only;rw [f2]
   cases h3:mulI y (adjS m) with
   | none=>
    have f3:=m3.2 h3
    refine ⟨fun z h=>(by cases h),fun _=>?_⟩
    have h2:(celA false m i j).1=true:=by unfold celA;rw [hX,f3];exact X5u _ _
    unfold celS;rw [h2];exact X5y _ _
   | some z=>
    have f3:=(m3.1 z h3).1
    obtain ⟨z1,z2,z3⟩:=Xbz h3 (by have:=(Xbz h2 (by have:=(Xbz h1 pi.r hc).2.1;exact this) pj.c).2.1;exact this) (show (adjS m).cols=2 from hr)
    simp only [Qz]
    have e0:z.cells.getD 0 dZ=z.at 0 0:=by show _=z.cells.getD (0*z.cols.toNat+0) dZ;rw [z3];rfl
    have e3:z.cells.getD 3 dZ=z.at 1 1:=by show _=z.cells.getD (1*z.cols.toNat+1) dZ;rw [z3];rfl
    have hA:celA false m i j=sAdd false (z.at 0 0) (z.at 1 1):=by unfold celA;rw [hX,f3,e0,e3]
    have ag:=X8o (Mx.at_ok (X0s z1) 0 0) (Mx.at_ok (X0s z1) 1 1)
    cases h4:dAddI (z.at 0 0) (z.at 1 1) with
    | none=>
     refine ⟨fun z h=>(by cases h),fun _=>?_⟩
     unfold celS;rw [hA,ag.2 h4];exact X5y _ _
    | some t=>
     obtain ⟨g1,g2⟩:=ag.1 t h4
     have am:=X8a g2 (show dOk dHf=true by decide)
     simp only [Qz]
     have hS:celS false m i j=sMul false t dHf:=by unfold celS;rw [hA,g1]
     rw [hS]
     exact ⟨fun z h=>(am.1 z h).1,am.2⟩
def BlS(m:Mx)(n:Nat)(f:Bool)(l:List Dy) : Prop:=(f=false→seqO (gridG (celB m) 3) n=some l)∧(f=true→seqO (gridG (celB m) 3) n=none)∧l.length=n
theorem Xjm{m:Mx}(hm:mOk m=true)(hr:m.rows=2)(hc:m.cols=2){i j:Nat}(hi:i<3)(hj:j<3){f:Bool}{l:List Dy}(h:BlS m (i*3+j) f l) : BlS m (i*3+(j+1)) (celS f m i j).1 (l++[(celS f m i j).2]):=by
 obtain ⟨h1,h2,h3⟩:=h
 have hg:gridG (celB m) 3 (i*3+j)=celB m i j:=X3a hj
 have hag:=Xih hm hr hc hi hj
 refine ⟨fun hf=>?_,fun hf=>?_,by simp [h3];omega⟩
 ·cases f with
  | true=>rw [Xid] at hf;cases hf
  | false=>
   cases e:celB m i j with
   | none=>rw [hag.2 e] at hf;cases hf
   | some z=>rw [hag.1 z e];exact X4n (n:=i*3+j) (h1 rfl) (hg.trans e)
 ·cases f with
  | true=>
   show seqO _ (i*3+j+1)=none
   rw [seqO,h2 rfl]
  | false=>
   cases e:celB m i j with
   | none=>exact X4z (n:=i*3+j) (by rw [hg,e]) _ (by omega)
   | some z=>rw [hag.1 z e] at hf;cases hf
theorem Xol{m:Mx}(h1:oneQ m=true){f:Bool}{l:List Dy}(h:BlS m 9 f l) : (f=true→blochI m=none)∧(f=false→blochI m=some l):=by
 unfold blochI
 rw [Q4 h1]
 exact ⟨h.2.1,h.1⟩
theorem Xdp{l:List Dy}(h:l.length=4){k:Nat}(hk:k<4) : l[k]? = some (l.getD k dZ):=by
 rw [Qa,Qc (by omega)];rfl
theorem X4x{m:Mx}(h:mOk m=true)(k:Nat) : 0≤(m.cells.getD k dZ).exp∧(m.cells.getD k dZ).exp≤60:=by
 rw [Qa]
 cases e:m.cells[k]? with
 | none=>decide
 | some x=>exact X26 (X0s h x (Qe e))
def sylT(s:Nat) : UInt8:=([84,72,83] : List UInt8).getD s 84
theorem Xy7{s:Nat}{u:UInt8}(hs:s<3)(hu:u=sylT s)(h:((u.toNat:Int)==72)=true) : s=1:=by
 subst hu;rcases lt3 hs with rfl|rfl|rfl<;>revert h<;>decide
theorem Xr9{s:Nat}{u:UInt8}(hs:s<3)(hu:u=sylT s)(h:((u.toNat:Int)==83)=true) : s=2:=by
 subst hu;rcases lt3 hs with rfl|rfl|rfl<;>revert h<;>decide
theorem Xxo{s:Nat}{u:UInt8}(hs:s<3)(hu:u=sylT s)(h:((u.toNat:Int)==72)=false)(h2:((u.toNat:Int)==83)=false) : s=0:=by
 subst hu;rcases lt3 hs with rfl|rfl|rfl<;>revert h h2<;>decide
theorem Xvd{s:Nat}{u:UInt8}(hs:s<3)(hu:u=sylT s) : ((u.toNat:Int) != 84)=true∧s≠0∨((u.toNat:Int) != 84)=false∧s=0:=by
 subst hu;rcases lt3 hs with rfl|rfl|rfl<;>decide
theorem Xu3{s:Nat}{u:UInt8}(hs:s<3)(hu:u=sylT s)(h0:s≠0)(h:((u.toNat:Int)==83)=false) : s=1:=by
 subst hu;rcases lt3 hs with rfl|rfl|rfl
 ·exact absurd rfl h0
 ·rfl
 ·revert h;decide
theorem Xuj{s:Nat}{u:UInt8}(hs:s<3)(hu:u=sylT s)(h:((u.toNat:Int) != 84)=false) : s=0∧((u.toNat:Int)==83)=false:=by
 subst hu;rcases lt3 hs with rfl|rfl|rfl<;>revert h<;>decide
theorem Xhc{i:Nat}(hi:i<3) : (([84,72,83] : List UInt8).drop i).take (i+1-i)=[sylT i]:=by rcases lt3 hi with rfl|rfl|rfl<;>rfl
theorem Xli{l r:List Dy}{i:Nat}(hi:i<3)(hno:∀ j,j<i→∀ r,mulBI (bkC j) l=some r→bexp r≠bexp l-1)(h:mulBI (bkC i) l=some r)(he:bexp r=bexp l-1) : stripI l=some (i,r):=by
 unfold stripI
 have hn:∀ j,j<i→((mulBI (bkC j) l).bind fun r=>if bexp r=bexp l-1 then some (j,r) else none)=none:=fun j hj=>by
  cases e:mulBI (bkC j) l with
  | none=>rfl
  | some q=>rw [Qz,Q3 (hno j hj q e)]
 have hy:((mulBI (bkC i) l).bind fun r=>if bexp r=bexp l-1 then some (i,r) else none)=some (i,r):=by rw [h,Qz,Q4 he]
 rcases lt3 hi with rfl|rfl|rfl
 ·simp only [List.findSome?];rw [hy]
 ·simp only [List.findSome?];rw [hn 0 (by decide),hy]
 ·simp only [List.findSome?];rw [hn 0 (by decide),hn 1 (by decide),hy]
theorem Xoy{s:Nat}(hs:s<3) : (bkC s).length=9∧∀ x ∈ bkC s,dOk x=true:=⟨(Xe0 hs).len,(Xe0 hs).ok⟩
theorem Gd.nine{l:List Dy}(h:Gd l) : l.length=9∧∀ x ∈ l,dOk x=true:=by obtain ⟨Z,h1,_⟩:=h;exact ⟨h1.len,h1.ok⟩
def letK(i:Nat) : Int:=if i=0 then 1 else 5
def letR(i:Nat) : Nat:=if i=0 then 1 else 2
theorem Xlt{i:Nat}(hi:i<2) : gateI 1 ⟨letK i,0,0⟩=some (gateS 1 ⟨letK i,0,0⟩)∧blochI (gateS 1 ⟨letK i,0,0⟩)=some (clB (letR i)):=by
 have key:∀ (g:Gt) (k:Nat),g ∈ G4→k<24→cw k=[if g.k=5 then 83 else 72]→wdG (cw k)=[g]→gateI 1 g=some (gateS 1 g)∧blochI (gateS 1 g)=some (clB k):=fun g k hg hk hw hw2=>by
  obtain ⟨v,ok⟩:=Xjy hg;obtain ⟨u,_⟩:=Xrs hg
  refine ⟨(X4b ok).1,?_⟩
  have hN1:hN g≤1:=by unfold hN;split<;>omega
  refine X6o v u (by omega) (X5i hk) fun i j hi hj=>?_
  have:=X6k k hk i j hi hj
  rw [X2c,Xa]
  rw [pW,hw2] at this
  have e1:prodG [g] i2=g1 g.k:=by show g1 g.k*i2=_;exact Xa8 _
  have e2:hs [g]=hN g:=by show hN g+0=hN g;rfl
  rw [e1,e2] at this
  exact this
 have h2:i=0∨i=1:=by omega
 rcases h2 with rfl|rfl
 ·exact key ⟨1,0,0⟩ 1 (by decide) (by decide) rfl rfl
 ·exact key ⟨5,0,0⟩ 2 (by decide) (by decide) rfl rfl
theorem Xoa{i:Nat}(hi:i<3) : pauM i=⟨2,2,oneL (2+(i:Int))⟩:=by
 rcases lt3 hi with rfl|rfl|rfl<;>kernel_rfl
theorem Xxn(w0:World)(x:Rg) : Ret Tryz.prog 175 [.agg #[vi x.a,vi x.b,vi x.c,vi x.d]] w0 (fun v w=>v=rV (rCj x)∧Below w0.heap.size w0 w):=by
 refine enter Tryz.func175 rfl 15 rfl rfl ?_;intro a hf
 have f:=bz w0
 refine Zs hf fun _ aC=>?_;refine Zf (X0j (zs:=[vi x.a,vi x.b,vi x.c,vi x.d]) rfl rfl) ?_;rintro _ w1 ⟨b2,rfl,aD,hE,e⟩;have aG:=Q0 f.size aD;have f:=btr f hE;refine Zf (X3 (zs:=[vi 0,vi 0,vi 0,vi 0]) X1y rfl) ?_;rintro _ w2 ⟨b3,rfl,aE,hE,g⟩
 have aB:b2≠b3:=by have:=e.lt;omega
 have aA:=Q0 f.size aE;have e:=e.below hE;have f:=btr f hE;refine Zx aC fun a hf _ aF=>?_;refine Ze (Vd rfl X0c 0)<|Ze (X0 rfl X9 (e.at 0))<|Ze (Vd rfl X0f 3)<|Ze (X0 rfl X9 (e.at 3))<|Ze (X8g rfl)<|Ze (Vd rfl X0d 2)<|Ze (X0 rfl X9 (e.at 2))<|Ze (X8g rfl)<|Ze (Vd rfl X0a 1)<|Ze (X0 rfl X9 (e.at 1)) ?_;refine Ze (X8g rfl)<|Ze (Xg (ps:=[(0,vi x.a),(1,vi (wr (-x.d))),(2,vi (wr (-x.c))),(3,vi (wr (-x.b)))]) (cs:=[vi x.a,vi (wr (-x.d)),vi (wr (-x.c)),vi (wr (-x.b))]) rfl (fun _=>by first|rfl|kernel_rfl))<|Zo (Vw [vi x.a,vi (wr (-x.d)),vi (wr (-x.c)),vi (wr (-x.b))] X0w g) ?_;rintro _ w3 ⟨ho,hb⟩;have aH:=g;have f:=Below.only f ho aA;have g:=hb;refine Zt aF fun a hf=>?_
 refine Q6 (X4 hf (Xx hf rfl (ResV.cellN (l:=[vi x.a,vi (wr (-x.d)),vi (wr (-x.c)),vi (wr (-x.b))]) rfl Xv (g.at 0) rfl)) ?_)
 exact ⟨rfl,f⟩
theorem Xwg(w0:World)(x:Dy) : Ret Tryz.prog 155 [.agg #[vi x.num.a,vi x.num.b,vi x.num.c,vi x.num.d,vi x.exp]] w0 (fun v w=>v=dV (dCj x)∧Below w0.heap.size w0 w):=by
 refine enter Tryz.func155 rfl 9 rfl rfl ?_;intro a hf
 have g:=bz w0
 refine Zs hf fun _ aC=>?_;refine Zf (X0j (zs:=[vi x.num.a,vi x.num.b,vi x.num.c,vi x.num.d,vi x.exp]) rfl rfl) ?_;rintro _ w1 ⟨b2,rfl,aD,i,f⟩;have aG:=Q0 g.size aD;have g:=btr g i;refine Zf (X3 (zs:=[vi 0,vi 0,vi 0,vi 0,vi 0]) X0n rfl) ?_;rintro _ w2 ⟨b3,rfl,aE,i,e⟩
 have aB:b2≠b3:=by have:=f.lt;omega
 have aA:=Q0 g.size aE;have f:=f.below i;have g:=btr g i;refine ZX aC fun a hf _ aF=>?_;refine Xz none (fun j=>[6].contains j) mixed ?_;intro w3 i;have f:=f.below i;have e:=e.below i;have g:=btr g i;refine Yb hf<|Yo 0 rfl (fun _=>Vd rfl X1i 0)<|Ye 1 rfl (X09 (l:=[vi x.num.a,vi x.num.b,vi x.num.c,vi x.num.d]) rfl Xv ((f.at 0).take 4) rfl)<|Yo 3 rfl (fun _=>Vd rfl X12 4)<|Ye 4 rfl (X0 rfl X9 (f.at 4))<|Y1 2 ?_;refine Yk rfl trivial (Vc (Xxn _ x.num) Xny) (fun _ _ ⟨_,i⟩=>i) ?_;rintro _ w4 ⟨rfl,i⟩;have e:=e.below i;have g:=btr g i;refine Yo 5 rfl (fun _=>Xg (ps:=[(0,.agg #[vi ((rCj x.num).a),vi ((rCj x.num).b),vi ((rCj x.num).c),vi ((rCj x.num).d)]),(1,vi x.exp)]) (cs:=[vi ((rCj x.num).a),vi ((rCj x.num).b),vi ((rCj x.num).c),vi ((rCj x.num).d),vi x.exp]) rfl (fun _=>by first|rfl|kernel_rfl))<|Y1 6 ?_;refine Yh rfl trivial rfl (Vw [vi ((rCj x.num).a),vi ((rCj x.num).b),vi ((rCj x.num).c),vi ((rCj x.num).d),vi x.exp] Xd e) ?_;rintro _ w5 ⟨ho,hb⟩;have aH:=e;have g:=Below.only g ho aA;have e:=hb;refine Yd fun a hf=>?_;refine aF _ _ ?_
 refine Q6 (X4 hf (Xx hf rfl (ResV.cellN (l:=[vi ((rCj x.num).a),vi ((rCj x.num).b),vi ((rCj x.num).c),vi ((rCj x.num).d),vi x.exp]) rfl X6 (e.at 0) rfl)) ?_)
 exact ⟨rfl,g⟩
theorem Xbt(y:World)(m:Mx)(Am:Option Addr)(cm:Nat)(Q:Rd y y.heap.size 53 encD Am m.cells)(b1:mOk m=true) : Ret Tryz.prog 128 [.agg #[vi m.rows,vi m.cols,.slice Am m.cells.length cm]] y (fun v w=>∃ A c,v=mV A c (adjS m)∧Own w y.heap.size 53 5 encD A c (adjS m).cells∧Below y.heap.size y w):=by
 have b2:=X2q b1
 have b4:m.cols=(m.cols.toNat:Int):=by omega
 have b6:m.rows=(m.rows.toNat:Int):=by omega
 suffices hgoal:Ret Tryz.prog 128 [.agg #[vi (m.rows.toNat:Int),vi (m.cols.toNat:Int),.slice Am m.cells.length cm]] y (fun v w=>∃ A c,v=.agg #[vi (m.cols.toNat:Int),vi (m.rows.toNat:Int),.slice A (adjS m).cells.length c]∧Own w y.heap.size 53 5 encD A c (adjS m).cells∧Below y.heap.size y w) by rw [← b4,← b6] at hgoal;exact hgoal
 refine enter Tryz.func128 rfl 40 rfl rfl ?_;intro a p
 have n:=bz y
 refine Zs p fun _ b7=>?_;refine Zf (X0j (zs:=[vi (m.rows.toNat:Int),vi (m.cols.toNat:Int),.slice Am m.cells.length cm]) rfl rfl) ?_;rintro _ w1 ⟨b3,rfl,b8,x,e⟩;have bG:=Q0 n.size b8;have n:=btr n x;refine Zf (X3 (zs:=[vi 0,vi 0,.slice none 0 0]) X0y rfl) ?_;rintro _ w2 ⟨b5,rfl,bC,x,f⟩
 have aY:b3≠b5:=by have:=e.lt;omega
 have aI:=Q0 n.size bC;have e:=e.below x;have n:=btr n x;refine Zx b7 fun a p _ bD=>?_;refine Ze (Vd rfl X14 1)<|Ze (X0 rfl X9 (e.at 1))<|Ze (Vd rfl X1c 0)<|Ze (X0 rfl X9 (e.at 0))<|Ze (Xg (ps:=[(0,vi (m.cols.toNat:Int)),(1,vi (m.rows.toNat:Int))]) (cs:=[vi (m.cols.toNat:Int),vi (m.rows.toNat:Int),.slice none 0 0]) rfl (fun _=>by first|rfl|kernel_rfl))<|Zf (X3 (zs:=[vi 0,vi 0,.slice none 0 0]) X0y rfl) ?_;rintro _ w3 ⟨b9,rfl,bE,x,g⟩
 have aZ:b3≠b9:=by have:=e.lt;omega
 have b0:b5≠b9:=by have:=f.lt;omega
 have U:=Q0 n.size bE;have e:=e.below x;have f:=f.below x;have n:=btr n x;refine Zo (Vw [vi (m.cols.toNat:Int),vi (m.rows.toNat:Int),.slice none 0 0] X0b g) ?_;rintro _ w4 ⟨H,hb⟩;have D:=g;have e:=e.only H (by omega);have f:=f.only H (by omega);have n:=Below.only n H U;have g:=hb;refine ZX bD fun a p _ aJ=>?_;refine Zs p fun _ aK=>?_;refine Za rfl<|Zt aK fun a p=>?_;refine Q8<|X07 (σ:=Nat×(List Dy)) (fun (s:Nat×(List Dy)) (a:Act) (w:World)=>match s with|(j,l)=>∃ B C,Fr a 40 [(1,.pointer (some ⟨b3,0,none⟩)),(2,.pointer (some ⟨b5,0,none⟩)),(3,.pointer (some ⟨b9,0,none⟩)),(4,vi (j:Int))]∧(j≤m.cols.toNat)∧(gridL (fun j i=>dCj (m.at i j)) m.rows.toNat (j*m.rows.toNat)=l)∧Blk w b3 29 [vi (m.rows.toNat:Int),vi (m.cols.toNat:Int),.slice Am m.cells.length cm]∧Blk w b5 29 [vi 0,vi 0,.slice none 0 0]∧Blk w b9 29 [vi (m.cols.toNat:Int),vi (m.rows.toNat:Int),.slice B l.length C]∧Own w y.heap.size 53 5 encD B C l∧Below y.heap.size y w) (fun (s:Nat×(List Dy))=>match s with|(j,l)=>m.cols.toNat-j) (0,[]) ?_ ?_
 ·exact ⟨none,0,p.sb,(Qf _),(by rw [Nat.zero_mul];rfl),e,f,g,(Own.nil _ _ _ _ _),n⟩
 rintro ⟨j,l⟩ a w5 ⟨B,C,p,hj,hl,e,f,g,E,n⟩;refine Q5 fun _ aL=>?_;refine Zs p fun _ aM=>?_;refine Zm rfl<|Ze (Vd rfl X14 1)<|Ze (X0 rfl X9 (e.at 1))<|Ze (X1h rfl rfl)<|Zt aM fun a p=>?_
 refine Xl p rfl (fun q=>?_) (fun q=>?_)
 ·have aA:=q;have q:=Q2 q
  have aN:j<m.cols.toNat:=by have:=q;omega
  refine Q7<|aL _ _<|Q5 fun _ aO=>?_;refine Q8<|Zs p fun _ aP=>?_;refine Za rfl<|Zt aP fun a p=>?_;refine Q8<|X07 (σ:=Nat×(List Dy)) (fun (s:Nat×(List Dy)) (a:Act) (w:World)=>match s with|(i,l2)=>∃ M N,Fr a 40 [(1,.pointer (some ⟨b3,0,none⟩)),(2,.pointer (some ⟨b5,0,none⟩)),(3,.pointer (some ⟨b9,0,none⟩)),(4,vi (j:Int)),(5,vi (i:Int))]∧(i≤m.rows.toNat)∧(gridL (fun j i=>dCj (m.at i j)) m.rows.toNat (j*m.rows.toNat+i)=l2)∧Blk w b3 29 [vi (m.rows.toNat:Int),vi (m.cols.toNat:Int),.slice Am m.cells.length cm]∧Blk w b5 29 [vi 0,vi 0,.slice none 0 0]∧Blk w b9 29 [vi (m.cols.toNat:Int),vi (m.rows.toNat:Int),.slice M l2.length N]∧Own w y.heap.size 53 5 encD M N l2∧Below y.heap.size y w) (fun (s:Nat×(List Dy))=>match s with|(i,l2)=>m.rows.toNat-i) (0,l) ?_ ?_
  ·exact ⟨B,C,p.sb,(Qf _),hl,e,f,g,E,n⟩
  rintro ⟨i,l2⟩ a w6 ⟨M,N,p,hi,aB,e,f,g,o,n⟩;refine Q5 fun _ aQ=>?_;refine Zs p fun _ aR=>?_;refine Zm rfl<|Ze (Vd rfl X1c 0)<|Ze (X0 rfl X9 (e.at 0))<|Ze (X1h rfl rfl)<|Zt aR fun a p=>?_
  refine Xl p rfl (fun t=>?_) (fun t=>?_)
  ·have aC:=t;have t:=Q2 t
   have aD:i<m.rows.toNat:=by have:=t;omega
   have bH:l2.length=j*m.rows.toNat+i:=by rw [← aB,X2p]
   have bJ:=X2r (show j≤32 by omega) (show m.rows.toNat≤32 by omega)
   have bI:=X2r (show i≤32 by omega) (show m.cols.toNat≤32 by omega)
   refine Q7<|aQ _ _<|Q5 fun _ aS=>?_;refine Q8<|Xz none (fun j=>[14,16].contains j) mixed ?_;intro w7 x;have e:=e.below x;have f:=f.below x;have g:=g.below x;have o:=o.below x;have n:=btr n x;refine Yb p<|Yo 0 rfl (fun _=>Vd rfl X11 2)<|Ye 1 rfl (X0 rfl X0p (g.at 2))<|Yo 2 rfl (fun _=>Vd rfl X11 2)<|Ye 3 rfl (X0 rfl X0p (e.at 2))<|Yo 4 rfl (fun _=>X7 rfl)<|Yo 5 rfl (fun _=>Vd rfl X14 1)<|Ye 6 rfl (X0 rfl X9 (e.at 1))<|Yo 7 rfl (fun _=>Xbx (m:=i) (k:=m.cols.toNat) rfl rfl (by have:=X2r (show i≤32 by omega) (show m.cols.toNat≤32 by omega);omega))<|Yo 8 rfl (fun _=>X7 rfl)<|Yo 9 rfl (fun _=>X03 rfl rfl (by omega) (by omega)) ?_;refine Yi (k:=(i*m.cols.toNat+j)) (u:=(m.at i j)) (enc:=encD) (l:=m.cells) 10 rfl trivial rfl rfl X01 Xd X06 (Q.below' n) (Mx.at_get (by rw [b2.2.2];exact X3u (by omega) (by omega))) (by omega) ?_;intro bK aE;refine Ye 11 rfl (X09 (l:=[vi ((m.at i j).num.a),vi ((m.at i j).num.b),vi ((m.at i j).num.c),vi ((m.at i j).num.d),vi ((m.at i j).exp)]) rfl X6 aE rfl)<|Y1 12 ?_;refine Yk rfl trivial (Vc (Xwg _ (m.at i j)) Xqj) (fun _ _ ⟨_,x⟩=>x) ?_;rintro _ w8 ⟨rfl,x⟩;have e:=e.below x;have f:=f.below x;have g:=g.below x;have o:=o.below x;have n:=btr n x;refine Y1 13<|Yk rfl trivial (Xb (k:=1) (vs:=[.agg #[vi ((dCj (m.at i j)).num.a),vi ((dCj (m.at i j)).num.b),vi ((dCj (m.at i j)).num.c),vi ((dCj (m.at i j)).num.d),vi ((dCj (m.at i j)).exp)]]) (zs:=[vi ((dCj (m.at i j)).num.a),vi ((dCj (m.at i j)).num.b),vi ((dCj (m.at i j)).num.c),vi ((dCj (m.at i j)).num.d),vi ((dCj (m.at i j)).exp)]) rfl X01 X13 rfl rfl) (fun _ _ ⟨_,_,_,h,_⟩=>h) ?_;rintro _ w9 ⟨bL,rfl,I,x,J⟩
   have bF:=Q0 n.size I;have aT:=(Q.below' n).away I;have G:=o.away I;have e:=e.below x;have f:=f.below x;have g:=g.below x;have o:=o.below x;have n:=btr n x;refine Y1 14<|Yt rfl trivial rfl (X0q (enc:=encD) (l:=(l2)) (l2:=([(dCj (m.at i j))])) (B0:=y.heap.size) rfl rfl X01 X13 X06 X2h o (Rd.of_blk J rfl _ J.lt) (by simp only [maxLen];simp;omega) (by simp;omega) n.size) ?_;rintro _ bM ⟨aF,aG,rfl,L,hg,aU⟩
   have z:Own _ y.heap.size 53 5 encD _ _ (l2):=o
   have aH:=aU _ J.lt G;clear aU;have e:=e.appT z hg rfl;have f:=f.appT z hg rfl;have g:=g.appT z hg rfl;have n:=Below.app n z hg (Qb _) n.size;clear z hg;refine Yo 15 rfl (fun _=>Vd rfl X11 2)<|Y1 16 ?_;refine Yh rfl trivial rfl (Vu (vs:=[.slice aF (l2++([(dCj (m.at i j))])).length aG]) (l':=[vi (m.cols.toNat:Int),vi (m.rows.toNat:Int),.slice aF (l2++([(dCj (m.at i j))])).length aG]) rfl rfl X4a g) ?_;rintro _ bN ⟨H,hb⟩;have D:=g;have e:=e.only H (by omega);have f:=f.only H (by omega);have L:=L.onlyT H D rfl;have n:=Below.only n H U;have g:=hb;refine Yd fun a p=>?_;refine Xn<|aS _ _<|Zr p<|Zm rfl<|Ze (X03 rfl rfl (by omega) (by omega))<|Za rfl ?_;refine Zn fun a p=>?_;refine Xo ?_;exact ⟨(i+1,l2++[dCj (m.at i j)]),⟨aF,aG,p.sb,(by omega),(by rw [X77 aD,aB]),e,f,g,L,n⟩,(by first|omega|(dsimp only;omega))⟩
  have aC:=t;have t:=Q1 t
  have aD:i=m.rows.toNat:=by have:=t;omega
  refine Q9<|Xm<|Xm<|X08 ?_;refine Xn<|aO _ _<|Zr p<|Zm rfl<|Ze (X03 rfl rfl (by omega) (by omega))<|Za rfl ?_;refine Zn fun a p=>?_;refine Xo ?_;exact ⟨(j+1,l2),⟨M,N,p.sb,(by omega),(by rw [Wb,Nat.one_mul,← aB,aD]),e,f,g,o,n⟩,(by first|omega|(dsimp only;omega))⟩
 have aA:=q;have q:=Q1 q
 have aN:j=m.cols.toNat:=by have:=q;omega
 refine Q9<|Xm<|Xm<|X08 ?_;refine aJ _ _<|Zs p fun _ aW=>?_;refine Ze (Vn Xr g)<|Zo (Vw [vi (m.cols.toNat:Int),vi (m.rows.toNat:Int),.slice B l.length C] X0b f) ?_;rintro _ bO ⟨H,hb⟩;have D:=f;have E:=E.onlyT H D rfl;have n:=Below.only n H aI;have f:=hb;refine Zt aW fun a p=>?_
 refine Q6 (X4 p (Xx p rfl (ResV.cellN (l:=[vi (m.cols.toNat:Int),vi (m.rows.toNat:Int),.slice B l.length C]) rfl Xr (f.at 0) rfl)) ?_)
 have aX:(adjS m).cells=l:=by rw [← hl,aN];rfl
 rw [aX]
 exact ⟨B,C,rfl,E,n⟩
theorem Xbi(w0:World)(i:Nat)(aC:i<3) : Ret Tryz.prog 127 [vi (i:Int)] w0 (fun v w=>∃ A c,v=mV A c (pauM i)∧Own w w0.heap.size 53 5 encD A c (pauM i).cells∧Below w0.heap.size w0 w):=by
 refine enter Tryz.func127 rfl 7 rfl rfl ?_;intro a hf
 have e:=bz w0
 refine Zs hf fun _ aD=>?_;refine Zf (X3 (zs:=[vi 0,vi 0,.slice none 0 0]) X0y rfl) ?_;rintro _ w1 ⟨b3,rfl,aE,hE,b⟩;have aA:=Q0 e.size aE;have e:=btr e hE;refine Zx aD fun a hf _ aF=>?_;refine Zm rfl<|Ze (X03 rfl rfl (by omega) (by omega))<|Zf (Vc (Xxr _ (2+(i:Int)) (by omega)) Xn1) ?_;rintro _ w2 ⟨A5,c5,rfl,d,hE⟩;have d:=d.lower e.size;have b:=b.below hE;have e:=btr e hE;refine Ze (Xg (ps:=[(0,vi 2),(1,vi 2),(2,.slice A5 (oneL (2+(i:Int))).length c5)]) (cs:=[vi 2,vi 2,.slice A5 (oneL (2+(i:Int))).length c5]) rfl (fun _=>by first|rfl|kernel_rfl))<|Zo (Vw [vi 2,vi 2,.slice A5 (oneL (2+(i:Int))).length c5] X0b b) ?_;rintro _ w3 ⟨ho,hb⟩;have aB:=b;have d:=d.onlyT ho aB rfl;have e:=Below.only e ho aA;have b:=hb;refine Zt aF fun a hf=>?_
 refine Q6 (X4 hf (Xx hf rfl (ResV.cellN (l:=[vi 2,vi 2,.slice A5 (oneL (2+(i:Int))).length c5]) rfl Xr (b.at 0) rfl)) ?_)
 have aG:pauM i=⟨2,2,oneL (2+(i:Int))⟩:=Xoa aC
 rw [aG]
 exact ⟨A5,c5,rfl,d,e⟩
theorem Xyl(w0:World)(m:Mx)(Am:Option Addr)(cm:Nat)(aA:Rd w0 w0.heap.size 53 encD Am m.cells)(eF:oneQ m=true) : Ret Tryz.prog 89 [.agg #[vi m.rows,vi m.cols,.slice Am m.cells.length cm]] w0 (fun v w=>∃ A c1,v=.tuple #[.agg #[.slice A ((blochI m).getD []).length c1],.bool ((blochI m).isSome)]∧Own w w0.heap.size 53 5 encD A c1 ((blochI m).getD [])∧Below w0.heap.size w0 w):=by
 obtain ⟨_,aB,eH,eI⟩:=X40 eF;refine enter Tryz.func89 rfl 59 rfl rfl ?_;intro a J
 have x:=bz w0
 refine Zs J fun _ gQ=>?_;refine Zf (X0j (zs:=[vi m.rows,vi m.cols,.slice Am m.cells.length cm]) rfl rfl) ?_;rintro _ w1 ⟨b3,rfl,gR,o,q⟩;have i3:=Q0 x.size gR;have x:=btr x o;refine Zf (X3 (zs:=[.slice none 0 0]) X4k rfl) ?_;rintro _ w2 ⟨b5,rfl,gU,o,p⟩;have dC:=Q0 x.size gU;have q:=q.below o;have x:=btr x o;refine Za rfl<|Zx gQ fun a J _ gX=>?_;refine Ze (Xg (ps:=[]) (cs:=[.bool false]) rfl (fun _=>by first|rfl|kernel_rfl))<|Zf (X0j (zs:=[.bool false]) rfl rfl) ?_;rintro _ w3 ⟨b7,rfl,hH,o,t⟩;have L:=Q0 x.size hH;have q:=q.below o;have p:=p.below o;have x:=btr x o;refine Za rfl<|Zx gX fun a J _ hJ=>?_;refine Zf (X3 (zs:=[.slice none 0 0]) X4k rfl) ?_;rintro _ w4 ⟨b10,rfl,eJ,o,f⟩
 have eK:b5≠b10:=by have:=p.lt;omega
 have dD:=Q0 x.size eJ;have q:=q.below o;have p:=p.below o;have t:=t.below o;have x:=btr x o;refine ZX hJ fun a J _ eM=>?_;refine Zs J fun _ eO=>?_;refine Za rfl<|Zt eO fun a J=>?_;refine Q8<|X07 (σ:=Nat×(List Dy)×Bool) (fun (s:Nat×(List Dy)×Bool) (a:Act) (w:World)=>match s with|(i,l,f1)=>∃ bJ bK,Fr a 59 [(1,.pointer (some ⟨b3,0,none⟩)),(2,.pointer (some ⟨b5,0,none⟩)),(4,.pointer (some ⟨b7,0,none⟩)),(5,.pointer (some ⟨b10,0,none⟩)),(6,vi (i:Int))]∧(i≤3)∧(BlS m (i*3) f1 l)∧Blk w b3 29 [vi m.rows,vi m.cols,.slice Am m.cells.length cm]∧Blk w b5 58 [.slice none 0 0]∧Blk w b7 97 [.bool f1]∧Blk w b10 58 [.slice bJ l.length bK]∧Own w w0.heap.size 53 5 encD bJ bK l∧Below w0.heap.size w0 w) (fun (s:Nat×(List Dy)×Bool)=>match s with|(i,l,f1)=>3-i) (0,[],false) ?_ ?_
 ·exact ⟨none,0,J.sb,(by omega),⟨fun _=>rfl,fun h=>(by cases h),rfl⟩,q,p,t,f,(Own.nil _ _ _ _ _),x⟩
 rintro ⟨i,l,f1⟩ a w5 ⟨bJ,bK,J,hi,hl,q,p,t,f,bN,x⟩;refine Q5 fun _ eP=>?_;refine Zs J fun _ eQ=>?_;refine Zm rfl<|Ze (X1h rfl rfl)<|Zt eQ fun a J=>?_
 refine Xl J rfl (fun aG=>?_) (fun aG=>?_)
 ·have aC:=aG;have aG:=Q2 aG
  have bC:i<3:=by have:=aG;omega
  refine Q7<|eP _ _<|Q5 fun _ eR=>?_;refine Q8<|Zs J fun _ eT=>?_;refine Za rfl<|Zt eT fun a J=>?_;refine Q8<|X07 (σ:=Nat×(List Dy)×Bool) (fun (s:Nat×(List Dy)×Bool) (a:Act) (w:World)=>match s with|(j,l2,e)=>∃ bD bF,Fr a 59 [(1,.pointer (some ⟨b3,0,none⟩)),(2,.pointer (some ⟨b5,0,none⟩)),(4,.pointer (some ⟨b7,0,none⟩)),(5,.pointer (some ⟨b10,0,none⟩)),(6,vi (i:Int)),(7,vi (j:Int))]∧(j≤3)∧(BlS m (i*3+j) e l2)∧Blk w b3 29 [vi m.rows,vi m.cols,.slice Am m.cells.length cm]∧Blk w b5 58 [.slice none 0 0]∧Blk w b7 97 [.bool e]∧Blk w b10 58 [.slice bD l2.length bF]∧Own w w0.heap.size 53 5 encD bD bF l2∧Below w0.heap.size w0 w) (fun (s:Nat×(List Dy)×Bool)=>match s with|(j,l2,e)=>3-j) (0,l,f1) ?_ ?_
  ·exact ⟨bJ,bK,J.sb,(by omega),hl,q,p,t,f,bN,x⟩
  rintro ⟨j,l2,e⟩ a w6 ⟨bD,bF,J,hj,dE,q,p,t,f,n,x⟩;refine Q5 fun _ eU=>?_;refine Zs J fun _ eV=>?_;refine Zm rfl<|Ze (X1h rfl rfl)<|Zt eV fun a J=>?_
  refine Xl J rfl (fun aH=>?_) (fun aH=>?_)
  ·have aD:=aH;have aH:=Q2 aH
   have aK:j<3:=by have:=aH;omega
   have i4:l2.length=i*3+j:=dE.2.2
   obtain ⟨x1,x2,x3,x4,x5,x6,x7⟩:=Xgr aB eH eI e bC aK;have hP:=Xjm aB eH eI bC aK dE;refine Q7<|eU _ _<|Q5 fun _ eX=>?_;refine Q8<|Q5 fun _ eY=>?_;refine X02 (fun a w=>∃ b32 aP bE,Fr a 59 [(1,.pointer (some ⟨b3,0,none⟩)),(2,.pointer (some ⟨b5,0,none⟩)),(4,.pointer (some ⟨b7,0,none⟩)),(5,.pointer (some ⟨b10,0,none⟩)),(6,vi (i:Int)),(7,vi (j:Int)),(8,.pointer (some ⟨b32,0,none⟩))]∧w0.heap.size≤b32∧Blk w b32 29 [vi (((timesS ((timesS ((timesS e (pauM i) m).1) ((timesS e (pauM i) m).2) (pauM j)).1) ((timesS ((timesS e (pauM i) m).1) ((timesS e (pauM i) m).2) (pauM j)).2) (adjS m)).2).rows),vi (((timesS ((timesS ((timesS e (pauM i) m).1) ((timesS e (pauM i) m).2) (pauM j)).1) ((timesS ((timesS e (pauM i) m).1) ((timesS e (pauM i) m).2) (pauM j)).2) (adjS m)).2).cols),.slice aP (((timesS ((timesS ((timesS e (pauM i) m).1) ((timesS e (pauM i) m).2) (pauM j)).1) ((timesS ((timesS e (pauM i) m).1) ((timesS e (pauM i) m).2) (pauM j)).2) (adjS m)).2).cells).length bE]∧b3≠b32∧Own w w0.heap.size 53 5 encD aP bE (((timesS ((timesS ((timesS e (pauM i) m).1) ((timesS e (pauM i) m).2) (pauM j)).1) ((timesS ((timesS e (pauM i) m).1) ((timesS e (pauM i) m).2) (pauM j)).2) (adjS m)).2).cells)∧Blk w b3 29 [vi m.rows,vi m.cols,.slice Am m.cells.length cm]∧Blk w b5 58 [.slice none 0 0]∧Blk w b7 97 [.bool ((timesS ((timesS ((timesS e (pauM i) m).1) ((timesS e (pauM i) m).2) (pauM j)).1) ((timesS ((timesS e (pauM i) m).1) ((timesS e (pauM i) m).2) (pauM j)).2) (adjS m)).1)]∧Blk w b10 58 [.slice bD l2.length bF]∧Own w w0.heap.size 53 5 encD bD bF l2∧Below w0.heap.size w0 w) ?_ ?_
   ·refine Xz (some b7) (fun j=>[14].contains j) mixed ?_;intro w7 o;have q:=q.below o;have p:=p.below o;have t:=t.below o;have f:=f.below o;have n:=n.below o;have x:=btr x o;refine Yb J<|Yo 0 rfl (fun _=>X7 rfl)<|Yo 1 rfl (fun _=>X7 rfl)<|Yo 2 rfl (fun _=>X7 rfl)<|Yo 3 rfl (fun _=>X7 rfl) ?_;refine Yw 5 rfl trivial (fun w1 h1=>X09 (l:=[vi m.rows,vi m.cols,.slice Am m.cells.length cm]) rfl Xr ((q.only h1 (Blk.ne q t rfl)).at 0) rfl) ?_;refine Yo 7 rfl (fun _=>X7 rfl) ?_;refine Yw 10 rfl trivial (fun w1 h1=>X09 (l:=[vi m.rows,vi m.cols,.slice Am m.cells.length cm]) rfl Xr ((q.only h1 (Blk.ne q t rfl)).at 0) rfl) ?_;refine Y2 4 13 ?_ ?_
    ·refine Yf rfl trivial (EfW.mono (Vc (Xbi _ i bC) X6p) (fun _ _ h=>⟨fun _=>by obtain ⟨dF,dG,rfl,aM,o⟩:=h;exact Keep.of_below o,h⟩)) ?_;rintro _ w8 ⟨dF,dG,rfl,aM,o⟩;have aM:=aM.lower x.size;have q:=q.below o;have p:=p.below o;have t:=t.below o;have f:=f.below o;have n:=n.below o;have x:=btr x o;refine Y2 6 13 ?_ ?_
     ·refine Yf rfl trivial (EfW.mono (Vc (X6q _ b7 e t (pauM i) dF dG aM.rd.top m Am cm (aA.below' x).top (X3n bC) aB x5) X2w) (fun _ _ h=>⟨fun _=>by obtain ⟨d6,d7,rfl,U,D,y⟩:=h;exact D.keep,h⟩)) ?_;rintro _ w9 ⟨d6,d7,rfl,U,D,y⟩;have E:=x.size;obtain ⟨wm,z,hm,o⟩:=D.mid;clear hm;have g:=t;have q:=q.only z (Blk.ne q g rfl);have p:=p.only z (Blk.ne p g rfl);have f:=f.only z (Blk.ne f g rfl);have n:=n.onlyT z g rfl;have x:=Below.only x z L;have q:=q.below o;have p:=p.below o;have f:=f.below o;have n:=n.below o;have x:=btr x o
      clear g o z D;have t:=y;clear y
      have U:=U.lower E;clear E;refine Y2 8 13 ?_ ?_
      ·refine Yf rfl trivial (EfW.mono (Vc (Xbi _ j aK) X6p) (fun _ _ h=>⟨fun _=>by obtain ⟨dH,dI,rfl,aN,o⟩:=h;exact Keep.of_below o,h⟩)) ?_;rintro _ i5 ⟨dH,dI,rfl,aN,o⟩;have aN:=aN.lower x.size;have q:=q.below o;have p:=p.below o;have t:=t.below o;have f:=f.below o;have n:=n.below o;have U:=U.below o;have x:=btr x o;refine Y2 9 13 ?_ ?_
       ·refine Yf rfl trivial (EfW.mono (Vc (X6q _ b7 ((timesS e (pauM i) m).1) t ((timesS e (pauM i) m).2) d6 d7 U.rd.top (pauM j) dH dI aN.rd.top x1 (X3n aK) x2) X2w) (fun _ _ h=>⟨fun _=>by obtain ⟨d8,d9,rfl,W,D,y⟩:=h;exact D.keep,h⟩)) ?_;rintro _ i6 ⟨d8,d9,rfl,W,D,y⟩;have E:=x.size;obtain ⟨wm,z,hm,o⟩:=D.mid;clear hm;have g:=t;have q:=q.only z (Blk.ne q g rfl);have p:=p.only z (Blk.ne p g rfl);have f:=f.only z (Blk.ne f g rfl);have n:=n.onlyT z g rfl;have x:=Below.only x z L;have q:=q.below o;have p:=p.below o;have f:=f.below o;have n:=n.below o;have x:=btr x o
        clear g o z D;have t:=y;clear y
        have W:=W.lower E;clear E;refine Y2 11 13 ?_ ?_
        ·refine Yf rfl trivial (EfW.mono (Vc (Xbt _ m Am cm (aA.below' x).top aB) X6m) (fun _ _ h=>⟨fun _=>by obtain ⟨dJ,dK,rfl,aO,o⟩:=h;exact Keep.of_below o,h⟩)) ?_;rintro _ i7 ⟨dJ,dK,rfl,aO,o⟩;have aO:=aO.lower x.size;have q:=q.below o;have p:=p.below o;have t:=t.below o;have f:=f.below o;have n:=n.below o;have W:=W.below o;have x:=btr x o;refine Y2 12 13 ?_ ?_
         ·refine Yf rfl trivial (EfW.mono (Vc (X6q _ b7 ((timesS ((timesS e (pauM i) m).1) ((timesS e (pauM i) m).2) (pauM j)).1) t ((timesS ((timesS e (pauM i) m).1) ((timesS e (pauM i) m).2) (pauM j)).2) d8 d9 W.rd.top (adjS m) dJ dK aO.rd.top x3 (X44 aB) x4) X2w) (fun _ _ h=>⟨fun _=>by obtain ⟨aP,bE,rfl,B,D,y⟩:=h;exact D.keep,h⟩)) ?_;rintro _ i8 ⟨aP,bE,rfl,B,D,y⟩;have E:=x.size;obtain ⟨wm,z,hm,o⟩:=D.mid;clear hm;have g:=t;have q:=q.only z (Blk.ne q g rfl);have p:=p.only z (Blk.ne p g rfl);have f:=f.only z (Blk.ne f g rfl);have n:=n.onlyT z g rfl;have x:=Below.only x z L;have q:=q.below o;have p:=p.below o;have f:=f.below o;have n:=n.below o;have x:=btr x o
          clear g o z D;have t:=y;clear y
          have B:=B.lower E;clear E;refine Y1 13<|Yf rfl trivial (EfW.mono (X3 (zs:=[vi 0,vi 0,.slice none 0 0]) X0y rfl) (fun _ _ h=>⟨fun _=>by obtain ⟨_,_,_,o,_⟩:=h;exact Keep.of_below o,h⟩)) ?_;rintro _ i9 ⟨b32,rfl,eZ,o,C⟩
          have bG:b3≠b32:=by have:=q.lt;omega
          have bL:=Q0 x.size eZ;have q:=q.below o;have p:=p.below o;have t:=t.below o;have f:=f.below o;have n:=n.below o;have B:=B.below o;have x:=btr x o;refine Y1 14<|Yh rfl trivial rfl (Vw [vi (((timesS ((timesS ((timesS e (pauM i) m).1) ((timesS e (pauM i) m).2) (pauM j)).1) ((timesS ((timesS e (pauM i) m).1) ((timesS e (pauM i) m).2) (pauM j)).2) (adjS m)).2).rows),vi (((timesS ((timesS ((timesS e (pauM i) m).1) ((timesS e (pauM i) m).2) (pauM j)).1) ((timesS ((timesS e (pauM i) m).1) ((timesS e (pauM i) m).2) (pauM j)).2) (adjS m)).2).cols),.slice aP (((timesS ((timesS ((timesS e (pauM i) m).1) ((timesS e (pauM i) m).2) (pauM j)).1) ((timesS ((timesS e (pauM i) m).1) ((timesS e (pauM i) m).2) (pauM j)).2) (adjS m)).2).cells).length bE] X0b C) ?_;rintro _ iA ⟨G,hb⟩;have g:=C;have q:=q.only G (by omega);have p:=p.only G (Blk.ne p g rfl);have t:=t.only G (Blk.ne t g rfl);have f:=f.only G (Blk.ne f g rfl);have n:=n.onlyT G g rfl;have B:=B.onlyT G g rfl;have x:=Below.only x G bL;have C:=hb;refine Yd fun a J=>?_;exact ⟨b32,aP,bE,J.sb,bL,C,bG,B,q,p,t,f,n,x⟩
         refine Yf rfl trivial (EfW.mono (X3 (zs:=[vi 0,vi 0,.slice none 0 0]) X0y rfl) (fun _ _ h=>⟨fun _=>by obtain ⟨_,_,_,o,_⟩:=h;exact Keep.of_below o,h⟩)) ?_;rintro _ iB ⟨b34,rfl,f7,o,aI⟩
         have cE:b3≠b34:=by have:=q.lt;omega
         have cF:=Q0 x.size f7;have q:=q.below o;have p:=p.below o;have t:=t.below o;have f:=f.below o;have n:=n.below o;have W:=W.below o;have aO:=aO.below o;have x:=btr x o;refine Y1 12<|Yf rfl trivial (EfW.mono (Vc (X6q _ b7 ((timesS ((timesS e (pauM i) m).1) ((timesS e (pauM i) m).2) (pauM j)).1) t ((timesS ((timesS e (pauM i) m).1) ((timesS e (pauM i) m).2) (pauM j)).2) d8 d9 W.rd.top (adjS m) dJ dK aO.rd.top x3 (X44 aB) x4) X2w) (fun _ _ h=>⟨fun _=>by obtain ⟨dL,dM,rfl,aR,D,y⟩:=h;exact D.keep,h⟩)) ?_;rintro _ iC ⟨dL,dM,rfl,aR,D,y⟩;have E:=x.size;obtain ⟨wm,z,hm,o⟩:=D.mid;clear hm;have g:=t;have q:=q.only z (Blk.ne q g rfl);have p:=p.only z (Blk.ne p g rfl);have f:=f.only z (Blk.ne f g rfl);have aI:=aI.only z (Blk.ne aI g rfl);have n:=n.onlyT z g rfl;have x:=Below.only x z L;have q:=q.below o;have p:=p.below o;have f:=f.below o;have aI:=aI.below o;have n:=n.below o;have x:=btr x o
         clear g o z D;have t:=y;clear y
         have aR:=aR.lower E;clear E;refine Y1 14<|Yh rfl trivial rfl (Vw [vi (((timesS ((timesS ((timesS e (pauM i) m).1) ((timesS e (pauM i) m).2) (pauM j)).1) ((timesS ((timesS e (pauM i) m).1) ((timesS e (pauM i) m).2) (pauM j)).2) (adjS m)).2).rows),vi (((timesS ((timesS ((timesS e (pauM i) m).1) ((timesS e (pauM i) m).2) (pauM j)).1) ((timesS ((timesS e (pauM i) m).1) ((timesS e (pauM i) m).2) (pauM j)).2) (adjS m)).2).cols),.slice dL (((timesS ((timesS ((timesS e (pauM i) m).1) ((timesS e (pauM i) m).2) (pauM j)).1) ((timesS ((timesS e (pauM i) m).1) ((timesS e (pauM i) m).2) (pauM j)).2) (adjS m)).2).cells).length dM] X0b aI) ?_;rintro _ iD ⟨G,hb⟩;have g:=aI;have q:=q.only G (by omega);have p:=p.only G (Blk.ne p g rfl);have t:=t.only G (Blk.ne t g rfl);have f:=f.only G (Blk.ne f g rfl);have n:=n.onlyT G g rfl;have aR:=aR.onlyT G g rfl;have x:=Below.only x G cF;have aI:=hb;refine Yd fun a J=>?_;exact ⟨b34,dL,dM,J.sub ⟨rfl,rfl,rfl,rfl,rfl,rfl,(by first|rfl|(simp [look,aC,aD])),trivial⟩,cF,aI,cE,aR,q,p,t,f,n,x⟩
        refine Yf rfl trivial (EfW.mono (X3 (zs:=[vi 0,vi 0,.slice none 0 0]) X0y rfl) (fun _ _ h=>⟨fun _=>by obtain ⟨_,_,_,o,_⟩:=h;exact Keep.of_below o,h⟩)) ?_;rintro _ iE ⟨b37,rfl,f8,o,aE⟩
        have cG:b3≠b37:=by have:=q.lt;omega
        have cH:=Q0 x.size f8;have q:=q.below o;have p:=p.below o;have t:=t.below o;have f:=f.below o;have n:=n.below o;have W:=W.below o;have x:=btr x o;refine Y1 11<|Yf rfl trivial (EfW.mono (Vc (Xbt _ m Am cm (aA.below' x).top aB) X6m) (fun _ _ h=>⟨fun _=>by obtain ⟨f9,fA,rfl,bO,o⟩:=h;exact Keep.of_below o,h⟩)) ?_;rintro _ iF ⟨f9,fA,rfl,bO,o⟩;have bO:=bO.lower x.size;have q:=q.below o;have p:=p.below o;have t:=t.below o;have f:=f.below o;have aE:=aE.below o;have n:=n.below o;have W:=W.below o;have x:=btr x o;refine Y1 12<|Yf rfl trivial (EfW.mono (Vc (X6q _ b7 ((timesS ((timesS e (pauM i) m).1) ((timesS e (pauM i) m).2) (pauM j)).1) t ((timesS ((timesS e (pauM i) m).1) ((timesS e (pauM i) m).2) (pauM j)).2) d8 d9 W.rd.top (adjS m) f9 fA bO.rd.top x3 (X44 aB) x4) X2w) (fun _ _ h=>⟨fun _=>by obtain ⟨dN,dP,rfl,aS,D,y⟩:=h;exact D.keep,h⟩)) ?_;rintro _ iG ⟨dN,dP,rfl,aS,D,y⟩;have E:=x.size;obtain ⟨wm,z,hm,o⟩:=D.mid;clear hm;have g:=t;have q:=q.only z (Blk.ne q g rfl);have p:=p.only z (Blk.ne p g rfl);have f:=f.only z (Blk.ne f g rfl);have aE:=aE.only z (Blk.ne aE g rfl);have n:=n.onlyT z g rfl;have x:=Below.only x z L;have q:=q.below o;have p:=p.below o;have f:=f.below o;have aE:=aE.below o;have n:=n.below o;have x:=btr x o
        clear g o z D;have t:=y;clear y
        have aS:=aS.lower E;clear E;refine Y1 14<|Yh rfl trivial rfl (Vw [vi (((timesS ((timesS ((timesS e (pauM i) m).1) ((timesS e (pauM i) m).2) (pauM j)).1) ((timesS ((timesS e (pauM i) m).1) ((timesS e (pauM i) m).2) (pauM j)).2) (adjS m)).2).rows),vi (((timesS ((timesS ((timesS e (pauM i) m).1) ((timesS e (pauM i) m).2) (pauM j)).1) ((timesS ((timesS e (pauM i) m).1) ((timesS e (pauM i) m).2) (pauM j)).2) (adjS m)).2).cols),.slice dN (((timesS ((timesS ((timesS e (pauM i) m).1) ((timesS e (pauM i) m).2) (pauM j)).1) ((timesS ((timesS e (pauM i) m).1) ((timesS e (pauM i) m).2) (pauM j)).2) (adjS m)).2).cells).length dP] X0b aE) ?_;rintro _ iH ⟨G,hb⟩;have g:=aE;have q:=q.only G (by omega);have p:=p.only G (Blk.ne p g rfl);have t:=t.only G (Blk.ne t g rfl);have f:=f.only G (Blk.ne f g rfl);have n:=n.onlyT G g rfl;have aS:=aS.onlyT G g rfl;have x:=Below.only x G cH;have aE:=hb;refine Yd fun a J=>?_;exact ⟨b37,dN,dP,J.sub ⟨rfl,rfl,rfl,rfl,rfl,rfl,(by first|rfl|(simp [look,aC,aD])),trivial⟩,cH,aE,cG,aS,q,p,t,f,n,x⟩
       refine Yf rfl trivial (EfW.mono (X3 (zs:=[vi 0,vi 0,.slice none 0 0]) X0y rfl) (fun _ _ h=>⟨fun _=>by obtain ⟨_,_,_,o,_⟩:=h;exact Keep.of_below o,h⟩)) ?_;rintro _ iI ⟨b41,rfl,fB,o,Q⟩
       have cJ:b3≠b41:=by have:=q.lt;omega
       have cK:=Q0 x.size fB;have q:=q.below o;have p:=p.below o;have t:=t.below o;have f:=f.below o;have n:=n.below o;have U:=U.below o;have aN:=aN.below o;have x:=btr x o;refine Y1 9<|Yf rfl trivial (EfW.mono (Vc (X6q _ b7 ((timesS e (pauM i) m).1) t ((timesS e (pauM i) m).2) d6 d7 U.rd.top (pauM j) dH dI aN.rd.top x1 (X3n aK) x2) X2w) (fun _ _ h=>⟨fun _=>by obtain ⟨fC,fD,rfl,aT,D,y⟩:=h;exact D.keep,h⟩)) ?_;rintro _ iJ ⟨fC,fD,rfl,aT,D,y⟩;have E:=x.size;obtain ⟨wm,z,hm,o⟩:=D.mid;clear hm;have g:=t;have q:=q.only z (Blk.ne q g rfl);have p:=p.only z (Blk.ne p g rfl);have f:=f.only z (Blk.ne f g rfl);have Q:=Q.only z (Blk.ne Q g rfl);have n:=n.onlyT z g rfl;have x:=Below.only x z L;have q:=q.below o;have p:=p.below o;have f:=f.below o;have Q:=Q.below o;have n:=n.below o;have x:=btr x o
       clear g o z D;have t:=y;clear y
       have aT:=aT.lower E;clear E;refine Y1 11<|Yf rfl trivial (EfW.mono (Vc (Xbt _ m Am cm (aA.below' x).top aB) X6m) (fun _ _ h=>⟨fun _=>by obtain ⟨fE,fF,rfl,bP,o⟩:=h;exact Keep.of_below o,h⟩)) ?_;rintro _ iK ⟨fE,fF,rfl,bP,o⟩;have bP:=bP.lower x.size;have q:=q.below o;have p:=p.below o;have t:=t.below o;have f:=f.below o;have Q:=Q.below o;have n:=n.below o;have aT:=aT.below o;have x:=btr x o;refine Y1 12<|Yf rfl trivial (EfW.mono (Vc (X6q _ b7 ((timesS ((timesS e (pauM i) m).1) ((timesS e (pauM i) m).2) (pauM j)).1) t ((timesS ((timesS e (pauM i) m).1) ((timesS e (pauM i) m).2) (pauM j)).2) fC fD aT.rd.top (adjS m) fE fF bP.rd.top x3 (X44 aB) x4) X2w) (fun _ _ h=>⟨fun _=>by obtain ⟨dQ,dR,rfl,aU,D,y⟩:=h;exact D.keep,h⟩)) ?_;rintro _ iM ⟨dQ,dR,rfl,aU,D,y⟩;have E:=x.size;obtain ⟨wm,z,hm,o⟩:=D.mid;clear hm;have g:=t;have q:=q.only z (Blk.ne q g rfl);have p:=p.only z (Blk.ne p g rfl);have f:=f.only z (Blk.ne f g rfl);have Q:=Q.only z (Blk.ne Q g rfl);have n:=n.onlyT z g rfl;have x:=Below.only x z L;have q:=q.below o;have p:=p.below o;have f:=f.below o;have Q:=Q.below o;have n:=n.below o;have x:=btr x o
       clear g o z D;have t:=y;clear y
       have aU:=aU.lower E;clear E;refine Y1 14<|Yh rfl trivial rfl (Vw [vi (((timesS ((timesS ((timesS e (pauM i) m).1) ((timesS e (pauM i) m).2) (pauM j)).1) ((timesS ((timesS e (pauM i) m).1) ((timesS e (pauM i) m).2) (pauM j)).2) (adjS m)).2).rows),vi (((timesS ((timesS ((timesS e (pauM i) m).1) ((timesS e (pauM i) m).2) (pauM j)).1) ((timesS ((timesS e (pauM i) m).1) ((timesS e (pauM i) m).2) (pauM j)).2) (adjS m)).2).cols),.slice dQ (((timesS ((timesS ((timesS e (pauM i) m).1) ((timesS e (pauM i) m).2) (pauM j)).1) ((timesS ((timesS e (pauM i) m).1) ((timesS e (pauM i) m).2) (pauM j)).2) (adjS m)).2).cells).length dR] X0b Q) ?_;rintro _ iN ⟨G,hb⟩;have g:=Q;have q:=q.only G (by omega);have p:=p.only G (Blk.ne p g rfl);have t:=t.only G (Blk.ne t g rfl);have f:=f.only G (Blk.ne f g rfl);have n:=n.onlyT G g rfl;have aU:=aU.onlyT G g rfl;have x:=Below.only x G cK;have Q:=hb;refine Yd fun a J=>?_;exact ⟨b41,dQ,dR,J.sub ⟨rfl,rfl,rfl,rfl,rfl,rfl,(by first|rfl|(simp [look,aC,aD])),trivial⟩,cK,Q,cJ,aU,q,p,t,f,n,x⟩
      refine Yf rfl trivial (EfW.mono (X3 (zs:=[vi 0,vi 0,.slice none 0 0]) X0y rfl) (fun _ _ h=>⟨fun _=>by obtain ⟨_,_,_,o,_⟩:=h;exact Keep.of_below o,h⟩)) ?_;rintro _ iO ⟨b46,rfl,fG,o,M⟩
      have cM:b3≠b46:=by have:=q.lt;omega
      have cO:=Q0 x.size fG;have q:=q.below o;have p:=p.below o;have t:=t.below o;have f:=f.below o;have n:=n.below o;have U:=U.below o;have x:=btr x o;refine Y1 8<|Yf rfl trivial (EfW.mono (Vc (Xbi _ j aK) X6p) (fun _ _ h=>⟨fun _=>by obtain ⟨fH,fI,rfl,bQ,o⟩:=h;exact Keep.of_below o,h⟩)) ?_;rintro _ iP ⟨fH,fI,rfl,bQ,o⟩;have bQ:=bQ.lower x.size;have q:=q.below o;have p:=p.below o;have t:=t.below o;have f:=f.below o;have M:=M.below o;have n:=n.below o;have U:=U.below o;have x:=btr x o;refine Y1 9<|Yf rfl trivial (EfW.mono (Vc (X6q _ b7 ((timesS e (pauM i) m).1) t ((timesS e (pauM i) m).2) d6 d7 U.rd.top (pauM j) fH fI bQ.rd.top x1 (X3n aK) x2) X2w) (fun _ _ h=>⟨fun _=>by obtain ⟨fJ,fK,rfl,aW,D,y⟩:=h;exact D.keep,h⟩)) ?_;rintro _ iQ ⟨fJ,fK,rfl,aW,D,y⟩;have E:=x.size;obtain ⟨wm,z,hm,o⟩:=D.mid;clear hm;have g:=t;have q:=q.only z (Blk.ne q g rfl);have p:=p.only z (Blk.ne p g rfl);have f:=f.only z (Blk.ne f g rfl);have M:=M.only z (Blk.ne M g rfl);have n:=n.onlyT z g rfl;have x:=Below.only x z L;have q:=q.below o;have p:=p.below o;have f:=f.below o;have M:=M.below o;have n:=n.below o;have x:=btr x o
      clear g o z D;have t:=y;clear y
      have aW:=aW.lower E;clear E;refine Y1 11<|Yf rfl trivial (EfW.mono (Vc (Xbt _ m Am cm (aA.below' x).top aB) X6m) (fun _ _ h=>⟨fun _=>by obtain ⟨fL,fM,rfl,bR,o⟩:=h;exact Keep.of_below o,h⟩)) ?_;rintro _ iS ⟨fL,fM,rfl,bR,o⟩;have bR:=bR.lower x.size;have q:=q.below o;have p:=p.below o;have t:=t.below o;have f:=f.below o;have M:=M.below o;have n:=n.below o;have aW:=aW.below o;have x:=btr x o;refine Y1 12<|Yf rfl trivial (EfW.mono (Vc (X6q _ b7 ((timesS ((timesS e (pauM i) m).1) ((timesS e (pauM i) m).2) (pauM j)).1) t ((timesS ((timesS e (pauM i) m).1) ((timesS e (pauM i) m).2) (pauM j)).2) fJ fK aW.rd.top (adjS m) fL fM bR.rd.top x3 (X44 aB) x4) X2w) (fun _ _ h=>⟨fun _=>by obtain ⟨dS,dT,rfl,aX,D,y⟩:=h;exact D.keep,h⟩)) ?_;rintro _ iT ⟨dS,dT,rfl,aX,D,y⟩;have E:=x.size;obtain ⟨wm,z,hm,o⟩:=D.mid;clear hm;have g:=t;have q:=q.only z (Blk.ne q g rfl);have p:=p.only z (Blk.ne p g rfl);have f:=f.only z (Blk.ne f g rfl);have M:=M.only z (Blk.ne M g rfl);have n:=n.onlyT z g rfl;have x:=Below.only x z L;have q:=q.below o;have p:=p.below o;have f:=f.below o;have M:=M.below o;have n:=n.below o;have x:=btr x o
      clear g o z D;have t:=y;clear y
      have aX:=aX.lower E;clear E;refine Y1 14<|Yh rfl trivial rfl (Vw [vi (((timesS ((timesS ((timesS e (pauM i) m).1) ((timesS e (pauM i) m).2) (pauM j)).1) ((timesS ((timesS e (pauM i) m).1) ((timesS e (pauM i) m).2) (pauM j)).2) (adjS m)).2).rows),vi (((timesS ((timesS ((timesS e (pauM i) m).1) ((timesS e (pauM i) m).2) (pauM j)).1) ((timesS ((timesS e (pauM i) m).1) ((timesS e (pauM i) m).2) (pauM j)).2) (adjS m)).2).cols),.slice dS (((timesS ((timesS ((timesS e (pauM i) m).1) ((timesS e (pauM i) m).2) (pauM j)).1) ((timesS ((timesS e (pauM i) m).1) ((timesS e (pauM i) m).2) (pauM j)).2) (adjS m)).2).cells).length dT] X0b M) ?_;rintro _ iU ⟨G,hb⟩;have g:=M;have q:=q.only G (by omega);have p:=p.only G (Blk.ne p g rfl);have t:=t.only G (Blk.ne t g rfl);have f:=f.only G (Blk.ne f g rfl);have n:=n.onlyT G g rfl;have aX:=aX.onlyT G g rfl;have x:=Below.only x G cO;have M:=hb;refine Yd fun a J=>?_;exact ⟨b46,dS,dT,J.sub ⟨rfl,rfl,rfl,rfl,rfl,rfl,(by first|rfl|(simp [look,aC,aD])),trivial⟩,cO,M,cM,aX,q,p,t,f,n,x⟩
     refine Yf rfl trivial (EfW.mono (X3 (zs:=[vi 0,vi 0,.slice none 0 0]) X0y rfl) (fun _ _ h=>⟨fun _=>by obtain ⟨_,_,_,o,_⟩:=h;exact Keep.of_below o,h⟩)) ?_;rintro _ iV ⟨b52,rfl,fN,o,I⟩
     have cP:b3≠b52:=by have:=q.lt;omega
     have cQ:=Q0 x.size fN;have q:=q.below o;have p:=p.below o;have t:=t.below o;have f:=f.below o;have n:=n.below o;have aM:=aM.below o;have x:=btr x o;refine Y1 6<|Yf rfl trivial (EfW.mono (Vc (X6q _ b7 e t (pauM i) dF dG aM.rd.top m Am cm (aA.below' x).top (X3n bC) aB x5) X2w) (fun _ _ h=>⟨fun _=>by obtain ⟨fO,fP,rfl,aY,D,y⟩:=h;exact D.keep,h⟩)) ?_;rintro _ iW ⟨fO,fP,rfl,aY,D,y⟩;have E:=x.size;obtain ⟨wm,z,hm,o⟩:=D.mid;clear hm;have g:=t;have q:=q.only z (Blk.ne q g rfl);have p:=p.only z (Blk.ne p g rfl);have f:=f.only z (Blk.ne f g rfl);have I:=I.only z (Blk.ne I g rfl);have n:=n.onlyT z g rfl;have x:=Below.only x z L;have q:=q.below o;have p:=p.below o;have f:=f.below o;have I:=I.below o;have n:=n.below o;have x:=btr x o
     clear g o z D;have t:=y;clear y
     have aY:=aY.lower E;clear E;refine Y1 8<|Yf rfl trivial (EfW.mono (Vc (Xbi _ j aK) X6p) (fun _ _ h=>⟨fun _=>by obtain ⟨fQ,fR,rfl,bS,o⟩:=h;exact Keep.of_below o,h⟩)) ?_;rintro _ iX ⟨fQ,fR,rfl,bS,o⟩;have bS:=bS.lower x.size;have q:=q.below o;have p:=p.below o;have t:=t.below o;have f:=f.below o;have I:=I.below o;have n:=n.below o;have aY:=aY.below o;have x:=btr x o;refine Y1 9<|Yf rfl trivial (EfW.mono (Vc (X6q _ b7 ((timesS e (pauM i) m).1) t ((timesS e (pauM i) m).2) fO fP aY.rd.top (pauM j) fQ fR bS.rd.top x1 (X3n aK) x2) X2w) (fun _ _ h=>⟨fun _=>by obtain ⟨fS,fT,rfl,aZ,D,y⟩:=h;exact D.keep,h⟩)) ?_;rintro _ iY ⟨fS,fT,rfl,aZ,D,y⟩;have E:=x.size;obtain ⟨wm,z,hm,o⟩:=D.mid;clear hm;have g:=t;have q:=q.only z (Blk.ne q g rfl);have p:=p.only z (Blk.ne p g rfl);have f:=f.only z (Blk.ne f g rfl);have I:=I.only z (Blk.ne I g rfl);have n:=n.onlyT z g rfl;have x:=Below.only x z L;have q:=q.below o;have p:=p.below o;have f:=f.below o;have I:=I.below o;have n:=n.below o;have x:=btr x o
     clear g o z D;have t:=y;clear y
     have aZ:=aZ.lower E;clear E;refine Y1 11<|Yf rfl trivial (EfW.mono (Vc (Xbt _ m Am cm (aA.below' x).top aB) X6m) (fun _ _ h=>⟨fun _=>by obtain ⟨fU,fV,rfl,bU,o⟩:=h;exact Keep.of_below o,h⟩)) ?_;rintro _ iZ ⟨fU,fV,rfl,bU,o⟩;have bU:=bU.lower x.size;have q:=q.below o;have p:=p.below o;have t:=t.below o;have f:=f.below o;have I:=I.below o;have n:=n.below o;have aZ:=aZ.below o;have x:=btr x o;refine Y1 12<|Yf rfl trivial (EfW.mono (Vc (X6q _ b7 ((timesS ((timesS e (pauM i) m).1) ((timesS e (pauM i) m).2) (pauM j)).1) t ((timesS ((timesS e (pauM i) m).1) ((timesS e (pauM i) m).2) (pauM j)).2) fS fT aZ.rd.top (adjS m) fU fV bU.rd.top x3 (X44 aB) x4) X2w) (fun _ _ h=>⟨fun _=>by obtain ⟨dU,dW,rfl,b0,D,y⟩:=h;exact D.keep,h⟩)) ?_;rintro _ j0 ⟨dU,dW,rfl,b0,D,y⟩;have E:=x.size;obtain ⟨wm,z,hm,o⟩:=D.mid;clear hm;have g:=t;have q:=q.only z (Blk.ne q g rfl);have p:=p.only z (Blk.ne p g rfl);have f:=f.only z (Blk.ne f g rfl);have I:=I.only z (Blk.ne I g rfl);have n:=n.onlyT z g rfl;have x:=Below.only x z L;have q:=q.below o;have p:=p.below o;have f:=f.below o;have I:=I.below o;have n:=n.below o;have x:=btr x o
     clear g o z D;have t:=y;clear y
     have b0:=b0.lower E;clear E;refine Y1 14<|Yh rfl trivial rfl (Vw [vi (((timesS ((timesS ((timesS e (pauM i) m).1) ((timesS e (pauM i) m).2) (pauM j)).1) ((timesS ((timesS e (pauM i) m).1) ((timesS e (pauM i) m).2) (pauM j)).2) (adjS m)).2).rows),vi (((timesS ((timesS ((timesS e (pauM i) m).1) ((timesS e (pauM i) m).2) (pauM j)).1) ((timesS ((timesS e (pauM i) m).1) ((timesS e (pauM i) m).2) (pauM j)).2) (adjS m)).2).cols),.slice dU (((timesS ((timesS ((timesS e (pauM i) m).1) ((timesS e (pauM i) m).2) (pauM j)).1) ((timesS ((timesS e (pauM i) m).1) ((timesS e (pauM i) m).2) (pauM j)).2) (adjS m)).2).cells).length dW] X0b I) ?_;rintro _ j1 ⟨G,hb⟩;have g:=I;have q:=q.only G (by omega);have p:=p.only G (Blk.ne p g rfl);have t:=t.only G (Blk.ne t g rfl);have f:=f.only G (Blk.ne f g rfl);have n:=n.onlyT G g rfl;have b0:=b0.onlyT G g rfl;have x:=Below.only x G cQ;have I:=hb;refine Yd fun a J=>?_;exact ⟨b52,dU,dW,J.sub ⟨rfl,rfl,rfl,rfl,rfl,rfl,(by first|rfl|(simp [look,aC,aD])),trivial⟩,cQ,I,cP,b0,q,p,t,f,n,x⟩
    refine Yf rfl trivial (EfW.mono (X3 (zs:=[vi 0,vi 0,.slice none 0 0]) X0y rfl) (fun _ _ h=>⟨fun _=>by obtain ⟨_,_,_,o,_⟩:=h;exact Keep.of_below o,h⟩)) ?_;rintro _ j4 ⟨b59,rfl,fW,o,H⟩
    have cR:b3≠b59:=by have:=q.lt;omega
    have cS:=Q0 x.size fW;have q:=q.below o;have p:=p.below o;have t:=t.below o;have f:=f.below o;have n:=n.below o;have x:=btr x o;refine Y1 4<|Yf rfl trivial (EfW.mono (Vc (Xbi _ i bC) X6p) (fun _ _ h=>⟨fun _=>by obtain ⟨fX,fY,rfl,bW,o⟩:=h;exact Keep.of_below o,h⟩)) ?_;rintro _ j5 ⟨fX,fY,rfl,bW,o⟩;have bW:=bW.lower x.size;have q:=q.below o;have p:=p.below o;have t:=t.below o;have f:=f.below o;have H:=H.below o;have n:=n.below o;have x:=btr x o;refine Y1 6<|Yf rfl trivial (EfW.mono (Vc (X6q _ b7 e t (pauM i) fX fY bW.rd.top m Am cm (aA.below' x).top (X3n bC) aB x5) X2w) (fun _ _ h=>⟨fun _=>by obtain ⟨fZ,g7,rfl,b1,D,y⟩:=h;exact D.keep,h⟩)) ?_;rintro _ j6 ⟨fZ,g7,rfl,b1,D,y⟩;have E:=x.size;obtain ⟨wm,z,hm,o⟩:=D.mid;clear hm;have g:=t;have q:=q.only z (Blk.ne q g rfl);have p:=p.only z (Blk.ne p g rfl);have f:=f.only z (Blk.ne f g rfl);have H:=H.only z (Blk.ne H g rfl);have n:=n.onlyT z g rfl;have x:=Below.only x z L;have q:=q.below o;have p:=p.below o;have f:=f.below o;have H:=H.below o;have n:=n.below o;have x:=btr x o
    clear g o z D;have t:=y;clear y
    have b1:=b1.lower E;clear E;refine Y1 8<|Yf rfl trivial (EfW.mono (Vc (Xbi _ j aK) X6p) (fun _ _ h=>⟨fun _=>by obtain ⟨g8,g9,rfl,bZ,o⟩:=h;exact Keep.of_below o,h⟩)) ?_;rintro _ j7 ⟨g8,g9,rfl,bZ,o⟩;have bZ:=bZ.lower x.size;have q:=q.below o;have p:=p.below o;have t:=t.below o;have f:=f.below o;have H:=H.below o;have n:=n.below o;have b1:=b1.below o;have x:=btr x o;refine Y1 9<|Yf rfl trivial (EfW.mono (Vc (X6q _ b7 ((timesS e (pauM i) m).1) t ((timesS e (pauM i) m).2) fZ g7 b1.rd.top (pauM j) g8 g9 bZ.rd.top x1 (X3n aK) x2) X2w) (fun _ _ h=>⟨fun _=>by obtain ⟨gA,gB,rfl,b2,D,y⟩:=h;exact D.keep,h⟩)) ?_;rintro _ j8 ⟨gA,gB,rfl,b2,D,y⟩;have E:=x.size;obtain ⟨wm,z,hm,o⟩:=D.mid;clear hm;have g:=t;have q:=q.only z (Blk.ne q g rfl);have p:=p.only z (Blk.ne p g rfl);have f:=f.only z (Blk.ne f g rfl);have H:=H.only z (Blk.ne H g rfl);have n:=n.onlyT z g rfl;have x:=Below.only x z L;have q:=q.below o;have p:=p.below o;have f:=f.below o;have H:=H.below o;have n:=n.below o;have x:=btr x o
    clear g o z D;have t:=y;clear y
    have b2:=b2.lower E;clear E;refine Y1 11<|Yf rfl trivial (EfW.mono (Vc (Xbt _ m Am cm (aA.below' x).top aB) X6m) (fun _ _ h=>⟨fun _=>by obtain ⟨gC,gD,rfl,cA,o⟩:=h;exact Keep.of_below o,h⟩)) ?_;rintro _ j9 ⟨gC,gD,rfl,cA,o⟩;have cA:=cA.lower x.size;have q:=q.below o;have p:=p.below o;have t:=t.below o;have f:=f.below o;have H:=H.below o;have n:=n.below o;have b2:=b2.below o;have x:=btr x o;refine Y1 12<|Yf rfl trivial (EfW.mono (Vc (X6q _ b7 ((timesS ((timesS e (pauM i) m).1) ((timesS e (pauM i) m).2) (pauM j)).1) t ((timesS ((timesS e (pauM i) m).1) ((timesS e (pauM i) m).2) (pauM j)).2) gA gB b2.rd.top (adjS m) gC gD cA.rd.top x3 (X44 aB) x4) X2w) (fun _ _ h=>⟨fun _=>by obtain ⟨dX,dY,rfl,b4,D,y⟩:=h;exact D.keep,h⟩)) ?_;rintro _ jA ⟨dX,dY,rfl,b4,D,y⟩;have E:=x.size;obtain ⟨wm,z,hm,o⟩:=D.mid;clear hm;have g:=t;have q:=q.only z (Blk.ne q g rfl);have p:=p.only z (Blk.ne p g rfl);have f:=f.only z (Blk.ne f g rfl);have H:=H.only z (Blk.ne H g rfl);have n:=n.onlyT z g rfl;have x:=Below.only x z L;have q:=q.below o;have p:=p.below o;have f:=f.below o;have H:=H.below o;have n:=n.below o;have x:=btr x o
    clear g o z D;have t:=y;clear y
    have b4:=b4.lower E;clear E;refine Y1 14<|Yh rfl trivial rfl (Vw [vi (((timesS ((timesS ((timesS e (pauM i) m).1) ((timesS e (pauM i) m).2) (pauM j)).1) ((timesS ((timesS e (pauM i) m).1) ((timesS e (pauM i) m).2) (pauM j)).2) (adjS m)).2).rows),vi (((timesS ((timesS ((timesS e (pauM i) m).1) ((timesS e (pauM i) m).2) (pauM j)).1) ((timesS ((timesS e (pauM i) m).1) ((timesS e (pauM i) m).2) (pauM j)).2) (adjS m)).2).cols),.slice dX (((timesS ((timesS ((timesS e (pauM i) m).1) ((timesS e (pauM i) m).2) (pauM j)).1) ((timesS ((timesS e (pauM i) m).1) ((timesS e (pauM i) m).2) (pauM j)).2) (adjS m)).2).cells).length dY] X0b H) ?_;rintro _ jB ⟨G,hb⟩;have g:=H;have q:=q.only G (by omega);have p:=p.only G (Blk.ne p g rfl);have t:=t.only G (Blk.ne t g rfl);have f:=f.only G (Blk.ne f g rfl);have n:=n.onlyT G g rfl;have b4:=b4.onlyT G g rfl;have x:=Below.only x G cS;have H:=hb;refine Yd fun a J=>?_;exact ⟨b59,dX,dY,J.sub ⟨rfl,rfl,rfl,rfl,rfl,rfl,(by first|rfl|(simp [look,aC,aD])),trivial⟩,cS,H,cR,b4,q,p,t,f,n,x⟩
   rintro a jC ⟨b32,aP,bE,J,bL,C,bG,B,q,p,t,f,n,x⟩;refine eY _ _<|Q5 fun _ gE=>?_;refine X02 (fun a w=>∃ aQ,Fr a 59 [(1,.pointer (some ⟨b3,0,none⟩)),(2,.pointer (some ⟨b5,0,none⟩)),(4,.pointer (some ⟨b7,0,none⟩)),(5,.pointer (some ⟨b10,0,none⟩)),(6,vi (i:Int)),(7,vi (j:Int)),(9,.pointer (some ⟨aQ,0,none⟩))]∧w0.heap.size≤aQ∧Blk w aQ 53 [vi (((sAdd ((timesS ((timesS ((timesS e (pauM i) m).1) ((timesS e (pauM i) m).2) (pauM j)).1) ((timesS ((timesS e (pauM i) m).1) ((timesS e (pauM i) m).2) (pauM j)).2) (adjS m)).1) (((timesS ((timesS ((timesS e (pauM i) m).1) ((timesS e (pauM i) m).2) (pauM j)).1) ((timesS ((timesS e (pauM i) m).1) ((timesS e (pauM i) m).2) (pauM j)).2) (adjS m)).2).cells.getD 0 dZ) (((timesS ((timesS ((timesS e (pauM i) m).1) ((timesS e (pauM i) m).2) (pauM j)).1) ((timesS ((timesS e (pauM i) m).1) ((timesS e (pauM i) m).2) (pauM j)).2) (adjS m)).2).cells.getD 3 dZ)).2).num.a),vi (((sAdd ((timesS ((timesS ((timesS e (pauM i) m).1) ((timesS e (pauM i) m).2) (pauM j)).1) ((timesS ((timesS e (pauM i) m).1) ((timesS e (pauM i) m).2) (pauM j)).2) (adjS m)).1) (((timesS ((timesS ((timesS e (pauM i) m).1) ((timesS e (pauM i) m).2) (pauM j)).1) ((timesS ((timesS e (pauM i) m).1) ((timesS e (pauM i) m).2) (pauM j)).2) (adjS m)).2).cells.getD 0 dZ) (((timesS ((timesS ((timesS e (pauM i) m).1) ((timesS e (pauM i) m).2) (pauM j)).1) ((timesS ((timesS e (pauM i) m).1) ((timesS e (pauM i) m).2) (pauM j)).2) (adjS m)).2).cells.getD 3 dZ)).2).num.b),vi (((sAdd ((timesS ((timesS ((timesS e (pauM i) m).1) ((timesS e (pauM i) m).2) (pauM j)).1) ((timesS ((timesS e (pauM i) m).1) ((timesS e (pauM i) m).2) (pauM j)).2) (adjS m)).1) (((timesS ((timesS ((timesS e (pauM i) m).1) ((timesS e (pauM i) m).2) (pauM j)).1) ((timesS ((timesS e (pauM i) m).1) ((timesS e (pauM i) m).2) (pauM j)).2) (adjS m)).2).cells.getD 0 dZ) (((timesS ((timesS ((timesS e (pauM i) m).1) ((timesS e (pauM i) m).2) (pauM j)).1) ((timesS ((timesS e (pauM i) m).1) ((timesS e (pauM i) m).2) (pauM j)).2) (adjS m)).2).cells.getD 3 dZ)).2).num.c),vi (((sAdd ((timesS ((timesS ((timesS e (pauM i) m).1) ((timesS e (pauM i) m).2) (pauM j)).1) ((timesS ((timesS e (pauM i) m).1) ((timesS e (pauM i) m).2) (pauM j)).2) (adjS m)).1) (((timesS ((timesS ((timesS e (pauM i) m).1) ((timesS e (pauM i) m).2) (pauM j)).1) ((timesS ((timesS e (pauM i) m).1) ((timesS e (pauM i) m).2) (pauM j)).2) (adjS m)).2).cells.getD 0 dZ) (((timesS ((timesS ((timesS e (pauM i) m).1) ((timesS e (pauM i) m).2) (pauM j)).1) ((timesS ((timesS e (pauM i) m).1) ((timesS e (pauM i) m).2) (pauM j)).2) (adjS m)).2).cells.getD 3 dZ)).2).num.d),vi (((sAdd ((timesS ((timesS ((timesS e (pauM i) m).1) ((timesS e (pauM i) m).2) (pauM j)).1) ((timesS ((timesS e (pauM i) m).1) ((timesS e (pauM i) m).2) (pauM j)).2) (adjS m)).1) (((timesS ((timesS ((timesS e (pauM i) m).1) ((timesS e (pauM i) m).2) (pauM j)).1) ((timesS ((timesS e (pauM i) m).1) ((timesS e (pauM i) m).2) (pauM j)).2) (adjS m)).2).cells.getD 0 dZ) (((timesS ((timesS ((timesS e (pauM i) m).1) ((timesS e (pauM i) m).2) (pauM j)).1) ((timesS ((timesS e (pauM i) m).1) ((timesS e (pauM i) m).2) (pauM j)).2) (adjS m)).2).cells.getD 3 dZ)).2).exp)]∧AwayR m.cells Am aQ∧Away bD aQ∧Away aP aQ∧Blk w b3 29 [vi m.rows,vi m.cols,.slice Am m.cells.length cm]∧Blk w b5 58 [.slice none 0 0]∧Blk w b7 97 [.bool ((sAdd ((timesS ((timesS ((timesS e (pauM i) m).1) ((timesS e (pauM i) m).2) (pauM j)).1) ((timesS ((timesS e (pauM i) m).1) ((timesS e (pauM i) m).2) (pauM j)).2) (adjS m)).1) (((timesS ((timesS ((timesS e (pauM i) m).1) ((timesS e (pauM i) m).2) (pauM j)).1) ((timesS ((timesS e (pauM i) m).1) ((timesS e (pauM i) m).2) (pauM j)).2) (adjS m)).2).cells.getD 0 dZ) (((timesS ((timesS ((timesS e (pauM i) m).1) ((timesS e (pauM i) m).2) (pauM j)).1) ((timesS ((timesS e (pauM i) m).1) ((timesS e (pauM i) m).2) (pauM j)).2) (adjS m)).2).cells.getD 3 dZ)).1)]∧Blk w b10 58 [.slice bD l2.length bF]∧Blk w b32 29 [vi (((timesS ((timesS ((timesS e (pauM i) m).1) ((timesS e (pauM i) m).2) (pauM j)).1) ((timesS ((timesS e (pauM i) m).1) ((timesS e (pauM i) m).2) (pauM j)).2) (adjS m)).2).rows),vi (((timesS ((timesS ((timesS e (pauM i) m).1) ((timesS e (pauM i) m).2) (pauM j)).1) ((timesS ((timesS e (pauM i) m).1) ((timesS e (pauM i) m).2) (pauM j)).2) (adjS m)).2).cols),.slice aP (((timesS ((timesS ((timesS e (pauM i) m).1) ((timesS e (pauM i) m).2) (pauM j)).1) ((timesS ((timesS e (pauM i) m).1) ((timesS e (pauM i) m).2) (pauM j)).2) (adjS m)).2).cells).length bE]∧Own w w0.heap.size 53 5 encD bD bF l2∧Own w w0.heap.size 53 5 encD aP bE (((timesS ((timesS ((timesS e (pauM i) m).1) ((timesS e (pauM i) m).2) (pauM j)).1) ((timesS ((timesS e (pauM i) m).1) ((timesS e (pauM i) m).2) (pauM j)).2) (adjS m)).2).cells)∧Below w0.heap.size w0 w) ?_ ?_
   ·refine Xz (some b7) (fun j=>[11].contains j) mixed ?_;intro jD o;have q:=q.below o;have p:=p.below o;have t:=t.below o;have f:=f.below o;have C:=C.below o;have n:=n.below o;have B:=B.below o;have x:=btr x o;refine Yb J<|Yo 0 rfl (fun _=>X7 rfl)<|Yo 1 rfl (fun _=>Vd rfl X11 2) ?_;refine Yw 2 rfl trivial (fun w1 h1=>X0 rfl X0p ((C.only h1 (Blk.ne C t rfl)).at 2)) ?_;refine Ya (k:=0) (u:=(((timesS ((timesS ((timesS e (pauM i) m).1) ((timesS e (pauM i) m).2) (pauM j)).1) ((timesS ((timesS e (pauM i) m).1) ((timesS e (pauM i) m).2) (pauM j)).2) (adjS m)).2).cells.getD 0 dZ)) (enc:=encD) (l:=((timesS ((timesS ((timesS e (pauM i) m).1) ((timesS e (pauM i) m).2) (pauM j)).1) ((timesS ((timesS e (pauM i) m).1) ((timesS e (pauM i) m).2) (pauM j)).2) (adjS m)).2).cells) 3 rfl trivial t rfl rfl rfl X01 Xd X06 B.rd (Xdp x6 (by decide)) rfl ?_;intro jE e7 dA;refine Yw 4 rfl trivial (fun w1 h1=>X09 (l:=[vi ((((timesS ((timesS ((timesS e (pauM i) m).1) ((timesS e (pauM i) m).2) (pauM j)).1) ((timesS ((timesS e (pauM i) m).1) ((timesS e (pauM i) m).2) (pauM j)).2) (adjS m)).2).cells.getD 0 dZ).num.a),vi ((((timesS ((timesS ((timesS e (pauM i) m).1) ((timesS e (pauM i) m).2) (pauM j)).1) ((timesS ((timesS e (pauM i) m).1) ((timesS e (pauM i) m).2) (pauM j)).2) (adjS m)).2).cells.getD 0 dZ).num.b),vi ((((timesS ((timesS ((timesS e (pauM i) m).1) ((timesS e (pauM i) m).2) (pauM j)).1) ((timesS ((timesS e (pauM i) m).1) ((timesS e (pauM i) m).2) (pauM j)).2) (adjS m)).2).cells.getD 0 dZ).num.c),vi ((((timesS ((timesS ((timesS e (pauM i) m).1) ((timesS e (pauM i) m).2) (pauM j)).1) ((timesS ((timesS e (pauM i) m).1) ((timesS e (pauM i) m).2) (pauM j)).2) (adjS m)).2).cells.getD 0 dZ).num.d),vi ((((timesS ((timesS ((timesS e (pauM i) m).1) ((timesS e (pauM i) m).2) (pauM j)).1) ((timesS ((timesS e (pauM i) m).1) ((timesS e (pauM i) m).2) (pauM j)).2) (adjS m)).2).cells.getD 0 dZ).exp)]) rfl X6 (e7.only h1 dA) rfl) ?_
    refine Yo 5 rfl (fun _=>Vd rfl X11 2) ?_;refine Yw 6 rfl trivial (fun w1 h1=>X0 rfl X0p ((C.only h1 (Blk.ne C t rfl)).at 2)) ?_;refine Ya (k:=3) (u:=(((timesS ((timesS ((timesS e (pauM i) m).1) ((timesS e (pauM i) m).2) (pauM j)).1) ((timesS ((timesS e (pauM i) m).1) ((timesS e (pauM i) m).2) (pauM j)).2) (adjS m)).2).cells.getD 3 dZ)) (enc:=encD) (l:=((timesS ((timesS ((timesS e (pauM i) m).1) ((timesS e (pauM i) m).2) (pauM j)).1) ((timesS ((timesS e (pauM i) m).1) ((timesS e (pauM i) m).2) (pauM j)).2) (adjS m)).2).cells) 7 rfl trivial t rfl rfl rfl X01 Xd X06 B.rd (Xdp x6 (by decide)) rfl ?_;intro jF e8 dB;refine Yw 8 rfl trivial (fun w1 h1=>X09 (l:=[vi ((((timesS ((timesS ((timesS e (pauM i) m).1) ((timesS e (pauM i) m).2) (pauM j)).1) ((timesS ((timesS e (pauM i) m).1) ((timesS e (pauM i) m).2) (pauM j)).2) (adjS m)).2).cells.getD 3 dZ).num.a),vi ((((timesS ((timesS ((timesS e (pauM i) m).1) ((timesS e (pauM i) m).2) (pauM j)).1) ((timesS ((timesS e (pauM i) m).1) ((timesS e (pauM i) m).2) (pauM j)).2) (adjS m)).2).cells.getD 3 dZ).num.b),vi ((((timesS ((timesS ((timesS e (pauM i) m).1) ((timesS e (pauM i) m).2) (pauM j)).1) ((timesS ((timesS e (pauM i) m).1) ((timesS e (pauM i) m).2) (pauM j)).2) (adjS m)).2).cells.getD 3 dZ).num.c),vi ((((timesS ((timesS ((timesS e (pauM i) m).1) ((timesS e (pauM i) m).2) (pauM j)).1) ((timesS ((timesS e (pauM i) m).1) ((timesS e (pauM i) m).2) (pauM j)).2) (adjS m)).2).cells.getD 3 dZ).num.d),vi ((((timesS ((timesS ((timesS e (pauM i) m).1) ((timesS e (pauM i) m).2) (pauM j)).1) ((timesS ((timesS e (pauM i) m).1) ((timesS e (pauM i) m).2) (pauM j)).2) (adjS m)).2).cells.getD 3 dZ).exp)]) rfl X6 (e8.only h1 dB) rfl) ?_;refine Y2 9 10 ?_ ?_
    ·refine Yf rfl trivial (EfW.mono (Vc (Xtk _ b7 ((timesS ((timesS ((timesS e (pauM i) m).1) ((timesS e (pauM i) m).2) (pauM j)).1) ((timesS ((timesS e (pauM i) m).1) ((timesS e (pauM i) m).2) (pauM j)).2) (adjS m)).1) t (((timesS ((timesS ((timesS e (pauM i) m).1) ((timesS e (pauM i) m).2) (pauM j)).1) ((timesS ((timesS e (pauM i) m).1) ((timesS e (pauM i) m).2) (pauM j)).2) (adjS m)).2).cells.getD 0 dZ) (((timesS ((timesS ((timesS e (pauM i) m).1) ((timesS e (pauM i) m).2) (pauM j)).1) ((timesS ((timesS e (pauM i) m).1) ((timesS e (pauM i) m).2) (pauM j)).2) (adjS m)).2).cells.getD 3 dZ) (X4x x7 0) (X4x x7 3)) Xg6) (fun _ _ h=>⟨fun _=>by obtain ⟨rfl,D,y⟩:=h;exact D.keep,h⟩)) ?_;rintro _ jG ⟨rfl,D,y⟩;obtain ⟨wm,z,hm,o⟩:=D.mid;clear hm;have g:=t;have q:=q.only z (Blk.ne q g rfl);have p:=p.only z (Blk.ne p g rfl);have f:=f.only z (Blk.ne f g rfl);have C:=C.only z (Blk.ne C g rfl);have n:=n.onlyT z g rfl;have B:=B.onlyT z g rfl;have x:=Below.only x z L;have q:=q.below o;have p:=p.below o;have f:=f.below o;have C:=C.below o;have n:=n.below o;have B:=B.below o;have x:=btr x o
     clear g o z D;have t:=y;clear y;refine Y1 10<|Yf rfl trivial (EfW.mono (X3 (zs:=[vi 0,vi 0,vi 0,vi 0,vi 0]) X0n rfl) (fun _ _ h=>⟨fun _=>by obtain ⟨_,_,_,o,_⟩:=h;exact Keep.of_below o,h⟩)) ?_;rintro _ jH ⟨aQ,rfl,cB,o,N⟩;have bM:=Q0 x.size cB;have bH:=(aA.below' x).away cB;have aF:=n.away cB;have aL:=B.away cB;have q:=q.below o;have p:=p.below o;have t:=t.below o;have f:=f.below o;have C:=C.below o;have n:=n.below o;have B:=B.below o;have x:=btr x o;refine Y1 11<|Yh rfl trivial rfl (Vw [vi (((sAdd ((timesS ((timesS ((timesS e (pauM i) m).1) ((timesS e (pauM i) m).2) (pauM j)).1) ((timesS ((timesS e (pauM i) m).1) ((timesS e (pauM i) m).2) (pauM j)).2) (adjS m)).1) (((timesS ((timesS ((timesS e (pauM i) m).1) ((timesS e (pauM i) m).2) (pauM j)).1) ((timesS ((timesS e (pauM i) m).1) ((timesS e (pauM i) m).2) (pauM j)).2) (adjS m)).2).cells.getD 0 dZ) (((timesS ((timesS ((timesS e (pauM i) m).1) ((timesS e (pauM i) m).2) (pauM j)).1) ((timesS ((timesS e (pauM i) m).1) ((timesS e (pauM i) m).2) (pauM j)).2) (adjS m)).2).cells.getD 3 dZ)).2).num.a),vi (((sAdd ((timesS ((timesS ((timesS e (pauM i) m).1) ((timesS e (pauM i) m).2) (pauM j)).1) ((timesS ((timesS e (pauM i) m).1) ((timesS e (pauM i) m).2) (pauM j)).2) (adjS m)).1) (((timesS ((timesS ((timesS e (pauM i) m).1) ((timesS e (pauM i) m).2) (pauM j)).1) ((timesS ((timesS e (pauM i) m).1) ((timesS e (pauM i) m).2) (pauM j)).2) (adjS m)).2).cells.getD 0 dZ) (((timesS ((timesS ((timesS e (pauM i) m).1) ((timesS e (pauM i) m).2) (pauM j)).1) ((timesS ((timesS e (pauM i) m).1) ((timesS e (pauM i) m).2) (pauM j)).2) (adjS m)).2).cells.getD 3 dZ)).2).num.b),vi (((sAdd ((timesS ((timesS ((timesS e (pauM i) m).1) ((timesS e (pauM i) m).2) (pauM j)).1) ((timesS ((timesS e (pauM i) m).1) ((timesS e (pauM i) m).2) (pauM j)).2) (adjS m)).1) (((timesS ((timesS ((timesS e (pauM i) m).1) ((timesS e (pauM i) m).2) (pauM j)).1) ((timesS ((timesS e (pauM i) m).1) ((timesS e (pauM i) m).2) (pauM j)).2) (adjS m)).2).cells.getD 0 dZ) (((timesS ((timesS ((timesS e (pauM i) m).1) ((timesS e (pauM i) m).2) (pauM j)).1) ((timesS ((timesS e (pauM i) m).1) ((timesS e (pauM i) m).2) (pauM j)).2) (adjS m)).2).cells.getD 3 dZ)).2).num.c),vi (((sAdd ((timesS ((timesS ((timesS e (pauM i) m).1) ((timesS e (pauM i) m).2) (pauM j)).1) ((timesS ((timesS e (pauM i) m).1) ((timesS e (pauM i) m).2) (pauM j)).2) (adjS m)).1) (((timesS ((timesS ((timesS e (pauM i) m).1) ((timesS e (pauM i) m).2) (pauM j)).1) ((timesS ((timesS e (pauM i) m).1) ((timesS e (pauM i) m).2) (pauM j)).2) (adjS m)).2).cells.getD 0 dZ) (((timesS ((timesS ((timesS e (pauM i) m).1) ((timesS e (pauM i) m).2) (pauM j)).1) ((timesS ((timesS e (pauM i) m).1) ((timesS e (pauM i) m).2) (pauM j)).2) (adjS m)).2).cells.getD 3 dZ)).2).num.d),vi (((sAdd ((timesS ((timesS ((timesS e (pauM i) m).1) ((timesS e (pauM i) m).2) (pauM j)).1) ((timesS ((timesS e (pauM i) m).1) ((timesS e (pauM i) m).2) (pauM j)).2) (adjS m)).1) (((timesS ((timesS ((timesS e (pauM i) m).1) ((timesS e (pauM i) m).2) (pauM j)).1) ((timesS ((timesS e (pauM i) m).1) ((timesS e (pauM i) m).2) (pauM j)).2) (adjS m)).2).cells.getD 0 dZ) (((timesS ((timesS ((timesS e (pauM i) m).1) ((timesS e (pauM i) m).2) (pauM j)).1) ((timesS ((timesS e (pauM i) m).1) ((timesS e (pauM i) m).2) (pauM j)).2) (adjS m)).2).cells.getD 3 dZ)).2).exp)] Xd N) ?_;rintro _ jI ⟨G,hb⟩
     have g:=N;have q:=q.only G (Blk.ne q g rfl);have p:=p.only G (Blk.ne p g rfl);have t:=t.only G (Blk.ne t g rfl);have f:=f.only G (Blk.ne f g rfl);have C:=C.only G (Blk.ne C g rfl);have n:=n.onlyA G aF;have B:=B.onlyA G aL;have x:=Below.only x G bM;have N:=hb;refine Yd fun a J=>?_;exact ⟨aQ,J.sb,bM,N,bH,aF,aL,q,p,t,f,C,n,B,x⟩
    refine Yf rfl trivial (EfW.mono (X3 (zs:=[vi 0,vi 0,vi 0,vi 0,vi 0]) X0n rfl) (fun _ _ h=>⟨fun _=>by obtain ⟨_,_,_,o,_⟩:=h;exact Keep.of_below o,h⟩)) ?_;rintro _ jJ ⟨i0,rfl,cC,o,aJ⟩;have cU:=Q0 x.size cC;have cV:=(aA.below' x).away cC;have b6:=n.away cC;have b8:=B.away cC;have q:=q.below o;have p:=p.below o;have t:=t.below o;have f:=f.below o;have C:=C.below o;have n:=n.below o;have B:=B.below o;have x:=btr x o;refine Y1 9<|Yf rfl trivial (EfW.mono (Vc (Xtk _ b7 ((timesS ((timesS ((timesS e (pauM i) m).1) ((timesS e (pauM i) m).2) (pauM j)).1) ((timesS ((timesS e (pauM i) m).1) ((timesS e (pauM i) m).2) (pauM j)).2) (adjS m)).1) t (((timesS ((timesS ((timesS e (pauM i) m).1) ((timesS e (pauM i) m).2) (pauM j)).1) ((timesS ((timesS e (pauM i) m).1) ((timesS e (pauM i) m).2) (pauM j)).2) (adjS m)).2).cells.getD 0 dZ) (((timesS ((timesS ((timesS e (pauM i) m).1) ((timesS e (pauM i) m).2) (pauM j)).1) ((timesS ((timesS e (pauM i) m).1) ((timesS e (pauM i) m).2) (pauM j)).2) (adjS m)).2).cells.getD 3 dZ) (X4x x7 0) (X4x x7 3)) Xg6) (fun _ _ h=>⟨fun _=>by obtain ⟨rfl,D,y⟩:=h;exact D.keep,h⟩)) ?_;rintro _ jK ⟨rfl,D,y⟩;obtain ⟨wm,z,hm,o⟩:=D.mid;clear hm;have g:=t;have q:=q.only z (Blk.ne q g rfl);have p:=p.only z (Blk.ne p g rfl);have f:=f.only z (Blk.ne f g rfl);have C:=C.only z (Blk.ne C g rfl);have aJ:=aJ.only z (Blk.ne aJ g rfl);have n:=n.onlyT z g rfl;have B:=B.onlyT z g rfl;have x:=Below.only x z L;have q:=q.below o;have p:=p.below o;have f:=f.below o;have C:=C.below o;have aJ:=aJ.below o;have n:=n.below o
    have B:=B.below o;have x:=btr x o
    clear g o z D;have t:=y;clear y;refine Y1 11<|Yh rfl trivial rfl (Vw [vi (((sAdd ((timesS ((timesS ((timesS e (pauM i) m).1) ((timesS e (pauM i) m).2) (pauM j)).1) ((timesS ((timesS e (pauM i) m).1) ((timesS e (pauM i) m).2) (pauM j)).2) (adjS m)).1) (((timesS ((timesS ((timesS e (pauM i) m).1) ((timesS e (pauM i) m).2) (pauM j)).1) ((timesS ((timesS e (pauM i) m).1) ((timesS e (pauM i) m).2) (pauM j)).2) (adjS m)).2).cells.getD 0 dZ) (((timesS ((timesS ((timesS e (pauM i) m).1) ((timesS e (pauM i) m).2) (pauM j)).1) ((timesS ((timesS e (pauM i) m).1) ((timesS e (pauM i) m).2) (pauM j)).2) (adjS m)).2).cells.getD 3 dZ)).2).num.a),vi (((sAdd ((timesS ((timesS ((timesS e (pauM i) m).1) ((timesS e (pauM i) m).2) (pauM j)).1) ((timesS ((timesS e (pauM i) m).1) ((timesS e (pauM i) m).2) (pauM j)).2) (adjS m)).1) (((timesS ((timesS ((timesS e (pauM i) m).1) ((timesS e (pauM i) m).2) (pauM j)).1) ((timesS ((timesS e (pauM i) m).1) ((timesS e (pauM i) m).2) (pauM j)).2) (adjS m)).2).cells.getD 0 dZ) (((timesS ((timesS ((timesS e (pauM i) m).1) ((timesS e (pauM i) m).2) (pauM j)).1) ((timesS ((timesS e (pauM i) m).1) ((timesS e (pauM i) m).2) (pauM j)).2) (adjS m)).2).cells.getD 3 dZ)).2).num.b),vi (((sAdd ((timesS ((timesS ((timesS e (pauM i) m).1) ((timesS e (pauM i) m).2) (pauM j)).1) ((timesS ((timesS e (pauM i) m).1) ((timesS e (pauM i) m).2) (pauM j)).2) (adjS m)).1) (((timesS ((timesS ((timesS e (pauM i) m).1) ((timesS e (pauM i) m).2) (pauM j)).1) ((timesS ((timesS e (pauM i) m).1) ((timesS e (pauM i) m).2) (pauM j)).2) (adjS m)).2).cells.getD 0 dZ) (((timesS ((timesS ((timesS e (pauM i) m).1) ((timesS e (pauM i) m).2) (pauM j)).1) ((timesS ((timesS e (pauM i) m).1) ((timesS e (pauM i) m).2) (pauM j)).2) (adjS m)).2).cells.getD 3 dZ)).2).num.c),vi (((sAdd ((timesS ((timesS ((timesS e (pauM i) m).1) ((timesS e (pauM i) m).2) (pauM j)).1) ((timesS ((timesS e (pauM i) m).1) ((timesS e (pauM i) m).2) (pauM j)).2) (adjS m)).1) (((timesS ((timesS ((timesS e (pauM i) m).1) ((timesS e (pauM i) m).2) (pauM j)).1) ((timesS ((timesS e (pauM i) m).1) ((timesS e (pauM i) m).2) (pauM j)).2) (adjS m)).2).cells.getD 0 dZ) (((timesS ((timesS ((timesS e (pauM i) m).1) ((timesS e (pauM i) m).2) (pauM j)).1) ((timesS ((timesS e (pauM i) m).1) ((timesS e (pauM i) m).2) (pauM j)).2) (adjS m)).2).cells.getD 3 dZ)).2).num.d),vi (((sAdd ((timesS ((timesS ((timesS e (pauM i) m).1) ((timesS e (pauM i) m).2) (pauM j)).1) ((timesS ((timesS e (pauM i) m).1) ((timesS e (pauM i) m).2) (pauM j)).2) (adjS m)).1) (((timesS ((timesS ((timesS e (pauM i) m).1) ((timesS e (pauM i) m).2) (pauM j)).1) ((timesS ((timesS e (pauM i) m).1) ((timesS e (pauM i) m).2) (pauM j)).2) (adjS m)).2).cells.getD 0 dZ) (((timesS ((timesS ((timesS e (pauM i) m).1) ((timesS e (pauM i) m).2) (pauM j)).1) ((timesS ((timesS e (pauM i) m).1) ((timesS e (pauM i) m).2) (pauM j)).2) (adjS m)).2).cells.getD 3 dZ)).2).exp)] Xd aJ) ?_;rintro _ jL ⟨G,hb⟩
    have g:=aJ;have q:=q.only G (Blk.ne q g rfl);have p:=p.only G (Blk.ne p g rfl);have t:=t.only G (Blk.ne t g rfl);have f:=f.only G (Blk.ne f g rfl);have C:=C.only G (Blk.ne C g rfl);have n:=n.onlyA G b6;have B:=B.onlyA G b8;have x:=Below.only x G cU;have aJ:=hb;refine Yd fun a J=>?_;exact ⟨i0,J.sub ⟨rfl,rfl,rfl,rfl,rfl,rfl,(by first|rfl|(simp [look,aC,aD])),trivial⟩,cU,aJ,cV,b6,b8,q,p,t,f,C,n,B,x⟩
   rintro a jM ⟨aQ,J,bM,N,bH,aF,aL,q,p,t,f,C,n,B,x⟩;refine gE _ _<|Xz (some b7) (fun j=>[8,10].contains j) mixed ?_;intro jN o;have q:=q.below o;have p:=p.below o;have t:=t.below o;have f:=f.below o;have N:=N.below o;have n:=n.below o;have x:=btr x o;refine Yb J<|Yo 0 rfl (fun _=>Vd rfl X1e 0) ?_;refine Yw 1 rfl trivial (fun w1 h1=>X0 rfl X0p ((f.only h1 (Blk.ne f t rfl)).at 0)) ?_;refine Yo 2 rfl (fun _=>X7 rfl) ?_;refine Yw 3 rfl trivial (fun w1 h1=>X09 (l:=[vi (((sAdd ((timesS ((timesS ((timesS e (pauM i) m).1) ((timesS e (pauM i) m).2) (pauM j)).1) ((timesS ((timesS e (pauM i) m).1) ((timesS e (pauM i) m).2) (pauM j)).2) (adjS m)).1) (((timesS ((timesS ((timesS e (pauM i) m).1) ((timesS e (pauM i) m).2) (pauM j)).1) ((timesS ((timesS e (pauM i) m).1) ((timesS e (pauM i) m).2) (pauM j)).2) (adjS m)).2).cells.getD 0 dZ) (((timesS ((timesS ((timesS e (pauM i) m).1) ((timesS e (pauM i) m).2) (pauM j)).1) ((timesS ((timesS e (pauM i) m).1) ((timesS e (pauM i) m).2) (pauM j)).2) (adjS m)).2).cells.getD 3 dZ)).2).num.a),vi (((sAdd ((timesS ((timesS ((timesS e (pauM i) m).1) ((timesS e (pauM i) m).2) (pauM j)).1) ((timesS ((timesS e (pauM i) m).1) ((timesS e (pauM i) m).2) (pauM j)).2) (adjS m)).1) (((timesS ((timesS ((timesS e (pauM i) m).1) ((timesS e (pauM i) m).2) (pauM j)).1) ((timesS ((timesS e (pauM i) m).1) ((timesS e (pauM i) m).2) (pauM j)).2) (adjS m)).2).cells.getD 0 dZ) (((timesS ((timesS ((timesS e (pauM i) m).1) ((timesS e (pauM i) m).2) (pauM j)).1) ((timesS ((timesS e (pauM i) m).1) ((timesS e (pauM i) m).2) (pauM j)).2) (adjS m)).2).cells.getD 3 dZ)).2).num.b),vi (((sAdd ((timesS ((timesS ((timesS e (pauM i) m).1) ((timesS e (pauM i) m).2) (pauM j)).1) ((timesS ((timesS e (pauM i) m).1) ((timesS e (pauM i) m).2) (pauM j)).2) (adjS m)).1) (((timesS ((timesS ((timesS e (pauM i) m).1) ((timesS e (pauM i) m).2) (pauM j)).1) ((timesS ((timesS e (pauM i) m).1) ((timesS e (pauM i) m).2) (pauM j)).2) (adjS m)).2).cells.getD 0 dZ) (((timesS ((timesS ((timesS e (pauM i) m).1) ((timesS e (pauM i) m).2) (pauM j)).1) ((timesS ((timesS e (pauM i) m).1) ((timesS e (pauM i) m).2) (pauM j)).2) (adjS m)).2).cells.getD 3 dZ)).2).num.c),vi (((sAdd ((timesS ((timesS ((timesS e (pauM i) m).1) ((timesS e (pauM i) m).2) (pauM j)).1) ((timesS ((timesS e (pauM i) m).1) ((timesS e (pauM i) m).2) (pauM j)).2) (adjS m)).1) (((timesS ((timesS ((timesS e (pauM i) m).1) ((timesS e (pauM i) m).2) (pauM j)).1) ((timesS ((timesS e (pauM i) m).1) ((timesS e (pauM i) m).2) (pauM j)).2) (adjS m)).2).cells.getD 0 dZ) (((timesS ((timesS ((timesS e (pauM i) m).1) ((timesS e (pauM i) m).2) (pauM j)).1) ((timesS ((timesS e (pauM i) m).1) ((timesS e (pauM i) m).2) (pauM j)).2) (adjS m)).2).cells.getD 3 dZ)).2).num.d),vi (((sAdd ((timesS ((timesS ((timesS e (pauM i) m).1) ((timesS e (pauM i) m).2) (pauM j)).1) ((timesS ((timesS e (pauM i) m).1) ((timesS e (pauM i) m).2) (pauM j)).2) (adjS m)).1) (((timesS ((timesS ((timesS e (pauM i) m).1) ((timesS e (pauM i) m).2) (pauM j)).1) ((timesS ((timesS e (pauM i) m).1) ((timesS e (pauM i) m).2) (pauM j)).2) (adjS m)).2).cells.getD 0 dZ) (((timesS ((timesS ((timesS e (pauM i) m).1) ((timesS e (pauM i) m).2) (pauM j)).1) ((timesS ((timesS e (pauM i) m).1) ((timesS e (pauM i) m).2) (pauM j)).2) (adjS m)).2).cells.getD 3 dZ)).2).exp)]) rfl X6 ((N.only h1 (Blk.ne N t rfl)).at 0) rfl) ?_
   refine Yo 4 rfl (fun _=>Xg (ps:=[(0,vi 1)]) (cs:=[vi 1,vi 0,vi 0,vi 0]) rfl (fun _=>by first|rfl|kernel_rfl))<|Yo 5 rfl (fun _=>Xg (ps:=[(0,.agg #[vi 1,vi 0,vi 0,vi 0]),(1,vi 2)]) (cs:=[vi 1,vi 0,vi 0,vi 0,vi 2]) rfl (fun _=>by first|rfl|kernel_rfl))<|Y1 6 ?_;refine Yf rfl trivial (EfW.mono (Vc (Xwq _ b7 ((sAdd ((timesS ((timesS ((timesS e (pauM i) m).1) ((timesS e (pauM i) m).2) (pauM j)).1) ((timesS ((timesS e (pauM i) m).1) ((timesS e (pauM i) m).2) (pauM j)).2) (adjS m)).1) (((timesS ((timesS ((timesS e (pauM i) m).1) ((timesS e (pauM i) m).2) (pauM j)).1) ((timesS ((timesS e (pauM i) m).1) ((timesS e (pauM i) m).2) (pauM j)).2) (adjS m)).2).cells.getD 0 dZ) (((timesS ((timesS ((timesS e (pauM i) m).1) ((timesS e (pauM i) m).2) (pauM j)).1) ((timesS ((timesS e (pauM i) m).1) ((timesS e (pauM i) m).2) (pauM j)).2) (adjS m)).2).cells.getD 3 dZ)).1) t ((sAdd ((timesS ((timesS ((timesS e (pauM i) m).1) ((timesS e (pauM i) m).2) (pauM j)).1) ((timesS ((timesS e (pauM i) m).1) ((timesS e (pauM i) m).2) (pauM j)).2) (adjS m)).1) (((timesS ((timesS ((timesS e (pauM i) m).1) ((timesS e (pauM i) m).2) (pauM j)).1) ((timesS ((timesS e (pauM i) m).1) ((timesS e (pauM i) m).2) (pauM j)).2) (adjS m)).2).cells.getD 0 dZ) (((timesS ((timesS ((timesS e (pauM i) m).1) ((timesS e (pauM i) m).2) (pauM j)).1) ((timesS ((timesS e (pauM i) m).1) ((timesS e (pauM i) m).2) (pauM j)).2) (adjS m)).2).cells.getD 3 dZ)).2) (⟨(⟨1,0,0,0⟩ : Rg),2⟩ : Dy) (Xdo (X4x x7 0) (X4x x7 3)) (by decide)) Xlw) (fun _ _ h=>⟨fun _=>by obtain ⟨rfl,D,y⟩:=h;exact D.keep,h⟩)) ?_;rintro _ jO ⟨rfl,D,y⟩;obtain ⟨wm,z,hm,o⟩:=D.mid;clear hm;have g:=t;have q:=q.only z (Blk.ne q g rfl);have p:=p.only z (Blk.ne p g rfl);have f:=f.only z (Blk.ne f g rfl);have N:=N.only z (Blk.ne N g rfl);have n:=n.onlyT z g rfl
   have x:=Below.only x z L;have q:=q.below o;have p:=p.below o;have f:=f.below o;have N:=N.below o;have n:=n.below o;have x:=btr x o
   clear g o z D;have t:=y;clear y;refine Y1 7<|Yf rfl trivial (EfW.mono (Xb (k:=1) (vs:=[.agg #[vi (((sMul ((sAdd ((timesS ((timesS ((timesS e (pauM i) m).1) ((timesS e (pauM i) m).2) (pauM j)).1) ((timesS ((timesS e (pauM i) m).1) ((timesS e (pauM i) m).2) (pauM j)).2) (adjS m)).1) (((timesS ((timesS ((timesS e (pauM i) m).1) ((timesS e (pauM i) m).2) (pauM j)).1) ((timesS ((timesS e (pauM i) m).1) ((timesS e (pauM i) m).2) (pauM j)).2) (adjS m)).2).cells.getD 0 dZ) (((timesS ((timesS ((timesS e (pauM i) m).1) ((timesS e (pauM i) m).2) (pauM j)).1) ((timesS ((timesS e (pauM i) m).1) ((timesS e (pauM i) m).2) (pauM j)).2) (adjS m)).2).cells.getD 3 dZ)).1) ((sAdd ((timesS ((timesS ((timesS e (pauM i) m).1) ((timesS e (pauM i) m).2) (pauM j)).1) ((timesS ((timesS e (pauM i) m).1) ((timesS e (pauM i) m).2) (pauM j)).2) (adjS m)).1) (((timesS ((timesS ((timesS e (pauM i) m).1) ((timesS e (pauM i) m).2) (pauM j)).1) ((timesS ((timesS e (pauM i) m).1) ((timesS e (pauM i) m).2) (pauM j)).2) (adjS m)).2).cells.getD 0 dZ) (((timesS ((timesS ((timesS e (pauM i) m).1) ((timesS e (pauM i) m).2) (pauM j)).1) ((timesS ((timesS e (pauM i) m).1) ((timesS e (pauM i) m).2) (pauM j)).2) (adjS m)).2).cells.getD 3 dZ)).2) (⟨(⟨1,0,0,0⟩ : Rg),2⟩ : Dy)).2).num.a),vi (((sMul ((sAdd ((timesS ((timesS ((timesS e (pauM i) m).1) ((timesS e (pauM i) m).2) (pauM j)).1) ((timesS ((timesS e (pauM i) m).1) ((timesS e (pauM i) m).2) (pauM j)).2) (adjS m)).1) (((timesS ((timesS ((timesS e (pauM i) m).1) ((timesS e (pauM i) m).2) (pauM j)).1) ((timesS ((timesS e (pauM i) m).1) ((timesS e (pauM i) m).2) (pauM j)).2) (adjS m)).2).cells.getD 0 dZ) (((timesS ((timesS ((timesS e (pauM i) m).1) ((timesS e (pauM i) m).2) (pauM j)).1) ((timesS ((timesS e (pauM i) m).1) ((timesS e (pauM i) m).2) (pauM j)).2) (adjS m)).2).cells.getD 3 dZ)).1) ((sAdd ((timesS ((timesS ((timesS e (pauM i) m).1) ((timesS e (pauM i) m).2) (pauM j)).1) ((timesS ((timesS e (pauM i) m).1) ((timesS e (pauM i) m).2) (pauM j)).2) (adjS m)).1) (((timesS ((timesS ((timesS e (pauM i) m).1) ((timesS e (pauM i) m).2) (pauM j)).1) ((timesS ((timesS e (pauM i) m).1) ((timesS e (pauM i) m).2) (pauM j)).2) (adjS m)).2).cells.getD 0 dZ) (((timesS ((timesS ((timesS e (pauM i) m).1) ((timesS e (pauM i) m).2) (pauM j)).1) ((timesS ((timesS e (pauM i) m).1) ((timesS e (pauM i) m).2) (pauM j)).2) (adjS m)).2).cells.getD 3 dZ)).2) (⟨(⟨1,0,0,0⟩ : Rg),2⟩ : Dy)).2).num.b),vi (((sMul ((sAdd ((timesS ((timesS ((timesS e (pauM i) m).1) ((timesS e (pauM i) m).2) (pauM j)).1) ((timesS ((timesS e (pauM i) m).1) ((timesS e (pauM i) m).2) (pauM j)).2) (adjS m)).1) (((timesS ((timesS ((timesS e (pauM i) m).1) ((timesS e (pauM i) m).2) (pauM j)).1) ((timesS ((timesS e (pauM i) m).1) ((timesS e (pauM i) m).2) (pauM j)).2) (adjS m)).2).cells.getD 0 dZ) (((timesS ((timesS ((timesS e (pauM i) m).1) ((timesS e (pauM i) m).2) (pauM j)).1) ((timesS ((timesS e (pauM i) m).1) ((timesS e (pauM i) m).2) (pauM j)).2) (adjS m)).2).cells.getD 3 dZ)).1) ((sAdd ((timesS ((timesS ((timesS e (pauM i) m).1) ((timesS e (pauM i) m).2) (pauM j)).1) ((timesS ((timesS e (pauM i) m).1) ((timesS e (pauM i) m).2) (pauM j)).2) (adjS m)).1) (((timesS ((timesS ((timesS e (pauM i) m).1) ((timesS e (pauM i) m).2) (pauM j)).1) ((timesS ((timesS e (pauM i) m).1) ((timesS e (pauM i) m).2) (pauM j)).2) (adjS m)).2).cells.getD 0 dZ) (((timesS ((timesS ((timesS e (pauM i) m).1) ((timesS e (pauM i) m).2) (pauM j)).1) ((timesS ((timesS e (pauM i) m).1) ((timesS e (pauM i) m).2) (pauM j)).2) (adjS m)).2).cells.getD 3 dZ)).2) (⟨(⟨1,0,0,0⟩ : Rg),2⟩ : Dy)).2).num.c),vi (((sMul ((sAdd ((timesS ((timesS ((timesS e (pauM i) m).1) ((timesS e (pauM i) m).2) (pauM j)).1) ((timesS ((timesS e (pauM i) m).1) ((timesS e (pauM i) m).2) (pauM j)).2) (adjS m)).1) (((timesS ((timesS ((timesS e (pauM i) m).1) ((timesS e (pauM i) m).2) (pauM j)).1) ((timesS ((timesS e (pauM i) m).1) ((timesS e (pauM i) m).2) (pauM j)).2) (adjS m)).2).cells.getD 0 dZ) (((timesS ((timesS ((timesS e (pauM i) m).1) ((timesS e (pauM i) m).2) (pauM j)).1) ((timesS ((timesS e (pauM i) m).1) ((timesS e (pauM i) m).2) (pauM j)).2) (adjS m)).2).cells.getD 3 dZ)).1) ((sAdd ((timesS ((timesS ((timesS e (pauM i) m).1) ((timesS e (pauM i) m).2) (pauM j)).1) ((timesS ((timesS e (pauM i) m).1) ((timesS e (pauM i) m).2) (pauM j)).2) (adjS m)).1) (((timesS ((timesS ((timesS e (pauM i) m).1) ((timesS e (pauM i) m).2) (pauM j)).1) ((timesS ((timesS e (pauM i) m).1) ((timesS e (pauM i) m).2) (pauM j)).2) (adjS m)).2).cells.getD 0 dZ) (((timesS ((timesS ((timesS e (pauM i) m).1) ((timesS e (pauM i) m).2) (pauM j)).1) ((timesS ((timesS e (pauM i) m).1) ((timesS e (pauM i) m).2) (pauM j)).2) (adjS m)).2).cells.getD 3 dZ)).2) (⟨(⟨1,0,0,0⟩ : Rg),2⟩ : Dy)).2).num.d),vi (((sMul ((sAdd ((timesS ((timesS ((timesS e (pauM i) m).1) ((timesS e (pauM i) m).2) (pauM j)).1) ((timesS ((timesS e (pauM i) m).1) ((timesS e (pauM i) m).2) (pauM j)).2) (adjS m)).1) (((timesS ((timesS ((timesS e (pauM i) m).1) ((timesS e (pauM i) m).2) (pauM j)).1) ((timesS ((timesS e (pauM i) m).1) ((timesS e (pauM i) m).2) (pauM j)).2) (adjS m)).2).cells.getD 0 dZ) (((timesS ((timesS ((timesS e (pauM i) m).1) ((timesS e (pauM i) m).2) (pauM j)).1) ((timesS ((timesS e (pauM i) m).1) ((timesS e (pauM i) m).2) (pauM j)).2) (adjS m)).2).cells.getD 3 dZ)).1) ((sAdd ((timesS ((timesS ((timesS e (pauM i) m).1) ((timesS e (pauM i) m).2) (pauM j)).1) ((timesS ((timesS e (pauM i) m).1) ((timesS e (pauM i) m).2) (pauM j)).2) (adjS m)).1) (((timesS ((timesS ((timesS e (pauM i) m).1) ((timesS e (pauM i) m).2) (pauM j)).1) ((timesS ((timesS e (pauM i) m).1) ((timesS e (pauM i) m).2) (pauM j)).2) (adjS m)).2).cells.getD 0 dZ) (((timesS ((timesS ((timesS e (pauM i) m).1) ((timesS e (pauM i) m).2) (pauM j)).1) ((timesS ((timesS e (pauM i) m).1) ((timesS e (pauM i) m).2) (pauM j)).2) (adjS m)).2).cells.getD 3 dZ)).2) (⟨(⟨1,0,0,0⟩ : Rg),2⟩ : Dy)).2).exp)]]) (zs:=[vi (((sMul ((sAdd ((timesS ((timesS ((timesS e (pauM i) m).1) ((timesS e (pauM i) m).2) (pauM j)).1) ((timesS ((timesS e (pauM i) m).1) ((timesS e (pauM i) m).2) (pauM j)).2) (adjS m)).1) (((timesS ((timesS ((timesS e (pauM i) m).1) ((timesS e (pauM i) m).2) (pauM j)).1) ((timesS ((timesS e (pauM i) m).1) ((timesS e (pauM i) m).2) (pauM j)).2) (adjS m)).2).cells.getD 0 dZ) (((timesS ((timesS ((timesS e (pauM i) m).1) ((timesS e (pauM i) m).2) (pauM j)).1) ((timesS ((timesS e (pauM i) m).1) ((timesS e (pauM i) m).2) (pauM j)).2) (adjS m)).2).cells.getD 3 dZ)).1) ((sAdd ((timesS ((timesS ((timesS e (pauM i) m).1) ((timesS e (pauM i) m).2) (pauM j)).1) ((timesS ((timesS e (pauM i) m).1) ((timesS e (pauM i) m).2) (pauM j)).2) (adjS m)).1) (((timesS ((timesS ((timesS e (pauM i) m).1) ((timesS e (pauM i) m).2) (pauM j)).1) ((timesS ((timesS e (pauM i) m).1) ((timesS e (pauM i) m).2) (pauM j)).2) (adjS m)).2).cells.getD 0 dZ) (((timesS ((timesS ((timesS e (pauM i) m).1) ((timesS e (pauM i) m).2) (pauM j)).1) ((timesS ((timesS e (pauM i) m).1) ((timesS e (pauM i) m).2) (pauM j)).2) (adjS m)).2).cells.getD 3 dZ)).2) (⟨(⟨1,0,0,0⟩ : Rg),2⟩ : Dy)).2).num.a),vi (((sMul ((sAdd ((timesS ((timesS ((timesS e (pauM i) m).1) ((timesS e (pauM i) m).2) (pauM j)).1) ((timesS ((timesS e (pauM i) m).1) ((timesS e (pauM i) m).2) (pauM j)).2) (adjS m)).1) (((timesS ((timesS ((timesS e (pauM i) m).1) ((timesS e (pauM i) m).2) (pauM j)).1) ((timesS ((timesS e (pauM i) m).1) ((timesS e (pauM i) m).2) (pauM j)).2) (adjS m)).2).cells.getD 0 dZ) (((timesS ((timesS ((timesS e (pauM i) m).1) ((timesS e (pauM i) m).2) (pauM j)).1) ((timesS ((timesS e (pauM i) m).1) ((timesS e (pauM i) m).2) (pauM j)).2) (adjS m)).2).cells.getD 3 dZ)).1) ((sAdd ((timesS ((timesS ((timesS e (pauM i) m).1) ((timesS e (pauM i) m).2) (pauM j)).1) ((timesS ((timesS e (pauM i) m).1) ((timesS e (pauM i) m).2) (pauM j)).2) (adjS m)).1) (((timesS ((timesS ((timesS e (pauM i) m).1) ((timesS e (pauM i) m).2) (pauM j)).1) ((timesS ((timesS e (pauM i) m).1) ((timesS e (pauM i) m).2) (pauM j)).2) (adjS m)).2).cells.getD 0 dZ) (((timesS ((timesS ((timesS e (pauM i) m).1) ((timesS e (pauM i) m).2) (pauM j)).1) ((timesS ((timesS e (pauM i) m).1) ((timesS e (pauM i) m).2) (pauM j)).2) (adjS m)).2).cells.getD 3 dZ)).2) (⟨(⟨1,0,0,0⟩ : Rg),2⟩ : Dy)).2).num.b),vi (((sMul ((sAdd ((timesS ((timesS ((timesS e (pauM i) m).1) ((timesS e (pauM i) m).2) (pauM j)).1) ((timesS ((timesS e (pauM i) m).1) ((timesS e (pauM i) m).2) (pauM j)).2) (adjS m)).1) (((timesS ((timesS ((timesS e (pauM i) m).1) ((timesS e (pauM i) m).2) (pauM j)).1) ((timesS ((timesS e (pauM i) m).1) ((timesS e (pauM i) m).2) (pauM j)).2) (adjS m)).2).cells.getD 0 dZ) (((timesS ((timesS ((timesS e (pauM i) m).1) ((timesS e (pauM i) m).2) (pauM j)).1) ((timesS ((timesS e (pauM i) m).1) ((timesS e (pauM i) m).2) (pauM j)).2) (adjS m)).2).cells.getD 3 dZ)).1) ((sAdd ((timesS ((timesS ((timesS e (pauM i) m).1) ((timesS e (pauM i) m).2) (pauM j)).1) ((timesS ((timesS e (pauM i) m).1) ((timesS e (pauM i) m).2) (pauM j)).2) (adjS m)).1) (((timesS ((timesS ((timesS e (pauM i) m).1) ((timesS e (pauM i) m).2) (pauM j)).1) ((timesS ((timesS e (pauM i) m).1) ((timesS e (pauM i) m).2) (pauM j)).2) (adjS m)).2).cells.getD 0 dZ) (((timesS ((timesS ((timesS e (pauM i) m).1) ((timesS e (pauM i) m).2) (pauM j)).1) ((timesS ((timesS e (pauM i) m).1) ((timesS e (pauM i) m).2) (pauM j)).2) (adjS m)).2).cells.getD 3 dZ)).2) (⟨(⟨1,0,0,0⟩ : Rg),2⟩ : Dy)).2).num.c),vi (((sMul ((sAdd ((timesS ((timesS ((timesS e (pauM i) m).1) ((timesS e (pauM i) m).2) (pauM j)).1) ((timesS ((timesS e (pauM i) m).1) ((timesS e (pauM i) m).2) (pauM j)).2) (adjS m)).1) (((timesS ((timesS ((timesS e (pauM i) m).1) ((timesS e (pauM i) m).2) (pauM j)).1) ((timesS ((timesS e (pauM i) m).1) ((timesS e (pauM i) m).2) (pauM j)).2) (adjS m)).2).cells.getD 0 dZ) (((timesS ((timesS ((timesS e (pauM i) m).1) ((timesS e (pauM i) m).2) (pauM j)).1) ((timesS ((timesS e (pauM i) m).1) ((timesS e (pauM i) m).2) (pauM j)).2) (adjS m)).2).cells.getD 3 dZ)).1) ((sAdd ((timesS ((timesS ((timesS e (pauM i) m).1) ((timesS e (pauM i) m).2) (pauM j)).1) ((timesS ((timesS e (pauM i) m).1) ((timesS e (pauM i) m).2) (pauM j)).2) (adjS m)).1) (((timesS ((timesS ((timesS e (pauM i) m).1) ((timesS e (pauM i) m).2) (pauM j)).1) ((timesS ((timesS e (pauM i) m).1) ((timesS e (pauM i) m).2) (pauM j)).2) (adjS m)).2).cells.getD 0 dZ) (((timesS ((timesS ((timesS e (pauM i) m).1) ((timesS e (pauM i) m).2) (pauM j)).1) ((timesS ((timesS e (pauM i) m).1) ((timesS e (pauM i) m).2) (pauM j)).2) (adjS m)).2).cells.getD 3 dZ)).2) (⟨(⟨1,0,0,0⟩ : Rg),2⟩ : Dy)).2).num.d),vi (((sMul ((sAdd ((timesS ((timesS ((timesS e (pauM i) m).1) ((timesS e (pauM i) m).2) (pauM j)).1) ((timesS ((timesS e (pauM i) m).1) ((timesS e (pauM i) m).2) (pauM j)).2) (adjS m)).1) (((timesS ((timesS ((timesS e (pauM i) m).1) ((timesS e (pauM i) m).2) (pauM j)).1) ((timesS ((timesS e (pauM i) m).1) ((timesS e (pauM i) m).2) (pauM j)).2) (adjS m)).2).cells.getD 0 dZ) (((timesS ((timesS ((timesS e (pauM i) m).1) ((timesS e (pauM i) m).2) (pauM j)).1) ((timesS ((timesS e (pauM i) m).1) ((timesS e (pauM i) m).2) (pauM j)).2) (adjS m)).2).cells.getD 3 dZ)).1) ((sAdd ((timesS ((timesS ((timesS e (pauM i) m).1) ((timesS e (pauM i) m).2) (pauM j)).1) ((timesS ((timesS e (pauM i) m).1) ((timesS e (pauM i) m).2) (pauM j)).2) (adjS m)).1) (((timesS ((timesS ((timesS e (pauM i) m).1) ((timesS e (pauM i) m).2) (pauM j)).1) ((timesS ((timesS e (pauM i) m).1) ((timesS e (pauM i) m).2) (pauM j)).2) (adjS m)).2).cells.getD 0 dZ) (((timesS ((timesS ((timesS e (pauM i) m).1) ((timesS e (pauM i) m).2) (pauM j)).1) ((timesS ((timesS e (pauM i) m).1) ((timesS e (pauM i) m).2) (pauM j)).2) (adjS m)).2).cells.getD 3 dZ)).2) (⟨(⟨1,0,0,0⟩ : Rg),2⟩ : Dy)).2).exp)]) rfl X01 X13 rfl rfl) (fun _ _ h=>⟨fun _=>by obtain ⟨_,_,_,o,_⟩:=h;exact Keep.of_below o,h⟩)) ?_;rintro _ jP ⟨b73,rfl,cW,o,cX⟩
   have eC:aQ≠b73:=by have:=N.lt;omega
   have i1:=Q0 x.size cW;have gF:=(aA.below' x).away cW;have cD:=n.away cW;have q:=q.below o;have p:=p.below o;have t:=t.below o;have f:=f.below o;have N:=N.below o;have n:=n.below o;have x:=btr x o;refine Y1 8<|Yt rfl trivial rfl (X0q (enc:=encD) (l:=(l2)) (l2:=([((sMul ((sAdd ((timesS ((timesS ((timesS e (pauM i) m).1) ((timesS e (pauM i) m).2) (pauM j)).1) ((timesS ((timesS e (pauM i) m).1) ((timesS e (pauM i) m).2) (pauM j)).2) (adjS m)).1) (((timesS ((timesS ((timesS e (pauM i) m).1) ((timesS e (pauM i) m).2) (pauM j)).1) ((timesS ((timesS e (pauM i) m).1) ((timesS e (pauM i) m).2) (pauM j)).2) (adjS m)).2).cells.getD 0 dZ) (((timesS ((timesS ((timesS e (pauM i) m).1) ((timesS e (pauM i) m).2) (pauM j)).1) ((timesS ((timesS e (pauM i) m).1) ((timesS e (pauM i) m).2) (pauM j)).2) (adjS m)).2).cells.getD 3 dZ)).1) ((sAdd ((timesS ((timesS ((timesS e (pauM i) m).1) ((timesS e (pauM i) m).2) (pauM j)).1) ((timesS ((timesS e (pauM i) m).1) ((timesS e (pauM i) m).2) (pauM j)).2) (adjS m)).1) (((timesS ((timesS ((timesS e (pauM i) m).1) ((timesS e (pauM i) m).2) (pauM j)).1) ((timesS ((timesS e (pauM i) m).1) ((timesS e (pauM i) m).2) (pauM j)).2) (adjS m)).2).cells.getD 0 dZ) (((timesS ((timesS ((timesS e (pauM i) m).1) ((timesS e (pauM i) m).2) (pauM j)).1) ((timesS ((timesS e (pauM i) m).1) ((timesS e (pauM i) m).2) (pauM j)).2) (adjS m)).2).cells.getD 3 dZ)).2) (⟨(⟨1,0,0,0⟩ : Rg),2⟩ : Dy)).2)])) (B0:=w0.heap.size) rfl rfl X01 X13 X06 X2h n (Rd.of_blk cX rfl _ cX.lt) (by simp only [maxLen];simp;omega) (by simp;omega) x.size) ?_;rintro _ jQ ⟨gG,gI,rfl,d5,hg,eA⟩
   have b9:Own _ w0.heap.size 53 5 encD _ _ (l2):=n
   have eD:=eA _ N.lt aF;have eE:=eA _ cX.lt cD;clear eA;have q:=q.appT b9 hg rfl;have p:=p.appT b9 hg rfl;have t:=t.appT b9 hg rfl;have f:=f.appT b9 hg rfl;have x:=Below.app x b9 hg (Qb _) x.size;clear b9 hg;refine Yo 9 rfl (fun _=>Vd rfl X1e 0)<|Y1 10 ?_;refine Yh rfl trivial rfl (Vw [.slice gG (l2++([((sMul ((sAdd ((timesS ((timesS ((timesS e (pauM i) m).1) ((timesS e (pauM i) m).2) (pauM j)).1) ((timesS ((timesS e (pauM i) m).1) ((timesS e (pauM i) m).2) (pauM j)).2) (adjS m)).1) (((timesS ((timesS ((timesS e (pauM i) m).1) ((timesS e (pauM i) m).2) (pauM j)).1) ((timesS ((timesS e (pauM i) m).1) ((timesS e (pauM i) m).2) (pauM j)).2) (adjS m)).2).cells.getD 0 dZ) (((timesS ((timesS ((timesS e (pauM i) m).1) ((timesS e (pauM i) m).2) (pauM j)).1) ((timesS ((timesS e (pauM i) m).1) ((timesS e (pauM i) m).2) (pauM j)).2) (adjS m)).2).cells.getD 3 dZ)).1) ((sAdd ((timesS ((timesS ((timesS e (pauM i) m).1) ((timesS e (pauM i) m).2) (pauM j)).1) ((timesS ((timesS e (pauM i) m).1) ((timesS e (pauM i) m).2) (pauM j)).2) (adjS m)).1) (((timesS ((timesS ((timesS e (pauM i) m).1) ((timesS e (pauM i) m).2) (pauM j)).1) ((timesS ((timesS e (pauM i) m).1) ((timesS e (pauM i) m).2) (pauM j)).2) (adjS m)).2).cells.getD 0 dZ) (((timesS ((timesS ((timesS e (pauM i) m).1) ((timesS e (pauM i) m).2) (pauM j)).1) ((timesS ((timesS e (pauM i) m).1) ((timesS e (pauM i) m).2) (pauM j)).2) (adjS m)).2).cells.getD 3 dZ)).2) (⟨(⟨1,0,0,0⟩ : Rg),2⟩ : Dy)).2)])).length gI] X4a f) ?_;rintro _ jR ⟨G,hb⟩;have g:=f;have q:=q.only G (Blk.ne q g rfl);have p:=p.only G (by omega);have t:=t.only G (Blk.ne t g rfl);have d5:=d5.onlyT G g rfl;have x:=Below.only x G dD;have f:=hb;refine Yd fun a J=>?_;refine Xn<|eX _ _ ?_
   refine Zr J<|Zm rfl<|Ze (X03 rfl rfl (by omega) (by omega))<|Za rfl ?_;refine Zn fun a J=>?_;refine Xo ?_;exact ⟨(j+1,l2++([((sMul ((sAdd ((timesS ((timesS ((timesS e (pauM i) m).1) ((timesS e (pauM i) m).2) (pauM j)).1) ((timesS ((timesS e (pauM i) m).1) ((timesS e (pauM i) m).2) (pauM j)).2) (adjS m)).1) (((timesS ((timesS ((timesS e (pauM i) m).1) ((timesS e (pauM i) m).2) (pauM j)).1) ((timesS ((timesS e (pauM i) m).1) ((timesS e (pauM i) m).2) (pauM j)).2) (adjS m)).2).cells.getD 0 dZ) (((timesS ((timesS ((timesS e (pauM i) m).1) ((timesS e (pauM i) m).2) (pauM j)).1) ((timesS ((timesS e (pauM i) m).1) ((timesS e (pauM i) m).2) (pauM j)).2) (adjS m)).2).cells.getD 3 dZ)).1) ((sAdd ((timesS ((timesS ((timesS e (pauM i) m).1) ((timesS e (pauM i) m).2) (pauM j)).1) ((timesS ((timesS e (pauM i) m).1) ((timesS e (pauM i) m).2) (pauM j)).2) (adjS m)).1) (((timesS ((timesS ((timesS e (pauM i) m).1) ((timesS e (pauM i) m).2) (pauM j)).1) ((timesS ((timesS e (pauM i) m).1) ((timesS e (pauM i) m).2) (pauM j)).2) (adjS m)).2).cells.getD 0 dZ) (((timesS ((timesS ((timesS e (pauM i) m).1) ((timesS e (pauM i) m).2) (pauM j)).1) ((timesS ((timesS e (pauM i) m).1) ((timesS e (pauM i) m).2) (pauM j)).2) (adjS m)).2).cells.getD 3 dZ)).2) (⟨(⟨1,0,0,0⟩ : Rg),2⟩ : Dy)).2)]),(sMul ((sAdd ((timesS ((timesS ((timesS e (pauM i) m).1) ((timesS e (pauM i) m).2) (pauM j)).1) ((timesS ((timesS e (pauM i) m).1) ((timesS e (pauM i) m).2) (pauM j)).2) (adjS m)).1) (((timesS ((timesS ((timesS e (pauM i) m).1) ((timesS e (pauM i) m).2) (pauM j)).1) ((timesS ((timesS e (pauM i) m).1) ((timesS e (pauM i) m).2) (pauM j)).2) (adjS m)).2).cells.getD 0 dZ) (((timesS ((timesS ((timesS e (pauM i) m).1) ((timesS e (pauM i) m).2) (pauM j)).1) ((timesS ((timesS e (pauM i) m).1) ((timesS e (pauM i) m).2) (pauM j)).2) (adjS m)).2).cells.getD 3 dZ)).1) ((sAdd ((timesS ((timesS ((timesS e (pauM i) m).1) ((timesS e (pauM i) m).2) (pauM j)).1) ((timesS ((timesS e (pauM i) m).1) ((timesS e (pauM i) m).2) (pauM j)).2) (adjS m)).1) (((timesS ((timesS ((timesS e (pauM i) m).1) ((timesS e (pauM i) m).2) (pauM j)).1) ((timesS ((timesS e (pauM i) m).1) ((timesS e (pauM i) m).2) (pauM j)).2) (adjS m)).2).cells.getD 0 dZ) (((timesS ((timesS ((timesS e (pauM i) m).1) ((timesS e (pauM i) m).2) (pauM j)).1) ((timesS ((timesS e (pauM i) m).1) ((timesS e (pauM i) m).2) (pauM j)).2) (adjS m)).2).cells.getD 3 dZ)).2) (⟨(⟨1,0,0,0⟩ : Rg),2⟩ : Dy)).1),⟨gG,gI,J.sb,(by omega),hP,q,p,t,f,d5,x⟩,(by first|omega|(dsimp only;omega))⟩
  have aD:=aH;have aH:=Q1 aH
  have aK:j=3:=by have:=aH;omega
  subst aK
  refine Q9<|Xm<|Xm<|X08 ?_;refine Xn<|eR _ _<|Zr J<|Zm rfl<|Ze (X03 rfl rfl (by omega) (by omega))<|Za rfl ?_;refine Zn fun a J=>?_;refine Xo ?_;exact ⟨(i+1,l2,e),⟨bD,bF,J.sb,(by omega),(by rw [Wb,Nat.one_mul];exact dE),q,p,t,f,n,x⟩,(by first|omega|(dsimp only;omega))⟩
 have aC:=aG;have aG:=Q1 aG
 have bC:i=3:=by have:=aG;omega
 subst bC
 obtain ⟨gJ,gK⟩:=Xol eF hl;refine Q9<|Xm<|Xm<|X08 ?_;refine eM _ _<|Q5 fun _ gL=>?_;refine Zs J fun _ gM=>?_;refine Zm rfl<|Ze (X48 rfl)<|Ze (Vd rfl X5x 0)<|Ze (X0 rfl Xtj (t.at 0))<|Zt gM fun a J=>?_
 refine Xl J rfl (fun bI=>?_) (fun bI=>?_)
 ·have eB:=bI;have he:=gJ bI;refine Zs J fun _ gN=>?_;refine Ze (Xg (ps:=[]) (cs:=[.slice none 0 0]) rfl (fun _=>by first|rfl|kernel_rfl))<|Zo (Vw [.slice none 0 0] X2s p) ?_;rintro _ jS ⟨G,hb⟩;have g:=p;have x:=Below.only x G dC;have p:=hb;refine Za rfl<|Zt gN fun a J=>?_;refine Q6<|Xf<|X4 J (X0r J rfl (ResV.cellN (l:=[.slice none 0 0]) rfl X23 (p.at 0) rfl) rfl) ?_
  rw [he]
  exact ⟨none,0,rfl,(Own.nil _ _ _ _ _),x⟩
 have eB:=bI;have he:=gK bI;refine Q7<|gL _ _<|Zs J fun _ gO=>?_;refine Ze (Vn X23 f)<|Zo (Vw [.slice bJ l.length bK] X2s p) ?_;rintro _ jT ⟨G,hb⟩;have g:=p;have bN:=bN.onlyT G g rfl;have x:=Below.only x G dC;have p:=hb;refine Za rfl<|Zt gO fun a J=>?_
 refine Q6 (X4 J (X0r J rfl (ResV.cellN (l:=[.slice bJ l.length bK]) rfl X23 (p.at 0) rfl) rfl) ?_)
 rw [he]
 exact ⟨bJ,bK,rfl,bN,x⟩
theorem Xy9(o:World)(Ap:Option Addr)(cp:Nat)(p:List Dy)(aF:Rd o o.heap.size 53 encD Ap p)(Aq:Option Addr)(cq:Nat)(q:List Dy)(aG:Rd o o.heap.size 53 encD Aq q)(b0:p.length=q.length)(b1:p.length≤2305843009213693951) : Ret Tryz.prog 91 [.agg #[.slice Ap p.length cp],.agg #[.slice Aq q.length cq]] o (fun v w=>v=.bool (decide (p=q))∧Below o.heap.size o w):=by
 refine enter Tryz.func91 rfl 24 rfl rfl ?_;intro a f
 have j:=bz o
 refine Zs f fun _ aN=>?_;refine Zf (X0j (zs:=[.slice Ap p.length cp]) rfl rfl) ?_;rintro _ w1 ⟨b4,rfl,aO,x,g⟩;have aX:=Q0 j.size aO;have j:=btr j x;refine Zf (X0j (zs:=[.slice Aq q.length cq]) rfl rfl) ?_;rintro _ w2 ⟨b5,rfl,aP,x,m⟩
 have aM:b4≠b5:=by have:=g.lt;omega
 have aY:=Q0 j.size aP;have g:=g.below x;have j:=btr j x;refine Za rfl<|ZX aN fun a f _ aQ=>?_;refine Zs f fun _ aR=>?_;refine Ze (Vd rfl X1e 0)<|Ze (X0 rfl X0p (g.at 0))<|Ze (X2k rfl X01)<|Zm rfl<|Zt aR fun a f=>?_;refine Q8<|X07 (σ:=Nat) (fun (k:Nat) (a:Act) (w:World)=>Fr a 24 [(2,.pointer (some ⟨b4,0,none⟩)),(3,.pointer (some ⟨b5,0,none⟩)),(8,vi (p.length:Int)),(9,vi (k:Int))]∧(k≤p.length)∧(p.take k=q.take k)∧Blk w b4 58 [.slice Ap p.length cp]∧Blk w b5 58 [.slice Aq q.length cq]∧Below o.heap.size o w) (fun (k:Nat)=>p.length-k) 0 ?_ ?_
 ·exact ⟨f.sb,(Qf _),(by simp),g,m,j⟩
 rintro k a w3 ⟨f,hk,n,g,m,j⟩;refine Zs f fun _ aS=>?_;refine Ze (X1h rfl rfl)<|ZX aS fun a f _ aT=>?_
 refine Xl f rfl (fun e=>?_) (fun e=>?_)
 ·have aA:=e;have e:=Q2 e
  obtain ⟨b2,aZ⟩:=Xw (l:=p) (k:=k) (by omega)
  obtain ⟨y,aB⟩:=Xw (l:=p) (k:=k) (by have:=e;omega)
  obtain ⟨v9,t⟩:=Xw (l:=q) (k:=k) (by have:=e;omega)
  refine Q7<|aT _ _<|Q5 fun _ aH=>?_;refine Q8<|Zs f fun _ aI=>?_;refine Zm rfl<|Za rfl<|ZX aI fun a f _ aJ=>?_;refine Xz none (fun _=>false) mixed ?_;intro w4 x;have g:=g.below x;have m:=m.below x;have j:=btr j x;refine Yb f<|Yo 0 rfl (fun _=>Vd rfl X1e 0)<|Ye 1 rfl (X0 rfl X0p (g.at 0))<|Yo 2 rfl (fun _=>X7 rfl)<|Yi (k:=k) (u:=y) (enc:=encD) (l:=p) 3 rfl trivial rfl rfl X01 Xd X06 (aF.below' j) aB rfl ?_;intro b3 aC;refine Ye 4 rfl (X09 (l:=[vi y.num.a,vi y.num.b,vi y.num.c,vi y.num.d,vi y.exp]) rfl X6 aC rfl)<|Yo 5 rfl (fun _=>Vd rfl X1e 0)<|Ye 6 rfl (X0 rfl X0p (m.at 0))<|Yo 7 rfl (fun _=>X7 rfl)<|Yi (k:=k) (u:=v9) (enc:=encD) (l:=q) 8 rfl trivial rfl rfl X01 Xd X06 (aG.below' j) t rfl ?_;intro b6 aD;refine Ye 9 rfl (X09 (l:=[vi v9.num.a,vi v9.num.b,vi v9.num.c,vi v9.num.d,vi v9.exp]) rfl X6 aD rfl)<|Yo 10 rfl (fun _=>X7w rfl rfl Xaa (fun w=>eqD 9997 y v9 w)) ?_;refine Yd fun a f=>?_;refine aJ _ _ ?_
  refine Xl f rfl (fun i=>?_) (fun i=>?_)
  ·have aE:=i
   have aU:¬ p=q:=by rintro rfl;rw [aB] at t;injection t with e9;revert i;simp [e9]
   refine Zs f fun _ aK=>?_;refine Za rfl<|Zt aK fun a f=>?_;refine Q6<|X05<|Xf<|Xf ?_;refine X05<|Xf<|X4 f (Xx f rfl rfl) ?_;exact ⟨by simp [aU],j⟩
  have aE:=i
  have aW:y=v9:=by revert i;simp
  refine Q7<|Xn<|aH _ _<|Zr f ?_;refine Ze (X03 rfl rfl (by omega) (by omega))<|Zm rfl ?_;refine Zn fun a f=>?_;refine Xo ?_;exact ⟨k+1,⟨f.sb,(by omega),(Xd3 n aB t aW),g,m,j⟩,(by omega)⟩
 have aA:=e;have e:=Q1 e;refine Q9<|Xm<|Xm<|X08 ?_;refine aQ _ _<|Zs f fun _ aL=>?_;refine Za rfl<|Zt aL fun a f=>?_
 refine Q6 (X4 f (Xx f rfl rfl) ?_)
 have he:p=q:=by rw [Qi (by omega),Qi (by omega)] at n;exact n
 exact ⟨by simp [he],j⟩
theorem Xrq(w0:World)(u:UInt8)(s:Nat)(aA:s<3)(aB:u=sylT s) : Ret Tryz.prog 42 [.int .u8 (u.toNat:Int)] w0 (fun v w=>∃ A c,v=.slice A (sylG s).length c∧Own w w0.heap.size 103 3 encG A c (sylG s)∧Below w0.heap.size w0 w):=by
 refine enter Tryz.func42 rfl 17 rfl rfl ?_;intro a b
 have e:=bz w0
 refine Zs b fun _ aO=>?_;refine Za rfl<|ZX aO fun a b _ aP=>?_;refine Zs b fun _ aQ=>?_;refine Zm rfl<|Zt aQ fun a b=>?_;refine Q8<|Zs b fun _ aR=>?_;refine Ze (X9r rfl rfl)<|Za rfl<|Zt aR fun a b=>?_
 refine Xl b rfl (fun f=>?_) (fun f=>?_)
 ·have aF:=f;have aS:=Xy7 aA aB f
  subst aS
  refine Zs b fun _ aT=>?_;refine Ze (Xg (ps:=[(0,vi 7)]) (cs:=[vi 7,vi 0,vi 0]) rfl (fun _=>by first|rfl|kernel_rfl))<|Ze (Xg (ps:=[(0,vi 1)]) (cs:=[vi 1,vi 0,vi 0]) rfl (fun _=>by first|rfl|kernel_rfl))<|Zf (Xb (k:=2) (vs:=[.agg #[vi 7,vi 0,vi 0],.agg #[vi 1,vi 0,vi 0]]) (zs:=[vi 7,vi 0,vi 0,vi 1,vi 0,vi 0]) rfl X1p X18 rfl rfl) ?_;rintro _ w1 ⟨b8,rfl,aU,hE,aW⟩;have aG:=Q0 e.size aU;have e:=btr e hE;refine Za rfl<|Zt aT fun a b=>?_;refine Q6<|X05<|Xf<|X4 b (Xx b rfl rfl) ?_;exact ⟨(some ⟨b8,0,none⟩),2,rfl,((Own.of_blkL X1a aW aG rfl rfl (by decide)) : Own _ _ _ _ encG _ _ (sylG 1)),e⟩
 have aF:=f;have aX:=f;refine Zs b fun _ aH=>?_;refine Ze (X9r rfl rfl)<|Za rfl<|Zt aH fun a b=>?_
 refine Xl b rfl (fun d=>?_) (fun d=>?_)
 ·have aC:=d;have aY:=Xr9 aA aB d
  subst aY
  refine Zs b fun _ aI=>?_;refine Ze (Xg (ps:=[(0,vi 7)]) (cs:=[vi 7,vi 0,vi 0]) rfl (fun _=>by first|rfl|kernel_rfl))<|Ze (Xg (ps:=[(0,vi 1)]) (cs:=[vi 1,vi 0,vi 0]) rfl (fun _=>by first|rfl|kernel_rfl))<|Ze (Xg (ps:=[(0,vi 5)]) (cs:=[vi 5,vi 0,vi 0]) rfl (fun _=>by first|rfl|kernel_rfl))<|Zf (Xb (k:=3) (vs:=[.agg #[vi 7,vi 0,vi 0],.agg #[vi 1,vi 0,vi 0],.agg #[vi 5,vi 0,vi 0]]) (zs:=[vi 7,vi 0,vi 0,vi 1,vi 0,vi 0,vi 5,vi 0,vi 0]) rfl X1p X18 rfl rfl) ?_;rintro _ w2 ⟨aZ,rfl,aJ,hE,aK⟩;have aD:=Q0 e.size aJ;have e:=btr e hE;refine Za rfl<|Zt aI fun a b=>?_;refine Q6<|X05<|Xf<|X4 b (Xx b rfl rfl) ?_;exact ⟨(some ⟨aZ,0,none⟩),3,rfl,((Own.of_blkL X1a aK aD rfl rfl (by decide)) : Own _ _ _ _ encG _ _ (sylG 2)),e⟩
 have aC:=d;have b0:=Xxo aA aB aX d
 subst b0
 refine Q7<|Xn<|aP _ _<|Zs b fun _ aL=>?_;refine Ze (Xg (ps:=[(0,vi 7)]) (cs:=[vi 7,vi 0,vi 0]) rfl (fun _=>by first|rfl|kernel_rfl))<|Zf (Xb (k:=1) (vs:=[.agg #[vi 7,vi 0,vi 0]]) (zs:=[vi 7,vi 0,vi 0]) rfl X1p X18 rfl rfl) ?_;rintro _ w3 ⟨b1,rfl,aM,hE,aN⟩;have aE:=Q0 e.size aM;have e:=btr e hE;refine Za rfl<|Zt aL fun a b=>?_
 refine Q6 (X4 b (Xx b rfl rfl) ?_)
 exact ⟨(some ⟨b1,0,none⟩),1,rfl,((Own.of_blkL X1a aN aE rfl rfl (by decide)) : Own _ _ _ _ encG _ _ (sylG 0)),e⟩
theorem Xxw(t:World)(u:UInt8)(s:Nat)(x:s<3)(y:u=sylT s) : Ret Tryz.prog 54 [.int .u8 (u.toNat:Int)] t (fun v w=>∃ A c,v=.slice A (sylG s).length c∧Own w t.heap.size 103 3 encG A c (sylG s)∧Below t.heap.size t w):=by
 refine enter Tryz.func54 rfl 19 rfl rfl ?_;intro a b
 have d:=bz t
 refine Zs b fun _ aP=>?_;refine Za rfl<|Zx aP fun a b _ aQ=>?_;refine Ze (Xg (ps:=[(0,vi 7)]) (cs:=[vi 7,vi 0,vi 0]) rfl (fun _=>by first|rfl|kernel_rfl))<|Zf (Xb (k:=1) (vs:=[.agg #[vi 7,vi 0,vi 0]]) (zs:=[vi 7,vi 0,vi 0]) rfl X1p X18 rfl rfl) ?_;rintro _ w1 ⟨b4,rfl,aR,hE,j⟩;have o:=Q0 d.size aR;have d:=btr d hE;refine Za rfl<|ZX aQ fun a b _ aE=>?_;refine Zs b fun _ aS=>?_;refine Zm rfl<|Ze (X6s rfl rfl)<|Zt aS fun a b=>?_
 refine Xl b rfl (fun m=>?_) (fun m=>?_)
 ·have aF:=m
  have aT:s≠0:=by rcases Xvd x y with h9|h9;exact h9.2;rw [h9.1] at m;simp at m
  refine Zr b<|Zm rfl<|Ze (Xg (ps:=[(0,vi 1)]) (cs:=[vi 1,vi 0,vi 0]) rfl (fun _=>by first|rfl|kernel_rfl))<|Zf (Xb (k:=1) (vs:=[.agg #[vi 1,vi 0,vi 0]]) (zs:=[vi 1,vi 0,vi 0]) rfl X1p X18 rfl rfl) ?_;rintro _ w2 ⟨b9,rfl,aU,hE,aA⟩
  have aO:b4≠b9:=by have:=j.lt;omega
  have b6:=Q0 d.size aU;have j:=j.below hE;have d:=btr d hE;refine Zf (X0q (enc:=encG) (l:=([(⟨7,0,0⟩ : Gt)])) (l2:=([(⟨1,0,0⟩ : Gt)])) (B0:=t.heap.size) rfl rfl X1p X18 X1a X2l (Own.of_blkL X1a j o rfl rfl (Nat.le_of_ble_eq_true rfl)) (Rd.of_blk aA rfl _ aA.lt) (by decide) (by decide) d.size) ?_;rintro _ w3 ⟨aW,aX,rfl,e,hg,p⟩
  have f:Own _ t.heap.size 103 3 encG _ _ ([(⟨7,0,0⟩ : Gt)]):=(Own.of_blkL X1a j o rfl rfl (Nat.le_of_ble_eq_true rfl))
  have aG:=p _ aA.lt (Away.ne (by omega))
  clear p;have d:=Below.app d f hg (Qb _) d.size;clear f hg;refine Za rfl<|ZX aE fun a b _ z=>?_;refine Zs b fun _ aH=>?_;refine Zm rfl<|Ze (X9r rfl rfl)<|Zt aH fun a b=>?_
  refine Xl b rfl (fun g=>?_) (fun g=>?_)
  ·have aB:=g;have aY:=Xr9 x y g
   subst aY
   refine Zr b<|Zm rfl<|Ze (Xg (ps:=[(0,vi 5)]) (cs:=[vi 5,vi 0,vi 0]) rfl (fun _=>by first|rfl|kernel_rfl))<|Zf (Xb (k:=1) (vs:=[.agg #[vi 5,vi 0,vi 0]]) (zs:=[vi 5,vi 0,vi 0]) rfl X1p X18 rfl rfl) ?_;rintro _ w4 ⟨b7,rfl,h,hE,q⟩;have aZ:=Q0 d.size h;have n:=e.away h;have e:=e.below hE;have d:=btr d hE;refine Zf (X0q (enc:=encG) (l:=(([(⟨7,0,0⟩ : Gt)])++([(⟨1,0,0⟩ : Gt)]))) (l2:=([(⟨5,0,0⟩ : Gt)])) (B0:=t.heap.size) rfl rfl X1p X18 X1a X2l e (Rd.of_blk q rfl _ q.lt) (by decide) (by decide) d.size) ?_;rintro _ w5 ⟨b0,b1,rfl,aI,hg,p⟩
   have f:Own _ t.heap.size 103 3 encG _ _ (([(⟨7,0,0⟩ : Gt)])++([(⟨1,0,0⟩ : Gt)])):=e
   have aD:=p _ q.lt n;clear p;have d:=Below.app d f hg (Qb _) d.size;clear f hg;refine Za rfl<|Zx z fun a b _ aJ=>?_;refine Zm rfl<|Za rfl<|Zt aJ fun a b=>?_
   refine Q6 (X4 b (Xx b rfl rfl) ?_)
   exact ⟨b0,b1,rfl,aI,d⟩
  have aB:=g;have b2:=Xu3 x y aT g
  subst b2
  refine Q7<|z _ _<|Zs b fun _ aK=>?_;refine Zm rfl<|Za rfl<|Zt aK fun a b=>?_
  refine Q6 (X4 b (Xx b rfl rfl) ?_)
  exact ⟨aW,aX,rfl,e,d⟩
 have aF:=m;obtain ⟨b3,b5⟩:=Xuj x y m
 subst b3
 refine Q7<|aE _ _<|Q5 fun _ aL=>?_;refine Zs b fun _ aM=>?_;refine Zm rfl<|Ze (X9r rfl rfl)<|Zt aM fun a b=>?_
 refine Xl b rfl (fun i=>?_) (fun i=>?_)
 ·have aC:=i
  rw [b5] at i;simp at i
 have aC:=i
 skip
 refine Q7<|aL _ _<|Zs b fun _ aN=>?_;refine Zm rfl<|Za rfl<|Zt aN fun a b=>?_
 refine Q6 (X4 b (Xx b rfl rfl) ?_)
 exact ⟨(some ⟨b4,0,none⟩),1,rfl,(Own.of_blkL X1a j o rfl rfl (by decide)),d⟩
theorem Xit{m:Mx}{l:List Dy}(h:blochI m=some l) : oneQ m=true:=by unfold blochI at h;split at h;assumption;cases h
theorem Xl0{gs:List Gt}{M:Mx}(h:opI ⟨1,gs⟩=some M) : mOk M=true:=by
 have:=(Xh2 ⟨1,gs⟩).2 M (by rw [← (Xh2 ⟨1,gs⟩).1];exact h)
 exact this.1
theorem Xmt{gs:List Gt}{M:Mx}(h:opI ⟨1,gs⟩=some M) : cOk ⟨1,gs⟩=true:=by unfold opI at h;split at h;assumption;cases h
theorem Xtv{s:Nat}(_:s<3) : opI ⟨1,sylG s⟩=some (opM (sylG s))∧mOk (opM (sylG s))=true∧(sylG s).length≤3:=by
 obtain ⟨M,a,_,_⟩:=Xak (Xdc s) (Q0 (X57 s) (by decide)) (by rw [X75];have:=Xkz s;omega)
 rw [X8c a]
 exact ⟨a,Xl0 a,X57 s⟩
theorem Xvj{l r:List Dy}(h:Gd l){s:Nat}(hs:s<3)(hr:mulBI (bkC s) l=some r) : bexp r≤bexp l+1:=by
 obtain ⟨Z,h1,_⟩:=h
 have:=(X5z hs hr h1).exps
 have:=X2d l
 omega
theorem Xo9{l r:List Dy}{i:Nat}(hno:∀ j,j<i→∀ r,mulBI (bkC j) l=some r→bexp r≠bexp l-1)(h:mulBI (bkC i) l=some r)(hn:bexp r≠bexp l-1) : ∀ j,j<i+1→∀ r,mulBI (bkC j) l=some r→bexp r≠bexp l-1:=fun j hj q hq=>by
 by_cases e:j=i
 ·subst e;rw [h] at hq;injection hq with hq;rw [← hq];exact hn
 ·exact hno j (by omega) q hq
theorem Xwj{q:List UInt8}(h:q.length≤9) : opI ⟨1,wdG q⟩=some (opM (wdG q))∧mOk (opM (wdG q))=true:=by
 have hl:(wdG q).length≤9:=by simpa [wdG] using h
 have:=Xrj (wdG q)
 obtain ⟨M,a,_,_⟩:=Xak (X9e q) (by omega) (by omega)
 rw [X8c a]
 exact ⟨a,Xl0 a⟩
theorem Xyg{u:UInt8}{n:Nat}(h:((u.toNat:Int)==(n:Int))=true) : u.toNat=n:=by
 have:=eq_of_beq h;omega
theorem Xfq{u:UInt8}(h:((u.toNat:Int)==83)=true) : letG u=⟨5,0,0⟩:=by
 have h1:u.toNat=83:=Xyg h
 have:u=83:=UInt8.toNat_inj.1 h1
 rw [this];rfl
theorem Xfm{u:UInt8}(h:((u.toNat:Int)==83)=false) : letG u=⟨1,0,0⟩:=by
 unfold letG
 rw [Q3]
 rintro rfl
 revert h;decide
theorem X6g{q:List UInt8}{k:Nat}{u:UInt8}(h:q[k]? = some u) : wdG (q.take (k+1))=wdG (q.take k)++[letG u]:=by
 unfold wdG;rw [Qt,h,List.map_append];rfl
structure FrmOk (ss:List UInt8) : Prop where
 at':∀ (i:Nat) (u:UInt8),ss[i]? = some u→u=72∨u=83∨(u=84∧i=0)
 len:ss.length≤40
theorem Xtb{ss:List UInt8}(h:FrmOk ss){i:Nat}{u:UInt8}(hu:ss[i]? = some u)(hc:((u.toNat:Int) != 72&&(u.toNat:Int) != 83&&((u.toNat:Int) != 84||decide (0<(i:Int))))=true) : False:=by
 rcases h.at' i u hu with rfl|rfl|⟨rfl,rfl⟩
 ·simp at hc
 ·simp at hc
 ·simp at hc
theorem Xgj{ss:List UInt8}(h:ss.length≤40){fc fp:Int}(hc:0≤fc∧fc≤23)(hp:0≤fp∧fp≤7) : (decide ((ss.length:Int)≤40)&&inR fc 0 23&&inR fp 0 7)=true:=by
 rw [decide_eq_true (by omega),X0g.2 hc,X0g.2 hp];rfl
theorem Xn6{l:List Dy}(h:Gd l)(hb:bexp l≤40) : FrmOk ((nfS l).map sylT):=by
 have hn:=X2d l;obtain ⟨h1,h2⟩:=Xd6 h hb
 refine ⟨fun i u hu=>?_,by rw [Qo];omega⟩
 rw [List.getElem?_map] at hu
 cases e:(nfS l)[i]? with
 | none=>rw [e] at hu;cases hu
 | some s=>
  rw [e] at hu
  injection hu with hu
  have hs:=h2 s (Qe e)
  have ht:=Xrw h hb (bexp l).toNat (by omega) i s e
  rcases lt3 hs with rfl|rfl|rfl
  ·refine .inr (.inr ⟨hu.symm,?_⟩)
   by_cases h0:i=0
   ·exact h0
   ·exact absurd rfl (ht (by omega))
  ·exact .inl hu.symm
  ·exact .inr (.inl hu.symm)
theorem Xr3(w0:World)(k:Int)(i:Nat)(aI:i<2)(aJ:k=letK i)(aK:HalfT w0) : Ret Tryz.prog 101 [vi k] w0 (fun v w=>∃ A c,v=.agg #[.slice A (clB (letR i)).length c]∧Own w w0.heap.size 53 5 encD A c (clB (letR i))∧Below w0.heap.size w0 w):=by
 obtain ⟨aB,aC⟩:=Xlt aI
 have aL:gateI 1 ⟨k,0,0⟩=some (gateS 1 ⟨letK i,0,0⟩):=by rw [aJ];exact aB
 have aM:=Xdy (n:=1) (by decide) (g:=⟨letK i,0,0⟩)
 refine enter Tryz.func101 rfl 19 rfl rfl ?_;intro a hf
 have d:=bz w0
 refine Zs hf fun _ aN=>?_;refine Zf (X3 (zs:=[.slice none 0 0]) X4k rfl) ?_;rintro _ w1 ⟨b3,rfl,aO,j,b⟩;have aD:=Q0 d.size aO;have d:=btr d j;refine Zx aN fun a hf _ aP=>?_;refine Zm rfl<|Ze (Xg (ps:=[(0,vi k)]) (cs:=[vi k,vi 0,vi 0]) rfl (fun _=>by first|rfl|kernel_rfl))<|Zf (X1d (vs:=[vi 1,.agg #[vi k,vi 0,vi 0]]) rfl X9s (by have hq:=Xk5 w1 1 (⟨k,0,0⟩ : Gt);rw [aL,Qq,Option.isSome_some] at hq;exact hq)) ?_;rintro _ w2 ⟨A5,c5,rfl,m,j⟩;have m:=m.lower d.size;have b:=b.below j;have d:=btr d j;refine Zm rfl<|Ze (X1 (vs:=[.agg #[vi ((gateS 1 ⟨letK i,0,0⟩).rows),vi ((gateS 1 ⟨letK i,0,0⟩).cols),.slice A5 ((gateS 1 ⟨letK i,0,0⟩).cells).length c5],.bool true]) rfl rfl)<|Ze (X1 (vs:=[.agg #[vi ((gateS 1 ⟨letK i,0,0⟩).rows),vi ((gateS 1 ⟨letK i,0,0⟩).cols),.slice A5 ((gateS 1 ⟨letK i,0,0⟩).cells).length c5],.bool true]) rfl rfl)<|Zf (X3 (zs:=[vi 0,vi 0,.slice none 0 0]) X0y rfl) ?_;rintro _ w3 ⟨b7,rfl,aQ,j,q⟩;have aE:=Q0 d.size aQ;have b:=b.below j;have m:=m.below j;have d:=btr d j;refine Zo (Vw [vi ((gateS 1 ⟨letK i,0,0⟩).rows),vi ((gateS 1 ⟨letK i,0,0⟩).cols),.slice A5 ((gateS 1 ⟨letK i,0,0⟩).cells).length c5] X0b q) ?_;rintro _ w4 ⟨p,hb⟩;have e:=q;have b:=b.only p (Blk.ne b e rfl);have m:=m.onlyT p e rfl;have d:=Below.only d p aE;have q:=hb;refine Za rfl<|Zx aP fun a hf _ aR=>?_;refine Ze (Vn Xr q)<|Zf (X1d (vs:=[.agg #[vi ((gateS 1 ⟨letK i,0,0⟩).rows),vi ((gateS 1 ⟨letK i,0,0⟩).cols),.slice A5 ((gateS 1 ⟨letK i,0,0⟩).cells).length c5]]) rfl Xci (by have hq:=Xml w4 (gateS 1 ⟨letK i,0,0⟩) A5 c5 m.rd.top aM (aK.of d);rw [aC,Qq,Option.isSome_some] at hq;exact hq)) ?_;rintro _ w5 ⟨A9,c9,rfl,f,j⟩
 have f:=f.lower d.size;have b:=b.below j;have d:=btr d j;refine Zm rfl<|Ze (X1 (vs:=[.agg #[.slice A9 (clB (letR i)).length c9],.bool true]) rfl rfl)<|Ze (X1 (vs:=[.agg #[.slice A9 (clB (letR i)).length c9],.bool true]) rfl rfl)<|Zf (X3 (zs:=[.slice none 0 0]) X4k rfl) ?_;rintro _ w6 ⟨b11,rfl,aF,j,o⟩
 have aG:b3≠b11:=by have:=b.lt;omega
 have aA:=Q0 d.size aF;have b:=b.below j;have f:=f.below j;have d:=btr d j;refine Zo (Vw [.slice A9 (clB (letR i)).length c9] X2s o) ?_;rintro _ w7 ⟨p,hb⟩;have e:=o;have b:=b.only p (by omega);have f:=f.onlyT p e rfl;have d:=Below.only d p aA;have o:=hb;refine Za rfl<|Zx aR fun a hf _ aH=>?_;refine Ze (Vn X23 o)<|Zo (Vw [.slice A9 (clB (letR i)).length c9] X2s b) ?_;rintro _ w8 ⟨p,hb⟩;have e:=b;have f:=f.onlyT p e rfl;have d:=Below.only d p aD;have b:=hb;refine Zt aH fun a hf=>?_
 refine Q6 (X4 hf (Xx hf rfl (ResV.cellN (l:=[.slice A9 (clB (letR i)).length c9]) rfl X23 (b.at 0) rfl)) ?_)
 exact ⟨A9,c9,rfl,f,d⟩
theorem Xxu(j:World)(Ag:Option Addr)(cg:Nat)(g:List Gt)(aB:Rd j j.heap.size 103 encG Ag g)(s:Nat)(aC:s<3)(aD:g=sylG s)(aH:HalfT j) : Ret Tryz.prog 60 [.slice Ag g.length cg] j (fun v w=>∃ A c,v=.slice A (trB (bkC s)).length c∧Own w j.heap.size 53 5 encD A c (trB (bkC s))∧Below j.heap.size j w):=by
 obtain ⟨aI,aJ,aP⟩:=Xtv aC
 have aK:opI ⟨1,g⟩=some (opM (sylG s)):=by rw [aD];exact aI
 refine enter Tryz.func60 rfl 20 rfl rfl ?_;intro a hf
 have d:=bz j
 refine Zs hf fun _ aL=>?_;refine Za rfl<|Zx aL fun a hf _ aM=>?_;refine Zm rfl<|Ze (Xg (ps:=[(0,vi 1),(1,.slice Ag g.length cg)]) (cs:=[vi 1,.slice Ag g.length cg]) rfl (fun _=>by first|rfl|kernel_rfl))<|Zf (X1d (vs:=[.agg #[vi 1,.slice Ag g.length cg]]) rfl Xr7 (by have hq:=F97 j (⟨1,g⟩ : Cx) Ag cg (aB.below' d).top (by show g.length≤_;rw [aD];exact Q0 (X57 s) (by decide));rw [aK,Qq,Option.isSome_some] at hq;exact hq)) ?_;rintro _ w1 ⟨A6,c6,rfl,f,k⟩;have d:=btr d k;refine Zm rfl<|Ze (X1 (vs:=[.agg #[vi ((opM (sylG s)).rows),vi ((opM (sylG s)).cols),.slice A6 ((opM (sylG s)).cells).length c6],.bool true]) rfl rfl)<|Ze (X1 (vs:=[.agg #[vi ((opM (sylG s)).rows),vi ((opM (sylG s)).cols),.slice A6 ((opM (sylG s)).cells).length c6],.bool true]) rfl rfl)<|Zf (X3 (zs:=[vi 0,vi 0,.slice none 0 0]) X0y rfl) ?_;rintro _ w2 ⟨b8,rfl,aN,k,l⟩;have aE:=Q0 d.size aN;have f:=f.below k;have d:=btr d k;refine Zo (Vw [vi ((opM (sylG s)).rows),vi ((opM (sylG s)).cols),.slice A6 ((opM (sylG s)).cells).length c6] X0b l) ?_;rintro _ w3 ⟨ho,hb⟩;have i:=l;have f:=f.onlyT ho i rfl;have d:=Below.only d ho aE;have l:=hb;refine Za rfl<|Zx aM fun a hf _ aO=>?_;refine Ze (Vn Xr l)<|Zf (X1d (vs:=[.agg #[vi ((opM (sylG s)).rows),vi ((opM (sylG s)).cols),.slice A6 ((opM (sylG s)).cells).length c6]]) rfl Xci (by have hq:=Xml w3 (opM (sylG s)) A6 c6 f.top (Xcn aJ) (aH.of d);rw [(Xb1 aC).1,Qq,Option.isSome_some] at hq;exact hq)) ?_;rintro _ w4 ⟨m,n,rfl,b,k⟩;have b:=b.lower d.size;have d:=btr d k;refine Zm rfl<|Ze (X1 (vs:=[.agg #[.slice m (trB (bkC s)).length n],.bool true]) rfl rfl)<|Ze (X1 (vs:=[.agg #[.slice m (trB (bkC s)).length n],.bool true]) rfl rfl)<|Zf (X3 (zs:=[.slice none 0 0]) X4k rfl) ?_;rintro _ w5 ⟨aQ,rfl,aF,k,e⟩
 have aA:=Q0 d.size aF;have b:=b.below k;have d:=btr d k;refine Zo (Vw [.slice m (trB (bkC s)).length n] X2s e) ?_;rintro _ w6 ⟨ho,hb⟩;have i:=e;have b:=b.onlyT ho i rfl;have d:=Below.only d ho aA;have e:=hb;refine Za rfl<|Zx aO fun a hf _ aG=>?_;refine Ze (Vd rfl X1e 0)<|Ze (X0 rfl X0p (e.at 0))<|Za rfl<|Zt aG fun a hf=>?_
 refine Q6 (X4 hf (Xx hf rfl rfl) ?_)
 exact ⟨m,n,rfl,b,d⟩
theorem Xw3(h:World)(Al:Option Addr)(cl:Nat)(l:List Dy)(C:Rd h h.heap.size 53 encD Al l)(hG:Gd l)(h0:0<bexp l)(hb:bexp l≤40)(aO:HalfT h) : Ret Tryz.prog 26 [.slice Al l.length cl] h (fun v w=>∃ s r A c1,stripI l=some (s,r)∧v=.tuple #[.string (tx [sylT s]),.slice A r.length c1,.bool true]∧Own w h.heap.size 53 5 encD A c1 r∧Below h.heap.size h w):=by
 obtain ⟨aC,b5⟩:=hG.nine;have b6:=X2d l;refine enter Tryz.func26 rfl 40 rfl rfl ?_;intro a b
 have c:=bz h
 refine Zs b fun _ aP=>?_;refine Za rfl<|Za rfl<|Za rfl<|ZX aP fun a b _ b7=>?_;refine Zs b fun _ aQ=>?_;refine Zm rfl<|Zt aQ fun a b=>?_;refine Q8<|X07 (σ:=Nat) (fun (i:Nat) (a:Act) (w:World)=>Fr a 40 [(0,.slice Al l.length cl),(9,vi (i:Int))]∧(i≤3)∧(∀ j,j<i→∀ r,mulBI (bkC j) l=some r→bexp r≠bexp l-1)∧Below h.heap.size h w) (fun (i:Nat)=>3-i) 0 ?_ ?_
 ·exact ⟨b.sb,(by omega),(fun j hj=>by omega),c⟩
 rintro i a w1 ⟨b,hi,aA,c⟩;refine Zs b fun _ aR=>?_;refine Ze (X1h rfl rfl)<|ZX aR fun a b _ aS=>?_
 refine Xl b rfl (fun e=>?_) (fun e=>?_)
 ·have aD:=e;have e:=Q2 e
  have f:i<3:=by have:=e;omega
  obtain ⟨r,B,aE⟩:=X9b hG hb f;have aT:=aE.nine.1;have b8:=aE.nine.2;have b3:=X2d r;have b4:=Xvj hG f B;refine Q7<|aS _ _<|Q5 fun _ aU=>?_;refine Q8<|Zs b fun _ aF=>?_;refine Zm rfl<|Za rfl<|Zx aF fun a b _ aG=>?_;refine Zm rfl<|Zm rfl<|Ze (X03 rfl rfl (by omega) (by omega))<|Ze (Xh6 (s:=[84,72,83]) (r:=[sylT i]) (k:=i) (m:=(i+1)) rfl rfl rfl Tryz.underlying9 rfl rfl (Nat.le_succ _) (by simp;omega) (Xhc f))<|Za rfl<|Zx aG fun a b _ aH=>?_;refine Zm rfl<|Ze (X63 (s:=([sylT i])) (k:=0) (u:=(sylT i)) rfl rfl Tryz.underlying9 rfl rfl)<|Zf (Vc (Xrq _ (sylT i) i f rfl) Xh8) ?_;rintro _ w2 ⟨aW,aX,rfl,t,n⟩;have t:=t.lower c.size;have c:=btr c n;refine Zf (Vc (Xxu _ aW aX (sylG i) t.rd.top i f rfl (aO.of c)) Xq6) ?_;rintro _ w3 ⟨aI,aJ,rfl,x,n⟩;have x:=x.lower c.size;have c:=btr c n;refine Zf (X1d (vs:=[.slice aI (trB (bkC i)).length aJ]) rfl Xhi (by have hq:=Xrk w3 aI aJ (trB (bkC i)) x.rd.top (Xc4 _);rw [(Xb1 f).2] at hq;exact hq)) ?_;rintro _ w4 ⟨aK,aL,rfl,y,n⟩;have y:=y.lower c.size;have c:=btr c n;refine Zm rfl<|Zf (X1d (vs:=[.slice aK (bkC i).length aL,.slice Al l.length cl]) rfl Xcb (by have hq:=Xja w4 aK aL (bkC i) y.rd.top Al cl l (C.below' c).top (Xoy f).1 aC;rw [B,Qq,Option.isSome_some] at hq;exact hq)) ?_;rintro _ w5 ⟨o,p,rfl,d,n⟩;have d:=d.lower c.size;have c:=btr c n;refine Zm rfl<|Ze (X1 (vs:=[.slice o r.length p,.bool true]) rfl rfl)<|Ze (X1 (vs:=[.slice o r.length p,.bool true]) rfl rfl)<|Za rfl<|Za rfl<|ZX aH fun a b _ aM=>?_;refine X02 (fun a w=>Fr a 40 [(0,.slice Al l.length cl),(6,.string (tx ([sylT i]))),(7,.slice o r.length p),(9,vi (i:Int)),(36,.bool ((bexp r)==((bexp l)-1)))]∧Below w5.heap.size w5 w) ?_ ?_
  ·have z:Below w5.heap.size w5 w5:=Below.refl _ _
   refine Zr b<|Zm rfl<|Zm rfl<|Zv (gW rfl) (X7 rfl) ?_;refine Zv (gW rfl) (Xg (ps:=[(0,.slice o r.length p)]) (cs:=[.slice o r.length p]) rfl (fun _=>by first|rfl|kernel_rfl)) ?_;refine Zk (gW rfl) (Vc (Xh5 _ o p r d.rd.top (by rw [aT];decide)) X9j) ?_;rintro _ w6 ⟨rfl,n⟩;have c:=btr c n;have z:=btr z n;refine Zv (gW rfl) (X7 rfl) ?_;refine Zv (gW rfl) (Xg (ps:=[(0,.slice Al l.length cl)]) (cs:=[.slice Al l.length cl]) rfl (fun _=>by first|rfl|kernel_rfl)) ?_;refine Zk (gW rfl) (Vc (Xh5 _ Al cl l (C.below' c).top (by rw [aC];decide)) X9j) ?_;rintro _ w7 ⟨rfl,n⟩;have c:=btr c n;have z:=btr z n;refine Zv (gW rfl) (X1m rfl rfl (by omega) (by omega)) ?_;refine Zv (gW rfl) (X1b rfl rfl) ?_;refine Ze (Xe rfl rfl rfl) ?_;refine Zn fun a b=>?_
   have aY:Below w5.heap.size w5 w7:=z
   exact ⟨b.sb,aY⟩
  rintro a w8 ⟨b,n⟩;have d:=d.below n;have c:=btr c n;refine aM _ _ ?_
  refine Xl b rfl (fun g=>?_) (fun g=>?_)
  ·have aB:=g
   have aZ:=Xli f aA B (by have h9:=g;simpa using h9)
   refine Zs b fun _ aN=>?_;refine Zm rfl<|Zm rfl<|Za rfl<|Za rfl<|Za rfl<|Zt aN fun a b=>?_;refine Q6<|X05<|Xf<|Xf ?_;refine X05<|Xf<|X4 b (Xnk b rfl rfl rfl rfl) ?_;exact ⟨i,r,o,p,aZ,rfl,d,c⟩
  have aB:=g
  have b0:bexp r≠bexp l-1:=by have h9:=g;simpa using h9
  refine Q7<|Xn<|aU _ _<|Zr b ?_;refine Ze (X03 rfl rfl (by omega) (by omega))<|Zm rfl ?_;refine Zn fun a b=>?_;refine Xo ?_;exact ⟨i+1,⟨b.sb,(by omega),(Xo9 aA B b0),c⟩,(by omega)⟩
 have aD:=e;have e:=Q1 e
 have f:i=3:=by have:=e;omega
 obtain ⟨q,r,b9,b1,b2⟩:=Xeu hG h0 hb;exact (aA q (by omega) r b1 b2).elim
theorem Xyx(y:World)(q:List UInt8)(aT:q.length≤9) : Ret Tryz.prog 90 [.string (tx q)] y (fun v w=>∃ A c1,v=mV A c1 (opM (wdG q))∧Rd w w.heap.size 53 encD A (opM (wdG q)).cells∧Below y.heap.size y w):=by
 obtain ⟨aU,b6⟩:=Xwj aT;refine enter Tryz.func90 rfl 26 rfl rfl ?_;intro a f
 have d:=bz y
 refine Zs f fun _ aW=>?_;refine Zf (X3 (zs:=[vi 0,vi 0,.slice none 0 0]) X0y rfl) ?_;rintro _ w1 ⟨b3,rfl,aX,m,b⟩;have aM:=Q0 d.size aX;have d:=btr d m;refine Zx aW fun a f _ aY=>?_;refine Ze (Xg (ps:=[(0,vi 1)]) (cs:=[vi 1,.slice none 0 0]) rfl (fun _=>by first|rfl|kernel_rfl))<|Zf (X3 (zs:=[vi 0,.slice none 0 0]) Xvm rfl) ?_;rintro _ w2 ⟨b7,rfl,aZ,m,c⟩;have z:=Q0 d.size aZ;have b:=b.below m;have d:=btr d m;refine Zo (Vw [vi 1,.slice none 0 0] Xkt c) ?_;rintro _ w3 ⟨p,hb⟩;have g:=c;have b:=b.only p (Blk.ne b g rfl);have d:=Below.only d p z;have c:=hb;refine ZX aY fun a f _ b0=>?_;refine Zs f fun _ b1=>?_;refine Za rfl<|Zt b1 fun a f=>?_;refine Q8<|X07 (σ:=Nat×(List Gt)) (fun (s:Nat×(List Gt)) (a:Act) (w:World)=>match s with|(k,gs)=>∃ h B,Fr a 26 [(0,.string (tx q)),(2,.pointer (some ⟨b3,0,none⟩)),(3,.pointer (some ⟨b7,0,none⟩)),(4,vi (k:Int))]∧(k≤q.length)∧(gs=wdG (q.take k))∧Blk w b3 29 [vi 0,vi 0,.slice none 0 0]∧Blk w b7 48 [vi 1,.slice h gs.length B]∧Own w y.heap.size 103 3 encG h B gs∧Below y.heap.size y w) (fun (s:Nat×(List Gt))=>match s with|(k,gs)=>q.length-k) (0,[]) ?_ ?_
 ·exact ⟨none,0,f.sb,(Qf _),rfl,b,c,(Own.nil _ _ _ _ _),d⟩
 rintro ⟨k,gs⟩ a w4 ⟨h,B,f,hk,o,b,c,e,d⟩
 have b8:gs.length≤9:=by rw [o];simp [wdG];omega
 refine Q5 fun _ aN=>?_;refine Zs f fun _ aO=>?_;refine Zm rfl<|Zm rfl<|Ze (X4y (s:=q) rfl Tryz.underlying9)<|Ze (X1h rfl rfl)<|Zt aO fun a f=>?_
 refine Xl f rfl (fun j=>?_) (fun j=>?_)
 ·have aA:=j;have j:=Q2 j
  obtain ⟨b9,b5⟩:=Xw (l:=q) (k:=k) (by omega)
  obtain ⟨u7,aB⟩:=Xw (l:=q) (k:=k) (by have:=j;omega)
  refine Q7<|aN _ _<|Q5 fun _ L=>?_;refine Q8<|Zs f fun _ aP=>?_;refine Za rfl<|ZX aP fun a f _ M=>?_;refine Zs f fun _ aQ=>?_;refine Zm rfl<|Zm rfl<|Ze (X63 (s:=q) (k:=k) (u:=u7) rfl rfl Tryz.underlying9 rfl aB)<|Ze (X9r rfl rfl)<|Zt aQ fun a f=>?_
  refine Xl f rfl (fun n=>?_) (fun n=>?_)
  ·have aC:=n;have aD:=Xfq n;refine Zr f<|Za rfl<|Zt M fun a f=>?_;refine Zr f<|Ze (Vd rfl X1x 1)<|Ze (X0 rfl X6b (c.at 1))<|Zm rfl<|Ze (Xg (ps:=[(0,vi 5)]) (cs:=[vi 5,vi 0,vi 0]) rfl (fun _=>by first|rfl|kernel_rfl))<|Zf (Xb (k:=1) (vs:=[.agg #[vi 5,vi 0,vi 0]]) (zs:=[vi 5,vi 0,vi 0]) rfl X1p X18 rfl rfl) ?_;rintro _ w5 ⟨bC,rfl,N,m,C⟩;have b2:=Q0 d.size N;have t:=e.away N;have b:=b.below m;have c:=c.below m;have e:=e.below m;have d:=btr d m;refine Zf (X0q (enc:=encG) (l:=(gs)) (l2:=([(⟨5,0,0⟩ : Gt)])) (B0:=y.heap.size) rfl rfl X1p X18 X1a X2l e (Rd.of_blk C rfl _ C.lt) (by simp only [maxLen];simp;omega) (by simp;omega) d.size) ?_;rintro _ w6 ⟨aE,aF,rfl,D,o,E⟩
   have i:Own _ y.heap.size 103 3 encG _ _ (gs):=e
   have aK:=E _ C.lt t;clear E;have b:=b.appT i o rfl;have c:=c.appT i o rfl;have d:=Below.app d i o (Qb _) d.size;clear i o;refine Ze (Vd rfl X1x 1)<|Zo (Vu (vs:=[.slice aE (gs++([(⟨5,0,0⟩ : Gt)])).length aF]) (l':=[vi 1,.slice aE (gs++([(⟨5,0,0⟩ : Gt)])).length aF]) rfl rfl Xbs c) ?_;rintro _ w7 ⟨p,hb⟩;have g:=c;have b:=b.only p (Blk.ne b g rfl);have D:=D.onlyT p g rfl;have d:=Below.only d p z;have c:=hb;refine Zn fun a f=>?_;refine Xn<|L _ _<|Zr f<|Zm rfl<|Ze (X03 rfl rfl (by omega) (by omega))<|Za rfl ?_;refine Zn fun a f=>?_;refine Xo ?_;exact ⟨(k+1,gs++([(⟨5,0,0⟩ : Gt)])),⟨aE,aF,f.sb,(by omega),(by rw [o,X6g aB,aD]),b,c,D,d⟩,(by first|omega|(dsimp only;omega))⟩
  have aC:=n;have aD:=Xfm n;refine Q7<|M _ _<|Zr f<|Ze (Vd rfl X1x 1)<|Ze (X0 rfl X6b (c.at 1))<|Zm rfl<|Ze (Xg (ps:=[(0,vi 1)]) (cs:=[vi 1,vi 0,vi 0]) rfl (fun _=>by first|rfl|kernel_rfl))<|Zf (Xb (k:=1) (vs:=[.agg #[vi 1,vi 0,vi 0]]) (zs:=[vi 1,vi 0,vi 0]) rfl X1p X18 rfl rfl) ?_;rintro _ w8 ⟨bD,rfl,Q,m,G⟩;have b4:=Q0 d.size Q;have x:=e.away Q;have b:=b.below m;have c:=c.below m;have e:=e.below m;have d:=btr d m;refine Zf (X0q (enc:=encG) (l:=(gs)) (l2:=([(⟨1,0,0⟩ : Gt)])) (B0:=y.heap.size) rfl rfl X1p X18 X1a X2l e (Rd.of_blk G rfl _ G.lt) (by simp only [maxLen];simp;omega) (by simp;omega) d.size) ?_;rintro _ w9 ⟨aG,aH,rfl,H,o,E⟩
  have i:Own _ y.heap.size 103 3 encG _ _ (gs):=e
  have aL:=E _ G.lt x;clear E;have b:=b.appT i o rfl;have c:=c.appT i o rfl;have d:=Below.app d i o (Qb _) d.size;clear i o;refine Ze (Vd rfl X1x 1)<|Zo (Vu (vs:=[.slice aG (gs++([(⟨1,0,0⟩ : Gt)])).length aH]) (l':=[vi 1,.slice aG (gs++([(⟨1,0,0⟩ : Gt)])).length aH]) rfl rfl Xbs c) ?_;rintro _ bE ⟨p,hb⟩;have g:=c;have b:=b.only p (Blk.ne b g rfl);have H:=H.onlyT p g rfl;have d:=Below.only d p z;have c:=hb;refine Zn fun a f=>?_;refine Xn<|L _ _<|Zr f<|Zm rfl<|Ze (X03 rfl rfl (by omega) (by omega))<|Za rfl ?_;refine Zn fun a f=>?_;refine Xo ?_;exact ⟨(k+1,gs++([(⟨1,0,0⟩ : Gt)])),⟨aG,aH,f.sb,(by omega),(by rw [o,X6g aB,aD]),b,c,H,d⟩,(by first|omega|(dsimp only;omega))⟩
 have aA:=j;have j:=Q1 j
 have aR:gs=wdG q:=by rw [o,Qi (by omega)]
 have I:opI ⟨1,gs⟩=some (opM (wdG q)):=by rw [aR];exact aU
 refine Q9<|Xm<|Xm<|X08 ?_;refine b0 _ _<|Zs f fun _ aS=>?_;refine Ze (Vn Xbq c)<|Zf (X1d (vs:=[.agg #[vi 1,.slice h gs.length B]]) rfl Xgo (by have hq:=Xre w4 (⟨1,gs⟩ : Cx) h B e.rd.top (Xmt I) (opM (wdG q)) I;rw [show opI _=some (opM (wdG q)) from I,Qq] at hq;exact hq)) ?_;rintro _ bF ⟨aI,aJ,rfl,J,m⟩;have b:=b.below m;have d:=btr d m;refine Zo (Vw [vi ((opM (wdG q)).rows),vi ((opM (wdG q)).cols),.slice aI ((opM (wdG q)).cells).length aJ] X0b b) ?_;rintro _ bG ⟨p,hb⟩;have g:=b;have J:=J.onlyT p g rfl;have d:=Below.only d p aM;have b:=hb;refine Zt aS fun a f=>?_
 refine Q6 (X4 f (Xx f rfl (ResV.cellN (l:=[vi ((opM (wdG q)).rows),vi ((opM (wdG q)).cols),.slice aI ((opM (wdG q)).cells).length aJ]) rfl Xr (b.at 0) rfl)) ?_)
 exact ⟨aI,aJ,rfl,J.top,d⟩
theorem Xrl(w0:World)(ss:List UInt8)(fc fp:Int)(hF:FrmOk ss)(aF:0≤fc∧fc≤23)(aG:0≤fp∧fp≤7) : Ret Tryz.prog 15 [.agg #[.string (tx ss),vi fc,vi fp]] w0 (fun v w=>v=.bool true∧Below w0.heap.size w0 w):=by
 have aH:=hF.len;refine enter Tryz.func15 rfl 44 rfl rfl ?_;intro a g
 have hW:=bz w0
 refine Zs g fun _ aI=>?_;refine Zf (X0j (zs:=[.string (tx ss),vi fc,vi fp]) rfl rfl) ?_;rintro _ w1 ⟨b2,rfl,aJ,hE,m⟩;have aP:=Q0 hW.size aJ;have hW:=btr hW hE;refine Za rfl<|ZX aI fun a g _ aK=>?_;refine Zs g fun _ aL=>?_;refine Za rfl<|Zt aL fun a g=>?_;refine Q8<|X07 (σ:=Nat) (fun (i:Nat) (a:Act) (w:World)=>Fr a 44 [(1,.pointer (some ⟨b2,0,none⟩)),(3,vi (i:Int))]∧(i≤ss.length)∧Blk w b2 25 [.string (tx ss),vi fc,vi fp]∧Below w0.heap.size w0 w) (fun (i:Nat)=>ss.length-i) 0 ?_ ?_
 ·exact ⟨g.sb,(Qf _),m,hW⟩
 rintro i a w2 ⟨g,hi,m,hW⟩;refine Q5 fun _ aM=>?_;refine Zs g fun _ aN=>?_;refine Zm rfl<|Ze (Vd rfl X0m 0)<|Ze (X0 rfl X2j (m.at 0))<|Ze (X4y (s:=ss) rfl Tryz.underlying9)<|Ze (X1h rfl rfl)<|Zt aN fun a g=>?_
 refine Xl g rfl (fun n=>?_) (fun n=>?_)
 ·have c:=n;have n:=Q2 n
  obtain ⟨u8,aQ⟩:=Xw (l:=ss) (k:=i) (by omega)
  obtain ⟨u7,aB⟩:=Xw (l:=ss) (k:=i) (by have:=n;omega)
  refine Q7<|aM _ _<|Q5 fun _ aO=>?_;refine Q8<|Zs g fun _ aC=>?_;refine Ze (Vd rfl X0m 0)<|Ze (X0 rfl X2j (m.at 0))<|Zm rfl<|Ze (X63 (s:=ss) (k:=i) (u:=u7) rfl rfl Tryz.underlying9 rfl aB)<|Za rfl<|ZX aC fun a g _ aD=>?_;refine X02 (fun a w=>Fr a 44 [(1,.pointer (some ⟨b2,0,none⟩)),(3,vi (i:Int)),(29,.bool ((((u7.toNat:Int) != 72)&&((u7.toNat:Int) != 83))&&(((u7.toNat:Int) != 84)||(decide (0<(i:Int))))))]∧w2=w) ?_ ?_
  ·refine Zr g<|Zm rfl<|Ze (X6s rfl rfl)<|Zm rfl ?_
   refine Zg 18 rfl (fun d=>?_) (fun d=>?_)
   ·refine Zv (gW d) (X7 rfl) ?_;refine Zv (gW d) (X6s rfl rfl) ?_;refine Ze (Xe rfl d rfl)<|Zm rfl ?_
    refine Zg 22 rfl (fun b=>?_) (fun b=>?_)
    ·refine Zv (gW b) (X7 rfl) ?_;refine Zv (gW b) (X6s rfl rfl) ?_;refine Zv (gW b) (X7 rfl) ?_
     refine Zg 25 rfl (fun j=>?_) (fun j=>?_)
     ·refine Zp (gP j) ?_;refine Zp (gP j) ?_;refine Zv (gW b) (Xe rfl j rfl) ?_;refine Ze (Xe rfl b rfl) ?_;refine Zn fun a g=>?_;exact ⟨g.sub ⟨rfl,rfl,X2 rfl (by first|rfl|(simp only [c,d,b,j,bs];done)|simp [c,d,b,j]),trivial⟩,rfl⟩
     refine Zv (gW j) (X7 rfl) ?_;refine Zv (gW j) (X72 rfl rfl) ?_;refine Zv (gW b) (Xc rfl j rfl) ?_;refine Ze (Xe rfl b rfl) ?_;refine Zn fun a g=>?_;exact ⟨g.sub ⟨rfl,rfl,X2 rfl (by first|rfl|(simp only [c,d,b,j,bs];done)|simp [c,d,b,j]),trivial⟩,rfl⟩
    refine Zp (gP b) ?_;refine Zp (gP b) ?_;refine Zp (gP b) ?_;refine Zp (gP trivial) ?_;refine Zp (gP trivial) ?_;refine Zp (gP b) ?_;refine Ze (Xc rfl b rfl) ?_;refine Zn fun a g=>?_;exact ⟨g.sub ⟨rfl,rfl,X2 rfl (by first|rfl|(simp only [c,d,b,bs];done)|simp [c,d,b]),trivial⟩,rfl⟩
   refine Zp (gP d) ?_;refine Zp (gP d) ?_;refine Ze (Xc rfl d rfl)<|Zm rfl<|Zp (gP rfl) ?_;refine Zp (gP rfl) ?_;refine Zp (gP rfl) ?_;refine Zp (gP trivial) ?_;refine Zp (gP trivial) ?_;refine Zp (gP rfl) ?_;refine Ze (Xc rfl rfl rfl) ?_;refine Zn fun a g=>?_;exact ⟨g.sub ⟨rfl,rfl,X2 rfl (by first|rfl|(simp only [c,d,bs];done)|simp [c,d]),trivial⟩,rfl⟩
  rintro a _ ⟨g,rfl⟩;refine aD _ _ ?_
  refine Xl g rfl (fun o=>?_) (fun o=>?_)
  ·have aA:=o;exact (Xtb hF aB o).elim
  have aA:=o;refine Q7<|Xn<|aO _ _<|Zr g ?_;refine Zm rfl<|Ze (X03 rfl rfl (by omega) (by omega))<|Za rfl ?_;refine Zn fun a g=>?_;refine Xo ?_;exact ⟨i+1,⟨g.sb,(by omega),m,hW⟩,(by omega)⟩
 have c:=n;have n:=Q1 n;refine Q9<|Xm<|Xm<|X08 ?_;refine aK _ _<|Q5 fun _ aE=>?_;refine X02 (fun a w=>Fr a 44 [(2,.bool (((decide ((ss.length:Int)≤40))&&(inR fc 0 23))&&(inR fp 0 7)))]∧w2=w) ?_ ?_
 ·refine Zr g<|Ze (Vd rfl X0m 0)<|Ze (X0 rfl X2j (m.at 0))<|Ze (X4y (s:=ss) rfl Tryz.underlying9)<|Ze (Xat rfl rfl)<|Zm rfl ?_
  refine Zg 34 rfl (fun e=>?_) (fun e=>?_)
  ·refine Zv (gW e) (Vd rfl X21 1) ?_;refine Zv (gW e) (X0 rfl X9 (m.at 1)) ?_;refine Zk (gW e) (Vc (F91 _ fc 0 23) X36) ?_;rintro _ _ ⟨rfl,rfl⟩;refine Ze (Xe rfl e rfl)<|Zm rfl ?_
   refine Zg 39 rfl (fun f=>?_) (fun f=>?_)
   ·refine Zv (gW f) (Vd rfl X1u 2) ?_;refine Zv (gW f) (X0 rfl X9 (m.at 2)) ?_;refine Zk (gW f) (Vc (F91 _ fp 0 7) X36) ?_;rintro _ _ ⟨rfl,rfl⟩;refine Ze (Xe rfl f rfl)<|Za rfl ?_;refine Zn fun a g=>?_;exact ⟨g.sub ⟨X2 rfl (by first|rfl|(simp only [c,e,f,bs];done)|simp [c,e,f]),trivial⟩,rfl⟩
   refine Zp (gP f) ?_;refine Zp (gP f) ?_;refine Zp (gP f) ?_;refine Ze (Xc rfl f rfl)<|Za rfl ?_;refine Zn fun a g=>?_;exact ⟨g.sub ⟨X2 rfl (by first|rfl|(simp only [c,e,f,bs];done)|simp [c,e,f]),trivial⟩,rfl⟩
  refine Zp (gP e) ?_;refine Zp (gP e) ?_;refine Zp (gP e) ?_;refine Ze (Xc rfl e rfl)<|Zm rfl<|Zp (gP rfl) ?_;refine Zp (gP rfl) ?_;refine Zp (gP rfl) ?_;refine Ze (Xc rfl rfl rfl)<|Za rfl ?_;refine Zn fun a g=>?_;exact ⟨g.sub ⟨X2 rfl (by first|rfl|(simp only [c,e,bs];done)|simp [c,e]),trivial⟩,rfl⟩
 rintro a _ ⟨g,rfl⟩;refine aE _ _ ?_
 refine Q6 (X4 g (Xx g rfl rfl) ?_)
 exact ⟨by rw [Xgj aH aF aG],hW⟩
structure Sd where (A:Option Addr) (c:Nat) (l:List Dy)
def encSd(s:Sd) : List Value:=[.slice s.A s.l.length s.c]
theorem X1q:∀ x,(encSd x).length=1:=fun _=>rfl
theorem X3h:∀ x,(encSd x).all one=true:=fun _=>rfl
def DeepD(w:World)(B:Nat)(l:List Sd) : Prop:=∀ s ∈ l,Rd w B 53 encD s.A s.l
section
variable {w w' : World} {B : Nat} {l : List Sd}
theorem DeepD.below(h:DeepD w B l)(hb:Below w.heap.size w w') : DeepD w' B l:=fun s hs=>(h s hs).below hb
theorem DeepD.top(h:DeepD w B l) : DeepD w w.heap.size l:=fun s hs=>(h s hs).top
theorem DeepD.onlyT{b:Nat}{T:TypeId}{lc:List Value}(h:DeepD w B l)(ho:Only b w w')(hb:Blk w b T lc)(hT:Nat.beq (53:TypeId) T=false) : DeepD w' B l:=fun s hs=>(h s hs).onlyT ho hb hT
theorem DeepD.appT{B0:Nat}{E':TypeId}{sz:Nat}{α:Type}{enc:α→List Value}{A:Option Addr}{c:Nat}{m:List α}(h:DeepD w B l)(ho:Own w B0 E' sz enc A c m)(hg:w.grownBy w' (Value.slice A m.length c).ownBlock)(hT:Nat.beq E' (53:TypeId)=false) : DeepD w' B l:=fun s hs=>(h s hs).appT ho hg hT
theorem DeepD.nil(w:World)(B:Nat) : DeepD w B []:=fun s hs=>by cases hs
theorem DeepD.snoc{s:Sd}(h:DeepD w B l)(hr:Rd w B 53 encD s.A s.l) : DeepD w B (l++[s]):=fun t ht=>by
 rcases Qu.1 ht with h1|h1
 ·exact h t h1
 ·rw [Qm] at h1;subst h1;exact hr
end
theorem Apart.nl(A:Option Addr) : Apart none A:=fun _ _ h=>by cases h
theorem Apart.nr(A:Option Addr) : Apart A none:=fun _ _ _ h=>by cases h
theorem Xux{α:Type}{f:α→Bool}{l:List α}{k:Nat}{u:α}(h:l[k]? = some u) : (l.take (k+1)).any f=((l.take k).any f||f u):=by
 rw [Qt,h,List.any_append];simp
def letC(i:Nat) : UInt8:=if i=0 then 72 else 83
theorem Xi4{α:Type}{x y u:α}{i:Nat}(h:([x,y] : List α)[i]? = some u) : (i=0∧u=x)∨(i=1∧u=y):=by
 rcases i with _|_|i
 ·injection h with h;exact .inl ⟨rfl,h.symm⟩
 ·injection h with h;exact .inr ⟨rfl,h.symm⟩
 ·cases h
theorem Xvw{w:World}{B:Nat}{x y u:Sd}{i:Nat}(h:([x,y] : List Sd)[i]? = some u)(hx:Rd w B 53 encD x.A x.l)(hy:Rd w B 53 encD y.A y.l) : Rd w B 53 encD u.A u.l:=by
 rcases Xi4 h with ⟨_,rfl⟩|⟨_,rfl⟩<;>assumption
theorem Xwk{x y u:Sd}{i:Nat}(h:([x,y] : List Sd)[i]? = some u)(hx:x.l=clB 1)(hy:y.l=clB 2) : u.l=clB (letR i):=by
 rcases Xi4 h with ⟨rfl,rfl⟩|⟨rfl,rfl⟩<;>assumption
theorem Xnz{i:Nat}(hi:i<2) : (([72,83] : List UInt8).drop i).take (i+1-i)=[letC i]:=by
 have h:i=0∨i=1:=by omega
 rcases h with rfl|rfl<;>rfl
theorem Xq9:((List.range 24).all fun n=>(List.range 2).all fun i=>(List.range 3).all fun a=>(List.range 3).all fun b=>decide (rbN (letR i) a 0*rbN n 0 b+rbN (letR i) a 1*rbN n 1 b+rbN (letR i) a 2*rbN n 2 b=rbN (nx n (letC i)) a b))=true:=by kernel_rfl
theorem Xof{n i:Nat}(hn:n<24)(hi:i<2) : mulBI (clB (letR i)) (clB n)=some (clB (nx n (letC i))):=by
 have hk:letR i<24:=by unfold letR;split<;>decide
 have h1:=Xq9
 simp only [W1,W2,Qr] at h1
 have hv:=X5i hk;have ht:=X5i hn
 have hz:∀ a b:Int,zI a*zI b=zI (a*b):=fun a b=>by apply X0l<;>simp [X2e,X2u,X34,X31,zI]
 have hz2:∀ a b:Int,zI a+zI b=zI (a+b):=fun a b=>rfl
 have ho:∀ a b,a<3→b<3→∃ x,dotI (bm3 (clB (letR i))) (bm3 (clB n)) a b 3=some x:=fun a b ha hb=>X8t hv ht (by decide) (R:=16) (by decide) ha hb fun m hm=>by
  have t1:Tri (rbN (letR i) a m):=(Xhb hk).1.tri _
  have t2:Tri (rbN n m b):=(Xhb hn).1.tri _
  have t3:=X8d t1 t2
  show qN (zI _*zI _)≤16
  rw [hz]
  unfold Tri at t3
  have h5:rbN (letR i) a m*rbN n m b = -1∨rbN (letR i) a m*rbN n m b=0∨rbN (letR i) a m*rbN n m b=1:=by omega
  rcases h5 with e|e|e<;>rw [e]<;>decide
 obtain ⟨r,hr⟩ : ∃ r,mulBI (clB (letR i)) (clB n)=some r:=X6i 9 fun m hm=>ho (m/3) (m % 3) (by omega) (by omega)
 rw [hr,Xgq (Xd8 hr hv ht) (X5i ((Xmi hn).lt (letC i))) fun a b ha hb=>?_]
 show s2^0*(zI _*zI _+zI _*zI _+zI _*zI _)=s2^(0+0)*zI _
 rw [hz,hz,hz,hz2,hz2,h1 n hn i hi a ha b hb]
def ctT:List Nat:=[1,2,3,3,4,5,6,7,8,8,9,10,11,11,12,13,14,14,15,15,16,16,16,16,17,17,18,18,18,19,20,20,21,22,23,23,24,24,24,24,24,24,24,24,24,24,24,24,24]
def ctI(n i:Nat) : Nat:=ctT.getD (2*n+i) 0
theorem Xr8:((List.range 24).all fun n=>decide (n<ctI n 0)&&(List.range 2).all fun i=>decide (ctI n i≤24)&&decide (n<ctI n i)&&decide (nx n (letC i)≤ctI n i)&&(if nx n (letC i)=ctI n i then decide (ctI n (i+1)=ctI n i+1)&&decide (cw (ctI n i)=cw n++[letC i]) else decide (ctI n (i+1)=ctI n i)))=true:=by kernel_rfl
structure CtOk (n i:Nat) : Prop where
 le:ctI n i≤24
 lt:n<ctI n i
 nx:nx n (letC i)≤ctI n i
 new:Proofs.YtckoekhjglafjaaGreatDoor.nx n (letC i)=ctI n i→ctI n (i+1)=ctI n i+1∧cw (ctI n i)=cw n++[letC i]
 old:Proofs.YtckoekhjglafjaaGreatDoor.nx n (letC i)≠ctI n i→ctI n (i+1)=ctI n i
theorem Xys{n i:Nat}(hn:n<24)(hi:i<2) : CtOk n i:=by
 have h:=Xr8
 simp only [W1,W2,Qd,Qr] at h
 obtain ⟨_,h2⟩:=h n hn;obtain ⟨⟨⟨a,b⟩,c⟩,d⟩:=h2 i hi
 refine ⟨a,b,c,fun e=>?_,fun e=>?_⟩
 ·rw [Q4 e] at d;simpa only [Qd,Qr] using d
 ·rw [Q3 e] at d;simpa only [Qr] using d
theorem Xoe{n:Nat}(hn:n<24) : n<ctI n 0:=by
 have h:=Xr8
 simp only [W1,W2,Qd,Qr] at h
 exact (h n hn).1
def wsN(C:Nat) : List ByteArray:=(List.range C).map fun k=>tx (cw k)
def lsN(C:Nat) : List (List Dy):=(List.range C).map clB
theorem X4f(C:Nat) : (wsN C).length=C:=by simp [wsN]
theorem Xgb(C:Nat) : (lsN C).length=C:=by simp [lsN]
theorem Xdl{C k:Nat}(h:k<C) : (wsN C)[k]? = some (tx (cw k)):=by simp [wsN,h]
theorem Xee(C:Nat) : wsN (C+1)=wsN C++[tx (cw C)]:=by simp [wsN,List.range_succ]
theorem Xe3(C:Nat) : lsN (C+1)=lsN C++[clB C]:=by simp [lsN,List.range_succ]
theorem Xi1{L:List Sd}{C k:Nat}{u:Sd}(h:L.map Sd.l=lsN C)(hu:L[k]? = some u) : u.l=clB k:=by
 have h1:(L.map Sd.l)[k]? = some u.l:=by rw [List.getElem?_map,hu];rfl
 rw [h] at h1
 have hk:k<C:=by have:=(Qg.1 h1).1;rwa [Xgb] at this
 simp [lsN,hk] at h1
 exact h1.symm
theorem X7g{L:List Sd}{C:Nat}(h:L.map Sd.l=lsN C) : L.length=C:=by
 have:=congrArg List.length h
 rwa [Qo,Xgb] at this
theorem Xvf:((List.range 24).all fun n=>(List.range 24).all fun m=>(n==m)||!decide (clB n=clB m))=true:=by kernel_rfl
theorem Xob{n m:Nat}(hn:n<24)(hm:m<24)(h:clB n=clB m) : n=m:=by
 have h1:=Xvf
 simp only [W1,W2,Bool.or_eq_true,beq_iff_eq,Bool.not_eq_true',decide_eq_false_iff_not] at h1
 exact (h1 n hn m hm).resolve_right fun h2=>h2 h
theorem Xfy{L:List Sd}{C m:Nat}(h:L.map Sd.l=lsN C)(hC:C≤24)(hm:m<24) : L.any (fun s=>decide (s.l=clB m))=decide (m<C):=by
 have e:L.any (fun s=>decide (s.l=clB m))=(L.map Sd.l).any fun l=>decide (l=clB m):=by rw [List.any_map];rfl
 rw [e,h]
 by_cases hc:m<C
 ·rw [decide_eq_true hc,List.any_eq_true]
  exact ⟨clB m,W6.2 ⟨m,W2.2 hc,rfl⟩,decide_eq_true rfl⟩
 ·rw [decide_eq_false hc,W7]
  intro l hl;obtain ⟨k,hk,rfl⟩:=W6.1 hl
  rw [W2] at hk
  intro h9
  have:=Xob (show k<24 by omega) hm (Q2 h9)
  omega
theorem Xu1{L:List Sd}{C:Nat}(h:L.map Sd.l=lsN C)(hC:C≤24){u:Sd}(hu:u ∈ L) : u.l.length≤2305843009213693951:=by
 have h1:u.l ∈ L.map Sd.l:=W6.2 ⟨u,hu,rfl⟩
 rw [h] at h1
 obtain ⟨k,hk,e⟩:=W6.1 h1
 rw [W2] at hk
 rw [← e,(X5i (show k<24 by omega)).len];decide
def uD(i:Nat) : Dy:=⟨⟨if ((i:Int).tmod 4==0)=true then 1 else 0,0,0,0⟩,0⟩
theorem Xp4:(List.range 9).map uD=clB 0:=by kernel_rfl
theorem Xo5(n:Nat) : (List.range n).map uD++[uD n]=(List.range (n+1)).map uD:=by simp [List.range_succ]
theorem X6e{k:Nat}(hk:k<24) : (clB k).length=9:=(X5i hk).len
theorem Xpu(i:Nat) : letR i<24:=by unfold letR;split<;>decide
def cdW(t:Nat) : List UInt8:=if t=0 then [] else cw ((t-1)/2)++[letC ((t-1) % 2)]
def cdB(t:Nat) : Nat:=if t=0 then 0 else nx ((t-1)/2) (letC ((t-1) % 2))
def ctC(t:Nat) : Nat:=if t=0 then 0 else ctT.getD (t-1) 0
theorem Xw9{t:Nat}(h:t≠0) : ctC t=ctI ((t-1)/2) ((t-1) % 2):=by
 unfold ctC ctI;rw [Q3 h];congr 1;omega
structure CdOk (t:Nat) : Prop where
 bl:blochI (opM (wdG (cdW t)))=some (clB (cdB t))
 len:(cdW t).length≤9
 lt:cdB t<24
 le:ctC t≤24
 nx:cdB t≤ctC t
 new:cdB t=ctC t→ctC (t+1)=ctC t+1∧cw (ctC t)=cdW t
 old:cdB t≠ctC t→ctC (t+1)=ctC t
theorem Xor{t:Nat}(ht:t<48) : CdOk t:=by
 by_cases h0:t=0
 ·subst h0
  have e1:cdW 0=cw 0:=rfl
  have e2:cdB 0=0:=rfl
  have e3:ctC 0=0:=rfl
  have e4:ctC (0+1)=1:=rfl
  refine ⟨?_,?_,?_,?_,?_,fun _=>?_,fun h=>?_⟩
  ·rw [e1,e2];exact Xf9 (by decide)
  ·rw [e1];decide
  ·rw [e2];decide
  ·rw [e3];decide
  ·rw [e2,e3];exact Qb _
  ·rw [e3,e4,e1];exact ⟨rfl,rfl⟩
  ·rw [e2,e3] at h;exact absurd rfl h
 ·have hk:(t-1)/2<24:=by omega
  have hi:(t-1) % 2<2:=by omega
  have hc:=Xys hk hi
  have e1:cdW t=cw ((t-1)/2)++[letC ((t-1) % 2)]:=Q3 h0
  have e2:cdB t=nx ((t-1)/2) (letC ((t-1) % 2)):=Q3 h0
  have e3:=Xw9 h0
  have e4:ctC (t+1)=ctI ((t-1)/2) ((t-1) % 2+1):=by
   unfold ctC ctI;rw [Q3 (by omega)];congr 1;omega
  refine ⟨by rw [e1,e2];exact Xfz hk _,by rw [e1];have:=(X6t hk).2;simp;omega,by rw [e2];exact (Xmi hk).lt _,by rw [e3];exact hc.le,by rw [e2,e3];exact hc.nx,fun h=>?_,fun h=>?_⟩
  ·rw [e2,e3] at h
   rw [e1,e3,e4];exact hc.new h
  ·rw [e2,e3] at h
   rw [e3,e4];exact hc.old h
theorem Xz8:((List.range 49).all fun t=>decide (24≤ctC t)||decide (t<1+2*ctC t))=true:=by kernel_rfl
theorem Xwu{t:Nat}(ht:t<49)(h:ctC t<24) : t<1+2*ctC t:=by
 have h1:=Xz8
 simp only [W1,W2,Bool.or_eq_true,Qr] at h1
 have:=h1 t ht
 omega
def cdL(a b:Nat) : List ByteArray:=(List.range (b-a)).map fun j=>tx (cdW (a+j))
theorem Xc7(a b:Nat) : (cdL a b).length=b-a:=by simp [cdL]
theorem Xp8{a b q:Nat}(h:q<b-a) : (cdL a b)[q]? = some (tx (cdW (a+q))):=by simp [cdL,h]
theorem Xod{a C t:Nat}(ha:a≤1+2*C)(h:cw C=cdW t) : cdL a (1+2*C)++[tx (cdW t++[72]),tx (cdW t++[83])]=cdL a (1+2*(C+1)):=by
 unfold cdL
 rw [show 1+2*(C+1)-a=(1+2*C-a)+1+1 by omega,List.range_succ,List.range_succ,List.map_append,List.map_append,Qx]
 congr 1
 have e1:cdW (a+(1+2*C-a))=cdW t++[72]:=by
  rw [show a+(1+2*C-a)=1+2*C by omega,cdW,Q3 (by omega),show (1+2*C-1)/2=C by omega,show (1+2*C-1) % 2=0 by omega,h];rfl
 have e2:cdW (a+(1+2*C-a+1))=cdW t++[83]:=by
  rw [show a+(1+2*C-a+1)=2+2*C by omega,cdW,Q3 (by omega),show (2+2*C-1)/2=C by omega,show (2+2*C-1) % 2=1 by omega,h];rfl
 simp [e1,e2]
theorem Xjo{t:Nat}(ht:t<48) : ctC t≤ctC (t+1):=by
 have h:=Xor ht
 by_cases e:cdB t=ctC t
 ·have:=(h.new e).1;omega
 ·have:=h.old e;omega
end Go.Proofs.YtckoekhjglafjaaGreatDoor
