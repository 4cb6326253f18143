/-
  For every drawn circuit, the path sum has the operator of the circuit, and replacing a variable keeps a drawn path sum valid and gives what the reference gives; conditions: none.
-/
import Derived.Test.YtiejkplemjkjoaaGreatI3
import Derived.Test.YtiejkplemjkjoaaGreatI2
set_option linter.unusedVariables false
set_option linter.unusedSimpArgs false
set_option maxHeartbeats 1000000
set_option maxRecDepth 4000
set_option linter.unusedSectionVars false
namespace Go.Proofs.YtiejkplemjkjoaaGreat
open Go.RowKit
theorem Xtj(w0:World)(bV:Nat)(f:Int→Int)(b:MapF w0 bV f)(u:Af)(y:Af)(bH:PO f)(hu:AO u)(hv:AO y) : Ret Tryz.prog 53 [.map (some bV),.agg #[vi u.m,vi u.t],.agg #[vi y.m,vi y.t]] w0 (fun v w=>v=.tuple #[]∧Kept bV w0.heap.size w0 w∧MapF w bV (foldA (sumI u y) f)):=by
 have cA:=b.lt;have cK:=X43 u.m;have cC:=X43 y.m;have cD:=Xg7 u;have cE:=Xg7 y;refine enter Tryz.func53 rfl 49 rfl rfl ?_;intro a c
 have d:Kept bV w0.heap.size w0 w0:=Kept.refl _ _ _
 refine Zs c fun _ bJ=>?_;refine Zf (X14 (zs:=[vi u.m,vi u.t]) rfl rfl) ?_;rintro _ w1 ⟨b2,rfl,bK,e,D⟩;have cF:=Nat.le_trans d.size bK;have b:=b.below e;have d:=ktr d e;refine Zf (X14 (zs:=[vi y.m,vi y.t]) rfl rfl) ?_;rintro _ w2 ⟨b3,rfl,bL,e,q⟩
 have bG:b2≠b3:=by have:=D.lt;omega
 have cG:=Nat.le_trans d.size bL;have b:=b.below e;have D:=D.below e;have d:=ktr d e;refine ZX bJ fun a c _ bN=>?_;refine Xq none (fun _=>false) mixed ?_;intro w3 e;have b:=b.below e;have D:=D.below e;have q:=q.below e;have d:=ktr d e;refine Yb c<|Yo 0 rfl (fun _=>Vd rfl X0a 0)<|Ye 1 rfl (X0 rfl X2 (D.at 0))<|Yo 3 rfl (fun _=>Vd rfl X0a 0)<|Ye 4 rfl (X0 rfl X2 (q.at 0))<|Y1 2 ?_;refine Yk rfl trivial (Vc (Xe4 _ u.m (Mk.b62 hu.1)) Xat) (fun _ _ ⟨A5,c5,_,h,e⟩=>e) ?_;rintro _ w4 ⟨A5,c5,rfl,h,e⟩;have h:=h.lower d.size;have b:=b.below e;have D:=D.below e;have q:=q.below e;have d:=ktr d e;refine Y1 5<|Yk rfl trivial (Vc (Xe4 _ y.m (Mk.b62 hv.1)) Xat) (fun _ _ ⟨A6,c6,_,n,e⟩=>e) ?_;rintro _ w5 ⟨A6,c6,rfl,n,e⟩;have E:=h.apart n (Nat.le_refl _);have n:=n.lower d.size;have b:=b.below e;have D:=D.below e;have q:=q.below e;have h:=h.below e;have d:=ktr d e;refine Yo 6 rfl (fun _=>X19 rfl)<|Yo 7 rfl (fun _=>X19 rfl) ?_;refine Yd fun a c=>?_;refine bN _ _<|wp_seq_k fun _ bO=>?_;refine Zs c fun _ bP=>?_;refine Ze (Vd rfl X0k 1)<|Ze (X0 rfl X2 (D.at 1))<|Ze (X0l rfl rfl)<|Zt bP fun a c=>?_;refine X0j (fun a w=>∃ Q c9,Fr a 49 [(0,.map (some bV)),(5,.pointer (some ⟨b3,0,none⟩)),(6,.slice Q (lowT u).length c9),(7,.slice A6 (lows y.m).length c6)]∧MapF w bV f∧Blk w b3 34 [vi y.m,vi y.t]∧Own w w0.heap.size 3 1 encI A6 c6 (lows y.m)∧Own w w0.heap.size 3 1 encI Q c9 (lowT u)∧Apart A6 Q∧Kept bV w0.heap.size w0 w) ?_ ?_
 ·refine Xg c rfl (fun I=>?_) (fun I=>?_)
  ·have aJ:=I
   have aK:u.t=1:=by simpa using I
   refine Zr c<|Zm rfl<|Zf (Xb (k:=1) (vs:=[vi 0]) (zs:=[vi 0]) rfl X0f X2m rfl rfl) ?_;rintro _ w6 ⟨cL,rfl,U,e,W⟩;have bR:=Nat.le_trans d.size U;have aA:=h.away U;have aU:=n.away U;have b:=b.below e;have q:=q.below e;have h:=h.below e;have n:=n.below e;have d:=ktr d e;refine Zf (X1e (enc:=encI) (l:=((lows u.m))) (l2:=([0])) (B0:=w0.heap.size) rfl rfl X0f X2m X0h X8w h (Rd.of_blk W rfl _ W.lt) (by simp only [maxLen];simp;omega) (by simp;omega) d.size) ?_;rintro _ w7 ⟨bS,bU,rfl,aH,N,M⟩
   have A:Own _ w0.heap.size 3 1 encI _ _ ((lows u.m)):=h
   have aS:=M _ W.lt aA;have aB:=Apart.app n E.symm M;clear M;have b:=b.app A N;have q:=q.appT A N rfl;have n:=n.appP N E.symm;have d:=Kept.app d A N (Nat.le_refl _) d.size;clear A N;refine Za rfl ?_;refine Zn fun a c=>?_
   rw [show (lows u.m++[0])=lowT u from by unfold lowT;rw [if_pos aK]] at c aH
   refine Xd ?_;exact ⟨bS,bU,c.sb,b,q,n,aH,aB,d⟩
  have aJ:=I
  have aK:¬ u.t=1:=by simpa using I
  refine wp_skip ?_
  rw [show lows u.m=lowT u from by unfold lowT;rw [if_neg aK,List.append_nil]] at c h
  refine Xd ?_;exact ⟨A5,c5,c.sb,b,q,n,h,E.symm,d⟩
 rintro a w8 ⟨Q,c9,c,b,q,n,o,G,d⟩;refine bO _ _<|wp_seq_k fun _ aW=>?_;refine Zs c fun _ aX=>?_;refine Ze (Vd rfl X0k 1)<|Ze (X0 rfl X2 (q.at 1))<|Ze (X0l rfl rfl)<|Zt aX fun a c=>?_;refine X0j (fun a w=>∃ H J,Fr a 49 [(0,.map (some bV)),(6,.slice Q (lowT u).length c9),(7,.slice H (lowT y).length J)]∧MapF w bV f∧Own w w0.heap.size 3 1 encI Q c9 (lowT u)∧Own w w0.heap.size 3 1 encI H J (lowT y)∧Apart Q H∧Kept bV w0.heap.size w0 w) ?_ ?_
 ·refine Xg c rfl (fun L=>?_) (fun L=>?_)
  ·have aL:=L
   have aM:y.t=1:=by simpa using L
   refine Zr c<|Zm rfl<|Zf (Xb (k:=1) (vs:=[vi 0]) (zs:=[vi 0]) rfl X0f X2m rfl rfl) ?_;rintro _ w9 ⟨cM,rfl,aC,e,aD⟩;have bW:=Nat.le_trans d.size aC;have aE:=n.away aC;have aY:=o.away aC;have b:=b.below e;have n:=n.below e;have o:=o.below e;have d:=ktr d e;refine Zf (X1e (enc:=encI) (l:=((lows y.m))) (l2:=([0])) (B0:=w0.heap.size) rfl rfl X0f X2m X0h X8w n (Rd.of_blk aD rfl _ aD.lt) (by simp only [maxLen];simp;omega) (by simp;omega) d.size) ?_;rintro _ cN ⟨bX,bY,rfl,aI,N,M⟩
   have A:Own _ w0.heap.size 3 1 encI _ _ ((lows y.m)):=n
   have aT:=M _ aD.lt aE;have aF:=Apart.app o G.symm M;clear M;have b:=b.app A N;have o:=o.appP N G.symm;have d:=Kept.app d A N (Nat.le_refl _) d.size;clear A N;refine Za rfl ?_;refine Zn fun a c=>?_
   rw [show (lows y.m++[0])=lowT y from by unfold lowT;rw [if_pos aM]] at c aI
   refine Xd ?_;exact ⟨bX,bY,c.sb,b,o,aI,aF,d⟩
  have aL:=L
  have aM:¬ y.t=1:=by simpa using L
  refine wp_skip ?_
  rw [show lows y.m=lowT y from by unfold lowT;rw [if_neg aM,List.append_nil]] at c n
  refine Xd ?_;exact ⟨A6,c6,c.sb,b,o,n,G.symm,d⟩
 rintro a cO ⟨H,J,c,b,o,p,aZ,d⟩;refine aW _ _<|Zs c fun _ b0=>?_;refine Zm rfl<|Ze (X1f rfl X0f)<|Zm rfl<|Zt b0 fun a c=>?_;refine wp_block<|X06 (σ:=Nat×(Int→Int)) (fun (s:Nat×(Int→Int)) (a:Act) (w:World)=>match s with|(i,g)=>Fr a 49 [(0,.map (some bV)),(7,.slice H (lowT y).length J),(30,.slice Q (lowT u).length c9),(31,vi ((lowT u).length:Int)),(32,vi (i:Int))]∧(i≤(lowT u).length)∧(g=foldA (((lowT u).take i).flatMap fun x=>(lowT y).map fun z=>(oI x z,4)) f)∧(PO g)∧MapF w bV g∧Own w w0.heap.size 3 1 encI Q c9 (lowT u)∧Own w w0.heap.size 3 1 encI H J (lowT y)∧Kept bV w0.heap.size w0 w) (fun (s:Nat×(Int→Int))=>match s with|(i,g)=>(lowT u).length-i) (0,f) ?_ ?_
 ·exact ⟨c.sb,(Nat.zero_le _),rfl,bH,b,o,p,d⟩
 rintro ⟨i,g⟩ a cP ⟨c,hi,N,hp,b,o,p,d⟩;refine Zs c fun _ b1=>?_;refine Ze (X1n rfl rfl)<|ZX b1 fun a c _ b4=>?_
 refine Xg c rfl (fun B=>?_) (fun B=>?_)
 ·have aN:=B;have B:=of_decide_eq_true B
  obtain ⟨cQ,cH⟩:=Xm (l:=(lowT u)) (k:=i) (by omega)
  refine wp_skip<|b4 _ _<|wp_seq_k fun _ b5=>?_;refine wp_block<|Zs c fun _ b6=>?_;refine Zi (k:=i) (u:=((lowT u).getD i 0)) (enc:=encI) (l:=(lowT u)) trivial rfl rfl X0f X12 X0h o.rd (Xa7 (by omega)) rfl ?_;intro cR aO;refine Ze (X0 rfl X2 aO)<|Za rfl<|Zx b6 fun a c _ b7=>?_;refine Zm rfl<|Ze (X1f rfl X0f)<|Zm rfl<|Zt b7 fun a c=>?_;refine wp_block<|X06 (σ:=Nat×(Int→Int)) (fun (s:Nat×(Int→Int)) (a:Act) (w:World)=>match s with|(j,g2)=>Fr a 49 [(0,.map (some bV)),(7,.slice H (lowT y).length J),(9,vi ((lowT u).getD i 0)),(30,.slice Q (lowT u).length c9),(31,vi ((lowT u).length:Int)),(32,vi (i:Int)),(36,.slice H (lowT y).length J),(37,vi ((lowT y).length:Int)),(38,vi (j:Int))]∧(j≤(lowT y).length)∧(g2=foldA (((lowT y).take j).map fun z=>(oI ((lowT u).getD i 0) z,4)) g)∧(PO g2)∧MapF w bV g2∧Own w w0.heap.size 3 1 encI Q c9 (lowT u)∧Own w w0.heap.size 3 1 encI H J (lowT y)∧Kept bV w0.heap.size w0 w) (fun (s:Nat×(Int→Int))=>match s with|(j,g2)=>(lowT y).length-j) (0,g) ?_ ?_
  ·exact ⟨c.sb,(Nat.zero_le _),rfl,hp,b,o,p,d⟩
  rintro ⟨j,g2⟩ a cS ⟨c,hj,b8,aP,b,o,p,d⟩;refine Zs c fun _ b9=>?_;refine Ze (X1n rfl rfl)<|ZX b9 fun a c _ bC=>?_
  refine Xg c rfl (fun C=>?_) (fun C=>?_)
  ·have aQ:=C;have C:=of_decide_eq_true C
   obtain ⟨cU,cJ⟩:=Xm (l:=(lowT y)) (k:=j) (by omega)
   refine wp_skip<|bC _ _<|wp_seq_k fun _ bD=>?_;refine wp_block<|Zs c fun _ bE=>?_;refine Zi (k:=j) (u:=((lowT y).getD j 0)) (enc:=encI) (l:=(lowT y)) trivial rfl rfl X0f X12 X0h p.rd (Xa7 (by omega)) rfl ?_;intro cW aR;refine Ze (X0 rfl X2 aR)<|Za rfl<|Zt bE fun a c=>?_;refine Zr c<|Zm rfl<|Zm rfl<|Zm rfl<|Ze (Vx (Vor rfl rfl) (rfl:_=(oI ((lowT u).getD i 0) ((lowT y).getD j 0))))<|Zf (Vc (X6t _ bV g2 b (oI ((lowT u).getD i 0) ((lowT y).getD j 0)) 4 aP (by omega)) X3g) ?_;rintro _ cX ⟨rfl,hK,bF⟩;obtain ⟨wm,hO,hm,e⟩:=hK.mid;clear hm;have aG:=b.nc;have o:=o.onlyN hO aG;have p:=p.onlyN hO aG;have d:=d.self hO;have o:=o.below e;have p:=p.below e;have d:=ktr d e
   clear aG e hO hK;have b:=bF;clear bF;refine Zn fun a c=>?_;refine Xa<|bD _ _<|Zr c<|Ze (Xu rfl rfl (by omega) (by omega))<|Zm rfl ?_;refine Zn fun a c=>?_;refine Xd ?_;exact ⟨(j+1,padd g2 (oI ((lowT u).getD i 0) ((lowT y).getD j 0)) 4),⟨c.sb,(by omega),(by rw [b8];exact (X9k _ (Xa7 (by omega)) g).symm),(aP.padd _ _),b,o,p,d⟩,(by first|omega|(dsimp only;omega))⟩
  have aQ:=C;have C:=of_decide_eq_false C
  have bZ:j=(lowT y).length:=by have:=C;omega
  refine wp_exit<|Xi<|Xi<|X03 ?_;refine Xa<|b5 _ _<|Zr c<|Ze (Xu rfl rfl (by omega) (by omega))<|Zm rfl ?_;refine Zn fun a c=>?_;refine Xd ?_;exact ⟨(i+1,g2),⟨c.sb,(by omega),(by rw [b8,bZ,List.take_length,N];exact (Xdd _ (Xa7 (by omega)) f).symm),aP,b,o,p,d⟩,(by first|omega|(dsimp only;omega))⟩
 have aN:=B;have B:=of_decide_eq_false B
 have c4:i=(lowT u).length:=by have:=B;omega
 refine wp_exit<|Xi<|Xi<|X03 ?_;refine Xad c (Xag rfl) ?_;exact ⟨rfl,d,b.cong fun x=>by rw [N,c4,List.take_length];rfl⟩
theorem Xzb(w0:World)(bV bM B0:Nat)(AV:Option Addr)(cV n:Nat)(ps:Pst)(hS:Sumr w0 bV bM B0 AV cV n ps)(B:PsOk n ps)(q:Int)(hq:0≤q∧q.toNat<n) : Ret Tryz.prog 50 [.pointer (some ⟨bV,0,none⟩),vi q] w0 (fun v w=>v=.bool (psH n ps q).isSome∧TurnS (S3 bV bM AV) w0 w∧Sumr w bV bM B0 AV cV n ((psH n ps q).getD ps)):=by
 obtain ⟨b,c,d⟩:=hS;have aT:=b.lt;have aD:=B.len;have aU:=B.vs;have aE:=X8c aD hq;have aF:=AO.at B.all q;refine enter Tryz.func50 rfl 61 rfl rfl ?_;intro a o
 have p:TurnS (S3 bV bM AV) w0 w0:=TurnS.refl _ _
 refine Zs o fun _ aN=>?_;refine Za rfl<|ZX aN fun a o _ aO=>?_;refine Xq none (fun _=>false) mixed ?_;intro w1 i;have b:=b.below i;have c:=c.below i;have d:=d.below i;have p:=tsbel p i;refine Yb o<|Yo 0 rfl (fun _=>X4 rfl)<|Yo 1 rfl (fun _=>X0v rfl)<|Yo 2 rfl (fun _=>Vd rfl X25 0)<|Yo 3 rfl (fun _=>Vd rfl X09 0)<|Ye 4 rfl (X0 rfl X2 (b.at 0)) ?_;refine Yo 5 rfl (fun _=>X4 rfl)<|Yo 6 rfl (fun _=>X0v rfl)<|Yo 7 rfl (fun _=>Vd rfl X25 0)<|Yo 8 rfl (fun _=>Vd rfl X0n 1)<|Ye 9 rfl (X0 rfl X2 (b.at 1)) ?_;refine Yo 10 rfl (fun _=>X3p (k:=((n+ps.v:Nat) : Int)) rfl rfl (by omega) (by omega) (by omega))<|Yo 11 rfl (fun _=>X19 rfl) ?_;refine Yd fun a o=>?_;refine aO _ _<|wp_seq_k fun _ aP=>?_;refine Zs o fun _ aQ=>?_;refine Zm rfl<|Ze (Xh7 rfl rfl)<|Zt aQ fun a o=>?_
 refine Xg o rfl (fun y=>?_) (fun y=>?_)
 ·have aG:=y;have y:=of_decide_eq_true y
  have aA:24≤n+ps.v:=by have:=y;omega
  refine Zs o fun _ aR=>?_;refine Za rfl<|Zt aR fun a o=>?_;refine wp_ret<|X7<|X3 o (Xz o rfl rfl) ?_
  rw [Xfh aA];exact ⟨rfl,p,b,c,d⟩
 have aG:=y;have y:=of_decide_eq_false y
 have aA:¬ 24≤n+ps.v:=by have:=y;omega
 refine wp_skip<|aP _ _<|Zs o fun _ aH=>?_;refine Zm rfl<|Ze (Xg8 (m:=(n+ps.v)) (D:=(2^(n+ps.v) : Nat)) rfl rfl rfl ⟨rfl,by omega⟩)<|Ze (Xk (ps:=[(0,vi ((2^(n+ps.v) : Nat) : Int))]) (cs:=[vi ((2^(n+ps.v) : Nat) : Int),vi 0]) rfl (fun _=>by first|rfl|kernel_rfl))<|Zf (X6 (zs:=[vi 0,vi 0]) X18 rfl) ?_;rintro _ w2 ⟨aW,rfl,G,i,e⟩;have aB:=Nat.le_trans p.size G;have C:=d.away G;have b:=b.below i;have c:=c.below i;have d:=d.below i;have p:=tsbel p i;refine Zo (Vw [vi ((2^(n+ps.v) : Nat) : Int),vi 0] Xj e) ?_;rintro _ w3 ⟨A,hb⟩;have g:=e;have b:=b.only A (Blk.ne b g rfl);have c:=c.only A (c.ne g);have d:=d.onlyA A C;have p:=tsonly p A (.inr aB);have e:=hb;refine ZX aH fun a o _ aI=>?_;refine Xq (some bM) (fun _=>false) mixed ?_;intro w4 i;have b:=b.below i;have c:=c.below i;have e:=e.below i;have d:=d.below i;have p:=tsbel p i;refine Yb o<|Yo 0 rfl (fun _=>X4 rfl)<|Yo 1 rfl (fun _=>X0v rfl)<|Yo 2 rfl (fun _=>Vd rfl X38 6) ?_;refine Yw 3 rfl trivial (fun w1 h1=>X0 rfl X51 ((b.onlyN h1 c.nc).at 6)) ?_;refine Yo 4 rfl (fun _=>X4 rfl)<|Yo 5 rfl (fun _=>X0v rfl)<|Yo 6 rfl (fun _=>Vd rfl X26 7) ?_;refine Yw 7 rfl trivial (fun w1 h1=>X0 rfl X08 ((b.onlyN h1 c.nc).at 7)) ?_;refine Yo 8 rfl (fun _=>X4 rfl)<|Yo 9 rfl (fun _=>X0w (k:=q.toNat) rfl rfl Xr Xj d (by omega) (by omega) (by omega)) ?_;refine Yw 10 rfl trivial (fun w1 h1=>X0b (l:=[vi ((aAt ps.out q).m),vi ((aAt ps.out q).t)]) rfl Xs (X2j (d.onlyN h1 c.nc) Xv aE 0 rfl) rfl) ?_;refine Yw 11 rfl trivial (fun w1 h1=>X0b (l:=[vi ((2^(n+ps.v) : Nat) : Int),vi 0]) rfl Xs ((e.onlyN h1 c.nc).at 0) rfl) ?_
 refine Y1 12<|Yf rfl trivial (EfW.mono (Vc (Xtj _ bM ps.f c (aAt ps.out q) (⟨((2^(n+ps.v) : Nat) : Int),0⟩ : Af) B.po aF (AO.var (by omega))) Xjh) (fun _ _ h=>⟨fun _=>by obtain ⟨rfl,hK,aC⟩:=h;exact hK.keep,h⟩)) ?_;rintro _ w5 ⟨rfl,hK,aC⟩;obtain ⟨wm,hO,hm,i⟩:=hK.mid;clear hm;have g:=c.nc;have b:=b.onlyN hO g;have e:=e.onlyN hO g;have d:=d.onlyN hO g;have p:=tsonly p hO (.inl (.inr (.inl rfl)));have b:=b.below i;have e:=e.below i;have d:=d.below i;have p:=tsbel p i
 clear g i hO hK;have c:=aC;clear aC;refine Yd fun a o=>?_;refine aI _ _<|wp_seq_k fun _ aJ=>?_;refine Xq none (fun j=>[7].contains j) mixed ?_;intro w6 i;have b:=b.below i;have c:=c.below i;have e:=e.below i;have d:=d.below i;have p:=tsbel p i;refine Yb o<|Yo 0 rfl (fun _=>X4 rfl)<|Yo 1 rfl (fun _=>X0v rfl)<|Yo 2 rfl (fun _=>Vd rfl X26 7)<|Ye 3 rfl (X0 rfl X08 (b.at 7))<|Yo 4 rfl (fun _=>X4 rfl) ?_;refine Ye 5 rfl (Vn Xs e)<|Yo 6 rfl (fun _=>X0w (k:=q.toNat) rfl rfl Xr Xj d (by omega) (by omega) (by omega))<|Y1 7 ?_;refine Yh rfl trivial rfl (X1s (enc:=encA) (l:=ps.out) (vs:=[vi ((2^(n+ps.v) : Nat) : Int),vi 0]) (x0:=(aAt ps.out q)) (u:=(⟨((2^(n+ps.v) : Nat) : Int),0⟩ : Af)) (k:=q.toNat) (j:=0) (n1:=2) rfl rfl Xj d Xv rfl rfl rfl rfl (by decide) aE rfl) ?_;rintro _ w7 ⟨H,hg⟩;have E:=d;have b:=b.appT E hg rfl;have c:=c.app E hg
 have p:=tsrow p hg (fun _ aS=>.inl (S3.row _ aS))
 clear E hg;clear d;have d:=H;clear H;refine Yd fun a o=>?_;refine aJ _ _<|Zs o fun _ aK=>?_;refine Zm rfl<|Ze (X0v rfl)<|Ze (Vd rfl X25 0)<|Ze (Vd rfl X0n 1)<|Ze (X0 rfl X2 (b.at 1)) ?_;refine Ze (X3p (k:=((ps.v+1:Nat) : Int)) rfl rfl (by omega) (by omega) (by omega))<|Ze (X0v rfl)<|Ze (Vd rfl X25 0)<|Ze (Vd rfl X0n 1)<|Zo (X2z (vs:=[vi ((ps.v+1:Nat) : Int)]) (l':=[vi (n:Int),vi ((ps.v+1:Nat) : Int),vi (ps.v:Int),vi 0,.slice none 0 0,.slice none 0 0,.map (some bM),.slice AV n cV]) rfl rfl X12 b rfl rfl rfl rfl rfl) ?_;rintro _ w8 ⟨A,hb⟩;have g:=b;have c:=c.only A (c.ne g);have d:=d.onlyT A g rfl;have p:=tsonly p A (.inl (.inl rfl));have b:=hb;refine Zx aK fun a o _ aL=>?_;refine Zm rfl<|Ze (X0v rfl)<|Ze (Vd rfl X25 0)<|Ze (Vd rfl X1k 2)<|Ze (X0 rfl X2 (b.at 2)) ?_;refine Ze (X3p (k:=((ps.v+1:Nat) : Int)) rfl rfl (by omega) (by omega) (by omega))<|Ze (X0v rfl)<|Ze (Vd rfl X25 0)<|Ze (Vd rfl X1k 2)<|Zo (X2z (vs:=[vi ((ps.v+1:Nat) : Int)]) (l':=[vi (n:Int),vi ((ps.v+1:Nat) : Int),vi ((ps.v+1:Nat) : Int),vi 0,.slice none 0 0,.slice none 0 0,.map (some bM),.slice AV n cV]) rfl rfl X12 b rfl rfl rfl rfl rfl) ?_;rintro _ w9 ⟨A,hb⟩;have g:=b;have c:=c.only A (c.ne g);have d:=d.onlyT A g rfl;have p:=tsonly p A (.inl (.inl rfl));have b:=hb;refine Zx aL fun a o _ aM=>?_;refine Za rfl<|Zt aM fun a o=>?_
 refine wp_ret (X3 o (Xz o rfl rfl) ?_)
 rw [X3j aA];exact ⟨rfl,p,b,c.cong fun x=>by rw [Xog B.po aF.2 (.inl rfl)];rfl,d⟩
theorem Xyv(w0:World)(k:Int) : Ret Tryz.prog 54 [vi k] w0 (fun v w=>v=vi (rotC k)∧w0=w):=by
 refine enter Tryz.func54 rfl 14 rfl rfl ?_;intro a b
 have hW:=bz w0
 refine Zs b fun _ aO=>?_;refine Za rfl<|ZX aO fun a b _ aP=>?_;refine Zs b fun _ aQ=>?_;refine Zm rfl<|Zt aQ fun a b=>?_;refine wp_block<|Zs b fun _ aR=>?_;refine Ze (X0l rfl rfl)<|Za rfl<|Zt aR fun a b=>?_
 refine Xg b rfl (fun aA=>?_) (fun aA=>?_)
 ·have aF:=aA;refine Zs b fun _ aS=>?_;refine Za rfl<|Zt aS fun a b=>?_;refine wp_ret<|Xw<|X7<|X3 b (Xz b rfl rfl) ?_;exact ⟨by unfold rotC;simp_all,rfl⟩
 have aF:=aA;refine Zs b fun _ aT=>?_;refine Ze (X0l rfl rfl)<|Za rfl<|Zt aT fun a b=>?_
 refine Xg b rfl (fun aB=>?_) (fun aB=>?_)
 ·have aG:=aB;refine Zs b fun _ aU=>?_;refine Za rfl<|Zt aU fun a b=>?_;refine wp_ret<|Xw<|X7<|X3 b (Xz b rfl rfl) ?_;exact ⟨by unfold rotC;simp_all,rfl⟩
 have aG:=aB;refine Zs b fun _ aH=>?_;refine Ze (X0l rfl rfl)<|Za rfl<|Zt aH fun a b=>?_
 refine Xg b rfl (fun c=>?_) (fun c=>?_)
 ·have aC:=c;refine Zs b fun _ aI=>?_;refine Za rfl<|Zt aI fun a b=>?_;refine wp_ret<|Xw<|X7<|X3 b (Xz b rfl rfl) ?_;exact ⟨by unfold rotC;simp_all,rfl⟩
 have aC:=c;refine Zs b fun _ aJ=>?_;refine Ze (X0l rfl rfl)<|Za rfl<|Zt aJ fun a b=>?_
 refine Xg b rfl (fun d=>?_) (fun d=>?_)
 ·have aD:=d;refine Zs b fun _ aK=>?_;refine Za rfl<|Zt aK fun a b=>?_;refine wp_ret<|Xw<|X7<|X3 b (Xz b rfl rfl) ?_;exact ⟨by unfold rotC;simp_all,rfl⟩
 have aD:=d;refine Zs b fun _ aL=>?_;refine Ze (X0l rfl rfl)<|Za rfl<|Zt aL fun a b=>?_
 refine Xg b rfl (fun e=>?_) (fun e=>?_)
 ·have aE:=e;refine Zs b fun _ aM=>?_;refine Za rfl<|Zt aM fun a b=>?_;refine wp_ret<|Xw<|X7<|X3 b (Xz b rfl rfl) ?_;exact ⟨by unfold rotC;simp_all,rfl⟩
 have aE:=e;refine wp_skip<|Xa<|aP _ _<|Zs b fun _ aN=>?_;refine Za rfl<|Zt aN fun a b=>?_
 refine wp_ret (X3 b (Xz b rfl rfl) ?_)
 exact ⟨by unfold rotC;simp_all,rfl⟩
theorem Y01(w0:World)(bV bM B0:Nat)(AV:Option Addr)(cV n:Nat)(ps:Pst)(hS:Sumr w0 bV bM B0 AV cV n ps)(I:PsOk n ps)(g:Gt)(B:gOk (n:Int) g=true) : Ret Tryz.prog 19 [.pointer (some ⟨bV,0,none⟩),.agg #[vi g.k,vi g.a,vi g.b]] w0 (fun v w=>v=.bool (psStep n ps g).isSome∧TurnS (S3 bV bM AV) w0 w∧Sumr w bV bM B0 AV cV n ((psStep n ps g).getD ps)):=by
 obtain ⟨d,e,c⟩:=hS;have bP:=d.lt;have aH:=I.len;have bS:=I.vs;have aS:=Xcs B;have bH:=X81 B;have G:=X8c aH aS;have aD:=X8c aH bH;have aC:=AO.at I.all g.a;have aI:=AO.at I.all g.b;refine enter Tryz.func19 rfl 154 rfl rfl ?_;intro a o
 have x:TurnS (S3 bV bM AV) w0 w0:=TurnS.refl _ _
 refine Zs o fun _ bJ=>?_;refine Zf (X14 (zs:=[vi g.k,vi g.a,vi g.b]) rfl rfl) ?_;rintro _ w1 ⟨b5,rfl,bK,q,y⟩;have bR:=Nat.le_trans x.size bK;have d:=d.below q;have e:=e.below q;have c:=c.below q;have x:=tsbel x q;refine Za rfl<|ZX bJ fun a o _ bL=>?_;refine Xq none (fun _=>false) mixed ?_;intro w2 q;have d:=d.below q;have e:=e.below q;have y:=y.below q;have c:=c.below q;have x:=tsbel x q;refine Yb o<|Yo 0 rfl (fun _=>X4 rfl)<|Yo 1 rfl (fun _=>X0v rfl)<|Yo 2 rfl (fun _=>Vd rfl X26 7)<|Ye 3 rfl (X0 rfl X08 (d.at 7))<|Yo 4 rfl (fun _=>Vd rfl X11 1) ?_;refine Ye 5 rfl (X0 rfl X2 (y.at 1))<|Yo 6 rfl (fun _=>X0w (k:=g.a.toNat) rfl rfl Xr Xj c (by omega) (by omega) (by omega))<|Yo 7 rfl (fun _=>X19 rfl) ?_;refine Yd fun a o=>?_;refine bL _ _<|wp_seq_k fun _ L=>?_;refine Zs o fun _ bN=>?_;refine Ze (Vd rfl X1i 0)<|Ze (X0 rfl X2 (y.at 0))<|Zt bN fun a o=>?_;refine wp_block<|Zs o fun _ bO=>?_;refine Ze (X0l rfl rfl)<|Za rfl<|Zt bO fun a o=>?_
 refine Xg o rfl (fun M=>?_) (fun M=>?_)
 ·have aJ:=M
  have E:g.k=1:=by simpa using M
  refine Zs o fun _ aT=>?_;refine Zm rfl<|Ze (Vd rfl X11 1)<|Ze (X0 rfl X2 (y.at 1))<|Zf (Vc (Xzb _ bV bM B0 AV cV n ps ⟨d,e,c⟩ I g.a aS) Xps) ?_;rintro _ w3 ⟨rfl,aK,C,aU,aW⟩;have y:=y.ts3 aK d e.nc c rfl rfl
  have x:=tstr x aK (fun _ h9=>.inl h9)
  clear aK d e c;have d:=C;have e:=aU;have c:=aW;clear C aU aW;refine Za rfl<|Zt aT fun a o=>?_;refine wp_ret<|Xw<|X7<|X3 o (Xz o rfl rfl) ?_
  rw [X7n E];exact ⟨rfl,x,d,e,c⟩
 have aJ:=M
 have E:¬ g.k=1:=by simpa using M
 refine Zs o fun _ aX=>?_;refine Ze (X0l rfl rfl)<|Za rfl<|Zt aX fun a o=>?_
 refine Xg o rfl (fun N=>?_) (fun N=>?_)
 ·have aL:=N
  have h2:g.k=2:=by simpa using N
  refine Zr o<|Zm rfl<|Ze (X0v rfl)<|Ze (X2p rfl X0k (m':=g.a.toNat*2+1) rfl)<|Ze (X0 rfl X2 (X2j c Xv G 1 rfl))<|Ze (X6b rfl rfl) ?_;refine Ze (X0v rfl)<|Ze (X2p rfl X0k (m':=g.a.toNat*2+1) rfl)<|Zo (X1s (enc:=encA) (l:=ps.out) (vs:=[vi (bits .xor .i64 ((aAt ps.out g.a).t) 1)]) (x0:=(aAt ps.out g.a)) (u:=(⟨(aAt ps.out g.a).m,bits .xor .i64 ((aAt ps.out g.a).t) 1⟩ : Af)) (k:=g.a.toNat) (j:=1) (n1:=1) rfl rfl X12 c Xv rfl rfl rfl rfl (by decide) G rfl) ?_;rintro _ w4 ⟨p,B⟩;have i:=c;have d:=d.appT i B rfl;have e:=e.app i B
  have x:=tsrow x B (fun _ D=>.inl (S3.row _ D))
  clear i B;clear c;have c:=p;clear p;refine Zn fun a o=>?_;refine Xa<|L _ _<|Zs o fun _ aY=>?_;refine Za rfl<|Zt aY fun a o=>?_
  refine wp_ret (X3 o (Xz o rfl rfl) ?_)
  rw [X8r E h2,Xgi aC];exact ⟨rfl,x,d,e,c⟩
 have aL:=N
 have h2:¬ g.k=2:=by simpa using N
 refine Zs o fun _ aZ=>?_;refine Ze (X0l rfl rfl)<|Za rfl<|Zt aZ fun a o=>?_
 refine Xg o rfl (fun Q=>?_) (fun Q=>?_)
 ·have aM:=Q
  have h3:g.k=3:=by simpa using Q
  refine Zs o fun _ b0=>?_;refine Zm rfl<|Ze (X0v rfl)<|Ze (Vd rfl X38 6)<|Ze (X0 rfl X51 (d.at 6))<|Zf (Vc (X6t _ bM ps.f e 0 2 I.po (by omega)) X3g) ?_;rintro _ w5 ⟨rfl,J,C⟩;obtain ⟨wm,H,hm,q⟩:=J.mid;clear hm;have A:=e.nc;have d:=d.onlyN H A;have c:=c.onlyN H A;have x:=tsonly x H (.inl (.inr (.inl rfl)));have d:=d.below q;have c:=c.below q;have x:=tsbel x q
  clear A q H J;have e:=C;clear C;refine ZX b0 fun a o _ b1=>?_;refine Xq (some bM) (fun _=>false) mixed ?_;intro w6 q;have d:=d.below q;have e:=e.below q;have c:=c.below q;have x:=tsbel x q;refine Yb o<|Yo 0 rfl (fun _=>X4 rfl)<|Yo 1 rfl (fun _=>X0v rfl)<|Yo 2 rfl (fun _=>Vd rfl X38 6) ?_;refine Yw 3 rfl trivial (fun w1 E=>X0 rfl X51 ((d.onlyN E e.nc).at 6)) ?_;refine Yo 4 rfl (fun _=>X4 rfl)<|Yo 5 rfl (fun _=>X0v rfl) ?_;refine Yw 6 rfl trivial (fun w1 E=>X0b (l:=[vi ((aAt ps.out g.a).m),vi ((aAt ps.out g.a).t)]) rfl Xs (X2j (c.onlyN E e.nc) Xv G 0 rfl) rfl) ?_;refine Y1 7<|Yf rfl trivial (EfW.mono (Vc (Xls _ bM (padd ps.f 0 2) e 4 (aAt ps.out g.a) 0 (I.po.padd _ _) (by omega) aC) Xdh) (fun _ _ h=>⟨fun _=>by obtain ⟨rfl,J,C⟩:=h;exact J.keep,h⟩)) ?_;rintro _ w7 ⟨rfl,J,C⟩;obtain ⟨wm,H,hm,q⟩:=J.mid;clear hm;have A:=e.nc;have d:=d.onlyN H A;have c:=c.onlyN H A;have x:=tsonly x H (.inl (.inr (.inl rfl)));have d:=d.below q;have c:=c.below q;have x:=tsbel x q
  clear A q H J;have e:=C;clear C;refine Yd fun a o=>?_;refine b1 _ _<|Zr o<|Zm rfl<|Ze (X0v rfl)<|Ze (X2p rfl X0k (m':=g.a.toNat*2+1) rfl)<|Ze (X0 rfl X2 (X2j c Xv G 1 rfl))<|Ze (X6b rfl rfl) ?_;refine Ze (X0v rfl)<|Ze (X2p rfl X0k (m':=g.a.toNat*2+1) rfl)<|Zo (X1s (enc:=encA) (l:=ps.out) (vs:=[vi (bits .xor .i64 ((aAt ps.out g.a).t) 1)]) (x0:=(aAt ps.out g.a)) (u:=(⟨(aAt ps.out g.a).m,bits .xor .i64 ((aAt ps.out g.a).t) 1⟩ : Af)) (k:=g.a.toNat) (j:=1) (n1:=1) rfl rfl X12 c Xv rfl rfl rfl rfl (by decide) G rfl) ?_;rintro _ w8 ⟨p,B⟩;have i:=c;have d:=d.appT i B rfl;have e:=e.app i B
  have x:=tsrow x B (fun _ D=>.inl (S3.row _ D))
  clear i B;clear c;have c:=p;clear p;refine Zn fun a o=>?_;refine Xa<|L _ _<|Zs o fun _ b2=>?_;refine Za rfl<|Zt b2 fun a o=>?_
  refine wp_ret (X3 o (Xz o rfl rfl) ?_)
  rw [X8q E h2 h3,Xgi aC];exact ⟨rfl,x,d,e,c⟩
 have aM:=Q
 have h3:¬ g.k=3:=by simpa using Q
 refine Zs o fun _ b3=>?_;refine Ze (X0l rfl rfl)<|Za rfl<|Zt b3 fun a o=>?_
 refine Xg o rfl (fun U=>?_) (fun U=>?_)
 ·have aN:=U
  have h9:g.k=9:=by simpa using U
  have aF:=X65 B (by omega)
  refine wp_seq_k fun _ b4=>?_;refine Xq none (fun j=>[16].contains j) mixed ?_;intro w9 q;have d:=d.below q;have e:=e.below q;have y:=y.below q;have c:=c.below q;have x:=tsbel x q;refine Yb o<|Yo 0 rfl (fun _=>X4 rfl)<|Yo 1 rfl (fun _=>X0v rfl)<|Yo 2 rfl (fun _=>Vd rfl X26 7)<|Ye 3 rfl (X0 rfl X08 (d.at 7))<|Yo 4 rfl (fun _=>Vd rfl X1d 2) ?_;refine Ye 5 rfl (X0 rfl X2 (y.at 2))<|Yo 6 rfl (fun _=>X0w (k:=g.b.toNat) rfl rfl Xr Xj c (by omega) (by omega) (by omega))<|Yo 7 rfl (fun _=>X2p rfl X0a (m':=g.b.toNat*2+0) rfl)<|Ye 8 rfl (X0 rfl X2 (X2j c Xv aD 0 rfl))<|Yo 9 rfl (fun _=>X4 rfl) ?_;refine Yo 10 rfl (fun _=>X0v rfl)<|Yo 11 rfl (fun _=>X2p rfl X0a (m':=g.a.toNat*2+0) rfl)<|Ye 12 rfl (X0 rfl X2 (X2j c Xv G 0 rfl))<|Yo 13 rfl (fun _=>X6b rfl rfl)<|Yo 14 rfl (fun _=>X0w (k:=g.b.toNat) rfl rfl Xr Xj c (by omega) (by omega) (by omega)) ?_;refine Yo 15 rfl (fun _=>X2p rfl X0a (m':=g.b.toNat*2+0) rfl)<|Y1 16 ?_;refine Yh rfl trivial rfl (X1s (enc:=encA) (l:=ps.out) (vs:=[vi (bits .xor .i64 ((aAt ps.out g.b).m) ((aAt ps.out g.a).m))]) (x0:=(aAt ps.out g.b)) (u:=(⟨bits .xor .i64 ((aAt ps.out g.b).m) ((aAt ps.out g.a).m),(aAt ps.out g.b).t⟩ : Af)) (k:=g.b.toNat) (j:=0) (n1:=1) rfl rfl X12 c Xv rfl rfl rfl rfl (by decide) aD rfl) ?_;rintro _ bU ⟨p,B⟩;have i:=c;have d:=d.appT i B rfl;have e:=e.app i B;have y:=y.appT i B rfl
  have x:=tsrow x B (fun _ D=>.inl (S3.row _ D))
  clear i B;clear c;have c:=p;clear p;refine Yd fun a o=>?_;refine b4 _ _<|Xq none (fun j=>[16].contains j) mixed ?_;intro bW q;have d:=d.below q;have e:=e.below q;have y:=y.below q;have c:=c.below q;have x:=tsbel x q;refine Yb o<|Yo 0 rfl (fun _=>X4 rfl)<|Yo 1 rfl (fun _=>X0v rfl)<|Yo 2 rfl (fun _=>Vd rfl X26 7)<|Ye 3 rfl (X0 rfl X08 (d.at 7))<|Yo 4 rfl (fun _=>Vd rfl X1d 2) ?_;refine Ye 5 rfl (X0 rfl X2 (y.at 2))<|Yo 6 rfl (fun _=>X0w (k:=g.b.toNat) rfl rfl Xr Xj c (by rw [List.length_set];omega) (by omega) (by rw [List.length_set];omega))<|Yo 7 rfl (fun _=>X2p rfl X0k (m':=g.b.toNat*2+1) rfl)<|Ye 8 rfl (X0 rfl X2 (X2j c Xv (Xoc _ (by omega)) 1 rfl))<|Yo 9 rfl (fun _=>X4 rfl) ?_;refine Yo 10 rfl (fun _=>X0v rfl)<|Yo 11 rfl (fun _=>X2p rfl X0k (m':=g.a.toNat*2+1) rfl)<|Ye 12 rfl (X0 rfl X2 (X2j c Xv (X74 (Ne.symm aF) G) 1 rfl))<|Yo 13 rfl (fun _=>X6b rfl rfl)<|Yo 14 rfl (fun _=>X0w (k:=g.b.toNat) rfl rfl Xr Xj c (by rw [List.length_set];omega) (by omega) (by rw [List.length_set];omega)) ?_;refine Yo 15 rfl (fun _=>X2p rfl X0k (m':=g.b.toNat*2+1) rfl)<|Y1 16 ?_;refine Yh rfl trivial rfl (X1s (enc:=encA) (l:=(ps.out.set g.b.toNat (⟨bits .xor .i64 ((aAt ps.out g.b).m) ((aAt ps.out g.a).m),(aAt ps.out g.b).t⟩ : Af))) (vs:=[vi (bits .xor .i64 ((⟨bits .xor .i64 (aAt ps.out g.b).m (aAt ps.out g.a).m,(aAt ps.out g.b).t⟩ : Af).t) ((aAt ps.out g.a).t))]) (x0:=(⟨bits .xor .i64 (aAt ps.out g.b).m (aAt ps.out g.a).m,(aAt ps.out g.b).t⟩ : Af)) (u:=(⟨(⟨bits .xor .i64 (aAt ps.out g.b).m (aAt ps.out g.a).m,(aAt ps.out g.b).t⟩ : Af).m,bits .xor .i64 ((⟨bits .xor .i64 (aAt ps.out g.b).m (aAt ps.out g.a).m,(aAt ps.out g.b).t⟩ : Af).t) ((aAt ps.out g.a).t)⟩ : Af)) (k:=g.b.toNat) (j:=1) (n1:=1) rfl rfl X12 c Xv rfl rfl rfl rfl (by decide) (Xoc _ (by omega)) rfl) ?_;rintro _ bX ⟨p,B⟩
  have i:=c;have d:=d.appT i B rfl;have e:=e.app i B
  have x:=tsrow x B (fun _ D=>.inl (S3.row _ D))
  clear i B;clear c;have c:=p;clear p;refine Yd fun a o=>?_;refine Xa<|L _ _<|Zs o fun _ b6=>?_;refine Za rfl<|Zt b6 fun a o=>?_
  refine wp_ret (X3 o (Xz o rfl rfl) ?_)
  rw [List.set_set] at c;rw [X8e E h2 h3 h9,Xkc aC aI];exact ⟨rfl,x,d,e,c⟩
 have aN:=U
 have h9:¬ g.k=9:=by simpa using U
 refine Zs o fun _ b7=>?_;refine Ze (X0l rfl rfl)<|Za rfl<|Zt b7 fun a o=>?_
 refine Xg o rfl (fun W=>?_) (fun W=>?_)
 ·have aO:=W
  have aE:g.k=10:=by simpa using W
  have aF:=X65 B (by omega)
  refine Xq (some bM) (fun _=>false) mixed ?_;intro bY q;have d:=d.below q;have e:=e.below q;have y:=y.below q;have c:=c.below q;have x:=tsbel x q;refine Yb o<|Yo 0 rfl (fun _=>X4 rfl)<|Yo 1 rfl (fun _=>X0v rfl)<|Yo 2 rfl (fun _=>Vd rfl X38 6) ?_;refine Yw 3 rfl trivial (fun w1 E=>X0 rfl X51 ((d.onlyN E e.nc).at 6)) ?_;refine Yo 4 rfl (fun _=>X4 rfl)<|Yo 5 rfl (fun _=>X0v rfl) ?_;refine Yw 6 rfl trivial (fun w1 E=>X0b (l:=[vi ((aAt ps.out g.a).m),vi ((aAt ps.out g.a).t)]) rfl Xs (X2j (c.onlyN E e.nc) Xv G 0 rfl) rfl) ?_;refine Yo 7 rfl (fun _=>X4 rfl)<|Yo 8 rfl (fun _=>X0v rfl)<|Yo 9 rfl (fun _=>Vd rfl X26 7) ?_;refine Yw 10 rfl trivial (fun w1 E=>X0 rfl X08 ((d.onlyN E e.nc).at 7)) ?_;refine Yo 11 rfl (fun _=>Vd rfl X1d 2) ?_;refine Yw 12 rfl trivial (fun w1 E=>X0 rfl X2 ((y.onlyN E e.nc).at 2)) ?_;refine Yo 13 rfl (fun _=>X0w (k:=g.b.toNat) rfl rfl Xr Xj c (by omega) (by omega) (by omega)) ?_;refine Yw 14 rfl trivial (fun w1 E=>X0b (l:=[vi ((aAt ps.out g.b).m),vi ((aAt ps.out g.b).t)]) rfl Xs (X2j (c.onlyN E e.nc) Xv aD 0 rfl) rfl) ?_;refine Y1 15<|Yf rfl trivial (EfW.mono (Vc (Xtj _ bM ps.f e (aAt ps.out g.a) (aAt ps.out g.b) I.po aC aI) Xjh) (fun _ _ h=>⟨fun _=>by obtain ⟨rfl,J,C⟩:=h;exact J.keep,h⟩)) ?_;rintro _ bZ ⟨rfl,J,C⟩;obtain ⟨wm,H,hm,q⟩:=J.mid;clear hm;have A:=e.nc;have d:=d.onlyN H A;have c:=c.onlyN H A;have x:=tsonly x H (.inl (.inr (.inl rfl)));have d:=d.below q;have c:=c.below q;have x:=tsbel x q
  clear A q H J;have e:=C;clear C;refine Yd fun a o=>?_;refine Xa<|L _ _<|Zs o fun _ b8=>?_;refine Za rfl<|Zt b8 fun a o=>?_
  refine wp_ret (X3 o (Xz o rfl rfl) ?_)
  rw [X5z E h2 h3 h9 aE,← Xog I.po aC.2 aI.2];exact ⟨rfl,x,d,e,c⟩
 have aO:=W
 have aE:¬ g.k=10:=by simpa using W
 refine Zs o fun _ b9=>?_;refine Ze (X0l rfl rfl)<|Za rfl<|Zt b9 fun a o=>?_
 refine Xg o rfl (fun aA=>?_) (fun aA=>?_)
 ·have aP:=aA
  have aG:g.k=11:=by simpa using aA
  have aF:=X65 B (by omega)
  refine Xq none (fun j=>[29,31].contains j) mixed ?_;intro c4 q;have d:=d.below q;have e:=e.below q;have y:=y.below q;have c:=c.below q;have x:=tsbel x q;refine Yb o<|Yo 0 rfl (fun _=>X4 rfl)<|Yo 1 rfl (fun _=>X0v rfl)<|Yo 2 rfl (fun _=>Vd rfl X26 7)<|Ye 3 rfl (X0 rfl X08 (d.at 7))<|Yo 4 rfl (fun _=>Vd rfl X11 1) ?_;refine Ye 5 rfl (X0 rfl X2 (y.at 1))<|Yo 6 rfl (fun _=>X4 rfl)<|Yo 7 rfl (fun _=>X0v rfl)<|Yo 8 rfl (fun _=>Vd rfl X26 7)<|Ye 9 rfl (X0 rfl X08 (d.at 7)) ?_;refine Yo 10 rfl (fun _=>Vd rfl X1d 2)<|Yo 12 rfl (fun _=>X4 rfl)<|Yo 13 rfl (fun _=>X0v rfl)<|Yo 14 rfl (fun _=>Vd rfl X26 7)<|Ye 15 rfl (X0 rfl X08 (d.at 7)) ?_;refine Yo 16 rfl (fun _=>Vd rfl X1d 2)<|Ye 17 rfl (X0 rfl X2 (y.at 2))<|Yo 18 rfl (fun _=>X0w (k:=g.b.toNat) rfl rfl Xr Xj c (by omega) (by omega) (by omega))<|Ye 19 rfl (X0b (l:=[vi ((aAt ps.out g.b).m),vi ((aAt ps.out g.b).t)]) rfl Xs (X2j c Xv aD 0 rfl) rfl)<|Yo 20 rfl (fun _=>X4 rfl) ?_;refine Yo 21 rfl (fun _=>X0v rfl)<|Yo 22 rfl (fun _=>Vd rfl X26 7)<|Ye 23 rfl (X0 rfl X08 (d.at 7))<|Yo 24 rfl (fun _=>Vd rfl X11 1)<|Ye 25 rfl (X0 rfl X2 (y.at 1)) ?_;refine Yo 26 rfl (fun _=>X0w (k:=g.a.toNat) rfl rfl Xr Xj c (by omega) (by omega) (by omega))<|Ye 27 rfl (X0b (l:=[vi ((aAt ps.out g.a).m),vi ((aAt ps.out g.a).t)]) rfl Xs (X2j c Xv G 0 rfl) rfl)<|Yo 28 rfl (fun _=>X0w (k:=g.a.toNat) rfl rfl Xr Xj c (by omega) (by omega) (by omega)) ?_;refine Y2 11 29 ?_ ?_
  ·refine Yz rfl trivial (Uev (X0 rfl X2 (y.at 2))) ?_;refine Y1 29<|Yh rfl trivial rfl (X1s (enc:=encA) (l:=ps.out) (vs:=[vi ((aAt ps.out g.b).m),vi ((aAt ps.out g.b).t)]) (x0:=(aAt ps.out g.a)) (u:=(aAt ps.out g.b)) (k:=g.a.toNat) (j:=0) (n1:=2) rfl rfl Xj c Xv rfl rfl rfl rfl (by decide) G rfl) ?_;rintro _ cA ⟨p,B⟩;have i:=c;have d:=d.appT i B rfl;have e:=e.app i B
   have x:=tsrow x B (fun _ D=>.inl (S3.row _ D))
   clear i B;clear c;have c:=p;clear p;refine Y1 30<|Yz rfl trivial (Uev (X0w (k:=g.b.toNat) rfl rfl Xr Xj c (by rw [List.length_set];omega) (by omega) (by rw [List.length_set];omega))) ?_;refine Y1 31<|Yh rfl trivial rfl (X1s (enc:=encA) (l:=(ps.out.set g.a.toNat (aAt ps.out g.b))) (vs:=[vi ((aAt ps.out g.a).m),vi ((aAt ps.out g.a).t)]) (x0:=(aAt ps.out g.b)) (u:=(aAt ps.out g.a)) (k:=g.b.toNat) (j:=0) (n1:=2) rfl rfl Xj c Xv rfl rfl rfl rfl (by decide) (X74 aF aD) rfl) ?_;rintro _ cC ⟨p,B⟩;have i:=c;have d:=d.appT i B rfl;have e:=e.app i B
   have x:=tsrow x B (fun _ D=>.inl (S3.row _ D))
   clear i B;clear c;have c:=p;clear p;refine Yd fun a o=>?_;refine Xa<|L _ _<|Zs o fun _ bC=>?_;refine Za rfl<|Zt bC fun a o=>?_
   refine wp_ret (X3 o (Xz o rfl rfl) ?_)
   rw [X53 E h2 h3 h9 aE aG];exact ⟨rfl,x,d,e,c⟩
  refine Yh rfl trivial rfl (X1s (enc:=encA) (l:=ps.out) (vs:=[vi ((aAt ps.out g.b).m),vi ((aAt ps.out g.b).t)]) (x0:=(aAt ps.out g.a)) (u:=(aAt ps.out g.b)) (k:=g.a.toNat) (j:=0) (n1:=2) rfl rfl Xj c Xv rfl rfl rfl rfl (by decide) G rfl) ?_;rintro _ cD ⟨p,B⟩;have i:=c;have d:=d.appT i B rfl;have e:=e.app i B;have y:=y.appT i B rfl
  have x:=tsrow x B (fun _ D=>.inl (S3.row _ D))
  clear i B;clear c;have c:=p;clear p;refine Y1 11<|Yz rfl trivial (Uev (X0 rfl X2 (y.at 2))) ?_;refine Y1 30<|Yz rfl trivial (Uev (X0w (k:=g.b.toNat) rfl rfl Xr Xj c (by rw [List.length_set];omega) (by omega) (by rw [List.length_set];omega))) ?_;refine Y1 31<|Yh rfl trivial rfl (X1s (enc:=encA) (l:=(ps.out.set g.a.toNat (aAt ps.out g.b))) (vs:=[vi ((aAt ps.out g.a).m),vi ((aAt ps.out g.a).t)]) (x0:=(aAt ps.out g.b)) (u:=(aAt ps.out g.a)) (k:=g.b.toNat) (j:=0) (n1:=2) rfl rfl Xj c Xv rfl rfl rfl rfl (by decide) (X74 aF aD) rfl) ?_;rintro _ cE ⟨p,B⟩;have i:=c;have d:=d.appT i B rfl;have e:=e.app i B
  have x:=tsrow x B (fun _ D=>.inl (S3.row _ D))
  clear i B;clear c;have c:=p;clear p;refine Yd fun a o=>?_;refine Xa<|L _ _<|Zs o fun _ bD=>?_;refine Za rfl<|Zt bD fun a o=>?_
  refine wp_ret (X3 o (Xz o rfl rfl) ?_)
  rw [X53 E h2 h3 h9 aE aG];exact ⟨rfl,x,d,e,c⟩
 have aP:=aA
 have aG:¬ g.k=11:=by simpa using aA
 refine Zs o fun _ bE=>?_;refine Ze (X0l rfl rfl)<|Za rfl<|Zt bE fun a o=>?_
 refine Xg o rfl (fun aB=>?_) (fun aB=>?_)
 ·have aQ:=aB
  have aR:g.k=12:=by simpa using aB
  refine Zr o<|Zm rfl<|Ze (X0v rfl)<|Ze (Vd rfl X38 6)<|Ze (X0 rfl X51 (d.at 6))<|Zf (Vc (X6t _ bM ps.f e 0 1 I.po (by omega)) X3g) ?_;rintro _ cF ⟨rfl,J,C⟩;obtain ⟨wm,H,hm,q⟩:=J.mid;clear hm;have A:=e.nc;have d:=d.onlyN H A;have c:=c.onlyN H A;have x:=tsonly x H (.inl (.inr (.inl rfl)));have d:=d.below q;have c:=c.below q;have x:=tsbel x q
  clear A q H J;have e:=C;clear C;refine Zn fun a o=>?_;refine Xa<|L _ _<|Zs o fun _ bF=>?_;refine Za rfl<|Zt bF fun a o=>?_
  refine wp_ret (X3 o (Xz o rfl rfl) ?_)
  rw [X5s E h2 h3 h9 aE aG aR];exact ⟨rfl,x,d,e,c⟩
 have aQ:=aB
 have aR:¬ g.k=12:=by simpa using aB
 refine Xq (some bM) (fun _=>false) mixed ?_;intro cG q;have d:=d.below q;have e:=e.below q;have y:=y.below q;have c:=c.below q;have x:=tsbel x q;refine Yb o<|Yo 0 rfl (fun _=>X4 rfl)<|Yo 1 rfl (fun _=>X0v rfl)<|Yo 2 rfl (fun _=>Vd rfl X38 6) ?_;refine Yw 3 rfl trivial (fun w1 E=>X0 rfl X51 ((d.onlyN E e.nc).at 6)) ?_;refine Yo 4 rfl (fun _=>Vd rfl X1i 0) ?_;refine Yw 5 rfl trivial (fun w1 E=>X0 rfl X2 ((y.onlyN E e.nc).at 0)) ?_;refine Yo 7 rfl (fun _=>X4 rfl)<|Yo 8 rfl (fun _=>X0v rfl) ?_;refine Yw 9 rfl trivial (fun w1 E=>X0b (l:=[vi ((aAt ps.out g.a).m),vi ((aAt ps.out g.a).t)]) rfl Xs (X2j (c.onlyN E e.nc) Xv G 0 rfl) rfl) ?_;refine Y1 6<|Yz rfl trivial (Vc (Xyv _ g.k) Xpl) ?_;refine Y1 10<|Yf rfl trivial (EfW.mono (Vc (Xls _ bM ps.f e (rotC g.k) (aAt ps.out g.a) 0 I.po (Xjs _) aC) Xdh) (fun _ _ h=>⟨fun _=>by obtain ⟨rfl,J,C⟩:=h;exact J.keep,h⟩)) ?_;rintro _ cH ⟨rfl,J,C⟩;obtain ⟨wm,H,hm,q⟩:=J.mid;clear hm;have A:=e.nc;have d:=d.onlyN H A;have c:=c.onlyN H A;have x:=tsonly x H (.inl (.inr (.inl rfl)));have d:=d.below q;have c:=c.below q;have x:=tsbel x q
 clear A q H J;have e:=C;clear C;refine Yd fun a o=>?_;refine Xa<|L _ _<|Zs o fun _ bG=>?_;refine Za rfl<|Zt bG fun a o=>?_
 refine wp_ret (X3 o (Xz o rfl rfl) ?_)
 rw [X92 E h2 h3 h9 aE aG aR];exact ⟨rfl,x,d,e,c⟩
theorem Xiz(u:World)(bV:Nat)(f:Int→Int)(e:MapF u bV f)(aQ:PO f)(q:SupF f) : Ret Tryz.prog 20 [.map (some bV)] u (fun v w=>∃ A c,v=.slice A (tms f).length c∧Own w u.heap.size 76 2 encT A c (tms f)∧Below u.heap.size u w):=by
 refine enter Tryz.func20 rfl 29 rfl rfl ?_;intro a d
 have j:=bz u
 refine Zs d fun _ aR=>?_;refine Za rfl<|Zx aR fun a d _ aS=>?_;refine Zf (Xb (k:=0) (vs:=[]) (zs:=[]) rfl X05 X1a rfl rfl) ?_;rintro _ w1 ⟨b4,rfl,aT,y,aA⟩;have aD:=Nat.le_trans j.size aT;have e:=e.below y;have j:=btr j y;refine Za rfl<|ZX aS fun a d _ aU=>?_;refine Zs d fun _ aW=>?_;refine Zm rfl<|Zf (Xwx (f:=f) rfl Tryz.underlying60 e) ?_;rintro _ w2 ⟨b8,left0,aE,rfl,aX,y,g,aF⟩;have aG:=Nat.le_trans j.size aX;have e:=e.below y;have aA:=aA.below y;have j:=btr j y;refine Zt aW fun a d=>?_;refine wp_block<|X06 (σ:=(List Tm)×(Int→Bool)×Nat) (fun (s:(List Tm)×(Int→Bool)×Nat) (a:Act) (w:World)=>match s with|(l,left1,t)=>∃ A9 c9,Fr a 29 [(3,.slice A9 l.length c9),(8,.pointer (some ⟨b8,0,none⟩))]∧(Gath f left1 l)∧MapF w bV f∧Own w u.heap.size 76 2 encT A9 c9 l∧MapR w bV b8 f left1 t∧Below u.heap.size u w) (fun (s:(List Tm)×(Int→Bool)×Nat)=>match s with|(l,left1,t)=>t) ([],left0,aE) ?_ ?_
 ·exact ⟨some ⟨b4,0,none⟩,0,d.sb,(Gath.start aF),e,(Own.empty aA aD),g,j⟩
 rintro ⟨l,left1,t⟩ a w3 ⟨A9,c9,d,n,e,i,g,j⟩;refine Zs d fun _ C=>?_
 refine Zf (Y0e rfl g) ?_;rintro _ w4 (⟨rfl,rfl,D⟩|⟨k9,E,rfl,G,ho,H,I,aH⟩)
 ·have aY:=n.leneq q D;refine Ze (X8 (vs:=[.bool false]) rfl rfl)<|ZX C fun a d _ b2=>?_;refine Xjt d rfl ?_;refine wp_exit<|Xi<|Xi<|X03 ?_;refine aU _ _<|Zs d fun _ aI=>?_;refine Zm rfl<|Zf (Vc (Xxl _ u.heap.size A9 c9 l f left1 i n q D) Xr5) ?_;rintro _ w5 ⟨rfl,J,hg⟩;have m:=i;have j:=Below.app j m hg (Nat.le_refl _) j.size
  clear m hg;clear i;have i:=J;clear J;refine Zx aI fun a d _ aJ=>?_;refine Zm rfl<|Za rfl<|Zt aJ fun a d=>?_
  refine wp_ret (X3 d (Xz d rfl rfl) ?_)
  exact ⟨A9,c9,by rw [aY],i,j⟩
 have aK:=g.nc;have i:=i.onlyN ho aK;have j:=Below.only j ho aG
 clear aK ho g;have g:=H;clear H;have e:=g.mapF;refine Ze (X8 (vs:=[.bool true,vi k9,vi (f k9)]) rfl rfl)<|ZX C fun a d _ aL=>?_;refine Xx5 d rfl ?_;refine wp_skip<|aL _ _<|wp_block<|Zs d fun _ aM=>?_;refine Ze (Xwy rfl aH)<|Ze (X8 (vs:=[vi k9,vi (f k9)]) rfl rfl)<|Ze (X8 (vs:=[vi k9,vi (f k9)]) rfl rfl)<|Za rfl<|Za rfl ?_;refine ZX aM fun a d _ aN=>?_;refine X0j (fun a w=>Fr a 29 [(3,.slice A9 l.length c9),(4,vi k9),(5,vi (f k9)),(8,.pointer (some ⟨b8,0,none⟩)),(19,.bool ((decide (0<k9))&&(decide (0<(f k9)))))]∧w4=w) ?_ ?_
 ·refine Zr d<|Zm rfl<|Ze (X42 rfl rfl)<|Zm rfl ?_
  refine Zg 16 rfl (fun b=>?_) (fun b=>?_)
  ·refine Zv (gW b) (X4 rfl) ?_;refine Zv (gW b) (X42 rfl rfl) ?_;refine Ze (X5 rfl b rfl) ?_;refine Zn fun a d=>?_;exact ⟨d.sub ⟨rfl,rfl,rfl,rfl,X1 rfl (by first|rfl|(simp only [b,bs];done)|simp [b]),trivial⟩,rfl⟩
  refine Zp (gP b) ?_;refine Zp (gP b) ?_;refine Ze (Xc rfl b rfl) ?_;refine Zn fun a d=>?_;exact ⟨d.sub ⟨rfl,rfl,rfl,rfl,X1 rfl (by first|rfl|(simp only [b,bs];done)|simp [b]),trivial⟩,rfl⟩
 rintro a _ ⟨d,rfl⟩;refine aN _ _ ?_
 refine Xg d rfl (fun o=>?_) (fun o=>?_)
 ·have aB:=o
  have p:0<k9∧0<f k9:=by have:=o;simpa using this
  refine Zr d<|Zm rfl<|Zm rfl<|Zm rfl<|Ze (Xk (ps:=[(0,vi k9),(1,vi (f k9))]) (cs:=[vi k9,vi (f k9)]) rfl (fun _=>by first|rfl|kernel_rfl))<|Zf (Xb (k:=1) (vs:=[.agg #[vi k9,vi (f k9)]]) (zs:=[vi k9,vi (f k9)]) rfl X05 X1a rfl rfl) ?_;rintro _ w6 ⟨b3,rfl,L,y,h⟩;have aZ:=Nat.le_trans j.size L;have B:=i.away L;have e:=e.below y;have i:=i.below y;have g:=g.below y;have j:=btr j y;refine Zf (X1e (enc:=encT) (l:=(l)) (l2:=([(⟨k9,f k9⟩ : Tm)])) (B0:=u.heap.size) rfl rfl X05 X1a X0m X2g i (Rd.of_blk h rfl _ h.lt) (by simp only [maxLen];simp;have:=n.len q;omega) (by simp;have:=n.len q;omega) j.size) ?_;rintro _ w7 ⟨b0,b1,rfl,aO,hg,aP⟩
  have m:Own _ u.heap.size 76 2 encT _ _ (l):=i
  have aC:=aP _ h.lt B;clear aP;have e:=e.app m hg;have g:=g.app m hg;have j:=Below.app j m hg (Nat.le_refl _) j.size;clear m hg;refine Za rfl ?_;refine Zn fun a d=>?_;refine Xa<|Xd ?_;exact ⟨(l++([(⟨k9,f k9⟩ : Tm)]),(fun x=>left1 x&&x != k9),E),⟨b0,b1,d.sb,(by first|exact n.push G p.1 p.2|exact n.skip p),e,aO,g,j⟩,I⟩
 have aB:=o
 have p:¬ (0<k9∧f k9≠0):=by have h5:=(aQ k9).1;have:=o;simp at this;omega
 refine wp_skip<|Xa<|Xd ?_;exact ⟨(l,(fun x=>left1 x&&x != k9),E),⟨A9,c9,d.sb,(by first|exact n.push G p.1 p.2|exact n.skip p),e,i,g,j⟩,I⟩
theorem Xz3(w0:World)(c:Cx)(Ac:Option Addr)(cc:Nat)(aJ:Rd w0 w0.heap.size 55 encG Ac c.gs)(bC:c.gs.length≤2305843009213693951) : Ret Tryz.prog 5 [.agg #[vi c.n,.slice Ac c.gs.length cc]] w0 (fun v w=>∃ A9 c9 B9 d9,v=.tuple #[psV A9 c9 B9 d9 ((psO c).getD psZ),.bool ((psO c).isSome)]∧Rd w w.heap.size 76 encT A9 ((psO c).getD psZ).ts∧Rd w w.heap.size 34 encA B9 ((psO c).getD psZ).out∧Below w0.heap.size w0 w):=by
 refine enter Tryz.func5 rfl 79 rfl rfl ?_;intro a A
 have q:=bz w0
 refine Zs A fun _ cJ=>?_;refine Zf (X14 (zs:=[vi c.n,.slice Ac c.gs.length cc]) rfl rfl) ?_;rintro _ w1 ⟨b3,rfl,cK,x,B⟩;have cX:=Nat.le_trans q.size cK;have q:=btr q x;refine Zf (X6 (zs:=[vi 0,vi 0,vi 0,vi 0,.slice none 0 0,.slice none 0 0]) X1o rfl) ?_;rintro _ w2 ⟨b6,rfl,cL,x,g⟩;have aK:=Nat.le_trans q.size cL;have B:=B.below x;have q:=btr q x;refine Za rfl<|ZX cJ fun a A _ cM=>?_;refine Zs A fun _ cN=>?_;refine Ze (Vn X2r B)<|Zf (Vc (F55 _ c Ac cc (aJ.below' q).top bC) Xtk) ?_;rintro _ w3 ⟨rfl,x⟩;have B:=B.below x;have g:=g.below x;have q:=btr q x;refine Ze (X1c rfl)<|Zt cN fun a A=>?_
 refine Xg A rfl (fun aL=>?_) (fun aL=>?_)
 ·have bD:=aL
  have W:cOk c=false:=by have:=aL;simpa using this
  refine Zs A fun _ bE=>?_;refine Ze (Xk (ps:=[]) (cs:=[vi 0,vi 0,vi 0,vi 0,.slice none 0 0,.slice none 0 0]) rfl (fun _=>by first|rfl|kernel_rfl))<|Zo (Vw [vi 0,vi 0,vi 0,vi 0,.slice none 0 0,.slice none 0 0] X04 g) ?_;rintro _ w4 ⟨y,hb⟩;have o:=g;have q:=Below.only q y aK;have g:=hb;refine Za rfl<|Zt bE fun a A=>?_;refine wp_ret<|X7<|X3 A (X1m A rfl (ResV.cellN (l:=[vi 0,vi 0,vi 0,vi 0,.slice none 0 0,.slice none 0 0]) rfl Xh (g.at 0) rfl) rfl) ?_
  rw [Xm1 W]
  exact ⟨none,0,none,0,rfl,(Rd.nil _ _ _ _ _),(Rd.nil _ _ _ _ _),q⟩
 have bD:=aL
 have W:cOk c=true:=by have:=aL;simpa using this
 obtain ⟨n,hn,cY,cO⟩:=Xc9 W;have d5:=Xj7 W;refine wp_skip<|cM _ _<|Zs A fun _ bF=>?_;refine Ze (Vd rfl X3h 0)<|Ze (Vx (X0 rfl X2 (B.at 0)) hn)<|Ze (Xk (ps:=[(0,vi (n:Int))]) (cs:=[vi (n:Int),vi 0,vi 0,vi 0,.slice none 0 0,.slice none 0 0]) rfl (fun _=>by first|rfl|kernel_rfl))<|Zf (Xm7) ?_;rintro _ w5 ⟨H,rfl,bG,x,e⟩;have aX:=Nat.le_trans q.size bG;have B:=B.below x;have g:=g.below x;have q:=btr q x;refine Ze (Xk (ps:=[(0,.agg #[vi (n:Int),vi 0,vi 0,vi 0,.slice none 0 0,.slice none 0 0]),(1,.map (some H))]) (cs:=[vi (n:Int),vi 0,vi 0,vi 0,.slice none 0 0,.slice none 0 0,.map (some H),.slice none 0 0]) rfl (fun _=>by first|rfl|kernel_rfl))<|Zf (X14 (zs:=[vi (n:Int),vi 0,vi 0,vi 0,.slice none 0 0,.slice none 0 0,.map (some H),.slice none 0 0]) rfl rfl) ?_;rintro _ w6 ⟨aD,rfl,bH,x,d⟩;have I:=Nat.le_trans q.size bH;have B:=B.below x;have g:=g.below x;have e:=e.below x;have q:=btr q x;refine Za rfl<|ZX bF fun a A _ bJ=>?_;refine Zs A fun _ bK=>?_;refine Ze (Vd rfl X3h 0)<|Ze (Vx (X0 rfl X2 (B.at 0)) hn)<|Zm rfl<|Zt bK fun a A=>?_;refine wp_block<|X06 (σ:=Nat×(List Af)) (fun (s:Nat×(List Af)) (a:Act) (w:World)=>match s with|(k,l)=>∃ aM aN,Fr a 79 [(1,.pointer (some ⟨b3,0,none⟩)),(2,.pointer (some ⟨b6,0,none⟩)),(4,.pointer (some ⟨aD,0,none⟩)),(19,vi (n:Int)),(20,vi (k:Int))]∧(k≤n)∧(l=varsN k)∧Blk w b3 25 [vi c.n,.slice Ac c.gs.length cc]∧Blk w b6 30 [vi 0,vi 0,vi 0,vi 0,.slice none 0 0,.slice none 0 0]∧MapF w H (fun _=>0)∧Blk w aD 62 [vi (n:Int),vi 0,vi 0,vi 0,.slice none 0 0,.slice none 0 0,.map (some H),.slice aM l.length aN]∧Own w w0.heap.size 34 2 encA aM aN l∧Below w0.heap.size w0 w) (fun (s:Nat×(List Af))=>match s with|(k,l)=>n-k) (0,[]) ?_ ?_
 ·exact ⟨none,0,A.sb,(Nat.zero_le _),rfl,B,g,e,d,(Own.nil _ _ _ _ _),q⟩
 rintro ⟨k,l⟩ a w7 ⟨aM,aN,A,hk,hl,B,g,e,d,L,q⟩;refine Zs A fun _ bL=>?_;refine Ze (X1n rfl rfl)<|ZX bL fun a A _ bN=>?_
 refine Xg A rfl (fun Q=>?_) (fun Q=>?_)
 ·have aY:=Q;have Q:=of_decide_eq_true Q;refine wp_skip<|bN _ _<|wp_seq_k fun _ bO=>?_;refine wp_block<|Zs A fun _ bP=>?_;refine Zm rfl<|Za rfl<|Zt bP fun a A=>?_;refine Xq none (fun j=>[9,12].contains j) mixed ?_;intro w8 x;have B:=B.below x;have g:=g.below x;have e:=e.below x;have d:=d.below x;have L:=L.below x;have q:=btr q x;refine Yb A<|Yo 0 rfl (fun _=>X4 rfl)<|Yo 1 rfl (fun _=>X4 rfl)<|Yo 2 rfl (fun _=>X0v rfl)<|Yo 3 rfl (fun _=>Vd rfl X26 7)<|Ye 4 rfl (X0 rfl X08 (d.at 7)) ?_;refine Yo 5 rfl (fun _=>X4 rfl)<|Yo 6 rfl (fun _=>Xg8 (m:=k) (D:=(2^k:Nat)) rfl rfl rfl ⟨rfl,by omega⟩)<|Yo 7 rfl (fun _=>Xk (ps:=[(0,vi ((2^k:Nat) : Int))]) (cs:=[vi ((2^k:Nat) : Int),vi 0]) rfl (fun _=>by first|rfl|kernel_rfl))<|Y1 8 ?_;refine Yk rfl trivial (Xb (k:=1) (vs:=[.agg #[vi ((2^k:Nat) : Int),vi 0]]) (zs:=[vi ((2^k:Nat) : Int),vi 0]) rfl Xr X1l rfl rfl) (fun _ _ ⟨_,_,_,h,_⟩=>h) ?_;rintro _ w9 ⟨d6,rfl,aU,x,aO⟩;have cP:=Nat.le_trans q.size aU;have aH:=L.away aU;have B:=B.below x;have g:=g.below x;have e:=e.below x;have d:=d.below x;have L:=L.below x;have q:=btr q x;refine Y1 9<|Yt rfl trivial rfl (X1e (enc:=encA) (l:=(l)) (l2:=([(⟨((2^k:Nat) : Int),0⟩ : Af)])) (B0:=w0.heap.size) rfl rfl Xr X1l Xv X3o L (Rd.of_blk aO rfl _ aO.lt) (by simp only [maxLen];rw [hl];simp [X4c];omega) (by rw [hl];simp [X4c];omega) q.size) ?_;rintro _ d7 ⟨aZ,b0,rfl,aP,hg,bR⟩
  have aB:Own _ w0.heap.size 34 2 encA _ _ (l):=L
  have b9:=bR _ aO.lt aH;clear bR;have B:=B.appT aB hg rfl;have g:=g.appT aB hg rfl;have e:=e.app aB hg;have d:=d.appT aB hg rfl;have q:=Below.app q aB hg (Nat.le_refl _) q.size;clear aB hg;refine Yo 10 rfl (fun _=>X0v rfl)<|Yo 11 rfl (fun _=>Vd rfl X26 7)<|Y1 12 ?_;refine Yh rfl trivial rfl (Vu (vs:=[.slice aZ (l++([(⟨((2^k:Nat) : Int),0⟩ : Af)])).length b0]) (l':=[vi (n:Int),vi 0,vi 0,vi 0,.slice none 0 0,.slice none 0 0,.map (some H),.slice aZ (l++([(⟨((2^k:Nat) : Int),0⟩ : Af)])).length b0]) rfl rfl X2s d) ?_;rintro _ d8 ⟨y,hb⟩;have o:=d;have B:=B.only y (Blk.ne B o rfl);have g:=g.only y (Blk.ne g o rfl);have e:=e.only y (e.ne o);have aP:=aP.onlyT y o rfl;have q:=Below.only q y I;have d:=hb;refine Yd fun a A=>?_;refine Xa<|bO _ _<|Zr A<|Ze (Xu rfl rfl (by omega) (by omega))<|Zm rfl ?_;refine Zn fun a A=>?_;refine Xd ?_;exact ⟨(k+1,l++([(⟨((2^k:Nat) : Int),0⟩ : Af)])),⟨aZ,b0,A.sb,(by omega),(by rw [Xb7,hl];rfl),B,g,e,d,aP,q⟩,(by first|omega|(dsimp only;omega))⟩
 have aY:=Q;have Q:=of_decide_eq_false Q
 have cQ:k=n:=by have:=Q;omega
 refine wp_exit<|Xi<|Xi<|X03 ?_;refine bJ _ _<|wp_seq_k fun _ bS=>?_;refine Zs A fun _ bU=>?_;refine Ze (Vd rfl X2d 1)<|Ze (X0 rfl X66 (B.at 1))<|Ze (X1f rfl X3c)<|Zm rfl<|Zt bU fun a A=>?_;refine wp_block ?_
 have cR:l.length=n:=by rw [hl,X4c];omega
 replace d:Blk w7 aD 62 [vi (n:Int),vi 0,vi 0,vi 0,.slice none 0 0,.slice none 0 0,.map (some H),.slice aM n aN]:=by have e9:=d;rw [cR] at e9;exact e9
 have cS:l=(ps0 n).out:=by rw [hl,cQ];rfl
 rw [cS] at L
 refine X06 (σ:=Nat×Pst) (fun (s:Nat×Pst) (a:Act) (w:World)=>match s with|(i,ps)=>∃ C E,Fr a 79 [(2,.pointer (some ⟨b6,0,none⟩)),(4,.pointer (some ⟨aD,0,none⟩)),(37,.slice Ac c.gs.length cc),(38,vi (c.gs.length:Int)),(39,vi (i:Int))]∧(i≤c.gs.length)∧(psAll n (c.gs.take i) (ps0 n)=some ps)∧(PsOk n ps)∧(SupF ps.f)∧Blk w b6 30 [vi 0,vi 0,vi 0,vi 0,.slice none 0 0,.slice none 0 0]∧MapF w H ps.f∧Blk w aD 62 [vi (n:Int),vi (ps.v:Int),vi (ps.v:Int),vi 0,.slice none 0 0,.slice none 0 0,.map (some H),.slice C n E]∧Own w w0.heap.size 34 2 encA C E ps.out∧Below w0.heap.size w0 w) (fun (s:Nat×Pst)=>match s with|(i,ps)=>c.gs.length-i) (0,(ps0 n)) ?_ ?_
 ·exact ⟨aM,aN,A.sb,(Nat.zero_le _),rfl,(PsOk.zero cO),SupF.zero,g,e,d,L,q⟩
 rintro ⟨i,ps⟩ a dB ⟨C,E,A,hi,aS,aI,b1,g,e,d,p,q⟩;refine Zs A fun _ bW=>?_;refine Ze (X1n rfl rfl)<|ZX bW fun a A _ bX=>?_
 refine Xg A rfl (fun U=>?_) (fun U=>?_)
 ·have b2:=U;have U:=of_decide_eq_true U
  obtain ⟨aA,aG⟩:=Xm (l:=c.gs) (k:=i) (by omega)
  refine wp_skip<|bX _ _<|wp_seq_k fun _ bY=>?_;refine wp_block<|Zs A fun _ bZ=>?_;refine Zi (k:=i) (u:=aA) (enc:=encG) (l:=c.gs) trivial rfl rfl X3c X2q X3n (aJ.below' q) aG rfl ?_;intro dC b4;refine Ze (X0b (l:=[vi aA.k,vi aA.a,vi aA.b]) rfl X23 b4 rfl)<|Zf (X6 (zs:=[vi 0,vi 0,vi 0]) Xb9 rfl) ?_;rintro _ dD ⟨dE,rfl,aW,x,aC⟩;have b5:=Nat.le_trans q.size aW;have c4:=(aJ.below' q).away aW;have g:=g.below x;have e:=e.below x;have d:=d.below x;have p:=p.below x;have q:=btr q x;refine Zo (Vw [vi aA.k,vi aA.a,vi aA.b] X2q aC) ?_;rintro _ dF ⟨y,hb⟩;have o:=aC;have g:=g.only y (Blk.ne g o rfl);have e:=e.only y (e.ne o);have d:=d.only y (Blk.ne d o rfl);have p:=p.onlyT y o rfl;have q:=Below.only q y b5;have aC:=hb;refine Zx bZ fun a A _ cA=>?_;refine Zm rfl<|Ze (Vn X23 aC)<|Zf (Vc (Y01 _ aD H w0.heap.size C E n ps ⟨d,e,p⟩ aI aA (Xu0 W hn aG)) Xs4) ?_;rintro _ dG ⟨rfl,aT,cC,cD,cE⟩;have g:=g.ts3 aT d e.nc p rfl rfl;have aC:=aC.ts3 aT d e.nc p rfl rfl
  have q:=Below.ts q aT (fun k9 b7=>by rcases b7 with rfl|rfl|b7;exact I;exact aX;exact Xuz p b7) q.size
  clear aT d e p;have d:=cC;have e:=cD;have p:=cE;clear cC cD cE;refine Ze (X1c rfl)<|Zt cA fun a A=>?_
  refine Xg A rfl (fun aE=>?_) (fun aE=>?_)
  ·have b8:=aE
   have cU:psStep n ps aA=none:=by have:=aE;simpa using this
   refine Zs A fun _ cF=>?_;refine Ze (Xk (ps:=[]) (cs:=[vi 0,vi 0,vi 0,vi 0,.slice none 0 0,.slice none 0 0]) rfl (fun _=>by first|rfl|kernel_rfl))<|Zo (Vw [vi 0,vi 0,vi 0,vi 0,.slice none 0 0,.slice none 0 0] X04 g) ?_;rintro _ dH ⟨y,hb⟩;have o:=g;have q:=Below.only q y aK;have g:=hb;refine Za rfl<|Zt cF fun a A=>?_;refine wp_ret<|Xw<|X7<|X7 ?_;refine Xw<|X7<|X3 A (X1m A rfl (ResV.cellN (l:=[vi 0,vi 0,vi 0,vi 0,.slice none 0 0,.slice none 0 0]) rfl Xh (g.at 0) rfl) rfl) ?_
   rw [Xlp W hn aG aS cU]
   exact ⟨none,0,none,0,rfl,(Rd.nil _ _ _ _ _),(Rd.nil _ _ _ _ _),q⟩
  have b8:=aE
  obtain ⟨dI,aF⟩ : ∃ t,psStep n ps aA=some t:=Option.isSome_iff_exists.1 (by have:=aE;simpa using this)
  refine wp_skip<|Xa<|bY _ _<|Zr A ?_;refine Ze (Xu rfl rfl (by omega) (by omega))<|Zm rfl ?_;refine Zn fun a A=>?_;refine Xd ?_;exact ⟨(i+1,((psStep n ps aA).getD ps)),⟨C,E,A.sb,(by omega),(by rw [X2b aG aS,aF];rfl),(by rw [aF];exact aI.step aF),(by rw [aF];exact b1.step aI aF),g,e,d,p,q⟩,(by first|omega|(dsimp only;omega))⟩
 have b2:=U;have U:=of_decide_eq_false U
 have cW:i=c.gs.length:=by have:=U;omega
 refine wp_exit<|Xi<|Xi<|X03 ?_;refine bS _ _<|wp_seq_k fun _ cG=>?_;refine X0j (fun a w=>∃ M N,Fr a 79 [(2,.pointer (some ⟨b6,0,none⟩)),(4,.pointer (some ⟨aD,0,none⟩))]∧Own w w0.heap.size 76 2 encT M N (tms ps.f)∧Blk w b6 30 [vi 0,vi 0,vi 0,vi 0,.slice none 0 0,.slice none 0 0]∧MapF w H ps.f∧Blk w aD 62 [vi (n:Int),vi (ps.v:Int),vi (ps.v:Int),vi (ps.f 0),.slice M (tms ps.f).length N,.slice C n E,.map (some H),.slice C n E]∧Own w w0.heap.size 34 2 encA C E ps.out∧Below w0.heap.size w0 w) ?_ ?_
 ·refine Xq none (fun j=>[20,24,28].contains j) mixed ?_;intro dJ x;have g:=g.below x;have e:=e.below x;have d:=d.below x;have p:=p.below x;have q:=btr q x;refine Yb A<|Yo 0 rfl (fun _=>X4 rfl)<|Yo 1 rfl (fun _=>X4 rfl)<|Yo 2 rfl (fun _=>X4 rfl)<|Yo 3 rfl (fun _=>X4 rfl)<|Yo 4 rfl (fun _=>X0v rfl) ?_;refine Yo 5 rfl (fun _=>Vd rfl X38 6)<|Ye 6 rfl (X0 rfl X51 (d.at 6))<|Yo 8 rfl (fun _=>X4 rfl)<|Yo 9 rfl (fun _=>X0v rfl)<|Yo 10 rfl (fun _=>Vd rfl X38 6) ?_;refine Ye 11 rfl (X0 rfl X51 (d.at 6))<|Yo 13 rfl (fun _=>X4 rfl)<|Yo 14 rfl (fun _=>X0v rfl)<|Yo 15 rfl (fun _=>Vd rfl X26 7)<|Ye 16 rfl (X0 rfl X08 (d.at 7)) ?_;refine Y2 7 12 ?_ ?_
  ·refine Yz rfl trivial (Uev (Xbw (f:=ps.f) rfl rfl Tryz.underlying60 e)) ?_;refine Y1 12<|Yk rfl trivial (Vc (Xiz _ H ps.f e aI.po b1) Xb0) (fun _ _ ⟨M,N,_,G,x⟩=>x) ?_;rintro _ dK ⟨M,N,rfl,G,x⟩;have G:=G.lower q.size;have g:=g.below x;have e:=e.below x;have d:=d.below x;have p:=p.below x;have q:=btr q x;refine Yo 17 rfl (fun _=>X0v rfl)<|Yo 18 rfl (fun _=>Vd rfl X25 0)<|Yo 19 rfl (fun _=>Vd rfl X1g 3)<|Y1 20 ?_;refine Yh rfl trivial rfl (Vu (vs:=[vi (ps.f 0)]) (l':=[vi (n:Int),vi (ps.v:Int),vi (ps.v:Int),vi (ps.f 0),.slice none 0 0,.slice none 0 0,.map (some H),.slice C n E]) rfl rfl X12 d) ?_;rintro _ dL ⟨y,hb⟩;have o:=d;have g:=g.only y (Blk.ne g o rfl);have e:=e.only y (e.ne o);have p:=p.onlyT y o rfl;have G:=G.onlyT y o rfl;have q:=Below.only q y I;have d:=hb;refine Yo 21 rfl (fun _=>X0v rfl)<|Yo 22 rfl (fun _=>Vd rfl X25 0)<|Yo 23 rfl (fun _=>Vd rfl X0o 4)<|Y1 24 ?_;refine Yh rfl trivial rfl (Vu (vs:=[.slice M (tms ps.f).length N]) (l':=[vi (n:Int),vi (ps.v:Int),vi (ps.v:Int),vi (ps.f 0),.slice M (tms ps.f).length N,.slice none 0 0,.map (some H),.slice C n E]) rfl rfl X29 d) ?_;rintro _ dM ⟨y,hb⟩;have o:=d;have g:=g.only y (Blk.ne g o rfl);have e:=e.only y (e.ne o);have p:=p.onlyT y o rfl;have G:=G.onlyT y o rfl;have q:=Below.only q y I;have d:=hb;refine Yo 25 rfl (fun _=>X0v rfl)<|Yo 26 rfl (fun _=>Vd rfl X25 0)<|Yo 27 rfl (fun _=>Vd rfl Xx 5)<|Y1 28 ?_;refine Yh rfl trivial rfl (Vu (vs:=[.slice C n E]) (l':=[vi (n:Int),vi (ps.v:Int),vi (ps.v:Int),vi (ps.f 0),.slice M (tms ps.f).length N,.slice C n E,.map (some H),.slice C n E]) rfl rfl X2s d) ?_;rintro _ dN ⟨y,hb⟩
   have o:=d;have g:=g.only y (Blk.ne g o rfl);have e:=e.only y (e.ne o);have p:=p.onlyT y o rfl;have G:=G.onlyT y o rfl;have q:=Below.only q y I;have d:=hb;refine Yd fun a A=>?_;exact ⟨M,N,A.sb,G,g,e,d,p,q⟩
  refine Yk rfl trivial (Vc (Xiz _ H ps.f e aI.po b1) Xb0) (fun _ _ ⟨aQ,aR,_,J,x⟩=>x) ?_;rintro _ dO ⟨aQ,aR,rfl,J,x⟩;have J:=J.lower q.size;have g:=g.below x;have e:=e.below x;have d:=d.below x;have p:=p.below x;have q:=btr q x;refine Y1 7<|Yz rfl trivial (Uev (Xbw (f:=ps.f) rfl rfl Tryz.underlying60 e)) ?_;refine Yo 17 rfl (fun _=>X0v rfl)<|Yo 18 rfl (fun _=>Vd rfl X25 0)<|Yo 19 rfl (fun _=>Vd rfl X1g 3)<|Y1 20 ?_;refine Yh rfl trivial rfl (Vu (vs:=[vi (ps.f 0)]) (l':=[vi (n:Int),vi (ps.v:Int),vi (ps.v:Int),vi (ps.f 0),.slice none 0 0,.slice none 0 0,.map (some H),.slice C n E]) rfl rfl X12 d) ?_;rintro _ dP ⟨y,hb⟩;have o:=d;have g:=g.only y (Blk.ne g o rfl);have e:=e.only y (e.ne o);have p:=p.onlyT y o rfl;have J:=J.onlyT y o rfl;have q:=Below.only q y I;have d:=hb;refine Yo 21 rfl (fun _=>X0v rfl)<|Yo 22 rfl (fun _=>Vd rfl X25 0)<|Yo 23 rfl (fun _=>Vd rfl X0o 4)<|Y1 24 ?_;refine Yh rfl trivial rfl (Vu (vs:=[.slice aQ (tms ps.f).length aR]) (l':=[vi (n:Int),vi (ps.v:Int),vi (ps.v:Int),vi (ps.f 0),.slice aQ (tms ps.f).length aR,.slice none 0 0,.map (some H),.slice C n E]) rfl rfl X29 d) ?_;rintro _ dQ ⟨y,hb⟩;have o:=d;have g:=g.only y (Blk.ne g o rfl);have e:=e.only y (e.ne o);have p:=p.onlyT y o rfl;have J:=J.onlyT y o rfl;have q:=Below.only q y I;have d:=hb;refine Yo 25 rfl (fun _=>X0v rfl)<|Yo 26 rfl (fun _=>Vd rfl X25 0)<|Yo 27 rfl (fun _=>Vd rfl Xx 5)<|Y1 28 ?_;refine Yh rfl trivial rfl (Vu (vs:=[.slice C n E]) (l':=[vi (n:Int),vi (ps.v:Int),vi (ps.v:Int),vi (ps.f 0),.slice aQ (tms ps.f).length aR,.slice C n E,.map (some H),.slice C n E]) rfl rfl X2s d) ?_;rintro _ dR ⟨y,hb⟩
  have o:=d;have g:=g.only y (Blk.ne g o rfl);have e:=e.only y (e.ne o);have p:=p.onlyT y o rfl;have J:=J.onlyT y o rfl;have q:=Below.only q y I;have d:=hb;refine Yd fun a A=>?_;exact ⟨aQ,aR,A.sb,J,g,e,d,p,q⟩
 rintro a dS ⟨M,N,A,G,g,e,d,p,q⟩;refine cG _ _<|Zs A fun _ cH=>?_;refine Zm rfl<|Ze (X0v rfl)<|Ze (Vd rfl X25 0)<|Ze (X0b (l:=[vi (n:Int),vi (ps.v:Int),vi (ps.v:Int),vi (ps.f 0),.slice M (tms ps.f).length N,.slice C n E]) rfl Xh ((d.at 0).take 6) rfl)<|Zo (Vw [vi (n:Int),vi (ps.v:Int),vi (ps.v:Int),vi (ps.f 0),.slice M (tms ps.f).length N,.slice C n E] X04 g) ?_;rintro _ dU ⟨y,hb⟩;have o:=g;have p:=p.onlyT y o rfl;have G:=G.onlyT y o rfl;have q:=Below.only q y aK;have g:=hb;refine Za rfl<|Zt cH fun a A=>?_
 refine wp_ret (X3 A (X1m A rfl (ResV.cellN (l:=[vi (n:Int),vi (ps.v:Int),vi (ps.v:Int),vi (ps.f 0),.slice M (tms ps.f).length N,.slice C n E]) rfl Xh (g.at 0) rfl) rfl) ?_)
 rw [cW,List.take_length] at aS
 rw [Xof W hn aS]
 exact ⟨M,N,C,E,(by rw [← aI.len];rfl),G.rd.top,p.rd.top,q⟩
theorem X3k(w0:World)(bV:Nat)(f:Int→Int)(AT:Option Addr)(cT:Nat)(b:Blk w0 bV 105 [vi (f 0),.slice AT (tms f).length cT])(A:Rd w0 w0.heap.size 76 encT AT (tms f))(M:(tms f).length≤cT)(aX:PO f)(dU:SupF f)(m:Int)(k:Int)(hm:Mk m)(hk:-1000≤k∧k≤1000) : Ret Tryz.prog 60 [.pointer (some ⟨bV,0,none⟩),vi m,vi k] w0 (fun v w=>v=.tuple #[]∧Kept bV w0.heap.size w0 w∧∃ A9 c9,Blk w bV 105 [vi ((padd f m k) 0),.slice A9 (tms (padd f m k)).length c9]∧Rd w w.heap.size 76 encT A9 (tms (padd f m k))∧(tms (padd f m k)).length≤c9):=by
 have dS:=b.lt;have dW:=X88 f;have dX:=Xn5 k;have e8:=aX 0;refine enter Tryz.func60 rfl 154 rfl rfl ?_;intro a p
 have g:Kept bV w0.heap.size w0 w0:=Kept.refl _ _ _
 refine Zs p fun _ dI=>?_;refine Zm rfl<|Ze (X5v rfl rfl rfl)<|Ze (Xu rfl rfl (by omega) (by omega))<|Ze (Vx (X5v rfl rfl rfl) (Xu8 k))<|Za rfl ?_;refine ZX dI fun a p _ dJ=>?_;refine Zs p fun _ dK=>?_;refine Zm rfl<|Ze (X0l rfl rfl)<|Zt dK fun a p=>?_
 refine Xg p rfl (fun aQ=>?_) (fun aQ=>?_)
 ·have C:=aQ
  have bY:m=0:=by have:=aQ;simpa using this
  refine Zs p fun _ dL=>?_;refine Zm rfl<|Zm rfl<|Ze (X0v rfl)<|Ze (Vd rfl X3q 0)<|Ze (X0 rfl X2 (b.at 0)) ?_;refine Zm rfl<|Ze (Xu rfl rfl (by omega) (by omega))<|Ze (Vx (X5v rfl rfl rfl) (Xeo (by omega)))<|Ze (X0v rfl)<|Ze (Vd rfl X3q 0) ?_;refine Zo (X2z (vs:=[vi ((f 0+k % 8) % 8)]) (l':=[vi ((f 0+k % 8) % 8),.slice AT (tms f).length cT]) rfl rfl X12 b rfl rfl rfl rfl rfl) ?_;rintro _ w1 ⟨H,hb⟩;have q:=b;have A:=A.onlyT H q rfl;have g:=g.self H;have b:=hb;refine Zt dL fun a p=>?_;refine wp_ret<|X7<|X3 p (Xag rfl) ?_
  subst bY
  rw [show f 0+k % 8=f 0+k % 8 from rfl,show (f 0+k % 8) % 8=padd f 0 k 0 from by show _=upd f 0 _ 0;rw [X9g];omega] at b
  rw [← Xl7 f k] at b A M
  exact ⟨rfl,g,AT,cT,b,A.top,M⟩
 have C:=aQ
 have bY:m≠0:=by have:=aQ;simpa using this
 have aJ:0<m:=by have:=hm.1;omega
 refine wp_skip<|dJ _ _<|wp_seq_k fun _ dM=>?_;refine Zs p fun _ dN=>?_;refine Zm rfl<|Ze (X0l rfl rfl)<|Zt dN fun a p=>?_
 refine Xg p rfl (fun aR=>?_) (fun aR=>?_)
 ·have D:=aR
  have b2:k % 8=0:=by have:=aR;simpa using this
  refine wp_ret<|X7<|X3 p (Xag rfl) ?_
  rw [Xld aX b2]
  exact ⟨rfl,g,AT,cT,b,A.top,M⟩
 have D:=aR
 have b2:k % 8≠0:=by have:=aR;simpa using this
 refine wp_skip<|dM _ _<|Zs p fun _ bZ=>?_;refine Za rfl<|ZX bZ fun a p _ c4=>?_;refine wp_block<|X06 (σ:=Nat) (fun (i:Nat) (a:Act) (w:World)=>Fr a 154 [(0,.pointer (some ⟨bV,0,none⟩)),(1,vi m),(2,vi (k % 8)),(6,vi (i:Int))]∧(i≤(tms f).length)∧(∀ t ∈ (tms f).take i,t.m<m)∧Blk w bV 105 [vi (f 0),.slice AT (tms f).length cT]∧Rd w w0.heap.size 76 encT AT (tms f)∧(tms f).length≤cT∧Kept bV w0.heap.size w0 w) (fun (i:Nat)=>(tms f).length-i) 0 ?_ ?_
 ·exact ⟨p.sb,(Nat.zero_le _),(fun t ht=>by cases ht),b,A,M,g⟩
 rintro i a w2 ⟨p,hi,aE,b,A,M,g⟩;refine wp_seq_k fun _ cA=>?_;refine wp_seq_k fun _ cC=>?_;refine X0j (fun a w=>Fr a 154 [(0,.pointer (some ⟨bV,0,none⟩)),(1,vi m),(2,vi (k % 8)),(6,vi (i:Int)),(45,.bool ((decide ((i:Int)<((tms f).length:Int)))&&(decide ((((tms f).getD i tZ).m)<m))))]∧w2=w) ?_ ?_
 ·refine Zr p<|Zm rfl<|Zm rfl<|Ze (X0v rfl)<|Ze (Vd rfl X0z 1)<|Ze (X0 rfl X0y (b.at 1)) ?_;refine Ze (X1f rfl X05)<|Ze (X1n rfl rfl)<|Zm rfl ?_
  refine Zg 34 rfl (fun d=>?_) (fun d=>?_)
  ·have aY:i<(tms f).length:=by have:=d;simpa using this
   refine Zv (gW d) (X4 rfl) ?_;refine Zv (gW d) (X0v rfl) ?_;refine Zv (gW d) (Vd rfl X0z 1) ?_;refine Zv (gW d) (X0 rfl X0y (b.at 1)) ?_;refine Zv (gW d) (X4 rfl) ?_;refine Zi (k:=i) (u:=((tms f).getD i tZ)) (enc:=encT) (l:=(tms f)) ⟨_,_,rfl,rfl,d⟩ rfl rfl X05 X1h X0m A (Xa4 aY) rfl ?_;intro eA b3;refine Zv (gW d) (Xc3 rfl X16) ?_;refine Zv (gW d) (X0 rfl X2 (b3.drop 0)) ?_;refine Zv (gW d) (X4 rfl) ?_;refine Zv (gW d) (X1n rfl rfl) ?_;refine Ze (X5 rfl d rfl) ?_;refine Zn fun a p=>?_;exact ⟨p.sub ⟨rfl,rfl,rfl,rfl,X1 rfl (by first|rfl|(simp only [C,D,d,bs];done)|simp [C,D,d]),trivial⟩,rfl⟩
  refine Zp (gP d) ?_;refine Zp (gP d) ?_;refine Zp (gP d) ?_;refine Zp (gP d) ?_;refine Zp (gP d) ?_;refine Zp (gP d) ?_;refine Zp (gP d) ?_;refine Zp (gP d) ?_;refine Zp (gP d) ?_;refine Zp (gP d) ?_;refine Ze (Xc rfl d rfl) ?_;refine Zn fun a p=>?_;exact ⟨p.sub ⟨rfl,rfl,rfl,rfl,X1 rfl (by first|rfl|(simp only [C,D,d,bs];done)|simp [C,D,d]),trivial⟩,rfl⟩
 rintro a _ ⟨p,rfl⟩;refine cC _ _ ?_
 refine Xg p rfl (fun U=>?_) (fun U=>?_)
 ·have I:=U
  have aY:i<(tms f).length∧((tms f).getD i tZ).m<m:=by have:=U;simpa using this
  refine wp_skip<|cA _ _<|wp_block<|Zr p ?_;refine Zm rfl<|Ze (Xu rfl rfl (by omega) (by omega))<|Za rfl ?_;refine Zn fun a p=>?_;refine Xa<|Xd ?_;exact ⟨i+1,⟨p.sb,(by omega),(Xr4 aE aY.1 aY.2),b,A,M,g⟩,(by omega)⟩
 have I:=U
 have dO:¬ (i<(tms f).length∧((tms f).getD i tZ).m<m):=by have:=U;simpa using this
 refine wp_exit<|Xi<|Xi<|X03 ?_;refine c4 _ _<|wp_seq_k fun _ cD=>?_;refine wp_seq_k fun _ cE=>?_;refine X0j (fun a w=>Fr a 154 [(0,.pointer (some ⟨bV,0,none⟩)),(1,vi m),(2,vi (k % 8)),(6,vi (i:Int)),(66,.bool ((decide ((i:Int)<((tms f).length:Int)))&&((((tms f).getD i tZ).m)==m)))]∧w2=w) ?_ ?_
 ·refine Zr p<|Zm rfl<|Zm rfl<|Ze (X0v rfl)<|Ze (Vd rfl X0z 1)<|Ze (X0 rfl X0y (b.at 1)) ?_;refine Ze (X1f rfl X05)<|Ze (X1n rfl rfl)<|Zm rfl ?_
  refine Zg 55 rfl (fun e=>?_) (fun e=>?_)
  ·have J:i<(tms f).length:=by have:=e;simpa using this
   refine Zv (gW e) (X4 rfl) ?_;refine Zv (gW e) (X0v rfl) ?_;refine Zv (gW e) (Vd rfl X0z 1) ?_;refine Zv (gW e) (X0 rfl X0y (b.at 1)) ?_;refine Zv (gW e) (X4 rfl) ?_;refine Zi (k:=i) (u:=((tms f).getD i tZ)) (enc:=encT) (l:=(tms f)) ⟨_,_,rfl,rfl,e⟩ rfl rfl X05 X1h X0m A (Xa4 J) rfl ?_;intro eB b4;refine Zv (gW e) (Xc3 rfl X16) ?_;refine Zv (gW e) (X0 rfl X2 (b4.drop 0)) ?_;refine Zv (gW e) (X4 rfl) ?_;refine Zv (gW e) (X0l rfl rfl) ?_;refine Ze (X5 rfl e rfl) ?_;refine Zn fun a p=>?_;exact ⟨p.sub ⟨rfl,rfl,rfl,rfl,X1 rfl (by first|rfl|(simp only [C,D,I,e,bs];done)|simp [C,D,I,e]),trivial⟩,rfl⟩
  refine Zp (gP e) ?_;refine Zp (gP e) ?_;refine Zp (gP e) ?_;refine Zp (gP e) ?_;refine Zp (gP e) ?_;refine Zp (gP e) ?_;refine Zp (gP e) ?_;refine Zp (gP e) ?_;refine Zp (gP e) ?_;refine Zp (gP e) ?_;refine Ze (Xc rfl e rfl) ?_;refine Zn fun a p=>?_;exact ⟨p.sub ⟨rfl,rfl,rfl,rfl,X1 rfl (by first|rfl|(simp only [C,D,I,e,bs];done)|simp [C,D,I,e]),trivial⟩,rfl⟩
 rintro a _ ⟨p,rfl⟩;refine cE _ _ ?_
 refine Xg p rfl (fun W=>?_) (fun W=>?_)
 ·have b5:=W
  obtain ⟨J,cF⟩ : i<(tms f).length∧((tms f).getD i tZ).m=m:=by have:=W;simpa using this
  have eC:=Xdn J;have eD:=aX ((tms f).getD i tZ).m;refine Zs p fun _ cG=>?_;refine Zm rfl<|Zm rfl<|Ze (X0v rfl)<|Ze (Vd rfl X0z 1)<|Ze (X0 rfl X0y (b.at 1)) ?_;refine Zm rfl<|Zi (k:=i) (u:=((tms f).getD i tZ)) (enc:=encT) (l:=(tms f)) trivial rfl rfl X05 X1h X0m A (Xa4 J) rfl ?_;intro eE b6;refine Ze (Xc3 rfl X24)<|Ze (X0 rfl X2 (b6.drop 1))<|Ze (Xu rfl rfl (by omega) (by omega))<|Ze (Vx (X5v rfl rfl rfl) (Xeo (by have:=Xdn J;have:=aX ((tms f).getD i tZ).m;omega)))<|Za rfl ?_;refine Zx cG fun a p _ cH=>?_;refine Zf (Xb (k:=0) (vs:=[]) (zs:=[]) rfl X05 X1a rfl rfl) ?_;rintro _ w3 ⟨eF,rfl,aZ,y,cJ⟩;have b7:=Nat.le_trans g.size aZ;have cK:=A.away aZ;have b:=b.below y;have A:=A.below y;have g:=ktr g y;refine Zm rfl<|Ze (X0v rfl)<|Ze (Vd rfl X0z 1)<|Ze (X0 rfl X0y (b.at 1))<|Zm rfl ?_;refine Ze (Xu rfl rfl (by omega) (by omega)) ?_;have cL:=(A.top).dropK X0m (c:=cT) M (i+1);refine Ze (Xms (l:=(tms f)) (k:=(i+1)) rfl rfl X05 X1h (by omega) (by omega))<|Zf (X7e (enc:=encT) (l2:=(((tms f).drop (i+1)))) rfl rfl X05 X1a X0m X2g cJ cL (by simp only [maxLen];simp;omega) (by simp;omega)) ?_;rintro _ w4 ⟨eG,eH,rfl,j,y,x⟩;clear x;have j:=j.lower b7;have b:=b.below y;have A:=A.below y;have g:=ktr g y;refine Za rfl<|Zx cH fun a p _ cM=>?_;refine Zm rfl<|Zf (Xb (k:=0) (vs:=[]) (zs:=[]) rfl X05 X1a rfl rfl) ?_;rintro _ w5 ⟨eI,rfl,aS,y,cN⟩;have b8:=Nat.le_trans g.size aS;have cO:=A.away aS;have aK:=j.away aS;have b:=b.below y;have A:=A.below y;have j:=j.below y
  have g:=ktr g y;refine Zm rfl<|Ze (X0v rfl)<|Ze (Vd rfl X0z 1)<|Ze (X0 rfl X0y (b.at 1))<|Zm rfl ?_;have cP:=(A.top).takeK X0m i;refine Ze (X52 (l:=(tms f)) (k:=i) rfl rfl X05 X1h rfl (by omega) M)<|Zf (X7e (enc:=encT) (l2:=(((tms f).take i))) rfl rfl X05 X1a X0m X2g cN cP (by simp only [maxLen];simp;omega) (by simp;omega)) ?_;rintro _ w6 ⟨cQ,cR,rfl,B,y,x⟩;have G:=Apart.new0 j aK x;clear x;have B:=B.lower b8;have b:=b.below y;have A:=A.below y;have j:=j.below y;have g:=ktr g y;refine Ze (X0v rfl)<|Ze (Vd rfl X0z 1)<|Zo (X2z (vs:=[.slice cQ ((tms f).take i).length cR]) (l':=[vi (f 0),.slice cQ ((tms f).take i).length cR]) rfl rfl X29 b rfl rfl rfl rfl rfl) ?_;rintro _ w7 ⟨H,hb⟩;have q:=b;have A:=A.onlyT H q rfl;have j:=j.onlyT H q rfl;have B:=B.onlyT H q rfl;have g:=g.self H;have b:=hb;refine ZX cM fun a p _ b0=>?_;refine Zs p fun _ cS=>?_;refine Zm rfl<|Ze (X42 rfl rfl)<|Zt cS fun a p=>?_
  refine Xg p rfl (fun E=>?_) (fun E=>?_)
  ·have b9:=E;have E:=of_decide_eq_true E
   have bC:(k % 8+((tms f).getD i tZ).c) % 8≠0:=by have:=E;omega
   refine Zr p<|Zm rfl<|Zm rfl<|Ze (X0v rfl)<|Ze (Vd rfl X0z 1)<|Ze (X0 rfl X0y (b.at 1)) ?_;refine Zm rfl<|Zm rfl<|Ze (Xk (ps:=[(0,vi m),(1,vi ((k % 8+((tms f).getD i tZ).c) % 8))]) (cs:=[vi m,vi ((k % 8+((tms f).getD i tZ).c) % 8)]) rfl (fun _=>by first|rfl|kernel_rfl))<|Zf (Xb (k:=1) (vs:=[.agg #[vi m,vi ((k % 8+((tms f).getD i tZ).c) % 8)]]) (zs:=[vi m,vi ((k % 8+((tms f).getD i tZ).c) % 8)]) rfl X05 X1a rfl rfl) ?_;rintro _ w8 ⟨eJ,rfl,aF,y,aT⟩;have dP:=Nat.le_trans g.size aF;have cU:=A.away aF;have bN:=j.away aF;have aL:=B.away aF;have b:=b.below y;have j:=j.below y;have B:=B.below y;have g:=ktr g y;refine Zf (X1e (enc:=encT) (l:=(((tms f).take i))) (l2:=([(⟨m,((k % 8+((tms f).getD i tZ).c) % 8)⟩ : Tm)])) (B0:=w0.heap.size) rfl rfl X05 X1a X0m X2g B (Rd.of_blk aT rfl _ aT.lt) (by simp only [maxLen];simp;omega) (by simp;omega) g.size) ?_;rintro _ w9 ⟨cW,cX,rfl,aG,N,x⟩
   have n:Own _ w0.heap.size 76 2 encT _ _ (((tms f).take i)):=B
   have bO:=x _ aT.lt aL;have aM:=Apart.app j G x;clear x;have b:=b.appT n N rfl;have j:=j.appP N G;have g:=Kept.app g n N (Nat.le_refl _) g.size;clear n N;refine Ze (X0v rfl)<|Ze (Vd rfl X0z 1)<|Zo (X2z (vs:=[.slice cW (((tms f).take i)++([(⟨m,((k % 8+((tms f).getD i tZ).c) % 8)⟩ : Tm)])).length cX]) (l':=[vi (f 0),.slice cW (((tms f).take i)++([(⟨m,((k % 8+((tms f).getD i tZ).c) % 8)⟩ : Tm)])).length cX]) rfl rfl X29 b rfl rfl rfl rfl rfl) ?_;rintro _ eK ⟨H,hb⟩;have q:=b;have j:=j.onlyT H q rfl;have aG:=aG.onlyT H q rfl;have g:=g.self H;have b:=hb;refine Zx b0 fun a p _ cY=>?_;refine Zm rfl<|Zm rfl<|Ze (X0v rfl)<|Ze (Vd rfl X0z 1)<|Ze (X0 rfl X0y (b.at 1)) ?_;refine Zm rfl<|Zf (X1e (enc:=encT) (l:=(((tms f).take i)++([(⟨m,((k % 8+((tms f).getD i tZ).c) % 8)⟩ : Tm)]))) (l2:=(((tms f).drop (i+1)))) (B0:=w0.heap.size) rfl rfl X05 X1a X0m X2g aG j.rd (by simp only [maxLen];simp;omega) (by simp;omega) g.size) ?_;rintro _ eL ⟨bD,bE,rfl,aA,N,x⟩
   have n:Own _ w0.heap.size 76 2 encT _ _ (((tms f).take i)++([(⟨m,((k % 8+((tms f).getD i tZ).c) % 8)⟩ : Tm)])):=aG
   have bP:=Apart.app j aM x;clear x;have b:=b.appT n N rfl;have g:=Kept.app g n N (Nat.le_refl _) g.size;clear n N;refine Ze (X0v rfl)<|Ze (Vd rfl X0z 1)<|Zo (X2z (vs:=[.slice bD ((((tms f).take i)++([(⟨m,((k % 8+((tms f).getD i tZ).c) % 8)⟩ : Tm)]))++((tms f).drop (i+1))).length bE]) (l':=[vi (f 0),.slice bD ((((tms f).take i)++([(⟨m,((k % 8+((tms f).getD i tZ).c) % 8)⟩ : Tm)]))++((tms f).drop (i+1))).length bE]) rfl rfl X29 b rfl rfl rfl rfl rfl) ?_;rintro _ eM ⟨H,hb⟩;have q:=b;have aA:=aA.onlyT H q rfl;have g:=g.self H;have b:=hb;refine Zt cY fun a p=>?_;refine wp_ret<|X7<|X3 p (Xag rfl) ?_
   have e9:=Xjk (k:=k) aJ hm aE J cF
   rw [if_pos bC] at e9
   rw [e9] at b aA
   rw [← Xbb (f:=f) (k:=k) aJ] at b
   exact ⟨rfl,g,bD,bE,b,aA.rd.top,aA.cap⟩
  have b9:=E;have E:=of_decide_eq_false E
  have bC:¬ (k % 8+((tms f).getD i tZ).c) % 8≠0:=by have:=E;omega
  refine wp_skip<|b0 _ _<|Zs p fun _ d5=>?_;refine Zm rfl<|Zm rfl<|Ze (X0v rfl)<|Ze (Vd rfl X0z 1)<|Ze (X0 rfl X0y (b.at 1)) ?_;refine Zm rfl<|Zf (X1e (enc:=encT) (l:=(((tms f).take i))) (l2:=(((tms f).drop (i+1)))) (B0:=w0.heap.size) rfl rfl X05 X1a X0m X2g B j.rd (by simp only [maxLen];simp;omega) (by simp;omega) g.size) ?_;rintro _ eN ⟨bF,bG,rfl,aB,N,x⟩
  have n:Own _ w0.heap.size 76 2 encT _ _ (((tms f).take i)):=B
  have bR:=Apart.app j G x;clear x;have b:=b.appT n N rfl;have g:=Kept.app g n N (Nat.le_refl _) g.size;clear n N;refine Ze (X0v rfl)<|Ze (Vd rfl X0z 1)<|Zo (X2z (vs:=[.slice bF (((tms f).take i)++((tms f).drop (i+1))).length bG]) (l':=[vi (f 0),.slice bF (((tms f).take i)++((tms f).drop (i+1))).length bG]) rfl rfl X29 b rfl rfl rfl rfl rfl) ?_;rintro _ eO ⟨H,hb⟩;have q:=b;have aB:=aB.onlyT H q rfl;have g:=g.self H;have b:=hb;refine Zt d5 fun a p=>?_;refine wp_ret<|X7<|X3 p (Xag rfl) ?_
  have e9:=Xjk (k:=k) aJ hm aE J cF
  rw [if_neg bC,List.append_nil] at e9
  rw [e9] at b aB
  rw [← Xbb (f:=f) (k:=k) aJ] at b
  exact ⟨rfl,g,bF,bG,b,aB.rd.top,aB.cap⟩
 have b5:=W
 have dQ:∀ h:i<(tms f).length,¬ ((tms f).getD i tZ).m<m∧((tms f).getD i tZ).m≠m:=by have h7:=W;intro h8;refine ⟨fun h9=>dO ⟨h8,h9⟩,fun h9=>?_⟩;rw [show (((tms f).getD i tZ).m==m)=true from by rw [h9];exact beq_self_eq_true m,Bool.and_true,decide_eq_false_iff_not] at h7;omega
 refine wp_skip<|cD _ _<|Zs p fun _ d6=>?_;refine Zf (Xb (k:=0) (vs:=[]) (zs:=[]) rfl X05 X1a rfl rfl) ?_;rintro _ eP ⟨eQ,rfl,b1,y,d7⟩;have bH:=Nat.le_trans g.size b1;have d8:=A.away b1;have b:=b.below y;have A:=A.below y;have g:=ktr g y;refine Zm rfl<|Ze (X0v rfl)<|Ze (Vd rfl X0z 1)<|Ze (X0 rfl X0y (b.at 1))<|Zm rfl ?_;have dB:=(A.top).dropK X0m (c:=cT) M i;refine Ze (Xms (l:=(tms f)) (k:=i) rfl rfl X05 X1h rfl (by omega))<|Zf (X7e (enc:=encT) (l2:=(((tms f).drop i))) rfl rfl X05 X1a X0m X2g d7 dB (by simp only [maxLen];simp;omega) (by simp;omega)) ?_;rintro _ eR ⟨eS,eT,rfl,o,y,x⟩;clear x;have o:=o.lower bH;have b:=b.below y;have A:=A.below y;have g:=ktr g y;refine Za rfl<|Zx d6 fun a p _ dC=>?_;refine Zm rfl<|Zf (Xb (k:=0) (vs:=[]) (zs:=[]) rfl X05 X1a rfl rfl) ?_;rintro _ eU ⟨eW,rfl,aU,y,dD⟩;have bJ:=Nat.le_trans g.size aU;have dE:=A.away aU;have aN:=o.away aU;have b:=b.below y;have A:=A.below y;have o:=o.below y;have g:=ktr g y;refine Zm rfl<|Ze (X0v rfl)<|Ze (Vd rfl X0z 1)<|Ze (X0 rfl X0y (b.at 1))<|Zm rfl ?_;have aH:=(A.top).takeK X0m i;refine Ze (X52 (l:=(tms f)) (k:=i) rfl rfl X05 X1h rfl (by omega) M)<|Zf (X7e (enc:=encT) (l2:=(((tms f).take i))) rfl rfl X05 X1a X0m X2g dD aH (by simp only [maxLen];simp;omega) (by simp;omega)) ?_;rintro _ eX ⟨eY,f4,rfl,L,y,x⟩;have Q:=Apart.new0 o aN x;clear x;have L:=L.lower bJ;have b:=b.below y;have A:=A.below y;have o:=o.below y;have aH:=aH.below y
 have g:=ktr g y;refine Zm rfl<|Zm rfl<|Ze (Xk (ps:=[(0,vi m),(1,vi (k % 8))]) (cs:=[vi m,vi (k % 8)]) rfl (fun _=>by first|rfl|kernel_rfl))<|Zf (Xb (k:=1) (vs:=[.agg #[vi m,vi (k % 8)]]) (zs:=[vi m,vi (k % 8)]) rfl X05 X1a rfl rfl) ?_;rintro _ f5 ⟨f7,rfl,aC,y,aW⟩;have dR:=Nat.le_trans g.size aC;have dF:=A.away aC;have bS:=o.away aC;have bU:=aH.away aC;have aO:=L.away aC;have b:=b.below y;have o:=o.below y;have L:=L.below y;have g:=ktr g y;refine Zf (X1e (enc:=encT) (l:=(((tms f).take i))) (l2:=([(⟨m,(k % 8)⟩ : Tm)])) (B0:=w0.heap.size) rfl rfl X05 X1a X0m X2g L (Rd.of_blk aW rfl _ aW.lt) (by simp only [maxLen];simp;omega) (by simp;omega) g.size) ?_;rintro _ f8 ⟨dG,dH,rfl,aI,N,x⟩
 have n:Own _ w0.heap.size 76 2 encT _ _ (((tms f).take i)):=L
 have bW:=x _ aW.lt aO;have aP:=Apart.app o Q x;clear x;have b:=b.appT n N rfl;have o:=o.appP N Q;have g:=Kept.app g n N (Nat.le_refl _) g.size;clear n N;refine Ze (X0v rfl)<|Ze (Vd rfl X0z 1)<|Zo (X2z (vs:=[.slice dG (((tms f).take i)++([(⟨m,(k % 8)⟩ : Tm)])).length dH]) (l':=[vi (f 0),.slice dG (((tms f).take i)++([(⟨m,(k % 8)⟩ : Tm)])).length dH]) rfl rfl X29 b rfl rfl rfl rfl rfl) ?_;rintro _ f9 ⟨H,hb⟩;have q:=b;have o:=o.onlyT H q rfl;have aI:=aI.onlyT H q rfl;have g:=g.self H;have b:=hb;refine Zt dC fun a p=>?_;refine Zr p<|Zm rfl<|Zm rfl<|Ze (X0v rfl)<|Ze (Vd rfl X0z 1)<|Ze (X0 rfl X0y (b.at 1)) ?_;refine Zm rfl<|Zf (X1e (enc:=encT) (l:=(((tms f).take i)++([(⟨m,(k % 8)⟩ : Tm)]))) (l2:=(((tms f).drop i))) (B0:=w0.heap.size) rfl rfl X05 X1a X0m X2g aI o.rd (by simp only [maxLen];simp;omega) (by simp;omega) g.size) ?_;rintro _ fA ⟨bK,bL,rfl,aD,N,x⟩
 have n:Own _ w0.heap.size 76 2 encT _ _ (((tms f).take i)++([(⟨m,(k % 8)⟩ : Tm)])):=aI
 have bX:=Apart.app o aP x;clear x;have b:=b.appT n N rfl;have g:=Kept.app g n N (Nat.le_refl _) g.size;clear n N;refine Ze (X0v rfl)<|Ze (Vd rfl X0z 1)<|Zo (X2z (vs:=[.slice bK ((((tms f).take i)++([(⟨m,(k % 8)⟩ : Tm)]))++((tms f).drop i)).length bL]) (l':=[vi (f 0),.slice bK ((((tms f).take i)++([(⟨m,(k % 8)⟩ : Tm)]))++((tms f).drop i)).length bL]) rfl rfl X29 b rfl rfl rfl rfl rfl) ?_;rintro _ fB ⟨H,hb⟩;have q:=b;have aD:=aD.onlyT H q rfl;have g:=g.self H;have b:=hb;refine Zn fun a p=>?_;refine Xad p (Xag rfl) ?_
 have e9:=Xop aJ hm aE hi dQ b2
 rw [e9] at b aD
 rw [← Xbb (f:=f) (k:=k) aJ] at b
 exact ⟨rfl,g,bK,bL,b,aD.rd.top,aD.cap⟩
theorem X56(w0:World)(m:Int)(hm:0≤m∧m<2^62) : Ret Tryz.prog 66 [vi m] w0 (fun v w=>∃ A c,v=.slice A (setI m.toNat).length c∧Own w w0.heap.size 3 1 encI A c (setI m.toNat)∧Below w0.heap.size w0 w):=by
 have h:=Xz7 w0 m.toNat (by rw [show (2:Nat)^62=4611686018427387904 from by decide];have:=hm.2;rw [show (2:Int)^62=4611686018427387904 from by decide] at this;have:=hm.1;omega)
 rw [Int.toNat_of_nonneg hm.1] at h
 exact h
theorem Xgk(w0:World)(bV:Nat)(f:Int→Int)(AT:Option Addr)(cT:Nat)(b:Blk w0 bV 105 [vi (f 0),.slice AT (tms f).length cT])(B:Rd w0 w0.heap.size 76 encT AT (tms f))(aB:(tms f).length≤cT)(b6:PO f)(bD:SupF f)(r:Int)(k:Int)(u:Af)(hr:Mk r)(hk:-8≤k∧k≤8)(o:AO u) : Ret Tryz.prog 61 [.pointer (some ⟨bV,0,none⟩),vi r,vi k,.agg #[vi u.m,vi u.t]] w0 (fun v w=>v=.tuple #[]∧Kept bV w0.heap.size w0 w∧∃ A9 c9,Blk w bV 105 [vi ((expP f k u r) 0),.slice A9 (tms (expP f k u r)).length c9]∧Rd w w.heap.size 76 encT A9 (tms (expP f k u r))∧(tms (expP f k u r)).length≤c9):=by
 have eY:=b.lt;have fC:=X88 f;have fD:=X87 u.m;have fE:=X43 u.m;refine enter Tryz.func61 rfl 92 rfl rfl ?_;intro a d
 have p:Kept bV w0.heap.size w0 w0:=Kept.refl _ _ _
 refine Zs d fun _ eF=>?_;refine Zf (X14 (zs:=[vi u.m,vi u.t]) rfl rfl) ?_;rintro _ w1 ⟨b3,rfl,eG,q,aE⟩;have f4:=Nat.le_trans p.size eG;have b:=b.below q;have B:=B.below q;have p:=ktr p q;refine ZX eF fun a d _ cJ=>?_;refine Zs d fun _ eH=>?_;refine Ze (Vd rfl X0k 1)<|Ze (X0 rfl X2 (aE.at 1))<|Ze (X0l rfl rfl)<|Zt eH fun a d=>?_
 refine Xg d rfl (fun aJ=>?_) (fun aJ=>?_)
 ·have cK:=aJ
  have bE:u.t=1:=by simpa using aJ
  refine Zs d fun _ eI=>?_;refine Zm rfl<|Zm rfl<|Zm rfl<|Zf (Vc (X3k _ bV f AT cT b B.top aB b6 bD r k hr (by omega)) X21) ?_;rintro _ w2 ⟨rfl,hK,A8,c8,h,bF,cL⟩;obtain ⟨wm,A,hm,q⟩:=hK.mid;clear hm;have c:=b;have aE:=aE.only A (Blk.ne aE c rfl);have B:=B.onlyT A c rfl;have p:=p.self A;have aE:=aE.below q;have B:=B.below q;have p:=ktr p q
  clear c q A hK;have b:=h;clear h;refine Zt eI fun a d=>?_;refine Zr d<|Zm rfl<|Ze (Vx (Xr3 rfl) (Xi2 hk))<|Za rfl<|Zx cJ fun a d _ eJ=>?_;refine Ze (Vd rfl X0a 0)<|Ze (X0 rfl X2 (aE.at 0))<|Zf (Vc (X56 _ u.m o.1.b62) X3x) ?_;rintro _ w3 ⟨C,Q,rfl,e,q⟩;have e:=e.lower p.size;have b:=b.below q;have B:=B.below q;have bF:=bF.below q;have p:=ktr p q;refine Za rfl<|Zx eJ fun a d _ cM=>?_;refine Zm rfl<|Ze (X1f rfl X0f)<|Zm rfl<|Zt cM fun a d=>?_;refine wp_block<|X06 (σ:=Nat×(Int→Int)) (fun (s:Nat×(Int→Int)) (a:Act) (w:World)=>match s with|(i,g)=>∃ aK aL,Fr a 92 [(0,.pointer (some ⟨bV,0,none⟩)),(1,vi r),(2,vi (-k)),(8,.slice C (setI u.m.toNat).length Q),(27,.slice C (setI u.m.toNat).length Q),(28,vi ((setI u.m.toNat).length:Int)),(29,vi (i:Int))]∧(i≤(setI u.m.toNat).length)∧(g=exX r (-k) (lows u.m) (padd f r k) i)∧(PO g)∧(SupF g)∧Blk w bV 105 [vi (g 0),.slice aK (tms g).length aL]∧Rd w w0.heap.size 76 encT AT (tms f)∧Own w w0.heap.size 3 1 encI C Q (setI u.m.toNat)∧Rd w w.heap.size 76 encT aK (tms g)∧(tms f).length≤cT∧(tms g).length≤aL∧Kept bV w0.heap.size w0 w) (fun (s:Nat×(Int→Int))=>match s with|(i,g)=>(setI u.m.toNat).length-i) (0,(padd f r k)) ?_ ?_
  ·exact ⟨A8,c8,d.sb,(Nat.zero_le _),rfl,(b6.padd _ _),(bD.pad b6 hr),b,B,e,bF.top,aB,cL,p⟩
  rintro ⟨i,g⟩ a w4 ⟨aK,aL,d,hi,hg,hp,hs,b,B,e,aM,aB,aF,p⟩;refine Zs d fun _ cN=>?_;refine Ze (X1n rfl rfl)<|ZX cN fun a d _ cO=>?_
  refine Xg d rfl (fun J=>?_) (fun J=>?_)
  ·have bG:=J;have J:=of_decide_eq_true J
   obtain ⟨fF,f5⟩:=Xm (l:=(setI u.m.toNat)) (k:=i) (by omega)
   refine wp_skip<|cO _ _<|wp_seq_k fun _ cP=>?_;refine wp_block<|Zs d fun _ cQ=>?_;refine Zm rfl<|Zi (k:=i) (u:=((nS u.m i:Nat) : Int)) (enc:=encI) (l:=(setI u.m.toNat)) trivial rfl rfl X0f X12 X0h e.rd (X4t (by omega)) rfl ?_;intro fG bH;refine Ze (X0 rfl X2 bH)<|Za rfl<|Za rfl<|Zx cQ fun a d _ cR=>?_;refine Zm rfl<|Zm rfl<|Zm rfl<|Ze (X5a (m:=(nS u.m i)) Tryz.underlying3 Tryz.underlying67 rfl rfl (by have:=X1z o.1.b62 i;omega))<|Ze (Vx (X2i (m:=(nS u.m i)) rfl rfl rfl (by have:=X1z o.1.b62 i;omega)) (X31 o.1.b62 (by omega))) ?_;refine Ze (Vx (Vor rfl rfl) (rfl:_=(oI r ((lows u.m).getD i 0))))<|Zm rfl<|Zf (Vc (X3k _ bV g aK aL b aM.top aF hp hs (oI r ((lows u.m).getD i 0)) (-k) (hr.or (X13 o.1 i)) (by omega)) X21) ?_;rintro _ w5 ⟨rfl,hK,eK,eL,h,cS,bJ⟩;obtain ⟨wm,A,hm,q⟩:=hK.mid;clear hm;have c:=b;have B:=B.onlyT A c rfl;have e:=e.onlyT A c rfl;have p:=p.self A;have B:=B.below q;have e:=e.below q;have p:=ktr p q
   clear c q A hK;have b:=h;clear h;refine Zx cR fun a d _ cU=>?_;refine Zm rfl<|Zm rfl ?_;have x:=(e.rd.top).takeK X0h i;refine Ze (X52 (l:=(setI u.m.toNat)) (k:=i) rfl rfl X0f X12 rfl (by omega) e.cap)<|Ze (X1f rfl X0f)<|Zm rfl<|Zt cU fun a d=>?_;refine wp_block<|X06 (σ:=Nat×(Int→Int)) (fun (s:Nat×(Int→Int)) (a:Act) (w:World)=>match s with|(j,U)=>∃ aN aO,Fr a 92 [(0,.pointer (some ⟨bV,0,none⟩)),(1,vi r),(2,vi (-k)),(8,.slice C (setI u.m.toNat).length Q),(10,vi ((nS u.m i:Nat) : Int)),(27,.slice C (setI u.m.toNat).length Q),(28,vi ((setI u.m.toNat).length:Int)),(29,vi (i:Int)),(44,.slice C ((setI u.m.toNat).take i).length Q),(45,vi (((setI u.m.toNat).take i).length:Int)),(46,vi (j:Int))]∧(j≤i)∧(U=exY r ((lows u.m).getD i 0) (-k) (lows u.m) (padd (exX r (-k) (lows u.m) (padd f r k) i) (oI r ((lows u.m).getD i 0)) (-k)) j)∧(PO U)∧(SupF U)∧Blk w bV 105 [vi (U 0),.slice aN (tms U).length aO]∧Rd w w0.heap.size 76 encT AT (tms f)∧Own w w0.heap.size 3 1 encI C Q (setI u.m.toNat)∧Rd w w5.heap.size 3 encI C ((setI u.m.toNat).take i)∧Rd w w.heap.size 76 encT aN (tms U)∧(tms f).length≤cT∧(tms U).length≤aO∧Kept bV w0.heap.size w0 w) (fun (s:Nat×(Int→Int))=>match s with|(j,U)=>i-j) (0,(padd g (oI r ((lows u.m).getD i 0)) (-k))) ?_ ?_
   ·exact ⟨eK,eL,d.sb,(Nat.zero_le _),(by rw [hg];rfl),(hp.padd _ _),(hs.pad hp (hr.or (X13 o.1 i))),b,B,e,x,cS.top,aB,bJ,p⟩
   rintro ⟨j,U⟩ a w6 ⟨aN,aO,d,hj,aP,aC,aG,b,B,e,x,b7,aB,aQ,p⟩;refine Zs d fun _ cW=>?_;refine Ze (X1n rfl rfl)<|ZX cW fun a d _ cX=>?_
   refine Xg d rfl (fun E=>?_) (fun E=>?_)
   ·have bK:=E;have E:=of_decide_eq_true E
    obtain ⟨fH,f7⟩:=Xm (l:=((setI u.m.toNat).take i)) (k:=j) (by omega)
    have bL:j<i:=by have:=E;rw [List.length_take] at this;omega
    refine wp_skip<|cX _ _<|wp_seq_k fun _ cY=>?_;refine wp_block<|Zs d fun _ d5=>?_;refine Zm rfl<|Zi (k:=j) (u:=((nS u.m j:Nat) : Int)) (enc:=encI) (l:=((setI u.m.toNat).take i)) trivial rfl rfl X0f X12 X0h x (X7h bL (by omega)) rfl ?_;intro fI bN;refine Ze (X0 rfl X2 bN)<|Za rfl<|Za rfl<|Zx d5 fun a d _ d6=>?_;refine Zm rfl<|Zm rfl<|Zm rfl<|Ze (X5a (m:=(nS u.m i)) Tryz.underlying3 Tryz.underlying67 rfl rfl (by have:=X1z o.1.b62 i;omega))<|Ze (Vx (X2i (m:=(nS u.m i)) rfl rfl rfl (by have:=X1z o.1.b62 i;omega)) (X31 o.1.b62 (by omega))) ?_;refine Ze (Vx (Vor rfl rfl) (rfl:_=(oI r ((lows u.m).getD i 0))))<|Zm rfl<|Ze (X5a (m:=(nS u.m j)) Tryz.underlying3 Tryz.underlying67 rfl rfl (by have:=X1z o.1.b62 j;omega))<|Ze (Vx (X2i (m:=(nS u.m j)) rfl rfl rfl (by have:=X1z o.1.b62 j;omega)) (X31 o.1.b62 (by omega)))<|Ze (Vx (Vor rfl rfl) (rfl:_=(oI (oI r ((lows u.m).getD i 0)) ((lows u.m).getD j 0)))) ?_;refine Zm rfl<|Ze (X2y rfl rfl (by omega) (by omega))<|Zf (Vc (X3k _ bV U aN aO b b7.top aQ aC aG (oI (oI r ((lows u.m).getD i 0)) ((lows u.m).getD j 0)) ((-2)*(-k)) ((hr.or (X13 o.1 i)).or (X13 o.1 j)) (by omega)) X21) ?_;rintro _ w7 ⟨rfl,hK,eM,eN,h,d7,bO⟩;obtain ⟨wm,A,hm,q⟩:=hK.mid;clear hm;have c:=b;have B:=B.onlyT A c rfl;have e:=e.onlyT A c rfl;have x:=x.onlyT A c rfl;have p:=p.self A;have B:=B.below q;have e:=e.below q;have x:=x.below q;have p:=ktr p q
    clear c q A hK;have b:=h;clear h;refine Zx d6 fun a d _ d8=>?_;refine Zm rfl<|Zm rfl ?_;have L:=(e.rd.top).takeK X0h j;refine Ze (X52 (l:=(setI u.m.toNat)) (k:=j) rfl rfl X0f X12 rfl (by omega) e.cap)<|Ze (X1f rfl X0f)<|Zm rfl<|Zt d8 fun a d=>?_;refine wp_block<|X06 (σ:=Nat×(Int→Int)) (fun (s:Nat×(Int→Int)) (a:Act) (w:World)=>match s with|(z,W)=>∃ aR aS,Fr a 92 [(0,.pointer (some ⟨bV,0,none⟩)),(1,vi r),(2,vi (-k)),(8,.slice C (setI u.m.toNat).length Q),(10,vi ((nS u.m i:Nat) : Int)),(12,vi ((nS u.m j:Nat) : Int)),(27,.slice C (setI u.m.toNat).length Q),(28,vi ((setI u.m.toNat).length:Int)),(29,vi (i:Int)),(44,.slice C ((setI u.m.toNat).take i).length Q),(45,vi (((setI u.m.toNat).take i).length:Int)),(46,vi (j:Int)),(66,.slice C ((setI u.m.toNat).take j).length Q),(67,vi (((setI u.m.toNat).take j).length:Int)),(68,vi (z:Int))]∧(z≤j)∧(W=exZ r ((lows u.m).getD i 0) ((lows u.m).getD j 0) (-k) (lows u.m) (padd (exY r ((lows u.m).getD i 0) (-k) (lows u.m) (padd (exX r (-k) (lows u.m) (padd f r k) i) (oI r ((lows u.m).getD i 0)) (-k)) j) (oI (oI r ((lows u.m).getD i 0)) ((lows u.m).getD j 0)) (-2*(-k))) z)∧(PO W)∧(SupF W)∧Blk w bV 105 [vi (W 0),.slice aR (tms W).length aS]∧Rd w w0.heap.size 76 encT AT (tms f)∧Own w w0.heap.size 3 1 encI C Q (setI u.m.toNat)∧Rd w w5.heap.size 3 encI C ((setI u.m.toNat).take i)∧Rd w w7.heap.size 3 encI C ((setI u.m.toNat).take j)∧Rd w w.heap.size 76 encT aR (tms W)∧(tms f).length≤cT∧(tms W).length≤aS∧Kept bV w0.heap.size w0 w) (fun (s:Nat×(Int→Int))=>match s with|(z,W)=>j-z) (0,(padd U (oI (oI r ((lows u.m).getD i 0)) ((lows u.m).getD j 0)) (-2*(-k)))) ?_ ?_
    ·exact ⟨eM,eN,d.sb,(Nat.zero_le _),(by rw [aP];rfl),(aC.padd _ _),(aG.pad aC ((hr.or (X13 o.1 i)).or (X13 o.1 j))),b,B,e,x,L,d7.top,aB,bO,p⟩
    rintro ⟨z,W⟩ a w8 ⟨aR,aS,d,hz,aT,aD,aH,b,B,e,x,L,b8,aB,aU,p⟩;refine Zs d fun _ dB=>?_;refine Ze (X1n rfl rfl)<|ZX dB fun a d _ dC=>?_
    refine Xg d rfl (fun G=>?_) (fun G=>?_)
    ·have bP:=G;have G:=of_decide_eq_true G
     obtain ⟨fJ,f8⟩:=Xm (l:=((setI u.m.toNat).take j)) (k:=z) (by omega)
     have bR:z<j:=by have:=G;rw [List.length_take] at this;omega
     refine wp_skip<|dC _ _<|wp_seq_k fun _ dD=>?_;refine wp_block<|Zs d fun _ dE=>?_;refine Zi (k:=z) (u:=((nS u.m z:Nat) : Int)) (enc:=encI) (l:=((setI u.m.toNat).take j)) trivial rfl rfl X0f X12 X0h L (X7h bR (by omega)) rfl ?_;intro fK bS;refine Ze (X0 rfl X2 bS)<|Za rfl<|Zt dE fun a d=>?_;refine Zr d<|Zm rfl<|Zm rfl<|Zm rfl<|Ze (X5a (m:=(nS u.m i)) Tryz.underlying3 Tryz.underlying67 rfl rfl (by have:=X1z o.1.b62 i;omega))<|Ze (Vx (X2i (m:=(nS u.m i)) rfl rfl rfl (by have:=X1z o.1.b62 i;omega)) (X31 o.1.b62 (by omega))) ?_;refine Ze (Vx (Vor rfl rfl) (rfl:_=(oI r ((lows u.m).getD i 0))))<|Zm rfl<|Ze (X5a (m:=(nS u.m j)) Tryz.underlying3 Tryz.underlying67 rfl rfl (by have:=X1z o.1.b62 j;omega))<|Ze (Vx (X2i (m:=(nS u.m j)) rfl rfl rfl (by have:=X1z o.1.b62 j;omega)) (X31 o.1.b62 (by omega)))<|Ze (Vx (Vor rfl rfl) (rfl:_=(oI (oI r ((lows u.m).getD i 0)) ((lows u.m).getD j 0)))) ?_;refine Zm rfl<|Ze (X5a (m:=(nS u.m z)) Tryz.underlying3 Tryz.underlying67 rfl rfl (by have:=X1z o.1.b62 z;omega))<|Ze (Vx (X2i (m:=(nS u.m z)) rfl rfl rfl (by have:=X1z o.1.b62 z;omega)) (X31 o.1.b62 (by omega)))<|Ze (Vx (Vor rfl rfl) (rfl:_=(oI (oI (oI r ((lows u.m).getD i 0)) ((lows u.m).getD j 0)) ((lows u.m).getD z 0))))<|Zm rfl ?_;refine Ze (X2y rfl rfl (by omega) (by omega))<|Zf (Vc (X3k _ bV W aR aS b b8.top aU aD aH (oI (oI (oI r ((lows u.m).getD i 0)) ((lows u.m).getD j 0)) ((lows u.m).getD z 0)) (4*(-k)) (((hr.or (X13 o.1 i)).or (X13 o.1 j)).or (X13 o.1 z)) (by omega)) X21) ?_;rintro _ w9 ⟨rfl,hK,eO,eP,h,dF,bU⟩;obtain ⟨wm,A,hm,q⟩:=hK.mid;clear hm;have c:=b;have B:=B.onlyT A c rfl;have e:=e.onlyT A c rfl;have x:=x.onlyT A c rfl;have L:=L.onlyT A c rfl
     have p:=p.self A;have B:=B.below q;have e:=e.below q;have x:=x.below q;have L:=L.below q;have p:=ktr p q
     clear c q A hK;have b:=h;clear h;refine Zn fun a d=>?_;refine Xa<|dD _ _<|Zr d<|Ze (Xu rfl rfl (by omega) (by omega))<|Zm rfl ?_;refine Zn fun a d=>?_;refine Xd ?_;exact ⟨(z+1,(padd W (oI (oI (oI r ((lows u.m).getD i 0)) ((lows u.m).getD j 0)) ((lows u.m).getD z 0)) (4*(-k)))),⟨eO,eP,d.sb,(by omega),(by rw [aT];rfl),(aD.padd _ _),(aH.pad aD (((hr.or (X13 o.1 i)).or (X13 o.1 j)).or (X13 o.1 z))),b,B,e,x,L,dF.top,aB,bU,p⟩,(by first|omega|(dsimp only;omega))⟩
    have bP:=G;have G:=of_decide_eq_false G
    have bW:j≤z:=by have:=G;rw [List.length_take] at this;omega
    refine wp_exit<|Xi<|Xi<|X03 ?_;refine Xa<|cY _ _<|Zr d<|Ze (Xu rfl rfl (by omega) (by omega))<|Zm rfl ?_;refine Zn fun a d=>?_;refine Xd ?_;exact ⟨(j+1,W),⟨aR,aS,d.sb,(by omega),(by rw [aT,show z=j from by have:=bW;omega];rfl),aD,aH,b,B,e,x,b8.top,aB,aU,p⟩,(by first|omega|(dsimp only;omega))⟩
   have bK:=E;have E:=of_decide_eq_false E
   have bX:i≤j:=by have:=E;rw [List.length_take] at this;omega
   refine wp_exit<|Xi<|Xi<|X03 ?_;refine Xa<|cP _ _<|Zr d<|Ze (Xu rfl rfl (by omega) (by omega))<|Zm rfl ?_;refine Zn fun a d=>?_;refine Xd ?_;exact ⟨(i+1,U),⟨aN,aO,d.sb,(by omega),(by rw [aP,show j=i from by have:=bX;omega];rfl),aC,aG,b,B,e,b7.top,aB,aQ,p⟩,(by first|omega|(dsimp only;omega))⟩
  have bG:=J;have J:=of_decide_eq_false J
  have bY:i=(lows u.m).length:=by have:=J;omega
  refine wp_exit<|Xi<|Xi<|X03 ?_;refine Xad d (Xag rfl) ?_
  have e9:g=expP f k u r:=by rw [hg,bY];unfold expP;rw [if_pos bE]
  rw [e9] at b aM aF
  exact ⟨rfl,p,aK,aL,b,aM.top,aF⟩
 have cK:=aJ
 have bE:¬ u.t=1:=by simpa using aJ
 refine wp_skip<|cJ _ _<|Zs d fun _ dG=>?_;refine Ze (Vd rfl X0a 0)<|Ze (X0 rfl X2 (aE.at 0))<|Zf (Vc (X56 _ u.m o.1.b62) X3x) ?_;rintro _ fL ⟨D,aA,rfl,n,q⟩;have n:=n.lower p.size;have b:=b.below q;have B:=B.below q;have p:=ktr p q;refine Za rfl<|Zx dG fun a d _ dH=>?_;refine Zm rfl<|Ze (X1f rfl X0f)<|Zm rfl<|Zt dH fun a d=>?_;refine wp_block<|X06 (σ:=Nat×(Int→Int)) (fun (s:Nat×(Int→Int)) (a:Act) (w:World)=>match s with|(i,g)=>∃ aW aX,Fr a 92 [(0,.pointer (some ⟨bV,0,none⟩)),(1,vi r),(2,vi k),(8,.slice D (setI u.m.toNat).length aA),(27,.slice D (setI u.m.toNat).length aA),(28,vi ((setI u.m.toNat).length:Int)),(29,vi (i:Int))]∧(i≤(setI u.m.toNat).length)∧(g=exX r k (lows u.m) f i)∧(PO g)∧(SupF g)∧Blk w bV 105 [vi (g 0),.slice aW (tms g).length aX]∧Own w w0.heap.size 3 1 encI D aA (setI u.m.toNat)∧Rd w w.heap.size 76 encT aW (tms g)∧(tms g).length≤aX∧Kept bV w0.heap.size w0 w) (fun (s:Nat×(Int→Int))=>match s with|(i,g)=>(setI u.m.toNat).length-i) (0,f) ?_ ?_
 ·exact ⟨AT,cT,d.sb,(Nat.zero_le _),rfl,b6,bD,b,n,B.top,aB,p⟩
 rintro ⟨i,g⟩ a fM ⟨aW,aX,d,hi,hg,hp,hs,b,n,aY,aI,p⟩;refine Zs d fun _ dI=>?_;refine Ze (X1n rfl rfl)<|ZX dI fun a d _ dJ=>?_
 refine Xg d rfl (fun M=>?_) (fun M=>?_)
 ·have bZ:=M;have M:=of_decide_eq_true M
  obtain ⟨fN,f9⟩:=Xm (l:=(setI u.m.toNat)) (k:=i) (by omega)
  refine wp_skip<|dJ _ _<|wp_seq_k fun _ dK=>?_;refine wp_block<|Zs d fun _ dL=>?_;refine Zm rfl<|Zi (k:=i) (u:=((nS u.m i:Nat) : Int)) (enc:=encI) (l:=(setI u.m.toNat)) trivial rfl rfl X0f X12 X0h n.rd (X4t (by omega)) rfl ?_;intro fO c4;refine Ze (X0 rfl X2 c4)<|Za rfl<|Za rfl<|Zx dL fun a d _ dM=>?_;refine Zm rfl<|Zm rfl<|Zm rfl<|Ze (X5a (m:=(nS u.m i)) Tryz.underlying3 Tryz.underlying67 rfl rfl (by have:=X1z o.1.b62 i;omega))<|Ze (Vx (X2i (m:=(nS u.m i)) rfl rfl rfl (by have:=X1z o.1.b62 i;omega)) (X31 o.1.b62 (by omega))) ?_;refine Ze (Vx (Vor rfl rfl) (rfl:_=(oI r ((lows u.m).getD i 0))))<|Zm rfl<|Zf (Vc (X3k _ bV g aW aX b aY.top aI hp hs (oI r ((lows u.m).getD i 0)) k (hr.or (X13 o.1 i)) (by omega)) X21) ?_;rintro _ dN ⟨rfl,hK,eQ,eR,h,dO,cA⟩;obtain ⟨wm,A,hm,q⟩:=hK.mid;clear hm;have c:=b;have n:=n.onlyT A c rfl;have p:=p.self A;have n:=n.below q;have p:=ktr p q
  clear c q A hK;have b:=h;clear h;refine Zx dM fun a d _ dP=>?_;refine Zm rfl<|Zm rfl ?_;have y:=(n.rd.top).takeK X0h i;refine Ze (X52 (l:=(setI u.m.toNat)) (k:=i) rfl rfl X0f X12 rfl (by omega) n.cap)<|Ze (X1f rfl X0f)<|Zm rfl<|Zt dP fun a d=>?_;refine wp_block<|X06 (σ:=Nat×(Int→Int)) (fun (s:Nat×(Int→Int)) (a:Act) (w:World)=>match s with|(j,U)=>∃ aZ b0,Fr a 92 [(0,.pointer (some ⟨bV,0,none⟩)),(1,vi r),(2,vi k),(8,.slice D (setI u.m.toNat).length aA),(10,vi ((nS u.m i:Nat) : Int)),(27,.slice D (setI u.m.toNat).length aA),(28,vi ((setI u.m.toNat).length:Int)),(29,vi (i:Int)),(44,.slice D ((setI u.m.toNat).take i).length aA),(45,vi (((setI u.m.toNat).take i).length:Int)),(46,vi (j:Int))]∧(j≤i)∧(U=exY r ((lows u.m).getD i 0) k (lows u.m) (padd (exX r k (lows u.m) f i) (oI r ((lows u.m).getD i 0)) k) j)∧(PO U)∧(SupF U)∧Blk w bV 105 [vi (U 0),.slice aZ (tms U).length b0]∧Own w w0.heap.size 3 1 encI D aA (setI u.m.toNat)∧Rd w dN.heap.size 3 encI D ((setI u.m.toNat).take i)∧Rd w w.heap.size 76 encT aZ (tms U)∧(tms U).length≤b0∧Kept bV w0.heap.size w0 w) (fun (s:Nat×(Int→Int))=>match s with|(j,U)=>i-j) (0,(padd g (oI r ((lows u.m).getD i 0)) k)) ?_ ?_
  ·exact ⟨eQ,eR,d.sb,(Nat.zero_le _),(by rw [hg];rfl),(hp.padd _ _),(hs.pad hp (hr.or (X13 o.1 i))),b,n,y,dO.top,cA,p⟩
  rintro ⟨j,U⟩ a fP ⟨aZ,b0,d,hj,aP,aC,aG,b,n,y,b9,b1,p⟩;refine Zs d fun _ dQ=>?_;refine Ze (X1n rfl rfl)<|ZX dQ fun a d _ dR=>?_
  refine Xg d rfl (fun H=>?_) (fun H=>?_)
  ·have cC:=H;have H:=of_decide_eq_true H
   obtain ⟨fQ,fA⟩:=Xm (l:=((setI u.m.toNat).take i)) (k:=j) (by omega)
   have bL:j<i:=by have:=H;rw [List.length_take] at this;omega
   refine wp_skip<|dR _ _<|wp_seq_k fun _ dS=>?_;refine wp_block<|Zs d fun _ dU=>?_;refine Zm rfl<|Zi (k:=j) (u:=((nS u.m j:Nat) : Int)) (enc:=encI) (l:=((setI u.m.toNat).take i)) trivial rfl rfl X0f X12 X0h y (X7h bL (by omega)) rfl ?_;intro fR cD;refine Ze (X0 rfl X2 cD)<|Za rfl<|Za rfl<|Zx dU fun a d _ dW=>?_;refine Zm rfl<|Zm rfl<|Zm rfl<|Ze (X5a (m:=(nS u.m i)) Tryz.underlying3 Tryz.underlying67 rfl rfl (by have:=X1z o.1.b62 i;omega))<|Ze (Vx (X2i (m:=(nS u.m i)) rfl rfl rfl (by have:=X1z o.1.b62 i;omega)) (X31 o.1.b62 (by omega))) ?_;refine Ze (Vx (Vor rfl rfl) (rfl:_=(oI r ((lows u.m).getD i 0))))<|Zm rfl<|Ze (X5a (m:=(nS u.m j)) Tryz.underlying3 Tryz.underlying67 rfl rfl (by have:=X1z o.1.b62 j;omega))<|Ze (Vx (X2i (m:=(nS u.m j)) rfl rfl rfl (by have:=X1z o.1.b62 j;omega)) (X31 o.1.b62 (by omega)))<|Ze (Vx (Vor rfl rfl) (rfl:_=(oI (oI r ((lows u.m).getD i 0)) ((lows u.m).getD j 0)))) ?_;refine Zm rfl<|Ze (X2y rfl rfl (by omega) (by omega))<|Zf (Vc (X3k _ bV U aZ b0 b b9.top b1 aC aG (oI (oI r ((lows u.m).getD i 0)) ((lows u.m).getD j 0)) ((-2)*k) ((hr.or (X13 o.1 i)).or (X13 o.1 j)) (by omega)) X21) ?_;rintro _ eS ⟨rfl,hK,eT,eU,h,dX,cE⟩;obtain ⟨wm,A,hm,q⟩:=hK.mid;clear hm;have c:=b;have n:=n.onlyT A c rfl;have y:=y.onlyT A c rfl;have p:=p.self A;have n:=n.below q;have y:=y.below q;have p:=ktr p q
   clear c q A hK;have b:=h;clear h;refine Zx dW fun a d _ e8=>?_;refine Zm rfl<|Zm rfl ?_;have N:=(n.rd.top).takeK X0h j;refine Ze (X52 (l:=(setI u.m.toNat)) (k:=j) rfl rfl X0f X12 rfl (by omega) n.cap)<|Ze (X1f rfl X0f)<|Zm rfl<|Zt e8 fun a d=>?_;refine wp_block<|X06 (σ:=Nat×(Int→Int)) (fun (s:Nat×(Int→Int)) (a:Act) (w:World)=>match s with|(z,W)=>∃ b2 b4,Fr a 92 [(0,.pointer (some ⟨bV,0,none⟩)),(1,vi r),(2,vi k),(8,.slice D (setI u.m.toNat).length aA),(10,vi ((nS u.m i:Nat) : Int)),(12,vi ((nS u.m j:Nat) : Int)),(27,.slice D (setI u.m.toNat).length aA),(28,vi ((setI u.m.toNat).length:Int)),(29,vi (i:Int)),(44,.slice D ((setI u.m.toNat).take i).length aA),(45,vi (((setI u.m.toNat).take i).length:Int)),(46,vi (j:Int)),(66,.slice D ((setI u.m.toNat).take j).length aA),(67,vi (((setI u.m.toNat).take j).length:Int)),(68,vi (z:Int))]∧(z≤j)∧(W=exZ r ((lows u.m).getD i 0) ((lows u.m).getD j 0) k (lows u.m) (padd (exY r ((lows u.m).getD i 0) k (lows u.m) (padd (exX r k (lows u.m) f i) (oI r ((lows u.m).getD i 0)) k) j) (oI (oI r ((lows u.m).getD i 0)) ((lows u.m).getD j 0)) (-2*k)) z)∧(PO W)∧(SupF W)∧Blk w bV 105 [vi (W 0),.slice b2 (tms W).length b4]∧Own w w0.heap.size 3 1 encI D aA (setI u.m.toNat)∧Rd w dN.heap.size 3 encI D ((setI u.m.toNat).take i)∧Rd w eS.heap.size 3 encI D ((setI u.m.toNat).take j)∧Rd w w.heap.size 76 encT b2 (tms W)∧(tms W).length≤b4∧Kept bV w0.heap.size w0 w) (fun (s:Nat×(Int→Int))=>match s with|(z,W)=>j-z) (0,(padd U (oI (oI r ((lows u.m).getD i 0)) ((lows u.m).getD j 0)) (-2*k))) ?_ ?_
   ·exact ⟨eT,eU,d.sb,(Nat.zero_le _),(by rw [aP];rfl),(aC.padd _ _),(aG.pad aC ((hr.or (X13 o.1 i)).or (X13 o.1 j))),b,n,y,N,dX.top,cE,p⟩
   rintro ⟨z,W⟩ a fS ⟨b2,b4,d,hz,aT,aD,aH,b,n,y,N,bC,b5,p⟩;refine Zs d fun _ eA=>?_;refine Ze (X1n rfl rfl)<|ZX eA fun a d _ eB=>?_
   refine Xg d rfl (fun I=>?_) (fun I=>?_)
   ·have cF:=I;have I:=of_decide_eq_true I
    obtain ⟨fT,fB⟩:=Xm (l:=((setI u.m.toNat).take j)) (k:=z) (by omega)
    have bR:z<j:=by have:=I;rw [List.length_take] at this;omega
    refine wp_skip<|eB _ _<|wp_seq_k fun _ eC=>?_;refine wp_block<|Zs d fun _ eD=>?_;refine Zi (k:=z) (u:=((nS u.m z:Nat) : Int)) (enc:=encI) (l:=((setI u.m.toNat).take j)) trivial rfl rfl X0f X12 X0h N (X7h bR (by omega)) rfl ?_;intro fU cG;refine Ze (X0 rfl X2 cG)<|Za rfl<|Zt eD fun a d=>?_;refine Zr d<|Zm rfl<|Zm rfl<|Zm rfl<|Ze (X5a (m:=(nS u.m i)) Tryz.underlying3 Tryz.underlying67 rfl rfl (by have:=X1z o.1.b62 i;omega))<|Ze (Vx (X2i (m:=(nS u.m i)) rfl rfl rfl (by have:=X1z o.1.b62 i;omega)) (X31 o.1.b62 (by omega))) ?_;refine Ze (Vx (Vor rfl rfl) (rfl:_=(oI r ((lows u.m).getD i 0))))<|Zm rfl<|Ze (X5a (m:=(nS u.m j)) Tryz.underlying3 Tryz.underlying67 rfl rfl (by have:=X1z o.1.b62 j;omega))<|Ze (Vx (X2i (m:=(nS u.m j)) rfl rfl rfl (by have:=X1z o.1.b62 j;omega)) (X31 o.1.b62 (by omega)))<|Ze (Vx (Vor rfl rfl) (rfl:_=(oI (oI r ((lows u.m).getD i 0)) ((lows u.m).getD j 0)))) ?_;refine Zm rfl<|Ze (X5a (m:=(nS u.m z)) Tryz.underlying3 Tryz.underlying67 rfl rfl (by have:=X1z o.1.b62 z;omega))<|Ze (Vx (X2i (m:=(nS u.m z)) rfl rfl rfl (by have:=X1z o.1.b62 z;omega)) (X31 o.1.b62 (by omega)))<|Ze (Vx (Vor rfl rfl) (rfl:_=(oI (oI (oI r ((lows u.m).getD i 0)) ((lows u.m).getD j 0)) ((lows u.m).getD z 0))))<|Zm rfl ?_;refine Ze (X2y rfl rfl (by omega) (by omega))<|Zf (Vc (X3k _ bV W b2 b4 b bC.top b5 aD aH (oI (oI (oI r ((lows u.m).getD i 0)) ((lows u.m).getD j 0)) ((lows u.m).getD z 0)) (4*k) (((hr.or (X13 o.1 i)).or (X13 o.1 j)).or (X13 o.1 z)) (by omega)) X21) ?_;rintro _ fV ⟨rfl,hK,eW,eX,h,eE,cH⟩;obtain ⟨wm,A,hm,q⟩:=hK.mid;clear hm;have c:=b;have n:=n.onlyT A c rfl;have y:=y.onlyT A c rfl;have N:=N.onlyT A c rfl;have p:=p.self A;have n:=n.below q
    have y:=y.below q;have N:=N.below q;have p:=ktr p q
    clear c q A hK;have b:=h;clear h;refine Zn fun a d=>?_;refine Xa<|eC _ _<|Zr d<|Ze (Xu rfl rfl (by omega) (by omega))<|Zm rfl ?_;refine Zn fun a d=>?_;refine Xd ?_;exact ⟨(z+1,(padd W (oI (oI (oI r ((lows u.m).getD i 0)) ((lows u.m).getD j 0)) ((lows u.m).getD z 0)) (4*k))),⟨eW,eX,d.sb,(by omega),(by rw [aT];rfl),(aD.padd _ _),(aH.pad aD (((hr.or (X13 o.1 i)).or (X13 o.1 j)).or (X13 o.1 z))),b,n,y,N,eE.top,cH,p⟩,(by first|omega|(dsimp only;omega))⟩
   have cF:=I;have I:=of_decide_eq_false I
   have bW:j≤z:=by have:=I;rw [List.length_take] at this;omega
   refine wp_exit<|Xi<|Xi<|X03 ?_;refine Xa<|dS _ _<|Zr d<|Ze (Xu rfl rfl (by omega) (by omega))<|Zm rfl ?_;refine Zn fun a d=>?_;refine Xd ?_;exact ⟨(j+1,W),⟨b2,b4,d.sb,(by omega),(by rw [aT,show z=j from by have:=bW;omega];rfl),aD,aH,b,n,y,bC.top,b5,p⟩,(by first|omega|(dsimp only;omega))⟩
  have cC:=H;have H:=of_decide_eq_false H
  have bX:i≤j:=by have:=H;rw [List.length_take] at this;omega
  refine wp_exit<|Xi<|Xi<|X03 ?_;refine Xa<|dK _ _<|Zr d<|Ze (Xu rfl rfl (by omega) (by omega))<|Zm rfl ?_;refine Zn fun a d=>?_;refine Xd ?_;exact ⟨(i+1,U),⟨aZ,b0,d.sb,(by omega),(by rw [aP,show j=i from by have:=bX;omega];rfl),aC,aG,b,n,b9.top,b1,p⟩,(by first|omega|(dsimp only;omega))⟩
 have bZ:=M;have M:=of_decide_eq_false M
 have bY:i=(lows u.m).length:=by have:=M;omega
 refine wp_exit<|Xi<|Xi<|X03 ?_;refine Xad d (Xag rfl) ?_
 have e9:g=expP f k u r:=by rw [hg,bY];unfold expP;rw [if_neg bE]
 rw [e9] at b aY aI
 exact ⟨rfl,p,aW,aX,b,aY.top,aI⟩
theorem Xtn(w0:World)(bV:Nat)(f:Int→Int)(AT:Option Addr)(cT:Nat)(c:Blk w0 bV 105 [vi (f 0),.slice AT (tms f).length cT])(hT:Rd w0 w0.heap.size 76 encT AT (tms f))(bS:(tms f).length≤cT)(bU:PO f)(bW:SupF f)(u:Af)(y:Af)(N:AO u)(H:AO y) : Ret Tryz.prog 58 [.pointer (some ⟨bV,0,none⟩),.agg #[vi u.m,vi u.t],.agg #[vi y.m,vi y.t]] w0 (fun v w=>v=.tuple #[]∧Kept bV w0.heap.size w0 w∧∃ A9 c9,Blk w bV 105 [vi ((foldA (sumS u y) f) 0),.slice A9 (tms (foldA (sumS u y) f)).length c9]∧Rd w w.heap.size 76 encT A9 (tms (foldA (sumS u y) f))∧(tms (foldA (sumS u y) f)).length≤c9):=by
 have cS:=c.lt;have d8:=X88 f;have dB:=X87 u.m;have dC:=X43 u.m;have cU:=X87 y.m;have cW:=X43 y.m;have bX:=N.2;have bY:=H.2;have dD:=Y19 bX bY;refine enter Tryz.func58 rfl 72 rfl rfl ?_;intro a o
 have p:Kept bV w0.heap.size w0 w0:=Kept.refl _ _ _
 refine Zs o fun _ bZ=>?_;refine Zf (X14 (zs:=[vi u.m,vi u.t]) rfl rfl) ?_;rintro _ w1 ⟨b3,rfl,c4,n,b⟩;have cX:=Nat.le_trans p.size c4;have c:=c.below n;have hT:=hT.below n;have p:=ktr p n;refine Zf (X14 (zs:=[vi y.m,vi y.t]) rfl rfl) ?_;rintro _ w2 ⟨b4,rfl,cA,n,d⟩
 have bR:b3≠b4:=by have:=b.lt;omega
 have cY:=Nat.le_trans p.size cA;have c:=c.below n;have b:=b.below n;have hT:=hT.below n;have p:=ktr p n;refine ZX bZ fun a o _ cC=>?_;refine Zs o fun _ cD=>?_;refine Ze (Vd rfl X0a 0)<|Ze (X0 rfl X2 (b.at 0))<|Zf (Vc (X56 _ u.m N.1.b62) X3x) ?_;rintro _ w3 ⟨A7,c7,rfl,q,n⟩;have q:=q.lower p.size;have c:=c.below n;have b:=b.below n;have d:=d.below n;have hT:=hT.below n;have p:=ktr p n;refine Ze (X1f rfl X0f)<|Zm rfl<|Zt cD fun a o=>?_;refine wp_block<|X06 (σ:=Nat×(Int→Int)) (fun (s:Nat×(Int→Int)) (a:Act) (w:World)=>match s with|(i,g)=>∃ A8 c8,Fr a 72 [(0,.pointer (some ⟨bV,0,none⟩)),(4,.pointer (some ⟨b3,0,none⟩)),(5,.pointer (some ⟨b4,0,none⟩)),(14,.slice A7 (setI u.m.toNat).length c7),(15,vi ((setI u.m.toNat).length:Int)),(16,vi (i:Int))]∧(i≤(setI u.m.toNat).length)∧(g=foldA (((lows u.m).take i).flatMap fun x=>((lows y.m).map fun z=>(oI x z,4))++[(x,4*y.t)]) f)∧(PO g)∧(SupF g)∧Blk w bV 105 [vi (g 0),.slice A8 (tms g).length c8]∧Blk w b3 34 [vi u.m,vi u.t]∧Blk w b4 34 [vi y.m,vi y.t]∧Own w w0.heap.size 3 1 encI A7 c7 (setI u.m.toNat)∧Rd w w.heap.size 76 encT A8 (tms g)∧(tms g).length≤c8∧Kept bV w0.heap.size w0 w) (fun (s:Nat×(Int→Int))=>match s with|(i,g)=>(setI u.m.toNat).length-i) (0,f) ?_ ?_
 ·exact ⟨AT,cT,o.sb,(Nat.zero_le _),rfl,bU,bW,c,b,d,q,hT.top,bS,p⟩
 rintro ⟨i,g⟩ a w4 ⟨A8,c8,o,hi,hg,hp,hs,c,b,d,q,I,aG,p⟩;refine Zs o fun _ cE=>?_;refine Ze (X1n rfl rfl)<|ZX cE fun a o _ aX=>?_
 refine Xg o rfl (fun B=>?_) (fun B=>?_)
 ·have aK:=B;have B:=of_decide_eq_true B
  obtain ⟨dE,d5⟩:=Xm (l:=(setI u.m.toNat)) (k:=i) (by omega)
  have cF:=Xej (m:=u.m) (i:=i) (by have:=B;omega)
  refine wp_skip<|aX _ _<|wp_seq_k fun _ aY=>?_;refine wp_block<|Zs o fun _ aZ=>?_;refine Zi (k:=i) (u:=((nS u.m i:Nat) : Int)) (enc:=encI) (l:=(setI u.m.toNat)) trivial rfl rfl X0f X12 X0h q.rd (X4t (by omega)) rfl ?_;intro dF aL;refine Ze (X0 rfl X2 aL)<|Za rfl<|ZX aZ fun a o _ b0=>?_;refine Zs o fun _ b1=>?_;refine Ze (Vd rfl X0a 0)<|Ze (X0 rfl X2 (d.at 0))<|Zf (Vc (X56 _ y.m H.1.b62) X3x) ?_;rintro _ w5 ⟨b2,b5,rfl,h,n⟩;have h:=h.lower p.size;have c:=c.below n;have b:=b.below n;have d:=d.below n;have q:=q.below n;have I:=I.below n;have p:=ktr p n;refine Ze (X1f rfl X0f)<|Zm rfl<|Zt b1 fun a o=>?_;refine wp_block<|X06 (σ:=Nat×(Int→Int)) (fun (s:Nat×(Int→Int)) (a:Act) (w:World)=>match s with|(j,J)=>∃ Q U,Fr a 72 [(0,.pointer (some ⟨bV,0,none⟩)),(4,.pointer (some ⟨b3,0,none⟩)),(5,.pointer (some ⟨b4,0,none⟩)),(7,vi ((nS u.m i:Nat) : Int)),(14,.slice A7 (setI u.m.toNat).length c7),(15,vi ((setI u.m.toNat).length:Int)),(16,vi (i:Int)),(22,.slice b2 (setI y.m.toNat).length b5),(23,vi ((setI y.m.toNat).length:Int)),(24,vi (j:Int))]∧(j≤(setI y.m.toNat).length)∧(J=foldA (((lows y.m).take j).map fun z=>(oI ((lows u.m).getD i 0) z,4)) (foldA (((lows u.m).take i).flatMap fun x=>((lows y.m).map fun z=>(oI x z,4))++[(x,4*y.t)]) f))∧(PO J)∧(SupF J)∧Blk w bV 105 [vi (J 0),.slice Q (tms J).length U]∧Blk w b3 34 [vi u.m,vi u.t]∧Blk w b4 34 [vi y.m,vi y.t]∧Own w w0.heap.size 3 1 encI A7 c7 (setI u.m.toNat)∧Own w w0.heap.size 3 1 encI b2 b5 (setI y.m.toNat)∧Rd w w.heap.size 76 encT Q (tms J)∧(tms J).length≤U∧Kept bV w0.heap.size w0 w) (fun (s:Nat×(Int→Int))=>match s with|(j,J)=>(setI y.m.toNat).length-j) (0,g) ?_ ?_
  ·exact ⟨A8,c8,o.sb,(Nat.zero_le _),(by rw [hg];rfl),hp,hs,c,b,d,q,h,I.top,aG,p⟩
  rintro ⟨j,J⟩ a w6 ⟨Q,U,o,hj,aM,L,aE,c,b,d,q,h,aH,W,p⟩;refine Zs o fun _ b6=>?_;refine Ze (X1n rfl rfl)<|ZX b6 fun a o _ b7=>?_
  refine Xg o rfl (fun C=>?_) (fun C=>?_)
  ·have aN:=C;have C:=of_decide_eq_true C
   obtain ⟨dG,d6⟩:=Xm (l:=(setI y.m.toNat)) (k:=j) (by omega)
   have aO:=Xej (m:=y.m) (i:=j) (by have:=C;omega)
   refine wp_skip<|b7 _ _<|wp_seq_k fun _ b8=>?_;refine wp_block<|Zs o fun _ b9=>?_;refine Zi (k:=j) (u:=((nS y.m j:Nat) : Int)) (enc:=encI) (l:=(setI y.m.toNat)) trivial rfl rfl X0f X12 X0h h.rd (X4t (by omega)) rfl ?_;intro dH aP;refine Ze (X0 rfl X2 aP)<|Za rfl<|Zt b9 fun a o=>?_;refine Zr o<|Zm rfl<|Zm rfl<|Ze (X5a (m:=(nS u.m i)) Tryz.underlying3 Tryz.underlying67 rfl rfl (by have:=X1z N.1.b62 i;omega))<|Ze (Vx (X2i (m:=(nS u.m i)) rfl rfl rfl (by have:=X1z N.1.b62 i;omega)) (X31 N.1.b62 (by omega)))<|Zm rfl ?_;refine Ze (X5a (m:=(nS y.m j)) Tryz.underlying3 Tryz.underlying67 rfl rfl (by have:=X1z H.1.b62 j;omega))<|Ze (Vx (X2i (m:=(nS y.m j)) rfl rfl rfl (by have:=X1z H.1.b62 j;omega)) (X31 H.1.b62 (by omega)))<|Ze (Vx (Vor rfl rfl) (rfl:_=(oI ((lows u.m).getD i 0) ((lows y.m).getD j 0))))<|Zf (Vc (X3k _ bV J Q U c aH.top W L aE (oI ((lows u.m).getD i 0) ((lows y.m).getD j 0)) 4 ((X13 N.1 i).or (X13 H.1 j)) (by omega)) X21) ?_;rintro _ w7 ⟨rfl,hK,cG,cH,E,bC,aQ⟩;obtain ⟨wm,G,hm,n⟩:=hK.mid;clear hm;have e:=c;have b:=b.only G (Blk.ne b e rfl);have d:=d.only G (Blk.ne d e rfl);have q:=q.onlyT G e rfl;have h:=h.onlyT G e rfl;have p:=p.self G;have b:=b.below n;have d:=d.below n;have q:=q.below n;have h:=h.below n;have p:=ktr p n
   clear e n G hK;have c:=E;clear E;refine Zn fun a o=>?_;refine Xa<|b8 _ _<|Zr o<|Ze (Xu rfl rfl (by omega) (by omega))<|Zm rfl ?_;refine Zn fun a o=>?_;refine Xd ?_;exact ⟨(j+1,(padd J (oI ((lows u.m).getD i 0) ((lows y.m).getD j 0)) 4)),⟨cG,cH,o.sb,(by omega),(by rw [aM];exact (X9k _ aO _).symm),(L.padd _ _),(aE.pad L ((X13 N.1 i).or (X13 H.1 j))),c,b,d,q,h,bC.top,aQ,p⟩,(by first|omega|(dsimp only;omega))⟩
  have aN:=C;have C:=of_decide_eq_false C
  have cJ:j=(lows y.m).length:=by have:=C;omega
  rw [cJ] at aM
  refine wp_exit<|Xi<|Xi<|X03 ?_;refine b0 _ _<|Zr o<|Zm rfl<|Zm rfl<|Ze (X5a (m:=(nS u.m i)) Tryz.underlying3 Tryz.underlying67 rfl rfl (by have:=X1z N.1.b62 i;omega))<|Ze (Vx (X2i (m:=(nS u.m i)) rfl rfl rfl (by have:=X1z N.1.b62 i;omega)) (X31 N.1.b62 (by omega)))<|Ze (Vd rfl X0k 1) ?_;refine Ze (X0 rfl X2 (d.at 1))<|Ze (X2y rfl rfl (by omega) (by omega))<|Zf (Vc (X3k _ bV J Q U c aH.top W L aE ((lows u.m).getD i 0) (4*y.t) (X13 N.1 i) (by omega)) X21) ?_;rintro _ w8 ⟨rfl,hK,cK,cL,E,bD,aR⟩;obtain ⟨wm,G,hm,n⟩:=hK.mid;clear hm;have e:=c;have b:=b.only G (Blk.ne b e rfl);have d:=d.only G (Blk.ne d e rfl);have q:=q.onlyT G e rfl;have p:=p.self G;have b:=b.below n;have d:=d.below n;have q:=q.below n;have p:=ktr p n
  clear e n G hK;have c:=E;clear E;refine Zn fun a o=>?_;refine Xa<|aY _ _<|Zr o<|Ze (Xu rfl rfl (by omega) (by omega))<|Zm rfl ?_;refine Zn fun a o=>?_;refine Xd ?_;exact ⟨(i+1,(padd J ((lows u.m).getD i 0) (4*y.t))),⟨cK,cL,o.sb,(by omega),(Xoi cF aM),(L.padd _ _),(aE.pad L (X13 N.1 i)),c,b,d,q,bD.top,aR,p⟩,(by first|omega|(dsimp only;omega))⟩
 have aK:=B;have B:=of_decide_eq_false B
 have cM:i=(lows u.m).length:=by have:=B;omega
 refine wp_exit<|Xi<|Xi<|X03 ?_;refine cC _ _<|wp_seq_k fun _ bE=>?_;refine Zs o fun _ bF=>?_;refine Ze (Vd rfl X0a 0)<|Ze (X0 rfl X2 (d.at 0))<|Zf (Vc (X56 _ y.m H.1.b62) X3x) ?_;rintro _ w9 ⟨bG,bH,rfl,A,n⟩;have A:=A.lower p.size;have c:=c.below n;have b:=b.below n;have d:=d.below n;have I:=I.below n;have p:=ktr p n;refine Ze (X1f rfl X0f)<|Zm rfl<|Zt bF fun a o=>?_;refine wp_block<|X06 (σ:=Nat×(Int→Int)) (fun (s:Nat×(Int→Int)) (a:Act) (w:World)=>match s with|(z,M)=>∃ aA aB,Fr a 72 [(0,.pointer (some ⟨bV,0,none⟩)),(4,.pointer (some ⟨b3,0,none⟩)),(5,.pointer (some ⟨b4,0,none⟩)),(49,.slice bG (setI y.m.toNat).length bH),(50,vi ((setI y.m.toNat).length:Int)),(51,vi (z:Int))]∧(z≤(setI y.m.toNat).length)∧(M=foldA (((lows y.m).take z).map fun x=>(x,4*u.t)) g)∧(PO M)∧(SupF M)∧Blk w bV 105 [vi (M 0),.slice aA (tms M).length aB]∧Blk w b3 34 [vi u.m,vi u.t]∧Blk w b4 34 [vi y.m,vi y.t]∧Own w w0.heap.size 3 1 encI bG bH (setI y.m.toNat)∧Rd w w.heap.size 76 encT aA (tms M)∧(tms M).length≤aB∧Kept bV w0.heap.size w0 w) (fun (s:Nat×(Int→Int))=>match s with|(z,M)=>(setI y.m.toNat).length-z) (0,g) ?_ ?_
 ·exact ⟨A8,c8,o.sb,(Nat.zero_le _),rfl,hp,hs,c,b,d,A,I.top,aG,p⟩
 rintro ⟨z,M⟩ a dI ⟨aA,aB,o,hz,bJ,aF,aS,c,b,d,A,aI,aC,p⟩;refine Zs o fun _ bK=>?_;refine Ze (X1n rfl rfl)<|ZX bK fun a o _ bL=>?_
 refine Xg o rfl (fun D=>?_) (fun D=>?_)
 ·have aT:=D;have D:=of_decide_eq_true D
  obtain ⟨dJ,d7⟩:=Xm (l:=(setI y.m.toNat)) (k:=z) (by omega)
  have aO:=Xej (m:=y.m) (i:=z) (by have:=D;omega)
  refine wp_skip<|bL _ _<|wp_seq_k fun _ bN=>?_;refine wp_block<|Zs o fun _ bO=>?_;refine Zi (k:=z) (u:=((nS y.m z:Nat) : Int)) (enc:=encI) (l:=(setI y.m.toNat)) trivial rfl rfl X0f X12 X0h A.rd (X4t (by omega)) rfl ?_;intro dK aU;refine Ze (X0 rfl X2 aU)<|Za rfl<|Zt bO fun a o=>?_;refine Zr o<|Zm rfl<|Zm rfl<|Ze (X5a (m:=(nS y.m z)) Tryz.underlying3 Tryz.underlying67 rfl rfl (by have:=X1z H.1.b62 z;omega))<|Ze (Vx (X2i (m:=(nS y.m z)) rfl rfl rfl (by have:=X1z H.1.b62 z;omega)) (X31 H.1.b62 (by omega)))<|Ze (Vd rfl X0k 1) ?_;refine Ze (X0 rfl X2 (b.at 1))<|Ze (X2y rfl rfl (by omega) (by omega))<|Zf (Vc (X3k _ bV M aA aB c aI.top aC aF aS ((lows y.m).getD z 0) (4*u.t) (X13 H.1 z) (by omega)) X21) ?_;rintro _ dL ⟨rfl,hK,cN,cO,E,bP,aW⟩;obtain ⟨wm,G,hm,n⟩:=hK.mid;clear hm;have e:=c;have b:=b.only G (Blk.ne b e rfl);have d:=d.only G (Blk.ne d e rfl);have A:=A.onlyT G e rfl;have p:=p.self G;have b:=b.below n;have d:=d.below n;have A:=A.below n;have p:=ktr p n
  clear e n G hK;have c:=E;clear E;refine Zn fun a o=>?_;refine Xa<|bN _ _<|Zr o<|Ze (Xu rfl rfl (by omega) (by omega))<|Zm rfl ?_;refine Zn fun a o=>?_;refine Xd ?_;exact ⟨(z+1,(padd M ((lows y.m).getD z 0) (4*u.t))),⟨cN,cO,o.sb,(by omega),(by rw [bJ];exact (X9k _ aO _).symm),(aF.padd _ _),(aS.pad aF (X13 H.1 z)),c,b,d,A,bP.top,aW,p⟩,(by first|omega|(dsimp only;omega))⟩
 have aT:=D;have D:=of_decide_eq_false D
 have cP:z=(lows y.m).length:=by have:=D;omega
 refine wp_exit<|Xi<|Xi<|X03 ?_;refine bE _ _<|Zr o<|Zm rfl<|Ze (Vd rfl X0k 1)<|Ze (X0 rfl X2 (b.at 1))<|Ze (X2y rfl rfl (by omega) (by omega))<|Ze (Vd rfl X0k 1) ?_;refine Ze (X0 rfl X2 (d.at 1))<|Ze (X2y rfl rfl (by omega) (by omega))<|Zf (Vc (X3k _ bV M aA aB c aI.top aC aF aS 0 ((4*u.t)*y.t) Mk.zero (by omega)) X21) ?_;rintro _ dM ⟨rfl,hK,cQ,cR,E,aJ,aD⟩;obtain ⟨wm,G,hm,n⟩:=hK.mid;clear hm;have e:=c;have p:=p.self G;have p:=ktr p n
 clear e n G hK;have c:=E;clear E;refine Zn fun a o=>?_;refine Xad o (Xag rfl) ?_
 have e9:padd M 0 (4*u.t*y.t)=foldA (sumS u y) f:=by rw [bJ,cP,List.take_length,hg,cM,List.take_length];unfold sumS;rw [X2x,X2x];rfl
 rw [e9] at c aJ aD
 exact ⟨rfl,p,cQ,cR,c,aJ.top,aD⟩
theorem Xnp(w0:World)(p:Af)(q:Af) : Ret Tryz.prog 59 [.agg #[vi p.m,vi p.t],.agg #[vi q.m,vi q.t]] w0 (fun v w=>v=aV (aXor p q)∧Below w0.heap.size w0 w):=by
 refine enter Tryz.func59 rfl 16 rfl rfl ?_;intro a hf
 have c:=bz w0
 refine Zs hf fun _ aE=>?_;refine Zf (X14 (zs:=[vi p.m,vi p.t]) rfl rfl) ?_;rintro _ w1 ⟨b2,rfl,aF,f,b⟩;have aJ:=Nat.le_trans c.size aF;have c:=btr c f;refine Zf (X14 (zs:=[vi q.m,vi q.t]) rfl rfl) ?_;rintro _ w2 ⟨b3,rfl,aG,f,d⟩
 have aB:b2≠b3:=by have:=b.lt;omega
 have aK:=Nat.le_trans c.size aG;have b:=b.below f;have c:=btr c f;refine Zf (X6 (zs:=[vi 0,vi 0]) X18 rfl) ?_;rintro _ w3 ⟨b4,rfl,aH,f,e⟩
 have aC:b2≠b4:=by have:=b.lt;omega
 have aD:b3≠b4:=by have:=d.lt;omega
 have aA:=Nat.le_trans c.size aH;have b:=b.below f;have d:=d.below f;have c:=btr c f;refine Zx aE fun a hf _ aI=>?_;refine Ze (Vd rfl X0a 0)<|Ze (X0 rfl X2 (b.at 0))<|Ze (Vd rfl X0a 0)<|Ze (X0 rfl X2 (d.at 0))<|Ze (X6b rfl rfl) ?_;refine Ze (Vd rfl X0k 1)<|Ze (X0 rfl X2 (b.at 1))<|Ze (Vd rfl X0k 1)<|Ze (X0 rfl X2 (d.at 1))<|Ze (X6b rfl rfl) ?_;refine Ze (Xk (ps:=[(0,vi (bits .xor .i64 p.m q.m)),(1,vi (bits .xor .i64 p.t q.t))]) (cs:=[vi (bits .xor .i64 p.m q.m),vi (bits .xor .i64 p.t q.t)]) rfl (fun _=>by first|rfl|kernel_rfl))<|Zo (Vw [vi (bits .xor .i64 p.m q.m),vi (bits .xor .i64 p.t q.t)] Xj e) ?_;rintro _ w4 ⟨ho,hb⟩;have aL:=e;have c:=Below.only c ho aA;have e:=hb;refine Zt aI fun a hf=>?_
 refine wp_ret (X3 hf (Xz hf rfl (ResV.cellN (l:=[vi (bits .xor .i64 p.m q.m),vi (bits .xor .i64 p.t q.t)]) rfl Xs (e.at 0) rfl)) ?_)
 exact ⟨rfl,c⟩
theorem Xze(w0:World)(k:Int) : Ret Tryz.prog 62 [vi k] w0 (fun v w=>v=vi (rotC k)∧w0=w):=by
 refine enter Tryz.func62 rfl 14 rfl rfl ?_;intro a b
 have hW:=bz w0
 refine Zs b fun _ aO=>?_;refine Za rfl<|ZX aO fun a b _ aP=>?_;refine Zs b fun _ aQ=>?_;refine Zm rfl<|Zt aQ fun a b=>?_;refine wp_block<|Zs b fun _ aR=>?_;refine Ze (X0l rfl rfl)<|Za rfl<|Zt aR fun a b=>?_
 refine Xg b rfl (fun aA=>?_) (fun aA=>?_)
 ·have aF:=aA;refine Zs b fun _ aS=>?_;refine Za rfl<|Zt aS fun a b=>?_;refine wp_ret<|Xw<|X7<|X3 b (Xz b rfl rfl) ?_;exact ⟨by unfold rotC;simp_all,rfl⟩
 have aF:=aA;refine Zs b fun _ aT=>?_;refine Ze (X0l rfl rfl)<|Za rfl<|Zt aT fun a b=>?_
 refine Xg b rfl (fun aB=>?_) (fun aB=>?_)
 ·have aG:=aB;refine Zs b fun _ aU=>?_;refine Za rfl<|Zt aU fun a b=>?_;refine wp_ret<|Xw<|X7<|X3 b (Xz b rfl rfl) ?_;exact ⟨by unfold rotC;simp_all,rfl⟩
 have aG:=aB;refine Zs b fun _ aH=>?_;refine Ze (X0l rfl rfl)<|Za rfl<|Zt aH fun a b=>?_
 refine Xg b rfl (fun c=>?_) (fun c=>?_)
 ·have aC:=c;refine Zs b fun _ aI=>?_;refine Za rfl<|Zt aI fun a b=>?_;refine wp_ret<|Xw<|X7<|X3 b (Xz b rfl rfl) ?_;exact ⟨by unfold rotC;simp_all,rfl⟩
 have aC:=c;refine Zs b fun _ aJ=>?_;refine Ze (X0l rfl rfl)<|Za rfl<|Zt aJ fun a b=>?_
 refine Xg b rfl (fun d=>?_) (fun d=>?_)
 ·have aD:=d;refine Zs b fun _ aK=>?_;refine Za rfl<|Zt aK fun a b=>?_;refine wp_ret<|Xw<|X7<|X3 b (Xz b rfl rfl) ?_;exact ⟨by unfold rotC;simp_all,rfl⟩
 have aD:=d;refine Zs b fun _ aL=>?_;refine Ze (X0l rfl rfl)<|Za rfl<|Zt aL fun a b=>?_
 refine Xg b rfl (fun e=>?_) (fun e=>?_)
 ·have aE:=e;refine Zs b fun _ aM=>?_;refine Za rfl<|Zt aM fun a b=>?_;refine wp_ret<|Xw<|X7<|X3 b (Xz b rfl rfl) ?_;exact ⟨by unfold rotC;simp_all,rfl⟩
 have aE:=e;refine wp_skip<|Xa<|aP _ _<|Zs b fun _ aN=>?_;refine Za rfl<|Zt aN fun a b=>?_
 refine wp_ret (X3 b (Xz b rfl rfl) ?_)
 exact ⟨by unfold rotC;simp_all,rfl⟩
theorem Xyi(w0:World)(x:Nat)(hx:x<16777216) : Ret Tryz.prog 89 [.int .u64 (x:Int)] w0 (fun v w=>v=vi ((popS x:Nat) : Int)∧w0=w):=by
 have aI:x/2 &&& 6148914691236517205≤6148914691236517205:=Nat.and_le_right
 have aJ:x &&& 6148914691236517205≤6148914691236517205:=Nat.and_le_right
 have aK:onA x=(x/2 &&& 6148914691236517205)+(x &&& 6148914691236517205):=rfl
 have aL:(onA x)/4 &&& 3689348814741910323≤3689348814741910323:=Nat.and_le_right
 have aM:(onA x) &&& 3689348814741910323≤3689348814741910323:=Nat.and_le_right
 have aN:onB (onA x)=((onA x)/4 &&& 3689348814741910323)+((onA x) &&& 3689348814741910323):=rfl
 have aO:(onC (onB (onA x)))≤1085102592571150095:=Nat.and_le_right
 have aP:(2:Nat)^64=18446744073709551616:=by decide
 have aQ:(2:Nat)^62=4611686018427387904:=by decide
 refine enter Tryz.func89 rfl 35 rfl rfl ?_;intro a b
 have hW:=bz w0
 refine Zs b fun _ aA=>?_;refine Za rfl<|Zx aA fun a b _ aB=>?_;refine Zm rfl<|Ze (Vx (Xa1 (m:=1) rfl rfl rfl (by decide)) (X9s x 1))<|Ze (Vx (Xbo rfl rfl) (Xnq (x:=x/2) (y:=6148914691236517205) (by omega) (by omega)))<|Zm rfl<|Ze (Vx (Xbo rfl rfl) (Xnq (x:=x) (y:=6148914691236517205) (by omega) (by omega))) ?_;refine Ze (Vx (X7q rfl rfl) (Xk0 _ _ (by omega)))<|Za rfl<|Zx aB fun a b _ aC=>?_;refine Zm rfl<|Ze (Vx (Xa1 (m:=2) rfl rfl rfl (by decide)) (X9s (onA x) 2))<|Ze (Vx (Xbo rfl rfl) (Xnq (x:=(onA x)/4) (y:=3689348814741910323) (by omega) (by omega)))<|Zm rfl<|Ze (Vx (Xbo rfl rfl) (Xnq (x:=(onA x)) (y:=3689348814741910323) (by omega) (by omega))) ?_;refine Ze (Vx (X7q rfl rfl) (Xk0 _ _ (by omega)))<|Za rfl<|Zx aC fun a b _ aD=>?_;refine Zm rfl<|Ze (Vx (Xa1 (m:=4) rfl rfl rfl (by decide)) (X9s (onB (onA x)) 4))<|Zm rfl<|Ze (Vx (X7q rfl rfl) (Xk0 _ _ (by omega)))<|Ze (Vx (Xbo rfl rfl) (Xnq (x:=(onB (onA x))/16+(onB (onA x))) (y:=1085102592571150095) (by omega) (by omega))) ?_;refine Za rfl<|Zx aD fun a b _ aE=>?_;refine Zm rfl<|Zm rfl<|Ze (Vx (Xa1 (m:=8) rfl rfl rfl (by decide)) (X9s (onC (onB (onA x))) 8))<|Ze (Vx (X7q rfl rfl) (Xk0 (onC (onB (onA x))) ((onC (onB (onA x)))/256) (by omega)))<|Za rfl ?_;refine Zx aE fun a b _ aF=>?_;refine Zm rfl<|Zm rfl<|Ze (Vx (Xa1 (m:=16) rfl rfl rfl (by decide)) (X9s ((onC (onB (onA x)))+(onC (onB (onA x)))/256) 16))<|Ze (Vx (X7q rfl rfl) (Xk0 ((onC (onB (onA x)))+(onC (onB (onA x)))/256) (((onC (onB (onA x)))+(onC (onB (onA x)))/256)/65536) (by omega)))<|Za rfl ?_;refine Zx aF fun a b _ aG=>?_;refine Zm rfl<|Zm rfl<|Ze (Vx (Xa1 (m:=32) rfl rfl rfl (by decide)) (X9s (((onC (onB (onA x)))+(onC (onB (onA x)))/256)+((onC (onB (onA x)))+(onC (onB (onA x)))/256)/65536) 32))<|Ze (Vx (X7q rfl rfl) (Xk0 (((onC (onB (onA x)))+(onC (onB (onA x)))/256)+((onC (onB (onA x)))+(onC (onB (onA x)))/256)/65536) ((((onC (onB (onA x)))+(onC (onB (onA x)))/256)+((onC (onB (onA x)))+(onC (onB (onA x)))/256)/65536)/4294967296) (by omega)))<|Za rfl ?_
 refine Zx aG fun a b _ aH=>?_;refine Zm rfl<|Ze (Xv5 Tryz.underlying49 Tryz.underlying3 rfl (by omega))<|Ze (Vx (X69 rfl rfl) (X4m (x:=((((onC (onB (onA x)))+(onC (onB (onA x)))/256)+((onC (onB (onA x)))+(onC (onB (onA x)))/256)/65536)+(((onC (onB (onA x)))+(onC (onB (onA x)))/256)+((onC (onB (onA x)))+(onC (onB (onA x)))/256)/65536)/4294967296)) (y:=127) (by omega) (by omega)))<|Za rfl<|Zt aH fun a b=>?_
 refine wp_ret (X3 b (Xz b rfl rfl) ?_)
 exact ⟨rfl,rfl⟩
theorem Xts(w0:World)(x:Nat)(hx:x<16777216) : Ret Tryz.prog 68 [.int .u64 (x:Int)] w0 (fun v w=>v=vi ((popS x:Nat) : Int)∧w0=w):=by
 refine enter Tryz.func68 rfl 8 rfl rfl ?_;intro a hf
 have hW:=bz w0
 refine Zs hf fun _ aA=>?_;refine Za rfl<|ZX aA fun a hf _ aB=>?_;refine Xjt hf rfl ?_;refine wp_skip<|aB _ _<|Zs hf fun _ aC=>?_;refine Zm rfl<|Zf (Vc (Xyi _ x hx) Xqv) ?_;rintro _ _ ⟨rfl,rfl⟩;refine Za rfl<|Zt aC fun a hf=>?_
 refine wp_ret (X3 hf (Xz hf rfl rfl) ?_)
 exact ⟨rfl,rfl⟩
theorem Xyc(w0:World)(m:Int)(hm:Mk m) : Ret Tryz.prog 35 [vi m] w0 (fun v w=>v=vi ((szI m:Nat) : Int)∧w0=w):=by
 have aC:=hm.1;have aD:=hm.2;refine enter Tryz.func35 rfl 6 rfl rfl ?_;intro a hf
 have hW:=bz w0
 refine Zs hf fun _ aA=>?_;refine Za rfl<|Zx aA fun a hf _ aB=>?_;refine Zm rfl<|Ze (X2u (m:=m.toNat) Tryz.underlying3 Tryz.underlying67 rfl (by omega) (by omega))<|Zf (Vc (Xts _ m.toNat (by omega)) Xjq) ?_;rintro _ _ ⟨rfl,rfl⟩;refine Za rfl<|Zt aB fun a hf=>?_
 refine wp_ret (X3 hf (Xz hf rfl rfl) ?_)
 exact ⟨by rw [Xly (show m.toNat<2^24 by omega)];rfl,rfl⟩
theorem Xte(w0:World)(u:Af)(n:Nat)(hn:n≤24) : Ret Tryz.prog 28 [.agg #[vi u.m,vi u.t],vi (n:Int)] w0 (fun v w=>v=.bool (okAf n u)∧Below w0.heap.size w0 w):=by
 have aF:=X6h hn;refine enter Tryz.func28 rfl 16 rfl rfl ?_;intro a c
 have f:=bz w0
 refine Zs c fun _ aB=>?_;refine Zf (X14 (zs:=[vi u.m,vi u.t]) rfl rfl) ?_;rintro _ w1 ⟨b2,rfl,aC,hE,d⟩;have aE:=Nat.le_trans f.size aC;have f:=btr f hE;refine Za rfl<|ZX aB fun a c _ aD=>?_;refine X0j (fun a w=>Fr a 16 [(4,.bool ((inR u.m 0 (((2^n:Nat) : Int)-1))&&(inR u.t 0 1)))]∧Below w1.heap.size w1 w) ?_ ?_
 ·have e:Below w1.heap.size w1 w1:=Below.refl _ _
  refine Xq none (fun _=>false) mixed ?_;intro w2 hE;have d:=d.below hE;have f:=btr f hE;have e:=btr e hE;refine Yb c<|Yo 0 rfl (fun _=>Vd rfl X0a 0)<|Ye 1 rfl (X0 rfl X2 (d.at 0))<|Yo 2 rfl (fun _=>X4 rfl)<|Yo 3 rfl (fun _=>Vx (X2i (m:=n) rfl rfl rfl (by omega)) (X55 (by omega)))<|Yo 4 rfl (fun _=>X15 rfl rfl (by omega) (by omega)) ?_;refine Y1 5<|Yz rfl trivial (Vc (F91 _ u.m 0 (((2^n:Nat) : Int)-1)) X32) ?_;refine Yo 6 rfl (fun _=>X4 rfl) ?_
  refine Yl 11 rfl (fun b=>?_) (fun b=>?_)
  ·refine Yu 7 rfl (gW b) (fun _=>Vd rfl X0k 1) ?_;refine Yv 8 rfl (gW b) (X0 rfl X2 (d.at 1)) ?_;refine Y1 9<|Yz rfl ⟨_,_,rfl,rfl,b⟩ (Vc (F91 _ u.t 0 1) X32) ?_;refine Yo 10 rfl (fun _=>X5 rfl b rfl)<|Yo 11 rfl (fun _=>X19 rfl) ?_;refine Yd fun a c=>?_
   have aA:Below w1.heap.size w1 w2:=e
   exact ⟨c.sub ⟨X1 rfl (by first|rfl|(simp only [b,bs];done)|simp [b]),trivial⟩,aA⟩
  refine Yp 7 rfl (gP b) ?_;refine Yp 8 rfl (gP b) ?_;refine Y1 9<|Yq rfl ⟨_,_,rfl,rfl,b⟩ ?_;refine Yo 10 rfl (fun _=>Xc rfl b rfl)<|Yo 11 rfl (fun _=>X19 rfl) ?_;refine Yd fun a c=>?_
  have aA:Below w1.heap.size w1 w2:=e
  exact ⟨c.sub ⟨X1 rfl (by first|rfl|(simp only [b,bs];done)|simp [b]),trivial⟩,aA⟩
 rintro a w3 ⟨c,hE⟩;have f:=btr f hE;refine aD _ _ ?_
 refine wp_ret (X3 c (Xz c rfl rfl) ?_)
 exact ⟨rfl,f⟩
theorem Xzh(e:World)(Al:Option Addr)(cl:Nat)(l:List Af)(aE:Rd e e.heap.size 34 encA Al l)(kq:FuncId)(pq:List Value)(Fq:FuncF Tryz.prog kq)(q:Af→Bool)(hq:∀ x w,Below e.heap.size e w→Ret Tryz.prog kq ([aV x]++pq) w (fun v w'=>v=.bool (q x)∧Below w.heap.size w w'))(aR:l.length≤2305843009213693951) : Ret Tryz.prog 69 [.slice Al l.length cl,.func (.func kq) #[] pq.toArray] e (fun v w=>∃ i:Int,v=vi i∧decide (0≤i)=l.any q∧Below e.heap.size e w):=by
 refine enter Tryz.func69 rfl 19 rfl rfl ?_;intro a b
 have f:=bz e
 refine Zs b fun _ aK=>?_;refine Za rfl<|ZX aK fun a b _ aL=>?_;refine Zs b fun _ aM=>?_;refine Zm rfl<|Ze (X1f rfl Xr)<|Zm rfl<|Zt aM fun a b=>?_;refine wp_block<|X06 (σ:=Nat) (fun (k:Nat) (a:Act) (w:World)=>Fr a 19 [(0,.slice Al l.length cl),(1,.func (.func kq) #[] pq.toArray),(7,vi (l.length:Int)),(8,vi (k:Int))]∧(k≤l.length)∧((l.take k).all (fun x=>!q x)=true)∧Below e.heap.size e w) (fun (k:Nat)=>l.length+1-k) 0 ?_ ?_
 ·exact ⟨b.sb,(Nat.zero_le _),(by simp),f⟩
 rintro k a w1 ⟨b,hk,g,f⟩;refine Zs b fun _ aN=>?_;refine Ze (X1n rfl rfl)<|ZX aN fun a b _ aO=>?_
 refine Xg b rfl (fun d=>?_) (fun d=>?_)
 ·have aF:=d;have d:=of_decide_eq_true d
  obtain ⟨j,aA⟩:=Xm (l:=l) (k:=k) (by omega)
  refine wp_skip<|aO _ _<|wp_seq_k fun _ aP=>?_;refine wp_block<|Zs b fun _ aG=>?_;refine Zm rfl<|Za rfl<|Zx aG fun a b _ aH=>?_;refine Zm rfl<|Zm rfl<|Zm rfl<|Zi (k:=k) (u:=j) (enc:=encA) (l:=l) trivial rfl rfl Xr Xj Xv (aE.below' f) aA rfl ?_;intro aS aB;refine Ze (X0b (l:=[vi j.m,vi j.t]) rfl Xs aB rfl)<|Zf (X98 (cs:=pq) (vs:=[.agg #[vi j.m,vi j.t]]) rfl rfl Fq (hq j _ f)) ?_;rintro _ w2 ⟨rfl,hE⟩;have f:=btr f hE;refine Zt aH fun a b=>?_
  refine Xg b rfl (fun c=>?_) (fun c=>?_)
  ·have aC:=c
   have aD:l.any q=true:=X8m aA c
   refine Zs b fun _ aI=>?_;refine Zm rfl<|Za rfl<|Zt aI fun a b=>?_;refine wp_ret<|Xw<|X7<|X7 ?_;refine Xw<|X7<|X3 b (Xz b rfl rfl) ?_;exact ⟨_,rfl,by rw [aD];simp,f⟩
  have aC:=c
  have aQ:(!q j)=true:=by revert c;cases q j<;>simp
  refine wp_skip<|Xa<|aP _ _<|Zr b ?_;refine Ze (Xu rfl rfl (by omega) (by omega))<|Zm rfl ?_;refine Zn fun a b=>?_;refine Xd ?_;exact ⟨k+1,⟨b.sb,(by omega),(X4l g aA aQ),f⟩,(by omega)⟩
 have aF:=d;have d:=of_decide_eq_false d;refine wp_exit<|Xi<|Xi<|X03 ?_;refine aL _ _<|Zs b fun _ aJ=>?_;refine Za rfl<|Zt aJ fun a b=>?_
 refine wp_ret (X3 b (Xz b rfl rfl) ?_)
 have aD:l.any q=false:=X7a (X3s g (by omega))
 exact ⟨_,rfl,by rw [aD];rfl,f⟩
theorem Xzy(b:World)(Al:Option Addr)(cl:Nat)(l:List Af)(aA:Rd b b.heap.size 34 encA Al l)(kq:FuncId)(pq:List Value)(Fq:FuncF Tryz.prog kq)(q:Af→Bool)(hq:∀ x w,Below b.heap.size b w→Ret Tryz.prog kq ([aV x]++pq) w (fun v w'=>v=.bool (q x)∧Below w.heap.size w w'))(aB:l.length≤2305843009213693951) : Ret Tryz.prog 36 [.slice Al l.length cl,.func (.func kq) #[] pq.toArray] b (fun v w=>v=.bool (l.any q)∧Below b.heap.size b w):=by
 refine enter Tryz.func36 rfl 9 rfl rfl ?_;intro a hf
 have hW:=bz b
 refine Zs hf fun _ aC=>?_;refine Za rfl<|Zx aC fun a hf _ aD=>?_;refine Zm rfl<|Zm rfl<|Zf (Vc (Xzh _ Al cl l (aA.below' hW).top kq pq Fq q (fun x w' hE'=>hq x w' (hW.trans (hE'.mono hW.size))) aB) Xpe) ?_;rintro _ w1 ⟨ix,rfl,aE,hE⟩;have hW:=btr hW hE;refine Ze (Xh7 rfl rfl)<|Za rfl<|Zt aD fun a hf=>?_
 refine wp_ret (X3 hf (Xz hf rfl rfl) ?_)
 exact ⟨by rw [← aE],hW⟩
theorem Xzc(w0:World)(x:Af)(n:Nat)(ba:Nat)(b:Blk w0 ba 3 [vi (n:Int)])(hn:n≤24) : Ret Tryz.prog 37 [.agg #[vi x.m,vi x.t],.pointer (some ⟨ba,0,none⟩)] w0 (fun v w=>v=.bool (!okAf n x)∧Below w0.heap.size w0 w):=by
 have aA:=b.lt;refine enter Tryz.func37 rfl 8 rfl rfl ?_;intro a hf
 have hW:=bz w0
 refine Zs hf fun _ aB=>?_;refine Zf (X14 (zs:=[vi x.m,vi x.t]) rfl rfl) ?_;rintro _ w1 ⟨b2,rfl,aC,hE,aD⟩;have aF:=Nat.le_trans hW.size aC;have b:=b.below hE;have hW:=btr hW hE;refine Za rfl<|Zx aB fun a hf _ aE=>?_;refine Ze (Vn Xs aD)<|Ze (X0 rfl X2 (b.at 0))<|Zf (Vc (Xte _ x n hn) Xj2) ?_;rintro _ w2 ⟨rfl,hE⟩;have hW:=btr hW hE;refine Ze (X1c rfl)<|Za rfl<|Zt aE fun a hf=>?_
 refine wp_ret (X3 hf (Xz hf rfl rfl) ?_)
 exact ⟨rfl,hW⟩
theorem Xol(w0:World)(x:Ps)(Ax:Option Addr)(cx:Nat)(Q:Rd w0 w0.heap.size 76 encT Ax x.ts)(Bx:Option Addr)(dx:Nat)(aK:Rd w0 w0.heap.size 34 encA Bx x.out)(aA:∀ t ∈ x.ts,Mk t.m)(b9:-1000≤x.ins∧x.ins≤1000)(bC:x.ts.length≤100000000)(bD:x.out.length≤100000000) : Ret Tryz.prog 11 [.agg #[vi x.ins,vi x.vars,vi x.root,vi x.phase,.slice Ax x.ts.length cx,.slice Bx x.out.length dx]] w0 (fun v w=>v=.bool (validP x)∧Below w0.heap.size w0 w):=by
 refine enter Tryz.func11 rfl 104 rfl rfl ?_;intro a o
 have D:=bz w0
 refine Zs o fun _ b1=>?_;refine Zf (X14 (zs:=[vi x.ins,vi x.vars,vi x.root,vi x.phase,.slice Ax x.ts.length cx,.slice Bx x.out.length dx]) rfl rfl) ?_;rintro _ w1 ⟨b4,rfl,b2,H,g⟩;have b8:=Nat.le_trans D.size b2;have D:=btr D H;refine Za rfl<|ZX b1 fun a o _ b3=>?_;refine wp_seq_k fun _ b5=>?_;refine X0j (fun a w=>Fr a 104 [(1,.pointer (some ⟨b4,0,none⟩)),(39,.bool (((((!(inR x.ins 1 5))||(!(inR x.vars 0 (24-x.ins))))||(!(inR x.root (-60) 60)))||(!(inR x.phase 0 7)))||((x.out.length:Int) != x.ins)))]∧w1=w) ?_ ?_
 ·refine Zr o<|Ze (Vd rfl X09 0)<|Ze (X0 rfl X2 (g.at 0))<|Zf (Vc (F91 _ x.ins 1 5) X32) ?_;rintro _ _ ⟨rfl,rfl⟩;refine Ze (X1c rfl)<|Zm rfl ?_
  refine Zg 11 rfl (fun p=>?_) (fun p=>?_)
  ·refine Zp (gP p) ?_;refine Zp (gP p) ?_;refine Zp (gP p) ?_;refine Zp (gP p) ?_;refine Zp (gP p) ?_;refine Zp (gP p) ?_;refine Zp (gP p) ?_;refine Ze (X5 rfl p rfl)<|Zm rfl<|Zp (gP rfl) ?_;refine Zp (gP rfl) ?_;refine Zp (gP rfl) ?_;refine Zp (gP rfl) ?_;refine Ze (X5 rfl rfl rfl)<|Zm rfl<|Zp (gP rfl) ?_;refine Zp (gP rfl) ?_;refine Zp (gP rfl) ?_;refine Zp (gP rfl) ?_;refine Ze (X5 rfl rfl rfl)<|Zm rfl<|Zp (gP rfl) ?_;refine Zp (gP rfl) ?_;refine Zp (gP rfl) ?_;refine Zp (gP rfl) ?_;refine Zp (gP rfl) ?_;refine Zp (gP rfl) ?_;refine Ze (X5 rfl rfl rfl) ?_;refine Zn fun a o=>?_;exact ⟨o.sub ⟨rfl,X1 rfl (by first|rfl|(simp only [p,bs];done)|simp [p]),trivial⟩,rfl⟩
  refine Zv (gW p) (Vd rfl X0n 1) ?_;refine Zv (gW p) (X0 rfl X2 (g.at 1)) ?_;refine Zv (gW p) (Vd rfl X09 0) ?_;refine Zv (gW p) (X0 rfl X2 (g.at 0)) ?_;refine Zv (gW p) (X15 rfl rfl (by omega) (by omega)) ?_;refine Zk (gW p) (Vc (F91 _ x.vars 0 (24-x.ins)) X32) ?_;rintro _ _ ⟨rfl,rfl⟩;refine Zv (gW p) (X1c rfl) ?_;refine Ze (Xc rfl p rfl)<|Zm rfl ?_
  refine Zg 20 rfl (fun A=>?_) (fun A=>?_)
  ·refine Zp (gP A) ?_;refine Zp (gP A) ?_;refine Zp (gP A) ?_;refine Zp (gP A) ?_;refine Ze (X5 rfl A rfl)<|Zm rfl<|Zp (gP rfl) ?_;refine Zp (gP rfl) ?_;refine Zp (gP rfl) ?_;refine Zp (gP rfl) ?_;refine Ze (X5 rfl rfl rfl)<|Zm rfl<|Zp (gP rfl) ?_;refine Zp (gP rfl) ?_;refine Zp (gP rfl) ?_;refine Zp (gP rfl) ?_;refine Zp (gP rfl) ?_;refine Zp (gP rfl) ?_;refine Ze (X5 rfl rfl rfl) ?_;refine Zn fun a o=>?_;exact ⟨o.sub ⟨rfl,X1 rfl (by first|rfl|(simp only [p,A,bs];done)|simp [p,A]),trivial⟩,rfl⟩
  refine Zv (gW A) (Vd rfl X1k 2) ?_;refine Zv (gW A) (X0 rfl X2 (g.at 2)) ?_;refine Zk (gW A) (Vc (F91 _ x.root (-60) 60) X32) ?_;rintro _ _ ⟨rfl,rfl⟩;refine Zv (gW A) (X1c rfl) ?_;refine Ze (Xc rfl A rfl)<|Zm rfl ?_
  refine Zg 26 rfl (fun B=>?_) (fun B=>?_)
  ·refine Zp (gP B) ?_;refine Zp (gP B) ?_;refine Zp (gP B) ?_;refine Zp (gP B) ?_;refine Ze (X5 rfl B rfl)<|Zm rfl<|Zp (gP rfl) ?_;refine Zp (gP rfl) ?_;refine Zp (gP rfl) ?_;refine Zp (gP rfl) ?_;refine Zp (gP rfl) ?_;refine Zp (gP rfl) ?_;refine Ze (X5 rfl rfl rfl) ?_;refine Zn fun a o=>?_;exact ⟨o.sub ⟨rfl,X1 rfl (by first|rfl|(simp only [p,A,B,bs];done)|simp [p,A,B]),trivial⟩,rfl⟩
  refine Zv (gW B) (Vd rfl X1g 3) ?_;refine Zv (gW B) (X0 rfl X2 (g.at 3)) ?_;refine Zk (gW B) (Vc (F91 _ x.phase 0 7) X32) ?_;rintro _ _ ⟨rfl,rfl⟩;refine Zv (gW B) (X1c rfl) ?_;refine Ze (Xc rfl B rfl)<|Zm rfl ?_
  refine Zg 32 rfl (fun i=>?_) (fun i=>?_)
  ·refine Zp (gP i) ?_;refine Zp (gP i) ?_;refine Zp (gP i) ?_;refine Zp (gP i) ?_;refine Zp (gP i) ?_;refine Zp (gP i) ?_;refine Ze (X5 rfl i rfl) ?_;refine Zn fun a o=>?_;exact ⟨o.sub ⟨rfl,X1 rfl (by first|rfl|(simp only [p,A,B,i,bs];done)|simp [p,A,B,i]),trivial⟩,rfl⟩
  refine Zv (gW i) (Vd rfl Xx 5) ?_;refine Zv (gW i) (X0 rfl X08 (g.at 5)) ?_;refine Zv (gW i) (X1f rfl Xr) ?_;refine Zv (gW i) (Vd rfl X09 0) ?_;refine Zv (gW i) (X0 rfl X2 (g.at 0)) ?_;refine Zv (gW i) (X4v rfl rfl) ?_;refine Ze (Xc rfl i rfl) ?_;refine Zn fun a o=>?_;exact ⟨o.sub ⟨rfl,X1 rfl (by first|rfl|(simp only [p,A,B,i,bs];done)|simp [p,A,B,i]),trivial⟩,rfl⟩
 rintro a _ ⟨o,rfl⟩;refine b5 _ _ ?_
 refine Xg o rfl (fun I=>?_) (fun I=>?_)
 ·have q:=I
  have aB:okHd x=false:=by have h7:=I;clear aA;unfold okHd;revert h7;cases inR x.ins 1 5<;>cases inR x.vars 0 (24-x.ins)<;>cases inR x.root (-60) 60<;>cases inR x.phase 0 7<;>simp
  refine Zs o fun _ aL=>?_;refine Za rfl<|Zt aL fun a o=>?_;refine wp_ret<|X7<|X3 o (Xz o rfl rfl) ?_;exact ⟨by rw [Xf9 aB],D⟩
 have q:=I
 have aB:okHd x=true:=by have h7:=I;clear aA;unfold okHd;revert h7;cases inR x.ins 1 5<;>cases inR x.vars 0 (24-x.ins)<;>cases inR x.root (-60) 60<;>cases inR x.phase 0 7<;>simp
 obtain ⟨n,hn,aC⟩:=Xmm aB;have bE:=X6h aC;refine wp_skip<|b3 _ _<|Zs o fun _ aM=>?_;refine Ze (Vd rfl X09 0)<|Ze (X0 rfl X2 (g.at 0))<|Ze (Vd rfl X0n 1)<|Ze (X0 rfl X2 (g.at 1))<|Ze (X3p (k:=(n:Int)) rfl rfl hn (by omega) (by omega)) ?_;refine Zf (X6 (zs:=[vi 0]) z_3 rfl) ?_;rintro _ w2 ⟨U,rfl,aN,H,h⟩;have aF:=Nat.le_trans D.size aN;have g:=g.below H;have D:=btr D H;refine Zo (Vw [vi (n:Int)] X12 h) ?_;rintro _ w3 ⟨ho,hb⟩;have M:=h;have g:=g.only ho (Blk.ne g M rfl);have D:=Below.only D ho aF;have h:=hb;refine ZX aM fun a o _ aO=>?_;refine Zs o fun _ aP=>?_;refine Ze (Vd rfl X0o 4)<|Ze (X0 rfl X0y (g.at 4))<|Ze (X1f rfl X05)<|Zm rfl<|Zt aP fun a o=>?_;refine wp_block<|X06 (σ:=Nat) (fun (k:Nat) (a:Act) (w:World)=>Fr a 104 [(1,.pointer (some ⟨b4,0,none⟩)),(3,.pointer (some ⟨U,0,none⟩)),(46,.slice Ax x.ts.length cx),(47,vi (x.ts.length:Int)),(48,vi (k:Int))]∧(k≤x.ts.length)∧(okTs n x.ts k=true)∧Blk w b4 30 [vi x.ins,vi x.vars,vi x.root,vi x.phase,.slice Ax x.ts.length cx,.slice Bx x.out.length dx]∧Blk w U 3 [vi (n:Int)]∧Below w0.heap.size w0 w) (fun (k:Nat)=>x.ts.length-k) 0 ?_ ?_
 ·exact ⟨o.sb,(Nat.zero_le _),rfl,g,h,D⟩
 rintro k a w4 ⟨o,hk,aD,g,h,D⟩;refine Zs o fun _ aQ=>?_;refine Ze (X1n rfl rfl)<|ZX aQ fun a o _ aR=>?_
 refine Xg o rfl (fun E=>?_) (fun E=>?_)
 ·have y:=E;have E:=of_decide_eq_true E
  obtain ⟨u20,N⟩:=Xm (l:=x.ts) (k:=k) (by omega)
  have aS:x.ts.getD k tZ=u20:=by rw [List.getD_eq_getElem?_getD,N];rfl
  refine wp_skip<|aR _ _<|wp_seq_k fun _ aT=>?_;refine wp_block<|Zs o fun _ aU=>?_;refine Zm rfl<|Zi (k:=k) (u:=u20) (enc:=encT) (l:=x.ts) trivial rfl rfl X05 X1h X0m (Q.below' D) N rfl ?_;intro bF aG;refine Ze (X0b (l:=[vi u20.m,vi u20.c]) rfl X46 aG rfl)<|Zf (X6 (zs:=[vi 0,vi 0]) X7u rfl) ?_;rintro _ w5 ⟨bG,rfl,aE,H,C⟩;have aH:=Nat.le_trans D.size aE;have aW:=(Q.below' D).away aE;have g:=g.below H;have h:=h.below H;have D:=btr D H;refine Za rfl<|Zo (Vw [vi u20.m,vi u20.c] X1h C) ?_;rintro _ w6 ⟨ho,hb⟩;have M:=C;have g:=g.only ho (Blk.ne g M rfl);have h:=h.only ho (Blk.ne h M rfl);have D:=Below.only D ho aH;have C:=hb;refine Zx aU fun a o _ aX=>?_;refine Ze (Vd rfl X16 0)<|Ze (X0 rfl X2 (C.at 0))<|Zf (Vc (Xyc _ u20.m (aA _ (List.mem_of_getElem? N))) Xqe) ?_;rintro _ _ ⟨rfl,rfl⟩;refine Za rfl<|ZX aX fun a o _ aY=>?_;refine X0j (fun a w=>Fr a 104 [(1,.pointer (some ⟨b4,0,none⟩)),(3,.pointer (some ⟨U,0,none⟩)),(46,.slice Ax x.ts.length cx),(47,vi (x.ts.length:Int)),(48,vi (k:Int)),(97,.bool (((((!(inR u20.m 1 (((2^n:Nat) : Int)-1)))||(decide (3<((szI u20.m:Nat) : Int))))||(!(inR u20.c 1 7)))||((u20.c.tmod ((2^(szI u20.m-1) : Nat) : Int)) != 0))||((decide (0<(k:Int)))&&(decide (u20.m≤((x.ts.getD (k-1) tZ).m))))))]∧Below w6.heap.size w6 w) ?_ ?_
  ·have J:Below w6.heap.size w6 w6:=Below.refl _ _
   refine Xq none (fun _=>false) mixed ?_;intro w7 H;have g:=g.below H;have h:=h.below H;have C:=C.below H;have D:=btr D H;have J:=btr J H;refine Yb o<|Yo 0 rfl (fun _=>Vd rfl X16 0)<|Ye 1 rfl (X0 rfl X2 (C.at 0))<|Ye 2 rfl (X0 rfl X2 (h.at 0))<|Yo 3 rfl (fun _=>Vx (X2i (m:=n) rfl rfl rfl (by omega)) (X55 (by omega)))<|Yo 4 rfl (fun _=>X15 rfl rfl (by omega) (by omega)) ?_;refine Y1 5<|Yz rfl trivial (Vc (F91 _ u20.m 1 (((2^n:Nat) : Int)-1)) X32) ?_;refine Yo 6 rfl (fun _=>X1c rfl)<|Yo 7 rfl (fun _=>X4 rfl) ?_
   refine Yl 63 rfl (fun f=>?_) (fun f=>?_)
   ·refine Yp 8 rfl (gP f) ?_;refine Yp 9 rfl (gP f) ?_;refine Yo 10 rfl (fun _=>X5 rfl f rfl)<|Yo 11 rfl (fun _=>X4 rfl)<|Yp 12 rfl (gP rfl) ?_;refine Yp 13 rfl (gP rfl) ?_;refine Y1 14<|Yq rfl ⟨_,_,rfl,rfl,rfl⟩ ?_;refine Yp 15 rfl (gP rfl) ?_;refine Yo 16 rfl (fun _=>X5 rfl rfl rfl)<|Yo 17 rfl (fun _=>X4 rfl)<|Yp 18 rfl (gP rfl) ?_;refine Yp 19 rfl (gP rfl) ?_;refine Yp 20 rfl (gP rfl) ?_;refine Yp 21 rfl (gP rfl) ?_;refine Yp 22 rfl (gP rfl) ?_;refine Yp 23 rfl (gP rfl) ?_;refine Yp 24 rfl (gP rfl) ?_;refine Yo 25 rfl (fun _=>X5 rfl rfl rfl)<|Yo 26 rfl (fun _=>X4 rfl)<|Yp 27 rfl (gP rfl) ?_;refine Yp 28 rfl (gP rfl) ?_;refine Yp 29 rfl (gP rfl) ?_;refine Yp 30 rfl (gP trivial) ?_;refine Yp 31 rfl (gP trivial) ?_;refine Yp 32 rfl (gP trivial) ?_;refine Yp 33 rfl (gP trivial) ?_;refine Yp 34 rfl (gP trivial) ?_;refine Yp 35 rfl (gP trivial) ?_;refine Yp 36 rfl (gP trivial) ?_;refine Yp 37 rfl (gP trivial) ?_;refine Yp 38 rfl (gP trivial) ?_;refine Yp 39 rfl (gP trivial) ?_;refine Yp 40 rfl (gP rfl) ?_;refine Yo 41 rfl (fun _=>X5 rfl rfl rfl) ?_;refine Yd fun a o=>?_
    have G:Below w6.heap.size w6 w7:=J
    exact ⟨o.sub ⟨rfl,rfl,rfl,rfl,rfl,X1 rfl (by first|rfl|(simp only [q,y,f,bs];done)|simp [q,y,f]),trivial⟩,G⟩
   have b6:inR u20.m 1 (((2^n:Nat) : Int)-1)=true:=by have:=f;simpa using this
   have bH:=Xt.1 b6;refine Yu 8 rfl (gW f) (fun _=>X4 rfl) ?_;refine Yu 9 rfl (gW f) (fun _=>X42 rfl rfl) ?_;refine Yo 10 rfl (fun _=>Xc rfl f rfl)<|Yo 11 rfl (fun _=>X4 rfl) ?_
   refine Yl 67 rfl (fun e=>?_) (fun e=>?_)
   ·refine Yp 12 rfl (gP e) ?_;refine Yp 13 rfl (gP e) ?_;refine Y1 14<|Yq rfl ⟨_,_,rfl,rfl,e⟩ ?_;refine Yp 15 rfl (gP e) ?_;refine Yo 16 rfl (fun _=>X5 rfl e rfl)<|Yo 17 rfl (fun _=>X4 rfl)<|Yp 18 rfl (gP rfl) ?_;refine Yp 19 rfl (gP rfl) ?_;refine Yp 20 rfl (gP rfl) ?_;refine Yp 21 rfl (gP rfl) ?_;refine Yp 22 rfl (gP rfl) ?_;refine Yp 23 rfl (gP rfl) ?_;refine Yp 24 rfl (gP rfl) ?_;refine Yo 25 rfl (fun _=>X5 rfl rfl rfl)<|Yo 26 rfl (fun _=>X4 rfl)<|Yp 27 rfl (gP rfl) ?_;refine Yp 28 rfl (gP rfl) ?_;refine Yp 29 rfl (gP rfl) ?_;refine Yp 30 rfl (gP trivial) ?_;refine Yp 31 rfl (gP trivial) ?_;refine Yp 32 rfl (gP trivial) ?_;refine Yp 33 rfl (gP trivial) ?_;refine Yp 34 rfl (gP trivial) ?_;refine Yp 35 rfl (gP trivial) ?_;refine Yp 36 rfl (gP trivial) ?_;refine Yp 37 rfl (gP trivial) ?_;refine Yp 38 rfl (gP trivial) ?_;refine Yp 39 rfl (gP trivial) ?_;refine Yp 40 rfl (gP rfl) ?_;refine Yo 41 rfl (fun _=>X5 rfl rfl rfl) ?_;refine Yd fun a o=>?_
    have G:Below w6.heap.size w6 w7:=J
    exact ⟨o.sub ⟨rfl,rfl,rfl,rfl,rfl,X1 rfl (by first|rfl|(simp only [q,y,f,e,bs];done)|simp [q,y,f,e]),trivial⟩,G⟩
   have bJ:szI u20.m≤3:=by have:=e;simp at this;omega
   refine Yu 12 rfl (gW e) (fun _=>Vd rfl X24 1) ?_;refine Yv 13 rfl (gW e) (X0 rfl X2 (C.at 1)) ?_;refine Y1 14<|Yz rfl ⟨_,_,rfl,rfl,e⟩ (Vc (F91 _ u20.c 1 7) X32) ?_;refine Yu 15 rfl (gW e) (fun _=>X1c rfl) ?_;refine Yo 16 rfl (fun _=>Xc rfl e rfl)<|Yo 17 rfl (fun _=>X4 rfl) ?_
   refine Yl 73 rfl (fun d=>?_) (fun d=>?_)
   ·refine Yp 18 rfl (gP d) ?_;refine Yp 19 rfl (gP d) ?_;refine Yp 20 rfl (gP d) ?_;refine Yp 21 rfl (gP d) ?_;refine Yp 22 rfl (gP d) ?_;refine Yp 23 rfl (gP d) ?_;refine Yp 24 rfl (gP d) ?_;refine Yo 25 rfl (fun _=>X5 rfl d rfl)<|Yo 26 rfl (fun _=>X4 rfl)<|Yp 27 rfl (gP rfl) ?_;refine Yp 28 rfl (gP rfl) ?_;refine Yp 29 rfl (gP rfl) ?_;refine Yp 30 rfl (gP trivial) ?_;refine Yp 31 rfl (gP trivial) ?_;refine Yp 32 rfl (gP trivial) ?_;refine Yp 33 rfl (gP trivial) ?_;refine Yp 34 rfl (gP trivial) ?_;refine Yp 35 rfl (gP trivial) ?_;refine Yp 36 rfl (gP trivial) ?_;refine Yp 37 rfl (gP trivial) ?_;refine Yp 38 rfl (gP trivial) ?_;refine Yp 39 rfl (gP trivial) ?_;refine Yp 40 rfl (gP rfl) ?_;refine Yo 41 rfl (fun _=>X5 rfl rfl rfl) ?_;refine Yd fun a o=>?_
    have G:Below w6.heap.size w6 w7:=J
    exact ⟨o.sub ⟨rfl,rfl,rfl,rfl,rfl,X1 rfl (by first|rfl|(simp only [q,y,f,e,d,bs];done)|simp [q,y,f,e,d]),trivial⟩,G⟩
   have bK:=Xar (aA _ (List.mem_of_getElem? N)) (by omega)
   refine Yu 18 rfl (gW d) (fun _=>Vd rfl X24 1) ?_;refine Yv 19 rfl (gW d) (X0 rfl X2 (C.at 1)) ?_;refine Yu 20 rfl (gW d) (fun _=>X4 rfl) ?_;refine Yu 21 rfl (gW d) (fun _=>X15 rfl rfl (by omega) (by omega)) ?_;refine Yu 22 rfl (gW d) (fun _=>Vx (X2i (m:=(szI u20.m-1)) rfl rfl (by omega) (by omega)) (X55 (by omega))) ?_;refine Yu 23 rfl (gW d) (fun _=>X5v rfl rfl (Xon _)) ?_;refine Yu 24 rfl (gW d) (fun _=>X4v rfl rfl) ?_;refine Yo 25 rfl (fun _=>Xc rfl d rfl)<|Yo 26 rfl (fun _=>X4 rfl) ?_
   refine Yl 82 rfl (fun j=>?_) (fun j=>?_)
   ·refine Yp 27 rfl (gP j) ?_;refine Yp 28 rfl (gP j) ?_;refine Yp 29 rfl (gP j) ?_;refine Yp 30 rfl (gP trivial) ?_;refine Yp 31 rfl (gP trivial) ?_;refine Yp 32 rfl (gP trivial) ?_;refine Yp 33 rfl (gP trivial) ?_;refine Yp 34 rfl (gP trivial) ?_;refine Yp 35 rfl (gP trivial) ?_;refine Yp 36 rfl (gP trivial) ?_;refine Yp 37 rfl (gP trivial) ?_;refine Yp 38 rfl (gP trivial) ?_;refine Yp 39 rfl (gP trivial) ?_;refine Yp 40 rfl (gP j) ?_;refine Yo 41 rfl (fun _=>X5 rfl j rfl) ?_;refine Yd fun a o=>?_
    have G:Below w6.heap.size w6 w7:=J
    exact ⟨o.sub ⟨rfl,rfl,rfl,rfl,rfl,X1 rfl (by first|rfl|(simp only [q,y,f,e,d,j,bs];done)|simp [q,y,f,e,d,j]),trivial⟩,G⟩
   refine Yu 27 rfl (gW j) (fun _=>X4 rfl) ?_;refine Yu 28 rfl (gW j) (fun _=>X42 rfl rfl) ?_;refine Yu 29 rfl (gW j) (fun _=>X4 rfl) ?_
   refine Yl 85 rfl (fun b=>?_) (fun b=>?_)
   ·have bL:0<k:=by have:=b;simp at this;omega
    refine Yu 30 rfl (gW b) (fun _=>Vd rfl X0o 4) ?_;refine Yv 31 rfl (gW b) (X0 rfl X0y (g.at 4)) ?_;refine Yu 32 rfl (gW b) (fun _=>X4 rfl) ?_;refine Yu 33 rfl (gW b) (fun _=>X15 rfl rfl (by omega) (by omega)) ?_;refine Yi (k:=(k-1)) (u:=(x.ts.getD (k-1) tZ)) (enc:=encT) (l:=x.ts) 34 rfl ⟨_,_,rfl,rfl,b⟩ rfl rfl X05 X1h X0m (Q.below' D) (Xa4 (by omega)) (by omega) ?_;intro bN aI;refine Yu 35 rfl (gW b) (fun _=>Xc3 rfl X16) ?_;refine Yv 36 rfl (gW b) (X0 rfl X2 (aI.drop 0)) ?_;refine Yu 37 rfl (gW b) (fun _=>Vd rfl X16 0) ?_;refine Yv 38 rfl (gW b) (X0 rfl X2 (C.at 0)) ?_;refine Yu 39 rfl (gW b) (fun _=>Xh7 rfl rfl) ?_;refine Yu 40 rfl (gW j) (fun _=>X5 rfl b rfl) ?_;refine Yo 41 rfl (fun _=>Xc rfl j rfl) ?_;refine Yd fun a o=>?_
    have G:Below w6.heap.size w6 w7:=J
    exact ⟨o.sub ⟨rfl,rfl,rfl,rfl,rfl,X1 rfl (by first|rfl|(simp only [q,y,f,e,d,j,b,bs];done)|simp [q,y,f,e,d,j,b]),trivial⟩,G⟩
   refine Yp 30 rfl (gP b) ?_;refine Yp 31 rfl (gP b) ?_;refine Yp 32 rfl (gP b) ?_;refine Yp 33 rfl (gP b) ?_;refine Yp 34 rfl (gP b) ?_;refine Yp 35 rfl (gP b) ?_;refine Yp 36 rfl (gP b) ?_;refine Yp 37 rfl (gP b) ?_;refine Yp 38 rfl (gP b) ?_;refine Yp 39 rfl (gP b) ?_;refine Yu 40 rfl (gW j) (fun _=>Xc rfl b rfl) ?_;refine Yo 41 rfl (fun _=>Xc rfl j rfl) ?_;refine Yd fun a o=>?_
   have G:Below w6.heap.size w6 w7:=J
   exact ⟨o.sub ⟨rfl,rfl,rfl,rfl,rfl,X1 rfl (by first|rfl|(simp only [q,y,f,e,d,j,b,bs];done)|simp [q,y,f,e,d,j,b]),trivial⟩,G⟩
  rintro a w8 ⟨o,H⟩;have g:=g.below H;have h:=h.below H;have D:=btr D H;refine aY _ _ ?_
  refine Xg o rfl (fun L=>?_) (fun L=>?_)
  ·have aJ:=L
   have W:okTa n x.ts k=false:=by have h7:=L;rw [Xdk aS] at h7;simpa using h7
   refine Zs o fun _ aZ=>?_;refine Za rfl<|Zt aZ fun a o=>?_;refine wp_ret<|Xw<|X7<|X7 ?_;refine Xw<|X7<|X3 o (Xz o rfl rfl) ?_;exact ⟨by rw [Xbt hn (by omega) W],D⟩
  have aJ:=L
  have W:okTa n x.ts k=true:=by have h7:=L;rw [Xdk aS] at h7;simpa using h7
  refine wp_skip<|Xa<|aT _ _<|Zr o ?_;refine Ze (Xu rfl rfl (by omega) (by omega))<|Zm rfl ?_;refine Zn fun a o=>?_;refine Xd ?_;exact ⟨k+1,⟨o.sb,(by omega),(Xcg aD W),g,h,D⟩,(by omega)⟩
 have y:=E;have E:=of_decide_eq_false E
 have b7:k=x.ts.length:=by have:=E;omega
 subst b7
 refine wp_exit<|Xi<|Xi<|X03 ?_;refine aO _ _<|Zs o fun _ b0=>?_;refine Ze (Vd rfl Xx 5)<|Ze (X0 rfl X08 (g.at 5))<|Ze (X5k (vs:=[.pointer (some ⟨U,0,none⟩)]) rfl)<|Zf (Vc (Xzy _ Bx dx x.out (aK.below' D).top 37 [.pointer (some ⟨U,0,none⟩)] Xt2 (fun x=>!okAf n x) (fun x w' hE'=>Xzc w' x n _ (h.below hE') aC) (by omega)) Xpw) ?_;rintro _ w9 ⟨rfl,H⟩;have D:=btr D H;refine Ze (X1c rfl)<|Za rfl<|Zt b0 fun a o=>?_
 refine wp_ret (X3 o (Xz o rfl rfl) ?_)
 exact ⟨by rw [X96 aB hn aD,Xig],D⟩
theorem Xzw(w0:World)(x:Ps)(Ax:Option Addr)(cx:Nat)(aE:Rd w0 w0.heap.size 76 encT Ax x.ts)(Bx:Option Addr)(dx:Nat)(aJ:Rd w0 w0.heap.size 34 encA Bx x.out)(b1:(-1000≤x.ins∧x.ins≤1000)∧-1000≤x.vars∧x.vars≤1000)(cQ:x.ts.length≤100000000)(cR:x.out.length≤100000000) : Ret Tryz.prog 30 [.agg #[vi x.ins,vi x.vars,vi x.root,vi x.phase,.slice Ax x.ts.length cx,.slice Bx x.out.length dx]] w0 (fun v w=>v=.bool (validP x)∧Below w0.heap.size w0 w):=by
 refine enter Tryz.func30 rfl 124 rfl rfl ?_;intro a b
 have D:=bz w0
 refine Zs b fun _ cC=>?_;refine Zf (X14 (zs:=[vi x.ins,vi x.vars,vi x.root,vi x.phase,.slice Ax x.ts.length cx,.slice Bx x.out.length dx]) rfl rfl) ?_;rintro _ w1 ⟨b4,rfl,cD,G,p⟩;have cP:=Nat.le_trans D.size cD;have D:=btr D G;refine Za rfl<|Zx cC fun a b _ cE=>?_;refine Ze (Vd rfl X09 0)<|Ze (X0 rfl X2 (p.at 0))<|Ze (Vd rfl X0n 1)<|Ze (X0 rfl X2 (p.at 1))<|Ze (Xu rfl rfl (by omega) (by omega)) ?_;refine Za rfl<|ZX cE fun a b _ cF=>?_;refine wp_seq_k fun _ cG=>?_;refine X0j (fun a w=>Fr a 124 [(1,.pointer (some ⟨b4,0,none⟩)),(3,vi (x.ins+x.vars)),(46,.bool (((((!(inR x.ins 1 5))||(!(inR x.vars 0 (24-x.ins))))||(!(inR x.root (-60) 60)))||(!(inR x.phase 0 7)))||((x.out.length:Int) != x.ins)))]∧w1=w) ?_ ?_
 ·refine Zr b<|Ze (Vd rfl X09 0)<|Ze (X0 rfl X2 (p.at 0))<|Zf (Vc (F85 _ x.ins 1 5) X3f) ?_;rintro _ _ ⟨rfl,rfl⟩;refine Ze (X1c rfl)<|Zm rfl ?_
  refine Zg 18 rfl (fun y=>?_) (fun y=>?_)
  ·refine Zp (gP y) ?_;refine Zp (gP y) ?_;refine Zp (gP y) ?_;refine Zp (gP y) ?_;refine Zp (gP y) ?_;refine Zp (gP y) ?_;refine Zp (gP y) ?_;refine Ze (X5 rfl y rfl)<|Zm rfl<|Zp (gP rfl) ?_;refine Zp (gP rfl) ?_;refine Zp (gP rfl) ?_;refine Zp (gP rfl) ?_;refine Ze (X5 rfl rfl rfl)<|Zm rfl<|Zp (gP rfl) ?_;refine Zp (gP rfl) ?_;refine Zp (gP rfl) ?_;refine Zp (gP rfl) ?_;refine Ze (X5 rfl rfl rfl)<|Zm rfl<|Zp (gP rfl) ?_;refine Zp (gP rfl) ?_;refine Zp (gP rfl) ?_;refine Zp (gP rfl) ?_;refine Zp (gP rfl) ?_;refine Zp (gP rfl) ?_;refine Ze (X5 rfl rfl rfl) ?_;refine Zn fun a b=>?_;exact ⟨b.sub ⟨rfl,rfl,X1 rfl (by first|rfl|(simp only [y,bs];done)|simp [y]),trivial⟩,rfl⟩
  refine Zv (gW y) (Vd rfl X0n 1) ?_;refine Zv (gW y) (X0 rfl X2 (p.at 1)) ?_;refine Zv (gW y) (Vd rfl X09 0) ?_;refine Zv (gW y) (X0 rfl X2 (p.at 0)) ?_;refine Zv (gW y) (X15 rfl rfl (by omega) (by omega)) ?_;refine Zk (gW y) (Vc (F85 _ x.vars 0 (24-x.ins)) X3f) ?_;rintro _ _ ⟨rfl,rfl⟩;refine Zv (gW y) (X1c rfl) ?_;refine Ze (Xc rfl y rfl)<|Zm rfl ?_
  refine Zg 27 rfl (fun E=>?_) (fun E=>?_)
  ·refine Zp (gP E) ?_;refine Zp (gP E) ?_;refine Zp (gP E) ?_;refine Zp (gP E) ?_;refine Ze (X5 rfl E rfl)<|Zm rfl<|Zp (gP rfl) ?_;refine Zp (gP rfl) ?_;refine Zp (gP rfl) ?_;refine Zp (gP rfl) ?_;refine Ze (X5 rfl rfl rfl)<|Zm rfl<|Zp (gP rfl) ?_;refine Zp (gP rfl) ?_;refine Zp (gP rfl) ?_;refine Zp (gP rfl) ?_;refine Zp (gP rfl) ?_;refine Zp (gP rfl) ?_;refine Ze (X5 rfl rfl rfl) ?_;refine Zn fun a b=>?_;exact ⟨b.sub ⟨rfl,rfl,X1 rfl (by first|rfl|(simp only [y,E,bs];done)|simp [y,E]),trivial⟩,rfl⟩
  refine Zv (gW E) (Vd rfl X1k 2) ?_;refine Zv (gW E) (X0 rfl X2 (p.at 2)) ?_;refine Zk (gW E) (Vc (F85 _ x.root (-60) 60) X3f) ?_;rintro _ _ ⟨rfl,rfl⟩;refine Zv (gW E) (X1c rfl) ?_;refine Ze (Xc rfl E rfl)<|Zm rfl ?_
  refine Zg 33 rfl (fun A=>?_) (fun A=>?_)
  ·refine Zp (gP A) ?_;refine Zp (gP A) ?_;refine Zp (gP A) ?_;refine Zp (gP A) ?_;refine Ze (X5 rfl A rfl)<|Zm rfl<|Zp (gP rfl) ?_;refine Zp (gP rfl) ?_;refine Zp (gP rfl) ?_;refine Zp (gP rfl) ?_;refine Zp (gP rfl) ?_;refine Zp (gP rfl) ?_;refine Ze (X5 rfl rfl rfl) ?_;refine Zn fun a b=>?_;exact ⟨b.sub ⟨rfl,rfl,X1 rfl (by first|rfl|(simp only [y,E,A,bs];done)|simp [y,E,A]),trivial⟩,rfl⟩
  refine Zv (gW A) (Vd rfl X1g 3) ?_;refine Zv (gW A) (X0 rfl X2 (p.at 3)) ?_;refine Zk (gW A) (Vc (F85 _ x.phase 0 7) X3f) ?_;rintro _ _ ⟨rfl,rfl⟩;refine Zv (gW A) (X1c rfl) ?_;refine Ze (Xc rfl A rfl)<|Zm rfl ?_
  refine Zg 39 rfl (fun i=>?_) (fun i=>?_)
  ·refine Zp (gP i) ?_;refine Zp (gP i) ?_;refine Zp (gP i) ?_;refine Zp (gP i) ?_;refine Zp (gP i) ?_;refine Zp (gP i) ?_;refine Ze (X5 rfl i rfl) ?_;refine Zn fun a b=>?_;exact ⟨b.sub ⟨rfl,rfl,X1 rfl (by first|rfl|(simp only [y,E,A,i,bs];done)|simp [y,E,A,i]),trivial⟩,rfl⟩
  refine Zv (gW i) (Vd rfl Xx 5) ?_;refine Zv (gW i) (X0 rfl X08 (p.at 5)) ?_;refine Zv (gW i) (X1f rfl Xr) ?_;refine Zv (gW i) (Vd rfl X09 0) ?_;refine Zv (gW i) (X0 rfl X2 (p.at 0)) ?_;refine Zv (gW i) (X4v rfl rfl) ?_;refine Ze (Xc rfl i rfl) ?_;refine Zn fun a b=>?_;exact ⟨b.sub ⟨rfl,rfl,X1 rfl (by first|rfl|(simp only [y,E,A,i,bs];done)|simp [y,E,A,i]),trivial⟩,rfl⟩
 rintro a _ ⟨b,rfl⟩;refine cG _ _ ?_
 refine Xg b rfl (fun aA=>?_) (fun aA=>?_)
 ·have f:=aA
  have aF:okHd x=false:=by have h7:=aA;clear b1;unfold okHd;revert h7;cases inR x.ins 1 5<;>cases inR x.vars 0 (24-x.ins)<;>cases inR x.root (-60) 60<;>cases inR x.phase 0 7<;>simp
  refine Zs b fun _ b2=>?_;refine Za rfl<|Zt b2 fun a b=>?_;refine wp_ret<|X7<|X3 b (Xz b rfl rfl) ?_;exact ⟨by rw [Xf9 aF],D⟩
 have f:=aA
 have aF:okHd x=true:=by have h7:=aA;clear b1;unfold okHd;revert h7;cases inR x.ins 1 5<;>cases inR x.vars 0 (24-x.ins)<;>cases inR x.root (-60) 60<;>cases inR x.phase 0 7<;>simp
 obtain ⟨n,hn,b3⟩:=Xmm aF;have cS:=X6h b3;refine wp_skip<|cF _ _<|wp_seq_k fun _ b5=>?_;refine Zs b fun _ b6=>?_;refine Ze (Vd rfl X0o 4)<|Ze (X0 rfl X0y (p.at 4))<|Ze (X1f rfl X05)<|Zm rfl<|Zt b6 fun a b=>?_;refine wp_block<|X06 (σ:=Nat) (fun (k:Nat) (a:Act) (w:World)=>Fr a 124 [(1,.pointer (some ⟨b4,0,none⟩)),(3,vi (x.ins+x.vars)),(48,.slice Ax x.ts.length cx),(49,vi (x.ts.length:Int)),(50,vi (k:Int))]∧(k≤x.ts.length)∧(okTs n x.ts k=true)∧Blk w b4 30 [vi x.ins,vi x.vars,vi x.root,vi x.phase,.slice Ax x.ts.length cx,.slice Bx x.out.length dx]∧Below w0.heap.size w0 w) (fun (k:Nat)=>x.ts.length-k) 0 ?_ ?_
 ·exact ⟨b.sb,(Nat.zero_le _),rfl,p,D⟩
 rintro k a w2 ⟨b,hk,aG,p,D⟩;refine Zs b fun _ b7=>?_;refine Ze (X1n rfl rfl)<|ZX b7 fun a b _ b8=>?_
 refine Xg b rfl (fun J=>?_) (fun J=>?_)
 ·have g:=J;have J:=of_decide_eq_true J
  obtain ⟨u19,aK⟩:=Xm (l:=x.ts) (k:=k) (by omega)
  have b9:x.ts.getD k tZ=u19:=by rw [List.getD_eq_getElem?_getD,aK];rfl
  refine wp_skip<|b8 _ _<|wp_seq_k fun _ bC=>?_;refine wp_block<|Zs b fun _ bD=>?_;refine Zm rfl<|Zi (k:=k) (u:=u19) (enc:=encT) (l:=x.ts) trivial rfl rfl X05 X1h X0m (aE.below' D) aK rfl ?_;intro cU aR;refine Ze (X0b (l:=[vi u19.m,vi u19.c]) rfl X46 aR rfl)<|Zf (X6 (zs:=[vi 0,vi 0]) X7u rfl) ?_;rintro _ w3 ⟨cH,rfl,aL,G,B⟩;have aS:=Nat.le_trans D.size aL;have bE:=(aE.below' D).away aL;have p:=p.below G;have D:=btr D G;refine Za rfl<|Zo (Vw [vi u19.m,vi u19.c] X1h B) ?_;rintro _ w4 ⟨ho,hb⟩;have aM:=B;have p:=p.only ho (Blk.ne p aM rfl);have D:=Below.only D ho aS;have B:=hb;refine ZX bD fun a b _ bF=>?_;refine wp_seq_k fun _ bG=>?_;refine X0j (fun a w=>Fr a 124 [(1,.pointer (some ⟨b4,0,none⟩)),(3,vi (x.ins+x.vars)),(5,.pointer (some ⟨cH,0,none⟩)),(48,.slice Ax x.ts.length cx),(49,vi (x.ts.length:Int)),(50,vi (k:Int)),(84,.bool (((!(inR u19.m 1 (((2^n:Nat) : Int)-1)))||(!(inR u19.c 1 7)))||((decide (0<(k:Int)))&&(decide (u19.m≤((x.ts.getD (k-1) tZ).m))))))]∧Below w4.heap.size w4 w) ?_ ?_
  ·have H:Below w4.heap.size w4 w4:=Below.refl _ _
   refine Xq none (fun _=>false) mixed ?_;intro w5 G;have p:=p.below G;have B:=B.below G;have D:=btr D G;have H:=btr H G;refine Yb b<|Yo 0 rfl (fun _=>Vd rfl X16 0)<|Ye 1 rfl (X0 rfl X2 (B.at 0))<|Yo 2 rfl (fun _=>X4 rfl)<|Yo 3 rfl (fun _=>X2u (m:=n) Tryz.underlying3 Tryz.underlying67 rfl hn (by omega))<|Yo 4 rfl (fun _=>Vx (X2i (m:=n) rfl rfl rfl (by omega)) (X55 (by omega))) ?_;refine Yo 5 rfl (fun _=>X15 rfl rfl (by omega) (by omega))<|Y1 6 ?_;refine Yz rfl trivial (Vc (F85 _ u19.m 1 (((2^n:Nat) : Int)-1)) X3f) ?_;refine Yo 7 rfl (fun _=>X1c rfl)<|Yo 8 rfl (fun _=>X4 rfl) ?_
   refine Yl 63 rfl (fun j=>?_) (fun j=>?_)
   ·refine Yp 9 rfl (gP j) ?_;refine Yp 10 rfl (gP j) ?_;refine Y1 11<|Yq rfl ⟨_,_,rfl,rfl,j⟩ ?_;refine Yp 12 rfl (gP j) ?_;refine Yo 13 rfl (fun _=>X5 rfl j rfl)<|Yo 14 rfl (fun _=>X4 rfl)<|Yp 15 rfl (gP rfl) ?_;refine Yp 16 rfl (gP rfl) ?_;refine Yp 17 rfl (gP rfl) ?_;refine Yp 18 rfl (gP trivial) ?_;refine Yp 19 rfl (gP trivial) ?_;refine Yp 20 rfl (gP trivial) ?_;refine Yp 21 rfl (gP trivial) ?_;refine Yp 22 rfl (gP trivial) ?_;refine Yp 23 rfl (gP trivial) ?_;refine Yp 24 rfl (gP trivial) ?_;refine Yp 25 rfl (gP trivial) ?_;refine Yp 26 rfl (gP trivial) ?_;refine Yp 27 rfl (gP trivial) ?_;refine Yp 28 rfl (gP rfl) ?_;refine Yo 29 rfl (fun _=>X5 rfl rfl rfl) ?_;refine Yd fun a b=>?_
    have M:Below w4.heap.size w4 w5:=H
    exact ⟨b.sub ⟨rfl,rfl,rfl,rfl,rfl,rfl,X1 rfl (by first|rfl|(simp only [f,g,j,bs];done)|simp [f,g,j]),trivial⟩,M⟩
   refine Yu 9 rfl (gW j) (fun _=>Vd rfl X24 1) ?_;refine Yv 10 rfl (gW j) (X0 rfl X2 (B.at 1)) ?_;refine Y1 11<|Yz rfl ⟨_,_,rfl,rfl,j⟩ (Vc (F85 _ u19.c 1 7) X3f) ?_;refine Yu 12 rfl (gW j) (fun _=>X1c rfl) ?_;refine Yo 13 rfl (fun _=>Xc rfl j rfl)<|Yo 14 rfl (fun _=>X4 rfl) ?_
   refine Yl 69 rfl (fun o=>?_) (fun o=>?_)
   ·refine Yp 15 rfl (gP o) ?_;refine Yp 16 rfl (gP o) ?_;refine Yp 17 rfl (gP o) ?_;refine Yp 18 rfl (gP trivial) ?_;refine Yp 19 rfl (gP trivial) ?_;refine Yp 20 rfl (gP trivial) ?_;refine Yp 21 rfl (gP trivial) ?_;refine Yp 22 rfl (gP trivial) ?_;refine Yp 23 rfl (gP trivial) ?_;refine Yp 24 rfl (gP trivial) ?_;refine Yp 25 rfl (gP trivial) ?_;refine Yp 26 rfl (gP trivial) ?_;refine Yp 27 rfl (gP trivial) ?_;refine Yp 28 rfl (gP o) ?_;refine Yo 29 rfl (fun _=>X5 rfl o rfl) ?_;refine Yd fun a b=>?_
    have M:Below w4.heap.size w4 w5:=H
    exact ⟨b.sub ⟨rfl,rfl,rfl,rfl,rfl,rfl,X1 rfl (by first|rfl|(simp only [f,g,j,o,bs];done)|simp [f,g,j,o]),trivial⟩,M⟩
   refine Yu 15 rfl (gW o) (fun _=>X4 rfl) ?_;refine Yu 16 rfl (gW o) (fun _=>X42 rfl rfl) ?_;refine Yu 17 rfl (gW o) (fun _=>X4 rfl) ?_
   refine Yl 72 rfl (fun d=>?_) (fun d=>?_)
   ·have cW:0<k:=by have:=d;simp at this;omega
    refine Yu 18 rfl (gW d) (fun _=>Vd rfl X0o 4) ?_;refine Yv 19 rfl (gW d) (X0 rfl X0y (p.at 4)) ?_;refine Yu 20 rfl (gW d) (fun _=>X4 rfl) ?_;refine Yu 21 rfl (gW d) (fun _=>X15 rfl rfl (by omega) (by omega)) ?_;refine Yi (k:=(k-1)) (u:=(x.ts.getD (k-1) tZ)) (enc:=encT) (l:=x.ts) 22 rfl ⟨_,_,rfl,rfl,d⟩ rfl rfl X05 X1h X0m (aE.below' D) (Xa4 (by omega)) (by omega) ?_;intro cX aT;refine Yu 23 rfl (gW d) (fun _=>Xc3 rfl X16) ?_;refine Yv 24 rfl (gW d) (X0 rfl X2 (aT.drop 0)) ?_;refine Yu 25 rfl (gW d) (fun _=>Vd rfl X16 0) ?_;refine Yv 26 rfl (gW d) (X0 rfl X2 (B.at 0)) ?_;refine Yu 27 rfl (gW d) (fun _=>Xh7 rfl rfl) ?_;refine Yu 28 rfl (gW o) (fun _=>X5 rfl d rfl) ?_;refine Yo 29 rfl (fun _=>Xc rfl o rfl) ?_;refine Yd fun a b=>?_
    have M:Below w4.heap.size w4 w5:=H
    exact ⟨b.sub ⟨rfl,rfl,rfl,rfl,rfl,rfl,X1 rfl (by first|rfl|(simp only [f,g,j,o,d,bs];done)|simp [f,g,j,o,d]),trivial⟩,M⟩
   refine Yp 18 rfl (gP d) ?_;refine Yp 19 rfl (gP d) ?_;refine Yp 20 rfl (gP d) ?_;refine Yp 21 rfl (gP d) ?_;refine Yp 22 rfl (gP d) ?_;refine Yp 23 rfl (gP d) ?_;refine Yp 24 rfl (gP d) ?_;refine Yp 25 rfl (gP d) ?_;refine Yp 26 rfl (gP d) ?_;refine Yp 27 rfl (gP d) ?_;refine Yu 28 rfl (gW o) (fun _=>Xc rfl d rfl) ?_;refine Yo 29 rfl (fun _=>Xc rfl o rfl) ?_;refine Yd fun a b=>?_
   have M:Below w4.heap.size w4 w5:=H
   exact ⟨b.sub ⟨rfl,rfl,rfl,rfl,rfl,rfl,X1 rfl (by first|rfl|(simp only [f,g,j,o,d,bs];done)|simp [f,g,j,o,d]),trivial⟩,M⟩
  rintro a w6 ⟨b,G⟩;have p:=p.below G;have B:=B.below G;have D:=btr D G;refine bG _ _ ?_
  refine Xg b rfl (fun W=>?_) (fun W=>?_)
  ·have N:=W
   have I:okTa n x.ts k=false:=Xxs b9 W
   refine Zs b fun _ bH=>?_;refine Za rfl<|Zt bH fun a b=>?_;refine wp_ret<|X7<|Xw<|X7 ?_;refine X7<|Xw<|X7<|X3 b (Xz b rfl rfl) ?_;exact ⟨by rw [Xbt hn (by omega) I],D⟩
  have N:=W;have bJ:=Xwm b9 W
  have cJ:inR u19.m 1 (((2^n:Nat) : Int)-1)=true:=by have h7:=W;revert h7;cases inR u19.m 1 (((2^n:Nat) : Int)-1)<;>simp
  have cY:=Xt.1 cJ
  have bK:Mk u19.m:=⟨by omega,by omega⟩
  refine wp_skip<|bF _ _<|Zs b fun _ bL=>?_;refine Ze (Vd rfl X16 0)<|Ze (X0 rfl X2 (B.at 0))<|Zf (Vc (X56 _ u19.m bK.b62) X3x) ?_;rintro _ w7 ⟨d5,d6,rfl,aN,G⟩;have aN:=aN.lower D.size;have p:=p.below G;have B:=B.below G;have D:=btr D G;refine Ze (Vx (X1f rfl X0f) (Xb1 _))<|Za rfl<|ZX bL fun a b _ bN=>?_;refine X0j (fun a w=>Fr a 124 [(1,.pointer (some ⟨b4,0,none⟩)),(3,vi (x.ins+x.vars)),(48,.slice Ax x.ts.length cx),(49,vi (x.ts.length:Int)),(50,vi (k:Int)),(100,.bool ((decide (3<((szI u19.m:Nat) : Int)))||((u19.c.tmod ((2^(szI u19.m-1) : Nat) : Int)) != 0)))]∧Below w7.heap.size w7 w) ?_ ?_
  ·have H:Below w7.heap.size w7 w7:=Below.refl _ _
   refine Xq none (fun _=>false) mixed ?_;intro w8 G;have B:=B.below G;have D:=btr D G;have H:=btr H G;refine Yb b<|Yo 0 rfl (fun _=>X4 rfl)<|Yo 1 rfl (fun _=>X42 rfl rfl)<|Yo 2 rfl (fun _=>X4 rfl) ?_
   refine Yl 91 rfl (fun e=>?_) (fun e=>?_)
   ·refine Yp 3 rfl (gP e) ?_;refine Yp 4 rfl (gP e) ?_;refine Yp 6 rfl (gP e) ?_;refine Y1 5<|Yq rfl ⟨_,_,rfl,rfl,e⟩ ?_;refine Yp 7 rfl (gP e) ?_;refine Yp 8 rfl (gP e) ?_;refine Yp 9 rfl (gP e) ?_;refine Yp 10 rfl (gP e) ?_;refine Yo 11 rfl (fun _=>X5 rfl e rfl) ?_;refine Yd fun a b=>?_
    have M:Below w7.heap.size w7 w8:=H
    exact ⟨b.sub ⟨rfl,rfl,rfl,rfl,rfl,X1 rfl (by first|rfl|(simp only [f,g,N,e,bs];done)|simp [f,g,N,e]),trivial⟩,M⟩
   have cK:szI u19.m≤3:=by have:=e;simp at this;omega
   refine Yu 3 rfl (gW e) (fun _=>Vd rfl X24 1) ?_;refine Yv 4 rfl (gW e) (X0 rfl X2 (B.at 1)) ?_;refine Yu 6 rfl (gW e) (fun _=>X4 rfl) ?_;refine Y1 5<|Yk rfl ⟨_,_,rfl,rfl,e⟩ (Xb (k:=4) (vs:=[vi 1,vi 1,vi 2,vi 4]) (zs:=[vi 1,vi 1,vi 2,vi 4]) rfl X0f X2m rfl rfl) (fun _ _ ⟨_,_,_,h,_⟩=>h) ?_;rintro _ w9 ⟨d7,rfl,aO,G,aP⟩;have cL:=Nat.le_trans D.size aO;have cM:=Nat.le_trans H.size aO;have D:=btr D G;have H:=btr H G;refine Yi (k:=(szI u19.m)) (u:=((2^(szI u19.m-1) : Nat) : Int)) (enc:=encI) (l:=[1,1,2,4]) 7 rfl ⟨_,_,rfl,rfl,e⟩ rfl rfl X0f X12 X0h (Rd.of_blk aP rfl _ aP.lt) (Xz9 cK) rfl ?_;intro d8 aU;refine Yv 8 rfl (gW e) (X0 rfl X2 aU) ?_;refine Yu 9 rfl (gW e) (fun _=>X5v rfl rfl (Xon _)) ?_;refine Yu 10 rfl (gW e) (fun _=>X4v rfl rfl) ?_;refine Yo 11 rfl (fun _=>Xc rfl e rfl) ?_;refine Yd fun a b=>?_
   have M:Below w7.heap.size w7 w9:=H
   exact ⟨b.sub ⟨rfl,rfl,rfl,rfl,rfl,X1 rfl (by first|rfl|(simp only [f,g,N,e,bs];done)|simp [f,g,N,e]),trivial⟩,M⟩
  rintro a dB ⟨b,G⟩;have p:=p.below G;have D:=btr D G;refine bN _ _ ?_
  refine Xg b rfl (fun aB=>?_) (fun aB=>?_)
  ·have aW:=aB
   have I:okTa n x.ts k=false:=by have h7:=aB;rw [bJ] at h7;simpa using h7
   refine Zs b fun _ bO=>?_;refine Za rfl<|Zt bO fun a b=>?_;refine wp_ret<|Xw<|X7<|X7 ?_;refine Xw<|X7<|X3 b (Xz b rfl rfl) ?_;exact ⟨by rw [Xbt hn (by omega) I],D⟩
  have aW:=aB
  have I:okTa n x.ts k=true:=by have h7:=aB;rw [bJ] at h7;simpa using h7
  refine wp_skip<|Xa<|bC _ _<|Zr b ?_;refine Ze (Xu rfl rfl (by omega) (by omega))<|Zm rfl ?_;refine Zn fun a b=>?_;refine Xd ?_;exact ⟨k+1,⟨b.sb,(by omega),(Xcg aG I),p,D⟩,(by omega)⟩
 have g:=J;have J:=of_decide_eq_false J
 have cN:k=x.ts.length:=by have:=J;omega
 subst cN
 refine wp_exit<|Xi<|Xi<|X03 ?_;refine b5 _ _<|wp_seq_k fun _ bP=>?_;refine Zs b fun _ bR=>?_;refine Ze (Vd rfl Xx 5)<|Ze (X0 rfl X08 (p.at 5))<|Ze (X1f rfl Xr)<|Zm rfl<|Zt bR fun a b=>?_;refine wp_block<|X06 (σ:=Nat) (fun (q:Nat) (a:Act) (w:World)=>Fr a 124 [(3,vi (x.ins+x.vars)),(103,.slice Bx x.out.length dx),(104,vi (x.out.length:Int)),(105,vi (q:Int))]∧(q≤x.out.length)∧((x.out.take q).all (okAf n)=true)∧Below w0.heap.size w0 w) (fun (q:Nat)=>x.out.length-q) 0 ?_ ?_
 ·exact ⟨b.sb,(Nat.zero_le _),(by simp),D⟩
 rintro q a dC ⟨b,hq,aH,D⟩;refine Zs b fun _ bS=>?_;refine Ze (X1n rfl rfl)<|ZX bS fun a b _ bU=>?_
 refine Xg b rfl (fun L=>?_) (fun L=>?_)
 ·have Q:=L;have L:=of_decide_eq_true L
  obtain ⟨U,aI⟩:=Xm (l:=x.out) (k:=q) (by omega)
  refine wp_skip<|bU _ _<|wp_seq_k fun _ bW=>?_;refine wp_block<|Zs b fun _ bX=>?_;refine Zi (k:=q) (u:=U) (enc:=encA) (l:=x.out) trivial rfl rfl Xr Xj Xv (aJ.below' D) aI rfl ?_;intro dD aX;refine Ze (X0b (l:=[vi U.m,vi U.t]) rfl Xs aX rfl)<|Zf (X6 (zs:=[vi 0,vi 0]) X18 rfl) ?_;rintro _ dE ⟨dF,rfl,aQ,G,aC⟩;have aY:=Nat.le_trans D.size aQ;have bY:=(aJ.below' D).away aQ;have D:=btr D G;refine Zo (Vw [vi U.m,vi U.t] Xj aC) ?_;rintro _ cO ⟨ho,hb⟩;have aM:=aC;have D:=Below.only D ho aY;have aC:=hb;refine ZX bX fun a b _ bZ=>?_;refine X0j (fun a w=>Fr a 124 [(3,vi (x.ins+x.vars)),(103,.slice Bx x.out.length dx),(104,vi (x.out.length:Int)),(105,vi (q:Int)),(122,.bool ((!(inR U.m 0 (((2^n:Nat) : Int)-1)))||(!(inR U.t 0 1))))]∧cO=w) ?_ ?_
  ·refine Zr b<|Ze (Vd rfl X0a 0)<|Ze (X0 rfl X2 (aC.at 0))<|Zm rfl<|Ze (X2u (m:=n) Tryz.underlying3 Tryz.underlying67 rfl hn (by omega))<|Ze (Vx (X2i (m:=n) rfl rfl rfl (by omega)) (X55 (by omega))) ?_;refine Ze (X15 rfl rfl (by omega) (by omega))<|Zf (Vc (F85 _ U.m 0 (((2^n:Nat) : Int)-1)) X3f) ?_;rintro _ _ ⟨rfl,rfl⟩;refine Ze (X1c rfl)<|Zm rfl ?_
   refine Zg 117 rfl (fun C=>?_) (fun C=>?_)
   ·refine Zp (gP C) ?_;refine Zp (gP C) ?_;refine Zp (gP C) ?_;refine Zp (gP C) ?_;refine Ze (X5 rfl C rfl) ?_;refine Zn fun a b=>?_;exact ⟨b.sub ⟨rfl,rfl,rfl,rfl,X1 rfl (by first|rfl|(simp only [f,g,Q,C,bs];done)|simp [f,g,Q,C]),trivial⟩,rfl⟩
   refine Zv (gW C) (Vd rfl X0k 1) ?_;refine Zv (gW C) (X0 rfl X2 (aC.at 1)) ?_;refine Zk (gW C) (Vc (F85 _ U.t 0 1) X3f) ?_;rintro _ _ ⟨rfl,rfl⟩;refine Zv (gW C) (X1c rfl) ?_;refine Ze (Xc rfl C rfl) ?_;refine Zn fun a b=>?_;exact ⟨b.sub ⟨rfl,rfl,rfl,rfl,X1 rfl (by first|rfl|(simp only [f,g,Q,C,bs];done)|simp [f,g,Q,C]),trivial⟩,rfl⟩
  rintro a _ ⟨b,rfl⟩;refine bZ _ _ ?_
  refine Xg b rfl (fun aD=>?_) (fun aD=>?_)
  ·have aZ:=aD
   have I:okAf n U=false:=by have h7:=aD;rw [Xlj] at h7;simpa using h7
   refine Zs b fun _ c4=>?_;refine Za rfl<|Zt c4 fun a b=>?_;refine wp_ret<|Xw<|X7<|X7 ?_;refine Xw<|X7<|X3 b (Xz b rfl rfl) ?_;exact ⟨by rw [X96 aF hn aG,Xs3 aI I],D⟩
  have aZ:=aD
  have I:okAf n U=true:=by have h7:=aD;rw [Xlj] at h7;simpa using h7
  refine wp_skip<|Xa<|bW _ _<|Zr b ?_;refine Ze (Xu rfl rfl (by omega) (by omega))<|Zm rfl ?_;refine Zn fun a b=>?_;refine Xd ?_;exact ⟨q+1,⟨b.sb,(by omega),(X4l aH aI I),D⟩,(by omega)⟩
 have Q:=L;have L:=of_decide_eq_false L
 have b0:x.out.all (okAf n)=true:=X3s aH (by have:=L;omega)
 refine wp_exit<|Xi<|Xi<|X03 ?_;refine bP _ _<|Zs b fun _ cA=>?_;refine Za rfl<|Zt cA fun a b=>?_
 refine wp_ret (X3 b (Xz b rfl rfl) ?_)
 exact ⟨by rw [X96 aF hn aG,b0],D⟩
theorem Xu6(w0:World)(m:Int)(j:Nat)(hm:Mk m)(hv:j<24) : Ret Tryz.prog 87 [vi m,vi (j:Int)] w0 (fun v w=>v=vi (drI j m)∧Below w0.heap.size w0 w):=by
 have aC:=X6h (show j≤24 by omega)
 refine enter Tryz.func87 rfl 17 rfl rfl ?_;intro a hf
 have hW:=bz w0
 refine Zs hf fun _ aA=>?_;refine Za rfl<|ZX aA fun a hf _ aB=>?_;refine Xq none (fun _=>false) mixed ?_;intro w1 hE;have hW:=btr hW hE;refine Yb hf<|Yo 0 rfl (fun _=>X4 rfl)<|Yo 1 rfl (fun _=>X4 rfl)<|Yo 2 rfl (fun _=>Vx (X2i (m:=j) rfl rfl rfl (by omega)) (X55 (by omega)))<|Yo 3 rfl (fun _=>X15 rfl rfl (by omega) (by omega))<|Yo 4 rfl (fun _=>X69 rfl rfl) ?_;refine Yo 5 rfl (fun _=>X4 rfl)<|Yo 6 rfl (fun _=>X4 rfl)<|Yo 7 rfl (fun _=>X3p (k:=((j+1:Nat) : Int)) rfl rfl rfl (by omega) (by omega))<|Yo 8 rfl (fun _=>X6v (m:=(j+1)) rfl rfl rfl (by omega))<|Yo 9 rfl (fun _=>X4 rfl) ?_;refine Yo 10 rfl (fun _=>X2i (m:=j) rfl rfl rfl (by omega))<|Yo 11 rfl (fun _=>Vx (Vor rfl rfl) (Xg3 hm hv))<|Yo 12 rfl (fun _=>X19 rfl) ?_;refine Yd fun a hf=>?_;refine aB _ _ ?_
 refine wp_ret (X3 hf (Xz hf rfl rfl) ?_)
 exact ⟨rfl,hW⟩
theorem Xcy(w0:World)(m:Int)(j:Nat)(hm:Mk m)(hv:j<24) : Ret Tryz.prog 67 [vi m,vi (j:Int)] w0 (fun v w=>v=vi (drI j m)∧w0=w):=by
 have aC:=X6h (show j≤24 by omega)
 refine enter Tryz.func67 rfl 20 rfl rfl ?_;intro a hf
 have hW:=bz w0
 refine Zs hf fun _ aA=>?_;refine Za rfl<|Zx aA fun a hf _ aB=>?_;refine Zm rfl<|Zm rfl<|Ze (X2u (m:=j) Tryz.underlying3 Tryz.underlying67 rfl rfl (by omega))<|Ze (Vx (X2i (m:=j) rfl rfl rfl (by omega)) (X55 (by omega)))<|Ze (X15 rfl rfl (by omega) (by omega)) ?_;refine Ze (X69 rfl rfl)<|Zm rfl<|Zm rfl<|Ze (X3p (k:=((j+1:Nat) : Int)) rfl rfl rfl (by omega) (by omega))<|Ze (X2u (m:=(j+1)) Tryz.underlying3 Tryz.underlying67 rfl rfl (by omega)) ?_;refine Ze (X6v (m:=(j+1)) rfl rfl rfl (by omega))<|Zm rfl<|Ze (X2u (m:=j) Tryz.underlying3 Tryz.underlying67 rfl rfl (by omega))<|Ze (X2i (m:=j) rfl rfl rfl (by omega))<|Ze (Vx (Vor rfl rfl) (Xg3 hm hv)) ?_;refine Za rfl<|Zt aB fun a hf=>?_
 refine wp_ret (X3 hf (Xz hf rfl rfl) ?_)
 exact ⟨rfl,rfl⟩
theorem Xz0(M:World)(p:Ps)(Ap:Option Addr)(cp:Nat)(aE:Rd M M.heap.size 76 encT Ap p.ts)(Bp:Option Addr)(dp:Nat)(aF:Rd M M.heap.size 34 encA Bp p.out)(j:Nat)(cF:∀ t ∈ p.ts,Mk t.m)(cG:∀ a ∈ p.out,Mk a.m)(hv:j<24)(cU:-1000≤p.vars∧p.vars≤1000)(cW:p.ts.length≤100000000)(cX:p.out.length≤100000000) : Ret Tryz.prog 65 [.agg #[vi p.ins,vi p.vars,vi p.root,vi p.phase,.slice Ap p.ts.length cp,.slice Bp p.out.length dp],vi (j:Int)] M (fun v w=>∃ A9 c9 B9 d9,v=psV A9 c9 B9 d9 (woP p j)∧Rd w w.heap.size 76 encT A9 (woP p j).ts∧Rd w w.heap.size 34 encA B9 (woP p j).out∧Below M.heap.size M w):=by
 refine enter Tryz.func65 rfl 58 rfl rfl ?_;intro a D
 have g:=bz M
 refine Zs D fun _ cH=>?_;refine Zf (X14 (zs:=[vi p.ins,vi p.vars,vi p.root,vi p.phase,.slice Ap p.ts.length cp,.slice Bp p.out.length dp]) rfl rfl) ?_;rintro _ w1 ⟨b4,rfl,cJ,i,f⟩;have cS:=Nat.le_trans g.size cJ;have g:=btr g i;refine Zf (X6 (zs:=[vi 0,vi 0,vi 0,vi 0,.slice none 0 0,.slice none 0 0]) X1o rfl) ?_;rintro _ w2 ⟨b7,rfl,cK,i,e⟩
 have cE:b4≠b7:=by have:=f.lt;omega
 have bC:=Nat.le_trans g.size cK;have f:=f.below i;have g:=btr g i;refine Zx cH fun a D _ cL=>?_;refine Ze (Vn Xh f)<|Zf (X6 (zs:=[vi 0,vi 0,vi 0,vi 0,.slice none 0 0,.slice none 0 0]) X1o rfl) ?_;rintro _ w3 ⟨b11,rfl,bD,i,b⟩
 have bE:b4≠b11:=by have:=f.lt;omega
 have bF:b7≠b11:=by have:=e.lt;omega
 have G:=Nat.le_trans g.size bD;have f:=f.below i;have e:=e.below i;have g:=btr g i;refine Zo (Vw [vi p.ins,vi p.vars,vi p.root,vi p.phase,.slice Ap p.ts.length cp,.slice Bp p.out.length dp] X04 b) ?_;rintro _ w4 ⟨A,U⟩;have n:=b;have f:=f.only A (by omega);have e:=e.only A (by omega);have g:=Below.only g A G;have b:=U;refine Zx cL fun a D _ bG=>?_;refine Ze (Vd rfl X0n 1)<|Ze (X0 rfl X2 (b.at 1))<|Ze (X15 rfl rfl (by omega) (by omega))<|Ze (Vd rfl X0n 1)<|Zo (Vu (vs:=[vi (p.vars-1)]) (l':=[vi p.ins,vi (p.vars-1),vi p.root,vi p.phase,.slice Ap p.ts.length cp,.slice Bp p.out.length dp]) rfl rfl X12 b) ?_;rintro _ w5 ⟨A,U⟩;have n:=b;have f:=f.only A (by omega);have e:=e.only A (by omega);have g:=Below.only g A G;have b:=U;refine Zx bG fun a D _ bH=>?_;refine Ze (Vd rfl X0o 4)<|Zo (Vu (vs:=[.slice none 0 0]) (l':=[vi p.ins,vi (p.vars-1),vi p.root,vi p.phase,.slice none 0 0,.slice Bp p.out.length dp]) rfl rfl X29 b) ?_;rintro _ w6 ⟨A,U⟩;have n:=b;have f:=f.only A (by omega);have e:=e.only A (by omega);have g:=Below.only g A G;have b:=U;refine Ze (Vd rfl Xx 5)<|Zo (Vu (vs:=[.slice none 0 0]) (l':=[vi p.ins,vi (p.vars-1),vi p.root,vi p.phase,.slice none 0 0,.slice none 0 0]) rfl rfl X2s b) ?_;rintro _ w7 ⟨A,U⟩;have n:=b;have f:=f.only A (by omega);have e:=e.only A (by omega);have g:=Below.only g A G;have b:=U;refine ZX bH fun a D _ bJ=>?_;refine Zs D fun _ bK=>?_;refine Ze (Vd rfl X0o 4)<|Ze (X0 rfl X0y (f.at 4))<|Ze (X1f rfl X05)<|Zm rfl<|Zt bK fun a D=>?_
 refine wp_block<|X06 (σ:=Nat×(List Tm)) (fun (s:Nat×(List Tm)) (a:Act) (w:World)=>match s with|(k,l)=>∃ N Q,Fr a 58 [(1,vi (j:Int)),(2,.pointer (some ⟨b4,0,none⟩)),(4,.pointer (some ⟨b7,0,none⟩)),(5,.pointer (some ⟨b11,0,none⟩)),(18,.slice Ap p.ts.length cp),(19,vi (p.ts.length:Int)),(20,vi (k:Int))]∧(k≤p.ts.length)∧(l=(p.ts.take k).map (dT j))∧Blk w b4 30 [vi p.ins,vi p.vars,vi p.root,vi p.phase,.slice Ap p.ts.length cp,.slice Bp p.out.length dp]∧Blk w b7 30 [vi 0,vi 0,vi 0,vi 0,.slice none 0 0,.slice none 0 0]∧Blk w b11 30 [vi p.ins,vi (p.vars-1),vi p.root,vi p.phase,.slice N l.length Q,.slice none 0 0]∧Own w M.heap.size 76 2 encT N Q l∧Below M.heap.size M w) (fun (s:Nat×(List Tm))=>match s with|(k,l)=>p.ts.length-k) (0,[]) ?_ ?_
 ·exact ⟨none,0,D.sb,(Nat.zero_le _),rfl,f,e,b,(Own.nil _ _ _ _ _),g⟩
 rintro ⟨k,l⟩ a w8 ⟨N,Q,D,hk,hl,f,e,b,d,g⟩;refine Zs D fun _ bL=>?_;refine Ze (X1n rfl rfl)<|ZX bL fun a D _ bN=>?_
 refine Xg D rfl (fun H=>?_) (fun H=>?_)
 ·have aR:=H;have H:=of_decide_eq_true H
  obtain ⟨x,aG⟩:=Xm (l:=p.ts) (k:=k) (by omega)
  refine wp_skip<|bN _ _<|wp_seq_k fun _ bO=>?_;refine wp_block<|Zs D fun _ bP=>?_;refine Zi (k:=k) (u:=x) (enc:=encT) (l:=p.ts) trivial rfl rfl X05 X1h X0m (aE.below' g) aG rfl ?_;intro cY aS;refine Ze (X0b (l:=[vi x.m,vi x.c]) rfl X46 aS rfl)<|Zf (X6 (zs:=[vi 0,vi 0]) X7u rfl) ?_;rintro _ w9 ⟨cM,rfl,aH,i,B⟩;have aT:=Nat.le_trans g.size aH;have bR:=(aE.below' g).away aH;have J:=d.away aH;have f:=f.below i;have e:=e.below i;have b:=b.below i;have d:=d.below i;have g:=btr g i;refine Zo (Vw [vi x.m,vi x.c] X1h B) ?_;rintro _ d5 ⟨A,U⟩;have n:=B;have f:=f.only A (Blk.ne f n rfl);have e:=e.only A (Blk.ne e n rfl);have b:=b.only A (Blk.ne b n rfl);have d:=d.onlyA A J;have g:=Below.only g A aT;have B:=U;refine Zt bP fun a D=>?_;refine Xq none (fun j=>[10,12].contains j) mixed ?_;intro d6 i;have f:=f.below i;have e:=e.below i;have b:=b.below i;have B:=B.below i;have d:=d.below i;have g:=btr g i;refine Yb D<|Yo 0 rfl (fun _=>Vd rfl X0o 4)<|Ye 1 rfl (X0 rfl X0y (b.at 4))<|Yo 2 rfl (fun _=>Vd rfl X16 0)<|Ye 3 rfl (X0 rfl X2 (B.at 0))<|Yo 4 rfl (fun _=>X4 rfl) ?_;refine Yo 6 rfl (fun _=>Vd rfl X24 1)<|Ye 7 rfl (X0 rfl X2 (B.at 1))<|Y1 5 ?_;refine Yk rfl trivial (Vc (Xu6 _ x.m j (cF _ (List.mem_of_getElem? aG)) hv) Xjg) (fun _ _ ⟨_,i⟩=>i) ?_;rintro _ d7 ⟨rfl,i⟩;have f:=f.below i;have e:=e.below i;have b:=b.below i;have B:=B.below i;have d:=d.below i;have g:=btr g i;refine Yo 8 rfl (fun _=>Xk (ps:=[(0,vi (drI j x.m)),(1,vi x.c)]) (cs:=[vi (drI j x.m),vi x.c]) rfl (fun _=>by first|rfl|kernel_rfl))<|Y1 9 ?_
  refine Yk rfl trivial (Xb (k:=1) (vs:=[.agg #[vi (drI j x.m),vi x.c]]) (zs:=[vi (drI j x.m),vi x.c]) rfl X05 X1a rfl rfl) (fun _ _ ⟨_,_,_,h,_⟩=>h) ?_;rintro _ d8 ⟨b28,rfl,aI,i,aJ⟩
  have b2:cM≠b28:=by have:=B.lt;omega
  have cN:=Nat.le_trans g.size aI;have bS:=(aE.below' g).away aI;have aA:=d.away aI;have f:=f.below i;have e:=e.below i;have b:=b.below i;have B:=B.below i;have d:=d.below i;have g:=btr g i;refine Y1 10<|Yt rfl trivial rfl (X1e (enc:=encT) (l:=(l)) (l2:=([(⟨drI j x.m,x.c⟩ : Tm)])) (B0:=M.heap.size) rfl rfl X05 X1a X0m X2g d (Rd.of_blk aJ rfl _ aJ.lt) (by simp only [maxLen];rw [hl];simp;omega) (by rw [hl];simp;omega) g.size) ?_;rintro _ dB ⟨aU,aW,rfl,aK,hg,W⟩
  have E:Own _ M.heap.size 76 2 encT _ _ (l):=d
  have b3:=W _ B.lt J;have b5:=W _ aJ.lt aA;clear W;have f:=f.appT E hg rfl;have e:=e.appT E hg rfl;have b:=b.appT E hg rfl;have g:=Below.app g E hg (Nat.le_refl _) g.size;clear E hg;refine Yo 11 rfl (fun _=>Vd rfl X0o 4)<|Y1 12 ?_;refine Yh rfl trivial rfl (Vu (vs:=[.slice aU (l++([(⟨drI j x.m,x.c⟩ : Tm)])).length aW]) (l':=[vi p.ins,vi (p.vars-1),vi p.root,vi p.phase,.slice aU (l++([(⟨drI j x.m,x.c⟩ : Tm)])).length aW,.slice none 0 0]) rfl rfl X29 b) ?_;rintro _ dC ⟨A,U⟩;have n:=b;have f:=f.only A (by omega);have e:=e.only A (by omega);have aK:=aK.onlyT A n rfl;have g:=Below.only g A G;have b:=U;refine Yd fun a D=>?_;refine Xa<|bO _ _<|Zr D<|Ze (Xu rfl rfl (by omega) (by omega))<|Zm rfl ?_;refine Zn fun a D=>?_;refine Xd ?_;exact ⟨(k+1,l++([(⟨drI j x.m,x.c⟩ : Tm)])),⟨aU,aW,D.sb,(by omega),(by rw [hl];exact (X4e (dT j) aG).symm),f,e,b,aK,g⟩,(by first|omega|(dsimp only;omega))⟩
 have aR:=H;have H:=of_decide_eq_false H
 have cO:k=p.ts.length:=by have:=H;omega
 refine wp_exit<|Xi<|Xi<|X03 ?_;refine bJ _ _<|wp_seq_k fun _ bU=>?_;refine Zs D fun _ bW=>?_;refine Ze (Vd rfl Xx 5)<|Ze (X0 rfl X08 (f.at 5))<|Ze (X1f rfl Xr)<|Zm rfl<|Zt bW fun a D=>?_;refine wp_block<|X06 (σ:=Nat×(List Af)) (fun (s:Nat×(List Af)) (a:Act) (w:World)=>match s with|(q,l2)=>∃ aB aC,Fr a 58 [(1,vi (j:Int)),(4,.pointer (some ⟨b7,0,none⟩)),(5,.pointer (some ⟨b11,0,none⟩)),(38,.slice Bp p.out.length dp),(39,vi (p.out.length:Int)),(40,vi (q:Int))]∧(q≤p.out.length)∧(l2=(p.out.take q).map (dA j))∧Blk w b7 30 [vi 0,vi 0,vi 0,vi 0,.slice none 0 0,.slice none 0 0]∧Blk w b11 30 [vi p.ins,vi (p.vars-1),vi p.root,vi p.phase,.slice N l.length Q,.slice aB l2.length aC]∧Own w M.heap.size 76 2 encT N Q l∧Own w M.heap.size 34 2 encA aB aC l2∧Below M.heap.size M w) (fun (s:Nat×(List Af))=>match s with|(q,l2)=>p.out.length-q) (0,[]) ?_ ?_
 ·exact ⟨none,0,D.sb,(Nat.zero_le _),rfl,e,b,d,(Own.nil _ _ _ _ _),g⟩
 rintro ⟨q,l2⟩ a dD ⟨aB,aC,D,hq,aQ,e,b,d,o,g⟩;refine Zs D fun _ bX=>?_;refine Ze (X1n rfl rfl)<|ZX bX fun a D _ bY=>?_
 refine Xg D rfl (fun I=>?_) (fun I=>?_)
 ·have aX:=I;have I:=of_decide_eq_true I
  obtain ⟨y,aL⟩:=Xm (l:=p.out) (k:=q) (by omega)
  refine wp_skip<|bY _ _<|wp_seq_k fun _ bZ=>?_;refine wp_block<|Zs D fun _ c4=>?_;refine Zi (k:=q) (u:=y) (enc:=encA) (l:=p.out) trivial rfl rfl Xr Xj Xv (aF.below' g) aL rfl ?_;intro dE aY;refine Ze (X0b (l:=[vi y.m,vi y.t]) rfl Xs aY rfl)<|Zf (X6 (zs:=[vi 0,vi 0]) X18 rfl) ?_;rintro _ dF ⟨cP,rfl,aM,i,C⟩;have aZ:=Nat.le_trans g.size aM;have cA:=(aF.below' g).away aM;have L:=o.away aM;have e:=e.below i;have b:=b.below i;have d:=d.below i;have o:=o.below i;have g:=btr g i;refine Zo (Vw [vi y.m,vi y.t] Xj C) ?_;rintro _ dG ⟨A,U⟩;have n:=C;have e:=e.only A (Blk.ne e n rfl);have b:=b.only A (Blk.ne b n rfl);have d:=d.onlyT A n rfl;have o:=o.onlyA A L;have g:=Below.only g A aZ;have C:=U;refine Zt c4 fun a D=>?_;refine Xq none (fun j=>[10,12].contains j) mixed ?_;intro dH i;have e:=e.below i;have b:=b.below i;have C:=C.below i;have d:=d.below i;have o:=o.below i;have g:=btr g i;refine Yb D<|Yo 0 rfl (fun _=>Vd rfl Xx 5)<|Ye 1 rfl (X0 rfl X08 (b.at 5))<|Yo 2 rfl (fun _=>Vd rfl X0a 0)<|Ye 3 rfl (X0 rfl X2 (C.at 0))<|Yo 4 rfl (fun _=>X4 rfl) ?_;refine Yo 6 rfl (fun _=>Vd rfl X0k 1)<|Ye 7 rfl (X0 rfl X2 (C.at 1))<|Y1 5 ?_;refine Yk rfl trivial (Vc (Xu6 _ y.m j (cG _ (List.mem_of_getElem? aL)) hv) Xjg) (fun _ _ ⟨_,i⟩=>i) ?_;rintro _ dI ⟨rfl,i⟩;have e:=e.below i;have b:=b.below i;have C:=C.below i;have d:=d.below i;have o:=o.below i;have g:=btr g i;refine Yo 8 rfl (fun _=>Xk (ps:=[(0,vi (drI j y.m)),(1,vi y.t)]) (cs:=[vi (drI j y.m),vi y.t]) rfl (fun _=>by first|rfl|kernel_rfl))<|Y1 9 ?_
  refine Yk rfl trivial (Xb (k:=1) (vs:=[.agg #[vi (drI j y.m),vi y.t]]) (zs:=[vi (drI j y.m),vi y.t]) rfl Xr X1l rfl rfl) (fun _ _ ⟨_,_,_,h,_⟩=>h) ?_;rintro _ dJ ⟨b43,rfl,aN,i,aO⟩
  have b6:cP≠b43:=by have:=C.lt;omega
  have cQ:=Nat.le_trans g.size aN;have cC:=(aF.below' g).away aN;have aD:=o.away aN;have e:=e.below i;have b:=b.below i;have C:=C.below i;have d:=d.below i;have o:=o.below i;have g:=btr g i;refine Y1 10<|Yt rfl trivial rfl (X1e (enc:=encA) (l:=(l2)) (l2:=([(⟨drI j y.m,y.t⟩ : Af)])) (B0:=M.heap.size) rfl rfl Xr X1l Xv X3o o (Rd.of_blk aO rfl _ aO.lt) (by simp only [maxLen];rw [aQ];simp;omega) (by rw [aQ];simp;omega) g.size) ?_;rintro _ dK ⟨b0,b1,rfl,aP,hg,W⟩
  have E:Own _ M.heap.size 34 2 encA _ _ (l2):=o
  have b8:=W _ C.lt L;have b9:=W _ aO.lt aD;clear W;have e:=e.appT E hg rfl;have b:=b.appT E hg rfl;have d:=d.appT E hg rfl;have g:=Below.app g E hg (Nat.le_refl _) g.size;clear E hg;refine Yo 11 rfl (fun _=>Vd rfl Xx 5)<|Y1 12 ?_;refine Yh rfl trivial rfl (Vu (vs:=[.slice b0 (l2++([(⟨drI j y.m,y.t⟩ : Af)])).length b1]) (l':=[vi p.ins,vi (p.vars-1),vi p.root,vi p.phase,.slice N l.length Q,.slice b0 (l2++([(⟨drI j y.m,y.t⟩ : Af)])).length b1]) rfl rfl X2s b) ?_;rintro _ dL ⟨A,U⟩;have n:=b;have e:=e.only A (by omega);have d:=d.onlyT A n rfl;have aP:=aP.onlyT A n rfl;have g:=Below.only g A G;have b:=U;refine Yd fun a D=>?_;refine Xa<|bZ _ _<|Zr D<|Ze (Xu rfl rfl (by omega) (by omega))<|Zm rfl ?_;refine Zn fun a D=>?_;refine Xd ?_;exact ⟨(q+1,l2++([(⟨drI j y.m,y.t⟩ : Af)])),⟨b0,b1,D.sb,(by omega),(by rw [aQ];exact (X4e (dA j) aL).symm),e,b,d,aP,g⟩,(by first|omega|(dsimp only;omega))⟩
 have aX:=I;have I:=of_decide_eq_false I
 have cR:q=p.out.length:=by have:=I;omega
 refine wp_exit<|Xi<|Xi<|X03 ?_;refine bU _ _<|Zs D fun _ cD=>?_;refine Ze (Vn Xh b)<|Zo (Vw [vi p.ins,vi (p.vars-1),vi p.root,vi p.phase,.slice N l.length Q,.slice aB l2.length aC] X04 e) ?_;rintro _ dM ⟨A,U⟩;have n:=e;have d:=d.onlyT A n rfl;have o:=o.onlyT A n rfl;have g:=Below.only g A bC;have e:=U;refine Zt cD fun a D=>?_
 refine wp_ret (X3 D (Xz D rfl (ResV.cellN (l:=[vi p.ins,vi (p.vars-1),vi p.root,vi p.phase,.slice N l.length Q,.slice aB l2.length aC]) rfl Xh (e.at 0) rfl)) ?_)
 obtain rfl:l=p.ts.map (dT j):=by rw [hl,cO,List.take_length]
 obtain rfl:l2=p.out.map (dA j):=by rw [aQ,cR,List.take_length]
 exact ⟨N,Q,aB,aC,rfl,d.rd.top,o.rd.top,g⟩
theorem Xo8(w0:World)(p:Ps)(Ap:Option Addr)(cp:Nat)(bC:Rd w0 w0.heap.size 76 encT Ap p.ts)(Bp:Option Addr)(dp:Nat)(aF:Rd w0 w0.heap.size 34 encA Bp p.out)(j:Nat)(y:Af)(dO:0≤p.phase∧p.phase<8)(hT:∀ t ∈ p.ts,Mk t.m∧0<t.c∧t.c<8)(bJ:∀ a ∈ p.out,AO a)(hv:j<24)(hy:AO y)(eE:-1000≤p.vars∧p.vars≤1000)(eF:p.ts.length≤100000000)(eG:p.out.length≤100000000) : Ret Tryz.prog 32 [.agg #[vi p.ins,vi p.vars,vi p.root,vi p.phase,.slice Ap p.ts.length cp,.slice Bp p.out.length dp],vi (j:Int),.agg #[vi y.m,vi y.t]] w0 (fun v w=>∃ A9 c9 B9 d9,v=psV A9 c9 B9 d9 (repP p j y)∧Rd w w.heap.size 76 encT A9 (repP p j y).ts∧Rd w w.heap.size 34 encA B9 (repP p j y).out∧(repP p j y).ts.length≤c9∧Below w0.heap.size w0 w):=by
 refine enter Tryz.func32 rfl 114 rfl rfl ?_;intro a E
 have B:=bz w0
 refine Zs E fun _ dP=>?_;refine Zf (X14 (zs:=[vi p.ins,vi p.vars,vi p.root,vi p.phase,.slice Ap p.ts.length cp,.slice Bp p.out.length dp]) rfl rfl) ?_;rintro _ w1 ⟨b4,rfl,dQ,o,A⟩;have eC:=Nat.le_trans B.size dQ;have B:=btr B o;refine Zf (X14 (zs:=[vi y.m,vi y.t]) rfl rfl) ?_;rintro _ w2 ⟨b5,rfl,cF,o,b⟩;have eD:=Nat.le_trans B.size cF;have dM:=(aF.below' B).away cF;have A:=A.below o;have B:=btr B o;refine Zf (X6 (zs:=[vi 0,vi 0,vi 0,vi 0,.slice none 0 0,.slice none 0 0]) X1o rfl) ?_;rintro _ w3 ⟨b8,rfl,dR,o,e⟩
 have dN:b4≠b8:=by have:=A.lt;omega
 have cG:=Nat.le_trans B.size dR;have A:=A.below o;have b:=b.below o;have B:=btr B o;refine Zx dP fun a E _ dS=>?_;refine Ze (Vd rfl X1g 3)<|Ze (X0 rfl X2 (A.at 3))<|Ze (Xk (ps:=[(0,vi p.phase)]) (cs:=[vi p.phase,.slice none 0 0]) rfl (fun _=>by first|rfl|kernel_rfl))<|Zf (X14 (zs:=[vi p.phase,.slice none 0 0]) rfl rfl) ?_;rintro _ w4 ⟨aI,rfl,cH,o,x⟩;have aR:=Nat.le_trans B.size cH;have A:=A.below o;have b:=b.below o;have e:=e.below o;have B:=btr B o;refine Za rfl<|ZX dS fun a E _ cJ=>?_;refine Zs E fun _ cK=>?_;refine Ze (Vd rfl X0o 4)<|Ze (X0 rfl X0y (A.at 4))<|Ze (X1f rfl X05)<|Zm rfl<|Zt cK fun a E=>?_;refine wp_block ?_
 replace x:Blk w4 aI 105 [vi ((cPh p.phase) 0),.slice none (tms (cPh p.phase)).length 0]:=by rw [Xh2,Xpu];exact x
 have dU:Rd w4 w4.heap.size 76 encT none (tms (cPh p.phase)):=by rw [Xh2];exact Rd.nil _ _ _ _ _
 have cL:(tms (cPh p.phase)).length≤0:=by rw [Xh2];exact Nat.le_refl _
 refine X06 (σ:=Nat×(Int→Int)) (fun (s:Nat×(Int→Int)) (a:Act) (w:World)=>match s with|(k,g)=>∃ N Q,Fr a 114 [(1,vi (j:Int)),(3,.pointer (some ⟨b4,0,none⟩)),(5,.pointer (some ⟨b5,0,none⟩)),(6,.pointer (some ⟨b8,0,none⟩)),(7,.pointer (some ⟨aI,0,none⟩)),(18,.slice Ap p.ts.length cp),(19,vi (p.ts.length:Int)),(20,vi (k:Int))]∧(k≤p.ts.length)∧(g=foldA ((p.ts.take k).flatMap (rL j y)) (cPh p.phase))∧(PO g)∧(SupF g)∧Blk w b4 30 [vi p.ins,vi p.vars,vi p.root,vi p.phase,.slice Ap p.ts.length cp,.slice Bp p.out.length dp]∧Blk w b5 34 [vi y.m,vi y.t]∧Blk w b8 30 [vi 0,vi 0,vi 0,vi 0,.slice none 0 0,.slice none 0 0]∧Blk w aI 105 [vi (g 0),.slice N (tms g).length Q]∧Rd w w.heap.size 76 encT N (tms g)∧(tms g).length≤Q∧Below w0.heap.size w0 w) (fun (s:Nat×(Int→Int))=>match s with|(k,g)=>p.ts.length-k) (0,(cPh p.phase)) ?_ ?_
 ·exact ⟨none,0,E.sb,(Nat.zero_le _),rfl,(PO.cPh dO),(SupF.cPh _),A,b,e,x,dU.top,cL,B⟩
 rintro ⟨k,g⟩ a w5 ⟨N,Q,E,hk,hg,hp,hs,A,b,e,x,d,U,B⟩;refine Zs E fun _ cM=>?_;refine Ze (X1n rfl rfl)<|ZX cM fun a E _ cN=>?_
 refine Xg E rfl (fun aA=>?_) (fun aA=>?_)
 ·have bK:=aA;have aA:=of_decide_eq_true aA
  obtain ⟨J,G⟩:=Xm (l:=p.ts) (k:=k) (by omega)
  refine wp_skip<|cN _ _<|wp_seq_k fun _ bD=>?_;refine wp_block<|Zs E fun _ cO=>?_;refine Zi (k:=k) (u:=J) (enc:=encT) (l:=p.ts) trivial rfl rfl X05 X1h X0m (bC.below' B) G rfl ?_;intro eH bL;refine Ze (X0b (l:=[vi J.m,vi J.c]) rfl X46 bL rfl)<|Zf (X6 (zs:=[vi 0,vi 0]) X7u rfl) ?_;rintro _ w6 ⟨eI,rfl,aS,o,H⟩;have bN:=Nat.le_trans B.size aS;have cP:=(bC.below' B).away aS;have aN:=d.away aS;have A:=A.below o;have b:=b.below o;have e:=e.below o;have x:=x.below o;have d:=d.below o;have B:=btr B o;refine Zo (Vw [vi J.m,vi J.c] X1h H) ?_;rintro _ w7 ⟨I,hb⟩;have f:=H;have A:=A.only I (Blk.ne A f rfl);have b:=b.only I (Blk.ne b f rfl);have e:=e.only I (Blk.ne e f rfl);have x:=x.only I (Blk.ne x f rfl);have d:=d.onlyA I aN;have B:=Below.only B I bN;have H:=hb;refine Zx cO fun a E _ cQ=>?_;refine Ze (Vd rfl X16 0)<|Ze (X0 rfl X2 (H.at 0))<|Zm rfl<|Ze (X2u (m:=j) Tryz.underlying3 Tryz.underlying67 rfl rfl (by omega))<|Ze (X6v (m:=j) rfl rfl rfl (by omega)) ?_;refine Ze (Vx (X69 rfl rfl) (X4b (hT _ (List.mem_of_getElem? G)).1 j))<|Ze (X0l rfl rfl)<|Zt cQ fun a E=>?_
  refine Xg E rfl (fun aG=>?_) (fun aG=>?_)
  ·have bO:=aG
   have aC:bitQ j J.m=false:=Y0d aG
   have dW:=hT _ (List.mem_of_getElem? G);refine Xq (some aI) (fun _=>false) mixed ?_;intro w8 o;have A:=A.below o;have b:=b.below o;have e:=e.below o;have x:=x.below o;have H:=H.below o;have d:=d.below o;have B:=btr B o;refine Yb E<|Yo 0 rfl (fun _=>X4 rfl)<|Yo 1 rfl (fun _=>Vd rfl X16 0) ?_;refine Yw 2 rfl trivial (fun w1 h1=>X0 rfl X2 ((H.only h1 (Blk.ne H x rfl)).at 0)) ?_;refine Yo 3 rfl (fun _=>X4 rfl)<|Yo 5 rfl (fun _=>Vd rfl X24 1) ?_;refine Yw 6 rfl trivial (fun w1 h1=>X0 rfl X2 ((H.only h1 (Blk.ne H x rfl)).at 1)) ?_;refine Y1 4<|Yz rfl trivial (Vc (Xcy _ J.m j (hT _ (List.mem_of_getElem? G)).1 hv) X79) ?_;refine Y1 7<|Yf rfl trivial (EfW.mono (Vc (X3k _ aI g N Q x d.top U hp hs (drI j J.m) J.c (hT _ (List.mem_of_getElem? G)).1.dr (by omega)) X21) (fun _ _ h=>⟨fun _=>by obtain ⟨rfl,hK,cR,cS,aJ,bE,aT⟩:=h;exact hK.keep,h⟩)) ?_;rintro _ w9 ⟨rfl,hK,cR,cS,aJ,bE,aT⟩;obtain ⟨wm,hO,hm,o⟩:=hK.mid;clear hm;have f:=x;have A:=A.only hO (Blk.ne A f rfl);have b:=b.only hO (Blk.ne b f rfl);have e:=e.only hO (Blk.ne e f rfl);have B:=Below.only B hO aR;have A:=A.below o;have b:=b.below o;have e:=e.below o;have B:=btr B o
   clear f o hO hK;have x:=aJ;clear aJ;refine Yd fun a E=>?_;refine Xa<|bD _ _<|Zr E<|Ze (Xu rfl rfl (by omega) (by omega))<|Zm rfl ?_;refine Zn fun a E=>?_;refine Xd ?_;exact ⟨(k+1,(padd g (drI j J.m) J.c)),⟨cR,cS,E.sb,(by omega),(by first|exact Xtx G hg aC|exact Xti G hg aC),(by first|exact hp.padd _ _|exact hp.expP _ _ _),(by first|exact hs.pad hp (hT _ (List.mem_of_getElem? G)).1.dr|exact hs.exp hp hy.dA (hT _ (List.mem_of_getElem? G)).1.dr),A,b,e,x,bE.top,aT,B⟩,(by first|omega|(dsimp only;omega))⟩
  have bO:=aG
  have aC:bitQ j J.m=true:=Xtr aG
  have dW:=hT _ (List.mem_of_getElem? G);refine Xq (some aI) (fun _=>false) mixed ?_;intro eJ o;have A:=A.below o;have b:=b.below o;have e:=e.below o;have x:=x.below o;have H:=H.below o;have d:=d.below o;have B:=btr B o;refine Yb E<|Yo 0 rfl (fun _=>X4 rfl)<|Yo 1 rfl (fun _=>Vd rfl X16 0) ?_;refine Yw 2 rfl trivial (fun w1 h1=>X0 rfl X2 ((H.only h1 (Blk.ne H x rfl)).at 0)) ?_;refine Yo 3 rfl (fun _=>X4 rfl)<|Yo 5 rfl (fun _=>Vd rfl X24 1) ?_;refine Yw 6 rfl trivial (fun w1 h1=>X0 rfl X2 ((H.only h1 (Blk.ne H x rfl)).at 1)) ?_;refine Yo 7 rfl (fun _=>Vd rfl X0a 0) ?_;refine Yw 8 rfl trivial (fun w1 h1=>X0 rfl X2 ((b.only h1 (Blk.ne b x rfl)).at 0)) ?_;refine Yo 9 rfl (fun _=>X4 rfl)<|Yo 11 rfl (fun _=>Vd rfl X0k 1) ?_;refine Yw 12 rfl trivial (fun w1 h1=>X0 rfl X2 ((b.only h1 (Blk.ne b x rfl)).at 1)) ?_;refine Y1 4<|Yz rfl trivial (Vc (Xcy _ J.m j (hT _ (List.mem_of_getElem? G)).1 hv) X79) ?_;refine Y1 10<|Yz rfl trivial (Vc (Xcy _ y.m j hy.1 hv) X79) ?_;refine Yo 13 rfl (fun _=>Xk (ps:=[(0,vi (drI j y.m)),(1,vi y.t)]) (cs:=[vi (drI j y.m),vi y.t]) rfl (fun _=>by first|rfl|kernel_rfl))<|Y1 14 ?_;refine Yf rfl trivial (EfW.mono (Vc (Xgk _ aI g N Q x d.top U hp hs (drI j J.m) J.c (⟨drI j y.m,y.t⟩ : Af) (hT _ (List.mem_of_getElem? G)).1.dr (by omega) hy.dA) X83) (fun _ _ h=>⟨fun _=>by obtain ⟨rfl,hK,cU,cW,aJ,bF,aU⟩:=h;exact hK.keep,h⟩)) ?_;rintro _ eK ⟨rfl,hK,cU,cW,aJ,bF,aU⟩;obtain ⟨wm,hO,hm,o⟩:=hK.mid;clear hm;have f:=x;have A:=A.only hO (Blk.ne A f rfl);have b:=b.only hO (Blk.ne b f rfl);have e:=e.only hO (Blk.ne e f rfl);have B:=Below.only B hO aR
  have A:=A.below o;have b:=b.below o;have e:=e.below o;have B:=btr B o
  clear f o hO hK;have x:=aJ;clear aJ;refine Yd fun a E=>?_;refine Xa<|bD _ _<|Zr E<|Ze (Xu rfl rfl (by omega) (by omega))<|Zm rfl ?_;refine Zn fun a E=>?_;refine Xd ?_;exact ⟨(k+1,(expP g J.c (⟨drI j y.m,y.t⟩ : Af) (drI j J.m))),⟨cU,cW,E.sb,(by omega),(by first|exact Xtx G hg aC|exact Xti G hg aC),(by first|exact hp.padd _ _|exact hp.expP _ _ _),(by first|exact hs.pad hp (hT _ (List.mem_of_getElem? G)).1.dr|exact hs.exp hp hy.dA (hT _ (List.mem_of_getElem? G)).1.dr),A,b,e,x,bF.top,aU,B⟩,(by first|omega|(dsimp only;omega))⟩
 have bK:=aA;have aA:=of_decide_eq_false aA
 have dX:k=p.ts.length:=by have:=aA;omega
 refine wp_exit<|Xi<|Xi<|X03 ?_;refine cJ _ _<|wp_seq_k fun _ cX=>?_;refine Xq none (fun j=>[17].contains j) mixed ?_;intro eL o;have A:=A.below o;have b:=b.below o;have e:=e.below o;have x:=x.below o;have d:=d.below o;have B:=btr B o;refine Yb E<|Yo 0 rfl (fun _=>Vd rfl X09 0)<|Ye 1 rfl (X0 rfl X2 (A.at 0))<|Yo 2 rfl (fun _=>Vd rfl X0n 1)<|Ye 3 rfl (X0 rfl X2 (A.at 1))<|Yo 4 rfl (fun _=>X15 rfl rfl (by omega) (by omega)) ?_;refine Yo 5 rfl (fun _=>Vd rfl X1k 2)<|Ye 6 rfl (X0 rfl X2 (A.at 2))<|Yo 7 rfl (fun _=>X4 rfl)<|Yo 8 rfl (fun _=>X0v rfl)<|Yo 9 rfl (fun _=>Vd rfl X3q 0) ?_;refine Ye 10 rfl (X0 rfl X2 (x.at 0))<|Yo 11 rfl (fun _=>X4 rfl)<|Yo 12 rfl (fun _=>X0v rfl)<|Yo 13 rfl (fun _=>Vd rfl X0z 1)<|Ye 14 rfl (X0 rfl X0y (x.at 1)) ?_;refine Yo 15 rfl (fun _=>Xk (ps:=[(0,vi p.ins),(1,vi (p.vars-1)),(2,vi p.root),(3,vi (g 0)),(4,.slice N (tms g).length Q)]) (cs:=[vi p.ins,vi (p.vars-1),vi p.root,vi (g 0),.slice N (tms g).length Q,.slice none 0 0]) rfl (fun _=>by first|rfl|kernel_rfl))<|Y1 16 ?_;refine Yk rfl trivial (X6 (zs:=[vi 0,vi 0,vi 0,vi 0,.slice none 0 0,.slice none 0 0]) X1o rfl) (fun _ _ ⟨_,_,_,h,_⟩=>h) ?_;rintro _ eM ⟨b33,rfl,cY,o,i⟩
 have d5:b4≠b33:=by have:=A.lt;omega
 have d6:b8≠b33:=by have:=e.lt;omega
 have aK:=Nat.le_trans B.size cY;have A:=A.below o;have b:=b.below o;have e:=e.below o;have d:=d.below o;have B:=btr B o;refine Y1 17<|Yh rfl trivial rfl (Vw [vi p.ins,vi (p.vars-1),vi p.root,vi (g 0),.slice N (tms g).length Q,.slice none 0 0] X04 i) ?_;rintro _ eN ⟨I,hb⟩;have f:=i;have A:=A.only I (by omega);have b:=b.only I (Blk.ne b f rfl);have e:=e.only I (by omega);have d:=d.onlyT I f rfl;have B:=Below.only B I aK;have i:=hb;refine Yd fun a E=>?_;refine cX _ _<|wp_seq_k fun _ d7=>?_;refine Zs E fun _ d8=>?_;refine Ze (Vd rfl Xx 5)<|Ze (X0 rfl X08 (A.at 5))<|Ze (X1f rfl Xr)<|Zm rfl<|Zt d8 fun a E=>?_;refine wp_block<|X06 (σ:=Nat×(List Af)) (fun (s:Nat×(List Af)) (a:Act) (w:World)=>match s with|(q,l2)=>∃ aL aO,Fr a 114 [(1,vi (j:Int)),(5,.pointer (some ⟨b5,0,none⟩)),(6,.pointer (some ⟨b8,0,none⟩)),(10,.pointer (some ⟨b33,0,none⟩)),(72,.slice Bp p.out.length dp),(73,vi (p.out.length:Int)),(74,vi (q:Int))]∧(q≤p.out.length)∧(l2=(p.out.take q).map fun a=>dA j (sA j y a))∧Blk w b5 34 [vi y.m,vi y.t]∧Blk w b8 30 [vi 0,vi 0,vi 0,vi 0,.slice none 0 0,.slice none 0 0]∧Blk w b33 30 [vi p.ins,vi (p.vars-1),vi p.root,vi (g 0),.slice N (tms g).length Q,.slice aL l2.length aO]∧Rd w w5.heap.size 76 encT N (tms g)∧Own w w0.heap.size 34 2 encA aL aO l2∧(tms g).length≤Q∧Away aL b5∧Below w0.heap.size w0 w) (fun (s:Nat×(List Af))=>match s with|(q,l2)=>p.out.length-q) (0,[]) ?_ ?_
 ·exact ⟨none,0,E.sb,(Nat.zero_le _),rfl,b,e,i,d,(Own.nil _ _ _ _ _),U,(Away.no _),B⟩
 rintro ⟨q,l2⟩ a eO ⟨aL,aO,E,hq,aM,b,e,i,d,D,U,W,B⟩;refine Zs E fun _ dB=>?_;refine Ze (X1n rfl rfl)<|ZX dB fun a E _ dC=>?_
 refine Xg E rfl (fun aB=>?_) (fun aB=>?_)
 ·have bP:=aB;have aB:=of_decide_eq_true aB
  obtain ⟨n,aD⟩:=Xm (l:=p.out) (k:=q) (by omega)
  refine wp_skip<|dC _ _<|wp_seq_k fun _ bG=>?_;refine wp_block<|Zs E fun _ dD=>?_;refine Zi (k:=q) (u:=n) (enc:=encA) (l:=p.out) trivial rfl rfl Xr Xj Xv (aF.below' B) aD rfl ?_;intro eP bR;refine Ze (X0b (l:=[vi n.m,vi n.t]) rfl Xs bR rfl)<|Zf (X6 (zs:=[vi 0,vi 0]) X18 rfl) ?_;rintro _ eQ ⟨b45,rfl,aW,o,C⟩
  have dE:b5≠b45:=by have:=b.lt;omega
  have aX:=Nat.le_trans B.size aW;have dF:=(aF.below' B).away aW;have M:=D.away aW;have b:=b.below o;have e:=e.below o;have i:=i.below o;have d:=d.below o;have D:=D.below o;have B:=btr B o;refine Zo (Vw [vi n.m,vi n.t] Xj C) ?_;rintro _ eR ⟨I,hb⟩;have f:=C;have b:=b.only I (by omega);have e:=e.only I (Blk.ne e f rfl);have i:=i.only I (Blk.ne i f rfl);have d:=d.onlyT I f rfl;have D:=D.onlyA I M;have B:=Below.only B I aX;have C:=hb;refine ZX dD fun a E _ bH=>?_;refine Zs E fun _ dG=>?_;refine Ze (Vd rfl X0a 0)<|Ze (X0 rfl X2 (C.at 0))<|Zm rfl<|Ze (X2u (m:=j) Tryz.underlying3 Tryz.underlying67 rfl rfl (by omega))<|Ze (X6v (m:=j) rfl rfl rfl (by omega)) ?_;refine Ze (Vx (X69 rfl rfl) (X4b (bJ _ (List.mem_of_getElem? aD)).1 j))<|Ze (X0l rfl rfl)<|Zt dG fun a E=>?_
  refine Xg E rfl (fun aH=>?_) (fun aH=>?_)
  ·have bS:=aH
   have aC:bitQ j n.m=true:=Xrj aH
   have aY:=bJ _ (List.mem_of_getElem? aD);refine Zr E<|Ze (Vd rfl X0a 0)<|Ze (X0 rfl X2 (C.at 0))<|Zm rfl<|Ze (X2u (m:=j) Tryz.underlying3 Tryz.underlying67 rfl rfl (by omega))<|Ze (Vx (X2i (m:=j) rfl rfl rfl (by omega)) (X8z hv)) ?_;refine Ze (Vx (X6b rfl rfl) (rfl:_=(xI n.m (pw j))))<|Ze (Vd rfl X0a 0)<|Ze (X0 rfl X2 (b.at 0))<|Ze (Vx (X6b rfl rfl) (rfl:_=(xI (xI n.m (pw j)) y.m)))<|Ze (Vd rfl X0k 1) ?_;refine Ze (X0 rfl X2 (C.at 1))<|Ze (Vd rfl X0k 1)<|Ze (X0 rfl X2 (b.at 1))<|Ze (Vx (X6b rfl rfl) (rfl:_=(xI n.t y.t)))<|Ze (Xk (ps:=[(0,vi (xI (xI n.m (pw j)) y.m)),(1,vi (xI n.t y.t))]) (cs:=[vi (xI (xI n.m (pw j)) y.m),vi (xI n.t y.t)]) rfl (fun _=>by first|rfl|kernel_rfl)) ?_;refine Zo (Vw [vi (xI (xI n.m (pw j)) y.m),vi (xI n.t y.t)] Xj C) ?_;rintro _ eS ⟨I,hb⟩;have f:=C;have b:=b.only I (by omega);have e:=e.only I (Blk.ne e f rfl);have i:=i.only I (Blk.ne i f rfl);have d:=d.onlyT I f rfl;have D:=D.onlyA I M;have B:=Below.only B I aX;have C:=hb;refine Zt bH fun a E=>?_;refine Xq none (fun j=>[10,12].contains j) mixed ?_;intro eT o;have b:=b.below o;have e:=e.below o;have i:=i.below o;have C:=C.below o;have d:=d.below o;have D:=D.below o;have B:=btr B o;refine Yb E<|Yo 0 rfl (fun _=>Vd rfl Xx 5)<|Ye 1 rfl (X0 rfl X08 (i.at 5))<|Yo 2 rfl (fun _=>Vd rfl X0a 0)<|Ye 3 rfl (X0 rfl X2 (C.at 0))<|Yo 4 rfl (fun _=>X4 rfl) ?_;refine Yo 6 rfl (fun _=>Vd rfl X0k 1)<|Ye 7 rfl (X0 rfl X2 (C.at 1))<|Y1 5 ?_;refine Yz rfl trivial (Vc (Xcy _ (xI (xI n.m (pw j)) y.m) j (by first|exact aY.1|exact (aY.1.xor (X3m hv)).xor hy.1) hv) X79) ?_
   refine Yo 8 rfl (fun _=>Xk (ps:=[(0,vi (drI j (xI (xI n.m (pw j)) y.m))),(1,vi (xI n.t y.t))]) (cs:=[vi (drI j (xI (xI n.m (pw j)) y.m)),vi (xI n.t y.t)]) rfl (fun _=>by first|rfl|kernel_rfl))<|Y1 9 ?_;refine Yk rfl trivial (Xb (k:=1) (vs:=[.agg #[vi (drI j (xI (xI n.m (pw j)) y.m)),vi (xI n.t y.t)]]) (zs:=[vi (drI j (xI (xI n.m (pw j)) y.m)),vi (xI n.t y.t)]) rfl Xr X1l rfl rfl) (fun _ _ ⟨_,_,_,h,_⟩=>h) ?_;rintro _ eU ⟨b49,rfl,aZ,o,b0⟩
   have dH:b5≠b49:=by have:=b.lt;omega
   have bZ:b45≠b49:=by have:=C.lt;omega
   have e8:=Nat.le_trans B.size aZ;have dI:=(aF.below' B).away aZ;have aP:=D.away aZ;have b:=b.below o;have e:=e.below o;have i:=i.below o;have C:=C.below o;have d:=d.below o;have D:=D.below o;have B:=btr B o;refine Y1 10<|Yt rfl trivial rfl (X1e (enc:=encA) (l:=(l2)) (l2:=([(⟨drI j (xI (xI n.m (pw j)) y.m),(xI n.t y.t)⟩ : Af)])) (B0:=w0.heap.size) rfl rfl Xr X1l Xv X3o D (Rd.of_blk b0 rfl _ b0.lt) (by simp only [maxLen];rw [aM];simp;omega) (by rw [aM];simp;omega) B.size) ?_;rintro _ eW ⟨bU,bW,rfl,b1,hg,aE⟩
   have L:Own _ w0.heap.size 34 2 encA _ _ (l2):=D
   have b2:=aE _ b.lt W;have c4:=aE _ C.lt M;have cA:=aE _ b0.lt aP;clear aE;have b:=b.appA hg W;have e:=e.appT L hg rfl;have i:=i.appT L hg rfl;have d:=d.appT L hg rfl;have B:=Below.app B L hg (Nat.le_refl _) B.size;clear L hg;refine Yo 11 rfl (fun _=>Vd rfl Xx 5)<|Y1 12 ?_;refine Yh rfl trivial rfl (Vu (vs:=[.slice bU (l2++([(⟨drI j (xI (xI n.m (pw j)) y.m),(xI n.t y.t)⟩ : Af)])).length bW]) (l':=[vi p.ins,vi (p.vars-1),vi p.root,vi (g 0),.slice N (tms g).length Q,.slice bU (l2++([(⟨drI j (xI (xI n.m (pw j)) y.m),(xI n.t y.t)⟩ : Af)])).length bW]) rfl rfl X2s i) ?_;rintro _ eX ⟨I,hb⟩;have f:=i;have b:=b.only I (Blk.ne b f rfl);have e:=e.only I (by omega);have d:=d.onlyT I f rfl;have b1:=b1.onlyT I f rfl;have B:=Below.only B I aK;have i:=hb;refine Yd fun a E=>?_;refine Xa<|bG _ _<|Zr E<|Ze (Xu rfl rfl (by omega) (by omega))<|Zm rfl ?_;refine Zn fun a E=>?_;refine Xd ?_;exact ⟨(q+1,l2++([(⟨drI j (xI (xI n.m (pw j)) y.m),(xI n.t y.t)⟩ : Af)])),⟨bU,bW,E.sb,(by omega),(by rw [aM,X4e (fun a=>dA j (sA j y a)) aD];first|(rw [X60 aC];rfl)|(rw [Xlc aC];rfl)),b,e,i,d,b1,U,b2,B⟩,(by first|omega|(dsimp only;omega))⟩
  have bS:=aH
  have aC:bitQ j n.m=false:=Xht aH
  have aY:=bJ _ (List.mem_of_getElem? aD);refine wp_skip<|bH _ _<|Xq none (fun j=>[10,12].contains j) mixed ?_;intro eY o;have b:=b.below o;have e:=e.below o;have i:=i.below o;have C:=C.below o;have d:=d.below o;have D:=D.below o;have B:=btr B o;refine Yb E<|Yo 0 rfl (fun _=>Vd rfl Xx 5)<|Ye 1 rfl (X0 rfl X08 (i.at 5))<|Yo 2 rfl (fun _=>Vd rfl X0a 0)<|Ye 3 rfl (X0 rfl X2 (C.at 0))<|Yo 4 rfl (fun _=>X4 rfl) ?_;refine Yo 6 rfl (fun _=>Vd rfl X0k 1)<|Ye 7 rfl (X0 rfl X2 (C.at 1))<|Y1 5 ?_;refine Yz rfl trivial (Vc (Xcy _ n.m j (by first|exact aY.1|exact (aY.1.xor (X3m hv)).xor hy.1) hv) X79) ?_;refine Yo 8 rfl (fun _=>Xk (ps:=[(0,vi (drI j n.m)),(1,vi n.t)]) (cs:=[vi (drI j n.m),vi n.t]) rfl (fun _=>by first|rfl|kernel_rfl))<|Y1 9 ?_;refine Yk rfl trivial (Xb (k:=1) (vs:=[.agg #[vi (drI j n.m),vi n.t]]) (zs:=[vi (drI j n.m),vi n.t]) rfl Xr X1l rfl rfl) (fun _ _ ⟨_,_,_,h,_⟩=>h) ?_;rintro _ f4 ⟨b52,rfl,b3,o,b6⟩
  have dJ:b5≠b52:=by have:=b.lt;omega
  have cC:b45≠b52:=by have:=C.lt;omega
  have eA:=Nat.le_trans B.size b3;have dK:=(aF.below' B).away b3;have aQ:=D.away b3;have b:=b.below o;have e:=e.below o;have i:=i.below o;have C:=C.below o;have d:=d.below o;have D:=D.below o;have B:=btr B o;refine Y1 10<|Yt rfl trivial rfl (X1e (enc:=encA) (l:=(l2)) (l2:=([(⟨drI j n.m,n.t⟩ : Af)])) (B0:=w0.heap.size) rfl rfl Xr X1l Xv X3o D (Rd.of_blk b6 rfl _ b6.lt) (by simp only [maxLen];rw [aM];simp;omega) (by rw [aM];simp;omega) B.size) ?_;rintro _ f5 ⟨bX,bY,rfl,b7,hg,aE⟩
  have L:Own _ w0.heap.size 34 2 encA _ _ (l2):=D
  have b9:=aE _ b.lt W;have cD:=aE _ C.lt M;have cE:=aE _ b6.lt aQ;clear aE;have b:=b.appA hg W;have e:=e.appT L hg rfl;have i:=i.appT L hg rfl;have d:=d.appT L hg rfl;have B:=Below.app B L hg (Nat.le_refl _) B.size;clear L hg;refine Yo 11 rfl (fun _=>Vd rfl Xx 5)<|Y1 12 ?_;refine Yh rfl trivial rfl (Vu (vs:=[.slice bX (l2++([(⟨drI j n.m,n.t⟩ : Af)])).length bY]) (l':=[vi p.ins,vi (p.vars-1),vi p.root,vi (g 0),.slice N (tms g).length Q,.slice bX (l2++([(⟨drI j n.m,n.t⟩ : Af)])).length bY]) rfl rfl X2s i) ?_;rintro _ f7 ⟨I,hb⟩;have f:=i;have b:=b.only I (Blk.ne b f rfl);have e:=e.only I (by omega);have d:=d.onlyT I f rfl;have b7:=b7.onlyT I f rfl;have B:=Below.only B I aK;have i:=hb;refine Yd fun a E=>?_;refine Xa<|bG _ _<|Zr E<|Ze (Xu rfl rfl (by omega) (by omega))<|Zm rfl ?_;refine Zn fun a E=>?_;refine Xd ?_;exact ⟨(q+1,l2++([(⟨drI j n.m,n.t⟩ : Af)])),⟨bX,bY,E.sb,(by omega),(by rw [aM,X4e (fun a=>dA j (sA j y a)) aD];first|(rw [X60 aC];rfl)|(rw [Xlc aC];rfl)),b,e,i,d,b7,U,b9,B⟩,(by first|omega|(dsimp only;omega))⟩
 have bP:=aB;have aB:=of_decide_eq_false aB
 have eB:q=p.out.length:=by have:=aB;omega
 refine wp_exit<|Xi<|Xi<|X03 ?_;refine d7 _ _<|Zs E fun _ dL=>?_;refine Ze (Vn Xh i)<|Zo (Vw [vi p.ins,vi (p.vars-1),vi p.root,vi (g 0),.slice N (tms g).length Q,.slice aL l2.length aO] X04 e) ?_;rintro _ f8 ⟨I,hb⟩;have f:=e;have d:=d.onlyT I f rfl;have D:=D.onlyT I f rfl;have B:=Below.only B I cG;have e:=hb;refine Zt dL fun a E=>?_
 refine wp_ret (X3 E (Xz E rfl (ResV.cellN (l:=[vi p.ins,vi (p.vars-1),vi p.root,vi (g 0),.slice N (tms g).length Q,.slice aL l2.length aO]) rfl Xh (e.at 0) rfl)) ?_)
 obtain rfl:g=foldA (p.ts.flatMap (rL j y)) (cPh p.phase):=by rw [hg,dX,List.take_length]
 obtain rfl:l2=p.out.map fun a=>dA j (sA j y a):=by rw [aM,eB,List.take_length]
 exact ⟨N,Q,aL,aO,rfl,d.top,D.rd.top,U,B⟩
theorem Xyl(g:World)(p:Ps)(Ap:Option Addr)(cp:Nat)(aD:Rd g g.heap.size 76 encT Ap p.ts)(Bp:Option Addr)(dp:Nat)(aE:Rd g g.heap.size 34 encA Bp p.out)(j:Nat)(aI:0≤p.phase∧p.phase<8)(hT:∀ t ∈ p.ts,Mk t.m∧0<t.c∧t.c<8)(aJ:∀ a ∈ p.out,AO a)(hv:j<24)(aK:-1000≤p.vars∧p.vars≤1000)(aL:p.ts.length≤100000000)(aM:p.out.length≤100000000) : Ret Tryz.prog 116 [.agg #[vi p.ins,vi p.vars,vi p.root,vi p.phase,.slice Ap p.ts.length cp,.slice Bp p.out.length dp],vi (j:Int)] g (fun v w=>∃ A9 c9 B9 d9,v=psV A9 c9 B9 d9 (repP p j afZ)∧Rd w w.heap.size 76 encT A9 (repP p j afZ).ts∧Rd w w.heap.size 34 encA B9 (repP p j afZ).out∧(repP p j afZ).ts.length≤c9∧Below g.heap.size g w):=by
 refine enter Tryz.func116 rfl 9 rfl rfl ?_;intro a hf
 have b:=bz g
 refine Zs hf fun _ aN=>?_;refine Zf (X14 (zs:=[vi p.ins,vi p.vars,vi p.root,vi p.phase,.slice Ap p.ts.length cp,.slice Bp p.out.length dp]) rfl rfl) ?_;rintro _ w1 ⟨b4,rfl,aO,hE,f⟩;have aR:=Nat.le_trans b.size aO;have b:=btr b hE;refine Zf (X6 (zs:=[vi 0,vi 0,vi 0,vi 0,.slice none 0 0,.slice none 0 0]) X1o rfl) ?_;rintro _ w2 ⟨b7,rfl,aP,hE,d⟩
 have aH:b4≠b7:=by have:=f.lt;omega
 have aF:=Nat.le_trans b.size aP;have f:=f.below hE;have b:=btr b hE;refine Zx aN fun a hf _ aQ=>?_;refine Ze (Vn Xh f)<|Zm rfl<|Ze (Xk (ps:=[]) (cs:=[vi 0,vi 0]) rfl (fun _=>by first|rfl|kernel_rfl))<|Zf (Vc (Xo8 _ p Ap cp (aD.below' b).top Bp dp (aE.below' b).top j (⟨0,0⟩ : Af) aI hT aJ hv AO.z aK aL aM) Xe6) ?_;rintro _ w3 ⟨A9,c9,aA,aB,rfl,aC,e,aG,hE⟩;have d:=d.below hE;have b:=btr b hE;refine Zo (Vw [vi ((repP p j (⟨0,0⟩ : Af)).ins),vi ((repP p j (⟨0,0⟩ : Af)).vars),vi ((repP p j (⟨0,0⟩ : Af)).root),vi ((repP p j (⟨0,0⟩ : Af)).phase),.slice A9 ((repP p j (⟨0,0⟩ : Af)).ts).length c9,.slice aA ((repP p j (⟨0,0⟩ : Af)).out).length aB] X04 d) ?_;rintro _ w4 ⟨ho,hb⟩;have i:=d;have aC:=aC.onlyT ho i rfl;have e:=e.onlyT ho i rfl;have b:=Below.only b ho aF;have d:=hb;refine Zt aQ fun a hf=>?_
 refine wp_ret (X3 hf (Xz hf rfl (ResV.cellN (l:=[vi ((repP p j (⟨0,0⟩ : Af)).ins),vi ((repP p j (⟨0,0⟩ : Af)).vars),vi ((repP p j (⟨0,0⟩ : Af)).root),vi ((repP p j (⟨0,0⟩ : Af)).phase),.slice A9 ((repP p j (⟨0,0⟩ : Af)).ts).length c9,.slice aA ((repP p j (⟨0,0⟩ : Af)).out).length aB]) rfl Xh (d.at 0) rfl)) ?_)
 exact ⟨A9,c9,aA,aB,rfl,aC.top,e.top,aG,b⟩
theorem Y0a(w0:World)(p:Ps)(Ap:Option Addr)(cp:Nat)(bG:Rd w0 w0.heap.size 76 encT Ap p.ts)(Bp:Option Addr)(dp:Nat)(aJ:Rd w0 w0.heap.size 34 encA Bp p.out)(j:Nat)(y:Af)(dW:0≤p.phase∧p.phase<8)(hT:∀ t ∈ p.ts,Mk t.m∧0<t.c∧t.c<8)(aH:∀ a ∈ p.out,AO a)(hj:j<24)(hy:AO y)(dX:-1000≤p.vars∧p.vars≤1000)(eM:p.ts.length≤100000000)(eN:p.out.length≤100000000) : Ret Tryz.prog 29 [.agg #[vi p.ins,vi p.vars,vi p.root,vi p.phase,.slice Ap p.ts.length cp,.slice Bp p.out.length dp],vi (j:Int),.agg #[vi y.m,vi y.t]] w0 (fun v w=>∃ A9 c9 B9 d9,v=psV A9 c9 B9 d9 (subP p j y)∧Rd w w.heap.size 76 encT A9 (subP p j y).ts∧Rd w w.heap.size 34 encA B9 (subP p j y).out∧Below w0.heap.size w0 w):=by
 refine enter Tryz.func29 rfl 92 rfl rfl ?_;intro a I
 have B:=bz w0
 refine Zs I fun _ e8=>?_;refine Zf (X14 (zs:=[vi p.ins,vi p.vars,vi p.root,vi p.phase,.slice Ap p.ts.length cp,.slice Bp p.out.length dp]) rfl rfl) ?_;rintro _ w1 ⟨b4,rfl,eA,C,x⟩;have eJ:=Nat.le_trans B.size eA;have B:=btr B C;refine Zf (X14 (zs:=[vi y.m,vi y.t]) rfl rfl) ?_;rintro _ w2 ⟨b5,rfl,cO,C,d⟩;have eK:=Nat.le_trans B.size cO;have dS:=(aJ.below' B).away cO;have x:=x.below C;have B:=btr B C;refine Zf (X6 (zs:=[vi 0,vi 0,vi 0,vi 0,.slice none 0 0,.slice none 0 0]) X1o rfl) ?_;rintro _ w3 ⟨b8,rfl,eB,C,o⟩
 have dU:b4≠b8:=by have:=x.lt;omega
 have cP:=Nat.le_trans B.size eB;have x:=x.below C;have d:=d.below C;have B:=btr B C;refine Zx e8 fun a I _ eC=>?_;refine Zf (Xm7) ?_;rintro _ w4 ⟨aK,rfl,cQ,C,n⟩;have aN:=Nat.le_trans B.size cQ;have x:=x.below C;have d:=d.below C;have o:=o.below C;have B:=btr B C;refine Ze (Vd rfl X1g 3)<|Ze (X0 rfl X2 (x.at 3))<|Zo (Xzz (f:=fun _=>0) (i:=0) (j:=p.phase) rfl rfl rfl Tryz.underlying60 n) ?_;rintro _ w5 ⟨D,bH⟩;have aH:=n.nc;have x:=x.onlyN D aH;have d:=d.onlyN D aH;have o:=o.onlyN D aH;have B:=Below.only B D aN
 have n:=bH;clear bH D aH;refine Zm rfl<|Za rfl<|ZX eC fun a I _ cR=>?_;refine Zs I fun _ cS=>?_;refine Ze (Vd rfl X0o 4)<|Ze (X0 rfl X0y (x.at 4))<|Ze (X1f rfl X05)<|Zm rfl<|Zt cS fun a I=>?_;refine wp_block<|X06 (σ:=Nat×(Int→Int)) (fun (s:Nat×(Int→Int)) (a:Act) (w:World)=>match s with|(k,g)=>Fr a 92 [(1,vi (j:Int)),(3,.pointer (some ⟨b4,0,none⟩)),(5,.pointer (some ⟨b5,0,none⟩)),(6,.pointer (some ⟨b8,0,none⟩)),(7,.map (some aK)),(18,.slice Ap p.ts.length cp),(19,vi (p.ts.length:Int)),(20,vi (k:Int))]∧(k≤p.ts.length)∧(g=foldA ((p.ts.take k).flatMap (sL j y)) (cPh p.phase))∧(PO g)∧(SupF g)∧Blk w b4 30 [vi p.ins,vi p.vars,vi p.root,vi p.phase,.slice Ap p.ts.length cp,.slice Bp p.out.length dp]∧Blk w b5 34 [vi y.m,vi y.t]∧Blk w b8 30 [vi 0,vi 0,vi 0,vi 0,.slice none 0 0,.slice none 0 0]∧MapF w aK g∧Below w0.heap.size w0 w) (fun (s:Nat×(Int→Int))=>match s with|(k,g)=>p.ts.length-k) (0,(cPh p.phase)) ?_ ?_
 ·exact ⟨I.sb,(Nat.zero_le _),rfl,(PO.cPh dW),(SupF.cPh _),x,d,o,n,B⟩
 rintro ⟨k,g⟩ a w6 ⟨I,hk,hg,hp,hs,x,d,o,n,B⟩;refine Zs I fun _ cU=>?_;refine Ze (X1n rfl rfl)<|ZX cU fun a I _ cW=>?_
 refine Xg I rfl (fun aD=>?_) (fun aD=>?_)
 ·have bO:=aD;have aD:=of_decide_eq_true aD
  obtain ⟨N,aE⟩:=Xm (l:=p.ts) (k:=k) (by omega)
  refine wp_skip<|cW _ _<|wp_seq_k fun _ bJ=>?_;refine wp_block<|Zs I fun _ cX=>?_;refine Zi (k:=k) (u:=N) (enc:=encT) (l:=p.ts) trivial rfl rfl X05 X1h X0m (bG.below' B) aE rfl ?_;intro eO bP;refine Ze (X0b (l:=[vi N.m,vi N.c]) rfl X46 bP rfl)<|Zf (X6 (zs:=[vi 0,vi 0]) X7u rfl) ?_;rintro _ w7 ⟨eP,rfl,bK,C,Q⟩;have bR:=Nat.le_trans B.size bK;have cY:=(bG.below' B).away bK;have x:=x.below C;have d:=d.below C;have o:=o.below C;have n:=n.below C;have B:=btr B C;refine Zo (Vw [vi N.m,vi N.c] X1h Q) ?_;rintro _ w8 ⟨D,hb⟩;have e:=Q;have x:=x.only D (Blk.ne x e rfl);have d:=d.only D (Blk.ne d e rfl);have o:=o.only D (Blk.ne o e rfl);have n:=n.only D (n.ne e);have B:=Below.only B D bR;have Q:=hb;refine Zx cX fun a I _ d5=>?_;refine Ze (Vd rfl X16 0)<|Ze (X0 rfl X2 (Q.at 0))<|Zm rfl<|Ze (X6v (m:=j) rfl rfl rfl (by omega))<|Ze (Vx (X69 rfl rfl) (X4b (hT _ (List.mem_of_getElem? aE)).1 j)) ?_;refine Ze (X0l rfl rfl)<|Zt d5 fun a I=>?_
  refine Xg I rfl (fun aL=>?_) (fun aL=>?_)
  ·have bS:=aL
   have W:bitQ j N.m=true:=Xrj aL
   have aS:=hT _ (List.mem_of_getElem? aE);refine Xq (some aK) (fun _=>false) mixed ?_;intro w9 C;have x:=x.below C;have d:=d.below C;have o:=o.below C;have n:=n.below C;have Q:=Q.below C;have B:=btr B C;refine Yb I<|Yo 0 rfl (fun _=>X4 rfl)<|Yo 1 rfl (fun _=>Vd rfl X24 1) ?_;refine Yw 2 rfl trivial (fun w1 h1=>X0 rfl X2 ((Q.onlyN h1 n.nc).at 1)) ?_;refine Yw 3 rfl trivial (fun w1 h1=>X0b (l:=[vi y.m,vi y.t]) rfl Xs ((d.onlyN h1 n.nc).at 0) rfl) ?_;refine Yo 4 rfl (fun _=>Vd rfl X16 0) ?_;refine Yw 5 rfl trivial (fun w1 h1=>X0 rfl X2 ((Q.onlyN h1 n.nc).at 0)) ?_;refine Yo 6 rfl (fun _=>X4 rfl)<|Yo 7 rfl (fun _=>Vx (X2i (m:=j) rfl rfl rfl (by omega)) (X8z hj))<|Yo 8 rfl (fun _=>Vx (X6b rfl rfl) (rfl:_=(xI N.m (pw j))))<|Y1 9 ?_;refine Yf rfl trivial (EfW.mono (Vc (Xls _ aK g n N.c y (xI N.m (pw j)) hp (by omega) hy) Xdh) (fun _ _ h=>⟨fun _=>by obtain ⟨rfl,hK,aP⟩:=h;exact hK.keep,h⟩)) ?_;rintro _ eQ ⟨rfl,hK,aP⟩;obtain ⟨wm,hO,hm,C⟩:=hK.mid;clear hm;have e:=n.nc;have x:=x.onlyN hO e;have d:=d.onlyN hO e;have o:=o.onlyN hO e;have B:=Below.only B hO aN;have x:=x.below C;have d:=d.below C;have o:=o.below C;have B:=btr B C
   clear e C hO hK;have n:=aP;clear aP;refine Yd fun a I=>?_;refine Xa<|bJ _ _<|Zr I<|Ze (Xu rfl rfl (by omega) (by omega))<|Zm rfl ?_;refine Zn fun a I=>?_;refine Xd ?_;exact ⟨(k+1,expP g N.c y (xI N.m (pw j))),⟨I.sb,(by omega),(by first|exact Xue aE hg W|exact Xu1 aE hg W),(by first|exact hp.padd _ _|exact hp.expP _ _ _),(by first|exact hs.pad hp aS.1|exact hs.exp hp hy (aS.1.xor (X3m hj))),x,d,o,n,B⟩,(by first|omega|(dsimp only;omega))⟩
  have bS:=aL
  have W:bitQ j N.m=false:=Xht aL
  have aS:=hT _ (List.mem_of_getElem? aE);refine Zr I<|Zm rfl<|Ze (Vd rfl X16 0)<|Ze (X0 rfl X2 (Q.at 0))<|Ze (Vd rfl X24 1)<|Ze (X0 rfl X2 (Q.at 1)) ?_;refine Zf (Vc (X6t _ aK g n N.m N.c hp (by omega)) X3g) ?_;rintro _ eR ⟨rfl,hK,aP⟩;obtain ⟨wm,hO,hm,C⟩:=hK.mid;clear hm;have e:=n.nc;have x:=x.onlyN hO e;have d:=d.onlyN hO e;have o:=o.onlyN hO e;have B:=Below.only B hO aN;have x:=x.below C;have d:=d.below C;have o:=o.below C;have B:=btr B C
  clear e C hO hK;have n:=aP;clear aP;refine Zn fun a I=>?_;refine Xa<|bJ _ _<|Zr I<|Ze (Xu rfl rfl (by omega) (by omega))<|Zm rfl ?_;refine Zn fun a I=>?_;refine Xd ?_;exact ⟨(k+1,padd g N.m N.c),⟨I.sb,(by omega),(by first|exact Xue aE hg W|exact Xu1 aE hg W),(by first|exact hp.padd _ _|exact hp.expP _ _ _),(by first|exact hs.pad hp aS.1|exact hs.exp hp hy (aS.1.xor (X3m hj))),x,d,o,n,B⟩,(by first|omega|(dsimp only;omega))⟩
 have bO:=aD;have aD:=of_decide_eq_false aD
 have eD:k=p.ts.length:=by have:=aD;omega
 refine wp_exit<|Xi<|Xi<|X03 ?_;refine cR _ _<|Zs I fun _ d6=>?_;refine Ze (Vn Xh x)<|Zf (X6 (zs:=[vi 0,vi 0,vi 0,vi 0,.slice none 0 0,.slice none 0 0]) X1o rfl) ?_;rintro _ eS ⟨b27,rfl,d7,C,b⟩
 have d8:b4≠b27:=by have:=x.lt;omega
 have dB:b8≠b27:=by have:=o.lt;omega
 have J:=Nat.le_trans B.size d7;have x:=x.below C;have d:=d.below C;have o:=o.below C;have n:=n.below C;have B:=btr B C;refine Zo (Vw [vi p.ins,vi p.vars,vi p.root,vi p.phase,.slice Ap p.ts.length cp,.slice Bp p.out.length dp] X04 b) ?_;rintro _ eT ⟨D,hb⟩;have e:=b;have x:=x.only D (by omega);have d:=d.only D (Blk.ne d e rfl);have o:=o.only D (by omega);have n:=n.only D (n.ne e);have B:=Below.only B D J;have b:=hb;refine ZX d6 fun a I _ dC=>?_;refine X0j (fun a w=>∃ aA aB,Fr a 92 [(1,vi (j:Int)),(3,.pointer (some ⟨b4,0,none⟩)),(5,.pointer (some ⟨b5,0,none⟩)),(6,.pointer (some ⟨b8,0,none⟩)),(10,.pointer (some ⟨b27,0,none⟩))]∧Own w w0.heap.size 76 2 encT aA aB (tms g)∧Blk w b4 30 [vi p.ins,vi p.vars,vi p.root,vi p.phase,.slice Ap p.ts.length cp,.slice Bp p.out.length dp]∧Blk w b5 34 [vi y.m,vi y.t]∧Blk w b8 30 [vi 0,vi 0,vi 0,vi 0,.slice none 0 0,.slice none 0 0]∧MapF w aK g∧Blk w b27 30 [vi p.ins,vi p.vars,vi p.root,vi (g 0),.slice aA (tms g).length aB,.slice none 0 0]∧Below w0.heap.size w0 w) ?_ ?_
 ·refine Xq none (fun j=>[5,7,9].contains j) mixed ?_;intro eU C;have x:=x.below C;have d:=d.below C;have o:=o.below C;have n:=n.below C;have b:=b.below C;have B:=btr B C;refine Yb I<|Yo 0 rfl (fun _=>X4 rfl)<|Yo 2 rfl (fun _=>X4 rfl) ?_;refine Y2 1 3 ?_ ?_
  ·refine Yz rfl trivial (Uev (Xbw (f:=g) rfl rfl Tryz.underlying60 n)) ?_;refine Yo 4 rfl (fun _=>Vd rfl X1g 3)<|Y1 3 ?_;refine Yk rfl trivial (Vc (Xiz _ aK g n hp hs) Xb0) (fun _ _ ⟨aA,aB,_,A,C⟩=>C) ?_;rintro _ eW ⟨aA,aB,rfl,A,C⟩;have A:=A.lower B.size;have x:=x.below C;have d:=d.below C;have o:=o.below C;have n:=n.below C;have b:=b.below C;have B:=btr B C;refine Y1 5<|Yh rfl trivial rfl (Vu (vs:=[vi (g 0)]) (l':=[vi p.ins,vi p.vars,vi p.root,vi (g 0),.slice Ap p.ts.length cp,.slice Bp p.out.length dp]) rfl rfl X12 b) ?_;rintro _ eX ⟨D,hb⟩;have e:=b;have x:=x.only D (by omega);have d:=d.only D (Blk.ne d e rfl);have o:=o.only D (by omega);have n:=n.only D (n.ne e);have A:=A.onlyT D e rfl;have B:=Below.only B D J;have b:=hb;refine Yo 6 rfl (fun _=>Vd rfl X0o 4)<|Y1 7 ?_;refine Yh rfl trivial rfl (Vu (vs:=[.slice aA (tms g).length aB]) (l':=[vi p.ins,vi p.vars,vi p.root,vi (g 0),.slice aA (tms g).length aB,.slice Bp p.out.length dp]) rfl rfl X29 b) ?_;rintro _ eY ⟨D,hb⟩;have e:=b;have x:=x.only D (by omega);have d:=d.only D (Blk.ne d e rfl);have o:=o.only D (by omega);have n:=n.only D (n.ne e);have A:=A.onlyT D e rfl;have B:=Below.only B D J;have b:=hb;refine Yo 8 rfl (fun _=>Vd rfl Xx 5)<|Y1 9 ?_;refine Yh rfl trivial rfl (Vu (vs:=[.slice none 0 0]) (l':=[vi p.ins,vi p.vars,vi p.root,vi (g 0),.slice aA (tms g).length aB,.slice none 0 0]) rfl rfl X2s b) ?_;rintro _ f4 ⟨D,hb⟩;have e:=b;have x:=x.only D (by omega);have d:=d.only D (Blk.ne d e rfl);have o:=o.only D (by omega)
   have n:=n.only D (n.ne e);have A:=A.onlyT D e rfl;have B:=Below.only B D J;have b:=hb;refine Yd fun a I=>?_;exact ⟨aA,aB,I.sb,A,x,d,o,n,b,B⟩
  refine Yk rfl trivial (Vc (Xiz _ aK g n hp hs) Xb0) (fun _ _ ⟨aT,aU,_,U,C⟩=>C) ?_;rintro _ f5 ⟨aT,aU,rfl,U,C⟩;have U:=U.lower B.size;have x:=x.below C;have d:=d.below C;have o:=o.below C;have n:=n.below C;have b:=b.below C;have B:=btr B C;refine Y1 1<|Yz rfl trivial (Uev (Xbw (f:=g) rfl rfl Tryz.underlying60 n)) ?_;refine Yo 4 rfl (fun _=>Vd rfl X1g 3)<|Y1 5 ?_;refine Yh rfl trivial rfl (Vu (vs:=[vi (g 0)]) (l':=[vi p.ins,vi p.vars,vi p.root,vi (g 0),.slice Ap p.ts.length cp,.slice Bp p.out.length dp]) rfl rfl X12 b) ?_;rintro _ f7 ⟨D,hb⟩;have e:=b;have x:=x.only D (by omega);have d:=d.only D (Blk.ne d e rfl);have o:=o.only D (by omega);have n:=n.only D (n.ne e);have U:=U.onlyT D e rfl;have B:=Below.only B D J;have b:=hb;refine Yo 6 rfl (fun _=>Vd rfl X0o 4)<|Y1 7 ?_;refine Yh rfl trivial rfl (Vu (vs:=[.slice aT (tms g).length aU]) (l':=[vi p.ins,vi p.vars,vi p.root,vi (g 0),.slice aT (tms g).length aU,.slice Bp p.out.length dp]) rfl rfl X29 b) ?_;rintro _ f8 ⟨D,hb⟩;have e:=b;have x:=x.only D (by omega);have d:=d.only D (Blk.ne d e rfl);have o:=o.only D (by omega);have n:=n.only D (n.ne e);have U:=U.onlyT D e rfl;have B:=Below.only B D J;have b:=hb;refine Yo 8 rfl (fun _=>Vd rfl Xx 5)<|Y1 9 ?_;refine Yh rfl trivial rfl (Vu (vs:=[.slice none 0 0]) (l':=[vi p.ins,vi p.vars,vi p.root,vi (g 0),.slice aT (tms g).length aU,.slice none 0 0]) rfl rfl X2s b) ?_;rintro _ f9 ⟨D,hb⟩;have e:=b;have x:=x.only D (by omega);have d:=d.only D (Blk.ne d e rfl);have o:=o.only D (by omega)
  have n:=n.only D (n.ne e);have U:=U.onlyT D e rfl;have B:=Below.only B D J;have b:=hb;refine Yd fun a I=>?_;exact ⟨aT,aU,I.sb,U,x,d,o,n,b,B⟩
 rintro a fA ⟨aA,aB,I,A,x,d,o,n,b,B⟩;refine dC _ _<|wp_seq_k fun _ dD=>?_;refine Zs I fun _ dE=>?_;refine Ze (Vd rfl Xx 5)<|Ze (X0 rfl X08 (x.at 5))<|Ze (X1f rfl Xr)<|Zm rfl<|Zt dE fun a I=>?_;refine wp_block<|X06 (σ:=Nat×(List Af)) (fun (s:Nat×(List Af)) (a:Act) (w:World)=>match s with|(q,l2)=>∃ aW bF,Fr a 92 [(1,vi (j:Int)),(5,.pointer (some ⟨b5,0,none⟩)),(6,.pointer (some ⟨b8,0,none⟩)),(10,.pointer (some ⟨b27,0,none⟩)),(56,.slice Bp p.out.length dp),(57,vi (p.out.length:Int)),(58,vi (q:Int))]∧(q≤p.out.length)∧(l2=(p.out.take q).map (sA j y))∧Blk w b5 34 [vi y.m,vi y.t]∧Blk w b8 30 [vi 0,vi 0,vi 0,vi 0,.slice none 0 0,.slice none 0 0]∧Blk w b27 30 [vi p.ins,vi p.vars,vi p.root,vi (g 0),.slice aA (tms g).length aB,.slice aW l2.length bF]∧Own w w0.heap.size 76 2 encT aA aB (tms g)∧Own w w0.heap.size 34 2 encA aW bF l2∧Away aW b5∧Below w0.heap.size w0 w) (fun (s:Nat×(List Af))=>match s with|(q,l2)=>p.out.length-q) (0,[]) ?_ ?_
 ·exact ⟨none,0,I.sb,(Nat.zero_le _),rfl,d,o,b,A,(Own.nil _ _ _ _ _),(Away.no _),B⟩
 rintro ⟨q,l2⟩ a fB ⟨aW,bF,I,hq,aO,d,o,b,A,H,aC,B⟩;refine Zs I fun _ dF=>?_;refine Ze (X1n rfl rfl)<|ZX dF fun a I _ dG=>?_
 refine Xg I rfl (fun aF=>?_) (fun aF=>?_)
 ·have bU:=aF;have aF:=of_decide_eq_true aF
  obtain ⟨E,aG⟩:=Xm (l:=p.out) (k:=q) (by omega)
  refine wp_skip<|dG _ _<|wp_seq_k fun _ bL=>?_;refine wp_block<|Zs I fun _ dH=>?_;refine Zi (k:=q) (u:=E) (enc:=encA) (l:=p.out) trivial rfl rfl Xr Xj Xv (aJ.below' B) aG rfl ?_;intro fC bW;refine Ze (X0b (l:=[vi E.m,vi E.t]) rfl Xs bW rfl)<|Zf (X6 (zs:=[vi 0,vi 0]) X18 rfl) ?_;rintro _ fD ⟨b44,rfl,aX,C,G⟩
  have dI:b5≠b44:=by have:=d.lt;omega
  have aY:=Nat.le_trans B.size aX;have dJ:=(aJ.below' B).away aX;have M:=H.away aX;have d:=d.below C;have o:=o.below C;have b:=b.below C;have A:=A.below C;have H:=H.below C;have B:=btr B C;refine Zo (Vw [vi E.m,vi E.t] Xj G) ?_;rintro _ fE ⟨D,hb⟩;have e:=G;have d:=d.only D (by omega);have o:=o.only D (Blk.ne o e rfl);have b:=b.only D (Blk.ne b e rfl);have A:=A.onlyT D e rfl;have H:=H.onlyA D M;have B:=Below.only B D aY;have G:=hb;refine ZX dH fun a I _ bN=>?_;refine Zs I fun _ dK=>?_;refine Ze (Vd rfl X0a 0)<|Ze (X0 rfl X2 (G.at 0))<|Zm rfl<|Ze (X6v (m:=j) rfl rfl rfl (by omega))<|Ze (Vx (X69 rfl rfl) (X4b (aH _ (List.mem_of_getElem? aG)).1 j)) ?_;refine Ze (X0l rfl rfl)<|Zt dK fun a I=>?_
  refine Xg I rfl (fun aM=>?_) (fun aM=>?_)
  ·have bX:=aM
   have W:bitQ j E.m=true:=Xrj aM
   have eE:=aH _ (List.mem_of_getElem? aG);refine Xq none (fun j=>[14].contains j) mixed ?_;intro fF C;have d:=d.below C;have o:=o.below C;have b:=b.below C;have G:=G.below C;have A:=A.below C;have H:=H.below C;have B:=btr B C;refine Yb I<|Yo 0 rfl (fun _=>Vd rfl X0a 0)<|Ye 1 rfl (X0 rfl X2 (G.at 0))<|Yo 2 rfl (fun _=>X4 rfl)<|Yo 3 rfl (fun _=>Vx (X2i (m:=j) rfl rfl rfl (by omega)) (X8z hj))<|Yo 4 rfl (fun _=>Vx (X6b rfl rfl) (rfl:_=(xI E.m (pw j)))) ?_;refine Yo 5 rfl (fun _=>Vd rfl X0a 0)<|Ye 6 rfl (X0 rfl X2 (d.at 0))<|Yo 7 rfl (fun _=>Vx (X6b rfl rfl) (rfl:_=(xI (xI E.m (pw j)) y.m)))<|Yo 8 rfl (fun _=>Vd rfl X0k 1)<|Ye 9 rfl (X0 rfl X2 (G.at 1)) ?_;refine Yo 10 rfl (fun _=>Vd rfl X0k 1)<|Ye 11 rfl (X0 rfl X2 (d.at 1))<|Yo 12 rfl (fun _=>Vx (X6b rfl rfl) (rfl:_=(xI E.t y.t)))<|Yo 13 rfl (fun _=>Xk (ps:=[(0,vi (xI (xI E.m (pw j)) y.m)),(1,vi (xI E.t y.t))]) (cs:=[vi (xI (xI E.m (pw j)) y.m),vi (xI E.t y.t)]) rfl (fun _=>by first|rfl|kernel_rfl))<|Y1 14 ?_;refine Yh rfl trivial rfl (Vw [vi (xI (xI E.m (pw j)) y.m),vi (xI E.t y.t)] Xj G) ?_;rintro _ fG ⟨D,hb⟩;have e:=G;have d:=d.only D (by omega);have o:=o.only D (Blk.ne o e rfl);have b:=b.only D (Blk.ne b e rfl);have A:=A.onlyT D e rfl;have H:=H.onlyA D M;have B:=Below.only B D aY;have G:=hb;refine Yd fun a I=>?_;refine bN _ _<|Zr I<|Ze (Vd rfl Xx 5)<|Ze (X0 rfl X08 (b.at 5))<|Ze (Vn Xs G)<|Zf (Xb (k:=1) (vs:=[.agg #[vi (xI (xI E.m (pw j)) y.m),vi (xI E.t y.t)]]) (zs:=[vi (xI (xI E.m (pw j)) y.m),vi (xI E.t y.t)]) rfl Xr X1l rfl rfl) ?_;rintro _ fH ⟨b48,rfl,aZ,C,b0⟩
   have dL:b5≠b48:=by have:=d.lt;omega
   have cH:b44≠b48:=by have:=G.lt;omega
   have eF:=Nat.le_trans B.size aZ;have dM:=(aJ.below' B).away aZ;have aQ:=H.away aZ;have d:=d.below C;have o:=o.below C;have b:=b.below C;have G:=G.below C;have A:=A.below C;have H:=H.below C;have B:=btr B C;refine Zf (X1e (enc:=encA) (l:=(l2)) (l2:=([(⟨(xI (xI E.m (pw j)) y.m),(xI E.t y.t)⟩ : Af)])) (B0:=w0.heap.size) rfl rfl Xr X1l Xv X3o H (Rd.of_blk b0 rfl _ b0.lt) (by simp only [maxLen];rw [aO];simp;omega) (by rw [aO];simp;omega) B.size) ?_;rintro _ fI ⟨bY,bZ,rfl,b1,hg,aI⟩
   have L:Own _ w0.heap.size 34 2 encA _ _ (l2):=H
   have b2:=aI _ d.lt aC;have cJ:=aI _ G.lt M;have cK:=aI _ b0.lt aQ;clear aI;have d:=d.appA hg aC;have o:=o.appT L hg rfl;have b:=b.appT L hg rfl;have A:=A.appT L hg rfl;have B:=Below.app B L hg (Nat.le_refl _) B.size;clear L hg;refine Ze (Vd rfl Xx 5)<|Zo (Vu (vs:=[.slice bY (l2++([(⟨(xI (xI E.m (pw j)) y.m),(xI E.t y.t)⟩ : Af)])).length bZ]) (l':=[vi p.ins,vi p.vars,vi p.root,vi (g 0),.slice aA (tms g).length aB,.slice bY (l2++([(⟨(xI (xI E.m (pw j)) y.m),(xI E.t y.t)⟩ : Af)])).length bZ]) rfl rfl X2s b) ?_;rintro _ fJ ⟨D,hb⟩;have e:=b;have d:=d.only D (Blk.ne d e rfl);have o:=o.only D (by omega);have A:=A.onlyT D e rfl;have b1:=b1.onlyT D e rfl;have B:=Below.only B D J;have b:=hb;refine Zn fun a I=>?_;refine Xa<|bL _ _<|Zr I<|Ze (Xu rfl rfl (by omega) (by omega))<|Zm rfl ?_;refine Zn fun a I=>?_;refine Xd ?_;exact ⟨(q+1,l2++([(⟨(xI (xI E.m (pw j)) y.m),(xI E.t y.t)⟩ : Af)])),⟨bY,bZ,I.sb,(by omega),(by rw [aO,X4e (sA j y) aG];first|rw [X60 W]|(rw [X60 W];rfl)|rw [Xlc W]|(rw [Xlc W];rfl)),d,o,b,A,b1,b2,B⟩,(by first|omega|(dsimp only;omega))⟩
  have bX:=aM
  have W:bitQ j E.m=false:=Xht aM
  have eE:=aH _ (List.mem_of_getElem? aG);refine wp_skip<|bN _ _<|Zr I<|Ze (Vd rfl Xx 5)<|Ze (X0 rfl X08 (b.at 5))<|Ze (Vn Xs G)<|Zf (Xb (k:=1) (vs:=[.agg #[vi E.m,vi E.t]]) (zs:=[vi E.m,vi E.t]) rfl Xr X1l rfl rfl) ?_;rintro _ fK ⟨b51,rfl,b3,C,b6⟩
  have dN:b5≠b51:=by have:=d.lt;omega
  have cL:b44≠b51:=by have:=G.lt;omega
  have eG:=Nat.le_trans B.size b3;have dO:=(aJ.below' B).away b3;have aR:=H.away b3;have d:=d.below C;have o:=o.below C;have b:=b.below C;have G:=G.below C;have A:=A.below C;have H:=H.below C;have B:=btr B C;refine Zf (X1e (enc:=encA) (l:=(l2)) (l2:=([E])) (B0:=w0.heap.size) rfl rfl Xr X1l Xv X3o H (Rd.of_blk b6 rfl _ b6.lt) (by simp only [maxLen];rw [aO];simp;omega) (by rw [aO];simp;omega) B.size) ?_;rintro _ fL ⟨c4,cA,rfl,b7,hg,aI⟩
  have L:Own _ w0.heap.size 34 2 encA _ _ (l2):=H
  have bC:=aI _ d.lt aC;have cM:=aI _ G.lt M;have cN:=aI _ b6.lt aR;clear aI;have d:=d.appA hg aC;have o:=o.appT L hg rfl;have b:=b.appT L hg rfl;have A:=A.appT L hg rfl;have B:=Below.app B L hg (Nat.le_refl _) B.size;clear L hg;refine Ze (Vd rfl Xx 5)<|Zo (Vu (vs:=[.slice c4 (l2++([E])).length cA]) (l':=[vi p.ins,vi p.vars,vi p.root,vi (g 0),.slice aA (tms g).length aB,.slice c4 (l2++([E])).length cA]) rfl rfl X2s b) ?_;rintro _ fM ⟨D,hb⟩;have e:=b;have d:=d.only D (Blk.ne d e rfl);have o:=o.only D (by omega);have A:=A.onlyT D e rfl;have b7:=b7.onlyT D e rfl;have B:=Below.only B D J;have b:=hb;refine Zn fun a I=>?_;refine Xa<|bL _ _<|Zr I<|Ze (Xu rfl rfl (by omega) (by omega))<|Zm rfl ?_;refine Zn fun a I=>?_;refine Xd ?_;exact ⟨(q+1,l2++([E])),⟨c4,cA,I.sb,(by omega),(by rw [aO,X4e (sA j y) aG];first|rw [X60 W]|(rw [X60 W];rfl)|rw [Xlc W]|(rw [Xlc W];rfl)),d,o,b,A,b7,bC,B⟩,(by first|omega|(dsimp only;omega))⟩
 have bU:=aF;have aF:=of_decide_eq_false aF
 have eH:q=p.out.length:=by have:=aF;omega
 have eI:g=foldA (p.ts.flatMap (sL j y)) (cPh p.phase):=by rw [hg,eD,List.take_length]
 have cC:l2=p.out.map (sA j y):=by rw [aO,eH,List.take_length]
 have dP:∀ a ∈ l2,Mk a.m:=fun a9 h9=>by rw [cC] at h9;obtain ⟨b9,h8,rfl⟩:=List.mem_map.1 h9;exact (Xzj hj hy (aH b9 h8)).1
 have dQ:l2.length≤100000000:=by rw [cC];simp;omega
 have eL:=X88 g;refine wp_exit<|Xi<|Xi<|X03 ?_;refine dD _ _<|Zs I fun _ dR=>?_;refine Ze (Vn Xh b)<|Zm rfl<|Zf (Vc (Xz0 _ (⟨p.ins,p.vars,p.root,g 0,(tms g),l2⟩ : Ps) aA aB A.rd.top aW bF H.rd.top j (Xmz hp).mks dP hj dX (by show (tms g).length≤100000000;omega) dQ) Xpy) ?_;rintro _ fN ⟨cD,cE,cF,cG,rfl,bD,bE,C⟩;have o:=o.below C;have B:=btr B C;refine Zo (Vw [vi ((woP (⟨p.ins,p.vars,p.root,g 0,(tms g),l2⟩ : Ps) j).ins),vi ((woP (⟨p.ins,p.vars,p.root,g 0,(tms g),l2⟩ : Ps) j).vars),vi ((woP (⟨p.ins,p.vars,p.root,g 0,(tms g),l2⟩ : Ps) j).root),vi ((woP (⟨p.ins,p.vars,p.root,g 0,(tms g),l2⟩ : Ps) j).phase),.slice cD ((woP (⟨p.ins,p.vars,p.root,g 0,(tms g),l2⟩ : Ps) j).ts).length cE,.slice cF ((woP (⟨p.ins,p.vars,p.root,g 0,(tms g),l2⟩ : Ps) j).out).length cG] X04 o) ?_;rintro _ fO ⟨D,hb⟩;have e:=o;have bD:=bD.onlyT D e rfl;have bE:=bE.onlyT D e rfl;have B:=Below.only B D cP;have o:=hb;refine Zt dR fun a I=>?_
 refine wp_ret (X3 I (Xz I rfl (ResV.cellN (l:=[vi ((woP (⟨p.ins,p.vars,p.root,g 0,(tms g),l2⟩ : Ps) j).ins),vi ((woP (⟨p.ins,p.vars,p.root,g 0,(tms g),l2⟩ : Ps) j).vars),vi ((woP (⟨p.ins,p.vars,p.root,g 0,(tms g),l2⟩ : Ps) j).root),vi ((woP (⟨p.ins,p.vars,p.root,g 0,(tms g),l2⟩ : Ps) j).phase),.slice cD ((woP (⟨p.ins,p.vars,p.root,g 0,(tms g),l2⟩ : Ps) j).ts).length cE,.slice cF ((woP (⟨p.ins,p.vars,p.root,g 0,(tms g),l2⟩ : Ps) j).out).length cG]) rfl Xh (o.at 0) rfl)) ?_)
 rw [Xx9,← eI,← cC]
 exact ⟨cD,cE,cF,cG,rfl,bD.top,bE.top,B⟩
theorem Xz2(w0:World)(p:Ps)(Ap:Option Addr)(cp:Nat)(aP:Rd w0 w0.heap.size 76 encT Ap p.ts)(Bp:Option Addr)(dp:Nat)(aQ:Rd w0 w0.heap.size 34 encA Bp p.out)(j:Nat)(hV:VPs p)(hj:j<24)(cO:p.ts.length≤100000000)(cP:p.out.length≤100000000) : Ret Tryz.prog 115 [.agg #[vi p.ins,vi p.vars,vi p.root,vi p.phase,.slice Ap p.ts.length cp,.slice Bp p.out.length dp],vi (j:Int)] w0 (fun v w=>v=.tuple #[vi ((ruR p j).1),vi ((ruR p j).2.1),vi ((ruR p j).2.2)]∧Below w0.heap.size w0 w):=by
 have hT:=hV.ts;have cM:=hV.ins;refine enter Tryz.func115 rfl 103 rfl rfl ?_;intro a b
 have h:=bz w0
 refine Zs b fun _ cD=>?_;refine Zf (X14 (zs:=[vi p.ins,vi p.vars,vi p.root,vi p.phase,.slice Ap p.ts.length cp,.slice Bp p.out.length dp]) rfl rfl) ?_;rintro _ w1 ⟨b4,rfl,cE,hE,g⟩;have cN:=Nat.le_trans h.size cE;have h:=btr h hE;refine Za rfl<|Za rfl<|Za rfl<|Zx cD fun a b _ cF=>?_;refine Za rfl<|Za rfl<|ZX cF fun a b _ cG=>?_;refine Zs b fun _ cH=>?_;refine Ze (Vd rfl Xx 5)<|Ze (X0 rfl X08 (g.at 5))<|Ze (X1f rfl Xr)<|Zm rfl<|Zt cH fun a b=>?_;refine wp_block<|X06 (σ:=Nat) (fun (q:Nat) (a:Act) (w:World)=>Fr a 103 [(1,vi (j:Int)),(2,.pointer (some ⟨b4,0,none⟩)),(7,vi 0),(8,vi 0),(15,.slice Bp p.out.length dp),(16,vi (p.out.length:Int)),(17,vi (q:Int))]∧(q≤p.out.length)∧((p.out.take q).all (fun a=>!bitQ j a.m)=true)∧Blk w b4 30 [vi p.ins,vi p.vars,vi p.root,vi p.phase,.slice Ap p.ts.length cp,.slice Bp p.out.length dp]∧Below w0.heap.size w0 w) (fun (q:Nat)=>p.out.length-q) 0 ?_ ?_
 ·exact ⟨b.sb,(Nat.zero_le _),(by simp),g,h⟩
 rintro q a w2 ⟨b,hq,aI,g,h⟩;refine Zs b fun _ cJ=>?_;refine Ze (X1n rfl rfl)<|ZX cJ fun a b _ cK=>?_
 refine Xg b rfl (fun G=>?_) (fun G=>?_)
 ·have d:=G;have G:=of_decide_eq_true G
  obtain ⟨aE,aF⟩:=Xm (l:=p.out) (k:=q) (by omega)
  refine wp_skip<|cK _ _<|wp_seq_k fun _ b5=>?_;refine wp_block<|Zs b fun _ b6=>?_;refine Zi (k:=q) (u:=aE) (enc:=encA) (l:=p.out) trivial rfl rfl Xr Xj Xv (aQ.below' h) aF rfl ?_;intro cQ aU;refine Ze (X0b (l:=[vi aE.m,vi aE.t]) rfl Xs aU rfl)<|Zf (X6 (zs:=[vi 0,vi 0]) X18 rfl) ?_;rintro _ w3 ⟨cR,rfl,aR,hE,aG⟩;have aW:=Nat.le_trans h.size aR;have b7:=(aQ.below' h).away aR;have g:=g.below hE;have h:=btr h hE;refine Zo (Vw [vi aE.m,vi aE.t] Xj aG) ?_;rintro _ w4 ⟨ho,hb⟩;have aJ:=aG;have g:=g.only ho (Blk.ne g aJ rfl);have h:=Below.only h ho aW;have aG:=hb;refine Zx b6 fun a b _ b8=>?_;refine Ze (Vd rfl X0a 0)<|Ze (X0 rfl X2 (aG.at 0))<|Zm rfl<|Ze (X2u (m:=j) Tryz.underlying3 Tryz.underlying67 rfl rfl (by omega))<|Ze (X6v (m:=j) rfl rfl rfl (by omega)) ?_;refine Ze (Vx (X69 rfl rfl) (X4b (hV.out _ (List.mem_of_getElem? aF)).1.1 j))<|Ze (X0l rfl rfl)<|Zt b8 fun a b=>?_
  refine Xg b rfl (fun N=>?_) (fun N=>?_)
  ·have aX:=N
   have L:bitQ j aE.m=true:=Xrj N
   refine Zs b fun _ b9=>?_;refine Za rfl<|Za rfl<|Za rfl<|Zt b9 fun a b=>?_;refine wp_ret<|Xw<|X7<|X7 ?_;refine Xw<|X7<|X3 b (X63 b rfl rfl rfl rfl) ?_
   rw [Xsk (Xm0 aF L)];exact ⟨rfl,h⟩
  have aX:=N
  have L:bitQ j aE.m=false:=Xht N
  refine wp_skip<|Xa<|b5 _ _<|Zr b ?_;refine Ze (Xu rfl rfl (by omega) (by omega))<|Zm rfl ?_;refine Zn fun a b=>?_;refine Xd ?_;exact ⟨q+1,⟨b.sb,(by omega),(X4l aI aF (by rw [L];rfl)),g,h⟩,(by omega)⟩
 have d:=G;have G:=of_decide_eq_false G
 have aK:outB j p.out=false:=Xs7 (X3s aI (by have:=G;omega))
 refine wp_exit<|Xi<|Xi<|X03 ?_;refine cG _ _<|wp_seq_k fun _ bC=>?_;refine Zs b fun _ bD=>?_;refine Ze (Vd rfl X0o 4)<|Ze (X0 rfl X0y (g.at 4))<|Ze (X1f rfl X05)<|Zm rfl<|Zt bD fun a b=>?_;refine wp_block<|X06 (σ:=Nat×Ar) (fun (s:Nat×Ar) (a:Act) (w:World)=>match s with|(i,s)=>Fr a 103 [(1,vi (j:Int)),(2,.pointer (some ⟨b4,0,none⟩)),(7,vi s.c),(8,vi s.z),(30,.slice Ap p.ts.length cp),(31,vi (p.ts.length:Int)),(32,vi (i:Int))]∧(i≤p.ts.length)∧(s=arF j (p.ts.take i))∧(s.pl=true)∧Blk w b4 30 [vi p.ins,vi p.vars,vi p.root,vi p.phase,.slice Ap p.ts.length cp,.slice Bp p.out.length dp]∧Below w0.heap.size w0 w) (fun (s:Nat×Ar)=>match s with|(i,s)=>p.ts.length-i) (0,ar0) ?_ ?_
 ·exact ⟨b.sb,(Nat.zero_le _),rfl,rfl,g,h⟩
 rintro ⟨i,s⟩ a w5 ⟨b,hi,hs,M,g,h⟩;refine Zs b fun _ bE=>?_;refine Ze (X1n rfl rfl)<|ZX bE fun a b _ bF=>?_
 refine Xg b rfl (fun H=>?_) (fun H=>?_)
 ·have e:=H;have H:=of_decide_eq_true H
  obtain ⟨n,D⟩:=Xm (l:=p.ts) (k:=i) (by omega)
  refine wp_skip<|bF _ _<|wp_seq_k fun _ aL=>?_;refine wp_block<|Zs b fun _ bG=>?_;refine Zi (k:=i) (u:=n) (enc:=encT) (l:=p.ts) trivial rfl rfl X05 X1h X0m (aP.below' h) D rfl ?_;intro cS aY;refine Ze (X0b (l:=[vi n.m,vi n.c]) rfl X46 aY rfl)<|Zf (X6 (zs:=[vi 0,vi 0]) X7u rfl) ?_;rintro _ w6 ⟨cU,rfl,aS,hE,E⟩;have aZ:=Nat.le_trans h.size aS;have bH:=(aP.below' h).away aS;have g:=g.below hE;have h:=btr h hE;refine Zo (Vw [vi n.m,vi n.c] X1h E) ?_;rintro _ w7 ⟨ho,hb⟩;have aJ:=E;have g:=g.only ho (Blk.ne g aJ rfl);have h:=Below.only h ho aZ;have E:=hb;refine ZX bG fun a b _ bJ=>?_;refine Zs b fun _ bK=>?_;refine Ze (Vd rfl X16 0)<|Ze (X0 rfl X2 (E.at 0))<|Zm rfl<|Ze (X2u (m:=j) Tryz.underlying3 Tryz.underlying67 rfl rfl (by omega))<|Ze (X6v (m:=j) rfl rfl rfl (by omega)) ?_;refine Ze (Vx (X69 rfl rfl) (X4b (hT.mks _ (List.mem_of_getElem? D)) j))<|Ze (X0l rfl rfl)<|Zt bK fun a b=>?_
  refine Xg b rfl (fun Q=>?_) (fun Q=>?_)
  ·have I:=Q
   have L:bitQ j n.m=false:=Y0d Q
   refine wp_exit<|Xi<|X03<|aL _ _ ?_;refine Zr b<|Ze (Xu rfl rfl (by omega) (by omega))<|Zm rfl ?_;refine Zn fun a b=>?_;refine Xd ?_;exact ⟨(i+1,s),⟨b.sb,(by omega),(Xav D hs (Xxy L)),M,g,h⟩,(by first|omega|(dsimp only;omega))⟩
  have I:=Q
  have L:bitQ j n.m=true:=Xtr Q
  refine wp_skip<|bJ _ _<|Zs b fun _ bL=>?_;refine Ze (Vd rfl X16 0)<|Ze (X0 rfl X2 (E.at 0))<|Zm rfl<|Ze (X2u (m:=j) Tryz.underlying3 Tryz.underlying67 rfl rfl (by omega))<|Ze (Vx (X2i (m:=j) rfl rfl rfl (by omega)) (X8z hj)) ?_;refine Ze (Vx (X6b rfl rfl) (rfl:_=(xI n.m (pw j))))<|Za rfl<|Zt bL fun a b=>?_;refine wp_block<|Zs b fun _ bN=>?_;refine Zm rfl<|Ze (X0l rfl rfl)<|Za rfl<|Zt bN fun a b=>?_
  refine Xg b rfl (fun U=>?_) (fun U=>?_)
  ·have J:=U
   have aM:szI (xI n.m (pw j))=0:=(X8h ((hT.mks _ (List.mem_of_getElem? D)).xor (X3m hj))).2 (by simpa using U)
   refine Zr b<|Ze (Vd rfl X24 1)<|Ze (X0 rfl X2 (E.at 1))<|Za rfl ?_;refine Zn fun a b=>?_;refine Xa<|Xa<|aL _ _<|Zr b ?_;refine Ze (Xu rfl rfl (by omega) (by omega))<|Zm rfl ?_;refine Zn fun a b=>?_;refine Xd ?_;exact ⟨(i+1,(⟨n.c,s.z,true,s.pl⟩ : Ar)),⟨b.sb,(by omega),(Xav D hs (Xyb L aM)),M,g,h⟩,(by first|omega|(dsimp only;omega))⟩
  have J:=U
  have aM:¬ szI (xI n.m (pw j))=0:=fun h9=>by have h8:=(X8h ((hT.mks _ (List.mem_of_getElem? D)).xor (X3m hj))).1 h9;have:=U;rw [h8] at this;cases this
  refine wp_seq_k fun _ bO=>?_;refine X0j (fun a w=>Fr a 103 [(1,vi (j:Int)),(2,.pointer (some ⟨b4,0,none⟩)),(7,vi s.c),(8,vi s.z),(13,vi (xI n.m (pw j))),(30,.slice Ap p.ts.length cp),(31,vi (p.ts.length:Int)),(32,vi (i:Int)),(54,.bool ((((szI (xI n.m (pw j)) : Nat) : Int)==1)&&(n.c==4)))]∧Below w7.heap.size w7 w) ?_ ?_
  ·have aN:Below w7.heap.size w7 w7:=Below.refl _ _
   refine Zr b<|Zm rfl<|Zf (Vc (X56 _ (xI n.m (pw j)) ((hT.mks _ (List.mem_of_getElem? D)).xor (X3m hj)).b62) X3x) ?_;rintro _ w8 ⟨cW,cX,rfl,aT,hE⟩;have aT:=aT.lower h.size;have E:=E.below hE;have h:=btr h hE;have aN:=btr aN hE;refine Ze (Vx (X1f rfl X0f) (Xb1 _))<|Ze (X0l rfl rfl)<|Zm rfl ?_
   refine Zg 59 rfl (fun x=>?_) (fun x=>?_)
   ·refine Zv (gW x) (Vd rfl X24 1) ?_;refine Zv (gW x) (X0 rfl X2 (E.at 1)) ?_;refine Zv (gW x) (X0l rfl rfl) ?_;refine Ze (X5 rfl x rfl)<|Za rfl ?_;refine Zn fun a b=>?_
    have b0:Below w7.heap.size w7 w8:=aN
    exact ⟨b.sub ⟨rfl,rfl,rfl,rfl,rfl,rfl,rfl,rfl,X1 rfl (by first|rfl|(simp only [d,e,I,J,x,bs];done)|simp [d,e,I,J,x]),trivial⟩,b0⟩
   refine Zp (gP x) ?_;refine Zp (gP x) ?_;refine Zp (gP x) ?_;refine Ze (Xc rfl x rfl)<|Za rfl ?_;refine Zn fun a b=>?_
   have b0:Below w7.heap.size w7 w8:=aN
   exact ⟨b.sub ⟨rfl,rfl,rfl,rfl,rfl,rfl,rfl,rfl,X1 rfl (by first|rfl|(simp only [d,e,I,J,x,bs];done)|simp [d,e,I,J,x]),trivial⟩,b0⟩
  rintro a w9 ⟨b,hE⟩;have g:=g.below hE;have h:=btr h hE;refine bO _ _ ?_
  refine Xg b rfl (fun W=>?_) (fun W=>?_)
  ·have b1:=W
   have bP:szI (xI n.m (pw j))=1∧(n.c==4)=true:=by have:=W;simp at this ⊢;omega
   refine Zr b<|Zm rfl<|Zm rfl<|Ze (Vx (Vor rfl rfl) (rfl:_=(oI s.z (xI n.m (pw j)))))<|Za rfl ?_;refine Zn fun a b=>?_;refine Xa<|Xa<|aL _ _<|Zr b ?_;refine Ze (Xu rfl rfl (by omega) (by omega))<|Zm rfl ?_;refine Zn fun a b=>?_;refine Xd ?_;exact ⟨(i+1,(⟨s.c,(oI s.z (xI n.m (pw j))),true,s.pl&&n.c==4⟩ : Ar)),⟨b.sb,(by omega),(Xav D hs (Xu3 L aM bP.1)),(by show (s.pl&&n.c==4)=true;rw [M,bP.2];rfl),g,h⟩,(by first|omega|(dsimp only;omega))⟩
  have b1:=W
  have bR:(arStep j s n).pl=false:=by
   by_cases h1:szI (xI n.m (pw j))=1
   ·rw [Xu3 L aM h1];have:=W;simp [h1] at this ⊢;exact fun _=>this
   ·rw [Xzi L aM h1]
  have b2:(arF j p.ts).pl=false:=Xxm (i:=i+1) (by rw [← Xav D hs rfl];exact bR)
  refine Zs b fun _ bS=>?_;refine Za rfl<|Za rfl<|Za rfl<|Zt bS fun a b=>?_;refine wp_ret<|Xw<|Xw<|X7 ?_;refine X7<|Xw<|X7<|X3 b (X63 b rfl rfl rfl rfl) ?_
  rw [Xul aK b2];exact ⟨rfl,h⟩
 have e:=H;have H:=of_decide_eq_false H
 have cL:i=p.ts.length:=by have:=H;omega
 rw [cL,List.take_length] at hs
 refine wp_exit<|Xi<|Xi<|X03 ?_;refine bC _ _<|wp_seq_k fun _ bU=>?_;refine wp_block<|wp_seq_k fun _ bW=>?_;refine X0j (fun a w=>Fr a 103 [(2,.pointer (some ⟨b4,0,none⟩)),(7,vi s.c),(8,vi s.z),(68,.bool ((s.c==0)&&(s.z==0)))]∧w5=w) ?_ ?_
 ·refine Zr b<|Zm rfl<|Ze (X0l rfl rfl)<|Zm rfl ?_
  refine Zg 71 rfl (fun A=>?_) (fun A=>?_)
  ·refine Zv (gW A) (X4 rfl) ?_;refine Zv (gW A) (X0l rfl rfl) ?_;refine Ze (X5 rfl A rfl)<|Za rfl ?_;refine Zn fun a b=>?_;exact ⟨b.sub ⟨rfl,rfl,rfl,X1 rfl (by first|rfl|(simp only [d,e,A,bs];done)|simp [d,e,A]),trivial⟩,rfl⟩
  refine Zp (gP A) ?_;refine Zp (gP A) ?_;refine Ze (Xc rfl A rfl)<|Za rfl ?_;refine Zn fun a b=>?_;exact ⟨b.sub ⟨rfl,rfl,rfl,X1 rfl (by first|rfl|(simp only [d,e,A,bs];done)|simp [d,e,A]),trivial⟩,rfl⟩
 rintro a _ ⟨b,rfl⟩;refine bW _ _ ?_
 refine Xg b rfl (fun aA=>?_) (fun aA=>?_)
 ·have o:=aA
  have aB:s.c=0∧s.z=0:=by have:=aA;simpa using this
  refine Zs b fun _ bX=>?_;refine Zm rfl<|Zm rfl<|Za rfl<|Za rfl<|Za rfl ?_;refine Zt bX fun a b=>?_;refine wp_ret<|Xw<|X7<|X3 b (X63 b rfl rfl rfl rfl) ?_
  rw [Xna aK hs (by rw [Xu9 M aB];decide),Xu9 M aB];exact ⟨rfl,h⟩
 have o:=aA
 have aB:¬ (s.c=0∧s.z=0):=by have:=aA;simpa using this
 refine wp_seq_k fun _ bY=>?_;refine X0j (fun a w=>Fr a 103 [(2,.pointer (some ⟨b4,0,none⟩)),(7,vi s.c),(8,vi s.z),(77,.bool ((s.c==2)||(s.c==6)))]∧w5=w) ?_ ?_
 ·refine Zr b<|Zm rfl<|Ze (X0l rfl rfl)<|Zm rfl ?_
  refine Zg 80 rfl (fun B=>?_) (fun B=>?_)
  ·refine Zp (gP B) ?_;refine Zp (gP B) ?_;refine Ze (X5 rfl B rfl)<|Za rfl ?_;refine Zn fun a b=>?_;exact ⟨b.sub ⟨rfl,rfl,rfl,X1 rfl (by first|rfl|(simp only [d,e,o,B,bs];done)|simp [d,e,o,B]),trivial⟩,rfl⟩
  refine Zv (gW B) (X4 rfl) ?_;refine Zv (gW B) (X0l rfl rfl) ?_;refine Ze (Xc rfl B rfl)<|Za rfl ?_;refine Zn fun a b=>?_;exact ⟨b.sub ⟨rfl,rfl,rfl,X1 rfl (by first|rfl|(simp only [d,e,o,B,bs];done)|simp [d,e,o,B]),trivial⟩,rfl⟩
 rintro a _ ⟨b,rfl⟩;refine bY _ _ ?_
 refine Xg b rfl (fun aC=>?_) (fun aC=>?_)
 ·have C:=aC
  have aH:s.c=2∨s.c=6:=by have:=aC;simpa using this
  refine Zs b fun _ bZ=>?_;refine Zm rfl<|Zm rfl<|Za rfl<|Za rfl<|Za rfl ?_;refine Zt bZ fun a b=>?_;refine wp_ret<|Xw<|X7<|X3 b (X63 b rfl rfl rfl rfl) ?_
  rw [Xna aK hs (by rw [Xub M aB aH];decide),Xub M aB aH];exact ⟨rfl,h⟩
 have C:=aC
 have aH:¬ (s.c=2∨s.c=6):=by have:=aC;simpa using this
 refine wp_seq_k fun _ c4=>?_;refine X0j (fun a w=>Fr a 103 [(7,vi s.c),(8,vi s.z),(86,.bool (((s.c==0)||(s.c==4))&&(decide (0<(s.z/2^p.ins.toNat)))))]∧w5=w) ?_ ?_
 ·refine Zr b<|Zm rfl<|Ze (X0l rfl rfl)<|Zm rfl ?_
  refine Zg 89 rfl (fun y=>?_) (fun y=>?_)
  ·refine Zp (gP y) ?_;refine Zp (gP y) ?_;refine Ze (X5 rfl y rfl)<|Zm rfl<|Zv (gW rfl) (X4 rfl) ?_;refine Zv (gW rfl) (Vd rfl X09 0) ?_;refine Zv (gW rfl) (X0 rfl X2 (g.at 0)) ?_;refine Zv (gW rfl) (X2u (m:=p.ins.toNat) Tryz.underlying3 Tryz.underlying67 rfl (by omega) (by omega)) ?_;refine Zv (gW rfl) (X6v (m:=p.ins.toNat) rfl rfl rfl (by omega)) ?_;refine Zv (gW rfl) (X42 rfl rfl) ?_;refine Ze (X5 rfl rfl rfl)<|Za rfl ?_;refine Zn fun a b=>?_;exact ⟨b.sub ⟨rfl,rfl,X1 rfl (by first|rfl|(simp only [d,e,o,C,y,bs];done)|simp [d,e,o,C,y]),trivial⟩,rfl⟩
  refine Zv (gW y) (X4 rfl) ?_;refine Zv (gW y) (X0l rfl rfl) ?_;refine Ze (Xc rfl y rfl)<|Zm rfl ?_
  refine Zg 93 rfl (fun f=>?_) (fun f=>?_)
  ·refine Zv (gW f) (X4 rfl) ?_;refine Zv (gW f) (Vd rfl X09 0) ?_;refine Zv (gW f) (X0 rfl X2 (g.at 0)) ?_;refine Zv (gW f) (X2u (m:=p.ins.toNat) Tryz.underlying3 Tryz.underlying67 rfl (by omega) (by omega)) ?_;refine Zv (gW f) (X6v (m:=p.ins.toNat) rfl rfl rfl (by omega)) ?_;refine Zv (gW f) (X42 rfl rfl) ?_;refine Ze (X5 rfl f rfl)<|Za rfl ?_;refine Zn fun a b=>?_;exact ⟨b.sub ⟨rfl,rfl,X1 rfl (by first|rfl|(simp only [d,e,o,C,y,f,bs];done)|simp [d,e,o,C,y,f]),trivial⟩,rfl⟩
  refine Zp (gP f) ?_;refine Zp (gP f) ?_;refine Zp (gP f) ?_;refine Zp (gP f) ?_;refine Zp (gP f) ?_;refine Zp (gP f) ?_;refine Ze (Xc rfl f rfl)<|Za rfl ?_;refine Zn fun a b=>?_;exact ⟨b.sub ⟨rfl,rfl,X1 rfl (by first|rfl|(simp only [d,e,o,C,y,f,bs];done)|simp [d,e,o,C,y,f]),trivial⟩,rfl⟩
 rintro a _ ⟨b,rfl⟩;refine c4 _ _ ?_
 refine Xg b rfl (fun aD=>?_) (fun aD=>?_)
 ·have b3:=aD
  have aO:(s.c=0∨s.c=4)∧0<s.z/2^p.ins.toNat:=by have:=aD;simpa using this
  refine Zs b fun _ cA=>?_;refine Zm rfl<|Zm rfl<|Za rfl<|Za rfl<|Za rfl ?_;refine Zt cA fun a b=>?_;refine wp_ret<|Xw<|X7<|X3 b (X63 b rfl rfl rfl rfl) ?_
  rw [Xna aK hs (by rw [Xtc M aB aH aO];decide),Xtc M aB aH aO];exact ⟨rfl,h⟩
 have b3:=aD
 have aO:¬ ((s.c=0∨s.c=4)∧0<s.z/2^p.ins.toNat):=by have:=aD;simpa using this
 refine wp_skip<|Xa<|bU _ _<|Zs b fun _ cC=>?_;refine Za rfl<|Za rfl<|Za rfl<|Zt cC fun a b=>?_
 refine wp_ret (X3 b (X63 b rfl rfl rfl rfl) ?_)
 rw [Y05 aK hs (Xyy M aB aH aO)];exact ⟨rfl,h⟩
theorem Y0n(w0:World)(p:Ps)(Ap:Option Addr)(cp:Nat)(aZ:Rd w0 w0.heap.size 76 encT Ap p.ts)(Bp:Option Addr)(dp:Nat)(b0:Rd w0 w0.heap.size 34 encA Bp p.out)(hV:VPs p)(eH:-100≤p.root∧p.root≤100)(b2:p.ts.length≤100000000)(b3:p.out.length≤100000000) : Ret Tryz.prog 86 [.agg #[vi p.ins,vi p.vars,vi p.root,vi p.phase,.slice Ap p.ts.length cp,.slice Bp p.out.length dp]] w0 (fun v w=>∃ A9 c9 B9 d9,v=.tuple #[psV A9 c9 B9 d9 (((stepP p).getD (psZ,0)).1),vi (((stepP p).getD (psZ,0)).2),.bool ((stepP p).isSome)]∧Rd w w.heap.size 76 encT A9 (((stepP p).getD (psZ,0)).1).ts∧Rd w w.heap.size 34 encA B9 (((stepP p).getD (psZ,0)).1).out∧Below w0.heap.size w0 w):=by
 have eE:=hV.ins;have eI:=hV.vars;refine enter Tryz.func86 rfl 110 rfl rfl ?_;intro a n
 have j:=bz w0
 refine Zs n fun _ dF=>?_;refine Zf (X14 (zs:=[vi p.ins,vi p.vars,vi p.root,vi p.phase,.slice Ap p.ts.length cp,.slice Bp p.out.length dp]) rfl rfl) ?_;rintro _ w1 ⟨b4,rfl,bP,q,x⟩;have eF:=Nat.le_trans j.size bP;have j:=btr j q;refine Zf (X6 (zs:=[vi 0,vi 0,vi 0,vi 0,.slice none 0 0,.slice none 0 0]) X1o rfl) ?_;rintro _ w2 ⟨b7,rfl,dG,q,e⟩
 have dE:b4≠b7:=by have:=x.lt;omega
 have M:=Nat.le_trans j.size dG;have x:=x.below q;have j:=btr j q;refine Za rfl<|Za rfl<|ZX dF fun a n _ dH=>?_;refine Zs n fun _ dI=>?_;refine Ze (Vd rfl X09 0)<|Ze (Vx (X0 rfl X2 (x.at 0)) (show _=((p.ins.toNat+0:Nat) : Int) from (by omega)))<|Za rfl<|Zt dI fun a n=>?_;refine wp_block<|X06 (σ:=Nat) (fun (k:Nat) (a:Act) (w:World)=>Fr a 110 [(1,.pointer (some ⟨b4,0,none⟩)),(2,.pointer (some ⟨b7,0,none⟩)),(5,vi ((p.ins.toNat+k:Nat) : Int))]∧(k≤p.vars.toNat)∧(∀ i,i<k→(ruR p (p.ins.toNat+i)).1=0)∧Blk w b4 30 [vi p.ins,vi p.vars,vi p.root,vi p.phase,.slice Ap p.ts.length cp,.slice Bp p.out.length dp]∧Blk w b7 30 [vi 0,vi 0,vi 0,vi 0,.slice none 0 0,.slice none 0 0]∧Below w0.heap.size w0 w) (fun (k:Nat)=>p.vars.toNat-k) 0 ?_ ?_
 ·exact ⟨n.sb,(Nat.zero_le _),(fun i hi=>absurd hi (Nat.not_lt_zero i)),x,e,j⟩
 rintro k a w3 ⟨n,hk,b5,x,e,j⟩;refine wp_seq_k fun _ bR=>?_;refine Zs n fun _ bS=>?_;refine Zm rfl<|Ze (Vd rfl X09 0)<|Ze (X0 rfl X2 (x.at 0))<|Ze (Vd rfl X0n 1)<|Ze (X0 rfl X2 (x.at 1)) ?_;refine Ze (Xu rfl rfl (by omega) (by omega))<|Ze (X1n rfl rfl)<|Zt bS fun a n=>?_
 refine Xg n rfl (fun D=>?_) (fun D=>?_)
 ·have b6:=D;have D:=of_decide_eq_true D
  have dJ:k<p.vars.toNat:=by have:=D;omega
  refine wp_skip<|bR _ _<|wp_seq_k fun _ bU=>?_;refine wp_block<|Zs n fun _ bW=>?_;refine Ze (Vn Xh x)<|Zm rfl<|Zf (Vc (Xz2 _ p Ap cp (aZ.below' j).top Bp dp (b0.below' j).top (p.ins.toNat+k:Nat) hV (by omega) b2 b3) Xpz) ?_;rintro _ w4 ⟨rfl,q⟩;have x:=x.below q;have e:=e.below q;have j:=btr j q;refine Zm rfl<|Ze (X8 (vs:=[vi ((ruR p (p.ins.toNat+k:Nat)).1),vi ((ruR p (p.ins.toNat+k:Nat)).2.1),vi ((ruR p (p.ins.toNat+k:Nat)).2.2)]) rfl rfl)<|Ze (X8 (vs:=[vi ((ruR p (p.ins.toNat+k:Nat)).1),vi ((ruR p (p.ins.toNat+k:Nat)).2.1),vi ((ruR p (p.ins.toNat+k:Nat)).2.2)]) rfl rfl)<|Ze (X8 (vs:=[vi ((ruR p (p.ins.toNat+k:Nat)).1),vi ((ruR p (p.ins.toNat+k:Nat)).2.1),vi ((ruR p (p.ins.toNat+k:Nat)).2.2)]) rfl rfl)<|Za rfl ?_;refine Za rfl<|Za rfl<|ZX bW fun a n _ bX=>?_;refine Zs n fun _ bY=>?_;refine Zm rfl<|Ze (X0l rfl rfl)<|Zt bY fun a n=>?_
  refine Xg n rfl (fun N=>?_) (fun N=>?_)
  ·have b8:=N
   have aQ:(ruR p (p.ins.toNat+k)).1=0:=by have:=N;simpa using this
   refine wp_exit<|Xi<|X03<|bU _ _ ?_;refine Zr n<|Zm rfl<|Ze (X3p (k:=((p.ins.toNat+(k+1) : Nat) : Int)) rfl rfl (by omega) (by omega) (by omega))<|Za rfl ?_;refine Zn fun a n=>?_;refine Xd ?_;exact ⟨k+1,⟨n.sb,(by omega),(noN b5 aQ),x,e,j⟩,(by omega)⟩
  have b8:=N
  have aQ:(ruR p (p.ins.toNat+k)).1≠0:=by have:=N;simpa using this
  obtain ⟨b9,bZ,dK⟩:=Xwt aQ;obtain ⟨eJ,dL⟩:=Xle dK
  rw [bZ] at n
  have hY:p.ins.toNat≤(p.ins.toNat+k)∧(p.ins.toNat+k)<24:=⟨by omega,by omega⟩
  have bC:=Xyf hY.2 hV.ts;have dM:=bC.c;obtain ⟨c4,bD,dN,dO,dP⟩:=Y1y hV b9;obtain ⟨aF,aR,aG,cA⟩:=Xc1 c4 bD;have aS:=bC.z.dr (v:=(p.ins.toNat+k))
  have eK:(repP p (p.ins.toNat+k) afZ).root=p.root:=rfl
  have eL:(repP p (p.ins.toNat+k) afZ).vars=p.vars-1:=rfl
  have Q:=Xk3 dJ b5 aQ
  rw [bZ] at Q
  refine wp_skip<|bX _ _<|Zs n fun _ cC=>?_;refine Ze (Vn Xh x)<|Zm rfl<|Zf (Vc (Xyl _ p Ap cp (aZ.below' j).top Bp dp (b0.below' j).top (p.ins.toNat+k:Nat) hV.ph (fun t9 h9=>⟨hV.ts.mks t9 h9,(hV.ts.all t9 h9).2.2⟩) (fun a9 h9=>(hV.out a9 h9).1) hY.2 (by omega) b2 b3) Xpn) ?_;rintro _ w5 ⟨y,c19,B,C,rfl,o,f,aJ,q⟩;have x:=x.below q;have e:=e.below q;have j:=btr j q;refine Zf (X6 (zs:=[vi 0,vi 0,vi 0,vi 0,.slice none 0 0,.slice none 0 0]) X1o rfl) ?_;rintro _ w6 ⟨b23,rfl,cD,q,b⟩
  have cE:b4≠b23:=by have:=x.lt;omega
  have cF:b7≠b23:=by have:=e.lt;omega
  have A:=Nat.le_trans j.size cD;have x:=x.below q;have e:=e.below q;have o:=o.below q;have f:=f.below q;have j:=btr j q;refine Zo (Vw [vi ((repP p (p.ins.toNat+k:Nat) afZ).ins),vi ((repP p (p.ins.toNat+k:Nat) afZ).vars),vi ((repP p (p.ins.toNat+k:Nat) afZ).root),vi ((repP p (p.ins.toNat+k:Nat) afZ).phase),.slice y ((repP p (p.ins.toNat+k:Nat) afZ).ts).length c19,.slice B ((repP p (p.ins.toNat+k:Nat) afZ).out).length C] X04 b) ?_;rintro _ w7 ⟨t,E⟩;have d:=b;have x:=x.only t (by omega);have e:=e.only t (by omega);have o:=o.onlyT t d rfl;have f:=f.onlyT t d rfl;have j:=Below.only j t A;have b:=E;refine Zx cC fun a n _ cG=>?_;refine Zm rfl<|Zm rfl<|Zf (Vc (Xcy _ ((arF (p.ins.toNat+k) p.ts).z) (p.ins.toNat+k:Nat) bC.z hY.2) X79) ?_;rintro _ _ ⟨rfl,rfl⟩;refine Za rfl<|ZX cG fun a n _ aD=>?_;refine Zs n fun _ cH=>?_;refine Zm rfl<|Zt cH fun a n=>?_;refine wp_block<|Zs n fun _ cJ=>?_;refine Ze (X0l rfl rfl)<|Za rfl<|Zt cJ fun a n=>?_
  refine Xg n rfl (fun U=>?_) (fun U=>?_)
  ·have bE:=U
   have aT:ruK p.ins (arF (p.ins.toNat+k) p.ts)=1:=by have:=U;simpa using this
   refine Zr n<|Ze (Vd rfl X1k 2)<|Ze (X0 rfl X2 (b.at 2))<|Ze (X15 rfl rfl (by omega) (by omega))<|Ze (Vd rfl X1k 2)<|Zo (Vu (vs:=[vi (((repP p (p.ins.toNat+k:Nat) afZ).root)-2)]) (l':=[vi ((repP p (p.ins.toNat+k:Nat) afZ).ins),vi ((repP p (p.ins.toNat+k:Nat) afZ).vars),vi (((repP p (p.ins.toNat+k:Nat) afZ).root)-2),vi ((repP p (p.ins.toNat+k:Nat) afZ).phase),.slice y ((repP p (p.ins.toNat+k:Nat) afZ).ts).length c19,.slice B ((repP p (p.ins.toNat+k:Nat) afZ).out).length C]) rfl rfl X12 b) ?_;rintro _ w8 ⟨t,E⟩;have d:=b;have e:=e.only t (by omega);have o:=o.onlyT t d rfl;have f:=f.onlyT t d rfl;have j:=Below.only j t A;have b:=E;refine Zn fun a n=>?_;refine Xa<|aD _ _<|Zs n fun _ cK=>?_;refine Ze (Vn Xh b)<|Zm rfl<|Zo (Vw [vi ((repP p (p.ins.toNat+k:Nat) afZ).ins),vi ((repP p (p.ins.toNat+k:Nat) afZ).vars),vi (((repP p (p.ins.toNat+k:Nat) afZ).root)-2),vi ((repP p (p.ins.toNat+k:Nat) afZ).phase),.slice y ((repP p (p.ins.toNat+k:Nat) afZ).ts).length c19,.slice B ((repP p (p.ins.toNat+k:Nat) afZ).out).length C] X04 e) ?_;rintro _ w9 ⟨t,E⟩;have d:=e;have o:=o.onlyT t d rfl;have f:=f.onlyT t d rfl;have j:=Below.only j t M;have e:=E;refine Za rfl<|Za rfl<|Zt cK fun a n=>?_;refine wp_ret<|Xw<|X7<|X7 ?_;refine Xw<|X7<|X3 n (X63 n rfl (ResV.cellN (l:=[vi ((repP p (p.ins.toNat+k:Nat) afZ).ins),vi ((repP p (p.ins.toNat+k:Nat) afZ).vars),vi (((repP p (p.ins.toNat+k:Nat) afZ).root)-2),vi ((repP p (p.ins.toNat+k:Nat) afZ).phase),.slice y ((repP p (p.ins.toNat+k:Nat) afZ).ts).length c19,.slice B ((repP p (p.ins.toNat+k:Nat) afZ).out).length C]) rfl Xh (e.at 0) rfl) rfl rfl) ?_
   rw [Q,Xwp aT]
   exact ⟨y,c19,B,C,rfl,o.top,f.top,j⟩
  have bE:=U
  have aT:¬ ruK p.ins (arF (p.ins.toNat+k) p.ts)=1:=by have:=U;simpa using this
  refine Zs n fun _ cL=>?_;refine Ze (X0l rfl rfl)<|Za rfl<|Zt cL fun a n=>?_
  refine Xg n rfl (fun W=>?_) (fun W=>?_)
  ·have bF:=W
   have aK:ruK p.ins (arF (p.ins.toNat+k) p.ts)=2:=by have:=W;simpa using this
   refine Zs n fun _ cM=>?_;refine Ze (Vd rfl X1k 2)<|Ze (X0 rfl X2 (b.at 2))<|Ze (X15 rfl rfl (by omega) (by omega))<|Ze (Vd rfl X1k 2)<|Zo (Vu (vs:=[vi (((repP p (p.ins.toNat+k:Nat) afZ).root)-1)]) (l':=[vi ((repP p (p.ins.toNat+k:Nat) afZ).ins),vi ((repP p (p.ins.toNat+k:Nat) afZ).vars),vi (((repP p (p.ins.toNat+k:Nat) afZ).root)-1),vi ((repP p (p.ins.toNat+k:Nat) afZ).phase),.slice y ((repP p (p.ins.toNat+k:Nat) afZ).ts).length c19,.slice B ((repP p (p.ins.toNat+k:Nat) afZ).out).length C]) rfl rfl X12 b) ?_;rintro _ eM ⟨t,E⟩;have d:=b;have e:=e.only t (by omega);have o:=o.onlyT t d rfl;have f:=f.onlyT t d rfl;have j:=Below.only j t A;have b:=E;refine Zx cM fun a n _ cN=>?_;refine Ze (Vd rfl X1g 3)<|Ze (X0 rfl X2 (b.at 3))<|Ze (Vd rfl X0o 4)<|Ze (X0 rfl X0y (b.at 4))<|Ze (Xk (ps:=[(0,vi ((repP p (p.ins.toNat+k:Nat) afZ).phase)),(1,.slice y ((repP p (p.ins.toNat+k:Nat) afZ).ts).length c19)]) (cs:=[vi ((repP p (p.ins.toNat+k:Nat) afZ).phase),.slice y ((repP p (p.ins.toNat+k:Nat) afZ).ts).length c19]) rfl (fun _=>by first|rfl|kernel_rfl)) ?_;refine Zf (X14 (zs:=[vi ((repP p (p.ins.toNat+k:Nat) afZ).phase),.slice y ((repP p (p.ins.toNat+k:Nat) afZ).ts).length c19]) rfl rfl) ?_;rintro _ aH ⟨aI,rfl,cO,q,g⟩;have L:=Nat.le_trans j.size cO;have e:=e.below q;have b:=b.below q;have o:=o.below q;have f:=f.below q;have j:=btr j q;refine Za rfl<|ZX cN fun a n _ b1=>?_;refine Zs n fun _ cP=>?_;refine Zm rfl<|Ze (X0l rfl rfl)<|Zt cP fun a n=>?_
   refine Xg n rfl (fun aA=>?_) (fun aA=>?_)
   ·have bG:=aA
    have bH:(arF (p.ins.toNat+k) p.ts).c=2:=by simpa using aA
    replace g:Blk aH aI 105 [vi ((polF (repP p (p.ins.toNat+k) afZ)) 0),.slice y (tms (polF (repP p (p.ins.toNat+k) afZ))).length c19]:=by rw [aG,cA];exact g
    have bJ:Rd aH aH.heap.size 76 encT y (tms (polF (repP p (p.ins.toNat+k) afZ))):=by rw [aG];exact o.top
    have aL:(tms (polF (repP p (p.ins.toNat+k) afZ))).length≤c19:=by rw [aG];exact aJ
    refine Zs n fun _ cQ=>?_;refine Zm rfl<|Zf (Vc (X3k _ aI (polF (repP p (p.ins.toNat+k) afZ)) y c19 g bJ.top aL aF aR 0 1 Mk.zero (by omega)) X21) ?_;rintro _ eN ⟨rfl,hK,dQ,dR,G,cR,bK⟩;obtain ⟨wm,H,hm,q⟩:=hK.mid;clear hm;have d:=g;have e:=e.only H (Blk.ne e d rfl);have b:=b.only H (Blk.ne b d rfl);have f:=f.onlyT H d rfl;have j:=Below.only j H L;have e:=e.below q;have b:=b.below q;have f:=f.below q;have j:=btr j q
    clear d q H hK;have g:=G;clear G;refine Zt cQ fun a n=>?_;refine Zr n<|Zm rfl<|Zm rfl<|Ze (Xk (ps:=[(0,vi (drI (p.ins.toNat+k:Nat) ((arF (p.ins.toNat+k) p.ts).z)))]) (cs:=[vi (drI (p.ins.toNat+k:Nat) ((arF (p.ins.toNat+k) p.ts).z)),vi 0]) rfl (fun _=>by first|rfl|kernel_rfl))<|Zf (Vc (Xgk _ aI (padd (polF (repP p (p.ins.toNat+k) afZ)) 0 1) dQ dR g cR.top bK (aF.padd _ _) (aR.pad aF Mk.zero) 0 6 (⟨drI (p.ins.toNat+k:Nat) ((arF (p.ins.toNat+k) p.ts).z),0⟩ : Af) Mk.zero (by omega) ⟨aS,.inl rfl⟩) X83) ?_;rintro _ eO ⟨rfl,hK,aM,aN,G,I,dS⟩;obtain ⟨wm,H,hm,q⟩:=hK.mid;clear hm;have d:=g;have e:=e.only H (Blk.ne e d rfl);have b:=b.only H (Blk.ne b d rfl);have f:=f.onlyT H d rfl;have j:=Below.only j H L;have e:=e.below q;have b:=b.below q;have f:=f.below q;have j:=btr j q
    clear d q H hK;have g:=G;clear G;refine Zx b1 fun a n _ cS=>?_;refine Zm rfl<|Ze (X0v rfl)<|Ze (Vd rfl X3q 0)<|Ze (X0 rfl X2 (g.at 0))<|Ze (Vd rfl X1g 3) ?_;refine Zo (Vu (vs:=[vi ((expP (padd (polF (repP p (p.ins.toNat+k) afZ)) 0 1) 6 (⟨drI (p.ins.toNat+k:Nat) ((arF (p.ins.toNat+k) p.ts).z),0⟩ : Af) 0) 0)]) (l':=[vi ((repP p (p.ins.toNat+k:Nat) afZ).ins),vi ((repP p (p.ins.toNat+k:Nat) afZ).vars),vi (((repP p (p.ins.toNat+k:Nat) afZ).root)-1),vi ((expP (padd (polF (repP p (p.ins.toNat+k) afZ)) 0 1) 6 (⟨drI (p.ins.toNat+k:Nat) ((arF (p.ins.toNat+k) p.ts).z),0⟩ : Af) 0) 0),.slice y ((repP p (p.ins.toNat+k:Nat) afZ).ts).length c19,.slice B ((repP p (p.ins.toNat+k:Nat) afZ).out).length C]) rfl rfl X12 b) ?_;rintro _ eP ⟨t,E⟩;have d:=b;have e:=e.only t (by omega);have g:=g.only t (Blk.ne g d rfl);have f:=f.onlyT t d rfl;have I:=I.onlyT t d rfl;have j:=Below.only j t A;have b:=E;refine Zt cS fun a n=>?_;refine Zr n<|Zm rfl<|Ze (X0v rfl)<|Ze (Vd rfl X0z 1)<|Ze (X0 rfl X0y (g.at 1))<|Ze (Vd rfl X0o 4) ?_;refine Zo (Vu (vs:=[.slice aM (tms (expP (padd (polF (repP p (p.ins.toNat+k) afZ)) 0 1) 6 (⟨drI (p.ins.toNat+k:Nat) ((arF (p.ins.toNat+k) p.ts).z),0⟩ : Af) 0)).length aN]) (l':=[vi ((repP p (p.ins.toNat+k:Nat) afZ).ins),vi ((repP p (p.ins.toNat+k:Nat) afZ).vars),vi (((repP p (p.ins.toNat+k:Nat) afZ).root)-1),vi ((expP (padd (polF (repP p (p.ins.toNat+k) afZ)) 0 1) 6 (⟨drI (p.ins.toNat+k:Nat) ((arF (p.ins.toNat+k) p.ts).z),0⟩ : Af) 0) 0),.slice aM (tms (expP (padd (polF (repP p (p.ins.toNat+k) afZ)) 0 1) 6 (⟨drI (p.ins.toNat+k:Nat) ((arF (p.ins.toNat+k) p.ts).z),0⟩ : Af) 0)).length aN,.slice B ((repP p (p.ins.toNat+k:Nat) afZ).out).length C]) rfl rfl X29 b) ?_;rintro _ eQ ⟨t,E⟩
    have d:=b;have e:=e.only t (by omega);have f:=f.onlyT t d rfl;have I:=I.onlyT t d rfl;have j:=Below.only j t A;have b:=E;refine Zn fun a n=>?_;refine Xa<|aD _ _<|Zs n fun _ cU=>?_;refine Ze (Vn Xh b)<|Zm rfl<|Zo (Vw [vi ((repP p (p.ins.toNat+k:Nat) afZ).ins),vi ((repP p (p.ins.toNat+k:Nat) afZ).vars),vi (((repP p (p.ins.toNat+k:Nat) afZ).root)-1),vi ((expP (padd (polF (repP p (p.ins.toNat+k) afZ)) 0 1) 6 (⟨drI (p.ins.toNat+k:Nat) ((arF (p.ins.toNat+k) p.ts).z),0⟩ : Af) 0) 0),.slice aM (tms (expP (padd (polF (repP p (p.ins.toNat+k) afZ)) 0 1) 6 (⟨drI (p.ins.toNat+k:Nat) ((arF (p.ins.toNat+k) p.ts).z),0⟩ : Af) 0)).length aN,.slice B ((repP p (p.ins.toNat+k:Nat) afZ).out).length C] X04 e) ?_;rintro _ eR ⟨t,E⟩;have d:=e;have f:=f.onlyT t d rfl;have I:=I.onlyT t d rfl;have j:=Below.only j t M;have e:=E;refine Za rfl<|Za rfl<|Zt cU fun a n=>?_;refine wp_ret<|Xw<|X7<|X7 ?_;refine Xw<|X7<|X3 n (X63 n rfl (ResV.cellN (l:=[vi ((repP p (p.ins.toNat+k:Nat) afZ).ins),vi ((repP p (p.ins.toNat+k:Nat) afZ).vars),vi (((repP p (p.ins.toNat+k:Nat) afZ).root)-1),vi ((expP (padd (polF (repP p (p.ins.toNat+k) afZ)) 0 1) 6 (⟨drI (p.ins.toNat+k:Nat) ((arF (p.ins.toNat+k) p.ts).z),0⟩ : Af) 0) 0),.slice aM (tms (expP (padd (polF (repP p (p.ins.toNat+k) afZ)) 0 1) 6 (⟨drI (p.ins.toNat+k:Nat) ((arF (p.ins.toNat+k) p.ts).z),0⟩ : Af) 0)).length aN,.slice B ((repP p (p.ins.toNat+k:Nat) afZ).out).length C]) rfl Xh (e.at 0) rfl) rfl rfl) ?_
    rw [Q,Xry aK bH]
    exact ⟨aM,aN,B,C,rfl,I.top,f.top,j⟩
   have bG:=aA
   have bH:¬ (arF (p.ins.toNat+k) p.ts).c=2:=by simpa using aA
   replace g:Blk aH aI 105 [vi ((polF (repP p (p.ins.toNat+k) afZ)) 0),.slice y (tms (polF (repP p (p.ins.toNat+k) afZ))).length c19]:=by rw [aG,cA];exact g
   have bJ:Rd aH aH.heap.size 76 encT y (tms (polF (repP p (p.ins.toNat+k) afZ))):=by rw [aG];exact o.top
   have aL:(tms (polF (repP p (p.ins.toNat+k) afZ))).length≤c19:=by rw [aG];exact aJ
   refine Zs n fun _ cW=>?_;refine Zm rfl<|Zf (Vc (X3k _ aI (polF (repP p (p.ins.toNat+k) afZ)) y c19 g bJ.top aL aF aR 0 7 Mk.zero (by omega)) X21) ?_;rintro _ eS ⟨rfl,hK,dU,dW,G,cX,bL⟩;obtain ⟨wm,H,hm,q⟩:=hK.mid;clear hm;have d:=g;have e:=e.only H (Blk.ne e d rfl);have b:=b.only H (Blk.ne b d rfl);have f:=f.onlyT H d rfl;have j:=Below.only j H L;have e:=e.below q;have b:=b.below q;have f:=f.below q;have j:=btr j q
   clear d q H hK;have g:=G;clear G;refine Zt cW fun a n=>?_;refine Zr n<|Zm rfl<|Zm rfl<|Ze (Xk (ps:=[(0,vi (drI (p.ins.toNat+k:Nat) ((arF (p.ins.toNat+k) p.ts).z)))]) (cs:=[vi (drI (p.ins.toNat+k:Nat) ((arF (p.ins.toNat+k) p.ts).z)),vi 0]) rfl (fun _=>by first|rfl|kernel_rfl))<|Zf (Vc (Xgk _ aI (padd (polF (repP p (p.ins.toNat+k) afZ)) 0 7) dU dW g cX.top bL (aF.padd _ _) (aR.pad aF Mk.zero) 0 2 (⟨drI (p.ins.toNat+k:Nat) ((arF (p.ins.toNat+k) p.ts).z),0⟩ : Af) Mk.zero (by omega) ⟨aS,.inl rfl⟩) X83) ?_;rintro _ eT ⟨rfl,hK,aO,aP,G,J,dX⟩;obtain ⟨wm,H,hm,q⟩:=hK.mid;clear hm;have d:=g;have e:=e.only H (Blk.ne e d rfl);have b:=b.only H (Blk.ne b d rfl);have f:=f.onlyT H d rfl;have j:=Below.only j H L;have e:=e.below q;have b:=b.below q;have f:=f.below q;have j:=btr j q
   clear d q H hK;have g:=G;clear G;refine Zx b1 fun a n _ cY=>?_;refine Zm rfl<|Ze (X0v rfl)<|Ze (Vd rfl X3q 0)<|Ze (X0 rfl X2 (g.at 0))<|Ze (Vd rfl X1g 3) ?_;refine Zo (Vu (vs:=[vi ((expP (padd (polF (repP p (p.ins.toNat+k) afZ)) 0 7) 2 (⟨drI (p.ins.toNat+k:Nat) ((arF (p.ins.toNat+k) p.ts).z),0⟩ : Af) 0) 0)]) (l':=[vi ((repP p (p.ins.toNat+k:Nat) afZ).ins),vi ((repP p (p.ins.toNat+k:Nat) afZ).vars),vi (((repP p (p.ins.toNat+k:Nat) afZ).root)-1),vi ((expP (padd (polF (repP p (p.ins.toNat+k) afZ)) 0 7) 2 (⟨drI (p.ins.toNat+k:Nat) ((arF (p.ins.toNat+k) p.ts).z),0⟩ : Af) 0) 0),.slice y ((repP p (p.ins.toNat+k:Nat) afZ).ts).length c19,.slice B ((repP p (p.ins.toNat+k:Nat) afZ).out).length C]) rfl rfl X12 b) ?_;rintro _ eU ⟨t,E⟩;have d:=b;have e:=e.only t (by omega);have g:=g.only t (Blk.ne g d rfl);have f:=f.onlyT t d rfl;have J:=J.onlyT t d rfl;have j:=Below.only j t A;have b:=E;refine Zt cY fun a n=>?_;refine Zr n<|Zm rfl<|Ze (X0v rfl)<|Ze (Vd rfl X0z 1)<|Ze (X0 rfl X0y (g.at 1))<|Ze (Vd rfl X0o 4) ?_;refine Zo (Vu (vs:=[.slice aO (tms (expP (padd (polF (repP p (p.ins.toNat+k) afZ)) 0 7) 2 (⟨drI (p.ins.toNat+k:Nat) ((arF (p.ins.toNat+k) p.ts).z),0⟩ : Af) 0)).length aP]) (l':=[vi ((repP p (p.ins.toNat+k:Nat) afZ).ins),vi ((repP p (p.ins.toNat+k:Nat) afZ).vars),vi (((repP p (p.ins.toNat+k:Nat) afZ).root)-1),vi ((expP (padd (polF (repP p (p.ins.toNat+k) afZ)) 0 7) 2 (⟨drI (p.ins.toNat+k:Nat) ((arF (p.ins.toNat+k) p.ts).z),0⟩ : Af) 0) 0),.slice aO (tms (expP (padd (polF (repP p (p.ins.toNat+k) afZ)) 0 7) 2 (⟨drI (p.ins.toNat+k:Nat) ((arF (p.ins.toNat+k) p.ts).z),0⟩ : Af) 0)).length aP,.slice B ((repP p (p.ins.toNat+k:Nat) afZ).out).length C]) rfl rfl X29 b) ?_;rintro _ eW ⟨t,E⟩
   have d:=b;have e:=e.only t (by omega);have f:=f.onlyT t d rfl;have J:=J.onlyT t d rfl;have j:=Below.only j t A;have b:=E;refine Zn fun a n=>?_;refine Xa<|aD _ _<|Zs n fun _ d5=>?_;refine Ze (Vn Xh b)<|Zm rfl<|Zo (Vw [vi ((repP p (p.ins.toNat+k:Nat) afZ).ins),vi ((repP p (p.ins.toNat+k:Nat) afZ).vars),vi (((repP p (p.ins.toNat+k:Nat) afZ).root)-1),vi ((expP (padd (polF (repP p (p.ins.toNat+k) afZ)) 0 7) 2 (⟨drI (p.ins.toNat+k:Nat) ((arF (p.ins.toNat+k) p.ts).z),0⟩ : Af) 0) 0),.slice aO (tms (expP (padd (polF (repP p (p.ins.toNat+k) afZ)) 0 7) 2 (⟨drI (p.ins.toNat+k:Nat) ((arF (p.ins.toNat+k) p.ts).z),0⟩ : Af) 0)).length aP,.slice B ((repP p (p.ins.toNat+k:Nat) afZ).out).length C] X04 e) ?_;rintro _ eX ⟨t,E⟩;have d:=e;have f:=f.onlyT t d rfl;have J:=J.onlyT t d rfl;have j:=Below.only j t M;have e:=E;refine Za rfl<|Za rfl<|Zt d5 fun a n=>?_;refine wp_ret<|Xw<|X7<|X7 ?_;refine Xw<|X7<|X3 n (X63 n rfl (ResV.cellN (l:=[vi ((repP p (p.ins.toNat+k:Nat) afZ).ins),vi ((repP p (p.ins.toNat+k:Nat) afZ).vars),vi (((repP p (p.ins.toNat+k:Nat) afZ).root)-1),vi ((expP (padd (polF (repP p (p.ins.toNat+k) afZ)) 0 7) 2 (⟨drI (p.ins.toNat+k:Nat) ((arF (p.ins.toNat+k) p.ts).z),0⟩ : Af) 0) 0),.slice aO (tms (expP (padd (polF (repP p (p.ins.toNat+k) afZ)) 0 7) 2 (⟨drI (p.ins.toNat+k:Nat) ((arF (p.ins.toNat+k) p.ts).z),0⟩ : Af) 0)).length aP,.slice B ((repP p (p.ins.toNat+k:Nat) afZ).out).length C]) rfl Xh (e.at 0) rfl) rfl rfl) ?_
   rw [Q,Xqd aK bH]
   exact ⟨aO,aP,B,C,rfl,J.top,f.top,j⟩
  have bF:=W
  have aK:¬ ruK p.ins (arF (p.ins.toNat+k) p.ts)=2:=by have:=W;simpa using this
  have d6:((arF (p.ins.toNat+k) p.ts).c=0∨(arF (p.ins.toNat+k) p.ts).c=4)∧0<(arF (p.ins.toNat+k) p.ts).z/2^p.ins.toNat:=by
   rcases dL with h|h|h
   ·exact absurd h aT
   ·exact absurd h.1 aK
   ·exact h.2
  obtain ⟨eY,bN,eG,bP,f4⟩:=Xn4 hV hY b9 d6.2;have d7:=Xrz aS p.ins.toNat;have e8:=Xsd hV hY b9 d6.2;have eA:=Xq1 d7 e8;refine Zs n fun _ d8=>?_;refine Ze (Vd rfl X1k 2)<|Ze (X0 rfl X2 (b.at 2))<|Ze (X15 rfl rfl (by omega) (by omega))<|Ze (Vd rfl X1k 2)<|Zo (Vu (vs:=[vi (((repP p (p.ins.toNat+k:Nat) afZ).root)-2)]) (l':=[vi ((repP p (p.ins.toNat+k:Nat) afZ).ins),vi ((repP p (p.ins.toNat+k:Nat) afZ).vars),vi (((repP p (p.ins.toNat+k:Nat) afZ).root)-2),vi ((repP p (p.ins.toNat+k:Nat) afZ).phase),.slice y ((repP p (p.ins.toNat+k:Nat) afZ).ts).length c19,.slice B ((repP p (p.ins.toNat+k:Nat) afZ).out).length C]) rfl rfl X12 b) ?_;rintro _ f5 ⟨t,E⟩;have d:=b;have x:=x.only t (by omega);have e:=e.only t (by omega);have o:=o.onlyT t d rfl;have f:=f.onlyT t d rfl;have j:=Below.only j t A;have b:=E;refine ZX d8 fun a n _ dB=>?_;refine Xq none (fun _=>false) mixed ?_;intro f7 q;have x:=x.below q;have e:=e.below q;have b:=b.below q;have o:=o.below q;have f:=f.below q;have j:=btr j q;refine Yb n<|Yo 0 rfl (fun _=>X4 rfl)<|Yo 1 rfl (fun _=>Vd rfl X09 0)<|Ye 2 rfl (X0 rfl X2 (x.at 0))<|Yo 3 rfl (fun _=>X2u (m:=p.ins.toNat) Tryz.underlying3 Tryz.underlying67 rfl (by omega) (by omega))<|Yo 4 rfl (fun _=>X6v (m:=p.ins.toNat) rfl rfl rfl (by omega)) ?_;refine Yo 8 rfl (fun _=>Vd rfl X09 0)<|Ye 9 rfl (X0 rfl X2 (x.at 0))<|Y1 5 ?_;refine Yk rfl trivial (Vc (X56 _ ((drI (p.ins.toNat+k:Nat) ((arF (p.ins.toNat+k) p.ts).z))/2^p.ins.toNat) d7) X3x) (fun _ _ ⟨eB,eC,_,aE,q⟩=>q) ?_;rintro _ f8 ⟨eB,eC,rfl,aE,q⟩;have aE:=aE.lower j.size
  have e:=e.below q;have b:=b.below q;have o:=o.below q;have f:=f.below q;have j:=btr j q;refine Yi (k:=0) (u:=((nS ((drI (p.ins.toNat+k) (arF (p.ins.toNat+k) p.ts).z)/2^p.ins.toNat) 0:Nat) : Int)) (enc:=encI) (l:=(setI ((drI (p.ins.toNat+k:Nat) ((arF (p.ins.toNat+k) p.ts).z))/2^p.ins.toNat).toNat)) 6 rfl trivial rfl rfl X0f X12 X0h aE.rd (X4t eA) rfl ?_;intro f9 bO;refine Ye 7 rfl (X0 rfl X2 bO)<|Yo 10 rfl (fun _=>X3p (k:=(((vR p (p.ins.toNat+k)) : Nat) : Int)) rfl rfl (by unfold vR;omega) (by omega) (by omega))<|Yo 11 rfl (fun _=>X19 rfl) ?_;refine Yd fun a n=>?_;refine dB _ _<|Zr n<|Ze (Vn Xh b)<|Zm rfl<|Zm rfl<|Zm rfl<|Ze (X2u (m:=(vR p (p.ins.toNat+k))) Tryz.underlying3 Tryz.underlying67 rfl rfl (by omega)) ?_;refine Ze (Vx (X2i (m:=(vR p (p.ins.toNat+k))) rfl rfl rfl (by omega)) (X8z bN))<|Ze (Vx (X6b rfl rfl) (rfl:_=(xI (drI (p.ins.toNat+k) (arF (p.ins.toNat+k) p.ts).z) (pw (vR p (p.ins.toNat+k))))))<|Zm rfl<|Ze (Vx (Xkx rfl rfl rfl) (Y1e dM))<|Ze (Xk (ps:=[(0,vi (xI (drI (p.ins.toNat+k) (arF (p.ins.toNat+k) p.ts).z) (pw (vR p (p.ins.toNat+k))))),(1,vi ((arF (p.ins.toNat+k) p.ts).c/4))]) (cs:=[vi (xI (drI (p.ins.toNat+k) (arF (p.ins.toNat+k) p.ts).z) (pw (vR p (p.ins.toNat+k)))),vi ((arF (p.ins.toNat+k) p.ts).c/4)]) rfl (fun _=>by first|rfl|kernel_rfl)) ?_;refine Zf (Vc (Xo8 _ (⟨(repP p (p.ins.toNat+k:Nat) afZ).ins,(repP p (p.ins.toNat+k:Nat) afZ).vars,((repP p (p.ins.toNat+k:Nat) afZ).root)-2,(repP p (p.ins.toNat+k:Nat) afZ).phase,(repP p (p.ins.toNat+k:Nat) afZ).ts,(repP p (p.ins.toNat+k:Nat) afZ).out⟩ : Ps) y c19 o.top B C f.top ((vR p (p.ins.toNat+k)) : Nat) (⟨(xI (drI (p.ins.toNat+k) (arF (p.ins.toNat+k) p.ts).z) (pw (vR p (p.ins.toNat+k)))),((arF (p.ins.toNat+k) p.ts).c/4)⟩ : Af) c4 (fun t9 h9=>⟨bD.mks t9 h9,(bD.all t9 h9).2.2⟩) dN bN ⟨aS.xor (X3m bN),(by show (arF (p.ins.toNat+k) p.ts).c/4=0∨(arF (p.ins.toNat+k) p.ts).c/4=1;omega)⟩ (by show -1000≤p.vars-1∧p.vars-1≤1000;omega) (Nat.le_trans dO b2) (Nat.le_trans (Nat.le_of_eq dP) b3)) Xe6) ?_;rintro _ fA ⟨aU,aW,aX,aY,rfl,aB,aC,eD,q⟩
  have e:=e.below q;have b:=b.below q;have j:=btr j q;refine Zo (Vw [vi ((q3P p k).ins),vi ((q3P p k).vars),vi ((q3P p k).root),vi ((q3P p k).phase),.slice aU ((q3P p k).ts).length aW,.slice aX ((q3P p k).out).length aY] X04 b) ?_;rintro _ fB ⟨t,E⟩;have d:=b;have e:=e.only t (by omega);have aB:=aB.onlyT t d rfl;have aC:=aC.onlyT t d rfl;have j:=Below.only j t A;have b:=E;refine Zn fun a n=>?_;refine Xa<|aD _ _<|Zs n fun _ dC=>?_;refine Ze (Vn Xh b)<|Zm rfl<|Zo (Vw [vi ((q3P p k).ins),vi ((q3P p k).vars),vi ((q3P p k).root),vi ((q3P p k).phase),.slice aU ((q3P p k).ts).length aW,.slice aX ((q3P p k).out).length aY] X04 e) ?_;rintro _ fC ⟨t,E⟩;have d:=e;have aB:=aB.onlyT t d rfl;have aC:=aC.onlyT t d rfl;have j:=Below.only j t M;have e:=E;refine Za rfl<|Za rfl<|Zt dC fun a n=>?_;refine wp_ret<|Xw<|X7<|X7 ?_;refine Xw<|X7<|X3 n (X63 n rfl (ResV.cellN (l:=[vi ((q3P p k).ins),vi ((q3P p k).vars),vi ((q3P p k).root),vi ((q3P p k).phase),.slice aU ((q3P p k).ts).length aW,.slice aX ((q3P p k).out).length aY]) rfl Xh (e.at 0) rfl) rfl rfl) ?_
  rw [Q,Xvt aT aK]
  exact ⟨aU,aW,aX,aY,rfl,aB.top,aC.top,j⟩
 have b6:=D;have D:=of_decide_eq_false D
 have fD:p.vars.toNat≤k:=by have:=D;omega
 refine wp_exit<|Xi<|Xi<|X03 ?_;refine dH _ _<|Zs n fun _ dD=>?_;refine Ze (Xk (ps:=[]) (cs:=[vi 0,vi 0,vi 0,vi 0,.slice none 0 0,.slice none 0 0]) rfl (fun _=>by first|rfl|kernel_rfl))<|Zo (Vw [vi 0,vi 0,vi 0,vi 0,.slice none 0 0,.slice none 0 0] X04 e) ?_;rintro _ fE ⟨t,E⟩;have d:=e;have j:=Below.only j t M;have e:=E;refine Za rfl<|Za rfl<|Zt dD fun a n=>?_
 refine wp_ret (X3 n (X63 n rfl (ResV.cellN (l:=[vi 0,vi 0,vi 0,vi 0,.slice none 0 0,.slice none 0 0]) rfl Xh (e.at 0) rfl) rfl rfl) ?_)
 rw [Xkb fun i hi=>b5 i (by omega)]
 exact ⟨none,0,none,0,rfl,(Rd.nil _ _ _ _ _),(Rd.nil _ _ _ _ _),j⟩
def Cg(x y:Int) : Prop:=∃ q:Int,x=y+8*q
theorem Cg.refl(x:Int) : Cg x x:=⟨0,by omega⟩
theorem Cg.of{x y:Int}(h:x=y) : Cg x y:=⟨0,by omega⟩
theorem Cg.symm{x y:Int}(h:Cg x y) : Cg y x:=by obtain ⟨q,h⟩:=h;exact ⟨-q,by omega⟩
theorem Cg.trans{x y z:Int}(h:Cg x y)(k:Cg y z) : Cg x z:=by obtain ⟨q,h⟩:=h;obtain ⟨r,k⟩:=k;exact ⟨q+r,by omega⟩
theorem Cg.add{x y z w:Int}(h:Cg x y)(k:Cg z w) : Cg (x+z) (y+w):=by obtain ⟨q,h⟩:=h;obtain ⟨r,k⟩:=k;exact ⟨q+r,by omega⟩
theorem Cg.mod(x:Int) : Cg (x % 8) x:=⟨-(x/8),by omega⟩
theorem Cg.mul{x y:Int}(k:Int)(h:Cg x y) : Cg (k*x) (k*y):=by
 obtain ⟨q,h⟩:=h;exact ⟨k*q,by rw [h,Int.mul_add,Int.mul_left_comm]⟩
def omZ(k:Int) : Rg:=om^(k % 8).toNat
theorem Xbu{x y:Int}(h:Cg x y) : omZ x=omZ y:=by
 obtain ⟨q,h⟩:=h
 unfold omZ
 rw [show x % 8=y % 8 from by omega]
theorem X8o(x y:Int) : omZ (x+y)=omZ x*omZ y:=by
 unfold omZ
 rw [← X2a,Xkl ((x % 8).toNat+(y % 8).toNat)]
 congr 1
 omega
theorem Xor:omZ 0=1:=rfl
def subI(a:Nat→Bool)(m:Int) : Int:=if (List.range 62).all (fun i=>!m.toNat.testBit i||a i) then 1 else 0
def numB(a:Nat→Bool)(m:Int) : Nat:=(List.range 62).countP fun i=>m.toNat.testBit i&&a i
def avI(a:Nat→Bool)(u:Af) : Int:=((numB a u.m:Int)+u.t) % 2
theorem X4y(a:Nat→Bool)(m:Int) : subI a m=0∨subI a m=1:=by unfold subI;split<;>simp
theorem Xdp(a:Nat→Bool){x y:Nat}(hx:x<2^62)(hy:y<2^62) : subI a (oI x y)=subI a x*subI a y:=by
 unfold oI
 rw [X1y hx hy]
 unfold subI
 simp only [Int.toNat_natCast,Nat.testBit_or]
 have e:(List.range 62).all (fun i=>!(x.testBit i||y.testBit i)||a i)=((List.range 62).all (fun i=>!x.testBit i||a i)&&(List.range 62).all (fun i=>!y.testBit i||a i)):=by
  induction List.range 62 with
  | nil=>rfl
  | cons i l ih=>
   simp only [List.all_cons,ih]
   cases x.testBit i<;>cases y.testBit i<;>cases a i<;>simp
 rw [e]
 rcases Bool.eq_false_or_eq_true ((List.range 62).all fun i=>!x.testBit i||a i) with h1|h1<;>rcases Bool.eq_false_or_eq_true ((List.range 62).all fun i=>!y.testBit i||a i) with h2|h2<;>simp only [h1,h2]<;>rfl
theorem sub_zero(a:Nat→Bool) : subI a 0=1:=by
 unfold subI
 rw [if_pos]
 rw [List.all_eq_true]
 intro i _
 simp
theorem Xjl(a:Nat→Bool){k:Nat}(h:k<62) : subI a ((2^k:Nat) : Int)=if a k then 1 else 0:=by
 unfold subI
 cases e:a k
 ·rw [if_neg,if_neg (by decide)]
  rw [List.all_eq_true]
  intro h2
  have:=h2 k (List.mem_range.2 h)
  rw [Int.toNat_natCast,Nat.testBit_two_pow_self,e] at this
  cases this
 ·rw [if_pos,if_pos rfl]
  rw [List.all_eq_true]
  intro i _
  rw [Int.toNat_natCast,Nat.testBit_two_pow]
  by_cases e2:k=i
  ·subst e2;rw [e];simp
  ·simp [e2]
theorem Xsf(a:Nat→Bool){x y:Nat}(hx:x<2^62)(hy:y<2^62) : (numB a (xI x y)) % 2=(numB a x+numB a y) % 2:=by
 unfold xI
 rw [X17 hx hy]
 unfold numB
 simp only [Int.toNat_natCast,Nat.testBit_xor]
 induction List.range 62 with
 | nil=>rfl
 | cons i l ih=>
  simp only [List.countP_cons]
  cases x.testBit i<;>cases y.testBit i<;>cases a i<;>simp<;>omega
theorem X4j(a:Nat→Bool)(u:Af) : avI a u=0∨avI a u=1:=by unfold avI;omega
theorem Xow(a:Nat→Bool){u v:Af}(hu:AO u)(hv:AO v) : avI a (aXor u v)=(avI a u+avI a v) % 2:=by
 obtain ⟨x,hx,e⟩:=hu.1.nat;obtain ⟨y,hy,e'⟩:=hv.1.nat;have h:=Xsf a (X0x hx) (X0x hy)
 unfold avI aXor
 simp only
 rw [e,e',Xom hu.2 hv.2]
 rcases hu.2 with h1|h1<;>rcases hv.2 with h2|h2<;>rw [h1,h2]<;>simp<;>omega
theorem Xh9(a:Nat→Bool){k:Nat}(h:k<62) : avI a (varA k)=if a k then 1 else 0:=by
 have h1:numB a ((2^k:Nat) : Int)=if a k then 1 else 0:=by
  unfold numB
  rw [Int.toNat_natCast]
  have e:(fun i=>(2^k).testBit i&&a i)=fun i=>decide (i=k)&&a k:=by
   funext i
   rw [Nat.testBit_two_pow]
   by_cases e2:i=k
   ·subst e2;simp
   ·have:¬ k=i:=fun h=>e2 h.symm
    simp [e2,this]
  rw [e]
  cases a k
  ·simp
  ·simp only [Bool.and_true,if_true]
   have:(fun i=>decide (i=k))=fun i=>(i==k):=by funext i;rw [Bool.eq_iff_iff];simp
   rw [this,← List.count_eq_countP',List.count_range,if_pos h]
 unfold avI varA
 simp only
 rw [h1]
 cases a k<;>rfl
def evL(a:Nat→Bool)(L:List Sm) : Int:=(L.map fun p=>p.2*subI a p.1).sum
theorem X7m(a:Nat→Bool) : evL a []=0:=rfl
theorem X5n(a:Nat→Bool)(p:Sm)(L:List Sm) : evL a (p::L)=p.2*subI a p.1+evL a L:=by simp [evL]
theorem X7j(a:Nat→Bool)(L M:List Sm) : evL a (L++M)=evL a L+evL a M:=by simp [evL]
theorem Xfr{α:Type}(a:Nat→Bool)(g:α→List Sm) : ∀ l:List α,evL a (l.flatMap g)=(l.map fun x=>evL a (g x)).sum
 | []=>rfl
 | x::l=>by rw [List.flatMap_cons,X7j,Xfr a g l];simp
def T2:Nat→Nat
 | 0=>0
 | c+1=>T2 c+c
def T3:Nat→Nat
 | 0=>0
 | c+1=>T3 c+T2 c
theorem Xtv:∀ c:Nat,(c % 8=0∧T2 c % 4=0∧T3 c % 2=0)∨(c % 8=1∧T2 c % 4=0∧T3 c % 2=0)∨(c % 8=2∧T2 c % 4=1∧T3 c % 2=0)∨(c % 8=3∧T2 c % 4=3∧T3 c % 2=1)∨
  (c % 8=4∧T2 c % 4=2∧T3 c % 2=0)∨(c % 8=5∧T2 c % 4=2∧T3 c % 2=0)∨(c % 8=6∧T2 c % 4=3∧T3 c % 2=0)∨(c % 8=7∧T2 c % 4=1∧T3 c % 2=1)
 | 0=>.inl ⟨rfl,rfl,rfl⟩
 | c+1=>by
  have h:=Xtv c
  rw [T2,T3]
  rcases h with ⟨h1,h2,h3⟩|⟨h1,h2,h3⟩|⟨h1,h2,h3⟩|⟨h1,h2,h3⟩|⟨h1,h2,h3⟩|⟨h1,h2,h3⟩|⟨h1,h2,h3⟩|⟨h1,h2,h3⟩
  ·exact .inr (.inl ⟨by omega,by omega,by omega⟩)
  ·exact .inr (.inr (.inl ⟨by omega,by omega,by omega⟩))
  ·exact .inr (.inr (.inr (.inl ⟨by omega,by omega,by omega⟩)))
  ·exact .inr (.inr (.inr (.inr (.inl ⟨by omega,by omega,by omega⟩))))
  ·exact .inr (.inr (.inr (.inr (.inr (.inl ⟨by omega,by omega,by omega⟩)))))
  ·exact .inr (.inr (.inr (.inr (.inr (.inr (.inl ⟨by omega,by omega,by omega⟩))))))
  ·exact .inr (.inr (.inr (.inr (.inr (.inr (.inr ⟨by omega,by omega,by omega⟩))))))
  ·exact .inl ⟨by omega,by omega,by omega⟩
def GI(c:Nat) : Int:=(c:Int)-2*(T2 c:Int)+4*(T3 c:Int)
theorem Xui(c:Nat) : Cg (GI c) ((c:Int) % 2):=by
 have h:=Xtv c
 refine ⟨(GI c-(c:Int) % 2)/8,?_⟩
 unfold GI
 omega
def cB(a:Nat→Bool)(l:List Int) : Nat→Nat
 | 0=>0
 | n+1=>cB a l n+(subI a (l.getD n 0)).toNat
def Wl(l:List Int) : Prop:=∀ x ∈ l,∃ n:Nat,n<2^62∧x=(n:Int)
theorem Wl.at{l:List Int}(h:Wl l)(n:Nat) : ∃ k:Nat,k<2^62∧l.getD n 0=(k:Int):=by
 rw [List.getD_eq_getElem?_getD]
 cases e:l[n]? with
 | none=>exact ⟨0,by decide,rfl⟩
 | some x=>exact h x (List.mem_of_getElem? e)
theorem orN{x y:Nat}(hx:x<2^62)(hy:y<2^62) : ∃ z:Nat,z<2^62∧oI x y=(z:Int):=⟨x ||| y,Nat.or_lt_two_pow hx hy,by unfold oI;rw [X1y hx hy]⟩
section
variable {a : Nat → Bool} {l : List Int} (hl : Wl l) {k : Int}
include hl
theorem evZ{r x y:Int}(hr:∃ n:Nat,n<2^62∧oI (oI r x) y=(n:Int)) : ∀ n,evL a (exZL r x y k l n)=4*k*(subI a (oI (oI r x) y)*(cB a l n:Int))
 | 0=>by rw [exZL,cB,X7m];simp
 | n+1=>by
  obtain ⟨R,hR,e⟩:=hr;obtain ⟨Q,hQ,e2⟩:=hl.at n
  rw [exZL,X7j,evZ ⟨R,hR,e⟩ n,X5n,X7m,cB,e,e2,Xdp a hR hQ]
  rcases X4y a (R:Int) with h1|h1<;>rcases X4y a (Q:Int) with h2|h2<;>rw [h1,h2]<;>simp<;>grind
theorem evY{r x:Int}(hr:∃ n:Nat,n<2^62∧oI r x=(n:Int)) : ∀ j,evL a (exYL r x k l j)=k*(subI a (oI r x)*(-2*(cB a l j:Int)+4*(T2 (cB a l j) : Int)))
 | 0=>by rw [exYL,cB,X7m];simp [T2]
 | j+1=>by
  obtain ⟨R,hR,e⟩:=hr;obtain ⟨Q,hQ,e2⟩:=hl.at j
  have h3:∃ n:Nat,n<2^62∧oI (oI r x) (l.getD j 0)=(n:Int):=by rw [e,e2];exact orN hR hQ
  rw [exYL,X7j,evY ⟨R,hR,e⟩ j,X5n,evZ hl h3 j,cB,e,e2,Xdp a hR hQ]
  rcases X4y a (R:Int) with h1|h1<;>rcases X4y a (Q:Int) with h2|h2<;>rw [h1,h2]<;>simp [T2]<;>grind
theorem evX{r:Nat}(hr:r<2^62) : ∀ i,evL a (exXL r k l i)=k*(subI a r*GI (cB a l i))
 | 0=>by rw [exXL,cB,X7m];simp [GI,T2,T3]
 | i+1=>by
  obtain ⟨Q,hQ,e2⟩:=hl.at i
  have h3:∃ n:Nat,n<2^62∧oI r (l.getD i 0)=(n:Int):=by rw [e2];exact orN hr hQ
  rw [exXL,X7j,evX hr i,X5n,evY hl h3 i,cB,e2,Xdp a hr hQ]
  rcases X4y a (r:Int) with h1|h1<;>rcases X4y a (Q:Int) with h2|h2<;>rw [h1,h2]<;>simp [GI,T2,T3]<;>grind
end
theorem Xne(m:Int) : Wl (lows m):=fun _ h=>X95 h
theorem Xfs(a:Nat→Bool)(m:Int) : ((lows m).map (subI a)).sum=(numB a m:Int):=by
 unfold lows numB setN
 rw [List.map_map]
 have hall:∀ i ∈ List.range 62,i<62:=fun i h=>List.mem_range.1 h
 revert hall
 generalize List.range 62=L
 induction L with
 | nil=>intro _;rfl
 | cons i l ih=>
  intro h
  have hi:=h i (by simp)
  have ih:=ih fun j hj=>h j (by simp [hj])
  rw [List.filter_cons,List.countP_cons]
  cases e:m.toNat.testBit i
  ·simp only [Bool.false_eq_true,if_false,Bool.false_and,Nat.add_zero]
   exact ih
  ·simp only [if_true,List.map_cons,List.sum_cons,Function.comp,Bool.true_and,Xjl a hi]
   rw [ih]
   cases a i<;>simp<;>omega
theorem Xm5(a:Nat→Bool)(l:List Int) : ∀ n,n≤l.length→(cB a l n:Int)=((l.take n).map (subI a)).sum
 | 0,_=>by rw [cB,List.take_zero];rfl
 | n+1,h=>by
  rw [cB,List.take_add_one,List.getElem?_eq_getElem (by omega),List.map_append,List.sum_append,← Xm5 a l n (by omega)]
  rw [List.getD_eq_getElem?_getD,List.getElem?_eq_getElem (by omega)]
  simp only [Option.getD_some,Option.toList_some,List.map_cons,List.map_nil,List.sum_cons,List.sum_nil]
  rcases X4y a l[n] with h1|h1<;>rw [h1]<;>simp
theorem Xje(a:Nat→Bool)(m:Int) : cB a (lows m) (lows m).length=numB a m:=by
 have:=Xm5 a (lows m) (lows m).length (Nat.le_refl _)
 rw [List.take_length,Xfs] at this
 omega
theorem Xux(a:Nat→Bool)(k:Int){u:Af}{r:Int}(ht:u.t=0∨u.t=1)(hr:Mk r) : Cg (evL a (expL k u r)) (k*(subI a r*avI a u)):=by
 obtain ⟨R,hR,rfl⟩:=hr.nat;obtain ⟨q,hq⟩:=Xui (numB a u.m)
 unfold expL avI
 rcases ht with h|h<;>rw [h]
 ·rw [if_neg (by decide),evX (Xne _) (X0x hR),Xje,hq]
  refine ⟨k*(subI a R*q),?_⟩
  rw [Int.add_zero]
  grind
 ·rw [if_pos rfl,X5n,evX (Xne _) (X0x hR),Xje,hq]
  have h2:((numB a u.m:Int)+1) % 2=1-(numB a u.m:Int) % 2:=by omega
  rw [h2]
  refine ⟨-(k*(subI a R*q)),?_⟩
  grind
theorem X97{α:Type}(c:Int)(g:α→Int) : ∀ l:List α,(l.map fun x=>c*g x).sum=c*(l.map g).sum
 | []=>by simp
 | x::l=>by simp only [List.map_cons,List.sum_cons,X97 c g l,Int.mul_add]
theorem Xng{u:Af} : Wl (lowT u):=fun x h=>by
 unfold lowT at h
 rcases List.mem_append.1 h with h|h
 ·exact X95 h
 ·split at h
  ·rw [List.mem_singleton.1 h];exact ⟨0,by decide,rfl⟩
  ·cases h
theorem Xff(a:Nat→Bool){u:Af}(ht:u.t=0∨u.t=1) : ((lowT u).map (subI a)).sum=(numB a u.m:Int)+u.t:=by
 unfold lowT
 rw [List.map_append,List.sum_append,Xfs]
 rcases ht with h|h<;>rw [h]
 ·rfl
 ·simp [sub_zero]
theorem Xpm(a:Nat→Bool){u v:Af}(hu:u.t=0∨u.t=1)(hv:v.t=0∨v.t=1) : Cg (evL a (sumI u v)) (4*(avI a u*avI a v)):=by
 have h:evL a (sumI u v)=4*(((numB a u.m:Int)+u.t)*((numB a v.m:Int)+v.t)):=by
  unfold sumI
  rw [Xfr,← Xff a hu,← Xff a hv]
  have h1:∀ x ∈ lowT u,evL a ((lowT v).map fun y=>(oI x y,(4:Int)))=4*((lowT v).map (subI a)).sum*subI a x:=fun x hx=>by
   obtain ⟨X,hX,rfl⟩:=Xng x hx
   unfold evL
   rw [List.map_map,List.map_congr_left (g:=fun y=>(4*subI a (X:Int))*subI a y) fun y hy=>by
    obtain ⟨Y,hY,rfl⟩:=Xng y hy
    show 4*subI a (oI X Y)=_
    rw [Xdp a hX hY,Int.mul_assoc],X97]
   grind
  rw [List.map_congr_left h1,X97]
  grind
 rw [h]
 unfold avI
 generalize (numB a u.m:Int)+u.t=A
 generalize (numB a v.m:Int)+v.t=B
 refine ⟨(A % 2)*(B/2)+(A/2)*(B % 2)+2*((A/2)*(B/2)),?_⟩
 have hA:A=2*(A/2)+A % 2:=by omega
 have hB:B=2*(B/2)+B % 2:=by omega
 generalize A/2=p at *
 generalize A % 2=q at *
 generalize B/2=r at *
 generalize B % 2=t at *
 subst hA hB
 grind
def evN(f:Int→Int)(a:Nat→Bool) : Nat→Int
 | 0=>0
 | n+1=>evN f a n+f n*subI a n
theorem Xfy(f:Int→Int)(a:Nat→Bool)(m k:Int) : ∀ n:Nat,Cg (evN (padd f m k) a n) (evN f a n+if 0≤m∧m<(n:Int) then k*subI a m else 0)
 | 0=>by rw [if_neg (by omega)];exact Cg.refl _
 | n+1=>by
  obtain ⟨q,hq⟩:=Xfy f a m k n
  rw [evN,evN,hq]
  by_cases e:m=(n:Int)
  ·subst e
   rw [if_neg (by omega),if_pos (by omega)]
   unfold padd
   rw [show upd f (n:Int) ((f n+k) % 8) n=(f n+k) % 8 from by unfold upd;simp]
   obtain ⟨r,hr⟩:=Cg.mod (f n+k)
   rw [hr]
   refine ⟨q+r*subI a n,?_⟩
   grind
  ·unfold padd
   rw [X4p (fun h=>e h.symm)]
   by_cases h2:0≤m∧m<(n:Int)
   ·rw [if_pos h2,if_pos (by omega)]
    exact ⟨q,by omega⟩
   ·rw [if_neg h2,if_neg (by omega)]
    exact ⟨q,by omega⟩
theorem Xhq(a:Nat→Bool)(l m:List Tm) : evL a (sm (l++m))=evL a (sm l)+evL a (sm m):=by unfold sm;rw [List.map_append,X7j]
theorem Xhz(f:Int→Int)(a:Nat→Bool) : ∀ n:Nat,evN f a n=(if n=0 then 0 else f 0)+evL a (sm (tmN f n))
 | 0=>rfl
 | n+1=>by
  rw [evN,Xhz f a n,tmN,if_neg (Nat.succ_ne_zero n)]
  by_cases h0:n=0
  ·subst h0
   rw [if_pos rfl,if_neg (by omega)]
   simp [sub_zero,tmN,sm,evL]
  ·rw [if_neg h0]
   by_cases h1:f n=0
   ·rw [if_neg (fun h=>h.2 h1),h1];omega
   ·rw [if_pos ⟨by omega,h1⟩,Xhq]
    simp [sm,evL]
    omega
def evP(f:Int→Int)(a:Nat→Bool) : Int:=f 0+evL a (sm (tms f))
theorem Xua(f:Int→Int)(a:Nat→Bool) : evP f a=evN f a 16777216:=by
 unfold evP tms
 rw [Xhz,if_neg (by decide)]
theorem Xb5{f:Int→Int}{a:Nat→Bool}{m k:Int}(h:Mk m) : Cg (evP (padd f m k) a) (evP f a+k*subI a m):=by
 rw [Xua,Xua]
 have:=Xfy f a m k 16777216
 rw [if_pos ⟨h.1,by have:=h.2;omega⟩] at this
 exact this
theorem X6c{a:Nat→Bool} : ∀ (L:List Sm) {f:Int→Int},(∀ p ∈ L,Mk p.1)→Cg (evP (foldA L f) a) (evP f a+evL a L)
 | [],f,_=>by rw [Xl1,X7m,Int.add_zero];exact Cg.refl _
 | p::L,f,h=>by
  rw [X61,X5n]
  refine (X6c L fun q hq=>h q (by simp [hq])).trans ?_
  have:=(Xb5 (f:=f) (a:=a) (k:=p.2) (h p (by simp))).add (Cg.refl (evL a L))
  rw [Int.add_assoc] at this
  exact this
theorem Xbe(a:Nat→Bool) : evP (fun _=>0) a=0:=by
 unfold evP
 rw [Xau];rfl
theorem Xi4{f:Int→Int}{a:Nat→Bool}{k r:Int}{u:Af}(hu:AO u)(hr:Mk r) : Cg (evP (expP f k u r) a) (evP f a+k*(subI a r*avI a u)):=by
 rw [X2f]
 exact (X6c _ (Xi8 hu hr)).trans ((Cg.refl _).add (Xux a k hu.2 hr))
theorem Xfj{f:Int→Int}{a:Nat→Bool}{u v:Af}(hf:PO f)(hu:AO u)(hv:AO v) : Cg (evP (foldA (sumS u v) f) a) (evP f a+4*(avI a u*avI a v)):=by
 refine (X6c _ (Xax hu.1 hv.1)).trans ((Cg.refl _).add ?_)
 have h1:=X6c (a:=a) (f:=fun _=>0) (sumS u v) (Xax hu.1 hv.1)
 have hI:∀ p ∈ sumI u v,Mk p.1:=fun p hp=>by
  unfold sumI at hp
  obtain ⟨x,hx,hp⟩:=List.mem_flatMap.1 hp;obtain ⟨y,hy,rfl⟩:=List.mem_map.1 hp
  have lw:∀ {w:Af},AO w→∀ z ∈ lowT w,Mk z:=fun {w} hw z hz=>by
   unfold lowT at hz
   rcases List.mem_append.1 hz with h|h
   ·exact (X6y (N:=24) ⟨hw.1,by have:=hw.1.2;omega⟩ h).1
   ·split at h
    ·rw [List.mem_singleton.1 h];exact Mk.zero
    ·cases h
  exact (lw hu x hx).or (lw hv y hy)
 have h2:=X6c (a:=a) (f:=fun _=>0) (sumI u v) hI
 rw [Xog PO.zero hu.2 hv.2,Xbe] at h2
 rw [Xbe] at h1
 have h3:=Xpm a hu.2 hv.2;have h4:=h1.symm.trans h2
 rw [Int.zero_add,Int.zero_add] at h4
 exact h4.trans h3
def upB(a:Nat→Bool)(i:Nat)(b:Bool) : Nat→Bool:=fun j=>if j=i then b else a j
def sumB(n:Nat) : Nat→St→St
 | 0,F=>F
 | k+1,F=>sumB n k fun b=>F (upB b (n+k) false)+F (upB b (n+k) true)
def affs(n:Nat)(out:List Af)(a x:Nat→Bool) : Nat→Bool:=fun q=>if q<n then avI a (aAt out q)==1 else x q
def semS(n:Nat)(s:Pst)(w:St) : St:=fun x=>sumB n s.v (fun a=>omZ (evP s.f a)*w (affs n s.out a x)) x
theorem X7s{n:Nat} : ∀ (k:Nat) {F G:St},(∀ a,F a=G a)→∀ a,sumB n k F a=sumB n k G a
 | 0,_,_,h=>h
 | k+1,F,G,h=>X7s k fun b=>by rw [h,h]
def tact(g:Gt)(w:St) : St:=if g.k=3 then (fun β=>om^4*act g w β) else act g w
def trun:List Gt→St→St
 | [],w=>w
 | g::l,w=>tact g (trun l w)
theorem Xw7{a:Nat→Bool}{i:Nat}{b:Bool}{m:Int}(h:Lt i m) : subI (upB a i b) m=subI a m:=by
 obtain ⟨M,hM,rfl⟩:=h.1.nat
 have hlt:M<2^i:=Int.ofNat_lt.1 h.2
 unfold subI
 have e:(List.range 62).all (fun j=>!((M:Int)).toNat.testBit j||upB a i b j)=(List.range 62).all (fun j=>!((M:Int)).toNat.testBit j||a j):=by
  congr 1
  funext j
  rw [Int.toNat_natCast]
  unfold upB
  by_cases hj:j=i
  ·subst hj
   rw [Nat.testBit_lt_two_pow hlt];simp
  ·rw [if_neg hj]
 rw [e]
theorem Xum{a:Nat→Bool}{i:Nat}{b:Bool}{m:Int}(h:Lt i m) : numB (upB a i b) m=numB a m:=by
 obtain ⟨M,hM,rfl⟩:=h.1.nat
 have hlt:M<2^i:=Int.ofNat_lt.1 h.2
 unfold numB
 congr 1
 funext j
 rw [Int.toNat_natCast]
 unfold upB
 by_cases hj:j=i
 ·subst hj
  rw [Nat.testBit_lt_two_pow hlt];simp
 ·rw [if_neg hj]
theorem Xtp{a:Nat→Bool}{i:Nat}{b:Bool}{u:Af}(h:Lt i u.m) : avI (upB a i b) u=avI a u:=by unfold avI;rw [Xum h]
theorem Xv4{a:Nat→Bool}{i:Nat}{b:Bool}{L:List Sm}(h:∀ p ∈ L,Lt i p.1) : evL (upB a i b) L=evL a L:=by
 unfold evL
 rw [List.map_congr_left fun p hp=>by rw [Xw7 (h p hp)]]
theorem Xwu{a:Nat→Bool}{i:Nat}{b:Bool}{f:Int→Int}(h:SupN i f) : evP f (upB a i b)=evP f a:=by
 unfold evP
 rw [Xv4 fun p hp=>?_]
 obtain ⟨t,ht,rfl⟩:=List.mem_map.1 hp
 have:=((X2l f).mem t).1 ht
 exact h t.m this.2.2.2
theorem Xia{l:List Af}{i:Nat}{u:Af}(q:Nat)(h:i<l.length) : aAt (l.set i u) (q:Int)=if q=i then u else aAt l (q:Int):=by
 unfold aAt
 rw [Int.toNat_natCast,List.getD_eq_getElem?_getD,List.getD_eq_getElem?_getD]
 by_cases e:q=i
 ·subst e
  rw [if_pos rfl,List.getElem?_set_self h];rfl
 ·rw [if_neg e,List.getElem?_set_ne (fun h=>e h.symm)]
theorem X5h{n:Nat}{out:List Af}{a x:Nat→Bool}{i:Nat}{u:Af}(hi:i<n)(hl:out.length=n) : affs n (out.set i u) a x=upB (affs n out a x) i (avI a u==1):=by
 funext q
 unfold affs upB
 by_cases e:q=i
 ·subst e
  rw [if_pos hi,if_pos rfl,Xia q (by omega),if_pos rfl]
 ·rw [if_neg e]
  by_cases hq:q<n
  ·rw [if_pos hq,Xia q (by omega),if_neg e];exact (if_pos hq).symm
  ·rw [if_neg hq];exact (if_neg hq).symm
theorem X7g(β:Nat→Bool)(q:Nat) : flipB β q=upB β q (!β q):=by
 funext p
 unfold flipB upB
 by_cases e:p=q
 ·subst e;simp
 ·simp [e]
theorem X89(β:Nat→Bool)(q:Nat){b:Bool}(h:β q=b) : upB β q b=β:=by
 funext p
 unfold upB
 by_cases e:p=q
 ·subst e;simp [h]
 ·simp [e]
theorem X8f{n:Nat}{out:List Af}{a x:Nat→Bool}{i:Nat}(hi:i<n) : affs n out a x i=(avI a (aAt out i)==1):=by
 unfold affs
 rw [if_pos hi]
theorem Xny(a:Nat→Bool){u:Af}(hu:AO u) : avI a (aXor u ⟨0,1⟩)=1-avI a u:=by
 rw [Xow a hu AO.one]
 have:avI a ⟨0,1⟩=1:=by
  unfold avI numB
  have:(List.range 62).countP (fun i=>(0:Int).toNat.testBit i&&a i)=0:=by
   rw [List.countP_eq_zero]
   intro i _
   simp
  simp only [this];rfl
 rw [this]
 rcases X4j a u with h|h<;>rw [h]<;>rfl
end Go.Proofs.YtiejkplemjkjoaaGreat
