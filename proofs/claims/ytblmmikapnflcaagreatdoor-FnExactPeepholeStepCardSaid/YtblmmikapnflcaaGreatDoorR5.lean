/-
  What is proved: for every circuit, the program's PeepholeStep answers as the reference's does, leaves its argument as it was and hands out memory of its own, and the argument reads as before. Conditions: none beside the table of powers of ten that the card ties to the program's text.
-/
import Derived.Test.YtblmmikapnflcaaGreatDoorR4
import Derived.Test.YtblmmikapnflcaaGreatDoorR3
import Derived.Test.YtblmmikapnflcaaGreatDoorR2
import Derived.Test.YtblmmikapnflcaaGreatDoorCards
import Derived.Test.YtblmmikapnflcaaGreatDoorTie
import Derived.Lay
set_option linter.unusedVariables false
set_option linter.unusedSimpArgs false
set_option maxHeartbeats 1000000
set_option maxRecDepth 4000
set_option linter.unusedSectionVars false
namespace Go.Proofs.YtblmmikapnflcaaGreatDoor
open Go.RowKit
theorem Xxk(Q:World)(c:Cx)(Ac:Option Addr)(cc:Nat)(f:Rd Q Q.heap.size 115 encG Ac c.gs)(p:Int)(Aqs:Option Addr)(cqs:Nat)(qs:List Int)(d:Rd Q Q.heap.size 3 encI Aqs qs)(hc:cOk c=true)(aK:qs.length≤1048576) : Ret Tryz.prog 76 [.agg #[vi c.n,.slice Ac c.gs.length cc],vi p,.slice Aqs qs.length cqs] Q (fun v w=>∃ A c1,v=.tuple #[.slice A ((runX c p qs).getD []).length c1,.bool ((runX c p qs).isSome)]∧Own w Q.heap.size 3 1 encI A c1 ((runX c p qs).getD [])∧Below Q.heap.size Q w):=by
 obtain ⟨bI,bJ,bW⟩:=X12 hc
 have bS:c.gs.length≤400:=bJ
 refine enter Tryz.func76 rfl 79 rfl rfl ?_;intro a e
 have C:=bz Q
 refine Zs e fun _ bK=>?_;refine Zf (X0i (zs:=[vi c.n,.slice Ac c.gs.length cc]) rfl rfl) ?_;rintro _ w1 ⟨b4,rfl,bL,h,g⟩;have bU:=Nat.le_trans C.size bL;have f:=f.below h;have d:=d.below h;have C:=btr C h;refine Za rfl<|Za rfl<|ZX bK fun a e _ bM=>?_;refine wp_seq_k fun _ bN=>?_;refine X0o (fun a w=>Fr a 79 [(1,vi p),(2,.slice Aqs qs.length cqs),(3,.pointer (some ⟨b4,0,none⟩)),(26,.bool ((!(inR (qs.length:Int) 1 2&&incF qs 0 (c.n-1)))||(!(inR p 0 ((c.gs.length:Int)-1)))))]∧Below w1.heap.size w1 w) ?_ ?_
 ·have aF:Below w1.heap.size w1 w1:=Below.refl _ _
  refine Zr e<|Ze (Vn X1l g)<|Zm rfl<|Zf (Vc (Xwa _ c Ac cc f.top Aqs cqs qs d.top bI aK) Xr8) ?_;rintro _ w2 ⟨rfl,h⟩;have g:=g.below h;have C:=btr C h;have aF:=btr aF h;refine Ze (X0z rfl)<|Zm rfl ?_
  refine Zg 18 rfl (fun i=>?_) (fun i=>?_)
  ·refine Zp (gP i) ?_;refine Zp (gP i) ?_;refine Zp (gP i) ?_;refine Zp (gP i) ?_;refine Zp (gP i) ?_;refine Zp (gP i) ?_;refine Zp (gP i) ?_;refine Ze (Xn rfl i rfl) ?_;refine Zn fun a e=>?_
   have aL:Below w1.heap.size w1 w2:=aF
   exact ⟨e.sub ⟨rfl,rfl,rfl,X1 rfl (by first|rfl|(simp only [i,bs];done)|simp [i]),trivial⟩,aL⟩
  refine Zv (gW i) (Xa rfl) ?_;refine Zv (gW i) (Vd rfl X0v 1) ?_;refine Zv (gW i) (X0 rfl X15 (g.at 1)) ?_;refine Zv (gW i) (X0x rfl Xf) ?_;refine Zv (gW i) (X1h rfl rfl (by omega) (by omega)) ?_;refine Zk (gW i) (Vc (F85 _ p 0 ((c.gs.length:Int)-1)) X40) ?_;rintro _ _ ⟨rfl,rfl⟩;refine Zv (gW i) (X0z rfl) ?_;refine Ze (Xj rfl i rfl) ?_;refine Zn fun a e=>?_
  have aL:Below w1.heap.size w1 w2:=aF
  exact ⟨e.sub ⟨rfl,rfl,rfl,X1 rfl (by first|rfl|(simp only [i,bs];done)|simp [i]),trivial⟩,aL⟩
 rintro a w3 ⟨e,h⟩;have g:=g.below h;have f:=f.below h;have d:=d.below h;have C:=btr C h;refine bN _ _ ?_
 refine Xk e rfl (fun aB=>?_) (fun aB=>?_)
 ·have j:=aB
  have aC:runB c p qs=false:=by have h9:=aB;unfold runB;revert h9;cases inR (qs.length:Int) 1 2<;>cases incF qs 0 (c.n-1)<;>cases inR p 0 ((c.gs.length:Int)-1)<;>simp
  have E:=Xbs aC;refine Zs e fun _ aT=>?_;refine Za rfl<|Za rfl<|Zt aT fun a e=>?_;refine wp_ret<|X3<|X2 e (X0w e rfl rfl rfl) ?_
  rw [E]
  exact ⟨none,0,rfl,(Own.nil _ _ _ _ _),C⟩
 have j:=aB
 have U:(inR (qs.length:Int) 1 2=true∧incF qs 0 (c.n-1)=true)∧inR p 0 ((c.gs.length:Int)-1)=true:=by have h9:=aB;revert h9;cases inR (qs.length:Int) 1 2<;>cases incF qs 0 (c.n-1)<;>cases inR p 0 ((c.gs.length:Int)-1)<;>simp
 have bO:=X03.1 U.2;have bX:=bO.1;refine wp_skip<|bM _ _<|wp_seq_k fun _ aU=>?_;refine Zs e fun _ aW=>?_;refine Ze (Vd rfl X0v 1)<|Ze (X0 rfl X15 (g.at 1))<|Zm rfl<|Zi (k:=p.toNat) (u:=(c.gs.getD p.toNat gZ)) (enc:=encG) (l:=c.gs) trivial rfl rfl Xf X0p Xb f (Xb8 (by omega)) (by omega) ?_;intro bY aM;refine Ze (X07 (l:=[vi ((c.gs.getD p.toNat gZ).k),vi ((c.gs.getD p.toNat gZ).a),vi ((c.gs.getD p.toNat gZ).b)]) rfl X0g aM rfl)<|Zm rfl<|Zf (Vc (Xlq _ (c.gs.getD p.toNat gZ) Aqs cqs qs d.top aK) Xcd) ?_;rintro _ w4 ⟨rfl,h⟩;have g:=g.below h;have f:=f.below h;have d:=d.below h;have C:=btr C h;refine Zm rfl<|Ze (X4 (vs:=[vi (inN (c.gs.getD p.toNat gZ) qs:Int),vi (ouN (c.gs.getD p.toNat gZ) qs:Int)]) rfl rfl)<|Ze (X4 (vs:=[vi (inN (c.gs.getD p.toNat gZ) qs:Int),vi (ouN (c.gs.getD p.toNat gZ) qs:Int)]) rfl rfl)<|Za rfl<|Za rfl ?_;refine ZX aW fun a e _ aX=>?_;refine X0o (fun a w=>Fr a 79 [(1,vi p),(2,.slice Aqs qs.length cqs),(3,.pointer (some ⟨b4,0,none⟩)),(42,.bool (((inN (c.gs.getD p.toNat gZ) qs:Int)==0)||(decide (0<(ouN (c.gs.getD p.toNat gZ) qs:Int)))))]∧w4=w) ?_ ?_
 ·refine Zr e<|Zm rfl<|Ze (X13 rfl rfl)<|Zm rfl ?_
  refine Zg 39 rfl (fun t=>?_) (fun t=>?_)
  ·refine Zp (gP t) ?_;refine Zp (gP t) ?_;refine Ze (Xn rfl t rfl) ?_;refine Zn fun a e=>?_;exact ⟨e.sub ⟨rfl,rfl,rfl,X1 rfl (by first|rfl|(simp only [j,t,bs];done)|simp [j,t]),trivial⟩,rfl⟩
  refine Zv (gW t) (Xa rfl) ?_;refine Zv (gW t) (X3a rfl rfl) ?_;refine Ze (Xj rfl t rfl) ?_;refine Zn fun a e=>?_;exact ⟨e.sub ⟨rfl,rfl,rfl,X1 rfl (by first|rfl|(simp only [j,t,bs];done)|simp [j,t]),trivial⟩,rfl⟩
 rintro a _ ⟨e,rfl⟩;refine aX _ _ ?_
 refine Xk e rfl (fun H=>?_) (fun H=>?_)
 ·have o:=H
  have aC:runB c p qs=false:=by unfold runB;rw [U.1.1,U.1.2,U.2,X89,← X8u];revert H;by_cases h8:inN (c.gs.getD p.toNat gZ) qs=0<;>by_cases h7:ouN (c.gs.getD p.toNat gZ) qs=0<;>simp [h8,h7]<;>omega
  have E:=Xbs aC;refine Zs e fun _ aY=>?_;refine Za rfl<|Za rfl<|Zt aY fun a e=>?_;refine wp_ret<|X3<|X2 e (X0w e rfl rfl rfl) ?_
  rw [E]
  exact ⟨none,0,rfl,(Own.nil _ _ _ _ _),C⟩
 have o:=H
 have aZ:runB c p qs=true:=by unfold runB;rw [U.1.1,U.1.2,U.2,X89,← X8u];revert H;by_cases h8:inN (c.gs.getD p.toNat gZ) qs=0<;>by_cases h7:ouN (c.gs.getD p.toNat gZ) qs=0<;>simp [h8,h7]<;>omega
 have b0:=Xeh aZ;refine wp_skip<|aU _ _<|Zs e fun _ b1=>?_;refine Za rfl<|ZX b1 fun a e _ aI=>?_;refine Zs e fun _ b2=>?_;refine Zm rfl<|Za rfl<|Zt b2 fun a e=>?_;refine wp_block<|X0b (σ:=Nat×Int×(List Int)) (fun (s:Nat×Int×(List Int)) (a:Act) (w:World)=>match s with|(k,x,q)=>∃ I J,Fr a 79 [(2,.slice Aqs qs.length cqs),(3,.pointer (some ⟨b4,0,none⟩)),(10,.slice I q.length J),(11,vi x)]∧(x=p+(k:Int))∧(RnS c p qs k q)∧Blk w b4 28 [vi c.n,.slice Ac c.gs.length cc]∧Own w Q.heap.size 3 1 encI I J q∧Rd w Q.heap.size 115 encG Ac c.gs∧Rd w Q.heap.size 3 encI Aqs qs∧Below Q.heap.size Q w) (fun (s:Nat×Int×(List Int))=>match s with|(k,x,q)=>c.gs.length+1-(p.toNat+k)) (0,p,[]) ?_ ?_
 ·exact ⟨none,0,e.sb,(by simp),(Xdv aZ),g,(Own.nil _ _ _ _ _),f,d,C⟩
 rintro ⟨k,x,q⟩ a w5 ⟨I,J,e,hx,hS,g,z,f,d,C⟩;refine wp_seq_k fun _ b3=>?_;refine wp_seq_k fun _ b5=>?_;refine X0o (fun a w=>Fr a 79 [(2,.slice Aqs qs.length cqs),(3,.pointer (some ⟨b4,0,none⟩)),(10,.slice I q.length J),(11,vi x),(53,.bool ((decide (x<(c.gs.length:Int)))&&(decide ((q.length:Int)<6))))]∧w5=w) ?_ ?_
 ·refine Zr e<|Zm rfl<|Ze (Vd rfl X0v 1)<|Ze (X0 rfl X15 (g.at 1))<|Ze (X0x rfl Xf)<|Ze (X10 rfl rfl) ?_;refine Zm rfl ?_
  refine Zg 49 rfl (fun m=>?_) (fun m=>?_)
  ·refine Zv (gW m) (Xa rfl) ?_;refine Zv (gW m) (X0x rfl X08) ?_;refine Zv (gW m) (X10 rfl rfl) ?_;refine Ze (Xn rfl m rfl) ?_;refine Zn fun a e=>?_;exact ⟨e.sub ⟨rfl,rfl,rfl,rfl,X1 rfl (by first|rfl|(simp only [j,o,m,bs];done)|simp [j,o,m]),trivial⟩,rfl⟩
  refine Zp (gP m) ?_;refine Zp (gP m) ?_;refine Zp (gP m) ?_;refine Ze (Xj rfl m rfl) ?_;refine Zn fun a e=>?_;exact ⟨e.sub ⟨rfl,rfl,rfl,rfl,X1 rfl (by first|rfl|(simp only [j,o,m,bs];done)|simp [j,o,m]),trivial⟩,rfl⟩
 rintro a _ ⟨e,rfl⟩;refine b5 _ _ ?_
 refine Xk e rfl (fun L=>?_) (fun L=>?_)
 ·have G:=L
  obtain ⟨bZ,c4⟩ : x<(c.gs.length:Int)∧(q.length:Int)<6:=by simpa using L
  have aN:q.length<6:=by omega
  obtain ⟨D,aG⟩:=Xi (l:=c.gs) (k:=p.toNat+k) (by omega)
  refine wp_skip<|b3 _ _<|wp_seq_k fun _ aJ=>?_;refine wp_block<|Zs e fun _ b6=>?_;refine Ze (Vd rfl X0v 1)<|Ze (X0 rfl X15 (g.at 1))<|Zm rfl<|Zi (k:=(p.toNat+k)) (u:=D) (enc:=encG) (l:=c.gs) trivial rfl rfl Xf X0p Xb f aG (by omega) ?_;intro cA aO;refine Ze (X07 (l:=[vi D.k,vi D.a,vi D.b]) rfl X0g aO rfl)<|Zm rfl<|Zf (Vc (Xlq _ D Aqs cqs qs d.top aK) Xcd) ?_;rintro _ w6 ⟨rfl,h⟩;have g:=g.below h;have z:=z.below h;have f:=f.below h;have d:=d.below h;have C:=btr C h;refine Zm rfl<|Ze (X4 (vs:=[vi (inN D qs:Int),vi (ouN D qs:Int)]) rfl rfl)<|Ze (X4 (vs:=[vi (inN D qs:Int),vi (ouN D qs:Int)]) rfl rfl)<|Za rfl<|Za rfl ?_;refine ZX b6 fun a e _ b7=>?_;refine wp_seq_k fun _ b8=>?_;refine X0o (fun a w=>Fr a 79 [(2,.slice Aqs qs.length cqs),(3,.pointer (some ⟨b4,0,none⟩)),(10,.slice I q.length J),(11,vi x),(12,vi (inN D qs:Int)),(71,.bool ((decide (0<(inN D qs:Int)))&&(decide (0<(ouN D qs:Int)))))]∧w6=w) ?_ ?_
  ·refine Zr e<|Zm rfl<|Ze (X3a rfl rfl)<|Zm rfl ?_
   refine Zg 68 rfl (fun y=>?_) (fun y=>?_)
   ·refine Zv (gW y) (Xa rfl) ?_;refine Zv (gW y) (X3a rfl rfl) ?_;refine Ze (Xn rfl y rfl) ?_;refine Zn fun a e=>?_;exact ⟨e.sub ⟨rfl,rfl,rfl,rfl,rfl,X1 rfl (by first|rfl|(simp only [j,o,G,y,bs];done)|simp [j,o,G,y]),trivial⟩,rfl⟩
   refine Zp (gP y) ?_;refine Zp (gP y) ?_;refine Ze (Xj rfl y rfl) ?_;refine Zn fun a e=>?_;exact ⟨e.sub ⟨rfl,rfl,rfl,rfl,rfl,X1 rfl (by first|rfl|(simp only [j,o,G,y,bs];done)|simp [j,o,G,y]),trivial⟩,rfl⟩
  rintro a _ ⟨e,rfl⟩;refine b8 _ _ ?_
  refine Xk e rfl (fun M=>?_) (fun M=>?_)
  ·have aP:=M
   have W:(decide (0<(inN D qs:Int))&&decide (0<(ouN D qs:Int)))=true:=M
   rw [Xli] at W
   have b9:tchB D qs=true∧insB D qs=false:=by revert W;cases tchB D qs<;>cases insB D qs<;>simp
   have E:=Xdf hS aG aN b9.2 b9.1;refine wp_exit<|Xl<|Xhp rfl ?_;refine Xl<|Xl<|X0a<|aI _ _ ?_;refine Zs e fun _ bC=>?_;refine Zm rfl<|Za rfl<|Za rfl<|Zt bC fun a e=>?_
   refine wp_ret (X2 e (X0w e rfl rfl rfl) ?_)
   rw [b0]
   rw [← E]
   exact ⟨I,J,rfl,z,C⟩
  have aP:=M
  have W:(decide (0<(inN D qs:Int))&&decide (0<(ouN D qs:Int)))=false:=M
  rw [Xli] at W
  refine wp_skip<|b7 _ _<|Zs e fun _ bD=>?_;refine Zm rfl<|Ze (X3a rfl rfl)<|Zt bD fun a e=>?_
  refine Xk e rfl (fun B=>?_) (fun B=>?_)
  ·have aQ:=B;have B:=of_decide_eq_true B
   have aH:tchB D qs=true:=by rw [← X8u];exact decide_eq_true B
   have aR:insB D qs=true:=by rw [aH] at W;simpa using W
   refine Zr e<|Zm rfl<|Zm rfl<|Zf (X5 (k:=1) (vs:=[vi x]) (zs:=[vi x]) rfl X08 X1o rfl rfl) ?_;rintro _ w7 ⟨cB,rfl,aD,h,aE⟩;have bP:=Nat.le_trans C.size aD;have aA:=z.away aD;have bE:=d.away aD;have g:=g.below h;have z:=z.below h;have f:=f.below h;have d:=d.below h;have C:=btr C h;refine Zf (X11 (enc:=encI) (l:=(q)) (l2:=([x])) (B0:=Q.heap.size) rfl rfl X08 X1o X02 X2v z (Rd.of_blk aE rfl _ aE.lt) (by simp only [maxLen];simp;omega) (by simp;omega) C.size) ?_;rintro _ w8 ⟨bQ,bR,rfl,bF,hg,bG⟩
   have N:Own _ Q.heap.size 3 1 encI _ _ (q):=z
   have aS:=bG _ aE.lt aA;clear bG;have g:=g.appT N hg rfl;have f:=f.appT N hg rfl;have d:=d.appB N hg (Nat.le_refl _);have C:=Below.app C N hg (Nat.le_refl _) C.size;clear N hg;refine Za rfl ?_;refine Zn fun a e=>?_;refine Xt<|aJ _ _<|Zr e<|Zm rfl<|Ze (X06 rfl rfl (by omega) (by omega))<|Za rfl ?_;refine Zn fun a e=>?_;refine Xp ?_;exact ⟨(k+1,x+1,q++([x])),⟨bQ,bR,e.sb,(by omega),(Xg6 hx hS aG aN aR),g,bF,f,d,C⟩,(by first|omega|(dsimp only;omega))⟩
  have aQ:=B;have B:=of_decide_eq_false B
  have aH:tchB D qs=false:=by rw [← X8u];exact decide_eq_false B
  have aR:insB D qs=false:=by rw [X89,aH];rfl
  refine wp_skip<|Xt<|aJ _ _<|Zr e ?_;refine Zm rfl<|Ze (X06 rfl rfl (by omega) (by omega))<|Za rfl ?_;refine Zn fun a e=>?_;refine Xp ?_;exact ⟨(k+1,x+1,q),⟨I,J,e.sb,(by omega),(Xks hS aG aN aR aH),g,z,f,d,C⟩,(by first|omega|(dsimp only;omega))⟩
 have G:=L
 have E:=Xhh hS (by have h9:¬ (x<(c.gs.length:Int)∧(q.length:Int)<6):=(by simpa using L);omega)
 refine wp_exit<|Xl<|Xl<|X0a ?_;refine aI _ _<|Zs e fun _ bH=>?_;refine Zm rfl<|Za rfl<|Za rfl<|Zt bH fun a e=>?_
 refine wp_ret (X2 e (X0w e rfl rfl rfl) ?_)
 rw [b0]
 rw [← E]
 exact ⟨I,J,rfl,z,C⟩
theorem Xrq(W:World)(c:Cx)(Ac:Option Addr)(cc:Nat)(d:Rd W W.heap.size 115 encG Ac c.gs)(N:c.gs.length≤cc)(p:Int)(Aqs:Option Addr)(cqs:Nat)(qs:List Int)(y:Rd W W.heap.size 3 encI Aqs qs)(Aws:Option Addr)(cws:Nat)(ws:List Gt)(t:Rd W W.heap.size 115 encG Aws ws)(dG:c.gs.length≤1000000000)(dT:ws.length≤1000000)(bZ:qs.length≤1048576) : Ret Tryz.prog 90 [.agg #[vi c.n,.slice Ac c.gs.length cc],vi p,.slice Aqs qs.length cqs,.slice Aws ws.length cws] W (fun v w=>∃ A9 e9 B9 f9,v=.tuple #[.agg #[vi (((runP c p qs).bind fun run=>repX c p run qs ws).getD rpZ).pos,.slice A9 (((runP c p qs).bind fun run=>repX c p run qs ws).getD rpZ).old.length e9,.slice B9 (((runP c p qs).bind fun run=>repX c p run qs ws).getD rpZ).new.length f9],.bool ((runP c p qs).bind fun run=>repX c p run qs ws).isSome]∧Own w W.heap.size 115 3 encG A9 e9 (((runP c p qs).bind fun run=>repX c p run qs ws).getD rpZ).old∧Own w W.heap.size 115 3 encG B9 f9 (((runP c p qs).bind fun run=>repX c p run qs ws).getD rpZ).new∧Apart A9 B9∧Below W.heap.size W w):=by
 obtain ⟨rr,c4⟩ : ∃ rr,rr=(runP c p qs).getD []:=⟨_,rfl⟩
 obtain ⟨ro,bH⟩ : ∃ ro:Bool,ro=(runP c p qs).isSome:=⟨_,rfl⟩
 refine enter Tryz.func90 rfl 100 rfl rfl ?_;intro a z
 have D:=bz W
 refine Zs z fun _ dH=>?_;refine Zf (X0i (zs:=[vi c.n,.slice Ac c.gs.length cc]) rfl rfl) ?_;rintro _ w1 ⟨b5,rfl,dI,g,o⟩;have dN:=Nat.le_trans D.size dI;have d:=d.below g;have y:=y.below g;have t:=t.below g;have D:=btr D g;refine Zf (X8 (zs:=[vi 0,.slice none 0 0,.slice none 0 0]) X2l rfl) ?_;rintro _ w2 ⟨b8,rfl,dJ,g,f⟩;have aS:=Nat.le_trans D.size dJ;have o:=o.below g;have d:=d.below g;have y:=y.below g;have t:=t.below g;have D:=btr D g;refine Za rfl<|Zx dH fun a z _ dK=>?_;refine Ze (Vn X1l o)<|Zm rfl<|Zm rfl<|Zf (X1x (vs:=[.agg #[vi c.n,.slice Ac c.gs.length cc],vi p,.slice Aqs qs.length cqs]) rfl Xb5 (by have hq:=Xmm w2 c Ac cc d.top p Aqs cqs qs y.top dG bZ;rw [← c4,← bH] at hq;exact hq)) ?_;rintro _ w3 ⟨aI,aJ,rfl,e,g⟩;have e:=e.lower D.size;have o:=o.below g;have f:=f.below g;have d:=d.below g;have y:=y.below g;have t:=t.below g;have D:=btr D g;refine Zm rfl<|Ze (X4 (vs:=[.slice aI rr.length aJ,.bool ro]) rfl rfl)<|Ze (X4 (vs:=[.slice aI rr.length aJ,.bool ro]) rfl rfl)<|Za rfl<|Za rfl ?_;refine ZX dK fun a z _ cA=>?_;refine Zs z fun _ cB=>?_;refine Zm rfl<|Ze (X0z rfl)<|Zt cB fun a z=>?_
 refine Xk z rfl (fun aK=>?_) (fun aK=>?_)
 ·have E:=aK
  have cC:(runP c p qs).isSome=false:=by rw [← bH];simpa using aK
  have aC:((runP c p qs).bind fun run=>repX c p run qs ws)=none:=by rw [X8k cC];rfl
  refine Zs z fun _ cD=>?_;refine Ze (Xg (ps:=[]) (cs:=[vi 0,.slice none 0 0,.slice none 0 0]) rfl (fun _=>by first|rfl|kernel_rfl))<|Zo (Vw [vi 0,.slice none 0 0,.slice none 0 0] X14 f) ?_;rintro _ w4 ⟨M,hb⟩;have A:=f;have D:=Below.only D M aS;have f:=hb;refine Za rfl<|Zt cD fun a z=>?_;refine wp_ret<|X3<|X2 z (X0w z rfl (ResV.cellN (l:=[vi 0,.slice none 0 0,.slice none 0 0]) rfl X1a (f.at 0) rfl) rfl) ?_
  rw [aC]
  exact ⟨none,0,none,0,rfl,(Own.nil _ _ _ _ _),(Own.nil _ _ _ _ _),(Apart.none_l _),D⟩
 have E:=aK
 obtain ⟨cE,bI,cF⟩:=Xbb (c:=c) (p:=p) (qs:=qs) (by rw [← bH];simpa using aK)
 have b9:rr=runL c p qs:=by rw [c4,cF];rfl
 have dO:c.gs.length≤400:=(X12 cE).2.1
 obtain ⟨j9,aU,dU,cG,bE⟩:=Xac bI
 rw [← b9] at aU bE
 have dW:=Xed aU cG
 have dP:rr.length≤6:=by rw [b9];exact X78 ..
 have dQ:1≤rr.length:=by rw [b9];exact X86 bI
 have cH:0≤p:=by obtain ⟨_,_,k9,e9,_⟩:=X2e bI;omega
 have bJ:((runP c p qs).bind fun run=>repX c p run qs ws)=repX c p rr qs ws:=by rw [cF,b9];rfl
 refine wp_skip<|cA _ _<|wp_seq_k fun _ cJ=>?_;refine Zs z fun _ cK=>?_;refine Zm rfl<|Ze (X0x rfl Xf)<|Zm rfl<|Zt cK fun a z=>?_;refine wp_block<|X0b (σ:=Nat) (fun (k:Nat) (a:Act) (w:World)=>Fr a 100 [(1,vi p),(2,.slice Aqs qs.length cqs),(3,.slice Aws ws.length cws),(4,.pointer (some ⟨b5,0,none⟩)),(8,.pointer (some ⟨b8,0,none⟩)),(10,.slice aI rr.length aJ),(27,.slice Aws ws.length cws),(28,vi (ws.length:Int)),(29,vi (k:Int))]∧(k≤ws.length)∧((ws.take k).all (ftB c.n qs)=true)∧Blk w b5 28 [vi c.n,.slice Ac c.gs.length cc]∧Blk w b8 46 [vi 0,.slice none 0 0,.slice none 0 0]∧Rd w W.heap.size 115 encG Ac c.gs∧Rd w W.heap.size 3 encI Aqs qs∧Rd w W.heap.size 115 encG Aws ws∧Own w W.heap.size 3 1 encI aI aJ rr∧c.gs.length≤cc∧Below W.heap.size W w) (fun (k:Nat)=>ws.length-k) 0 ?_ ?_
 ·exact ⟨z.sb,(Nat.zero_le _),(by simp),o,f,d,y,t,e,N,D⟩
 rintro k a w5 ⟨z,bK,bL,o,f,d,y,t,e,N,D⟩;refine Zs z fun _ cL=>?_;refine Ze (X10 rfl rfl)<|ZX cL fun a z _ cM=>?_
 refine Xk z rfl (fun aD=>?_) (fun aD=>?_)
 ·have G:=aD;have aD:=of_decide_eq_true aD
  obtain ⟨Q,aZ⟩:=Xi (l:=ws) (k:=k) (by omega)
  refine wp_skip<|cM _ _<|wp_seq_k fun _ cN=>?_;refine wp_block<|Zs z fun _ cO=>?_;refine Zi (k:=k) (u:=Q) (enc:=encG) (l:=ws) trivial rfl rfl Xf X0p Xb t aZ rfl ?_;intro dX bM;refine Ze (X07 (l:=[vi Q.k,vi Q.a,vi Q.b]) rfl X0g bM rfl)<|Zf (X8 (zs:=[vi 0,vi 0,vi 0]) X2i rfl) ?_;rintro _ w6 ⟨dY,rfl,b0,g,aA⟩;have aP:=Nat.le_trans D.size b0;have cP:=d.away b0;have cQ:=t.away b0;have o:=o.below g;have f:=f.below g;have d:=d.below g;have y:=y.below g;have t:=t.below g;have e:=e.below g;have D:=btr D g;refine Zo (Vw [vi Q.k,vi Q.a,vi Q.b] X0p aA) ?_;rintro _ w7 ⟨M,hb⟩;have A:=aA;have o:=o.only M (Blk.ne o A rfl);have f:=f.only M (Blk.ne f A rfl);have d:=d.only M aP;have y:=y.onlyT M A rfl;have t:=t.only M aP;have e:=e.onlyT M A rfl;have D:=Below.only D M aP;have aA:=hb;refine ZX cO fun a z _ cR=>?_;refine X0o (fun a w=>Fr a 100 [(1,vi p),(2,.slice Aqs qs.length cqs),(3,.slice Aws ws.length cws),(4,.pointer (some ⟨b5,0,none⟩)),(8,.pointer (some ⟨b8,0,none⟩)),(10,.slice aI rr.length aJ),(27,.slice Aws ws.length cws),(28,vi (ws.length:Int)),(29,vi (k:Int)),(48,.bool ((!(gOk c.n Q))||((Q.k != 12)&&(!(insB Q qs)))))]∧Below w7.heap.size w7 w) ?_ ?_
  ·have aQ:Below w7.heap.size w7 w7:=Below.refl _ _
   refine Zr z<|Ze (Vd rfl X1u 0)<|Ze (X0 rfl X7 (o.at 0))<|Ze (Vn X0g aA)<|Zf (Vc (Xsi _ c.n Q) Xfy) ?_;rintro _ w8 ⟨rfl,g⟩;have aA:=aA.below g;have y:=y.below g;have D:=btr D g;have aQ:=btr aQ g;refine Ze (X0z rfl)<|Zm rfl ?_
   refine Zg 38 rfl (fun C=>?_) (fun C=>?_)
   ·refine Zp (gP C) ?_;refine Zp (gP C) ?_;refine Zp (gP C) ?_;refine Zp (gP C) ?_;refine Zp (gP trivial) ?_;refine Zp (gP trivial) ?_;refine Zp (gP trivial) ?_;refine Zp (gP trivial) ?_;refine Zp (gP C) ?_;refine Ze (Xn rfl C rfl) ?_;refine Zn fun a z=>?_
    have b1:Below w7.heap.size w7 w8:=aQ
    exact ⟨z.sub ⟨rfl,rfl,rfl,rfl,rfl,rfl,rfl,rfl,rfl,X1 rfl (by first|rfl|(simp only [E,G,C,bs];done)|simp [E,G,C]),trivial⟩,b1⟩
   refine Zv (gW C) (Vd rfl X0n 0) ?_;refine Zv (gW C) (X0 rfl X7 (aA.at 0)) ?_;refine Zv (gW C) (X2h rfl rfl) ?_;refine Zv (gW C) (Xa rfl) ?_
   refine Zg 42 rfl (fun H=>?_) (fun H=>?_)
   ·refine Zv (gW H) (Vn X0g aA) ?_;refine Zv (gW H) (Xa rfl) ?_;refine Zk (gW H) (Vc (Xkc _ Q Aqs cqs qs y.top bZ) Xbv) ?_;rintro _ w9 ⟨rfl,g⟩;have D:=btr D g;have aQ:=btr aQ g;refine Zv (gW H) (X0z rfl) ?_;refine Zv (gW C) (Xn rfl H rfl) ?_;refine Ze (Xj rfl C rfl) ?_;refine Zn fun a z=>?_
    have b1:Below w7.heap.size w7 w9:=aQ
    exact ⟨z.sub ⟨rfl,rfl,rfl,rfl,rfl,rfl,rfl,rfl,rfl,X1 rfl (by first|rfl|(simp only [E,G,C,H,bs];done)|simp [E,G,C,H]),trivial⟩,b1⟩
   refine Zp (gP H) ?_;refine Zp (gP H) ?_;refine Zp (gP H) ?_;refine Zp (gP H) ?_;refine Zv (gW C) (Xj rfl H rfl) ?_;refine Ze (Xj rfl C rfl) ?_;refine Zn fun a z=>?_
   have b1:Below w7.heap.size w7 w8:=aQ
   exact ⟨z.sub ⟨rfl,rfl,rfl,rfl,rfl,rfl,rfl,rfl,rfl,X1 rfl (by first|rfl|(simp only [E,G,C,H,bs];done)|simp [E,G,C,H]),trivial⟩,b1⟩
  rintro a e8 ⟨z,g⟩;have o:=o.below g;have f:=f.below g;have d:=d.below g;have y:=y.below g;have t:=t.below g;have e:=e.below g;have D:=btr D g;refine cR _ _ ?_
  refine Xk z rfl (fun aL=>?_) (fun aL=>?_)
  ·have bN:=aL
   have h8:ftB c.n qs Q=false:=by have h9:=aL;rw [Xhk] at h9;simpa using h9
   have aC:=bJ.trans (Xc5 (Xen aZ h8));refine Zs z fun _ cS=>?_;refine Ze (Xg (ps:=[]) (cs:=[vi 0,.slice none 0 0,.slice none 0 0]) rfl (fun _=>by first|rfl|kernel_rfl))<|Zo (Vw [vi 0,.slice none 0 0,.slice none 0 0] X14 f) ?_;rintro _ eA ⟨M,hb⟩;have A:=f;have D:=Below.only D M aS;have f:=hb;refine Za rfl<|Zt cS fun a z=>?_;refine wp_ret<|Xr<|X3<|X3 ?_;refine Xr<|X3<|X2 z (X0w z rfl (ResV.cellN (l:=[vi 0,.slice none 0 0,.slice none 0 0]) rfl X1a (f.at 0) rfl) rfl) ?_
   rw [aC]
   exact ⟨none,0,none,0,rfl,(Own.nil _ _ _ _ _),(Own.nil _ _ _ _ _),(Apart.none_l _),D⟩
  have bN:=aL
  have h8:ftB c.n qs Q=true:=by have h9:=aL;rw [Xhk] at h9;simpa using h9
  refine wp_skip<|Xt<|cN _ _<|Zr z ?_;refine Ze (X06 rfl rfl (by omega) (by omega))<|Zm rfl ?_;refine Zn fun a z=>?_;refine Xp ?_;exact ⟨k+1,⟨z.sb,(by omega),(Xg5 bL aZ h8),o,f,d,y,t,e,N,D⟩,(by omega)⟩
 have G:=aD;have aD:=of_decide_eq_false aD
 have bF:ws.all (ftB c.n qs)=true:=by rw [List.take_of_length_le (by omega)] at bL;exact bL
 refine wp_exit<|Xl<|Xl<|X0a ?_;refine cJ _ _<|Zs z fun _ cT=>?_;refine Zm rfl<|Zm rfl<|Ze (X0x rfl X08)<|Ze (X1h rfl rfl (by omega) (by omega))<|Zi (k:=(rr.length-1)) (u:=(lastI rr)) (enc:=encI) (l:=rr) trivial rfl rfl X08 X1j X02 e.rd bE (by omega) ?_;intro eB bO;refine Ze (X0 rfl X7 bO)<|Za rfl<|Zx cT fun a z _ cU=>?_;refine Zm rfl<|Ze (Vd rfl X0v 1)<|Ze (X0 rfl X15 (o.at 1))<|Zm rfl<|Zm rfl ?_;refine Ze (X06 rfl rfl (by omega) (by omega)) ?_;have cV:=((d.top).takeK Xb (j9+1)).dropK Xb (c:=cc) (Xho N (j9+1)) p.toNat;refine Ze (Xrp (l:=c.gs) (k:=p.toNat) (m:=(j9+1)) rfl rfl rfl Xf X0p (by omega) (by rw [aU];omega) (by omega) (by omega) N)<|Zf (Vc (X5b _ (if cc=p.toNat then Ac else Ac.map (·.add (p.toNat*3))) (cc-p.toNat) ((c.gs.take (j9+1)).drop p.toNat) cV.top (by simp;omega)) X2p) ?_;rintro _ eC ⟨aG,aH,rfl,i,g⟩;have i:=i.lower D.size;have o:=o.below g;have f:=f.below g;have d:=d.below g;have t:=t.below g;have e:=e.below g;have D:=btr D g;refine Zm rfl<|Zf (Vc (X5b _ Aws cws ws t.top (by omega)) X2p) ?_;rintro _ eD ⟨bC,bD,rfl,aB,g⟩;have aW:=i.apart aB (Nat.le_refl _);have aB:=aB.lower D.size;have o:=o.below g;have f:=f.below g;have d:=d.below g;have e:=e.below g;have i:=i.below g;have D:=btr D g;refine Ze (Xg (ps:=[(0,vi p),(1,.slice aG ((c.gs.take (j9+1)).drop p.toNat).length aH),(2,.slice bC ws.length bD)]) (cs:=[vi p,.slice aG ((c.gs.take (j9+1)).drop p.toNat).length aH,.slice bC ws.length bD]) rfl (fun _=>by first|rfl|kernel_rfl))<|Zf (X8 (zs:=[vi 0,.slice none 0 0,.slice none 0 0]) X2l rfl) ?_;rintro _ eE ⟨b46,rfl,cW,g,B⟩
 have cX:b8≠b46:=by have:=f.lt;omega
 have b2:=Nat.le_trans D.size cW;have o:=o.below g;have f:=f.below g;have d:=d.below g;have e:=e.below g;have i:=i.below g;have aB:=aB.below g;have D:=btr D g;refine Zo (Vw [vi p,.slice aG ((c.gs.take (j9+1)).drop p.toNat).length aH,.slice bC ws.length bD] X14 B) ?_;rintro _ eF ⟨M,hb⟩;have A:=B;have o:=o.only M (Blk.ne o A rfl);have f:=f.only M (by omega);have d:=d.onlyT M A rfl;have e:=e.onlyT M A rfl;have i:=i.onlyT M A rfl;have aB:=aB.onlyT M A rfl;have D:=Below.only D M b2;have B:=hb;refine ZX cU fun a z _ cY=>?_;refine Zs z fun _ d5=>?_;refine Zm rfl<|Za rfl<|Zt d5 fun a z=>?_;refine wp_block<|X0b (σ:=Nat×Int×(List Gt)) (fun (s:Nat×Int×(List Gt)) (a:Act) (w:World)=>match s with|(k,x,q)=>∃ aM aR,Fr a 100 [(4,.pointer (some ⟨b5,0,none⟩)),(8,.pointer (some ⟨b8,0,none⟩)),(10,.slice aI rr.length aJ),(14,vi (lastI rr)),(15,.pointer (some ⟨b46,0,none⟩)),(16,vi x)]∧(x=p+(k:Int))∧(k≤winN rr p)∧(q=ws++gapL c rr p k)∧Blk w b5 28 [vi c.n,.slice Ac c.gs.length cc]∧Blk w b8 46 [vi 0,.slice none 0 0,.slice none 0 0]∧Blk w b46 46 [vi p,.slice aG ((c.gs.take (j9+1)).drop p.toNat).length aH,.slice aM q.length aR]∧Rd w W.heap.size 115 encG Ac c.gs∧Own w W.heap.size 3 1 encI aI aJ rr∧Own w W.heap.size 115 3 encG aG aH ((c.gs.take (j9+1)).drop p.toNat)∧Own w W.heap.size 115 3 encG aM aR q∧c.gs.length≤cc∧Apart aG aM∧Below W.heap.size W w) (fun (s:Nat×Int×(List Gt))=>match s with|(k,x,q)=>winN rr p-k) (0,p,ws) ?_ ?_
 ·exact ⟨bC,bD,z.sb,(by simp),(Nat.zero_le _),(by rw [Xef,List.append_nil]),o,f,B,d,e,i,aB,N,aW,D⟩
 rintro ⟨k,x,q⟩ a dL ⟨aM,aR,z,hx,hk,hq,o,f,B,d,e,i,J,N,L,D⟩;refine wp_seq_k fun _ d6=>?_;refine Zs z fun _ d7=>?_;refine Zm rfl<|Zm rfl<|Ze (Xel rfl rfl)<|Zt d7 fun a z=>?_
 refine Xk z rfl (fun U=>?_) (fun U=>?_)
 ·have aE:=U;have U:=of_decide_eq_true U
  have bK:k<winN rr p:=by have h9:=U;rw [aU] at h9;omega
  obtain ⟨u9,d8⟩:=Xi (l:=c.gs) (k:=p.toNat+k) (by omega)
  have dR:=X7l c rr p k
  have d9:q.length≤1000000+k:=by rw [hq,List.length_append];omega
  refine wp_skip<|d6 _ _<|wp_seq_k fun _ bG=>?_;refine wp_block<|Zs z fun _ dA=>?_;refine Zm rfl<|Zm rfl<|Zf (Vc (Xto _ aI aJ rr e.rd.top x (by omega)) Xev) ?_;rintro _ eG ⟨rfl,g⟩;have o:=o.below g;have f:=f.below g;have B:=B.below g;have d:=d.below g;have e:=e.below g;have i:=i.below g;have J:=J.below g;have D:=btr D g;refine Ze (X0z rfl)<|Zt dA fun a z=>?_
  refine Xk z rfl (fun aN=>?_) (fun aN=>?_)
  ·have bP:=aN
   have hT:hasB rr (p+(k:Int))=false:=by have h9:=aN;rw [Xc6,hx] at h9;simpa using h9
   refine X0h none (fun j=>[8,10].contains j) mixed ?_;intro eH g;have o:=o.below g;have f:=f.below g;have B:=B.below g;have d:=d.below g;have e:=e.below g;have i:=i.below g;have J:=J.below g;have D:=btr D g;refine Yb z<|Yo 0 rfl (fun _=>Vd rfl X2r 2)<|Ye 1 rfl (X0 rfl X15 (B.at 2))<|Yo 2 rfl (fun _=>Vd rfl X0v 1)<|Ye 3 rfl (X0 rfl X15 (o.at 1))<|Yo 4 rfl (fun _=>Xa rfl) ?_;refine Yi (k:=(p.toNat+k)) (u:=u9) (enc:=encG) (l:=c.gs) 5 rfl trivial rfl rfl Xf X0p Xb d d8 (by omega) ?_;intro eI bQ;refine Ye 6 rfl (X07 (l:=[vi u9.k,vi u9.a,vi u9.b]) rfl X0g bQ rfl)<|Y1 7 ?_;refine Yk rfl trivial (X5 (k:=1) (vs:=[.agg #[vi u9.k,vi u9.a,vi u9.b]]) (zs:=[vi u9.k,vi u9.a,vi u9.b]) rfl Xf Xo rfl rfl) (fun _ _ ⟨_,_,_,h,_⟩=>h) ?_;rintro _ eJ ⟨eK,rfl,aT,g,b3⟩;have dM:=Nat.le_trans D.size aT;have dB:=d.away aT;have bX:=i.away aT;have aX:=J.away aT;have o:=o.below g;have f:=f.below g;have B:=B.below g;have d:=d.below g;have e:=e.below g;have i:=i.below g;have J:=J.below g;have D:=btr D g;refine Y1 8<|Yt rfl trivial rfl (X11 (enc:=encG) (l:=(q)) (l2:=([u9])) (B0:=W.heap.size) rfl rfl Xf Xo Xb X0d J (Rd.of_blk b3 rfl _ b3.lt) (by simp only [maxLen];simp;omega) (by simp;omega) D.size) ?_;rintro _ eL ⟨bR,bS,rfl,b4,hg,bU⟩
   have aF:Own _ W.heap.size 115 3 encG _ _ (q):=J
   have bY:=bU _ b3.lt aX;have aY:=Apart.app i L bU;clear bU;have o:=o.appT aF hg rfl;have f:=f.appT aF hg rfl;have B:=B.appT aF hg rfl;have d:=d.appB aF hg (Nat.le_refl _);have e:=e.appT aF hg rfl;have i:=i.appP hg L;have D:=Below.app D aF hg (Nat.le_refl _) D.size;clear aF hg;refine Yo 9 rfl (fun _=>Vd rfl X2r 2)<|Y1 10 ?_;refine Yh rfl trivial rfl (Vu (vs:=[.slice bR (q++([u9])).length bS]) (l':=[vi p,.slice aG ((c.gs.take (j9+1)).drop p.toNat).length aH,.slice bR (q++([u9])).length bS]) rfl rfl Xh9 B) ?_;rintro _ eM ⟨M,hb⟩;have A:=B;have o:=o.only M (Blk.ne o A rfl);have f:=f.only M (by omega);have d:=d.onlyT M A rfl;have e:=e.onlyT M A rfl;have i:=i.onlyT M A rfl;have b4:=b4.onlyT M A rfl;have D:=Below.only D M b2;have B:=hb;refine Yd fun a z=>?_;refine Xt<|bG _ _<|Zr z<|Zm rfl<|Ze (X06 rfl rfl (by omega) (by omega))<|Za rfl ?_;refine Zn fun a z=>?_;refine Xp ?_;exact ⟨(k+1,x+1,(q++[u9])),⟨bR,bS,z.sb,(by omega),(by omega),(Xi5 cH hq hT d8),o,f,B,d,e,i,b4,N,aY,D⟩,(by first|omega|(dsimp only;omega))⟩
  have bP:=aN
  have hT:hasB rr (p+(k:Int))=true:=by have h9:=aN;rw [Xc6,hx] at h9;simpa using h9
  refine wp_skip<|Xt<|bG _ _<|Zr z ?_;refine Zm rfl<|Ze (X06 rfl rfl (by omega) (by omega))<|Za rfl ?_;refine Zn fun a z=>?_;refine Xp ?_;exact ⟨(k+1,x+1,q),⟨aM,aR,z.sb,(by omega),(by omega),(Xej hq hT),o,f,B,d,e,i,J,N,L,D⟩,(by first|omega|(dsimp only;omega))⟩
 have aE:=U;have U:=of_decide_eq_false U
 have bK:k=winN rr p:=by have h9:=U;rw [aU] at h9;omega
 have b6:=Xd6 hq bK
 have b7:(newR c p rr ws).old=_:=Xe6 cH aU cG
 have dS:=X7l c rr p k
 have d9:q.length≤1000000+1000000000:=by rw [hq,List.length_append];omega
 refine wp_exit<|Xl<|Xl<|X0a ?_;refine cY _ _<|wp_seq_k fun _ dC=>?_;refine wp_seq_k fun _ dD=>?_;refine X0o (fun a w=>Fr a 100 [(8,.pointer (some ⟨b8,0,none⟩)),(15,.pointer (some ⟨b46,0,none⟩)),(97,.bool ((decide (40<(((c.gs.take (j9+1)).drop p.toNat).length:Int)))||(decide (40<(q.length:Int)))))]∧dL=w) ?_ ?_
 ·refine Zr z<|Ze (Vd rfl X50 1)<|Ze (X0 rfl X15 (B.at 1))<|Ze (X0x rfl Xf)<|Ze (X3a rfl rfl)<|Zm rfl ?_
  refine Zg 92 rfl (fun I=>?_) (fun I=>?_)
  ·refine Zp (gP I) ?_;refine Zp (gP I) ?_;refine Zp (gP I) ?_;refine Zp (gP I) ?_;refine Ze (Xn rfl I rfl) ?_;refine Zn fun a z=>?_;exact ⟨z.sub ⟨rfl,rfl,X1 rfl (by first|rfl|(simp only [E,G,aE,I,bs];done)|simp [E,G,aE,I]),trivial⟩,rfl⟩
  refine Zv (gW I) (Vd rfl X2r 2) ?_;refine Zv (gW I) (X0 rfl X15 (B.at 2)) ?_;refine Zv (gW I) (X0x rfl Xf) ?_;refine Zv (gW I) (X3a rfl rfl) ?_;refine Ze (Xj rfl I rfl) ?_;refine Zn fun a z=>?_;exact ⟨z.sub ⟨rfl,rfl,X1 rfl (by first|rfl|(simp only [E,G,aE,I,bs];done)|simp [E,G,aE,I]),trivial⟩,rfl⟩
 rintro a _ ⟨z,rfl⟩;refine dD _ _ ?_
 refine Xk z rfl (fun aO=>?_) (fun aO=>?_)
 ·have bW:=aO
  have h9:40<(newR c p rr ws).old.length∨40<(newR c p rr ws).new.length:=by rw [b7,b6];have h8:=aO;simp only [Bool.or_eq_true,decide_eq_true_eq] at h8;omega
  have aC:=bJ.trans (Xgf bF h9);refine Zs z fun _ dE=>?_;refine Ze (Xg (ps:=[]) (cs:=[vi 0,.slice none 0 0,.slice none 0 0]) rfl (fun _=>by first|rfl|kernel_rfl))<|Zo (Vw [vi 0,.slice none 0 0,.slice none 0 0] X14 f) ?_;rintro _ eN ⟨M,hb⟩;have A:=f;have D:=Below.only D M aS;have f:=hb;refine Za rfl<|Zt dE fun a z=>?_;refine wp_ret<|X3<|X2 z (X0w z rfl (ResV.cellN (l:=[vi 0,.slice none 0 0,.slice none 0 0]) rfl X1a (f.at 0) rfl) rfl) ?_
  rw [aC]
  exact ⟨none,0,none,0,rfl,(Own.nil _ _ _ _ _),(Own.nil _ _ _ _ _),(Apart.none_l _),D⟩
 have bW:=aO
 have h9:¬ (40<(newR c p rr ws).old.length∨40<(newR c p rr ws).new.length):=by rw [b7,b6];have h8:=aO;simp only [Bool.or_eq_false_iff,decide_eq_false_iff_not] at h8;omega
 have aC:=bJ.trans (Xhi bF h9);refine wp_skip<|dC _ _<|Zs z fun _ dF=>?_;refine Ze (Vn X1a B)<|Zo (Vw [vi p,.slice aG ((c.gs.take (j9+1)).drop p.toNat).length aH,.slice aM q.length aR] X14 f) ?_;rintro _ eO ⟨M,hb⟩;have A:=f;have i:=i.onlyT M A rfl;have J:=J.onlyT M A rfl;have D:=Below.only D M aS;have f:=hb;refine Za rfl<|Zt dF fun a z=>?_
 refine wp_ret (X2 z (X0w z rfl (ResV.cellN (l:=[vi p,.slice aG ((c.gs.take (j9+1)).drop p.toNat).length aH,.slice aM q.length aR]) rfl X1a (f.at 0) rfl) rfl) ?_)
 rw [aC]
 simp only [Option.getD_some]
 rw [b7,b6]
 exact ⟨aG,aH,aM,aR,rfl,i,J,L,D⟩
theorem Xrr(w0:World)(c:Cx)(Ac:Option Addr)(cc:Nat)(g:Rd w0 w0.heap.size 115 encG Ac c.gs)(aX:c.gs.length≤cc)(Arr:Option Addr)(crr:Nat)(rr:List Int)(B:Rd w0 w0.heap.size 3 encI Arr rr)(Aqs:Option Addr)(cqs:Nat)(qs:List Int)(M:Rd w0 w0.heap.size 3 encI Aqs qs)(Aws:Option Addr)(cws:Nat)(ws:List Gt)(d:Rd w0 w0.heap.size 115 encG Aws ws)(p:Int)(lD:cOk c=true)(iK:runB c p qs=true)(iM:rr=runL c p qs)(nK:ws.length≤1000000)(mS:qs.length≤1048576) : Ret Tryz.prog 81 [.agg #[vi c.n,.slice Ac c.gs.length cc],.slice Arr rr.length crr,.slice Aqs qs.length cqs,.slice Aws ws.length cws] w0 (fun v w=>∃ A9 e9 B9 f9,v=.tuple #[.agg #[vi ((repX c p rr qs ws).getD rpZ).pos,.slice A9 ((repX c p rr qs ws).getD rpZ).old.length e9,.slice B9 ((repX c p rr qs ws).getD rpZ).new.length f9],.bool (repX c p rr qs ws).isSome]∧Own w w0.heap.size 115 3 encG A9 e9 ((repX c p rr qs ws).getD rpZ).old∧Own w w0.heap.size 115 3 encG B9 f9 ((repX c p rr qs ws).getD rpZ).new∧Apart A9 B9∧Below w0.heap.size w0 w):=by
 obtain ⟨mT,mU,nL⟩:=X12 lD
 have nA:c.gs.length≤400:=mU
 obtain ⟨N,fQ,nM,lE,j2⟩:=Xac iK
 rw [← iM] at fQ j2
 have nN:=Xed fQ lE
 have nB:rr.length≤6:=by rw [iM];exact X78 ..
 have nC:1≤rr.length:=by rw [iM];exact X86 iK
 have lF:0≤p:=by obtain ⟨_,_,k9,e9,_⟩:=X2e iK;omega
 obtain ⟨nO,lG⟩:=Xeg iK
 have gA:rr[0]? = some p:=by rw [iM,lG];rfl
 refine enter Tryz.func81 rfl 96 rfl rfl ?_;intro a G
 have i:=bz w0
 refine Zs G fun _ mW=>?_;refine Zf (X0i (zs:=[vi c.n,.slice Ac c.gs.length cc]) rfl rfl) ?_;rintro _ w1 ⟨b6,rfl,mX,e,L⟩;have nD:=Nat.le_trans i.size mX;have g:=g.below e;have B:=B.below e;have M:=M.below e;have d:=d.below e;have i:=btr i e;refine Zf (X8 (zs:=[vi 0,.slice none 0 0,.slice none 0 0]) X2l rfl) ?_;rintro _ w2 ⟨b9,rfl,mY,e,z⟩;have fF:=Nat.le_trans i.size mY;have L:=L.below e;have g:=g.below e;have B:=B.below e;have M:=M.below e;have d:=d.below e;have i:=btr i e;refine Za rfl<|ZX mW fun a G _ lH=>?_;refine Zs G fun _ lI=>?_;refine Zm rfl<|Ze (X0x rfl Xf)<|Zm rfl<|Zt lI fun a G=>?_;refine wp_block<|X0b (σ:=Nat) (fun (k:Nat) (a:Act) (w:World)=>Fr a 96 [(1,.slice Arr rr.length crr),(2,.slice Aqs qs.length cqs),(3,.slice Aws ws.length cws),(4,.pointer (some ⟨b6,0,none⟩)),(8,.pointer (some ⟨b9,0,none⟩)),(17,.slice Aws ws.length cws),(18,vi (ws.length:Int)),(19,vi (k:Int))]∧(k≤ws.length)∧((ws.take k).all (ftB c.n qs)=true)∧Blk w b6 28 [vi c.n,.slice Ac c.gs.length cc]∧Blk w b9 46 [vi 0,.slice none 0 0,.slice none 0 0]∧Rd w w0.heap.size 115 encG Ac c.gs∧Rd w w0.heap.size 3 encI Arr rr∧Rd w w0.heap.size 3 encI Aqs qs∧Rd w w0.heap.size 115 encG Aws ws∧c.gs.length≤cc∧Below w0.heap.size w0 w) (fun (k:Nat)=>ws.length-k) 0 ?_ ?_
 ·exact ⟨G.sb,(Nat.zero_le _),(by simp),L,z,g,B,M,d,aX,i⟩
 rintro k a w3 ⟨G,jF,jG,L,z,g,B,M,d,aX,i⟩;refine Zs G fun _ lJ=>?_;refine Ze (X10 rfl rfl)<|ZX lJ fun a G _ lK=>?_
 refine Xk G rfl (fun bP=>?_) (fun bP=>?_)
 ·have H:=bP;have bP:=of_decide_eq_true bP
  obtain ⟨aQ,fG⟩:=Xi (l:=ws) (k:=k) (by omega)
  refine wp_skip<|lK _ _<|wp_seq_k fun _ lL=>?_;refine wp_block<|Zs G fun _ lM=>?_;refine Zi (k:=k) (u:=aQ) (enc:=encG) (l:=ws) trivial rfl rfl Xf X0p Xb d fG rfl ?_;intro nP jH;refine Ze (X07 (l:=[vi aQ.k,vi aQ.a,vi aQ.b]) rfl X0g jH rfl)<|Zf (X8 (zs:=[vi 0,vi 0,vi 0]) X2i rfl) ?_;rintro _ w4 ⟨nQ,rfl,gB,e,bQ⟩;have f8:=Nat.le_trans i.size gB;have lN:=g.away gB;have lO:=d.away gB;have L:=L.below e;have z:=z.below e;have g:=g.below e;have B:=B.below e;have M:=M.below e;have d:=d.below e;have i:=btr i e;refine Zo (Vw [vi aQ.k,vi aQ.a,vi aQ.b] X0p bQ) ?_;rintro _ w5 ⟨E,hb⟩;have y:=bQ;have L:=L.only E (Blk.ne L y rfl);have z:=z.only E (Blk.ne z y rfl);have g:=g.only E f8;have B:=B.onlyT E y rfl;have M:=M.onlyT E y rfl;have d:=d.only E f8;have i:=Below.only i E f8;have bQ:=hb;refine ZX lM fun a G _ lP=>?_;refine Zs G fun _ lQ=>?_;refine Ze (Vd rfl X1u 0)<|Ze (X0 rfl X7 (L.at 0))<|Ze (Vn X0g bQ)<|Zf (Vc (Xvz _ c.n aQ mT) Xn1) ?_;rintro _ w6 ⟨rfl,e⟩;have L:=L.below e;have z:=z.below e;have bQ:=bQ.below e;have g:=g.below e;have B:=B.below e;have M:=M.below e;have d:=d.below e;have i:=btr i e;refine Ze (X0z rfl)<|Zt lQ fun a G=>?_
  refine Xk G rfl (fun dB=>?_) (fun dB=>?_)
  ·have jI:=dB
   have h8:ftB c.n qs aQ=false:=by unfold ftB;have h9:gOk c.n aQ=false:=(by simpa using dB);rw [h9];rfl
   have bR:=Xc5 (c:=c) (p:=p) (run:=rr) (qs:=qs) (Xen fG h8);refine Zs G fun _ lR=>?_;refine Ze (Xg (ps:=[]) (cs:=[vi 0,.slice none 0 0,.slice none 0 0]) rfl (fun _=>by first|rfl|kernel_rfl))<|Zo (Vw [vi 0,.slice none 0 0,.slice none 0 0] X14 z) ?_;rintro _ w7 ⟨E,hb⟩;have y:=z;have i:=Below.only i E fF;have z:=hb;refine Za rfl<|Zt lR fun a G=>?_;refine wp_ret<|X3<|Xr<|X3 ?_;refine X3<|Xr<|X3<|X2 G (X0w G rfl (ResV.cellN (l:=[vi 0,.slice none 0 0,.slice none 0 0]) rfl X1a (z.at 0) rfl) rfl) ?_
   rw [bR]
   exact ⟨none,0,none,0,rfl,(Own.nil _ _ _ _ _),(Own.nil _ _ _ _ _),(Apart.none_l _),i⟩
  have jI:=dB
  have j3:gOk c.n aQ=true:=by simpa using dB
  refine wp_skip<|lP _ _<|Zs G fun _ lS=>?_;refine Ze (Vn X0g bQ)<|Zm rfl<|Zf (Vc (Xlq _ aQ Aqs cqs qs M.top mS) Xcd) ?_;rintro _ w8 ⟨rfl,e⟩;have L:=L.below e;have z:=z.below e;have g:=g.below e;have B:=B.below e;have M:=M.below e;have d:=d.below e;have i:=btr i e;refine Zm rfl<|Ze (X4 (vs:=[vi (inN aQ qs:Int),vi (ouN aQ qs:Int)]) rfl rfl)<|Ze (X4 (vs:=[vi (inN aQ qs:Int),vi (ouN aQ qs:Int)]) rfl rfl)<|Za rfl<|Za rfl ?_;refine Zx lS fun a G _ lT=>?_;refine Zm rfl<|Ze (X3a rfl rfl)<|Zt lT fun a G=>?_
  refine Xk G rfl (fun aY=>?_) (fun aY=>?_)
  ·have jJ:=aY;have aY:=of_decide_eq_true aY
   have h8:ftB c.n qs aQ=false:=by unfold ftB;rw [decide_eq_true aY,j3];rfl
   have bR:=Xc5 (c:=c) (p:=p) (run:=rr) (qs:=qs) (Xen fG h8);refine Zs G fun _ lU=>?_;refine Ze (Xg (ps:=[]) (cs:=[vi 0,.slice none 0 0,.slice none 0 0]) rfl (fun _=>by first|rfl|kernel_rfl))<|Zo (Vw [vi 0,.slice none 0 0,.slice none 0 0] X14 z) ?_;rintro _ w9 ⟨E,hb⟩;have y:=z;have i:=Below.only i E fF;have z:=hb;refine Za rfl<|Zt lU fun a G=>?_;refine wp_ret<|Xr<|X3<|X3 ?_;refine Xr<|X3<|X2 G (X0w G rfl (ResV.cellN (l:=[vi 0,.slice none 0 0,.slice none 0 0]) rfl X1a (z.at 0) rfl) rfl) ?_
   rw [bR]
   exact ⟨none,0,none,0,rfl,(Own.nil _ _ _ _ _),(Own.nil _ _ _ _ _),(Apart.none_l _),i⟩
  have jJ:=aY;have aY:=of_decide_eq_false aY
  have h8:ftB c.n qs aQ=true:=by unfold ftB;rw [decide_eq_false aY,j3];rfl
  refine wp_skip<|Xt<|lL _ _<|Zr G ?_;refine Ze (X06 rfl rfl (by omega) (by omega))<|Zm rfl ?_;refine Zn fun a G=>?_;refine Xp ?_;exact ⟨k+1,⟨G.sb,(by omega),(Xg5 jG fG h8),L,z,g,B,M,d,aX,i⟩,(by omega)⟩
 have H:=bP;have bP:=of_decide_eq_false bP
 have j4:ws.all (ftB c.n qs)=true:=by rw [List.take_of_length_le (by omega)] at jG;exact jG
 refine wp_exit<|Xl<|Xl<|X0a ?_;refine lH _ _<|Zs G fun _ lV=>?_;refine Zm rfl<|Zm rfl<|Ze (X0x rfl X08)<|Ze (X1h rfl rfl (by omega) (by omega))<|Zi (k:=(rr.length-1)) (u:=(lastI rr)) (enc:=encI) (l:=rr) trivial rfl rfl X08 X1j X02 B j2 (by omega) ?_;intro nR jK;refine Ze (X0 rfl X7 jK)<|Za rfl<|ZX lV fun a G _ lW=>?_;refine X0o (fun a w=>∃ b52 aC aE bS cH,Fr a 96 [(1,.slice Arr rr.length crr),(4,.pointer (some ⟨b6,0,none⟩)),(8,.pointer (some ⟨b9,0,none⟩)),(14,vi (lastI rr)),(15,.pointer (some ⟨b52,0,none⟩))]∧w0.heap.size≤b52∧Blk w b52 46 [vi p,.slice aC ((c.gs.take (N+1)).drop p.toNat).length aE,.slice bS ws.length cH]∧b9≠b52∧Own w w0.heap.size 115 3 encG aC aE ((c.gs.take (N+1)).drop p.toNat)∧Own w w0.heap.size 115 3 encG bS cH ws∧Apart aC bS∧Below w3.heap.size w3 w) ?_ ?_
 ·have f:Below w3.heap.size w3 w3:=Below.refl _ _
  refine X0h none (fun j=>[18].contains j) mixed ?_;intro nS e;have L:=L.below e;have z:=z.below e;have g:=g.below e;have B:=B.below e;have d:=d.below e;have i:=btr i e;have f:=btr f e;refine Yb G<|Yo 0 rfl (fun _=>Xa rfl)<|Yi (k:=0) (u:=p) (enc:=encI) (l:=rr) 1 rfl trivial rfl rfl X08 X1j X02 B gA rfl ?_;intro nT jL;refine Ye 2 rfl (X0 rfl X7 jL)<|Yo 4 rfl (fun _=>Vd rfl X0v 1)<|Ye 5 rfl (X0 rfl X15 (L.at 1))<|Yo 6 rfl (fun _=>Xa rfl)<|Yi (k:=0) (u:=p) (enc:=encI) (l:=rr) 7 rfl trivial rfl rfl X08 X1j X02 B gA rfl ?_;intro nU jM;refine Ye 8 rfl (X0 rfl X7 jM)<|Yo 9 rfl (fun _=>Xa rfl)<|Yo 10 rfl (fun _=>X06 rfl rfl (by omega) (by omega)) ?_;have t:=((g.top).takeK Xb (N+1)).dropK Xb (c:=cc) (Xho aX (N+1)) p.toNat;refine Yo 11 rfl (fun _=>Xrp (l:=c.gs) (k:=p.toNat) (m:=(N+1)) rfl rfl rfl Xf X0p (by omega) (by rw [fQ];omega) (by omega) (by omega) aX)<|Yo 14 rfl (fun _=>Xa rfl) ?_;refine Y3 3 13 17 ?_ ?_ ?_
  ·refine Yk rfl trivial (X5 (k:=0) (vs:=[]) (zs:=[]) rfl Xf Xo rfl rfl) (fun _ _ ⟨_,_,_,h,_⟩=>h) ?_;rintro _ nV ⟨lX,rfl,dC,e,aF⟩;have bU:=Nat.le_trans i.size dC;have n0:=Nat.le_trans f.size dC;have lY:=g.away dC;have lZ:=d.away dC;have kM:=t.away dC;have z:=z.below e;have g:=g.below e;have d:=d.below e;have t:=t.below e;have i:=btr i e;have f:=btr f e;refine Y3 12 13 17 ?_ ?_ ?_
   ·refine Yk rfl trivial (X0u (enc:=encG) (l2:=(((c.gs.take (N+1)).drop p.toNat))) rfl rfl Xf Xo Xb X0d aF t (by simp only [maxLen];simp;omega) (by simp;omega)) (fun _ _ ⟨aC,aE,_,A,e,o⟩=>e) ?_;rintro _ nX ⟨aC,aE,rfl,A,e,o⟩;clear o;have A:=A.lower bU;have z:=z.below e;have g:=g.below e;have d:=d.below e;have t:=t.below e;have i:=btr i e;have f:=btr f e;refine Y2 13 17 ?_ ?_
    ·refine Yk rfl trivial (X5 (k:=0) (vs:=[]) (zs:=[]) rfl Xf Xo rfl rfl) (fun _ _ ⟨_,_,_,h,_⟩=>h) ?_;rintro _ nY ⟨nZ,rfl,cJ,e,fH⟩;have gC:=Nat.le_trans i.size cJ;have n3:=Nat.le_trans f.size cJ;have m3:=g.away cJ;have m4:=d.away cJ;have kN:=t.away cJ;have cK:=A.away cJ;have z:=z.below e;have d:=d.below e;have A:=A.below e;have i:=btr i e;have f:=btr f e;refine Y2 15 17 ?_ ?_
     ·refine Yk rfl trivial (X0u (enc:=encG) (l2:=(ws)) rfl rfl Xf Xo Xb X0d fH d (by simp only [maxLen];omega) (by omega)) (fun _ _ ⟨bS,cH,_,aU,e,o⟩=>e) ?_;rintro _ o0 ⟨bS,cH,rfl,aU,e,o⟩;have b3:=Apart.new0 A cK o;clear o;have aU:=aU.lower gC;have z:=z.below e;have A:=A.below e;have i:=btr i e;have f:=btr f e;refine Yo 16 rfl (fun _=>Xg (ps:=[(0,vi p),(1,.slice aC ((c.gs.take (N+1)).drop p.toNat).length aE),(2,.slice bS ws.length cH)]) (cs:=[vi p,.slice aC ((c.gs.take (N+1)).drop p.toNat).length aE,.slice bS ws.length cH]) rfl (fun _=>by first|rfl|kernel_rfl))<|Y1 17 ?_;refine Yk rfl trivial (X8 (zs:=[vi 0,.slice none 0 0,.slice none 0 0]) X2l rfl) (fun _ _ ⟨_,_,_,h,_⟩=>h) ?_;rintro _ o3 ⟨b52,rfl,j5,e,J⟩
      have dD:b9≠b52:=by have:=z.lt;omega
      have cW:=Nat.le_trans i.size j5;have jN:=Nat.le_trans f.size j5;have A:=A.below e;have aU:=aU.below e;have i:=btr i e;have f:=btr f e;refine Y1 18<|Yh rfl trivial rfl (Vw [vi p,.slice aC ((c.gs.take (N+1)).drop p.toNat).length aE,.slice bS ws.length cH] X14 J) ?_;rintro _ w16 ⟨E,hb⟩;have y:=J;have A:=A.onlyT E y rfl;have aU:=aU.onlyT E y rfl;have f:=Below.only f E jN;have i:=Below.only i E cW;have J:=hb;refine Yd fun a G=>?_
      have W:Below w3.heap.size w3 w16:=f
      exact ⟨b52,aC,aE,bS,cH,G.sb,cW,J,dD,A,aU,b3,W⟩
     refine Yk rfl trivial (X8 (zs:=[vi 0,.slice none 0 0,.slice none 0 0]) X2l rfl) (fun _ _ ⟨_,_,_,h,_⟩=>h) ?_;rintro _ o4 ⟨b55,rfl,j6,e,cL⟩
     have gD:b9≠b55:=by have:=z.lt;omega
     have gE:=Nat.le_trans i.size j6;have jO:=Nat.le_trans f.size j6;have fH:=fH.below e;have d:=d.below e;have A:=A.below e;have i:=btr i e;have f:=btr f e;refine Y1 15<|Yk rfl trivial (X0u (enc:=encG) (l2:=(ws)) rfl rfl Xf Xo Xb X0d fH d (by simp only [maxLen];omega) (by omega)) (fun _ _ ⟨gF,gG,_,cM,e,o⟩=>e) ?_;rintro _ o5 ⟨gF,gG,rfl,cM,e,o⟩;have fR:=Apart.new0 A cK o;clear o;have cM:=cM.lower gC;have cL:=cL.below e;have A:=A.below e;have i:=btr i e;have f:=btr f e;refine Yo 16 rfl (fun _=>Xg (ps:=[(0,vi p),(1,.slice aC ((c.gs.take (N+1)).drop p.toNat).length aE),(2,.slice gF ws.length gG)]) (cs:=[vi p,.slice aC ((c.gs.take (N+1)).drop p.toNat).length aE,.slice gF ws.length gG]) rfl (fun _=>by first|rfl|kernel_rfl))<|Y1 18 ?_;refine Yh rfl trivial rfl (Vw [vi p,.slice aC ((c.gs.take (N+1)).drop p.toNat).length aE,.slice gF ws.length gG] X14 cL) ?_;rintro _ w19 ⟨E,hb⟩;have y:=cL;have A:=A.onlyT E y rfl;have cM:=cM.onlyT E y rfl;have f:=Below.only f E jO;have i:=Below.only i E gE;have cL:=hb;refine Yd fun a G=>?_
     have W:Below w3.heap.size w3 w19:=f
     exact ⟨b55,aC,aE,gF,gG,G.sub ⟨rfl,rfl,rfl,rfl,(by first|rfl|(simp [look,H])),trivial⟩,gE,cL,gD,A,cM,fR,W⟩
    refine Yk rfl trivial (X8 (zs:=[vi 0,.slice none 0 0,.slice none 0 0]) X2l rfl) (fun _ _ ⟨_,_,_,h,_⟩=>h) ?_;rintro _ o6 ⟨b61,rfl,j7,e,bI⟩
    have gH:b9≠b61:=by have:=z.lt;omega
    have gI:=Nat.le_trans i.size j7;have jP:=Nat.le_trans f.size j7;have g:=g.below e;have d:=d.below e;have t:=t.below e;have A:=A.below e;have i:=btr i e;have f:=btr f e;refine Y1 13<|Yk rfl trivial (X5 (k:=0) (vs:=[]) (zs:=[]) rfl Xf Xo rfl rfl) (fun _ _ ⟨_,_,_,h,_⟩=>h) ?_;rintro _ o7 ⟨o8,rfl,cN,e,m5⟩;have jQ:=Nat.le_trans i.size cN;have n5:=Nat.le_trans f.size cN;have m6:=g.away cN;have m7:=d.away cN;have kO:=t.away cN;have fS:=A.away cN;have bI:=bI.below e;have d:=d.below e;have A:=A.below e;have i:=btr i e;have f:=btr f e;refine Y1 15<|Yk rfl trivial (X0u (enc:=encG) (l2:=(ws)) rfl rfl Xf Xo Xb X0d m5 d (by simp only [maxLen];omega) (by omega)) (fun _ _ ⟨gJ,gK,_,cO,e,o⟩=>e) ?_;rintro _ o9 ⟨gJ,gK,rfl,cO,e,o⟩;have fT:=Apart.new0 A fS o;clear o;have cO:=cO.lower jQ;have bI:=bI.below e;have A:=A.below e;have i:=btr i e;have f:=btr f e;refine Yo 16 rfl (fun _=>Xg (ps:=[(0,vi p),(1,.slice aC ((c.gs.take (N+1)).drop p.toNat).length aE),(2,.slice gJ ws.length gK)]) (cs:=[vi p,.slice aC ((c.gs.take (N+1)).drop p.toNat).length aE,.slice gJ ws.length gK]) rfl (fun _=>by first|rfl|kernel_rfl))<|Y1 18 ?_;refine Yh rfl trivial rfl (Vw [vi p,.slice aC ((c.gs.take (N+1)).drop p.toNat).length aE,.slice gJ ws.length gK] X14 bI) ?_;rintro _ w23 ⟨E,hb⟩;have y:=bI;have A:=A.onlyT E y rfl;have cO:=cO.onlyT E y rfl;have f:=Below.only f E jP;have i:=Below.only i E gI;have bI:=hb;refine Yd fun a G=>?_
    have W:Below w3.heap.size w3 w23:=f
    exact ⟨b61,aC,aE,gJ,gK,G.sub ⟨rfl,rfl,rfl,rfl,(by first|rfl|(simp [look,H])),trivial⟩,gI,bI,gH,A,cO,fT,W⟩
   ·refine Yk rfl trivial (X5 (k:=0) (vs:=[]) (zs:=[]) rfl Xf Xo rfl rfl) (fun _ _ ⟨_,_,_,h,_⟩=>h) ?_;rintro _ oB ⟨b67,rfl,dE,e,aH⟩
    have cP:lX≠b67:=by have:=aF.lt;omega
    have fA:=Nat.le_trans i.size dE;have n6:=Nat.le_trans f.size dE;have m8:=g.away dE;have m9:=d.away dE;have kP:=t.away dE;have z:=z.below e;have aF:=aF.below e;have d:=d.below e;have t:=t.below e;have i:=btr i e;have f:=btr f e;refine Y2 12 17 ?_ ?_
    ·refine Yk rfl trivial (X0u (enc:=encG) (l2:=(((c.gs.take (N+1)).drop p.toNat))) rfl rfl Xf Xo Xb X0d aF t (by simp only [maxLen];simp;omega) (by simp;omega)) (fun _ _ ⟨cX,cY,_,aA,e,o⟩=>e) ?_;rintro _ oC ⟨cX,cY,rfl,aA,e,o⟩;have cQ:=o _ aH.lt (Ne.symm cP);clear o;have aA:=aA.lower bU;have z:=z.below e;have aH:=aH.below e;have d:=d.below e;have i:=btr i e;have f:=btr f e;refine Y2 15 17 ?_ ?_
     ·refine Yk rfl trivial (X0u (enc:=encG) (l2:=(ws)) rfl rfl Xf Xo Xb X0d aH d (by simp only [maxLen];omega) (by omega)) (fun _ _ ⟨gL,gM,_,bJ,e,o⟩=>e) ?_;rintro _ oD ⟨gL,gM,rfl,bJ,e,o⟩;have fU:=Apart.new0 aA cQ o;clear o;have bJ:=bJ.lower fA;have z:=z.below e;have aA:=aA.below e;have i:=btr i e;have f:=btr f e;refine Yo 16 rfl (fun _=>Xg (ps:=[(0,vi p),(1,.slice cX ((c.gs.take (N+1)).drop p.toNat).length cY),(2,.slice gL ws.length gM)]) (cs:=[vi p,.slice cX ((c.gs.take (N+1)).drop p.toNat).length cY,.slice gL ws.length gM]) rfl (fun _=>by first|rfl|kernel_rfl))<|Y1 17 ?_;refine Yk rfl trivial (X8 (zs:=[vi 0,.slice none 0 0,.slice none 0 0]) X2l rfl) (fun _ _ ⟨_,_,_,h,_⟩=>h) ?_;rintro _ oE ⟨b75,rfl,j8,e,fI⟩
      have gN:b9≠b75:=by have:=z.lt;omega
      have gO:=Nat.le_trans i.size j8;have jR:=Nat.le_trans f.size j8;have aA:=aA.below e;have bJ:=bJ.below e;have i:=btr i e;have f:=btr f e;refine Y1 18<|Yh rfl trivial rfl (Vw [vi p,.slice cX ((c.gs.take (N+1)).drop p.toNat).length cY,.slice gL ws.length gM] X14 fI) ?_;rintro _ w28 ⟨E,hb⟩;have y:=fI;have aA:=aA.onlyT E y rfl;have bJ:=bJ.onlyT E y rfl;have f:=Below.only f E jR;have i:=Below.only i E gO;have fI:=hb;refine Yd fun a G=>?_
      have W:Below w3.heap.size w3 w28:=f
      exact ⟨b75,cX,cY,gL,gM,G.sub ⟨rfl,rfl,rfl,rfl,(by first|rfl|(simp [look,H])),trivial⟩,gO,fI,gN,aA,bJ,fU,W⟩
     refine Yk rfl trivial (X8 (zs:=[vi 0,.slice none 0 0,.slice none 0 0]) X2l rfl) (fun _ _ ⟨_,_,_,h,_⟩=>h) ?_;rintro _ oF ⟨b78,rfl,jA,e,cR⟩
     have gQ:b9≠b78:=by have:=z.lt;omega
     have gR:=Nat.le_trans i.size jA;have jS:=Nat.le_trans f.size jA;have aH:=aH.below e;have d:=d.below e;have aA:=aA.below e;have i:=btr i e;have f:=btr f e;refine Y1 15<|Yk rfl trivial (X0u (enc:=encG) (l2:=(ws)) rfl rfl Xf Xo Xb X0d aH d (by simp only [maxLen];omega) (by omega)) (fun _ _ ⟨gS,gT,_,cS,e,o⟩=>e) ?_;rintro _ oG ⟨gS,gT,rfl,cS,e,o⟩;have fV:=Apart.new0 aA cQ o;clear o;have cS:=cS.lower fA;have cR:=cR.below e;have aA:=aA.below e;have i:=btr i e;have f:=btr f e;refine Yo 16 rfl (fun _=>Xg (ps:=[(0,vi p),(1,.slice cX ((c.gs.take (N+1)).drop p.toNat).length cY),(2,.slice gS ws.length gT)]) (cs:=[vi p,.slice cX ((c.gs.take (N+1)).drop p.toNat).length cY,.slice gS ws.length gT]) rfl (fun _=>by first|rfl|kernel_rfl))<|Y1 18 ?_;refine Yh rfl trivial rfl (Vw [vi p,.slice cX ((c.gs.take (N+1)).drop p.toNat).length cY,.slice gS ws.length gT] X14 cR) ?_;rintro _ w31 ⟨E,hb⟩;have y:=cR;have aA:=aA.onlyT E y rfl;have cS:=cS.onlyT E y rfl;have f:=Below.only f E jS;have i:=Below.only i E gR;have cR:=hb;refine Yd fun a G=>?_
     have W:Below w3.heap.size w3 w31:=f
     exact ⟨b78,cX,cY,gS,gT,G.sub ⟨rfl,rfl,rfl,rfl,(by first|rfl|(simp [look,H])),trivial⟩,gR,cR,gQ,aA,cS,fV,W⟩
    refine Yk rfl trivial (X8 (zs:=[vi 0,.slice none 0 0,.slice none 0 0]) X2l rfl) (fun _ _ ⟨_,_,_,h,_⟩=>h) ?_;rintro _ oH ⟨b84,rfl,jB,e,bK⟩
    have gU:b9≠b84:=by have:=z.lt;omega
    have gX:=Nat.le_trans i.size jB;have jT:=Nat.le_trans f.size jB;have aF:=aF.below e;have aH:=aH.below e;have d:=d.below e;have t:=t.below e;have i:=btr i e;have f:=btr f e;refine Y1 12<|Yk rfl trivial (X0u (enc:=encG) (l2:=(((c.gs.take (N+1)).drop p.toNat))) rfl rfl Xf Xo Xb X0d aF t (by simp only [maxLen];simp;omega) (by simp;omega)) (fun _ _ ⟨gY,hG,_,aZ,e,o⟩=>e) ?_;rintro _ oJ ⟨gY,hG,rfl,aZ,e,o⟩;have fW:=o _ aH.lt (Ne.symm cP);clear o;have aZ:=aZ.lower bU;have aH:=aH.below e;have bK:=bK.below e;have d:=d.below e;have i:=btr i e;have f:=btr f e;refine Y1 15<|Yk rfl trivial (X0u (enc:=encG) (l2:=(ws)) rfl rfl Xf Xo Xb X0d aH d (by simp only [maxLen];omega) (by omega)) (fun _ _ ⟨hJ,hP,_,cT,e,o⟩=>e) ?_;rintro _ oK ⟨hJ,hP,rfl,cT,e,o⟩;have fX:=Apart.new0 aZ fW o;clear o;have cT:=cT.lower fA;have bK:=bK.below e;have aZ:=aZ.below e;have i:=btr i e;have f:=btr f e;refine Yo 16 rfl (fun _=>Xg (ps:=[(0,vi p),(1,.slice gY ((c.gs.take (N+1)).drop p.toNat).length hG),(2,.slice hJ ws.length hP)]) (cs:=[vi p,.slice gY ((c.gs.take (N+1)).drop p.toNat).length hG,.slice hJ ws.length hP]) rfl (fun _=>by first|rfl|kernel_rfl))<|Y1 18 ?_;refine Yh rfl trivial rfl (Vw [vi p,.slice gY ((c.gs.take (N+1)).drop p.toNat).length hG,.slice hJ ws.length hP] X14 bK) ?_;rintro _ w35 ⟨E,hb⟩;have y:=bK;have aZ:=aZ.onlyT E y rfl;have cT:=cT.onlyT E y rfl;have f:=Below.only f E jT;have i:=Below.only i E gX;have bK:=hb;refine Yd fun a G=>?_
    have W:Below w3.heap.size w3 w35:=f
    exact ⟨b84,gY,hG,hJ,hP,G.sub ⟨rfl,rfl,rfl,rfl,(by first|rfl|(simp [look,H])),trivial⟩,gX,bK,gU,aZ,cT,fX,W⟩
   refine Yk rfl trivial (X8 (zs:=[vi 0,.slice none 0 0,.slice none 0 0]) X2l rfl) (fun _ _ ⟨_,_,_,h,_⟩=>h) ?_;rintro _ oL ⟨b91,rfl,jC,e,U⟩
   have dF:b9≠b91:=by have:=z.lt;omega
   have d5:=Nat.le_trans i.size jC;have hY:=Nat.le_trans f.size jC;have aF:=aF.below e;have g:=g.below e;have d:=d.below e;have t:=t.below e;have i:=btr i e;have f:=btr f e;refine Y2 12 13 ?_ ?_
   ·refine Yk rfl trivial (X0u (enc:=encG) (l2:=(((c.gs.take (N+1)).drop p.toNat))) rfl rfl Xf Xo Xb X0d aF t (by simp only [maxLen];simp;omega) (by simp;omega)) (fun _ _ ⟨hZ,i6,_,aP,e,o⟩=>e) ?_;rintro _ oM ⟨hZ,i6,rfl,aP,e,o⟩;clear o;have aP:=aP.lower bU;have U:=U.below e;have g:=g.below e;have d:=d.below e;have t:=t.below e;have i:=btr i e;have f:=btr f e;refine Y1 13<|Yk rfl trivial (X5 (k:=0) (vs:=[]) (zs:=[]) rfl Xf Xo rfl rfl) (fun _ _ ⟨_,_,_,h,_⟩=>h) ?_;rintro _ oN ⟨oO,rfl,cU,e,mA⟩;have jU:=Nat.le_trans i.size cU;have n7:=Nat.le_trans f.size cU;have mB:=g.away cU;have mC:=d.away cU;have kQ:=t.away cU;have fY:=aP.away cU;have U:=U.below e;have d:=d.below e;have aP:=aP.below e;have i:=btr i e;have f:=btr f e;refine Y1 15<|Yk rfl trivial (X0u (enc:=encG) (l2:=(ws)) rfl rfl Xf Xo Xb X0d mA d (by simp only [maxLen];omega) (by omega)) (fun _ _ ⟨i7,i8,_,cV,e,o⟩=>e) ?_;rintro _ oP ⟨i7,i8,rfl,cV,e,o⟩;have fZ:=Apart.new0 aP fY o;clear o;have cV:=cV.lower jU;have U:=U.below e;have aP:=aP.below e;have i:=btr i e;have f:=btr f e;refine Yo 16 rfl (fun _=>Xg (ps:=[(0,vi p),(1,.slice hZ ((c.gs.take (N+1)).drop p.toNat).length i6),(2,.slice i7 ws.length i8)]) (cs:=[vi p,.slice hZ ((c.gs.take (N+1)).drop p.toNat).length i6,.slice i7 ws.length i8]) rfl (fun _=>by first|rfl|kernel_rfl))<|Y1 18 ?_;refine Yh rfl trivial rfl (Vw [vi p,.slice hZ ((c.gs.take (N+1)).drop p.toNat).length i6,.slice i7 ws.length i8] X14 U) ?_;rintro _ w40 ⟨E,hb⟩
    have y:=U;have aP:=aP.onlyT E y rfl;have cV:=cV.onlyT E y rfl;have f:=Below.only f E hY;have i:=Below.only i E d5;have U:=hb;refine Yd fun a G=>?_
    have W:Below w3.heap.size w3 w40:=f
    exact ⟨b91,hZ,i6,i7,i8,G.sub ⟨rfl,rfl,rfl,rfl,(by first|rfl|(simp [look,H])),trivial⟩,d5,U,dF,aP,cV,fZ,W⟩
   refine Yk rfl trivial (X5 (k:=0) (vs:=[]) (zs:=[]) rfl Xf Xo rfl rfl) (fun _ _ ⟨_,_,_,h,_⟩=>h) ?_;rintro _ oQ ⟨b98,rfl,dG,e,fJ⟩
   have g4:lX≠b98:=by have:=aF.lt;omega
   have jV:=Nat.le_trans i.size dG;have n8:=Nat.le_trans f.size dG;have mD:=g.away dG;have mE:=d.away dG;have kR:=t.away dG;have aF:=aF.below e;have U:=U.below e;have d:=d.below e;have t:=t.below e;have i:=btr i e;have f:=btr f e;refine Y1 12<|Yk rfl trivial (X0u (enc:=encG) (l2:=(((c.gs.take (N+1)).drop p.toNat))) rfl rfl Xf Xo Xb X0d aF t (by simp only [maxLen];simp;omega) (by simp;omega)) (fun _ _ ⟨dH,dI,_,aI,e,o⟩=>e) ?_;rintro _ oR ⟨dH,dI,rfl,aI,e,o⟩;have fB:=o _ fJ.lt (Ne.symm g4);clear o;have aI:=aI.lower bU;have U:=U.below e;have fJ:=fJ.below e;have d:=d.below e;have i:=btr i e;have f:=btr f e;refine Y1 15<|Yk rfl trivial (X0u (enc:=encG) (l2:=(ws)) rfl rfl Xf Xo Xb X0d fJ d (by simp only [maxLen];omega) (by omega)) (fun _ _ ⟨dJ,dK,_,b4,e,o⟩=>e) ?_;rintro _ oS ⟨dJ,dK,rfl,b4,e,o⟩;have dL:=Apart.new0 aI fB o;clear o;have b4:=b4.lower jV;have U:=U.below e;have aI:=aI.below e;have i:=btr i e;have f:=btr f e;refine Yo 16 rfl (fun _=>Xg (ps:=[(0,vi p),(1,.slice dH ((c.gs.take (N+1)).drop p.toNat).length dI),(2,.slice dJ ws.length dK)]) (cs:=[vi p,.slice dH ((c.gs.take (N+1)).drop p.toNat).length dI,.slice dJ ws.length dK]) rfl (fun _=>by first|rfl|kernel_rfl))<|Y1 18 ?_;refine Yh rfl trivial rfl (Vw [vi p,.slice dH ((c.gs.take (N+1)).drop p.toNat).length dI,.slice dJ ws.length dK] X14 U) ?_;rintro _ w44 ⟨E,hb⟩;have y:=U;have aI:=aI.onlyT E y rfl;have b4:=b4.onlyT E y rfl;have f:=Below.only f E hY
   have i:=Below.only i E d5;have U:=hb;refine Yd fun a G=>?_
   have W:Below w3.heap.size w3 w44:=f
   exact ⟨b91,dH,dI,dJ,dK,G.sub ⟨rfl,rfl,rfl,rfl,(by first|rfl|(simp [look,H])),trivial⟩,d5,U,dF,aI,b4,dL,W⟩
  ·refine Yk rfl trivial (X5 (k:=0) (vs:=[]) (zs:=[]) rfl Xf Xo rfl rfl) (fun _ _ ⟨_,_,_,h,_⟩=>h) ?_;rintro _ oT ⟨jD,rfl,bW,e,D⟩;have bO:=Nat.le_trans i.size bW;have mJ:=Nat.le_trans f.size bW;have kS:=g.away bW;have kT:=d.away bW;have jW:=t.away bW;have z:=z.below e;have g:=g.below e;have d:=d.below e;have t:=t.below e;have i:=btr i e;have f:=btr f e;refine Y2 3 17 ?_ ?_
   ·refine Yk rfl trivial (X5 (k:=0) (vs:=[]) (zs:=[]) rfl Xf Xo rfl rfl) (fun _ _ ⟨_,_,_,h,_⟩=>h) ?_;rintro _ oU ⟨b106,rfl,bX,e,d6⟩
    have bL:jD≠b106:=by have:=D.lt;omega
    have fK:=Nat.le_trans i.size bX;have mK:=Nat.le_trans f.size bX;have kU:=g.away bX;have kW:=d.away bX;have jX:=t.away bX;have z:=z.below e;have D:=D.below e;have d:=d.below e;have t:=t.below e;have i:=btr i e;have f:=btr f e;refine Y2 12 17 ?_ ?_
    ·refine Yk rfl trivial (X0u (enc:=encG) (l2:=(((c.gs.take (N+1)).drop p.toNat))) rfl rfl Xf Xo Xb X0d d6 t (by simp only [maxLen];simp;omega) (by simp;omega)) (fun _ _ ⟨b0,b1,_,I,e,o⟩=>e) ?_;rintro _ oV ⟨b0,b1,rfl,I,e,o⟩;have bM:=o _ D.lt bL;clear o;have I:=I.lower fK;have z:=z.below e;have D:=D.below e;have d:=d.below e;have i:=btr i e;have f:=btr f e;refine Y2 15 17 ?_ ?_
     ·refine Yk rfl trivial (X0u (enc:=encG) (l2:=(ws)) rfl rfl Xf Xo Xb X0d D d (by simp only [maxLen];omega) (by omega)) (fun _ _ ⟨dM,dN,_,aR,e,o⟩=>e) ?_;rintro _ oW ⟨dM,dN,rfl,aR,e,o⟩;have dO:=Apart.new0 I bM o;clear o;have aR:=aR.lower bO;have z:=z.below e;have I:=I.below e;have i:=btr i e;have f:=btr f e;refine Yo 16 rfl (fun _=>Xg (ps:=[(0,vi p),(1,.slice b0 ((c.gs.take (N+1)).drop p.toNat).length b1),(2,.slice dM ws.length dN)]) (cs:=[vi p,.slice b0 ((c.gs.take (N+1)).drop p.toNat).length b1,.slice dM ws.length dN]) rfl (fun _=>by first|rfl|kernel_rfl))<|Y1 17 ?_;refine Yk rfl trivial (X8 (zs:=[vi 0,.slice none 0 0,.slice none 0 0]) X2l rfl) (fun _ _ ⟨_,_,_,h,_⟩=>h) ?_;rintro _ oX ⟨b114,rfl,iA,e,d7⟩
      have g5:b9≠b114:=by have:=z.lt;omega
      have fL:=Nat.le_trans i.size iA;have iN:=Nat.le_trans f.size iA;have I:=I.below e;have aR:=aR.below e;have i:=btr i e;have f:=btr f e;refine Y1 18<|Yh rfl trivial rfl (Vw [vi p,.slice b0 ((c.gs.take (N+1)).drop p.toNat).length b1,.slice dM ws.length dN] X14 d7) ?_;rintro _ w50 ⟨E,hb⟩;have y:=d7;have I:=I.onlyT E y rfl;have aR:=aR.onlyT E y rfl;have f:=Below.only f E iN;have i:=Below.only i E fL;have d7:=hb;refine Yd fun a G=>?_
      have W:Below w3.heap.size w3 w50:=f
      exact ⟨b114,b0,b1,dM,dN,G.sub ⟨rfl,rfl,rfl,rfl,(by first|rfl|(simp [look,H])),trivial⟩,fL,d7,g5,I,aR,dO,W⟩
     refine Yk rfl trivial (X8 (zs:=[vi 0,.slice none 0 0,.slice none 0 0]) X2l rfl) (fun _ _ ⟨_,_,_,h,_⟩=>h) ?_;rintro _ oY ⟨b117,rfl,iB,e,b5⟩
     have g6:b9≠b117:=by have:=z.lt;omega
     have fM:=Nat.le_trans i.size iB;have iO:=Nat.le_trans f.size iB;have D:=D.below e;have d:=d.below e;have I:=I.below e;have i:=btr i e;have f:=btr f e;refine Y1 15<|Yk rfl trivial (X0u (enc:=encG) (l2:=(ws)) rfl rfl Xf Xo Xb X0d D d (by simp only [maxLen];omega) (by omega)) (fun _ _ ⟨dP,dQ,_,b7,e,o⟩=>e) ?_;rintro _ oZ ⟨dP,dQ,rfl,b7,e,o⟩;have dR:=Apart.new0 I bM o;clear o;have b7:=b7.lower bO;have b5:=b5.below e;have I:=I.below e;have i:=btr i e;have f:=btr f e;refine Yo 16 rfl (fun _=>Xg (ps:=[(0,vi p),(1,.slice b0 ((c.gs.take (N+1)).drop p.toNat).length b1),(2,.slice dP ws.length dQ)]) (cs:=[vi p,.slice b0 ((c.gs.take (N+1)).drop p.toNat).length b1,.slice dP ws.length dQ]) rfl (fun _=>by first|rfl|kernel_rfl))<|Y1 18 ?_;refine Yh rfl trivial rfl (Vw [vi p,.slice b0 ((c.gs.take (N+1)).drop p.toNat).length b1,.slice dP ws.length dQ] X14 b5) ?_;rintro _ w53 ⟨E,hb⟩;have y:=b5;have I:=I.onlyT E y rfl;have b7:=b7.onlyT E y rfl;have f:=Below.only f E iO;have i:=Below.only i E fM;have b5:=hb;refine Yd fun a G=>?_
     have W:Below w3.heap.size w3 w53:=f
     exact ⟨b117,b0,b1,dP,dQ,G.sub ⟨rfl,rfl,rfl,rfl,(by first|rfl|(simp [look,H])),trivial⟩,fM,b5,g6,I,b7,dR,W⟩
    refine Yk rfl trivial (X8 (zs:=[vi 0,.slice none 0 0,.slice none 0 0]) X2l rfl) (fun _ _ ⟨_,_,_,h,_⟩=>h) ?_;rintro _ p0 ⟨b123,rfl,iC,e,aS⟩
    have g7:b9≠b123:=by have:=z.lt;omega
    have fN:=Nat.le_trans i.size iC;have iP:=Nat.le_trans f.size iC;have D:=D.below e;have d6:=d6.below e;have d:=d.below e;have t:=t.below e;have i:=btr i e;have f:=btr f e;refine Y1 12<|Yk rfl trivial (X0u (enc:=encG) (l2:=(((c.gs.take (N+1)).drop p.toNat))) rfl rfl Xf Xo Xb X0d d6 t (by simp only [maxLen];simp;omega) (by simp;omega)) (fun _ _ ⟨dS,dT,_,aJ,e,o⟩=>e) ?_;rintro _ p5 ⟨dS,dT,rfl,aJ,e,o⟩;have dU:=o _ D.lt bL;clear o;have aJ:=aJ.lower fK;have D:=D.below e;have aS:=aS.below e;have d:=d.below e;have i:=btr i e;have f:=btr f e;refine Y1 15<|Yk rfl trivial (X0u (enc:=encG) (l2:=(ws)) rfl rfl Xf Xo Xb X0d D d (by simp only [maxLen];omega) (by omega)) (fun _ _ ⟨dW,dX,_,b8,e,o⟩=>e) ?_;rintro _ p6 ⟨dW,dX,rfl,b8,e,o⟩;have dY:=Apart.new0 aJ dU o;clear o;have b8:=b8.lower bO;have aS:=aS.below e;have aJ:=aJ.below e;have i:=btr i e;have f:=btr f e;refine Yo 16 rfl (fun _=>Xg (ps:=[(0,vi p),(1,.slice dS ((c.gs.take (N+1)).drop p.toNat).length dT),(2,.slice dW ws.length dX)]) (cs:=[vi p,.slice dS ((c.gs.take (N+1)).drop p.toNat).length dT,.slice dW ws.length dX]) rfl (fun _=>by first|rfl|kernel_rfl))<|Y1 18 ?_;refine Yh rfl trivial rfl (Vw [vi p,.slice dS ((c.gs.take (N+1)).drop p.toNat).length dT,.slice dW ws.length dX] X14 aS) ?_;rintro _ w57 ⟨E,hb⟩;have y:=aS;have aJ:=aJ.onlyT E y rfl;have b8:=b8.onlyT E y rfl;have f:=Below.only f E iP;have i:=Below.only i E fN
    have aS:=hb;refine Yd fun a G=>?_
    have W:Below w3.heap.size w3 w57:=f
    exact ⟨b123,dS,dT,dW,dX,G.sub ⟨rfl,rfl,rfl,rfl,(by first|rfl|(simp [look,H])),trivial⟩,fN,aS,g7,aJ,b8,dY,W⟩
   refine Yk rfl trivial (X8 (zs:=[vi 0,.slice none 0 0,.slice none 0 0]) X2l rfl) (fun _ _ ⟨_,_,_,h,_⟩=>h) ?_;rintro _ p8 ⟨b130,rfl,iD,e,aG⟩
   have g8:b9≠b130:=by have:=z.lt;omega
   have fO:=Nat.le_trans i.size iD;have iQ:=Nat.le_trans f.size iD;have D:=D.below e;have g:=g.below e;have d:=d.below e;have t:=t.below e;have i:=btr i e;have f:=btr f e;refine Y1 3<|Yk rfl trivial (X5 (k:=0) (vs:=[]) (zs:=[]) rfl Xf Xo rfl rfl) (fun _ _ ⟨_,_,_,h,_⟩=>h) ?_;rintro _ p9 ⟨b131,rfl,bY,e,jY⟩
   have e8:jD≠b131:=by have:=D.lt;omega
   have iS:=Nat.le_trans i.size bY;have mL:=Nat.le_trans f.size bY;have kX:=g.away bY;have kY:=d.away bY;have jZ:=t.away bY;have D:=D.below e;have aG:=aG.below e;have d:=d.below e;have t:=t.below e;have i:=btr i e;have f:=btr f e;refine Y1 12<|Yk rfl trivial (X0u (enc:=encG) (l2:=(((c.gs.take (N+1)).drop p.toNat))) rfl rfl Xf Xo Xb X0d jY t (by simp only [maxLen];simp;omega) (by simp;omega)) (fun _ _ ⟨eA,eB,_,aK,e,o⟩=>e) ?_;rintro _ pC ⟨eA,eB,rfl,aK,e,o⟩;have eC:=o _ D.lt e8;clear o;have aK:=aK.lower iS;have D:=D.below e;have aG:=aG.below e;have d:=d.below e;have i:=btr i e;have f:=btr f e;refine Y1 15<|Yk rfl trivial (X0u (enc:=encG) (l2:=(ws)) rfl rfl Xf Xo Xb X0d D d (by simp only [maxLen];omega) (by omega)) (fun _ _ ⟨eD,eE,_,bC,e,o⟩=>e) ?_;rintro _ pD ⟨eD,eE,rfl,bC,e,o⟩;have eF:=Apart.new0 aK eC o;clear o;have bC:=bC.lower bO;have aG:=aG.below e;have aK:=aK.below e;have i:=btr i e;have f:=btr f e;refine Yo 16 rfl (fun _=>Xg (ps:=[(0,vi p),(1,.slice eA ((c.gs.take (N+1)).drop p.toNat).length eB),(2,.slice eD ws.length eE)]) (cs:=[vi p,.slice eA ((c.gs.take (N+1)).drop p.toNat).length eB,.slice eD ws.length eE]) rfl (fun _=>by first|rfl|kernel_rfl))<|Y1 18 ?_;refine Yh rfl trivial rfl (Vw [vi p,.slice eA ((c.gs.take (N+1)).drop p.toNat).length eB,.slice eD ws.length eE] X14 aG) ?_;rintro _ w62 ⟨E,hb⟩;have y:=aG;have aK:=aK.onlyT E y rfl;have bC:=bC.onlyT E y rfl
   have f:=Below.only f E iQ;have i:=Below.only i E fO;have aG:=hb;refine Yd fun a G=>?_
   have W:Below w3.heap.size w3 w62:=f
   exact ⟨b130,eA,eB,eD,eE,G.sub ⟨rfl,rfl,rfl,rfl,(by first|rfl|(simp [look,H])),trivial⟩,fO,aG,g8,aK,bC,eF,W⟩
  refine Yk rfl trivial (X8 (zs:=[vi 0,.slice none 0 0,.slice none 0 0]) X2l rfl) (fun _ _ ⟨_,_,_,h,_⟩=>h) ?_;rintro _ pE ⟨b139,rfl,iE,e,C⟩
  have bD:b9≠b139:=by have:=z.lt;omega
  have aT:=Nat.le_trans i.size iE;have d8:=Nat.le_trans f.size iE;have g:=g.below e;have d:=d.below e;have t:=t.below e;have i:=btr i e;have f:=btr f e;refine Y2 3 13 ?_ ?_
  ·refine Yk rfl trivial (X5 (k:=0) (vs:=[]) (zs:=[]) rfl Xf Xo rfl rfl) (fun _ _ ⟨_,_,_,h,_⟩=>h) ?_;rintro _ pF ⟨mF,rfl,bZ,e,c4⟩;have fP:=Nat.le_trans i.size bZ;have mM:=Nat.le_trans f.size bZ;have kZ:=g.away bZ;have l3:=d.away bZ;have k0:=t.away bZ;have C:=C.below e;have g:=g.below e;have d:=d.below e;have t:=t.below e;have i:=btr i e;have f:=btr f e;refine Y2 12 13 ?_ ?_
   ·refine Yk rfl trivial (X0u (enc:=encG) (l2:=(((c.gs.take (N+1)).drop p.toNat))) rfl rfl Xf Xo Xb X0d c4 t (by simp only [maxLen];simp;omega) (by simp;omega)) (fun _ _ ⟨eG,eH,_,aD,e,o⟩=>e) ?_;rintro _ pG ⟨eG,eH,rfl,aD,e,o⟩;clear o;have aD:=aD.lower fP;have C:=C.below e;have g:=g.below e;have d:=d.below e;have t:=t.below e;have i:=btr i e;have f:=btr f e;refine Y1 13<|Yk rfl trivial (X5 (k:=0) (vs:=[]) (zs:=[]) rfl Xf Xo rfl rfl) (fun _ _ ⟨_,_,_,h,_⟩=>h) ?_;rintro _ pH ⟨nE,rfl,bE,e,k5⟩;have iT:=Nat.le_trans i.size bE;have mN:=Nat.le_trans f.size bE;have l4:=g.away bE;have l5:=d.away bE;have k6:=t.away bE;have eI:=aD.away bE;have C:=C.below e;have d:=d.below e;have aD:=aD.below e;have i:=btr i e;have f:=btr f e;refine Y1 15<|Yk rfl trivial (X0u (enc:=encG) (l2:=(ws)) rfl rfl Xf Xo Xb X0d k5 d (by simp only [maxLen];omega) (by omega)) (fun _ _ ⟨eJ,eK,_,bF,e,o⟩=>e) ?_;rintro _ pI ⟨eJ,eK,rfl,bF,e,o⟩;have eL:=Apart.new0 aD eI o;clear o;have bF:=bF.lower iT;have C:=C.below e;have aD:=aD.below e;have i:=btr i e;have f:=btr f e;refine Yo 16 rfl (fun _=>Xg (ps:=[(0,vi p),(1,.slice eG ((c.gs.take (N+1)).drop p.toNat).length eH),(2,.slice eJ ws.length eK)]) (cs:=[vi p,.slice eG ((c.gs.take (N+1)).drop p.toNat).length eH,.slice eJ ws.length eK]) rfl (fun _=>by first|rfl|kernel_rfl))<|Y1 18 ?_;refine Yh rfl trivial rfl (Vw [vi p,.slice eG ((c.gs.take (N+1)).drop p.toNat).length eH,.slice eJ ws.length eK] X14 C) ?_;rintro _ w68 ⟨E,hb⟩
    have y:=C;have aD:=aD.onlyT E y rfl;have bF:=bF.onlyT E y rfl;have f:=Below.only f E d8;have i:=Below.only i E aT;have C:=hb;refine Yd fun a G=>?_
    have W:Below w3.heap.size w3 w68:=f
    exact ⟨b139,eG,eH,eJ,eK,G.sub ⟨rfl,rfl,rfl,rfl,(by first|rfl|(simp [look,H])),trivial⟩,aT,C,bD,aD,bF,eL,W⟩
   refine Yk rfl trivial (X5 (k:=0) (vs:=[]) (zs:=[]) rfl Xf Xo rfl rfl) (fun _ _ ⟨_,_,_,h,_⟩=>h) ?_;rintro _ pJ ⟨b148,rfl,cA,e,d9⟩
   have eM:mF≠b148:=by have:=c4.lt;omega
   have iU:=Nat.le_trans i.size cA;have mO:=Nat.le_trans f.size cA;have l6:=g.away cA;have l7:=d.away cA;have k7:=t.away cA;have C:=C.below e;have c4:=c4.below e;have d:=d.below e;have t:=t.below e;have i:=btr i e;have f:=btr f e;refine Y1 12<|Yk rfl trivial (X0u (enc:=encG) (l2:=(((c.gs.take (N+1)).drop p.toNat))) rfl rfl Xf Xo Xb X0d c4 t (by simp only [maxLen];simp;omega) (by simp;omega)) (fun _ _ ⟨eN,eO,_,aL,e,o⟩=>e) ?_;rintro _ pK ⟨eN,eO,rfl,aL,e,o⟩;have eP:=o _ d9.lt (Ne.symm eM);clear o;have aL:=aL.lower fP;have C:=C.below e;have d9:=d9.below e;have d:=d.below e;have i:=btr i e;have f:=btr f e;refine Y1 15<|Yk rfl trivial (X0u (enc:=encG) (l2:=(ws)) rfl rfl Xf Xo Xb X0d d9 d (by simp only [maxLen];omega) (by omega)) (fun _ _ ⟨eQ,eR,_,bG,e,o⟩=>e) ?_;rintro _ pL ⟨eQ,eR,rfl,bG,e,o⟩;have eS:=Apart.new0 aL eP o;clear o;have bG:=bG.lower iU;have C:=C.below e;have aL:=aL.below e;have i:=btr i e;have f:=btr f e;refine Yo 16 rfl (fun _=>Xg (ps:=[(0,vi p),(1,.slice eN ((c.gs.take (N+1)).drop p.toNat).length eO),(2,.slice eQ ws.length eR)]) (cs:=[vi p,.slice eN ((c.gs.take (N+1)).drop p.toNat).length eO,.slice eQ ws.length eR]) rfl (fun _=>by first|rfl|kernel_rfl))<|Y1 18 ?_;refine Yh rfl trivial rfl (Vw [vi p,.slice eN ((c.gs.take (N+1)).drop p.toNat).length eO,.slice eQ ws.length eR] X14 C) ?_;rintro _ w72 ⟨E,hb⟩;have y:=C;have aL:=aL.onlyT E y rfl;have bG:=bG.onlyT E y rfl
   have f:=Below.only f E d8;have i:=Below.only i E aT;have C:=hb;refine Yd fun a G=>?_
   have W:Below w3.heap.size w3 w72:=f
   exact ⟨b139,eN,eO,eQ,eR,G.sub ⟨rfl,rfl,rfl,rfl,(by first|rfl|(simp [look,H])),trivial⟩,aT,C,bD,aL,bG,eS,W⟩
  refine Yk rfl trivial (X5 (k:=0) (vs:=[]) (zs:=[]) rfl Xf Xo rfl rfl) (fun _ _ ⟨_,_,_,h,_⟩=>h) ?_;rintro _ pM ⟨mG,rfl,cB,e,aW⟩;have iV:=Nat.le_trans i.size cB;have mP:=Nat.le_trans f.size cB;have l8:=g.away cB;have l9:=d.away cB;have k8:=t.away cB;have C:=C.below e;have g:=g.below e;have d:=d.below e;have t:=t.below e;have i:=btr i e;have f:=btr f e;refine Y1 3<|Yk rfl trivial (X5 (k:=0) (vs:=[]) (zs:=[]) rfl Xf Xo rfl rfl) (fun _ _ ⟨_,_,_,h,_⟩=>h) ?_;rintro _ pN ⟨b156,rfl,cC,e,kA⟩
  have eT:mG≠b156:=by have:=aW.lt;omega
  have iW:=Nat.le_trans i.size cC;have mQ:=Nat.le_trans f.size cC;have lA:=g.away cC;have lB:=d.away cC;have kB:=t.away cC;have C:=C.below e;have aW:=aW.below e;have d:=d.below e;have t:=t.below e;have i:=btr i e;have f:=btr f e;refine Y1 12<|Yk rfl trivial (X0u (enc:=encG) (l2:=(((c.gs.take (N+1)).drop p.toNat))) rfl rfl Xf Xo Xb X0d kA t (by simp only [maxLen];simp;omega) (by simp;omega)) (fun _ _ ⟨eU,eW,_,aM,e,o⟩=>e) ?_;rintro _ pO ⟨eU,eW,rfl,aM,e,o⟩;have eX:=o _ aW.lt eT;clear o;have aM:=aM.lower iW;have C:=C.below e;have aW:=aW.below e;have d:=d.below e;have i:=btr i e;have f:=btr f e;refine Y1 15<|Yk rfl trivial (X0u (enc:=encG) (l2:=(ws)) rfl rfl Xf Xo Xb X0d aW d (by simp only [maxLen];omega) (by omega)) (fun _ _ ⟨eY,f0,_,bH,e,o⟩=>e) ?_;rintro _ pP ⟨eY,f0,rfl,bH,e,o⟩;have f6:=Apart.new0 aM eX o;clear o;have bH:=bH.lower iV;have C:=C.below e;have aM:=aM.below e;have i:=btr i e;have f:=btr f e;refine Yo 16 rfl (fun _=>Xg (ps:=[(0,vi p),(1,.slice eU ((c.gs.take (N+1)).drop p.toNat).length eW),(2,.slice eY ws.length f0)]) (cs:=[vi p,.slice eU ((c.gs.take (N+1)).drop p.toNat).length eW,.slice eY ws.length f0]) rfl (fun _=>by first|rfl|kernel_rfl))<|Y1 18 ?_;refine Yh rfl trivial rfl (Vw [vi p,.slice eU ((c.gs.take (N+1)).drop p.toNat).length eW,.slice eY ws.length f0] X14 C) ?_;rintro _ w77 ⟨E,hb⟩;have y:=C;have aM:=aM.onlyT E y rfl;have bH:=bH.onlyT E y rfl
  have f:=Below.only f E d8;have i:=Below.only i E aT;have C:=hb;refine Yd fun a G=>?_
  have W:Below w3.heap.size w3 w77:=f
  exact ⟨b139,eU,eW,eY,f0,G.sub ⟨rfl,rfl,rfl,rfl,(by first|rfl|(simp [look,H])),trivial⟩,aT,C,bD,aM,bH,f6,W⟩
 rintro a pQ ⟨b52,aC,aE,bS,cH,G,cW,J,dD,A,aU,b3,e⟩;have L:=L.below e;have z:=z.below e;have g:=g.below e;have B:=B.below e;have i:=btr i e;refine lW _ _<|wp_seq_k fun _ kC=>?_;refine Zs G fun _ kD=>?_;refine Zm rfl<|Zi (k:=0) (u:=p) (enc:=encI) (l:=rr) trivial rfl rfl X08 X1j X02 B gA rfl ?_;intro nF iX;refine Ze (X0 rfl X7 iX)<|Za rfl<|Zt kD fun a G=>?_;refine wp_block<|X0b (σ:=Nat×Int×(List Gt)) (fun (s:Nat×Int×(List Gt)) (a:Act) (w:World)=>match s with|(k,x,q)=>∃ bN cD,Fr a 96 [(1,.slice Arr rr.length crr),(4,.pointer (some ⟨b6,0,none⟩)),(8,.pointer (some ⟨b9,0,none⟩)),(14,vi (lastI rr)),(15,.pointer (some ⟨b52,0,none⟩)),(16,vi x)]∧(x=p+(k:Int))∧(k≤winN rr p)∧(q=ws++gapL c rr p k)∧Blk w b6 28 [vi c.n,.slice Ac c.gs.length cc]∧Blk w b9 46 [vi 0,.slice none 0 0,.slice none 0 0]∧Blk w b52 46 [vi p,.slice aC ((c.gs.take (N+1)).drop p.toNat).length aE,.slice bN q.length cD]∧Rd w w0.heap.size 115 encG Ac c.gs∧Rd w w0.heap.size 3 encI Arr rr∧Own w w0.heap.size 115 3 encG aC aE ((c.gs.take (N+1)).drop p.toNat)∧Own w w0.heap.size 115 3 encG bN cD q∧c.gs.length≤cc∧Apart aC bN∧Below w0.heap.size w0 w) (fun (s:Nat×Int×(List Gt))=>match s with|(k,x,q)=>winN rr p-k) (0,p,ws) ?_ ?_
 ·exact ⟨bS,cH,G.sb,(by simp),(Nat.zero_le _),(by rw [Xef,List.append_nil]),L,z,J,g,B,A,aU,aX,b3,i⟩
 rintro ⟨k,x,q⟩ a n9 ⟨bN,cD,G,hx,hk,hq,L,z,J,g,B,A,aB,aX,aN,i⟩;refine wp_seq_k fun _ kE=>?_;refine Zs G fun _ kF=>?_;refine Zm rfl<|Zm rfl<|Ze (Xel rfl rfl)<|Zt kF fun a G=>?_
 refine Xk G rfl (fun aO=>?_) (fun aO=>?_)
 ·have b2:=aO;have aO:=of_decide_eq_true aO
  have jF:k<winN rr p:=by have h9:=aO;rw [fQ] at h9;omega
  obtain ⟨u9,mH⟩:=Xi (l:=c.gs) (k:=p.toNat+k) (by omega)
  have nG:=X7l c rr p k
  have mI:q.length≤1000000+k:=by rw [hq,List.length_append];omega
  refine wp_skip<|kE _ _<|wp_seq_k fun _ iF=>?_;refine wp_block<|Zs G fun _ kG=>?_;refine Zm rfl<|Zm rfl<|Zf (Vc (Xx0 _ Arr crr rr B.top x (by omega)) Xla) ?_;rintro _ pR ⟨rfl,e⟩;have L:=L.below e;have z:=z.below e;have J:=J.below e;have g:=g.below e;have B:=B.below e;have A:=A.below e;have aB:=aB.below e;have i:=btr i e;refine Ze (X0z rfl)<|Zt kG fun a G=>?_
  refine Xk G rfl (fun cE=>?_) (fun cE=>?_)
  ·have iY:=cE
   have hT:hasB rr (p+(k:Int))=false:=by have h9:=cE;rw [hx] at h9;exact bn1 h9
   refine X0h none (fun j=>[8,10].contains j) mixed ?_;intro pS e;have L:=L.below e;have z:=z.below e;have J:=J.below e;have g:=g.below e;have B:=B.below e;have A:=A.below e;have aB:=aB.below e;have i:=btr i e;refine Yb G<|Yo 0 rfl (fun _=>Vd rfl X2r 2)<|Ye 1 rfl (X0 rfl X15 (J.at 2))<|Yo 2 rfl (fun _=>Vd rfl X0v 1)<|Ye 3 rfl (X0 rfl X15 (L.at 1))<|Yo 4 rfl (fun _=>Xa rfl) ?_;refine Yi (k:=(p.toNat+k)) (u:=u9) (enc:=encG) (l:=c.gs) 5 rfl trivial rfl rfl Xf X0p Xb g mH (by omega) ?_;intro nH iZ;refine Ye 6 rfl (X07 (l:=[vi u9.k,vi u9.a,vi u9.b]) rfl X0g iZ rfl)<|Y1 7 ?_;refine Yk rfl trivial (X5 (k:=1) (vs:=[.agg #[vi u9.k,vi u9.a,vi u9.b]]) (zs:=[vi u9.k,vi u9.a,vi u9.b]) rfl Xf Xo rfl rfl) (fun _ _ ⟨_,_,_,h,_⟩=>h) ?_;rintro _ pT ⟨nI,rfl,dA,e,fC⟩;have mR:=Nat.le_trans i.size dA;have lC:=g.away dA;have kH:=A.away dA;have f7:=aB.away dA;have L:=L.below e;have z:=z.below e;have J:=J.below e;have g:=g.below e;have B:=B.below e;have A:=A.below e;have aB:=aB.below e;have i:=btr i e;refine Y1 8<|Yt rfl trivial rfl (X11 (enc:=encG) (l:=(q)) (l2:=([u9])) (B0:=w0.heap.size) rfl rfl Xf Xo Xb X0d aB (Rd.of_blk fC rfl _ fC.lt) (by simp only [maxLen];simp;omega) (by simp;omega) i.size) ?_;rintro _ pU ⟨iG,iH,rfl,fD,hg,o⟩
   have cF:Own _ w0.heap.size 115 3 encG _ _ (q):=aB
   have jE:=o _ fC.lt f7;have fE:=Apart.app A aN o;clear o;have L:=L.appT cF hg rfl;have z:=z.appT cF hg rfl;have J:=J.appT cF hg rfl;have g:=g.appB cF hg (Nat.le_refl _);have B:=B.appT cF hg rfl;have A:=A.appP hg aN;have i:=Below.app i cF hg (Nat.le_refl _) i.size;clear cF hg;refine Yo 9 rfl (fun _=>Vd rfl X2r 2)<|Y1 10 ?_;refine Yh rfl trivial rfl (Vu (vs:=[.slice iG (q++([u9])).length iH]) (l':=[vi p,.slice aC ((c.gs.take (N+1)).drop p.toNat).length aE,.slice iG (q++([u9])).length iH]) rfl rfl Xh9 J) ?_;rintro _ pV ⟨E,hb⟩;have y:=J;have L:=L.only E (Blk.ne L y rfl);have z:=z.only E (by omega);have g:=g.onlyT E y rfl;have B:=B.onlyT E y rfl;have A:=A.onlyT E y rfl;have fD:=fD.onlyT E y rfl;have i:=Below.only i E cW;have J:=hb;refine Yd fun a G=>?_;refine Xt<|iF _ _<|Zr G<|Zm rfl<|Ze (X06 rfl rfl (by omega) (by omega))<|Za rfl ?_;refine Zn fun a G=>?_;refine Xp ?_;exact ⟨(k+1,x+1,(q++[u9])),⟨iG,iH,G.sb,(by omega),(by omega),(Xi5 lF hq hT mH),L,z,J,g,B,A,fD,aX,fE,i⟩,(by first|omega|(dsimp only;omega))⟩
  have iY:=cE
  have hT:hasB rr (p+(k:Int))=true:=by have h9:=cE;rw [hx] at h9;exact bn2 h9
  refine wp_skip<|Xt<|iF _ _<|Zr G ?_;refine Zm rfl<|Ze (X06 rfl rfl (by omega) (by omega))<|Za rfl ?_;refine Zn fun a G=>?_;refine Xp ?_;exact ⟨(k+1,x+1,q),⟨bN,cD,G.sb,(by omega),(by omega),(Xej hq hT),L,z,J,g,B,A,aB,aX,aN,i⟩,(by first|omega|(dsimp only;omega))⟩
 have b2:=aO;have aO:=of_decide_eq_false aO
 have jF:k=winN rr p:=by have h9:=aO;rw [fQ] at h9;omega
 have iI:=Xd6 hq jF
 have iJ:(newR c p rr ws).old=_:=Xe6 lF fQ lE
 have nJ:=X7l c rr p k
 have mI:q.length≤1000000+1000000000:=by rw [hq,List.length_append];omega
 refine wp_exit<|Xl<|Xl<|X0a ?_;refine kC _ _<|wp_seq_k fun _ kI=>?_;refine wp_seq_k fun _ kJ=>?_;refine X0o (fun a w=>Fr a 96 [(8,.pointer (some ⟨b9,0,none⟩)),(15,.pointer (some ⟨b52,0,none⟩)),(93,.bool ((decide (40<(((c.gs.take (N+1)).drop p.toNat).length:Int)))||(decide (40<(q.length:Int)))))]∧n9=w) ?_ ?_
 ·refine Zr G<|Ze (Vd rfl X50 1)<|Ze (X0 rfl X15 (J.at 1))<|Ze (X0x rfl Xf)<|Ze (X3a rfl rfl)<|Zm rfl ?_
  refine Zg 88 rfl (fun Q=>?_) (fun Q=>?_)
  ·refine Zp (gP Q) ?_;refine Zp (gP Q) ?_;refine Zp (gP Q) ?_;refine Zp (gP Q) ?_;refine Ze (Xn rfl Q rfl) ?_;refine Zn fun a G=>?_;exact ⟨G.sub ⟨rfl,rfl,X1 rfl (by first|rfl|(simp only [H,b2,Q,bs];done)|simp [H,b2,Q]),trivial⟩,rfl⟩
  refine Zv (gW Q) (Vd rfl X2r 2) ?_;refine Zv (gW Q) (X0 rfl X15 (J.at 2)) ?_;refine Zv (gW Q) (X0x rfl Xf) ?_;refine Zv (gW Q) (X3a rfl rfl) ?_;refine Ze (Xj rfl Q rfl) ?_;refine Zn fun a G=>?_;exact ⟨G.sub ⟨rfl,rfl,X1 rfl (by first|rfl|(simp only [H,b2,Q,bs];done)|simp [H,b2,Q]),trivial⟩,rfl⟩
 rintro a _ ⟨G,rfl⟩;refine kJ _ _ ?_
 refine Xk G rfl (fun cG=>?_) (fun cG=>?_)
 ·have j1:=cG
  have h9:40<(newR c p rr ws).old.length∨40<(newR c p rr ws).new.length:=by rw [iJ,iI];have h8:=cG;simp only [Bool.or_eq_true,decide_eq_true_eq] at h8;omega
  have bR:=Xgf j4 h9;refine Zs G fun _ kK=>?_;refine Ze (Xg (ps:=[]) (cs:=[vi 0,.slice none 0 0,.slice none 0 0]) rfl (fun _=>by first|rfl|kernel_rfl))<|Zo (Vw [vi 0,.slice none 0 0,.slice none 0 0] X14 z) ?_;rintro _ pW ⟨E,hb⟩;have y:=z;have i:=Below.only i E fF;have z:=hb;refine Za rfl<|Zt kK fun a G=>?_;refine wp_ret<|X3<|X2 G (X0w G rfl (ResV.cellN (l:=[vi 0,.slice none 0 0,.slice none 0 0]) rfl X1a (z.at 0) rfl) rfl) ?_
  rw [bR]
  exact ⟨none,0,none,0,rfl,(Own.nil _ _ _ _ _),(Own.nil _ _ _ _ _),(Apart.none_l _),i⟩
 have j1:=cG
 have h9:¬ (40<(newR c p rr ws).old.length∨40<(newR c p rr ws).new.length):=by rw [iJ,iI];have h8:=cG;simp only [Bool.or_eq_false_iff,decide_eq_false_iff_not] at h8;omega
 have bR:=Xhi j4 h9;refine wp_skip<|kI _ _<|Zs G fun _ kL=>?_;refine Ze (Vn X1a J)<|Zo (Vw [vi p,.slice aC ((c.gs.take (N+1)).drop p.toNat).length aE,.slice bN q.length cD] X14 z) ?_;rintro _ pX ⟨E,hb⟩;have y:=z;have A:=A.onlyT E y rfl;have aB:=aB.onlyT E y rfl;have i:=Below.only i E fF;have z:=hb;refine Za rfl<|Zt kL fun a G=>?_
 refine wp_ret (X2 G (X0w G rfl (ResV.cellN (l:=[vi p,.slice aC ((c.gs.take (N+1)).drop p.toNat).length aE,.slice bN q.length cD]) rfl X1a (z.at 0) rfl) rfl) ?_)
 rw [bR]
 simp only [Option.getD_some]
 rw [iJ,iI]
 exact ⟨aC,aE,bN,cD,rfl,A,aB,aN,i⟩
theorem Xwx(w0:World)(n:PowT w0) : Ret Tryz.prog 49 [] w0 (fun v w=>∃ b1 F1 A1 c1 z1 b2 F2 A2 c2 z2,v=.agg #[.map none,.slice none 0 0,.map (some b1),.slice A1 (List.length (α:=Int) z1) c1,.map (some b2),.slice A2 (List.length (α:=Int) z2) c2]∧MapS w b1 (sgF F1)∧DeepM w w.heap.size 115 F1∧sgL F1=(tbW 1 5).1∧MapS w b2 (sgF F2)∧DeepM w w.heap.size 115 F2∧sgL F2=(tbW 2 3).1∧Below w0.heap.size w0 w):=by
 refine enter Tryz.func49 rfl 5 rfl rfl ?_;intro a hf
 have f:=bz w0
 refine Zs hf fun _ aD=>?_;refine Zf (X8 (zs:=[.map none,.slice none 0 0,.map none,.slice none 0 0,.map none,.slice none 0 0]) Xv2 rfl) ?_;rintro _ w1 ⟨b5,rfl,aE,k,b⟩;have aA:=Nat.le_trans f.size aE;have f:=btr f k;refine Zx aD fun a hf _ aF=>?_;refine Zf (Vc (Xrm _ 1 5 (by omega) (by omega) (n.of f)) Xgl) ?_;rintro _ w2 ⟨b7,aG,A7,c7,d,rfl,i,c,aH,aB,aK,k⟩;have aB:=aB.lower f.size;have b:=b.below k;have f:=btr f k;refine Zf (Vc (Xrm _ 2 3 (by omega) (by omega) (n.of f)) Xgl) ?_;rintro _ w3 ⟨b8,aI,A8,c8,e,rfl,m,j,aJ,aC,aL,k⟩;have aC:=aC.lower f.size;have b:=b.below k;have i:=i.below k;have c:=c.below k;have f:=btr f k;refine Ze (Xg (ps:=[(1,.agg #[.map (some b7),.slice A7 d.length c7]),(2,.agg #[.map (some b8),.slice A8 e.length c8])]) (cs:=[.map none,.slice none 0 0,.map (some b7),.slice A7 d.length c7,.map (some b8),.slice A8 e.length c8]) rfl (fun _=>by first|rfl|kernel_rfl))<|Ze (Xg (ps:=[(0,.agg #[.map none,.slice none 0 0,.map (some b7),.slice A7 d.length c7,.map (some b8),.slice A8 e.length c8])]) (cs:=[.map none,.slice none 0 0,.map (some b7),.slice A7 d.length c7,.map (some b8),.slice A8 e.length c8]) rfl (fun _=>by first|rfl|kernel_rfl))<|Zo (Vw [.map none,.slice none 0 0,.map (some b7),.slice A7 d.length c7,.map (some b8),.slice A8 e.length c8] Xou b) ?_;rintro _ w4 ⟨ho,hb⟩;have g:=b;have i:=i.only ho (i.ne g);have m:=m.only ho (m.ne g);have c:=c.onlyT ho g rfl;have j:=j.onlyT ho g rfl;have f:=Below.only f ho aA;have b:=hb;refine Zt aF fun a hf=>?_
 refine wp_ret (X2 hf (Xv hf rfl (ResV.cellN (l:=[.map none,.slice none 0 0,.map (some b7),.slice A7 d.length c7,.map (some b8),.slice A8 e.length c8]) rfl Xh6 (b.at 0) rfl)) ?_)
 exact ⟨b7,aG,A7,c7,d,b8,aI,A8,c8,e,rfl,i,c.top,aH,m,j.top,aJ,f⟩
theorem Xxx(w0:World)(k:Int) : Ret Tryz.prog 151 [vi k] w0 (fun v w=>v=.bool (isTk k)∧Below w0.heap.size w0 w):=by
 refine enter Tryz.func151 rfl 9 rfl rfl ?_;intro a c
 have hW:=bz w0
 refine Zs c fun _ aA=>?_;refine Za rfl<|ZX aA fun a c _ aB=>?_;refine X0o (fun a w=>Fr a 9 [(2,.bool ((k==7)||(k==8)))]∧w0=w) ?_ ?_
 ·refine Zr c<|Zm rfl<|Ze (X13 rfl rfl)<|Zm rfl ?_
  refine Zg 5 rfl (fun b=>?_) (fun b=>?_)
  ·refine Zp (gP b) ?_;refine Zp (gP b) ?_;refine Ze (Xn rfl b rfl)<|Za rfl ?_;refine Zn fun a c=>?_;exact ⟨c.sub ⟨X1 rfl (by first|rfl|(simp only [b,bs];done)|simp [b]),trivial⟩,rfl⟩
  refine Zv (gW b) (Xa rfl) ?_;refine Zv (gW b) (X13 rfl rfl) ?_;refine Ze (Xj rfl b rfl)<|Za rfl ?_;refine Zn fun a c=>?_;exact ⟨c.sub ⟨X1 rfl (by first|rfl|(simp only [b,bs];done)|simp [b]),trivial⟩,rfl⟩
 rintro a _ ⟨c,rfl⟩;refine aB _ _ ?_
 refine wp_ret (X2 c (Xv c rfl rfl) ?_)
 exact ⟨rfl,hW⟩
theorem Xgt(i:World)(Al:Option Addr)(cl:Nat)(l:List Gt)(j:Rd i i.heap.size 115 encG Al l)(aS:l.length≤100000000) : Ret Tryz.prog 89 [.slice Al l.length cl] i (fun v w=>v=vi ((tcN l:Nat) : Int)∧Below i.heap.size i w):=by
 refine enter Tryz.func89 rfl 20 rfl rfl ?_;intro a c
 have f:=bz i
 refine Zs c fun _ aI=>?_;refine Za rfl<|Zx aI fun a c _ aJ=>?_;refine Za rfl<|ZX aJ fun a c _ aK=>?_;refine Zs c fun _ aL=>?_;refine Zm rfl<|Ze (X0x rfl Xf)<|Zm rfl<|Zt aL fun a c=>?_;refine wp_block<|X0b (σ:=Nat) (fun (k:Nat) (a:Act) (w:World)=>Fr a 20 [(3,vi ((tcN (l.take k) : Nat) : Int)),(6,.slice Al l.length cl),(7,vi (l.length:Int)),(8,vi (k:Int))]∧(k≤l.length)∧Below i.heap.size i w) (fun (k:Nat)=>l.length-k) 0 ?_ ?_
 ·exact ⟨c.sb,(Nat.zero_le _),f⟩
 rintro k a w1 ⟨c,hk,f⟩;refine Zs c fun _ aM=>?_;refine Ze (X10 rfl rfl)<|ZX aM fun a c _ aN=>?_
 refine Xk c rfl (fun d=>?_) (fun d=>?_)
 ·have aC:=d;have d:=of_decide_eq_true d
  obtain ⟨g,aD⟩:=Xi (l:=l) (k:=k) (by omega)
  have aO:=Xr2 aD;have aP:=Xxa (l.take k)
  rw [List.length_take] at aP
  refine wp_skip<|aN _ _<|wp_seq_k fun _ aE=>?_;refine wp_block<|Zs c fun _ aF=>?_;refine Zi (k:=k) (u:=g) (enc:=encG) (l:=l) trivial rfl rfl Xf X0p Xb (j.below' f) aD rfl ?_;intro aT aA;refine Ze (X07 (l:=[vi g.k,vi g.a,vi g.b]) rfl X0g aA rfl)<|Zf (X8 (zs:=[vi 0,vi 0,vi 0]) X2i rfl) ?_;rintro _ w2 ⟨aU,rfl,m,hE,e⟩;have aB:=Nat.le_trans f.size m;have aG:=(j.below' f).away m;have f:=btr f hE;refine Zo (Vw [vi g.k,vi g.a,vi g.b] X0p e) ?_;rintro _ w3 ⟨ho,hb⟩;have aR:=e;have f:=Below.only f ho aB;have e:=hb;refine Zt aF fun a c=>?_;refine Zr c<|Zm rfl<|Ze (Vd rfl X0n 0)<|Ze (X0 rfl X7 (e.at 0))<|Zf (Vc (Xxx _ g.k) Xq7) ?_;rintro _ w4 ⟨rfl,hE⟩;have f:=btr f hE;refine Zf (Vc (F59 _ (isTk g.k)) Xgi) ?_;rintro _ _ ⟨rfl,rfl⟩;refine Ze (X06 rfl rfl (by omega) (by omega))<|Za rfl ?_;refine Zn fun a c=>?_;refine Xt<|aE _ _<|Zr c<|Ze (X06 rfl rfl (by omega) (by omega))<|Zm rfl ?_;refine Zn fun a c=>?_
  rw [← aO] at c
  refine Xp ?_;exact ⟨k+1,⟨c.sb,(by omega),f⟩,(by omega)⟩
 have aC:=d;have d:=of_decide_eq_false d
 have aQ:l.take k=l:=List.take_of_length_le (by omega)
 refine wp_exit<|Xl<|Xl<|X0a ?_;refine aK _ _<|Zs c fun _ aH=>?_;refine Zm rfl<|Za rfl<|Zt aH fun a c=>?_
 refine wp_ret (X2 c (Xv c rfl rfl) ?_)
 rw [aQ]
 exact ⟨rfl,f⟩
theorem Xup(Q:World)(b2:Nat)(aX:ByteArray→Option Sq)(bJ:Option Addr)(bK bL:Nat)(u:MapS Q b2 (sgF aX))(o:DeepM Q Q.heap.size 115 aX)(bM:sgL aX=(tbW 1 5).1)(b3:Nat)(b6:ByteArray→Option Sq)(bN:Option Addr)(bO bP:Nat)(dL:MapS Q b3 (sgF b6))(cY:DeepM Q Q.heap.size 115 b6)(dM:sgL b6=(tbW 2 3).1)(c:Cx)(Ac:Option Addr)(cc:Nat)(q:Rd Q Q.heap.size 115 encG Ac c.gs)(bQ:c.gs.length≤cc)(p:Int)(Aqs:Option Addr)(cqs:Nat)(qs:List Int)(b:Rd Q Q.heap.size 3 encI Aqs qs)(bR:c.gs.length≤1000000000)(bS:qs.length≤1048576)(d5:runB c p qs=true→qs.length=1)(bU:PowT Q) : Ret Tryz.prog 50 [.agg #[.map none,.slice none 0 0,.map (some b2),.slice bJ bK bL,.map (some b3),.slice bN bO bP],.agg #[vi c.n,.slice Ac c.gs.length cc],vi p,.slice Aqs qs.length cqs] Q (fun v w=>∃ A9 e9 B9 f9,v=.tuple #[.agg #[vi ((shrI c p qs).getD rpZ).pos,.slice A9 ((shrI c p qs).getD rpZ).old.length e9,.slice B9 ((shrI c p qs).getD rpZ).new.length f9],.bool (shrI c p qs).isSome]∧Own w Q.heap.size 115 3 encG A9 e9 ((shrI c p qs).getD rpZ).old∧Own w Q.heap.size 115 3 encG B9 f9 ((shrI c p qs).getD rpZ).new∧Apart A9 B9∧Below Q.heap.size Q w):=by
 obtain ⟨rr,bW⟩ : ∃ rr,rr=(runP c p qs).getD []:=⟨_,rfl⟩
 obtain ⟨ro,b7⟩ : ∃ ro:Bool,ro=(runP c p qs).isSome:=⟨_,rfl⟩
 refine enter Tryz.func50 rfl 93 rfl rfl ?_;intro a D
 have z:=bz Q
 refine Zs D fun _ d6=>?_;refine Zf (X0i (zs:=[.map none,.slice none 0 0,.map (some b2),.slice bJ bK bL,.map (some b3),.slice bN bO bP]) rfl rfl) ?_;rintro _ w1 ⟨b4,rfl,d7,d,B⟩;have dN:=Nat.le_trans z.size d7;have u:=u.below d;have q:=q.below d;have b:=b.below d;have o:=o.below d;have z:=btr z d;refine Zf (X0i (zs:=[vi c.n,.slice Ac c.gs.length cc]) rfl rfl) ?_;rintro _ w2 ⟨b5,rfl,d8,d,h⟩;have dO:=Nat.le_trans z.size d8;have u:=u.below d;have B:=B.below d;have q:=q.below d;have b:=b.below d;have o:=o.below d;have z:=btr z d;refine Zf (X8 (zs:=[vi 0,.slice none 0 0,.slice none 0 0]) X2l rfl) ?_;rintro _ w3 ⟨b8,rfl,d9,d,t⟩;have aM:=Nat.le_trans z.size d9;have u:=u.below d;have B:=B.below d;have h:=h.below d;have q:=q.below d;have b:=b.below d;have o:=o.below d;have z:=btr z d;refine Za rfl<|Zx d6 fun a D _ dA=>?_;refine Ze (Vn X1l h)<|Zm rfl<|Zm rfl<|Zf (X1x (vs:=[.agg #[vi c.n,.slice Ac c.gs.length cc],vi p,.slice Aqs qs.length cqs]) rfl Xb5 (by have hq:=Xmm w3 c Ac cc q.top p Aqs cqs qs b.top bR bS;rw [← bW,← b7] at hq;exact hq)) ?_;rintro _ w4 ⟨b9,bC,rfl,aN,d⟩;have aN:=aN.lower z.size;have u:=u.below d;have B:=B.below d;have h:=h.below d;have t:=t.below d;have q:=q.below d;have b:=b.below d;have o:=o.below d;have z:=btr z d;refine Zm rfl<|Ze (X4 (vs:=[.slice b9 rr.length bC,.bool ro]) rfl rfl)<|Ze (X4 (vs:=[.slice b9 rr.length bC,.bool ro]) rfl rfl)<|Za rfl<|Za rfl ?_;refine ZX dA fun a D _ bX=>?_;refine Zs D fun _ bY=>?_
 refine Zm rfl<|Ze (X0z rfl)<|Zt bY fun a D=>?_
 refine Xk D rfl (fun U=>?_) (fun U=>?_)
 ·have E:=U
  have bZ:(runP c p qs).isSome=false:=by rw [← b7];simpa using U
  have W:shrI c p qs=none:=by unfold shrI;rw [X8k bZ];rfl
  refine Zs D fun _ c4=>?_;refine Ze (Xg (ps:=[]) (cs:=[vi 0,.slice none 0 0,.slice none 0 0]) rfl (fun _=>by first|rfl|kernel_rfl))<|Zo (Vw [vi 0,.slice none 0 0,.slice none 0 0] X14 t) ?_;rintro _ w5 ⟨N,hb⟩;have C:=t;have z:=Below.only z N aM;have t:=hb;refine Za rfl<|Zt c4 fun a D=>?_;refine wp_ret<|X3<|X2 D (X0w D rfl (ResV.cellN (l:=[vi 0,.slice none 0 0,.slice none 0 0]) rfl X1a (t.at 0) rfl) rfl) ?_
  rw [W]
  exact ⟨none,0,none,0,rfl,(Own.nil _ _ _ _ _),(Own.nil _ _ _ _ _),(Apart.none_l _),z⟩
 have E:=U
 obtain ⟨aD,aO,bD⟩:=Xbb (c:=c) (p:=p) (qs:=qs) (by rw [← b7];simpa using U)
 have aH:rr=runL c p qs:=by rw [bW,bD];rfl
 have aA:=d5 aO
 have dP:rr.length≤6:=by rw [aH];exact X78 ..
 obtain ⟨dR,dS,dB⟩:=X7v aD aO
 have cA:∀ i ∈ rr,∃ j:Nat,i=(j:Int)∧j<c.gs.length:=fun i hi=>by rw [aH] at hi;obtain ⟨j,h1,h2,_⟩:=X5y aO i hi;exact ⟨j,h1,h2⟩
 have dQ:=X2x c rr;obtain ⟨dC,cB,M9,aE,cC,cD,cE,dD,dT⟩:=Xle aD aO
 rw [← aH] at dC cB aE
 have cF:opI ⟨(qs.length:Int),mapI (gatL c rr) (numbI qs)⟩=some M9:=by rw [cB];exact aE
 have cG:=Xdh (fun g hg=>(X6f aD aO g (by rw [← aH];exact hg)).1) (X12 aD).1.2
 rw [aA] at cD cE
 obtain ⟨cH,dE⟩:=Xmd (n:=1) (by omega) cC cD cE dD
 rw [show KN 1=5 from rfl] at cH
 obtain ⟨wo,cJ⟩ : ∃ wo,wo=(tbW 1 5).1 (keyM M9):=⟨_,rfl⟩
 have aP:wo=srW 1 M9:=cJ.trans cH
 have dF:(wo.getD []).length≤8∧∀ g ∈ wo.getD [],g ∈ gsT 1:=by
  cases e:wo with
  | none=>exact ⟨Nat.zero_le _,fun g hg=>by cases hg⟩
  | some w9=>have h9:=X4o (aP.symm.trans e);have:=X8q 1;exact ⟨by show w9.length≤8;omega,h9.2⟩
 have dG:=Xc9 (n:=1) (by omega) dF.2
 have cK:shrI c p qs=plX c p qs rr:=by unfold shrI;rw [bD,aH];rfl
 refine wp_skip<|bX _ _<|Zs D fun _ cL=>?_;refine Ze (Vn X1l h)<|Zm rfl<|Zf (Vc (Xs4 _ c Ac cc q.top b9 bC rr aN.rd.top (by omega) cA) Xhz) ?_;rintro _ w6 ⟨cM,cN,rfl,x,d⟩;have x:=x.lower z.size;have u:=u.below d;have B:=B.below d;have h:=h.below d;have t:=t.below d;have q:=q.below d;have b:=b.below d;have o:=o.below d;have z:=btr z d;refine Za rfl<|Zx cL fun a D _ cO=>?_;refine Zm rfl<|Ze (X0x rfl X08)<|Zm rfl<|Zm rfl<|Zf (Vc (F49 _ Aqs cqs qs b.top dB (by omega)) Xsb) ?_;rintro _ w7 ⟨dH,dI,rfl,aQ,d⟩;have aQ:=aQ.lower z.size;have u:=u.below d;have B:=B.below d;have h:=h.below d;have t:=t.below d;have q:=q.below d;have b:=b.below d;have x:=x.below d;have o:=o.below d;have z:=btr z d;refine Zf (Vc (F51 _ cM cN (gatL c rr) x.rd.top dH dI (numbI qs) aQ.rd.top 5 cG (X6h _) (by omega)) Xi6) ?_;rintro _ w8 ⟨aY,aZ,rfl,aF,d⟩;have bG:=x.apart aF (Nat.le_refl _);have aF:=aF.lower z.size;have u:=u.below d;have B:=B.below d;have h:=h.below d;have t:=t.below d;have q:=q.below d;have b:=b.below d;have x:=x.below d;have o:=o.below d;have z:=btr z d;refine Ze (Xg (ps:=[(0,vi (qs.length:Int)),(1,.slice aY (mapI (gatL c rr) (numbI qs)).length aZ)]) (cs:=[vi (qs.length:Int),.slice aY (mapI (gatL c rr) (numbI qs)).length aZ]) rfl (fun _=>by first|rfl|kernel_rfl))<|Zf (X1x (vs:=[.agg #[vi (qs.length:Int),.slice aY (mapI (gatL c rr) (numbI qs)).length aZ]]) rfl Xs0 (by have hq:=F97 w8 (⟨(qs.length:Int),(mapI (gatL c rr) (numbI qs))⟩ : Cx) aY aZ aF.rd.top (by show (mapI (gatL c rr) (numbI qs)).length≤_;unfold mapI;rw [List.length_map];omega);rw [cF,Option.getD_some,Option.isSome_some] at hq;exact hq)) ?_;rintro _ w9 ⟨aR,aS,rfl,aB,d⟩
 have u:=u.below d;have B:=B.below d;have h:=h.below d;have t:=t.below d;have q:=q.below d;have b:=b.below d;have x:=x.below d;have o:=o.below d;have z:=btr z d;refine Zm rfl<|Ze (X4 (vs:=[.agg #[vi M9.rows,vi M9.cols,.slice aR M9.cells.length aS],.bool true]) rfl rfl)<|Ze (X4 (vs:=[.agg #[vi M9.rows,vi M9.cols,.slice aR M9.cells.length aS],.bool true]) rfl rfl)<|Zf (X8 (zs:=[vi 0,vi 0,.slice none 0 0]) X1n rfl) ?_;rintro _ dU ⟨dW,rfl,cP,d,aG⟩;have bE:=Nat.le_trans z.size cP;have u:=u.below d;have B:=B.below d;have h:=h.below d;have t:=t.below d;have q:=q.below d;have b:=b.below d;have x:=x.below d;have aB:=aB.below d;have o:=o.below d;have z:=btr z d;refine Zo (Vw [vi M9.rows,vi M9.cols,.slice aR M9.cells.length aS] X17 aG) ?_;rintro _ dJ ⟨N,hb⟩;have C:=aG;have u:=u.only N (u.ne C);have B:=B.only N (Blk.ne B C rfl);have h:=h.only N (Blk.ne h C rfl);have t:=t.only N (Blk.ne t C rfl);have q:=q.onlyT N C rfl;have b:=b.onlyT N C rfl;have x:=x.onlyT N C rfl;have aB:=aB.onlyT N C rfl;have o:=o.onlyT N C rfl;have z:=Below.only z N bE;have aG:=hb;refine Za rfl<|Zx cO fun a D _ cQ=>?_;refine Ze (Vn X0e aG)<|Zf (X1x (vs:=[.agg #[vi M9.rows,vi M9.cols,.slice aR M9.cells.length aS]]) rfl X80 (by have hq:=Xhr dJ M9 aR aS aB.top (X52 cC) (bU.of z);rw [dE] at hq;exact hq)) ?_;rintro _ w12 ⟨rfl,d⟩;have u:=u.below d;have B:=B.below d;have h:=h.below d;have t:=t.below d
 have q:=q.below d;have b:=b.below d;have x:=x.below d;have o:=o.below d;have z:=btr z d;refine Zm rfl<|Ze (X4 (vs:=[.string (keyM M9),.bool true]) rfl rfl)<|Ze (X4 (vs:=[.string (keyM M9),.bool true]) rfl rfl)<|Za rfl<|Za rfl ?_;refine Zx cQ fun a D _ cR=>?_;refine Zm rfl<|Ze (Vx (X0x rfl X08) (show _=(1:Int) from (by rw [aA];rfl)))<|Ze (Vd rfl X9t 0)<|Ze (Xap (k:=1) (sz:=2) rfl rfl Tryz.underlying83 X7m rfl (by decide) (m:=2) rfl)<|Ze (Vd rfl X56 2) ?_;refine Ze (X0 rfl X7p (B.at 2))<|Zm rfl ?_;obtain ⟨aT,aU,b0,b1,G⟩:=Xaz o (keyM M9)
 rw [bM,← cJ] at b0 b1 G
 refine Ze (Xft (f:=aX) rfl rfl Tryz.underlying71 Tryz.underlying9 Xnm u b0 b1)<|Zm rfl<|Ze (X4 (vs:=[.slice aT ((wo).getD []).length aU,.bool ((wo).isSome)]) rfl rfl)<|Ze (X4 (vs:=[.slice aT ((wo).getD []).length aU,.bool ((wo).isSome)]) rfl rfl)<|Za rfl ?_;refine Za rfl<|ZX cR fun a D _ cS=>?_;refine wp_seq_k fun _ cT=>?_;refine X0o (fun a w=>Fr a 93 [(2,vi p),(3,.slice Aqs qs.length cqs),(5,.pointer (some ⟨b5,0,none⟩)),(8,.pointer (some ⟨b8,0,none⟩)),(17,.slice aT ((wo).getD []).length aU),(82,.bool (((!((wo).isSome))||(decide (((gatL c rr).length:Int)≤(((wo).getD []).length:Int))))||(decide (((tcN (gatL c rr) : Nat) : Int)<((tcN ((wo).getD []) : Nat) : Int)))))]∧Below w12.heap.size w12 w) ?_ ?_
 ·have aC:Below w12.heap.size w12 w12:=Below.refl _ _
  refine Zr D<|Zm rfl<|Ze (X0z rfl)<|Zm rfl<|Zv (gW rfl) (Xa rfl) ?_;refine Zv (gW rfl) (X0z rfl) ?_;refine Ze (Xj rfl rfl rfl)<|Zm rfl<|Zv (gW rfl) (Xa rfl) ?_;refine Zv (gW rfl) (X0z rfl) ?_;refine Ze (Xj rfl rfl rfl)<|Zm rfl ?_
  refine Zg 69 rfl (fun y=>?_) (fun y=>?_)
  ·refine Zp (gP y) ?_;refine Zp (gP y) ?_;refine Zp (gP y) ?_;refine Zp (gP y) ?_;refine Zp (gP y) ?_;refine Ze (Xn rfl y rfl)<|Zm rfl<|Zp (gP rfl) ?_;refine Zp (gP rfl) ?_;refine Zp (gP rfl) ?_;refine Zp (gP rfl) ?_;refine Zp (gP rfl) ?_;refine Ze (Xn rfl rfl rfl) ?_;refine Zn fun a D=>?_
   have aW:Below w12.heap.size w12 w12:=aC
   exact ⟨D.sub ⟨rfl,rfl,rfl,rfl,rfl,X1 rfl (by first|rfl|(simp only [E,y,bs];done)|simp [E,y]),trivial⟩,aW⟩
  refine Zv (gW y) (Xa rfl) ?_;refine Zv (gW y) (X0x rfl Xf) ?_;refine Zv (gW y) (Xa rfl) ?_;refine Zv (gW y) (X0x rfl Xf) ?_;refine Zv (gW y) (X99 rfl rfl) ?_;refine Ze (Xj rfl y rfl)<|Zm rfl ?_
  refine Zg 76 rfl (fun A=>?_) (fun A=>?_)
  ·refine Zp (gP A) ?_;refine Zp (gP A) ?_;refine Zp (gP A) ?_;refine Zp (gP A) ?_;refine Zp (gP A) ?_;refine Ze (Xn rfl A rfl) ?_;refine Zn fun a D=>?_
   have aW:Below w12.heap.size w12 w12:=aC
   exact ⟨D.sub ⟨rfl,rfl,rfl,rfl,rfl,X1 rfl (by first|rfl|(simp only [E,y,A,bs];done)|simp [E,y,A]),trivial⟩,aW⟩
  refine Zv (gW A) (Xa rfl) ?_;refine Zk (gW A) (Vc (Xgt _ aT aU ((wo).getD []) G.top (by omega)) X7y) ?_;rintro _ dX ⟨rfl,d⟩;have x:=x.below d;have z:=btr z d;have aC:=btr aC d;refine Zv (gW A) (Xa rfl) ?_;refine Zk (gW A) (Vc (Xgt _ cM cN (gatL c rr) x.rd.top (by omega)) X7y) ?_;rintro _ w14 ⟨rfl,d⟩;have z:=btr z d;have aC:=btr aC d;refine Zv (gW A) (X3a rfl rfl) ?_;refine Ze (Xj rfl A rfl) ?_;refine Zn fun a D=>?_
  have aW:Below w12.heap.size w12 w14:=aC
  exact ⟨D.sub ⟨rfl,rfl,rfl,rfl,rfl,X1 rfl (by first|rfl|(simp only [E,y,A,bs];done)|simp [E,y,A]),trivial⟩,aW⟩
 rintro a dY ⟨D,d⟩;have h:=h.below d;have t:=t.below d;have q:=q.below d;have b:=b.below d;have G:=G.below d;have z:=btr z d;refine cT _ _ ?_
 refine Xk D rfl (fun H=>?_) (fun H=>?_)
 ·have bF:=H
  have W:shrI c p qs=none:=by
   rw [cK]
   refine X4m aE fun w9 h9=>?_
   rw [aA,← aP] at h9
   rw [h9] at H
   intro h8
   revert H
   simp [X2x]
   omega
  refine Zs D fun _ cU=>?_;refine Ze (Xg (ps:=[]) (cs:=[vi 0,.slice none 0 0,.slice none 0 0]) rfl (fun _=>by first|rfl|kernel_rfl))<|Zo (Vw [vi 0,.slice none 0 0,.slice none 0 0] X14 t) ?_;rintro _ e8 ⟨N,hb⟩;have C:=t;have z:=Below.only z N aM;have t:=hb;refine Za rfl<|Zt cU fun a D=>?_;refine wp_ret<|X3<|X2 D (X0w D rfl (ResV.cellN (l:=[vi 0,.slice none 0 0,.slice none 0 0]) rfl X1a (t.at 0) rfl) rfl) ?_
  rw [W]
  exact ⟨none,0,none,0,rfl,(Own.nil _ _ _ _ _),(Own.nil _ _ _ _ _),(Apart.none_l _),z⟩
 have bF:=H
 have dK:wo=some (wo.getD []):=Xb1 (by have h9:=H;revert h9;cases wo.isSome<;>simp)
 have W:shrI c p qs=repX c p rr qs (mapI (wo.getD []) qs):=by
  rw [cK]
  refine X83 aE (by rw [aA,← aP];exact dK) ?_;have h9:=H
  simp [X2x] at h9
  omega
 refine wp_skip<|cS _ _<|wp_seq_k fun _ cV=>?_;refine X0h none (fun j=>[9].contains j) mixed ?_;intro eA d;have h:=h.below d;have t:=t.below d;have q:=q.below d;have b:=b.below d;have G:=G.below d;have z:=btr z d;refine Yb D<|Ye 0 rfl (Vn X1l h)<|Yo 1 rfl (fun _=>Xa rfl)<|Yo 2 rfl (fun _=>Xa rfl)<|Yo 3 rfl (fun _=>Xa rfl)<|Yo 4 rfl (fun _=>Xa rfl) ?_;refine Y1 5<|Yk rfl trivial (Vc (F51 _ aT aU ((wo).getD []) G.top Aqs cqs qs b.top 1 dG aA (by omega)) Xi6) (fun _ _ ⟨cW,cX,_,L,d⟩=>d) ?_;rintro _ eB ⟨cW,cX,rfl,L,d⟩;have L:=L.lower z.size;have t:=t.below d;have q:=q.below d;have b:=b.below d;have z:=btr z d;refine Y1 6<|Yk rfl trivial (Vc (Xrq _ c Ac cc q.top bQ p Aqs cqs qs b.top cW cX (mapI ((wo).getD []) qs) L.rd.top bR (by unfold mapI;rw [List.length_map];omega) bS) Xge) (fun _ _ ⟨aI,aJ,aK,aL,_,I,J,M,d⟩=>d) ?_;rintro _ eC ⟨aI,aJ,aK,aL,rfl,I,J,M,d⟩;have bH:=L.apart I (Nat.le_refl _);have I:=I.lower z.size;have bI:=L.apart J (Nat.le_refl _);have J:=J.lower z.size;have t:=t.below d;have z:=btr z d;refine Yo 7 rfl (fun _=>X4 (vs:=[.agg #[vi ((((runP c p qs).bind fun run=>repX c p run qs (mapI ((wo).getD []) qs)).getD rpZ).pos),.slice aI ((((runP c p qs).bind fun run=>repX c p run qs (mapI ((wo).getD []) qs)).getD rpZ).old).length aJ,.slice aK ((((runP c p qs).bind fun run=>repX c p run qs (mapI ((wo).getD []) qs)).getD rpZ).new).length aL],.bool (((runP c p qs).bind fun run=>repX c p run qs (mapI ((wo).getD []) qs)).isSome)]) rfl rfl)<|Yo 8 rfl (fun _=>X4 (vs:=[.agg #[vi ((((runP c p qs).bind fun run=>repX c p run qs (mapI ((wo).getD []) qs)).getD rpZ).pos),.slice aI ((((runP c p qs).bind fun run=>repX c p run qs (mapI ((wo).getD []) qs)).getD rpZ).old).length aJ,.slice aK ((((runP c p qs).bind fun run=>repX c p run qs (mapI ((wo).getD []) qs)).getD rpZ).new).length aL],.bool (((runP c p qs).bind fun run=>repX c p run qs (mapI ((wo).getD []) qs)).isSome)]) rfl rfl)<|Y1 9 ?_
 refine Yh rfl trivial rfl (Vw [vi ((((runP c p qs).bind fun run=>repX c p run qs (mapI ((wo).getD []) qs)).getD rpZ).pos),.slice aI ((((runP c p qs).bind fun run=>repX c p run qs (mapI ((wo).getD []) qs)).getD rpZ).old).length aJ,.slice aK ((((runP c p qs).bind fun run=>repX c p run qs (mapI ((wo).getD []) qs)).getD rpZ).new).length aL] X14 t) ?_;rintro _ eD ⟨N,hb⟩;have C:=t;have I:=I.onlyT N C rfl;have J:=J.onlyT N C rfl;have z:=Below.only z N aM;have t:=hb;refine Yo 10 rfl (fun _=>X18 rfl) ?_;refine Yd fun a D=>?_;refine cV _ _ ?_
 refine wp_ret (X2 D (X0w D rfl (ResV.cellN (l:=[vi ((((runP c p qs).bind fun run=>repX c p run qs (mapI ((wo).getD []) qs)).getD rpZ).pos),.slice aI ((((runP c p qs).bind fun run=>repX c p run qs (mapI ((wo).getD []) qs)).getD rpZ).old).length aJ,.slice aK ((((runP c p qs).bind fun run=>repX c p run qs (mapI ((wo).getD []) qs)).getD rpZ).new).length aL]) rfl X1a (t.at 0) rfl) rfl) ?_)
 rw [W,show repX c p rr qs (mapI (wo.getD []) qs)=(runP c p qs).bind (fun run=>repX c p run qs (mapI (wo.getD []) qs)) from by rw [bD,aH];rfl]
 exact ⟨aI,aJ,aK,aL,rfl,I,J,M,z⟩
theorem Xsw(Q:World)(b2:Nat)(b3:ByteArray→Option Sq)(bJ:Option Addr)(bK bL:Nat)(dL:MapS Q b2 (sgF b3))(cY:DeepM Q Q.heap.size 115 b3)(dM:sgL b3=(tbW 1 5).1)(b6:Nat)(aX:ByteArray→Option Sq)(bM:Option Addr)(bN bO:Nat)(u:MapS Q b6 (sgF aX))(o:DeepM Q Q.heap.size 115 aX)(bP:sgL aX=(tbW 2 3).1)(c:Cx)(Ac:Option Addr)(cc:Nat)(q:Rd Q Q.heap.size 115 encG Ac c.gs)(bQ:c.gs.length≤cc)(p:Int)(Aqs:Option Addr)(cqs:Nat)(qs:List Int)(b:Rd Q Q.heap.size 3 encI Aqs qs)(bR:c.gs.length≤1000000000)(bS:qs.length≤1048576)(d5:runB c p qs=true→qs.length=2)(bU:PowT Q) : Ret Tryz.prog 50 [.agg #[.map none,.slice none 0 0,.map (some b2),.slice bJ bK bL,.map (some b6),.slice bM bN bO],.agg #[vi c.n,.slice Ac c.gs.length cc],vi p,.slice Aqs qs.length cqs] Q (fun v w=>∃ A9 e9 B9 f9,v=.tuple #[.agg #[vi ((shrI c p qs).getD rpZ).pos,.slice A9 ((shrI c p qs).getD rpZ).old.length e9,.slice B9 ((shrI c p qs).getD rpZ).new.length f9],.bool (shrI c p qs).isSome]∧Own w Q.heap.size 115 3 encG A9 e9 ((shrI c p qs).getD rpZ).old∧Own w Q.heap.size 115 3 encG B9 f9 ((shrI c p qs).getD rpZ).new∧Apart A9 B9∧Below Q.heap.size Q w):=by
 obtain ⟨rr,bW⟩ : ∃ rr,rr=(runP c p qs).getD []:=⟨_,rfl⟩
 obtain ⟨ro,b7⟩ : ∃ ro:Bool,ro=(runP c p qs).isSome:=⟨_,rfl⟩
 refine enter Tryz.func50 rfl 93 rfl rfl ?_;intro a D
 have z:=bz Q
 refine Zs D fun _ d6=>?_;refine Zf (X0i (zs:=[.map none,.slice none 0 0,.map (some b2),.slice bJ bK bL,.map (some b6),.slice bM bN bO]) rfl rfl) ?_;rintro _ w1 ⟨b4,rfl,d7,d,B⟩;have dN:=Nat.le_trans z.size d7;have u:=u.below d;have q:=q.below d;have b:=b.below d;have o:=o.below d;have z:=btr z d;refine Zf (X0i (zs:=[vi c.n,.slice Ac c.gs.length cc]) rfl rfl) ?_;rintro _ w2 ⟨b5,rfl,d8,d,h⟩;have dO:=Nat.le_trans z.size d8;have u:=u.below d;have B:=B.below d;have q:=q.below d;have b:=b.below d;have o:=o.below d;have z:=btr z d;refine Zf (X8 (zs:=[vi 0,.slice none 0 0,.slice none 0 0]) X2l rfl) ?_;rintro _ w3 ⟨b8,rfl,d9,d,t⟩;have aM:=Nat.le_trans z.size d9;have u:=u.below d;have B:=B.below d;have h:=h.below d;have q:=q.below d;have b:=b.below d;have o:=o.below d;have z:=btr z d;refine Za rfl<|Zx d6 fun a D _ dA=>?_;refine Ze (Vn X1l h)<|Zm rfl<|Zm rfl<|Zf (X1x (vs:=[.agg #[vi c.n,.slice Ac c.gs.length cc],vi p,.slice Aqs qs.length cqs]) rfl Xb5 (by have hq:=Xmm w3 c Ac cc q.top p Aqs cqs qs b.top bR bS;rw [← bW,← b7] at hq;exact hq)) ?_;rintro _ w4 ⟨b9,bC,rfl,aN,d⟩;have aN:=aN.lower z.size;have u:=u.below d;have B:=B.below d;have h:=h.below d;have t:=t.below d;have q:=q.below d;have b:=b.below d;have o:=o.below d;have z:=btr z d;refine Zm rfl<|Ze (X4 (vs:=[.slice b9 rr.length bC,.bool ro]) rfl rfl)<|Ze (X4 (vs:=[.slice b9 rr.length bC,.bool ro]) rfl rfl)<|Za rfl<|Za rfl ?_;refine ZX dA fun a D _ bX=>?_;refine Zs D fun _ bY=>?_
 refine Zm rfl<|Ze (X0z rfl)<|Zt bY fun a D=>?_
 refine Xk D rfl (fun U=>?_) (fun U=>?_)
 ·have E:=U
  have bZ:(runP c p qs).isSome=false:=by rw [← b7];simpa using U
  have W:shrI c p qs=none:=by unfold shrI;rw [X8k bZ];rfl
  refine Zs D fun _ c4=>?_;refine Ze (Xg (ps:=[]) (cs:=[vi 0,.slice none 0 0,.slice none 0 0]) rfl (fun _=>by first|rfl|kernel_rfl))<|Zo (Vw [vi 0,.slice none 0 0,.slice none 0 0] X14 t) ?_;rintro _ w5 ⟨N,hb⟩;have C:=t;have z:=Below.only z N aM;have t:=hb;refine Za rfl<|Zt c4 fun a D=>?_;refine wp_ret<|X3<|X2 D (X0w D rfl (ResV.cellN (l:=[vi 0,.slice none 0 0,.slice none 0 0]) rfl X1a (t.at 0) rfl) rfl) ?_
  rw [W]
  exact ⟨none,0,none,0,rfl,(Own.nil _ _ _ _ _),(Own.nil _ _ _ _ _),(Apart.none_l _),z⟩
 have E:=U
 obtain ⟨aD,aO,bD⟩:=Xbb (c:=c) (p:=p) (qs:=qs) (by rw [← b7];simpa using U)
 have aH:rr=runL c p qs:=by rw [bW,bD];rfl
 have aA:=d5 aO
 have dP:rr.length≤6:=by rw [aH];exact X78 ..
 obtain ⟨dR,dS,dB⟩:=X7v aD aO
 have cA:∀ i ∈ rr,∃ j:Nat,i=(j:Int)∧j<c.gs.length:=fun i hi=>by rw [aH] at hi;obtain ⟨j,h1,h2,_⟩:=X5y aO i hi;exact ⟨j,h1,h2⟩
 have dQ:=X2x c rr;obtain ⟨dC,cB,M9,aE,cC,cD,cE,dD,dT⟩:=Xle aD aO
 rw [← aH] at dC cB aE
 have cF:opI ⟨(qs.length:Int),mapI (gatL c rr) (numbI qs)⟩=some M9:=by rw [cB];exact aE
 have cG:=Xdh (fun g hg=>(X6f aD aO g (by rw [← aH];exact hg)).1) (X12 aD).1.2
 rw [aA] at cD cE
 obtain ⟨cH,dE⟩:=Xmd (n:=2) (by omega) cC cD cE dD
 rw [show KN 2=3 from rfl] at cH
 obtain ⟨wo,cJ⟩ : ∃ wo,wo=(tbW 2 3).1 (keyM M9):=⟨_,rfl⟩
 have aP:wo=srW 2 M9:=cJ.trans cH
 have dF:(wo.getD []).length≤8∧∀ g ∈ wo.getD [],g ∈ gsT 2:=by
  cases e:wo with
  | none=>exact ⟨Nat.zero_le _,fun g hg=>by cases hg⟩
  | some w9=>have h9:=X4o (aP.symm.trans e);have:=X8q 2;exact ⟨by show w9.length≤8;omega,h9.2⟩
 have dG:=Xc9 (n:=2) (by omega) dF.2
 have cK:shrI c p qs=plX c p qs rr:=by unfold shrI;rw [bD,aH];rfl
 refine wp_skip<|bX _ _<|Zs D fun _ cL=>?_;refine Ze (Vn X1l h)<|Zm rfl<|Zf (Vc (Xs4 _ c Ac cc q.top b9 bC rr aN.rd.top (by omega) cA) Xhz) ?_;rintro _ w6 ⟨cM,cN,rfl,x,d⟩;have x:=x.lower z.size;have u:=u.below d;have B:=B.below d;have h:=h.below d;have t:=t.below d;have q:=q.below d;have b:=b.below d;have o:=o.below d;have z:=btr z d;refine Za rfl<|Zx cL fun a D _ cO=>?_;refine Zm rfl<|Ze (X0x rfl X08)<|Zm rfl<|Zm rfl<|Zf (Vc (F49 _ Aqs cqs qs b.top dB (by omega)) Xsb) ?_;rintro _ w7 ⟨dH,dI,rfl,aQ,d⟩;have aQ:=aQ.lower z.size;have u:=u.below d;have B:=B.below d;have h:=h.below d;have t:=t.below d;have q:=q.below d;have b:=b.below d;have x:=x.below d;have o:=o.below d;have z:=btr z d;refine Zf (Vc (F51 _ cM cN (gatL c rr) x.rd.top dH dI (numbI qs) aQ.rd.top 5 cG (X6h _) (by omega)) Xi6) ?_;rintro _ w8 ⟨aY,aZ,rfl,aF,d⟩;have bG:=x.apart aF (Nat.le_refl _);have aF:=aF.lower z.size;have u:=u.below d;have B:=B.below d;have h:=h.below d;have t:=t.below d;have q:=q.below d;have b:=b.below d;have x:=x.below d;have o:=o.below d;have z:=btr z d;refine Ze (Xg (ps:=[(0,vi (qs.length:Int)),(1,.slice aY (mapI (gatL c rr) (numbI qs)).length aZ)]) (cs:=[vi (qs.length:Int),.slice aY (mapI (gatL c rr) (numbI qs)).length aZ]) rfl (fun _=>by first|rfl|kernel_rfl))<|Zf (X1x (vs:=[.agg #[vi (qs.length:Int),.slice aY (mapI (gatL c rr) (numbI qs)).length aZ]]) rfl Xs0 (by have hq:=F97 w8 (⟨(qs.length:Int),(mapI (gatL c rr) (numbI qs))⟩ : Cx) aY aZ aF.rd.top (by show (mapI (gatL c rr) (numbI qs)).length≤_;unfold mapI;rw [List.length_map];omega);rw [cF,Option.getD_some,Option.isSome_some] at hq;exact hq)) ?_;rintro _ w9 ⟨aR,aS,rfl,aB,d⟩
 have u:=u.below d;have B:=B.below d;have h:=h.below d;have t:=t.below d;have q:=q.below d;have b:=b.below d;have x:=x.below d;have o:=o.below d;have z:=btr z d;refine Zm rfl<|Ze (X4 (vs:=[.agg #[vi M9.rows,vi M9.cols,.slice aR M9.cells.length aS],.bool true]) rfl rfl)<|Ze (X4 (vs:=[.agg #[vi M9.rows,vi M9.cols,.slice aR M9.cells.length aS],.bool true]) rfl rfl)<|Zf (X8 (zs:=[vi 0,vi 0,.slice none 0 0]) X1n rfl) ?_;rintro _ dU ⟨dW,rfl,cP,d,aG⟩;have bE:=Nat.le_trans z.size cP;have u:=u.below d;have B:=B.below d;have h:=h.below d;have t:=t.below d;have q:=q.below d;have b:=b.below d;have x:=x.below d;have aB:=aB.below d;have o:=o.below d;have z:=btr z d;refine Zo (Vw [vi M9.rows,vi M9.cols,.slice aR M9.cells.length aS] X17 aG) ?_;rintro _ dJ ⟨N,hb⟩;have C:=aG;have u:=u.only N (u.ne C);have B:=B.only N (Blk.ne B C rfl);have h:=h.only N (Blk.ne h C rfl);have t:=t.only N (Blk.ne t C rfl);have q:=q.onlyT N C rfl;have b:=b.onlyT N C rfl;have x:=x.onlyT N C rfl;have aB:=aB.onlyT N C rfl;have o:=o.onlyT N C rfl;have z:=Below.only z N bE;have aG:=hb;refine Za rfl<|Zx cO fun a D _ cQ=>?_;refine Ze (Vn X0e aG)<|Zf (X1x (vs:=[.agg #[vi M9.rows,vi M9.cols,.slice aR M9.cells.length aS]]) rfl X80 (by have hq:=Xhr dJ M9 aR aS aB.top (X52 cC) (bU.of z);rw [dE] at hq;exact hq)) ?_;rintro _ w12 ⟨rfl,d⟩;have u:=u.below d;have B:=B.below d;have h:=h.below d;have t:=t.below d
 have q:=q.below d;have b:=b.below d;have x:=x.below d;have o:=o.below d;have z:=btr z d;refine Zm rfl<|Ze (X4 (vs:=[.string (keyM M9),.bool true]) rfl rfl)<|Ze (X4 (vs:=[.string (keyM M9),.bool true]) rfl rfl)<|Za rfl<|Za rfl ?_;refine Zx cQ fun a D _ cR=>?_;refine Zm rfl<|Ze (Vx (X0x rfl X08) (show _=(2:Int) from (by rw [aA];rfl)))<|Ze (Vd rfl X9t 0)<|Ze (Xap (k:=2) (sz:=2) rfl rfl Tryz.underlying83 X7m rfl (by decide) (m:=4) rfl)<|Ze (Vd rfl X56 4) ?_;refine Ze (X0 rfl X7p (B.at 4))<|Zm rfl ?_;obtain ⟨aT,aU,b0,b1,G⟩:=Xaz o (keyM M9)
 rw [bP,← cJ] at b0 b1 G
 refine Ze (Xft (f:=aX) rfl rfl Tryz.underlying71 Tryz.underlying9 Xnm u b0 b1)<|Zm rfl<|Ze (X4 (vs:=[.slice aT ((wo).getD []).length aU,.bool ((wo).isSome)]) rfl rfl)<|Ze (X4 (vs:=[.slice aT ((wo).getD []).length aU,.bool ((wo).isSome)]) rfl rfl)<|Za rfl ?_;refine Za rfl<|ZX cR fun a D _ cS=>?_;refine wp_seq_k fun _ cT=>?_;refine X0o (fun a w=>Fr a 93 [(2,vi p),(3,.slice Aqs qs.length cqs),(5,.pointer (some ⟨b5,0,none⟩)),(8,.pointer (some ⟨b8,0,none⟩)),(17,.slice aT ((wo).getD []).length aU),(82,.bool (((!((wo).isSome))||(decide (((gatL c rr).length:Int)≤(((wo).getD []).length:Int))))||(decide (((tcN (gatL c rr) : Nat) : Int)<((tcN ((wo).getD []) : Nat) : Int)))))]∧Below w12.heap.size w12 w) ?_ ?_
 ·have aC:Below w12.heap.size w12 w12:=Below.refl _ _
  refine Zr D<|Zm rfl<|Ze (X0z rfl)<|Zm rfl<|Zv (gW rfl) (Xa rfl) ?_;refine Zv (gW rfl) (X0z rfl) ?_;refine Ze (Xj rfl rfl rfl)<|Zm rfl<|Zv (gW rfl) (Xa rfl) ?_;refine Zv (gW rfl) (X0z rfl) ?_;refine Ze (Xj rfl rfl rfl)<|Zm rfl ?_
  refine Zg 69 rfl (fun y=>?_) (fun y=>?_)
  ·refine Zp (gP y) ?_;refine Zp (gP y) ?_;refine Zp (gP y) ?_;refine Zp (gP y) ?_;refine Zp (gP y) ?_;refine Ze (Xn rfl y rfl)<|Zm rfl<|Zp (gP rfl) ?_;refine Zp (gP rfl) ?_;refine Zp (gP rfl) ?_;refine Zp (gP rfl) ?_;refine Zp (gP rfl) ?_;refine Ze (Xn rfl rfl rfl) ?_;refine Zn fun a D=>?_
   have aW:Below w12.heap.size w12 w12:=aC
   exact ⟨D.sub ⟨rfl,rfl,rfl,rfl,rfl,X1 rfl (by first|rfl|(simp only [E,y,bs];done)|simp [E,y]),trivial⟩,aW⟩
  refine Zv (gW y) (Xa rfl) ?_;refine Zv (gW y) (X0x rfl Xf) ?_;refine Zv (gW y) (Xa rfl) ?_;refine Zv (gW y) (X0x rfl Xf) ?_;refine Zv (gW y) (X99 rfl rfl) ?_;refine Ze (Xj rfl y rfl)<|Zm rfl ?_
  refine Zg 76 rfl (fun A=>?_) (fun A=>?_)
  ·refine Zp (gP A) ?_;refine Zp (gP A) ?_;refine Zp (gP A) ?_;refine Zp (gP A) ?_;refine Zp (gP A) ?_;refine Ze (Xn rfl A rfl) ?_;refine Zn fun a D=>?_
   have aW:Below w12.heap.size w12 w12:=aC
   exact ⟨D.sub ⟨rfl,rfl,rfl,rfl,rfl,X1 rfl (by first|rfl|(simp only [E,y,A,bs];done)|simp [E,y,A]),trivial⟩,aW⟩
  refine Zv (gW A) (Xa rfl) ?_;refine Zk (gW A) (Vc (Xgt _ aT aU ((wo).getD []) G.top (by omega)) X7y) ?_;rintro _ dX ⟨rfl,d⟩;have x:=x.below d;have z:=btr z d;have aC:=btr aC d;refine Zv (gW A) (Xa rfl) ?_;refine Zk (gW A) (Vc (Xgt _ cM cN (gatL c rr) x.rd.top (by omega)) X7y) ?_;rintro _ w14 ⟨rfl,d⟩;have z:=btr z d;have aC:=btr aC d;refine Zv (gW A) (X3a rfl rfl) ?_;refine Ze (Xj rfl A rfl) ?_;refine Zn fun a D=>?_
  have aW:Below w12.heap.size w12 w14:=aC
  exact ⟨D.sub ⟨rfl,rfl,rfl,rfl,rfl,X1 rfl (by first|rfl|(simp only [E,y,A,bs];done)|simp [E,y,A]),trivial⟩,aW⟩
 rintro a dY ⟨D,d⟩;have h:=h.below d;have t:=t.below d;have q:=q.below d;have b:=b.below d;have G:=G.below d;have z:=btr z d;refine cT _ _ ?_
 refine Xk D rfl (fun H=>?_) (fun H=>?_)
 ·have bF:=H
  have W:shrI c p qs=none:=by
   rw [cK]
   refine X4m aE fun w9 h9=>?_
   rw [aA,← aP] at h9
   rw [h9] at H
   intro h8
   revert H
   simp [X2x]
   omega
  refine Zs D fun _ cU=>?_;refine Ze (Xg (ps:=[]) (cs:=[vi 0,.slice none 0 0,.slice none 0 0]) rfl (fun _=>by first|rfl|kernel_rfl))<|Zo (Vw [vi 0,.slice none 0 0,.slice none 0 0] X14 t) ?_;rintro _ e8 ⟨N,hb⟩;have C:=t;have z:=Below.only z N aM;have t:=hb;refine Za rfl<|Zt cU fun a D=>?_;refine wp_ret<|X3<|X2 D (X0w D rfl (ResV.cellN (l:=[vi 0,.slice none 0 0,.slice none 0 0]) rfl X1a (t.at 0) rfl) rfl) ?_
  rw [W]
  exact ⟨none,0,none,0,rfl,(Own.nil _ _ _ _ _),(Own.nil _ _ _ _ _),(Apart.none_l _),z⟩
 have bF:=H
 have dK:wo=some (wo.getD []):=Xb1 (by have h9:=H;revert h9;cases wo.isSome<;>simp)
 have W:shrI c p qs=repX c p rr qs (mapI (wo.getD []) qs):=by
  rw [cK]
  refine X83 aE (by rw [aA,← aP];exact dK) ?_;have h9:=H
  simp [X2x] at h9
  omega
 refine wp_skip<|cS _ _<|wp_seq_k fun _ cV=>?_;refine X0h none (fun j=>[9].contains j) mixed ?_;intro eA d;have h:=h.below d;have t:=t.below d;have q:=q.below d;have b:=b.below d;have G:=G.below d;have z:=btr z d;refine Yb D<|Ye 0 rfl (Vn X1l h)<|Yo 1 rfl (fun _=>Xa rfl)<|Yo 2 rfl (fun _=>Xa rfl)<|Yo 3 rfl (fun _=>Xa rfl)<|Yo 4 rfl (fun _=>Xa rfl) ?_;refine Y1 5<|Yk rfl trivial (Vc (F51 _ aT aU ((wo).getD []) G.top Aqs cqs qs b.top 2 dG aA (by omega)) Xi6) (fun _ _ ⟨cW,cX,_,L,d⟩=>d) ?_;rintro _ eB ⟨cW,cX,rfl,L,d⟩;have L:=L.lower z.size;have t:=t.below d;have q:=q.below d;have b:=b.below d;have z:=btr z d;refine Y1 6<|Yk rfl trivial (Vc (Xrq _ c Ac cc q.top bQ p Aqs cqs qs b.top cW cX (mapI ((wo).getD []) qs) L.rd.top bR (by unfold mapI;rw [List.length_map];omega) bS) Xge) (fun _ _ ⟨aI,aJ,aK,aL,_,I,J,M,d⟩=>d) ?_;rintro _ eC ⟨aI,aJ,aK,aL,rfl,I,J,M,d⟩;have bH:=L.apart I (Nat.le_refl _);have I:=I.lower z.size;have bI:=L.apart J (Nat.le_refl _);have J:=J.lower z.size;have t:=t.below d;have z:=btr z d;refine Yo 7 rfl (fun _=>X4 (vs:=[.agg #[vi ((((runP c p qs).bind fun run=>repX c p run qs (mapI ((wo).getD []) qs)).getD rpZ).pos),.slice aI ((((runP c p qs).bind fun run=>repX c p run qs (mapI ((wo).getD []) qs)).getD rpZ).old).length aJ,.slice aK ((((runP c p qs).bind fun run=>repX c p run qs (mapI ((wo).getD []) qs)).getD rpZ).new).length aL],.bool (((runP c p qs).bind fun run=>repX c p run qs (mapI ((wo).getD []) qs)).isSome)]) rfl rfl)<|Yo 8 rfl (fun _=>X4 (vs:=[.agg #[vi ((((runP c p qs).bind fun run=>repX c p run qs (mapI ((wo).getD []) qs)).getD rpZ).pos),.slice aI ((((runP c p qs).bind fun run=>repX c p run qs (mapI ((wo).getD []) qs)).getD rpZ).old).length aJ,.slice aK ((((runP c p qs).bind fun run=>repX c p run qs (mapI ((wo).getD []) qs)).getD rpZ).new).length aL],.bool (((runP c p qs).bind fun run=>repX c p run qs (mapI ((wo).getD []) qs)).isSome)]) rfl rfl)<|Y1 9 ?_
 refine Yh rfl trivial rfl (Vw [vi ((((runP c p qs).bind fun run=>repX c p run qs (mapI ((wo).getD []) qs)).getD rpZ).pos),.slice aI ((((runP c p qs).bind fun run=>repX c p run qs (mapI ((wo).getD []) qs)).getD rpZ).old).length aJ,.slice aK ((((runP c p qs).bind fun run=>repX c p run qs (mapI ((wo).getD []) qs)).getD rpZ).new).length aL] X14 t) ?_;rintro _ eD ⟨N,hb⟩;have C:=t;have I:=I.onlyT N C rfl;have J:=J.onlyT N C rfl;have z:=Below.only z N aM;have t:=hb;refine Yo 10 rfl (fun _=>X18 rfl) ?_;refine Yd fun a D=>?_;refine cV _ _ ?_
 refine wp_ret (X2 D (X0w D rfl (ResV.cellN (l:=[vi ((((runP c p qs).bind fun run=>repX c p run qs (mapI ((wo).getD []) qs)).getD rpZ).pos),.slice aI ((((runP c p qs).bind fun run=>repX c p run qs (mapI ((wo).getD []) qs)).getD rpZ).old).length aJ,.slice aK ((((runP c p qs).bind fun run=>repX c p run qs (mapI ((wo).getD []) qs)).getD rpZ).new).length aL]) rfl X1a (t.at 0) rfl) rfl) ?_)
 rw [W,show repX c p rr qs (mapI (wo.getD []) qs)=(runP c p qs).bind (fun run=>repX c p run qs (mapI (wo.getD []) qs)) from by rw [bD,aH];rfl]
 exact ⟨aI,aJ,aK,aL,rfl,I,J,M,z⟩
theorem Xy7(b:World)(j:Nat)(d:ByteArray→Option Sq)(aA:Option Addr)(aB aC:Nat)(l:MapS b j (sgF d))(e:DeepM b b.heap.size 115 d)(m:sgL d=(tbW 1 5).1)(k:Nat)(f:ByteArray→Option Sq)(aD:Option Addr)(aE aF:Nat)(o:MapS b k (sgF f))(g:DeepM b b.heap.size 115 f)(q:sgL f=(tbW 2 3).1)(c:Cx)(Ac:Option Addr)(cc:Nat)(t:Rd b b.heap.size 115 encG Ac c.gs)(u:c.gs.length≤cc)(p:Int)(Aqs:Option Addr)(cqs:Nat)(qs:List Int)(i:Rd b b.heap.size 3 encI Aqs qs)(aG:c.gs.length≤1000000000)(aH:qs.length≤1048576)(x:PowT b) :
  Ret Tryz.prog 50 [.agg #[.map none,.slice none 0 0,.map (some j),.slice aA aB aC,.map (some k),.slice aD aE aF],.agg #[vi c.n,.slice Ac c.gs.length cc],vi p,.slice Aqs qs.length cqs] b (fun v w=>∃ A9 e9 B9 f9,v=.tuple #[.agg #[vi ((shrI c p qs).getD rpZ).pos,.slice A9 ((shrI c p qs).getD rpZ).old.length e9,.slice B9 ((shrI c p qs).getD rpZ).new.length f9],.bool (shrI c p qs).isSome]∧Own w b.heap.size 115 3 encG A9 e9 ((shrI c p qs).getD rpZ).old∧Own w b.heap.size 115 3 encG B9 f9 ((shrI c p qs).getD rpZ).new∧Apart A9 B9∧Below b.heap.size b w):=by
 by_cases h:qs.length=2
 ·exact Xsw b j d aA aB aC l e m k f aD aE aF o g q c Ac cc t u p Aqs cqs qs i aG aH (fun _=>h) x
 ·exact Xup b j d aA aB aC l e m k f aD aE aF o g q c Ac cc t u p Aqs cqs qs i aG aH (fun hr=>by have:=(X2e hr).1;omega) x
theorem Xy2(p:World)(c:Cx)(Ac:Option Addr)(cc:Nat)(t:Rd p p.heap.size 115 encG Ac c.gs)(lo:Int)(hi:Int)(aS:c.gs.length≤100000000) : Ret Tryz.prog 142 [.agg #[vi c.n,.slice Ac c.gs.length cc],vi lo,vi hi] p (fun v w=>v=vi ((c.gs.countP fun g=>inR g.k lo hi:Nat) : Int)∧Below p.heap.size p w):=by
 refine enter Tryz.func142 rfl 26 rfl rfl ?_;intro a d
 have i:=bz p
 refine Zs d fun _ aI=>?_;refine Zf (X0i (zs:=[vi c.n,.slice Ac c.gs.length cc]) rfl rfl) ?_;rintro _ w1 ⟨b3,rfl,aJ,hE,aK⟩;have aQ:=Nat.le_trans i.size aJ;have i:=btr i hE;refine Za rfl<|Zx aI fun a d _ aL=>?_;refine Za rfl<|ZX aL fun a d _ aM=>?_;refine Zs d fun _ aN=>?_;refine Ze (Vd rfl X0v 1)<|Ze (X0 rfl X15 (aK.at 1))<|Ze (X0x rfl Xf)<|Zm rfl<|Zt aN fun a d=>?_;refine wp_block<|X0b (σ:=Nat×Nat) (fun (s:Nat×Nat) (a:Act) (w:World)=>match s with|(k,q)=>Fr a 26 [(1,vi lo),(2,vi hi),(7,vi (q:Int)),(11,.slice Ac c.gs.length cc),(12,vi (c.gs.length:Int)),(13,vi (k:Int))]∧(k≤c.gs.length)∧(q=(c.gs.take k).countP fun g=>inR g.k lo hi)∧(q≤k)∧Below p.heap.size p w) (fun (s:Nat×Nat)=>match s with|(k,q)=>c.gs.length-k) (0,0) ?_ ?_
 ·exact ⟨d.sb,(Nat.zero_le _),rfl,(Nat.le_refl _),i⟩
 rintro ⟨k,q⟩ a w2 ⟨d,hk,hq,aT,i⟩;refine Zs d fun _ aO=>?_;refine Ze (X10 rfl rfl)<|ZX aO fun a d _ aP=>?_
 refine Xk d rfl (fun j=>?_) (fun j=>?_)
 ·have aD:=j;have j:=of_decide_eq_true j
  obtain ⟨e,o⟩:=Xi (l:=c.gs) (k:=k) (by omega)
  refine wp_skip<|aP _ _<|wp_seq_k fun _ x=>?_;refine wp_block<|Zs d fun _ aE=>?_;refine Zi (k:=k) (u:=e) (enc:=encG) (l:=c.gs) trivial rfl rfl Xf X0p Xb (t.below' i) o rfl ?_;intro aU aA;refine Ze (X07 (l:=[vi e.k,vi e.a,vi e.b]) rfl X0g aA rfl)<|Zf (X8 (zs:=[vi 0,vi 0,vi 0]) X2i rfl) ?_;rintro _ w3 ⟨aW,rfl,y,hE,m⟩;have aB:=Nat.le_trans i.size y;have aF:=(t.below' i).away y;have i:=btr i hE;refine Zo (Vw [vi e.k,vi e.a,vi e.b] X0p m) ?_;rintro _ w4 ⟨ho,hb⟩;have aR:=m;have i:=Below.only i ho aB;have m:=hb;refine Zx aE fun a d _ aG=>?_;refine Ze (Vd rfl X0n 0)<|Ze (X0 rfl X7 (m.at 0))<|Zm rfl<|Zm rfl<|Zf (Vc (F85 _ e.k lo hi) X40) ?_;rintro _ _ ⟨rfl,rfl⟩;refine Zt aG fun a d=>?_
  refine Xk d rfl (fun f=>?_) (fun f=>?_)
  ·have aC:=f
   have hT:inR e.k lo hi=true:=f
   refine Zr d<|Zm rfl<|Ze (X06 rfl rfl (by omega) (by omega))<|Za rfl ?_;refine Zn fun a d=>?_;refine Xt<|x _ _<|Zr d<|Ze (X06 rfl rfl (by omega) (by omega))<|Zm rfl ?_;refine Zn fun a d=>?_;refine Xp ?_;exact ⟨(k+1,q+1),⟨d.sb,(by omega),(by rw [List.take_add_one,o,List.countP_append,← hq];simp [hT]),(by omega),i⟩,(by first|omega|(dsimp only;omega))⟩
  have aC:=f
  have hT:inR e.k lo hi=false:=f
  refine wp_skip<|Xt<|x _ _<|Zr d ?_;refine Ze (X06 rfl rfl (by omega) (by omega))<|Zm rfl ?_;refine Zn fun a d=>?_;refine Xp ?_;exact ⟨(k+1,q),⟨d.sb,(by omega),(by rw [List.take_add_one,o,List.countP_append,← hq];simp [hT]),(by omega),i⟩,(by first|omega|(dsimp only;omega))⟩
 have aD:=j;have j:=of_decide_eq_false j;refine wp_exit<|Xl<|Xl<|X0a ?_;refine aM _ _<|Zs d fun _ aH=>?_;refine Zm rfl<|Za rfl<|Zt aH fun a d=>?_
 refine wp_ret (X2 d (Xv d rfl rfl) ?_)
 exact ⟨by rw [hq,List.take_of_length_le (by omega)],i⟩
theorem Xgz(w0:World)(Al:Option Addr)(cl:Nat)(l:List Gt)(aA:Rd w0 w0.heap.size 115 encG Al l)(aB:l.length≤100000000) : Ret Tryz.prog 80 [.slice Al l.length cl] w0 (fun v w=>v=vi ((tcN l:Nat) : Int)∧Below w0.heap.size w0 w):=by
 refine enter Tryz.func80 rfl 6 rfl rfl ?_;intro a hf
 have hW:=bz w0
 refine Zs hf fun _ aC=>?_;refine Za rfl<|Zx aC fun a hf _ aD=>?_;refine Zm rfl<|Ze (Xg (ps:=[(1,.slice Al l.length cl)]) (cs:=[vi 0,.slice Al l.length cl]) rfl (fun _=>by first|rfl|kernel_rfl))<|Zf (Vc (Xy2 _ (⟨0,l⟩ : Cx) Al cl (aA.below' hW).top 7 8 aB) Xqh) ?_;rintro _ w1 ⟨rfl,hE⟩;have hW:=btr hW hE;refine Za rfl<|Zt aD fun a hf=>?_
 refine wp_ret (X2 hf (Xv hf rfl rfl) ?_)
 exact ⟨by rw [← Xkh],hW⟩
theorem Xxp(B:World)(c:Cx)(Ac:Option Addr)(cc:Nat)(U:Rd B B.heap.size 115 encG Ac c.gs)(Arr:Option Addr)(crr:Nat)(rr:List Int)(aA:Rd B B.heap.size 3 encI Arr rr)(Aqs:Option Addr)(cqs:Nat)(qs:List Int)(aB:Rd B B.heap.size 3 encI Aqs qs)(bH:cOk c=true)(bK:rr.length≤6)(b1:∀ i ∈ rr,∃ j:Nat,i=(j:Int)∧j<c.gs.length)(b2:∀ g ∈ gatL c rr,GoodG qs c.n g∧insB g qs=true)(b3:Inc qs)(b4:qs.length≤1048576) : Ret Tryz.prog 77 [.agg #[vi c.n,.slice Ac c.gs.length cc],.slice Arr rr.length crr,.slice Aqs qs.length cqs] B (fun v w=>∃ A e,v=.agg #[vi (xC c rr qs).n,.slice A (xC c rr qs).gs.length e]∧Own w B.heap.size 115 3 encG A e (xC c rr qs).gs∧Below B.heap.size B w):=by
 have bI:=X2x c rr;refine enter Tryz.func77 rfl 33 rfl rfl ?_;intro a y
 have p:=bz B
 refine Zs y fun _ b6=>?_;refine Zf (X0i (zs:=[vi c.n,.slice Ac c.gs.length cc]) rfl rfl) ?_;rintro _ w1 ⟨b5,rfl,b8,t,f⟩;have bJ:=Nat.le_trans p.size b8;have p:=btr p t;refine Zf (X8 (zs:=[vi 0,.slice none 0 0]) Xjp rfl) ?_;rintro _ w2 ⟨b7,rfl,b9,t,m⟩
 have b0:b5≠b7:=by have:=f.lt;omega
 have aJ:=Nat.le_trans p.size b9;have f:=f.below t;have p:=btr p t;refine Zx b6 fun a y _ bC=>?_;refine Zm rfl<|Ze (X0x rfl X08)<|Ze (Xg (ps:=[(0,vi (qs.length:Int))]) (cs:=[vi (qs.length:Int),.slice none 0 0]) rfl (fun _=>by first|rfl|kernel_rfl))<|Zf (X8 (zs:=[vi 0,.slice none 0 0]) Xjp rfl) ?_;rintro _ w3 ⟨b11,rfl,aK,t,d⟩
 have aL:b5≠b11:=by have:=f.lt;omega
 have aM:b7≠b11:=by have:=m.lt;omega
 have H:=Nat.le_trans p.size aK;have f:=f.below t;have m:=m.below t;have p:=btr p t;refine Zo (Vw [vi (qs.length:Int),.slice none 0 0] Xcm d) ?_;rintro _ w4 ⟨I,hb⟩;have C:=d;have f:=f.only I (by omega);have m:=m.only I (by omega);have p:=Below.only p I H;have d:=hb;refine ZX bC fun a y _ aN=>?_;refine Zs y fun _ aO=>?_;refine Zm rfl<|Ze (X0x rfl X08)<|Zm rfl<|Zt aO fun a y=>?_;refine wp_block<|X0b (σ:=Nat×(List Gt)) (fun (s:Nat×(List Gt)) (a:Act) (w:World)=>match s with|(k,q)=>∃ D E,Fr a 33 [(2,.slice Aqs qs.length cqs),(3,.pointer (some ⟨b5,0,none⟩)),(6,.pointer (some ⟨b7,0,none⟩)),(7,.pointer (some ⟨b11,0,none⟩)),(13,.slice Arr rr.length crr),(14,vi (rr.length:Int)),(15,vi (k:Int))]∧(k≤rr.length)∧(q=((gatL c rr).take k).map (smallG qs))∧(q.length=k)∧Blk w b5 28 [vi c.n,.slice Ac c.gs.length cc]∧Blk w b7 28 [vi 0,.slice none 0 0]∧Blk w b11 28 [vi (qs.length:Int),.slice D q.length E]∧Own w B.heap.size 115 3 encG D E q∧Below B.heap.size B w) (fun (s:Nat×(List Gt))=>match s with|(k,q)=>rr.length-k) (0,[]) ?_ ?_
 ·exact ⟨none,0,y.sb,(Nat.zero_le _),rfl,rfl,f,m,d,(Own.nil _ _ _ _ _),p⟩
 rintro ⟨k,q⟩ a w5 ⟨D,E,y,hk,hq,bD,f,m,d,o,p⟩;refine Zs y fun _ aP=>?_;refine Ze (X10 rfl rfl)<|ZX aP fun a y _ aQ=>?_
 refine Xk y rfl (fun x=>?_) (fun x=>?_)
 ·have aC:=x;have x:=of_decide_eq_true x
  obtain ⟨bE,J⟩:=Xi (l:=rr) (k:=k) (by omega)
  obtain ⟨j9,aR,aS⟩:=b1 _ (List.mem_of_getElem? J)
  obtain ⟨u9,aD⟩:=Xi (l:=gatL c rr) (k:=k) (by omega)
  have bF:c.gs[j9]? = some u9:=Xqw J aR aS aD
  obtain ⟨W,L⟩:=b2 u9 (List.mem_of_getElem? aD);refine wp_skip<|aQ _ _<|wp_seq_k fun _ aT=>?_;refine wp_block<|Zs y fun _ aU=>?_;refine Zi (k:=k) (u:=bE) (enc:=encI) (l:=rr) trivial rfl rfl X08 X1j X02 (aA.below' p) J rfl ?_;intro bL aE;refine Ze (X0 rfl X7 aE)<|Za rfl<|Zt aU fun a y=>?_;refine X0h none (fun j=>[10,12].contains j) mixed ?_;intro w6 t;have f:=f.below t;have m:=m.below t;have d:=d.below t;have o:=o.below t;have p:=btr p t;refine Yb y<|Yo 0 rfl (fun _=>Vd rfl X0v 1)<|Ye 1 rfl (X0 rfl X15 (d.at 1))<|Yo 2 rfl (fun _=>Vd rfl X0v 1)<|Ye 3 rfl (X0 rfl X15 (f.at 1))<|Yo 4 rfl (fun _=>Xa rfl) ?_;refine Yi (k:=j9) (u:=u9) (enc:=encG) (l:=c.gs) 5 rfl trivial rfl rfl Xf X0p Xb (U.below' p) bF aR ?_;intro bM aF;refine Ye 6 rfl (X07 (l:=[vi u9.k,vi u9.a,vi u9.b]) rfl X0g aF rfl)<|Yo 7 rfl (fun _=>Xa rfl)<|Y1 8 ?_;refine Yk rfl trivial (Vc (Xz0 _ u9 Aqs cqs qs (aB.below' p).top (Xgg L) (W.use _ (Xvy (Xgg L))) b3 (fun h9=>W.use _ (Xwn (Xgg L) h9)) (Nat.le_trans b4 (by decide))) Xt3) (fun _ _ ⟨_,t⟩=>t) ?_;rintro _ w7 ⟨rfl,t⟩;have f:=f.below t;have m:=m.below t;have d:=d.below t;have o:=o.below t;have p:=btr p t;refine Y1 9<|Yk rfl trivial (X5 (k:=1) (vs:=[.agg #[vi ((smallG qs u9).k),vi ((smallG qs u9).a),vi ((smallG qs u9).b)]]) (zs:=[vi ((smallG qs u9).k),vi ((smallG qs u9).a),vi ((smallG qs u9).b)]) rfl Xf Xo rfl rfl) (fun _ _ ⟨_,_,_,h,_⟩=>h) ?_;rintro _ w8 ⟨bN,rfl,M,t,N⟩;have bG:=Nat.le_trans p.size M;have aW:=(U.below' p).away M;have G:=o.away M;have f:=f.below t;have m:=m.below t
  have d:=d.below t;have o:=o.below t;have p:=btr p t;refine Y1 10<|Yt rfl trivial rfl (X11 (enc:=encG) (l:=(q)) (l2:=([(smallG qs u9)])) (B0:=B.heap.size) rfl rfl Xf Xo Xb X0d o (Rd.of_blk N rfl _ N.lt) (by simp only [maxLen];simp;omega) (by simp;omega) p.size) ?_;rintro _ w9 ⟨aG,aH,rfl,Q,hg,aX⟩
  have z:Own _ B.heap.size 115 3 encG _ _ (q):=o
  have aI:=aX _ N.lt G;clear aX;have f:=f.appT z hg rfl;have m:=m.appT z hg rfl;have d:=d.appT z hg rfl;have p:=Below.app p z hg (Nat.le_refl _) p.size;clear z hg;refine Yo 11 rfl (fun _=>Vd rfl X0v 1)<|Y1 12 ?_;refine Yh rfl trivial rfl (Vu (vs:=[.slice aG (q++([(smallG qs u9)])).length aH]) (l':=[vi (qs.length:Int),.slice aG (q++([(smallG qs u9)])).length aH]) rfl rfl Xh9 d) ?_;rintro _ bO ⟨I,hb⟩;have C:=d;have f:=f.only I (by omega);have m:=m.only I (by omega);have Q:=Q.onlyT I C rfl;have p:=Below.only p I H;have d:=hb;refine Yd fun a y=>?_;refine Xt<|aT _ _<|Zr y<|Ze (X06 rfl rfl (by omega) (by omega))<|Zm rfl ?_;refine Zn fun a y=>?_;refine Xp ?_;exact ⟨(k+1,(q++[smallG qs u9])),⟨aG,aH,y.sb,(by omega),(Xk4 hq aD),(by simp;exact bD),f,m,d,Q,p⟩,(by first|omega|(dsimp only;omega))⟩
 have aC:=x;have x:=of_decide_eq_false x
 have aY:q=(gatL c rr).map (smallG qs):=by rw [hq,List.take_of_length_le (by omega)]
 refine wp_exit<|Xl<|Xl<|X0a ?_;refine aN _ _<|Zs y fun _ aZ=>?_;refine Ze (Vn X1l d)<|Zo (Vw [vi (qs.length:Int),.slice D q.length E] Xcm m) ?_;rintro _ bP ⟨I,hb⟩;have C:=m;have o:=o.onlyT I C rfl;have p:=Below.only p I aJ;have m:=hb;refine Zt aZ fun a y=>?_
 refine wp_ret (X2 y (Xv y rfl (ResV.cellN (l:=[vi (qs.length:Int),.slice D q.length E]) rfl X1l (m.at 0) rfl)) ?_)
 subst aY
 exact ⟨D,E,rfl,o,p⟩
theorem Xxo(w0:World)(x:Cx)(Ax:Option Addr)(cx:Nat)(aB:Rd w0 w0.heap.size 115 encG Ax x.gs)(hx:cOk x=true)(M9:Mx)(aC:opI x=some M9) : Ret Tryz.prog 78 [.agg #[vi x.n,.slice Ax x.gs.length cx]] w0 (fun v w=>∃ A c1,v=mV A c1 ((opI x).getD mZ)∧Rd w w.heap.size 95 encD A ((opI x).getD mZ).cells∧Below w0.heap.size w0 w):=by
 obtain ⟨hn,aL,aN⟩:=X12 hx;have t:=Xud hx aC
 obtain ⟨d,hd⟩ : ∃ d:Nat,d=2^x.n.toNat:=⟨_,rfl⟩
 rw [← hd] at t
 refine enter Tryz.func78 rfl 14 rfl rfl ?_;intro a hf
 have e:=bz w0
 refine Zs hf fun _ aF=>?_;refine Zf (X0i (zs:=[vi x.n,.slice Ax x.gs.length cx]) rfl rfl) ?_;rintro _ w1 ⟨b3,rfl,aG,c,f⟩;have aM:=Nat.le_trans e.size aG;have e:=btr e c;refine Zf (X8 (zs:=[vi 0,vi 0,.slice none 0 0]) X1n rfl) ?_;rintro _ w2 ⟨b5,rfl,aH,c,b⟩;have aD:=Nat.le_trans e.size aH;have f:=f.below c;have e:=btr e c;refine Zx aF fun a hf _ aI=>?_;refine Ze (Xg (ps:=[]) (cs:=[.bool false]) rfl (fun _=>by first|rfl|kernel_rfl))<|Zf (X0i (zs:=[.bool false]) rfl rfl) ?_;rintro _ w3 ⟨b7,rfl,aJ,c,g⟩;have aE:=Nat.le_trans e.size aJ;have f:=f.below c;have b:=b.below c;have e:=btr e c;refine Za rfl<|ZX aI fun a hf _ aK=>?_;refine X0h (some b7) (fun j=>[8].contains j) mixed ?_;intro w4 c;have f:=f.below c;have b:=b.below c;have g:=g.below c;have e:=btr e c;refine Yb hf<|Yo 0 rfl (fun _=>Xa rfl) ?_;refine Yw 1 rfl trivial (fun w1 h1=>X07 (l:=[vi x.n,.slice Ax x.gs.length cx]) rfl X1l ((f.only h1 (Blk.ne f g rfl)).at 0) rfl) ?_;refine Yo 2 rfl (fun _=>Vd rfl X1u 0) ?_;refine Yw 3 rfl trivial (fun w1 h1=>X0 rfl X7 ((f.only h1 (Blk.ne f g rfl)).at 0)) ?_;refine Yo 4 rfl (fun _=>Xf1 (m:=x.n.toNat) Tryz.underlying3 Tryz.underlying185 rfl (by omega) (by omega))<|Yo 5 rfl (fun _=>Xaq (m:=x.n.toNat) (D:=d) rfl rfl rfl ⟨hd,by omega⟩)<|Y1 6 ?_;refine Yf rfl trivial (EfW.mono (Vc (Xsf _ d (by rw [hd];exact X43 hn.2)) Xfx) (fun _ _ h=>⟨fun _=>by obtain ⟨A9,c9,rfl,o,c⟩:=h;exact Keep.of_below c,h⟩)) ?_;rintro _ w5 ⟨A9,c9,rfl,o,c⟩;have o:=o.lower e.size;have b:=b.below c;have g:=g.below c;have e:=btr e c;refine Y1 7<|Yf rfl trivial (EfW.mono (X1x (vs:=[.pointer (some ⟨b7,0,none⟩),.agg #[vi x.n,.slice Ax x.gs.length cx],.agg #[vi ((unitS d).rows),vi ((unitS d).cols),.slice A9 ((unitS d).cells).length c9]]) rfl Xt5 (by have hq:=Xzd w5 b7 false g x Ax cx (aB.below' e).top (unitS d) A9 c9 o.rd.top hx (X2w (by rw [hd];exact X1y hn)).2 (by rw [← hd];rfl);rw [t] at hq;dsimp only at hq;exact hq)) (fun _ _ h=>⟨fun _=>by obtain ⟨p,q,rfl,i,hK,aA⟩:=h;exact hK.keep,h⟩)) ?_;rintro _ w6 ⟨p,q,rfl,i,hK,aA⟩
 obtain ⟨wm,hO,hm,c⟩:=hK.mid;clear hm;have k:=g;have b:=b.only hO (Blk.ne b k rfl);have e:=Below.only e hO aE;have b:=b.below c;have e:=btr e c
 clear k c hO hK;have g:=aA;clear aA;refine Y1 8<|Yh rfl trivial rfl (Vw [vi M9.rows,vi M9.cols,.slice p M9.cells.length q] X17 b) ?_;rintro _ w7 ⟨ho,hb⟩;have k:=b;have i:=i.onlyT ho k rfl;have e:=Below.only e ho aD;have b:=hb;refine Yd fun a hf=>?_;refine aK _ _ ?_
 refine wp_ret (X2 hf (Xv hf rfl (ResV.cellN (l:=[vi M9.rows,vi M9.cols,.slice p M9.cells.length q]) rfl X0e (b.at 0) rfl)) ?_)
 rw [aC]
 exact ⟨p,q,rfl,i.top,e⟩
theorem Xvw(w0:World)(x:Int)(y:Int) : Ret Tryz.prog 79 [vi x,vi y] w0 (fun v w=>v=vi (min x y)∧Below w0.heap.size w0 w):=by
 refine enter Tryz.func79 rfl 10 rfl rfl ?_;intro a c
 have hW:=bz w0
 refine Zs c fun _ aB=>?_;refine Za rfl<|ZX aB fun a c _ aC=>?_;refine Zs c fun _ aD=>?_;refine Zm rfl<|Zm rfl<|Ze (X10 rfl rfl)<|Zt aD fun a c=>?_
 refine Xk c rfl (fun b=>?_) (fun b=>?_)
 ·have aA:=b;have b:=of_decide_eq_true b;refine Zs c fun _ aE=>?_;refine Zm rfl<|Za rfl<|Zt aE fun a c=>?_;refine wp_ret<|X3<|X2 c (Xv c rfl rfl) ?_;exact ⟨by rw [Int.min_eq_left (by omega)],hW⟩
 have aA:=b;have b:=of_decide_eq_false b;refine wp_skip<|aC _ _<|Zs c fun _ aF=>?_;refine Zm rfl<|Za rfl<|Zt aF fun a c=>?_
 refine wp_ret (X2 c (Xv c rfl rfl) ?_)
 exact ⟨by rw [Int.min_eq_right (by omega)],hW⟩
theorem Xrw(h:World)(Al:Option Addr)(cl:Nat)(l:List Gt)(B:Rd h h.heap.size 115 encG Al l)(Aqs:Option Addr)(cqs:Nat)(qs:List Int)(H:Rd h h.heap.size 3 encI Aqs qs)(L:Nat)(J:∀ g ∈ l,(g.k≠12→0≤g.a∧g.a<(L:Int))∧(inR g.k 9 11=true→0≤g.b∧g.b<(L:Int)))(hL:qs.length=L)(cN:l.length≤1000000) : Ret Tryz.prog 82 [.slice Al l.length cl,.slice Aqs qs.length cqs] h (fun v w=>∃ A c,v=.slice A (mapI l qs).length c∧Own w h.heap.size 115 3 encG A c (mapI l qs)∧Below h.heap.size h w):=by
 refine enter Tryz.func82 rfl 37 rfl rfl ?_;intro a m
 have i:=bz h
 refine Zs m fun _ bU=>?_;refine Za rfl<|Zx bU fun a m _ bW=>?_;refine Za rfl<|ZX bW fun a m _ bX=>?_;refine Zs m fun _ bY=>?_;refine Zm rfl<|Ze (X0x rfl Xf)<|Zm rfl<|Zt bY fun a m=>?_;refine wp_block<|X0b (σ:=Nat×(List Gt)) (fun (s:Nat×(List Gt)) (a:Act) (w:World)=>match s with|(k,q)=>∃ A9 c9,Fr a 37 [(1,.slice Aqs qs.length cqs),(5,.slice A9 q.length c9),(8,.slice Al l.length cl),(9,vi (l.length:Int)),(10,vi (k:Int))]∧(k≤l.length)∧(q=(l.take k).map (mapG qs))∧(q.length=k)∧Own w h.heap.size 115 3 encG A9 c9 q∧Below h.heap.size h w) (fun (s:Nat×(List Gt))=>match s with|(k,q)=>l.length-k) (0,[]) ?_ ?_
 ·exact ⟨none,0,m.sb,(Nat.zero_le _),rfl,rfl,(Own.nil _ _ _ _ _),i⟩
 rintro ⟨k,q⟩ a w1 ⟨A9,c9,m,hk,hq,aK,f,i⟩;refine Zs m fun _ bC=>?_;refine Ze (X10 rfl rfl)<|ZX bC fun a m _ bD=>?_
 refine Xk m rfl (fun y=>?_) (fun y=>?_)
 ·have aP:=y;have y:=of_decide_eq_true y
  obtain ⟨d,x⟩:=Xi (l:=l) (k:=k) (by omega)
  refine wp_skip<|bD _ _<|wp_seq_k fun _ I=>?_;refine wp_block<|Zs m fun _ bE=>?_;refine Zi (k:=k) (u:=d) (enc:=encG) (l:=l) trivial rfl rfl Xf X0p Xb (B.below' i) x rfl ?_;intro cO aQ;refine Ze (X07 (l:=[vi d.k,vi d.a,vi d.b]) rfl X0g aQ rfl)<|Zf (X8 (zs:=[vi 0,vi 0,vi 0]) X2i rfl) ?_;rintro _ w2 ⟨aL,rfl,M,z,e⟩;have C:=Nat.le_trans i.size M;have j:=f.away M;have bF:=(B.below' i).away M;have f:=f.below z;have i:=btr i z;refine Zo (Vw [vi d.k,vi d.a,vi d.b] X0p e) ?_;rintro _ w3 ⟨N,hb⟩;have Q:=e;have f:=f.onlyA N j;have i:=Below.only i N C;have e:=hb;refine ZX bE fun a m _ aM=>?_;refine Zs m fun _ bG=>?_;refine Ze (Vn X0g e)<|Zf (Vc (Xqv _ d) Xb2) ?_;rintro _ w4 ⟨rfl,z⟩;have e:=e.below z;have f:=f.below z;have i:=btr i z;refine Zt bG fun a m=>?_
  refine Xk m rfl (fun D=>?_) (fun D=>?_)
  ·have aR:=D
   have o:inR d.k 9 11=true:=D
   obtain ⟨cP,cQ⟩:=(J d (List.mem_of_getElem? x)).2 o;refine Zr m<|Zm rfl<|Ze (Vd rfl X0s 2)<|Ze (X0 rfl X7 (e.at 2))<|Zi (k:=d.b.toNat) (u:=(qs.getD d.b.toNat 0)) (enc:=encI) (l:=qs) trivial rfl rfl X08 X1j X02 (H.below' i) (X63 (by omega)) (by omega) ?_;intro cR aS;refine Ze (X0 rfl X7 aS)<|Ze (Vd rfl X0s 2)<|Zo (Vu (vs:=[vi (qs.getD d.b.toNat 0)]) (l':=[vi d.k,vi d.a,vi (qs.getD d.b.toNat 0)]) rfl rfl X1j e) ?_;rintro _ w5 ⟨N,hb⟩;have Q:=e;have f:=f.onlyA N j;have i:=Below.only i N C;have e:=hb;refine ZX aM fun a m _ aN=>?_;refine Zs m fun _ bH=>?_;refine Ze (Vd rfl X0n 0)<|Ze (X0 rfl X7 (e.at 0))<|Ze (X2h rfl rfl)<|Zt bH fun a m=>?_
   refine Xk m rfl (fun E=>?_) (fun E=>?_)
   ·have aT:=E
    have n:¬ d.k=12:=by simpa using E
    obtain ⟨bZ,c4⟩:=(J d (List.mem_of_getElem? x)).1 n;refine Zr m<|Zm rfl<|Ze (Vd rfl X0f 1)<|Ze (X0 rfl X7 (e.at 1))<|Zi (k:=d.a.toNat) (u:=(qs.getD d.a.toNat 0)) (enc:=encI) (l:=qs) trivial rfl rfl X08 X1j X02 (H.below' i) (X63 (by omega)) (by omega) ?_;intro cS aU;refine Ze (X0 rfl X7 aU)<|Ze (Vd rfl X0f 1)<|Zo (Vu (vs:=[vi (qs.getD d.a.toNat 0)]) (l':=[vi d.k,vi (qs.getD d.a.toNat 0),vi (qs.getD d.b.toNat 0)]) rfl rfl X1j e) ?_;rintro _ w6 ⟨N,hb⟩;have Q:=e;have f:=f.onlyA N j;have i:=Below.only i N C;have e:=hb;refine Zt aN fun a m=>?_;refine Zr m<|Zm rfl<|Ze (Vn X0g e)<|Zf (X5 (k:=1) (vs:=[.agg #[vi d.k,vi (qs.getD d.a.toNat 0),vi (qs.getD d.b.toNat 0)]]) (zs:=[vi d.k,vi (qs.getD d.a.toNat 0),vi (qs.getD d.b.toNat 0)]) rfl Xf Xo rfl rfl) ?_;rintro _ w7 ⟨b29,rfl,U,z,W⟩
    have aY:aL≠b29:=by have:=e.lt;omega
    have cA:=Nat.le_trans i.size U;have aA:=f.away U;have bI:=(B.below' i).away U;have e:=e.below z;have f:=f.below z;have i:=btr i z;refine Zf (X11 (enc:=encG) (l:=(q)) (l2:=([(⟨d.k,(qs.getD d.a.toNat 0),(qs.getD d.b.toNat 0)⟩ : Gt)])) (B0:=h.heap.size) rfl rfl Xf Xo Xb X0d f (Rd.of_blk W rfl _ W.lt) (by simp only [maxLen];simp;omega) (by simp;omega) i.size) ?_;rintro _ w8 ⟨cB,cC,rfl,bJ,hg,t⟩
    have p:Own _ h.heap.size 115 3 encG _ _ (q):=f
    have aZ:=t _ e.lt j;have b0:=t _ W.lt aA;clear t;have i:=Below.app i p hg (Nat.le_refl _) i.size;clear p hg;refine Za rfl ?_;refine Zn fun a m=>?_;refine Xt<|I _ _<|Zr m<|Ze (X06 rfl rfl (by omega) (by omega))<|Zm rfl ?_;refine Zn fun a m=>?_;refine Xp ?_;exact ⟨(k+1,q++([(⟨d.k,(qs.getD d.a.toNat 0),(qs.getD d.b.toNat 0)⟩ : Gt)])),⟨cB,cC,m.sb,(by omega),(X4z hq x (by unfold mapG;first|rw [if_pos n,if_pos o]|rw [if_pos n,if_neg (by rw [o];decide)]|rw [if_neg n,if_pos o]|rw [if_neg n,if_neg (by rw [o];decide)])),(by simp;exact aK),bJ,i⟩,(by first|omega|(dsimp only;omega))⟩
   have aT:=E
   have n:d.k=12:=by simpa using E
   refine wp_skip<|aN _ _<|Zr m<|Zm rfl<|Ze (Vn X0g e)<|Zf (X5 (k:=1) (vs:=[.agg #[vi d.k,vi d.a,vi (qs.getD d.b.toNat 0)]]) (zs:=[vi d.k,vi d.a,vi (qs.getD d.b.toNat 0)]) rfl Xf Xo rfl rfl) ?_;rintro _ w9 ⟨b32,rfl,aB,z,aC⟩
   have b1:aL≠b32:=by have:=e.lt;omega
   have cD:=Nat.le_trans i.size aB;have aD:=f.away aB;have bK:=(B.below' i).away aB;have e:=e.below z;have f:=f.below z;have i:=btr i z;refine Zf (X11 (enc:=encG) (l:=(q)) (l2:=([(⟨d.k,d.a,(qs.getD d.b.toNat 0)⟩ : Gt)])) (B0:=h.heap.size) rfl rfl Xf Xo Xb X0d f (Rd.of_blk aC rfl _ aC.lt) (by simp only [maxLen];simp;omega) (by simp;omega) i.size) ?_;rintro _ cT ⟨cE,cF,rfl,bL,hg,t⟩
   have p:Own _ h.heap.size 115 3 encG _ _ (q):=f
   have b2:=t _ e.lt j;have b3:=t _ aC.lt aD;clear t;have i:=Below.app i p hg (Nat.le_refl _) i.size;clear p hg;refine Za rfl ?_;refine Zn fun a m=>?_;refine Xt<|I _ _<|Zr m<|Ze (X06 rfl rfl (by omega) (by omega))<|Zm rfl ?_;refine Zn fun a m=>?_;refine Xp ?_;exact ⟨(k+1,q++([(⟨d.k,d.a,(qs.getD d.b.toNat 0)⟩ : Gt)])),⟨cE,cF,m.sb,(by omega),(X4z hq x (by unfold mapG;first|rw [if_pos n,if_pos o]|rw [if_pos n,if_neg (by rw [o];decide)]|rw [if_neg n,if_pos o]|rw [if_neg n,if_neg (by rw [o];decide)])),(by simp;exact aK),bL,i⟩,(by first|omega|(dsimp only;omega))⟩
  have aR:=D
  have o:inR d.k 9 11=false:=D
  refine wp_skip<|aM _ _<|wp_seq_k fun _ aO=>?_;refine Zs m fun _ bM=>?_;refine Ze (Vd rfl X0n 0)<|Ze (X0 rfl X7 (e.at 0))<|Ze (X2h rfl rfl)<|Zt bM fun a m=>?_
  refine Xk m rfl (fun G=>?_) (fun G=>?_)
  ·have aW:=G
   have n:¬ d.k=12:=by simpa using G
   obtain ⟨bZ,c4⟩:=(J d (List.mem_of_getElem? x)).1 n;refine Zr m<|Zm rfl<|Ze (Vd rfl X0f 1)<|Ze (X0 rfl X7 (e.at 1))<|Zi (k:=d.a.toNat) (u:=(qs.getD d.a.toNat 0)) (enc:=encI) (l:=qs) trivial rfl rfl X08 X1j X02 (H.below' i) (X63 (by omega)) (by omega) ?_;intro cU aX;refine Ze (X0 rfl X7 aX)<|Ze (Vd rfl X0f 1)<|Zo (Vu (vs:=[vi (qs.getD d.a.toNat 0)]) (l':=[vi d.k,vi (qs.getD d.a.toNat 0),vi d.b]) rfl rfl X1j e) ?_;rintro _ cV ⟨N,hb⟩;have Q:=e;have f:=f.onlyA N j;have i:=Below.only i N C;have e:=hb;refine Zt aO fun a m=>?_;refine Zr m<|Zm rfl<|Ze (Vn X0g e)<|Zf (X5 (k:=1) (vs:=[.agg #[vi d.k,vi (qs.getD d.a.toNat 0),vi d.b]]) (zs:=[vi d.k,vi (qs.getD d.a.toNat 0),vi d.b]) rfl Xf Xo rfl rfl) ?_;rintro _ cW ⟨b40,rfl,aE,z,aF⟩
   have b4:aL≠b40:=by have:=e.lt;omega
   have cG:=Nat.le_trans i.size aE;have aG:=f.away aE;have bN:=(B.below' i).away aE;have e:=e.below z;have f:=f.below z;have i:=btr i z;refine Zf (X11 (enc:=encG) (l:=(q)) (l2:=([(⟨d.k,(qs.getD d.a.toNat 0),d.b⟩ : Gt)])) (B0:=h.heap.size) rfl rfl Xf Xo Xb X0d f (Rd.of_blk aF rfl _ aF.lt) (by simp only [maxLen];simp;omega) (by simp;omega) i.size) ?_;rintro _ cX ⟨cH,cJ,rfl,bO,hg,t⟩
   have p:Own _ h.heap.size 115 3 encG _ _ (q):=f
   have b5:=t _ e.lt j;have b6:=t _ aF.lt aG;clear t;have i:=Below.app i p hg (Nat.le_refl _) i.size;clear p hg;refine Za rfl ?_;refine Zn fun a m=>?_;refine Xt<|I _ _<|Zr m<|Ze (X06 rfl rfl (by omega) (by omega))<|Zm rfl ?_;refine Zn fun a m=>?_;refine Xp ?_;exact ⟨(k+1,q++([(⟨d.k,(qs.getD d.a.toNat 0),d.b⟩ : Gt)])),⟨cH,cJ,m.sb,(by omega),(X4z hq x (by unfold mapG;first|rw [if_pos n,if_pos o]|rw [if_pos n,if_neg (by rw [o];decide)]|rw [if_neg n,if_pos o]|rw [if_neg n,if_neg (by rw [o];decide)])),(by simp;exact aK),bO,i⟩,(by first|omega|(dsimp only;omega))⟩
  have aW:=G
  have n:d.k=12:=by simpa using G
  refine wp_skip<|aO _ _<|Zr m<|Zm rfl<|Ze (Vn X0g e)<|Zf (X5 (k:=1) (vs:=[.agg #[vi d.k,vi d.a,vi d.b]]) (zs:=[vi d.k,vi d.a,vi d.b]) rfl Xf Xo rfl rfl) ?_;rintro _ cY ⟨b43,rfl,aH,z,aI⟩
  have b7:aL≠b43:=by have:=e.lt;omega
  have cK:=Nat.le_trans i.size aH;have aJ:=f.away aH;have bP:=(B.below' i).away aH;have e:=e.below z;have f:=f.below z;have i:=btr i z;refine Zf (X11 (enc:=encG) (l:=(q)) (l2:=([d])) (B0:=h.heap.size) rfl rfl Xf Xo Xb X0d f (Rd.of_blk aI rfl _ aI.lt) (by simp only [maxLen];simp;omega) (by simp;omega) i.size) ?_;rintro _ d5 ⟨cL,cM,rfl,bQ,hg,t⟩
  have p:Own _ h.heap.size 115 3 encG _ _ (q):=f
  have b8:=t _ e.lt j;have b9:=t _ aI.lt aJ;clear t;have i:=Below.app i p hg (Nat.le_refl _) i.size;clear p hg;refine Za rfl ?_;refine Zn fun a m=>?_;refine Xt<|I _ _<|Zr m<|Ze (X06 rfl rfl (by omega) (by omega))<|Zm rfl ?_;refine Zn fun a m=>?_;refine Xp ?_;exact ⟨(k+1,q++([d])),⟨cL,cM,m.sb,(by omega),(X4z hq x (by unfold mapG;first|rw [if_pos n,if_pos o]|rw [if_pos n,if_neg (by rw [o];decide)]|rw [if_neg n,if_pos o]|rw [if_neg n,if_neg (by rw [o];decide)])),(by simp;exact aK),bQ,i⟩,(by first|omega|(dsimp only;omega))⟩
 have aP:=y;have y:=of_decide_eq_false y
 have bR:q=mapI l qs:=by rw [hq,List.take_of_length_le (by omega)];rfl
 refine wp_exit<|Xl<|Xl<|X0a ?_;refine bX _ _<|Zs m fun _ bS=>?_;refine Zm rfl<|Za rfl<|Zt bS fun a m=>?_
 refine wp_ret (X2 m (Xv m rfl rfl) ?_)
 subst bR
 exact ⟨A9,c9,rfl,f,i⟩
theorem Xy3(w0:World)(c:Cx)(Ac:Option Addr)(cc:Nat)(e:Rd w0 w0.heap.size 115 encG Ac c.gs)(M:c.gs.length≤cc)(p:Int)(Aqs:Option Addr)(cqs:Nat)(qs:List Int)(b:Rd w0 w0.heap.size 3 encI Aqs qs)(N:cOk c=true)(bG:qs.length≤1048576) : Ret Tryz.prog 47 [.agg #[vi c.n,.slice Ac c.gs.length cc],vi p,.slice Aqs qs.length cqs] w0 (fun v w=>∃ A9 e9 B9 f9,v=.tuple #[.agg #[vi ((shrX c p qs).getD rpZ).pos,.slice A9 ((shrX c p qs).getD rpZ).old.length e9,.slice B9 ((shrX c p qs).getD rpZ).new.length f9],.bool (shrX c p qs).isSome]∧Own w w0.heap.size 115 3 encG A9 e9 ((shrX c p qs).getD rpZ).old∧Own w w0.heap.size 115 3 encG B9 f9 ((shrX c p qs).getD rpZ).new∧Apart A9 B9∧Below w0.heap.size w0 w):=by
 obtain ⟨rr,cO⟩ : ∃ rr,rr=(runX c p qs).getD []:=⟨_,rfl⟩
 obtain ⟨ro,bK⟩ : ∃ ro:Bool,ro=(runX c p qs).isSome:=⟨_,rfl⟩
 have eY:c.gs.length≤400:=(X12 N).2.1
 refine enter Tryz.func47 rfl 75 rfl rfl ?_;intro a y
 have t:=bz w0
 refine Zs y fun _ eJ=>?_;refine Zf (X0i (zs:=[vi c.n,.slice Ac c.gs.length cc]) rfl rfl) ?_;rintro _ w1 ⟨b4,rfl,eK,d,m⟩;have f0:=Nat.le_trans t.size eK;have e:=e.below d;have b:=b.below d;have t:=btr t d;refine Zf (X8 (zs:=[vi 0,.slice none 0 0,.slice none 0 0]) X2l rfl) ?_;rintro _ w2 ⟨b7,rfl,eL,d,f⟩;have aC:=Nat.le_trans t.size eL;have m:=m.below d;have e:=e.below d;have b:=b.below d;have t:=btr t d;refine Za rfl<|Zx eJ fun a y _ eM=>?_;refine Ze (Vn X1l m)<|Zm rfl<|Zm rfl<|Zf (X1x (vs:=[.agg #[vi c.n,.slice Ac c.gs.length cc],vi p,.slice Aqs qs.length cqs]) rfl Xq2 (by have hq:=Xxk w2 c Ac cc e.top p Aqs cqs qs b.top N bG;rw [← cO,← bK] at hq;exact hq)) ?_;rintro _ w3 ⟨A9,c9,rfl,o,d⟩;have o:=o.lower t.size;have m:=m.below d;have f:=f.below d;have e:=e.below d;have b:=b.below d;have t:=btr t d;refine Zm rfl<|Ze (X4 (vs:=[.slice A9 rr.length c9,.bool ro]) rfl rfl)<|Ze (X4 (vs:=[.slice A9 rr.length c9,.bool ro]) rfl rfl)<|Za rfl<|Za rfl ?_;refine ZX eM fun a y _ cP=>?_;refine Zs y fun _ cQ=>?_;refine Zm rfl<|Ze (X0z rfl)<|Zt cQ fun a y=>?_
 refine Xk y rfl (fun aJ=>?_) (fun aJ=>?_)
 ·have bL:=aJ
  have D:shrX c p qs=none:=by unfold shrX;rw [Xk7 (by rw [← bK];exact bn1 aJ)];rfl
  refine Zs y fun _ cR=>?_;refine Ze (Xg (ps:=[]) (cs:=[vi 0,.slice none 0 0,.slice none 0 0]) rfl (fun _=>by first|rfl|kernel_rfl))<|Zo (Vw [vi 0,.slice none 0 0,.slice none 0 0] X14 f) ?_;rintro _ w4 ⟨E,hb⟩;have z:=f;have t:=Below.only t E aC;have f:=hb;refine Za rfl<|Zt cR fun a y=>?_;refine wp_ret<|X3<|X2 y (X0w y rfl (ResV.cellN (l:=[vi 0,.slice none 0 0,.slice none 0 0]) rfl X1a (f.at 0) rfl) rfl) ?_
  rw [D]
  exact ⟨none,0,none,0,rfl,(Own.nil _ _ _ _ _),(Own.nil _ _ _ _ _),(Apart.none_l _),t⟩
 have bL:=aJ
 obtain ⟨aO,cS⟩:=Xoi (c:=c) (p:=p) (qs:=qs) (by rw [← bK];exact bn2 aJ)
 have aK:rr=runL c p qs:=by rw [cO,cS];rfl
 have f6:rr.length≤6:=by rw [aK];exact X78 ..
 have f7:1≤rr.length:=by rw [aK];exact X86 aO
 obtain ⟨aB,eN,fA⟩:=X7v N aO
 have cT:∀ i ∈ rr,∃ j:Nat,i=(j:Int)∧j<c.gs.length:=fun i hi=>by rw [aK] at hi;obtain ⟨j,h1,h2,_⟩:=X5y aO i hi;exact ⟨j,h1,h2⟩
 have f8:=X2x c rr
 have eO:∀ g ∈ gatL c rr,GoodG qs c.n g∧insB g qs=true:=fun g hg=>X6f N aO g (by rw [← aK];exact hg)
 obtain ⟨cU,eP,A,G,fB,cV,fC,fD,cW⟩:=Xle N aO
 rw [← aK] at cU eP G
 have aW:shrX c p qs=plX c p qs rr:=by unfold shrX;rw [cS,aK];rfl
 have bH:tcN (xC c rr qs).gs=tcN (gatL c rr):=Xkj qs (gatL c rr)
 refine wp_skip<|cP _ _<|Zs y fun _ cX=>?_;refine Ze (Vn X1l m)<|Zm rfl<|Zm rfl<|Zf (Vc (Xxp _ c Ac cc e.top A9 c9 rr o.rd.top Aqs cqs qs b.top N (by omega) cT eO eN bG) Xq8) ?_;rintro _ w5 ⟨aH,aI,rfl,k,d⟩;have k:=k.lower t.size;have m:=m.below d;have f:=f.below d;have e:=e.below d;have b:=b.below d;have o:=o.below d;have t:=btr t d;refine Zf (X8 (zs:=[vi 0,.slice none 0 0]) Xjp rfl) ?_;rintro _ w6 ⟨b19,rfl,cY,d,q⟩
 have d5:b4≠b19:=by have:=m.lt;omega
 have bM:=Nat.le_trans t.size cY;have m:=m.below d;have f:=f.below d;have e:=e.below d;have b:=b.below d;have o:=o.below d;have k:=k.below d;have t:=btr t d;refine Zo (Vw [vi ((xC c rr qs).n),.slice aH ((xC c rr qs).gs).length aI] Xcm q) ?_;rintro _ w7 ⟨E,hb⟩;have z:=q;have m:=m.only E (by omega);have f:=f.only E (Blk.ne f z rfl);have e:=e.onlyT E z rfl;have b:=b.onlyT E z rfl;have o:=o.onlyT E z rfl;have k:=k.onlyT E z rfl;have t:=Below.only t E bM;have q:=hb;refine Zx cX fun a y _ d6=>?_;refine Ze (Vn X1l q)<|Zf (X1x (vs:=[.agg #[vi ((xC c rr qs).n),.slice aH ((xC c rr qs).gs).length aI]]) rfl Xpd (by have hq:=Xxo w7 (xC c rr qs) aH aI k.rd.top cU A G;rw [G,Option.getD_some] at hq;exact hq)) ?_;rintro _ w8 ⟨aP,b6,rfl,x,d⟩;have m:=m.below d;have f:=f.below d;have q:=q.below d;have e:=e.below d;have b:=b.below d;have o:=o.below d;have k:=k.below d;have t:=btr t d;refine Zf (X8 (zs:=[vi 0,vi 0,.slice none 0 0]) X1n rfl) ?_;rintro _ w9 ⟨bI,rfl,d7,d,u⟩;have bN:=Nat.le_trans t.size d7;have m:=m.below d;have f:=f.below d;have q:=q.below d;have e:=e.below d;have b:=b.below d;have o:=o.below d;have k:=k.below d;have x:=x.below d;have t:=btr t d;refine Zo (Vw [vi A.rows,vi A.cols,.slice aP A.cells.length b6] X17 u) ?_;rintro _ fE ⟨E,hb⟩;have z:=u;have m:=m.only E (Blk.ne m z rfl);have f:=f.only E (Blk.ne f z rfl);have q:=q.only E (Blk.ne q z rfl)
 have e:=e.onlyT E z rfl;have b:=b.onlyT E z rfl;have o:=o.onlyT E z rfl;have k:=k.onlyT E z rfl;have x:=x.onlyT E z rfl;have t:=Below.only t E bN;have u:=hb;refine Zx d6 fun a y _ d8=>?_;refine Zm rfl<|Ze (X0x rfl X08)<|Ze (X1h rfl rfl (by omega) (by omega))<|Za rfl<|ZX d8 fun a y _ bJ=>?_;refine Zs y fun _ d9=>?_;refine Zm rfl<|Ze (X0x rfl X08)<|Ze (X13 rfl rfl)<|Zt d9 fun a y=>?_
 refine Xk y rfl (fun aL=>?_) (fun aL=>?_)
 ·have bO:=aL
  have eQ:qs.length=2:=by have h9:(qs.length:Int)=2:=(by simpa using aL);omega
  have b8:KN qs.length=3:=by rw [eQ];rfl
  refine Zr y<|Zm rfl<|Zf (Vc (Xvw _ ((rr.length:Int)-1) 3) Xr3) ?_;rintro _ fF ⟨rfl,d⟩;have m:=m.below d;have f:=f.below d;have q:=q.below d;have u:=u.below d;have e:=e.below d;have b:=b.below d;have o:=o.below d;have k:=k.below d;have x:=x.below d;have t:=btr t d;refine Za rfl<|ZX bJ fun a y _ dA=>?_;refine Zs y fun _ dB=>?_;refine Za rfl<|Zt dB fun a y=>?_;refine wp_block<|X0b (σ:=Nat) (fun (j:Nat) (a:Act) (w:World)=>Fr a 75 [(2,.slice Aqs qs.length cqs),(3,.pointer (some ⟨b4,0,none⟩)),(6,.pointer (some ⟨b7,0,none⟩)),(8,.slice A9 rr.length c9),(10,.pointer (some ⟨b19,0,none⟩)),(11,.pointer (some ⟨bI,0,none⟩)),(12,vi (min ((rr.length:Int)-1) 3)),(13,vi (j:Int))]∧(j≤7)∧(∀ i,i<j→fdS qs.length A i (unitS (2^qs.length))=none)∧Blk w b4 28 [vi c.n,.slice Ac c.gs.length cc]∧Blk w b7 46 [vi 0,.slice none 0 0,.slice none 0 0]∧Blk w b19 28 [vi ((xC c rr qs).n),.slice aH ((xC c rr qs).gs).length aI]∧Blk w bI 33 [vi A.rows,vi A.cols,.slice aP A.cells.length b6]∧Rd w w0.heap.size 115 encG Ac c.gs∧Rd w w0.heap.size 3 encI Aqs qs∧Own w w0.heap.size 3 1 encI A9 c9 rr∧Own w w0.heap.size 115 3 encG aH aI ((xC c rr qs).gs)∧Rd w w8.heap.size 95 encD aP A.cells∧c.gs.length≤cc∧Below w0.heap.size w0 w) (fun (j:Nat)=>8-j) 0 ?_ ?_
  ·exact ⟨y.sb,(by omega),(fun i hi=>absurd hi (by omega)),m,f,q,u,e,b,o,k,x,M,t⟩
  rintro j a fG ⟨y,eR,aQ,m,f,q,u,e,b,o,k,x,M,t⟩;refine wp_seq_k fun _ dC=>?_;refine Zs y fun _ dD=>?_;refine Zm rfl<|Zm rfl<|Ze (Xel rfl rfl)<|Zt dD fun a y=>?_
  refine Xk y rfl (fun H=>?_) (fun H=>?_)
  ·have bP:=H;have H:=of_decide_eq_true H;have bQ:=H
   have bR:j≤KN qs.length:=by rw [b8];omega
   have eS:j<rr.length:=by omega
   refine wp_skip<|dC _ _<|wp_seq_k fun _ dE=>?_;refine wp_block<|wp_seq_k fun _ dF=>?_;refine X0h none (fun _=>false) mixed ?_;intro fH d;have m:=m.below d;have f:=f.below d;have q:=q.below d;have u:=u.below d;have e:=e.below d;have b:=b.below d;have o:=o.below d;have k:=k.below d;have x:=x.below d;have t:=btr t d;refine Yb y<|Yo 0 rfl (fun _=>Xa rfl)<|Yo 1 rfl (fun _=>X0x rfl X08)<|Yo 2 rfl (fun _=>Vd rfl X1w 0)<|Ye 3 rfl (Vx (X0 rfl X7 (u.at 0)) cV)<|Ye 5 rfl (Vn X0e u) ?_;refine Yo 6 rfl (fun _=>Xa rfl)<|Y1 4 ?_;refine Yk rfl trivial (Vc (Xsf _ (2^qs.length:Nat) (by rcases aB with h|h<;>rw [h]<;>decide)) Xfx) (fun _ _ ⟨dG,dH,_,aT,d⟩=>d) ?_;rintro _ fI ⟨dG,dH,rfl,aT,d⟩;have aT:=aT.lower t.size;have m:=m.below d;have f:=f.below d;have q:=q.below d;have u:=u.below d;have e:=e.below d;have b:=b.below d;have o:=o.below d;have k:=k.below d;have x:=x.below d;have t:=btr t d;refine Y1 7<|Yk rfl trivial (Vc (Xs1 _ qs.length (unitS (2^qs.length:Nat)) dG dH aT.rd.top A aP b6 x.top j aB [] 0 (by omega) (List.mem_singleton.2 rfl) (X6a _ aB).symm cW) Xb3) (fun _ _ ⟨b9,bC,_,B,d⟩=>d) ?_;rintro _ fJ ⟨b9,bC,rfl,B,d⟩;have cB:=k.apart B (Nat.le_refl _);have B:=B.lower t.size;have m:=m.below d;have f:=f.below d;have q:=q.below d;have u:=u.below d;have e:=e.below d;have b:=b.below d;have o:=o.below d;have k:=k.below d;have x:=x.below d;have t:=btr t d;refine Yo 8 rfl (fun _=>Xa rfl)<|Yo 9 rfl (fun _=>X4 (vs:=[.slice b9 ((fdS qs.length A j (unitS (2^qs.length:Nat))).getD []).length bC,.bool ((fdS qs.length A j (unitS (2^qs.length:Nat))).isSome)]) rfl rfl)<|Yo 10 rfl (fun _=>X4 (vs:=[.slice b9 ((fdS qs.length A j (unitS (2^qs.length:Nat))).getD []).length bC,.bool ((fdS qs.length A j (unitS (2^qs.length:Nat))).isSome)]) rfl rfl)<|Yo 11 rfl (fun _=>X18 rfl)<|Yo 12 rfl (fun _=>X18 rfl) ?_
   refine Yd fun a y=>?_;refine dF _ _<|wp_seq_k fun _ dI=>?_;refine Zs y fun _ dJ=>?_;refine Zm rfl<|Ze (X0z rfl)<|Zt dJ fun a y=>?_
   refine Xk y rfl (fun aM=>?_) (fun aM=>?_)
   ·have bS:=aM
    have bU:(fdS qs.length A j (unitS (2^qs.length))).isSome=false:=bn1 aM
    refine wp_exit<|Xl<|X0a<|dE _ _ ?_;refine Zr y<|Zm rfl<|Ze (X06 rfl rfl (by omega) (by omega))<|Za rfl ?_;refine Zn fun a y=>?_;refine Xp ?_;exact ⟨j+1,⟨y.sb,(by omega),(X9q aQ bU),m,f,q,u,e,b,o,k,x,M,t⟩,(by omega)⟩
   have bS:=aM
   have bW:(fdS qs.length A j (unitS (2^qs.length))).isSome=true:=by simpa using aM
   obtain ⟨aR,eT⟩:=Xcs aB bR aQ bW;have bD:=X4o aR;have bX:=Xc9 aB bD.2;have eU:=bD.1;have eW:=X8q qs.length;refine wp_skip<|dI _ _<|wp_seq_k fun _ dK=>?_;refine wp_seq_k fun _ dL=>?_;refine X0h none (fun _=>false) mixed ?_;intro fK d;have m:=m.below d;have f:=f.below d;have q:=q.below d;have e:=e.below d;have b:=b.below d;have o:=o.below d;have k:=k.below d;have B:=B.below d;have t:=btr t d;refine Yb y<|Yo 0 rfl (fun _=>Xa rfl)<|Yo 2 rfl (fun _=>Vd rfl X0v 1)<|Ye 3 rfl (X0 rfl X15 (q.at 1))<|Y1 1 ?_;refine Yk rfl trivial (Vc (Xgz _ b9 bC ((fdS qs.length A j (unitS (2^qs.length:Nat))).getD []) B.rd.top (by omega)) X81) (fun _ _ ⟨_,d⟩=>d) ?_;rintro _ fL ⟨rfl,d⟩;have m:=m.below d;have f:=f.below d;have e:=e.below d;have b:=b.below d;have o:=o.below d;have k:=k.below d;have B:=B.below d;have t:=btr t d;refine Y1 4<|Yk rfl trivial (Vc (Xgz _ aH aI ((xC c rr qs).gs) k.rd.top (by show ((gatL c rr).map (smallG qs)).length≤_;rw [List.length_map];omega)) X81) (fun _ _ ⟨_,d⟩=>d) ?_;rintro _ fM ⟨rfl,d⟩;have m:=m.below d;have f:=f.below d;have e:=e.below d;have b:=b.below d;have o:=o.below d;have B:=B.below d;have t:=btr t d;refine Yo 5 rfl (fun _=>X3a rfl rfl) ?_;refine Yd fun a y=>?_;refine dL _ _ ?_
   refine Xk y rfl (fun I=>?_) (fun I=>?_)
   ·have bY:=I;have I:=of_decide_eq_true I;have aS:=I
    rw [bH] at aS
    have D:shrX c p qs=none:=by
     rw [aW]
     refine X4m G fun w9 h9 h8=>?_
     rw [aR] at h9
     injection h9 with h9
     subst h9
     omega
    refine Zs y fun _ dM=>?_;refine Ze (Xg (ps:=[]) (cs:=[vi 0,.slice none 0 0,.slice none 0 0]) rfl (fun _=>by first|rfl|kernel_rfl))<|Zo (Vw [vi 0,.slice none 0 0,.slice none 0 0] X14 f) ?_;rintro _ fN ⟨E,hb⟩;have z:=f;have t:=Below.only t E aC;have f:=hb;refine Za rfl<|Zt dM fun a y=>?_;refine wp_ret<|X3<|Xr<|X3 ?_;refine X3<|Xr<|X3<|X2 y (X0w y rfl (ResV.cellN (l:=[vi 0,.slice none 0 0,.slice none 0 0]) rfl X1a (f.at 0) rfl) rfl) ?_
    rw [D]
    exact ⟨none,0,none,0,rfl,(Own.nil _ _ _ _ _),(Own.nil _ _ _ _ _),(Apart.none_l _),t⟩
   have bY:=I;have I:=of_decide_eq_false I;have aS:=I
   rw [bH] at aS
   have D:shrX c p qs=repX c p rr qs (mapI ((fdS qs.length A j (unitS (2^qs.length))).getD []) qs):=by
    rw [aW]
    exact X83 G aR ⟨by omega,by omega⟩
   refine wp_skip<|dK _ _<|wp_seq_k fun _ dN=>?_;refine X0h none (fun j=>[9].contains j) mixed ?_;intro fO d;have m:=m.below d;have f:=f.below d;have e:=e.below d;have b:=b.below d;have o:=o.below d;have B:=B.below d;have t:=btr t d;refine Yb y<|Ye 0 rfl (Vn X1l m)<|Yo 1 rfl (fun _=>Xa rfl)<|Yo 2 rfl (fun _=>Xa rfl)<|Yo 3 rfl (fun _=>Xa rfl)<|Yo 4 rfl (fun _=>Xa rfl) ?_;refine Y1 5<|Yk rfl trivial (Vc (Xrw _ b9 bC ((fdS qs.length A j (unitS (2^qs.length:Nat))).getD []) B.rd.top Aqs cqs qs b.top qs.length bX rfl (by omega)) Xg3) (fun _ _ ⟨dO,dP,_,aD,d⟩=>d) ?_;rintro _ fP ⟨dO,dP,rfl,aD,d⟩;have cC:=B.apart aD (Nat.le_refl _);have aD:=aD.lower t.size;have f:=f.below d;have e:=e.below d;have b:=b.below d;have o:=o.below d;have B:=B.below d;have t:=btr t d;refine Y1 6<|Yk rfl trivial (Vc (Xrr _ c Ac cc e.top M A9 c9 rr o.rd.top Aqs cqs qs b.top dO dP (mapI ((fdS qs.length A j (unitS (2^qs.length:Nat))).getD []) qs) aD.rd.top p N aO aK (by unfold mapI;rw [List.length_map];omega) bG) Xg8) (fun _ _ ⟨aX,aY,aZ,b0,_,Q,U,aF,d⟩=>d) ?_;rintro _ fQ ⟨aX,aY,aZ,b0,rfl,Q,U,aF,d⟩;have cD:=B.apart Q (Nat.le_refl _);have cE:=aD.apart Q (Nat.le_refl _);have Q:=Q.lower t.size;have cF:=B.apart U (Nat.le_refl _);have cG:=aD.apart U (Nat.le_refl _);have U:=U.lower t.size;have f:=f.below d;have t:=btr t d;refine Yo 7 rfl (fun _=>X4 (vs:=[.agg #[vi (((repX c p rr qs (mapI ((fdS qs.length A j (unitS (2^qs.length:Nat))).getD []) qs)).getD rpZ).pos),.slice aX (((repX c p rr qs (mapI ((fdS qs.length A j (unitS (2^qs.length:Nat))).getD []) qs)).getD rpZ).old).length aY,.slice aZ (((repX c p rr qs (mapI ((fdS qs.length A j (unitS (2^qs.length:Nat))).getD []) qs)).getD rpZ).new).length b0],.bool ((repX c p rr qs (mapI ((fdS qs.length A j (unitS (2^qs.length:Nat))).getD []) qs)).isSome)]) rfl rfl)<|Yo 8 rfl (fun _=>X4 (vs:=[.agg #[vi (((repX c p rr qs (mapI ((fdS qs.length A j (unitS (2^qs.length:Nat))).getD []) qs)).getD rpZ).pos),.slice aX (((repX c p rr qs (mapI ((fdS qs.length A j (unitS (2^qs.length:Nat))).getD []) qs)).getD rpZ).old).length aY,.slice aZ (((repX c p rr qs (mapI ((fdS qs.length A j (unitS (2^qs.length:Nat))).getD []) qs)).getD rpZ).new).length b0],.bool ((repX c p rr qs (mapI ((fdS qs.length A j (unitS (2^qs.length:Nat))).getD []) qs)).isSome)]) rfl rfl)<|Y1 9 ?_
   refine Yh rfl trivial rfl (Vw [vi (((repX c p rr qs (mapI ((fdS qs.length A j (unitS (2^qs.length:Nat))).getD []) qs)).getD rpZ).pos),.slice aX (((repX c p rr qs (mapI ((fdS qs.length A j (unitS (2^qs.length:Nat))).getD []) qs)).getD rpZ).old).length aY,.slice aZ (((repX c p rr qs (mapI ((fdS qs.length A j (unitS (2^qs.length:Nat))).getD []) qs)).getD rpZ).new).length b0] X14 f) ?_;rintro _ fR ⟨E,hb⟩;have z:=f;have Q:=Q.onlyT E z rfl;have U:=U.onlyT E z rfl;have t:=Below.only t E aC;have f:=hb;refine Yo 10 rfl (fun _=>X18 rfl) ?_;refine Yd fun a y=>?_;refine dN _ _<|wp_ret<|Xr<|X3 ?_;refine X3<|Xr<|X3<|X2 y (X0w y rfl (ResV.cellN (l:=[vi (((repX c p rr qs (mapI ((fdS qs.length A j (unitS (2^qs.length:Nat))).getD []) qs)).getD rpZ).pos),.slice aX (((repX c p rr qs (mapI ((fdS qs.length A j (unitS (2^qs.length:Nat))).getD []) qs)).getD rpZ).old).length aY,.slice aZ (((repX c p rr qs (mapI ((fdS qs.length A j (unitS (2^qs.length:Nat))).getD []) qs)).getD rpZ).new).length b0]) rfl X1a (f.at 0) rfl) rfl) ?_
   rw [D]
   exact ⟨aX,aY,aZ,b0,rfl,Q,U,aF,t⟩
  have bP:=H;have H:=of_decide_eq_false H;have bQ:=H
  have D:shrX c p qs=none:=by
   rw [aW]
   refine X4m G fun w9 h9 h8=>?_;have h7:=Xmy aB aQ w9 h9;have h6:=(X4o h9).1
   rw [b8] at h6
   omega
  refine wp_exit<|Xl<|Xl<|X0a ?_;refine dA _ _<|Zs y fun _ dQ=>?_;refine Ze (Xg (ps:=[]) (cs:=[vi 0,.slice none 0 0,.slice none 0 0]) rfl (fun _=>by first|rfl|kernel_rfl))<|Zo (Vw [vi 0,.slice none 0 0,.slice none 0 0] X14 f) ?_;rintro _ fS ⟨E,hb⟩;have z:=f;have t:=Below.only t E aC;have f:=hb;refine Za rfl<|Zt dQ fun a y=>?_
  refine wp_ret (X2 y (X0w y rfl (ResV.cellN (l:=[vi 0,.slice none 0 0,.slice none 0 0]) rfl X1a (f.at 0) rfl) rfl) ?_)
  rw [D]
  exact ⟨none,0,none,0,rfl,(Own.nil _ _ _ _ _),(Own.nil _ _ _ _ _),(Apart.none_l _),t⟩
 have bO:=aL
 have eX:qs.length=1:=by have h9:¬ (qs.length:Int)=2:=(by simpa using aL);omega
 have b8:KN qs.length=5:=by rw [eX];rfl
 refine wp_skip<|bJ _ _<|wp_seq_k fun _ dR=>?_;refine Zs y fun _ dS=>?_;refine Za rfl<|Zt dS fun a y=>?_;refine wp_block<|X0b (σ:=Nat) (fun (j:Nat) (a:Act) (w:World)=>Fr a 75 [(2,.slice Aqs qs.length cqs),(3,.pointer (some ⟨b4,0,none⟩)),(6,.pointer (some ⟨b7,0,none⟩)),(8,.slice A9 rr.length c9),(10,.pointer (some ⟨b19,0,none⟩)),(11,.pointer (some ⟨bI,0,none⟩)),(12,vi ((rr.length:Int)-1)),(13,vi (j:Int))]∧(j≤7)∧(∀ i,i<j→fdS qs.length A i (unitS (2^qs.length))=none)∧Blk w b4 28 [vi c.n,.slice Ac c.gs.length cc]∧Blk w b7 46 [vi 0,.slice none 0 0,.slice none 0 0]∧Blk w b19 28 [vi ((xC c rr qs).n),.slice aH ((xC c rr qs).gs).length aI]∧Blk w bI 33 [vi A.rows,vi A.cols,.slice aP A.cells.length b6]∧Rd w w0.heap.size 115 encG Ac c.gs∧Rd w w0.heap.size 3 encI Aqs qs∧Own w w0.heap.size 3 1 encI A9 c9 rr∧Own w w0.heap.size 115 3 encG aH aI ((xC c rr qs).gs)∧Rd w w8.heap.size 95 encD aP A.cells∧c.gs.length≤cc∧Below w0.heap.size w0 w) (fun (j:Nat)=>8-j) 0 ?_ ?_
 ·exact ⟨y.sb,(by omega),(fun i hi=>absurd hi (by omega)),m,f,q,u,e,b,o,k,x,M,t⟩
 rintro j a fT ⟨y,eR,aQ,m,f,q,u,e,b,o,k,x,M,t⟩;refine wp_seq_k fun _ dT=>?_;refine Zs y fun _ dU=>?_;refine Zm rfl<|Zm rfl<|Ze (Xel rfl rfl)<|Zt dU fun a y=>?_
 refine Xk y rfl (fun J=>?_) (fun J=>?_)
 ·have bZ:=J;have J:=of_decide_eq_true J;have bQ:=J
  have bR:j≤KN qs.length:=by rw [b8];omega
  have eS:j<rr.length:=by omega
  refine wp_skip<|dT _ _<|wp_seq_k fun _ dW=>?_;refine wp_block<|wp_seq_k fun _ dX=>?_;refine X0h none (fun _=>false) mixed ?_;intro fU d;have m:=m.below d;have f:=f.below d;have q:=q.below d;have u:=u.below d;have e:=e.below d;have b:=b.below d;have o:=o.below d;have k:=k.below d;have x:=x.below d;have t:=btr t d;refine Yb y<|Yo 0 rfl (fun _=>Xa rfl)<|Yo 1 rfl (fun _=>X0x rfl X08)<|Yo 2 rfl (fun _=>Vd rfl X1w 0)<|Ye 3 rfl (Vx (X0 rfl X7 (u.at 0)) cV)<|Ye 5 rfl (Vn X0e u) ?_;refine Yo 6 rfl (fun _=>Xa rfl)<|Y1 4 ?_;refine Yk rfl trivial (Vc (Xsf _ (2^qs.length:Nat) (by rcases aB with h|h<;>rw [h]<;>decide)) Xfx) (fun _ _ ⟨dY,e8,_,aU,d⟩=>d) ?_;rintro _ fV ⟨dY,e8,rfl,aU,d⟩;have aU:=aU.lower t.size;have m:=m.below d;have f:=f.below d;have q:=q.below d;have u:=u.below d;have e:=e.below d;have b:=b.below d;have o:=o.below d;have k:=k.below d;have x:=x.below d;have t:=btr t d;refine Y1 7<|Yk rfl trivial (Vc (Xs1 _ qs.length (unitS (2^qs.length:Nat)) dY e8 aU.rd.top A aP b6 x.top j aB [] 0 (by omega) (List.mem_singleton.2 rfl) (X6a _ aB).symm cW) Xb3) (fun _ _ ⟨bE,bF,_,C,d⟩=>d) ?_;rintro _ fW ⟨bE,bF,rfl,C,d⟩;have cH:=k.apart C (Nat.le_refl _);have C:=C.lower t.size;have m:=m.below d;have f:=f.below d;have q:=q.below d;have u:=u.below d;have e:=e.below d;have b:=b.below d;have o:=o.below d;have k:=k.below d;have x:=x.below d;have t:=btr t d;refine Yo 8 rfl (fun _=>Xa rfl)<|Yo 9 rfl (fun _=>X4 (vs:=[.slice bE ((fdS qs.length A j (unitS (2^qs.length:Nat))).getD []).length bF,.bool ((fdS qs.length A j (unitS (2^qs.length:Nat))).isSome)]) rfl rfl)<|Yo 10 rfl (fun _=>X4 (vs:=[.slice bE ((fdS qs.length A j (unitS (2^qs.length:Nat))).getD []).length bF,.bool ((fdS qs.length A j (unitS (2^qs.length:Nat))).isSome)]) rfl rfl)<|Yo 11 rfl (fun _=>X18 rfl)<|Yo 12 rfl (fun _=>X18 rfl) ?_
  refine Yd fun a y=>?_;refine dX _ _<|wp_seq_k fun _ eA=>?_;refine Zs y fun _ eB=>?_;refine Zm rfl<|Ze (X0z rfl)<|Zt eB fun a y=>?_
  refine Xk y rfl (fun aN=>?_) (fun aN=>?_)
  ·have c4:=aN
   have bU:(fdS qs.length A j (unitS (2^qs.length))).isSome=false:=bn1 aN
   refine wp_exit<|Xl<|X0a<|dW _ _ ?_;refine Zr y<|Zm rfl<|Ze (X06 rfl rfl (by omega) (by omega))<|Za rfl ?_;refine Zn fun a y=>?_;refine Xp ?_;exact ⟨j+1,⟨y.sb,(by omega),(X9q aQ bU),m,f,q,u,e,b,o,k,x,M,t⟩,(by omega)⟩
  have c4:=aN
  have bW:(fdS qs.length A j (unitS (2^qs.length))).isSome=true:=by simpa using aN
  obtain ⟨aR,eT⟩:=Xcs aB bR aQ bW;have bD:=X4o aR;have bX:=Xc9 aB bD.2;have eU:=bD.1;have eW:=X8q qs.length;refine wp_skip<|eA _ _<|wp_seq_k fun _ eC=>?_;refine wp_seq_k fun _ eD=>?_;refine X0h none (fun _=>false) mixed ?_;intro fX d;have m:=m.below d;have f:=f.below d;have q:=q.below d;have e:=e.below d;have b:=b.below d;have o:=o.below d;have k:=k.below d;have C:=C.below d;have t:=btr t d;refine Yb y<|Yo 0 rfl (fun _=>Xa rfl)<|Yo 2 rfl (fun _=>Vd rfl X0v 1)<|Ye 3 rfl (X0 rfl X15 (q.at 1))<|Y1 1 ?_;refine Yk rfl trivial (Vc (Xgz _ bE bF ((fdS qs.length A j (unitS (2^qs.length:Nat))).getD []) C.rd.top (by omega)) X81) (fun _ _ ⟨_,d⟩=>d) ?_;rintro _ fY ⟨rfl,d⟩;have m:=m.below d;have f:=f.below d;have e:=e.below d;have b:=b.below d;have o:=o.below d;have k:=k.below d;have C:=C.below d;have t:=btr t d;refine Y1 4<|Yk rfl trivial (Vc (Xgz _ aH aI ((xC c rr qs).gs) k.rd.top (by show ((gatL c rr).map (smallG qs)).length≤_;rw [List.length_map];omega)) X81) (fun _ _ ⟨_,d⟩=>d) ?_;rintro _ fZ ⟨rfl,d⟩;have m:=m.below d;have f:=f.below d;have e:=e.below d;have b:=b.below d;have o:=o.below d;have C:=C.below d;have t:=btr t d;refine Yo 5 rfl (fun _=>X3a rfl rfl) ?_;refine Yd fun a y=>?_;refine eD _ _ ?_
  refine Xk y rfl (fun L=>?_) (fun L=>?_)
  ·have cA:=L;have L:=of_decide_eq_true L;have aS:=L
   rw [bH] at aS
   have D:shrX c p qs=none:=by
    rw [aW]
    refine X4m G fun w9 h9 h8=>?_
    rw [aR] at h9
    injection h9 with h9
    subst h9
    omega
   refine Zs y fun _ eE=>?_;refine Ze (Xg (ps:=[]) (cs:=[vi 0,.slice none 0 0,.slice none 0 0]) rfl (fun _=>by first|rfl|kernel_rfl))<|Zo (Vw [vi 0,.slice none 0 0,.slice none 0 0] X14 f) ?_;rintro _ g4 ⟨E,hb⟩;have z:=f;have t:=Below.only t E aC;have f:=hb;refine Za rfl<|Zt eE fun a y=>?_;refine wp_ret<|X3<|Xr<|X3 ?_;refine X3<|Xr<|X3<|X2 y (X0w y rfl (ResV.cellN (l:=[vi 0,.slice none 0 0,.slice none 0 0]) rfl X1a (f.at 0) rfl) rfl) ?_
   rw [D]
   exact ⟨none,0,none,0,rfl,(Own.nil _ _ _ _ _),(Own.nil _ _ _ _ _),(Apart.none_l _),t⟩
  have cA:=L;have L:=of_decide_eq_false L;have aS:=L
  rw [bH] at aS
  have D:shrX c p qs=repX c p rr qs (mapI ((fdS qs.length A j (unitS (2^qs.length))).getD []) qs):=by
   rw [aW]
   exact X83 G aR ⟨by omega,by omega⟩
  refine wp_skip<|eC _ _<|wp_seq_k fun _ eF=>?_;refine X0h none (fun j=>[9].contains j) mixed ?_;intro g5 d;have m:=m.below d;have f:=f.below d;have e:=e.below d;have b:=b.below d;have o:=o.below d;have C:=C.below d;have t:=btr t d;refine Yb y<|Ye 0 rfl (Vn X1l m)<|Yo 1 rfl (fun _=>Xa rfl)<|Yo 2 rfl (fun _=>Xa rfl)<|Yo 3 rfl (fun _=>Xa rfl)<|Yo 4 rfl (fun _=>Xa rfl) ?_;refine Y1 5<|Yk rfl trivial (Vc (Xrw _ bE bF ((fdS qs.length A j (unitS (2^qs.length:Nat))).getD []) C.rd.top Aqs cqs qs b.top qs.length bX rfl (by omega)) Xg3) (fun _ _ ⟨eG,eH,_,aE,d⟩=>d) ?_;rintro _ g6 ⟨eG,eH,rfl,aE,d⟩;have cJ:=C.apart aE (Nat.le_refl _);have aE:=aE.lower t.size;have f:=f.below d;have e:=e.below d;have b:=b.below d;have o:=o.below d;have C:=C.below d;have t:=btr t d;refine Y1 6<|Yk rfl trivial (Vc (Xrr _ c Ac cc e.top M A9 c9 rr o.rd.top Aqs cqs qs b.top eG eH (mapI ((fdS qs.length A j (unitS (2^qs.length:Nat))).getD []) qs) aE.rd.top p N aO aK (by unfold mapI;rw [List.length_map];omega) bG) Xg8) (fun _ _ ⟨b1,b2,b3,b5,_,W,aA,aG,d⟩=>d) ?_;rintro _ g7 ⟨b1,b2,b3,b5,rfl,W,aA,aG,d⟩;have cK:=C.apart W (Nat.le_refl _);have cL:=aE.apart W (Nat.le_refl _);have W:=W.lower t.size;have cM:=C.apart aA (Nat.le_refl _);have cN:=aE.apart aA (Nat.le_refl _);have aA:=aA.lower t.size;have f:=f.below d;have t:=btr t d;refine Yo 7 rfl (fun _=>X4 (vs:=[.agg #[vi (((repX c p rr qs (mapI ((fdS qs.length A j (unitS (2^qs.length:Nat))).getD []) qs)).getD rpZ).pos),.slice b1 (((repX c p rr qs (mapI ((fdS qs.length A j (unitS (2^qs.length:Nat))).getD []) qs)).getD rpZ).old).length b2,.slice b3 (((repX c p rr qs (mapI ((fdS qs.length A j (unitS (2^qs.length:Nat))).getD []) qs)).getD rpZ).new).length b5],.bool ((repX c p rr qs (mapI ((fdS qs.length A j (unitS (2^qs.length:Nat))).getD []) qs)).isSome)]) rfl rfl)<|Yo 8 rfl (fun _=>X4 (vs:=[.agg #[vi (((repX c p rr qs (mapI ((fdS qs.length A j (unitS (2^qs.length:Nat))).getD []) qs)).getD rpZ).pos),.slice b1 (((repX c p rr qs (mapI ((fdS qs.length A j (unitS (2^qs.length:Nat))).getD []) qs)).getD rpZ).old).length b2,.slice b3 (((repX c p rr qs (mapI ((fdS qs.length A j (unitS (2^qs.length:Nat))).getD []) qs)).getD rpZ).new).length b5],.bool ((repX c p rr qs (mapI ((fdS qs.length A j (unitS (2^qs.length:Nat))).getD []) qs)).isSome)]) rfl rfl)<|Y1 9 ?_
  refine Yh rfl trivial rfl (Vw [vi (((repX c p rr qs (mapI ((fdS qs.length A j (unitS (2^qs.length:Nat))).getD []) qs)).getD rpZ).pos),.slice b1 (((repX c p rr qs (mapI ((fdS qs.length A j (unitS (2^qs.length:Nat))).getD []) qs)).getD rpZ).old).length b2,.slice b3 (((repX c p rr qs (mapI ((fdS qs.length A j (unitS (2^qs.length:Nat))).getD []) qs)).getD rpZ).new).length b5] X14 f) ?_;rintro _ g8 ⟨E,hb⟩;have z:=f;have W:=W.onlyT E z rfl;have aA:=aA.onlyT E z rfl;have t:=Below.only t E aC;have f:=hb;refine Yo 10 rfl (fun _=>X18 rfl) ?_;refine Yd fun a y=>?_;refine eF _ _<|wp_ret<|Xr<|X3 ?_;refine X3<|Xr<|X3<|X2 y (X0w y rfl (ResV.cellN (l:=[vi (((repX c p rr qs (mapI ((fdS qs.length A j (unitS (2^qs.length:Nat))).getD []) qs)).getD rpZ).pos),.slice b1 (((repX c p rr qs (mapI ((fdS qs.length A j (unitS (2^qs.length:Nat))).getD []) qs)).getD rpZ).old).length b2,.slice b3 (((repX c p rr qs (mapI ((fdS qs.length A j (unitS (2^qs.length:Nat))).getD []) qs)).getD rpZ).new).length b5]) rfl X1a (f.at 0) rfl) rfl) ?_
  rw [D]
  exact ⟨b1,b2,b3,b5,rfl,W,aA,aG,t⟩
 have bZ:=J;have J:=of_decide_eq_false J;have bQ:=J
 have D:shrX c p qs=none:=by
  rw [aW]
  refine X4m G fun w9 h9 h8=>?_;have h7:=Xmy aB aQ w9 h9;have h6:=(X4o h9).1
  rw [b8] at h6
  omega
 refine wp_exit<|Xl<|Xl<|X0a ?_;refine dR _ _<|Zs y fun _ eI=>?_;refine Ze (Xg (ps:=[]) (cs:=[vi 0,.slice none 0 0,.slice none 0 0]) rfl (fun _=>by first|rfl|kernel_rfl))<|Zo (Vw [vi 0,.slice none 0 0,.slice none 0 0] X14 f) ?_;rintro _ gA ⟨E,hb⟩;have z:=f;have t:=Below.only t E aC;have f:=hb;refine Za rfl<|Zt eI fun a y=>?_
 refine wp_ret (X2 y (X0w y rfl (ResV.cellN (l:=[vi 0,.slice none 0 0,.slice none 0 0]) rfl X1a (f.at 0) rfl) rfl) ?_)
 rw [D]
 exact ⟨none,0,none,0,rfl,(Own.nil _ _ _ _ _),(Own.nil _ _ _ _ _),(Apart.none_l _),t⟩
theorem Xee:∀ (l:List Gt) (k:Int),0≤k→heldG l k≤k+3*(l.length:Int)
 | [],k,_=>by rw [heldG];simp
 | x::l,k,hk=>by
  rw [heldG]
  split
  ·have:=Xee l (k+3) (by omega);rw [List.length_cons];omega
  ·rw [List.length_cons];omega
def hlR(o n:List Gt)(k:Int) : Int:=if heldG o k<0 then -1 else if heldG n (heldG o k)<0 then -1 else heldG n (heldG o k)
theorem Xe5(k:Int)(hk:0≤k)(a b:Nat) : hlR (markG k a) (markG (k+3*(a:Int)) b) k=k+3*(a:Int)+3*(b:Int):=by
 unfold hlR
 rw [X5h,if_neg (by omega),X5h,if_neg (by omega)]
theorem Xre{c:Cx}{p:Int}{run qs:List Int}{ws:List Gt} : ((repX c p run qs ws).getD rpZ).old.length≤40∧((repX c p run qs ws).getD rpZ).new.length≤40:=by
 unfold repX
 split
 ·split
  ·rename_i h;exact h
  ·exact ⟨Nat.zero_le _,Nat.zero_le _⟩
 ·exact ⟨Nat.zero_le _,Nat.zero_le _⟩
theorem Xq9(c:Cx)(p:Int)(qs:List Int) : ((shrI c p qs).getD rpZ).old.length≤40∧((shrI c p qs).getD rpZ).new.length≤40:=by
 unfold shrI
 cases runP c p qs with
 | none=>exact ⟨Nat.zero_le _,Nat.zero_le _⟩
 | some run=>
  rw [Option.bind_some]
  unfold plX
  cases srW qs.length ((opI (xC c run qs)).getD mZ) with
  | none=>exact ⟨Nat.zero_le _,Nat.zero_le _⟩
  | some w=>
   rw [Option.bind_some]
   split
   ·exact Xre
   ·exact ⟨Nat.zero_le _,Nat.zero_le _⟩
theorem Xxj(w0:World)(B0:Nat)(A:Option Addr)(c:Nat)(l:List Gt)(f:Own w0 B0 115 3 encG A c l)(A2:Option Addr)(c2:Nat)(i:List Gt)(b:Own w0 B0 115 3 encG A2 c2 i)(aA:Apart A A2)(pos k:Int)(hk:0≤k∧k≤1000)(aJ:l.length≤1000000)(aH:i.length≤1000000) : Ret Tryz.prog 24 [.agg #[vi pos,.slice A l.length c,.slice A2 i.length c2],vi k] w0 (fun v w=>v=vi (k+3*(l.length:Int)+3*(i.length:Int))∧Own w B0 115 3 encG A c (markG k l.length)∧Own w B0 115 3 encG A2 c2 (markG (k+3*(l.length:Int)) i.length)∧∃ wm,w0.grownBy wm (Value.slice A l.length c).ownBlock∧wm.grownBy w (Value.slice A2 i.length c2).ownBlock):=by
 refine enter Tryz.func24 rfl 14 rfl rfl ?_;intro a hf
 have hW:w0.grownBy w0 (Value.slice A l.length c).ownBlock:=World.grownBy.refl _ _
 refine Zs hf fun _ aB=>?_;refine Zf (X0i (zs:=[vi pos,.slice A l.length c,.slice A2 i.length c2]) rfl rfl) ?_;rintro _ w1 ⟨b4,rfl,aC,hE,g⟩;have aI:=Nat.le_trans hW.size aC;have f:=f.below hE;have b:=b.below hE;have hW:=gbel hW hE;refine Za rfl<|Zx aB fun a hf _ aD=>?_;refine Ze (Vd rfl X50 1)<|Ze (X0 rfl X15 (g.at 1))<|Zm rfl<|Zf (Vc (F61 _ B0 A c l f k (by omega) (by omega)) Xmb) ?_;rintro _ w2 ⟨rfl,d,j⟩;have e:=f;have g:=g.appT e j rfl;have b:=b.appP j aA.symm;have hW:=gtr hW j
 clear e j;clear f;have f:=d;clear d;refine Za rfl<|Zx aD fun a hf _ aE=>?_;refine Ze (Vd rfl X2r 2)<|Ze (X0 rfl X15 (g.at 2))<|Zm rfl<|Zf (Vc (F61 _ B0 A2 c2 i b (k+3*(l.length:Int)) (by omega) (by omega)) Xmb) ?_;rintro _ w3 ⟨rfl,d,j⟩;have e:=b;have f:=f.appP j aA
 have aF:w2.grownBy w3 _:=j
 clear e j;clear b;have b:=d;clear d;refine Za rfl<|Zx aE fun a hf _ aG=>?_;refine Zm rfl<|Za rfl<|Zt aG fun a hf=>?_
 refine wp_ret (X2 hf (Xv hf rfl rfl) ?_)
 exact ⟨rfl,f,b,_,hW,aF⟩
theorem Xrz(n:World)(A:Option Addr)(c m:Nat)(l:List Gt)(hm:m=l.length)(aC:Rd n n.heap.size 115 encG A l)(A2:Option Addr)(c2 m2:Nat)(i:List Gt)(aK:m2=i.length)(aA:Rd n n.heap.size 115 encG A2 i)(pos k:Int)(hk:0≤k∧k≤1000)(aU:l.length≤1000000)(aR:i.length≤1000000) : Ret Tryz.prog 25 [.agg #[vi pos,.slice A m c,.slice A2 m2 c2],vi k] n (fun v w=>v=vi (hlR l i k)∧Below n.heap.size n w):=by
 subst hm aK
 have aS:=Xee l k hk.1;refine enter Tryz.func25 rfl 18 rfl rfl ?_;intro a d
 have g:=bz n
 refine Zs d fun _ aL=>?_;refine Zf (X0i (zs:=[vi pos,.slice A l.length c,.slice A2 i.length c2]) rfl rfl) ?_;rintro _ w1 ⟨b4,rfl,aM,hE,j⟩;have aT:=Nat.le_trans g.size aM;have g:=btr g hE;refine Za rfl<|Zx aL fun a d _ aN=>?_;refine Ze (Vd rfl X50 1)<|Ze (X0 rfl X15 (j.at 1))<|Zm rfl<|Zf (Vc (F72 _ A c l.length l rfl (aC.below' g).top k (by omega) (by omega)) Xs7) ?_;rintro _ w2 ⟨rfl,hE⟩;have j:=j.below hE;have g:=btr g hE;refine Za rfl<|ZX aN fun a d _ aO=>?_;refine Zs d fun _ aP=>?_;refine Zm rfl<|Ze (X10 rfl rfl)<|Zt aP fun a d=>?_
 refine Xk d rfl (fun e=>?_) (fun e=>?_)
 ·have aD:=e;have e:=of_decide_eq_true e
  have f:hlR l i k = -1:=if_pos e
  refine Zs d fun _ aQ=>?_;refine Za rfl<|Zt aQ fun a d=>?_;refine wp_ret<|X3<|X2 d (Xv d rfl rfl) ?_;exact ⟨by rw [f],g⟩
 have aD:=e;have e:=of_decide_eq_false e;have aE:=e;refine wp_skip<|aO _ _<|Zs d fun _ aF=>?_;refine Ze (Vd rfl X2r 2)<|Ze (X0 rfl X15 (j.at 2))<|Zm rfl<|Zf (Vc (F72 _ A2 c2 i.length i rfl (aA.below' g).top (heldG l k) (by omega) (by omega)) Xs7) ?_;rintro _ w3 ⟨rfl,hE⟩;have g:=btr g hE;refine Za rfl<|ZX aF fun a d _ aG=>?_;refine Zs d fun _ aH=>?_;refine Zm rfl<|Ze (X10 rfl rfl)<|Zt aH fun a d=>?_
 refine Xk d rfl (fun b=>?_) (fun b=>?_)
 ·have aB:=b;have b:=of_decide_eq_true b
  have f:hlR l i k = -1:=by rw [hlR,if_neg aE,if_pos b]
  refine Zs d fun _ aI=>?_;refine Za rfl<|Zt aI fun a d=>?_;refine wp_ret<|X3<|X2 d (Xv d rfl rfl) ?_;exact ⟨by rw [f],g⟩
 have aB:=b;have b:=of_decide_eq_false b
 have f:hlR l i k=heldG i (heldG l k):=by rw [hlR,if_neg aE,if_neg b]
 refine wp_skip<|aG _ _<|Zs d fun _ aJ=>?_;refine Zm rfl<|Za rfl<|Zt aJ fun a d=>?_
 refine wp_ret (X2 d (Xv d rfl rfl) ?_)
 exact ⟨by rw [f],g⟩
theorem Xhb{a b:Int} : unionI [a,b] []=putI [a] b:=
 Xi7 _ _ (Xj5 _ _) (Xg4 _ _ (by simp)) fun x=>by rw [Xj4,Xc0];simp
def isW(q:Int)(g:Gt) : Bool:=inR g.k 9 11&&(g.a==q||g.b==q)
def lsX(c:Cx)(p:Nat) : List (List Int):=
 if (c.gs.getD p gZ).k=12 then [] else if inR (c.gs.getD p gZ).k 9 11=true then [putI [(c.gs.getD p gZ).a] (c.gs.getD p gZ).b] else
  match (c.gs.drop (p+1)).find? (isW (c.gs.getD p gZ).a) with
  | some h=>[[(c.gs.getD p gZ).a],putI [h.a] h.b]
  | none=>[[(c.gs.getD p gZ).a]]
theorem Xwc{c:Cx}{p:Nat}{g:Gt}(h:c.gs[p]? = some g)(hk:g.k=12) : lsX c p=[]:=by
 unfold lsX;rw [List.getD_eq_getElem?_getD,h,Option.getD_some,if_pos hk]
theorem Xl6{c:Cx}{p:Nat}{g:Gt}(h:c.gs[p]? = some g)(hk:¬ g.k=12)(h2:inR g.k 9 11=true) : lsX c p=[putI [g.a] g.b]:=by
 unfold lsX;rw [List.getD_eq_getElem?_getD,h,Option.getD_some,if_neg hk,if_pos h2]
def NoW(c:Cx)(p k:Nat)(q:Int) : Prop:=((c.gs.drop (p+1)).take k).all (fun g=>!isW q g)=true
theorem Xeb{c:Cx}{p k:Nat}{q:Int}{u:Gt}(h:NoW c p k q)(hu:(c.gs.drop (p+1))[k]? = some u)(hw:isW q u=false) : NoW c p (k+1) q:=by
 unfold NoW at *;rw [List.take_add_one,hu,List.all_append,h];simp [hw]
theorem Xcg{c:Cx}{p k:Nat}{g u:Gt}(hg:c.gs[p]? = some g)(hk:¬ g.k=12)(h2:inR g.k 9 11=false)(h:NoW c p k g.a)(hu:(c.gs.drop (p+1))[k]? = some u)(hw:isW g.a u=true) : lsX c p=[[g.a],putI [u.a] u.b]:=by
 have hf:(c.gs.drop (p+1)).find? (isW g.a)=some u:=by
  obtain ⟨h4,h5⟩:=List.getElem?_eq_some_iff.1 hu
  rw [List.find?_eq_some_iff_getElem]
  refine ⟨hw,k,h4,h5,fun j hj=>?_⟩
  unfold NoW at h
  have:=List.all_eq_true.1 h (c.gs.drop (p+1))[j] (by rw [List.mem_iff_getElem];exact ⟨j,by simp at h4 ⊢;omega,by simp⟩)
  simpa using this
 unfold lsX
 rw [List.getD_eq_getElem?_getD,hg,Option.getD_some,if_neg hk,if_neg (by rw [h2];decide),hf]
theorem Xh8{c:Cx}{p k:Nat}{g:Gt}(hg:c.gs[p]? = some g)(hk:¬ g.k=12)(h2:inR g.k 9 11=false)(h:NoW c p k g.a)(hl:(c.gs.drop (p+1)).length≤k) : lsX c p=[[g.a]]:=by
 have hf:(c.gs.drop (p+1)).find? (isW g.a)=none:=by
  rw [List.find?_eq_none]
  intro x hx
  unfold NoW at h
  rw [List.take_of_length_le hl] at h
  have:=List.all_eq_true.1 h x hx
  simpa using this
 unfold lsX
 rw [List.getD_eq_getElem?_getD,hg,Option.getD_some,if_neg hk,if_neg (by rw [h2];decide),hf]
theorem Xid{α:Type}{P:α→Prop}{x:α}(h:P x) : ∀ s ∈ [x],P s:=fun s hs=>by rw [List.mem_singleton.1 hs];exact h
theorem Xuu{α:Type}{P:α→Prop}{x y:α}(h:P x)(h2:P y) : ∀ s ∈ [x,y],P s:=fun s hs=>by
 rcases List.mem_cons.1 hs with e|hs
 ·rw [e];exact h
 ·rw [List.mem_singleton.1 hs];exact h2
theorem X6e{g:Gt}(h:¬ g.k=12)(h2:inR g.k 9 11=true) : qubI g=[g.a,g.b]:=by unfold qubI;rw [if_neg h,if_pos h2]
theorem X6c{g:Gt}(h:¬ g.k=12)(h2:inR g.k 9 11=false) : qubI g=[g.a]:=by unfold qubI;rw [if_neg h,if_neg (by rw [h2];decide)]
theorem Xs2{g:Gt}(h:inR g.k 9 11=true) : ¬ g.k=12:=by have:=X03.1 h;omega
def stL(c:Cx)(p:Nat) : Option Rp:=(lsX c p).findSome? fun qs=>shrI c (p:Int) qs
def stX(c:Cx) : Option Rp:=(List.range c.gs.length).findSome? (stL c)
def NoS(c:Cx)(k:Nat) : Prop:=(List.range k).findSome? (stL c)=none
theorem Xd2{c:Cx}{k:Nat}(h:NoS c k)(h2:stL c k=none) : NoS c (k+1):=by
 unfold NoS at *;rw [List.range_succ,List.findSome?_append,h];simp [h2]
theorem Xh5{c:Cx}{k:Nat}(h:NoS c k)(hk:k=c.gs.length) : stX c=none:=by subst hk;exact h
def NoL(c:Cx)(p j:Nat) : Prop:=((lsX c p).take j).findSome? (fun qs=>shrI c (p:Int) qs)=none
theorem Xds{c:Cx}{p j:Nat}{qs:List Int}(h:NoL c p j)(hq:(lsX c p)[j]? = some qs)(hn:(shrI c (p:Int) qs).isSome=false) : NoL c p (j+1):=by
 unfold NoL at *;rw [List.take_add_one,hq,List.findSome?_append,h]
 cases e:shrI c (p:Int) qs with
 | none=>simp [e]
 | some r=>rw [e] at hn;cases hn
theorem Xhf{c:Cx}{p j:Nat}(h:NoL c p j)(hj:(lsX c p).length≤j) : stL c p=none:=by
 unfold NoL at h;rw [List.take_of_length_le hj] at h;exact h
theorem Xek(c:Cx)(p:Nat) : NoL c p 0:=rfl
theorem Xe0{c:Cx}{p j:Nat}{qs:List Int}(h0:NoS c p)(hp:p<c.gs.length)(h:NoL c p j)(hq:(lsX c p)[j]? = some qs)(hn:(shrI c (p:Int) qs).isSome=true) : stX c=shrI c (p:Int) qs:=by
 have h1:stL c p=shrI c (p:Int) qs:=by
  unfold stL NoL at *
  obtain ⟨h4,h5⟩:=List.getElem?_eq_some_iff.1 hq
  have e:lsX c p=(lsX c p).take j++qs::(lsX c p).drop (j+1):=by rw [← h5,← List.drop_eq_getElem_cons h4,List.take_append_drop]
  rw [e,List.findSome?_append,h,List.findSome?_cons]
  cases e2:shrI c (p:Int) qs with
  | none=>rw [e2] at hn;cases hn
  | some r=>rfl
 unfold stX NoS at *
 have e:List.range c.gs.length=List.range p++p::(List.range' (p+1) (c.gs.length-(p+1))):=by
  have e0:List.range' 0 c.gs.length=List.range' 0 p++List.range' (0+p) (c.gs.length-p):=by rw [List.range'_append_1];congr 1;omega
  rw [List.range_eq_range',List.range_eq_range',e0]
  congr 1
  rw [show c.gs.length-p=(c.gs.length-(p+1))+1 from by omega,List.range'_succ];simp
 rw [e,List.findSome?_append,h0,List.findSome?_cons,h1]
 cases e2:shrI c (p:Int) qs with
 | none=>rw [e2] at hn;cases hn
 | some r=>rfl
theorem Xan{ls:List Sl}{l:List (List Int)}{j:Nat}{u:Sl}(h:ls.map Sl.l=l)(hu:ls[j]? = some u) : l[j]? = some u.l:=by rw [← h,List.getElem?_map,hu];rfl
theorem Xh4(c:Cx)(p:Nat) : (lsX c p).length≤2:=by
 unfold lsX
 split
 ·simp
 ·split
  ·simp
  ·split<;>simp
theorem Xau(c:Cx)(p:Nat) : ∀ l ∈ lsX c p,l.length≤2:=by
 have h:∀ a b:Int,(putI [a] b).length≤2:=fun a b=>Xh0 [a] b
 unfold lsX
 split
 ·simp
 ·split
  ·exact Xid (h _ _)
  ·split
   ·exact Xuu (by simp) (h _ _)
   ·exact Xid (by simp)
def stI(c:Cx) : Option Rp:=if cOk c=true then stX c else none
theorem Xgh{c:Cx}(h:cOk c=true) : stI c=stX c:=if_pos h
theorem Xna{c:Cx}(h:cOk c=false) : stI c=none:=if_neg (by rw [h];decide)
theorem X3v{α:Type}{f:α→Option Rp}(hf:∀ a,((f a).getD rpZ).old.length≤40∧((f a).getD rpZ).new.length≤40) : ∀ l:List α,((l.findSome? f).getD rpZ).old.length≤40∧((l.findSome? f).getD rpZ).new.length≤40
 | []=>⟨Nat.zero_le _,Nat.zero_le _⟩
 | a::l=>by
  rw [List.findSome?_cons]
  have h:=hf a
  cases e:f a with
  | none=>exact X3v hf l
  | some r=>rw [e] at h;exact h
theorem Xr7(c:Cx) : ((stX c).getD rpZ).old.length≤40∧((stX c).getD rpZ).new.length≤40:=by
 unfold stX
 exact X3v (fun p=>by unfold stL;exact X3v (fun qs=>Xq9 c (p:Int) qs) (lsX c p)) (List.range c.gs.length)
theorem Xpm(c:Cx) : ((stI c).getD rpZ).old.length≤40∧((stI c).getD rpZ).new.length≤40:=by
 unfold stI;split
 ·exact Xr7 c
 ·exact ⟨Nat.zero_le _,Nat.zero_le _⟩
theorem Xwf(w0:World)(c:Cx)(Ac:Option Addr)(cc:Nat)(f:Rd w0 w0.heap.size 115 encG Ac c.gs)(aA:c.gs.length≤cc)(p:Nat)(b0:cOk c=true)(cA:p<c.gs.length) : Ret Tryz.prog 96 [.agg #[vi c.n,.slice Ac c.gs.length cc],vi (p:Int)] w0 (fun v w=>∃ A9 e9 ls,v=.slice A9 (List.length (α:=Sl) ls) e9∧Rd w w.heap.size 43 encS A9 ls∧(∀ s9 ∈ ls,Rd w w.heap.size 3 encI s9.A s9.l)∧ls.map Sl.l=lsX c p∧Below w0.heap.size w0 w):=by
 obtain ⟨cW,cX,cB⟩:=X12 b0;obtain ⟨x,aD⟩:=Xi (l:=c.gs) (k:=p) cA;have cT:=cB x (List.mem_of_getElem? aD);have cY:=X36 x
 have cU:(c.gs.drop (p+1)).length≤400:=by rw [List.length_drop];omega
 refine enter Tryz.func96 rfl 65 rfl rfl ?_;intro a m
 have o:=bz w0
 refine Zs m fun _ cC=>?_;refine Zf (X0i (zs:=[vi c.n,.slice Ac c.gs.length cc]) rfl rfl) ?_;rintro _ w1 ⟨b3,rfl,cD,q,y⟩;have cV:=Nat.le_trans o.size cD;have f:=f.below q;have o:=btr o q;refine Za rfl<|Zx cC fun a m _ cE=>?_;refine Ze (Vd rfl X0v 1)<|Ze (X0 rfl X15 (y.at 1))<|Zm rfl<|Zi (k:=p) (u:=x) (enc:=encG) (l:=c.gs) trivial rfl rfl Xf X0p Xb f aD rfl ?_;intro p7 b1;refine Ze (X07 (l:=[vi x.k,vi x.a,vi x.b]) rfl X0g b1 rfl)<|Zf (X8 (zs:=[vi 0,vi 0,vi 0]) X2i rfl) ?_;rintro _ w2 ⟨b8,rfl,b2,q,t⟩;have aO:=Nat.le_trans o.size b2;have c4:=f.away b2;have y:=y.below q;have f:=f.below q;have o:=btr o q;refine Zo (Vw [vi x.k,vi x.a,vi x.b] X0p t) ?_;rintro _ w3 ⟨ho,hb⟩;have M:=t;have y:=y.only ho (Blk.ne y M rfl);have f:=f.only ho aO;have o:=Below.only o ho aO;have t:=hb;refine ZX cE fun a m _ cF=>?_;refine wp_block<|Zs m fun _ b4=>?_;refine Ze (Vd rfl X0n 0)<|Ze (X0 rfl X7 (t.at 0))<|Ze (X13 rfl rfl)<|Za rfl<|Zt b4 fun a m=>?_
 refine Xk m rfl (fun N=>?_) (fun N=>?_)
 ·have z:=N
  have L:x.k=12:=by simpa using N
  have E:=Xwc aD L;refine Zs m fun _ b5=>?_;refine Za rfl<|Zt b5 fun a m=>?_;refine wp_ret<|Xr<|X3<|X2 m (Xv m rfl rfl) ?_;exact ⟨none,0,[],rfl,Rd.nil _ _ _ _ _,(fun _ h=>by cases h),by rw [E];rfl,o⟩
 have z:=N
 have L:¬ x.k=12:=by simpa using N
 refine Zs m fun _ b6=>?_;refine Ze (Vd rfl X0n 0)<|Ze (X0 rfl X7 (t.at 0))<|Zf (Vc (F99 _ x.k) X8v) ?_;rintro _ _ ⟨rfl,rfl⟩;refine Za rfl<|Zt b6 fun a m=>?_
 refine Xk m rfl (fun Q=>?_) (fun Q=>?_)
 ·have B:=Q
  have b7:inR x.k 9 11=true:=Q
  have E:lsX c p=[unionI (qubI x) []]:=by rw [Xl6 aD L b7,X6e L b7,Xhb]
  refine Zs m fun _ b9=>?_;refine Ze (Vn X0g t)<|Zf (Vc (F96 _ x) Xgs) ?_;rintro _ w4 ⟨cG,cH,rfl,aF,q⟩;have aF:=aF.lower o.size;have o:=btr o q;refine Zf (Vc (F47 _ cG cH (qubI x) aF.rd.top none 0 ([] : List Int) (Rd.nil _ _ _ _ _) (by omega) (by simp)) Xs3) ?_;rintro _ w5 ⟨aQ,aR,rfl,U,q⟩;have U:=U.lower o.size;have o:=btr o q;refine Zf (X5 (k:=1) (vs:=[.slice aQ (unionI (qubI x) ([] : List Int)).length aR]) (zs:=[.slice aQ (unionI (qubI x) ([] : List Int)).length aR]) rfl X24 X41 rfl rfl) ?_;rintro _ w6 ⟨cJ,rfl,bC,q,aP⟩;have cK:=Nat.le_trans o.size bC;have U:=U.below q;have o:=btr o q;refine Za rfl<|Zt b9 fun a m=>?_;refine wp_ret<|Xr<|X3<|X2 m (Xv m rfl rfl) ?_;exact ⟨(some ⟨cJ,0,none⟩),1,[(⟨aQ,aR,(unionI (qubI x) ([] : List Int))⟩ : Sl)],rfl,(Rd.of_blk aP rfl _ aP.lt),(Xid U.rd.top),by rw [E];rfl,o⟩
 have B:=Q
 have bD:inR x.k 9 11=false:=Q
 refine wp_skip<|Xt<|cF _ _<|Zs m fun _ bE=>?_;refine Ze (Vd rfl X0f 1)<|Ze (X0 rfl X7 (t.at 1))<|Zf (X5 (k:=1) (vs:=[vi x.a]) (zs:=[vi x.a]) rfl X08 X1o rfl rfl) ?_;rintro _ w7 ⟨J,rfl,bF,q,e⟩;have cL:=Nat.le_trans o.size bF;have y:=y.below q;have t:=t.below q;have f:=f.below q;have o:=btr o q;refine Zf (X5 (k:=1) (vs:=[.slice (some ⟨J,0,none⟩) ([x.a]).length 1]) (zs:=[.slice (some ⟨J,0,none⟩) ([x.a]).length 1]) rfl X24 X41 rfl rfl) ?_;rintro _ w8 ⟨aG,rfl,bG,q,g⟩;have aH:=Nat.le_trans o.size bG;have y:=y.below q;have t:=t.below q;have e:=e.below q;have f:=f.below q;have o:=btr o q;refine Za rfl<|ZX bE fun a m _ bH=>?_;refine Zs m fun _ bI=>?_;refine Ze (Vd rfl X0v 1)<|Ze (X0 rfl X15 (y.at 1))<|Zm rfl<|Ze (X06 rfl rfl (by omega) (by omega)) ?_;have D:=(f.top).dropK Xb (c:=cc) aA (p+1);refine Ze (Xeu (l:=c.gs) (k:=(p+1)) rfl rfl Xf X0p rfl (by omega))<|Ze (X0x rfl Xf)<|Zm rfl<|Zt bI fun a m=>?_;refine wp_block<|X0b (σ:=Nat) (fun (k:Nat) (a:Act) (w:World)=>Fr a 65 [(5,.pointer (some ⟨b8,0,none⟩)),(6,.slice (some ⟨aG,0,none⟩) ([(⟨some ⟨J,0,none⟩,1,[x.a]⟩ : Sl)]).length 1),(34,.slice (if cc=(p+1) then Ac else Ac.map (·.add ((p+1)*3))) (c.gs.drop (p+1)).length (cc-(p+1))),(35,vi ((c.gs.drop (p+1)).length:Int)),(36,vi (k:Int))]∧(k≤(c.gs.drop (p+1)).length)∧(NoW c p k x.a)∧Blk w b3 28 [vi c.n,.slice Ac c.gs.length cc]∧Blk w b8 115 [vi x.k,vi x.a,vi x.b]∧Blk w J 3 [vi x.a]∧Blk w aG 43 [.slice (some ⟨J,0,none⟩) ([x.a]).length 1]∧Rd w w0.heap.size 115 encG Ac c.gs∧Rd w w8.heap.size 115 encG (if cc=(p+1) then Ac else Ac.map (·.add ((p+1)*3))) (c.gs.drop (p+1))∧c.gs.length≤cc∧Below w0.heap.size w0 w) (fun (k:Nat)=>(c.gs.drop (p+1)).length-k) 0 ?_ ?_
 ·exact ⟨m.sb,(Nat.zero_le _),rfl,y,t,e,g,f,D,aA,o⟩
 rintro k a w9 ⟨m,hk,aS,y,t,e,g,f,D,aA,o⟩;refine Zs m fun _ bJ=>?_;refine Ze (X10 rfl rfl)<|ZX bJ fun a m _ bK=>?_
 refine Xk m rfl (fun H=>?_) (fun H=>?_)
 ·have C:=H;have H:=of_decide_eq_true H
  obtain ⟨i,aI⟩:=Xi (l:=(c.gs.drop (p+1))) (k:=k) (by omega)
  refine wp_skip<|bK _ _<|wp_seq_k fun _ bL=>?_;refine wp_block<|Zs m fun _ bM=>?_;refine Zi (k:=k) (u:=i) (enc:=encG) (l:=(c.gs.drop (p+1))) trivial rfl rfl Xf X0p Xb D aI rfl ?_;intro d5 aT;refine Ze (X07 (l:=[vi i.k,vi i.a,vi i.b]) rfl X0g aT rfl)<|Zf (X8 (zs:=[vi 0,vi 0,vi 0]) X2i rfl) ?_;rintro _ d6 ⟨b38,rfl,aJ,q,I⟩
  have bN:b8≠b38:=by have:=t.lt;omega
  have aK:=Nat.le_trans o.size aJ;have bO:=f.away aJ;have aE:=D.away aJ;have y:=y.below q;have t:=t.below q;have e:=e.below q;have g:=g.below q;have f:=f.below q;have D:=D.below q;have o:=btr o q;refine Zo (Vw [vi i.k,vi i.a,vi i.b] X0p I) ?_;rintro _ cM ⟨ho,hb⟩;have M:=I;have y:=y.only ho (Blk.ne y M rfl);have t:=t.only ho (by omega);have e:=e.only ho (Blk.ne e M rfl);have g:=g.only ho (Blk.ne g M rfl);have f:=f.only ho aK;have D:=D.onlyA ho aE;have o:=Below.only o ho aK;have I:=hb;refine ZX bM fun a m _ bP=>?_;refine X0o (fun a w=>Fr a 65 [(5,.pointer (some ⟨b8,0,none⟩)),(6,.slice (some ⟨aG,0,none⟩) ([(⟨some ⟨J,0,none⟩,1,[x.a]⟩ : Sl)]).length 1),(8,.pointer (some ⟨b38,0,none⟩)),(34,.slice (if cc=(p+1) then Ac else Ac.map (·.add ((p+1)*3))) (c.gs.drop (p+1)).length (cc-(p+1))),(35,vi ((c.gs.drop (p+1)).length:Int)),(36,vi (k:Int)),(56,.bool ((inR i.k 9 11)&&((i.a==x.a)||(i.b==x.a))))]∧cM=w) ?_ ?_
  ·refine Zr m<|Ze (Vd rfl X0n 0)<|Ze (X0 rfl X7 (I.at 0))<|Zf (Vc (F99 _ i.k) X8v) ?_;rintro _ _ ⟨rfl,rfl⟩;refine Zm rfl ?_
   refine Zg 43 rfl (fun d=>?_) (fun d=>?_)
   ·refine Zv (gW d) (Vd rfl X0f 1) ?_;refine Zv (gW d) (X0 rfl X7 (I.at 1)) ?_;refine Zv (gW d) (Vd rfl X0f 1) ?_;refine Zv (gW d) (X0 rfl X7 (t.at 1)) ?_;refine Zv (gW d) (X13 rfl rfl) ?_;refine Zv (gW d) (Xa rfl) ?_
    refine Zg 49 rfl (fun j=>?_) (fun j=>?_)
    ·refine Zp (gP j) ?_;refine Zp (gP j) ?_;refine Zp (gP j) ?_;refine Zp (gP j) ?_;refine Zp (gP j) ?_;refine Zv (gW d) (Xn rfl j rfl) ?_;refine Ze (Xn rfl d rfl) ?_;refine Zn fun a m=>?_;exact ⟨m.sub ⟨rfl,rfl,rfl,rfl,rfl,rfl,X1 rfl (by first|rfl|(simp only [z,B,C,d,j,bs];done)|simp [z,B,C,d,j]),trivial⟩,rfl⟩
    refine Zv (gW j) (Vd rfl X0s 2) ?_;refine Zv (gW j) (X0 rfl X7 (I.at 2)) ?_;refine Zv (gW j) (Vd rfl X0f 1) ?_;refine Zv (gW j) (X0 rfl X7 (t.at 1)) ?_;refine Zv (gW j) (X13 rfl rfl) ?_;refine Zv (gW d) (Xj rfl j rfl) ?_;refine Ze (Xn rfl d rfl) ?_;refine Zn fun a m=>?_;exact ⟨m.sub ⟨rfl,rfl,rfl,rfl,rfl,rfl,X1 rfl (by first|rfl|(simp only [z,B,C,d,j,bs];done)|simp [z,B,C,d,j]),trivial⟩,rfl⟩
   refine Zp (gP d) ?_;refine Zp (gP d) ?_;refine Zp (gP d) ?_;refine Zp (gP d) ?_;refine Zp (gP d) ?_;refine Zp (gP d) ?_;refine Zp (gP trivial) ?_;refine Zp (gP trivial) ?_;refine Zp (gP trivial) ?_;refine Zp (gP trivial) ?_;refine Zp (gP trivial) ?_;refine Zp (gP d) ?_;refine Ze (Xj rfl d rfl) ?_;refine Zn fun a m=>?_;exact ⟨m.sub ⟨rfl,rfl,rfl,rfl,rfl,rfl,X1 rfl (by first|rfl|(simp only [z,B,C,d,bs];done)|simp [z,B,C,d]),trivial⟩,rfl⟩
  rintro a _ ⟨m,rfl⟩;refine bP _ _ ?_
  refine Xk m rfl (fun W=>?_) (fun W=>?_)
  ·have aU:=W
   have bQ:isW x.a i=true:=W
   have bR:inR i.k 9 11=true:=((Bool.and_eq_true _ _▸bQ:inR i.k 9 11=true∧(i.a==x.a||i.b==x.a)=true)).1
   have bS:=Xs2 bR;have d7:=X36 i;have E:=Xcg aD L bD aS aI bQ
   rw [show putI [i.a] i.b=unionI (qubI i) [] from by rw [X6e bS bR,Xhb]] at E
   refine Zs m fun _ bU=>?_;refine Zm rfl<|Ze (Vn X0g I)<|Zf (Vc (F96 _ i) Xgs) ?_;rintro _ d8 ⟨cN,cO,rfl,aB,q⟩;have aW:=aB.awayNew e.lt;have aB:=aB.lower o.size;have e:=e.below q;have g:=g.below q;have o:=btr o q;refine Zf (Vc (F47 _ cN cO (qubI i) aB.rd.top none 0 ([] : List Int) (Rd.nil _ _ _ _ _) (by omega) (by simp)) Xs3) ?_;rintro _ d9 ⟨aM,aN,rfl,G,q⟩;have aX:=G.awayNew e.lt;have G:=G.lower o.size;have e:=e.below q;have g:=g.below q;have o:=btr o q;refine Zf (X5 (k:=1) (vs:=[.slice aM (unionI (qubI i) ([] : List Int)).length aN]) (zs:=[.slice aM (unionI (qubI i) ([] : List Int)).length aN]) rfl X24 X41 rfl rfl) ?_;rintro _ dA ⟨b47,rfl,bW,q,aL⟩
   have aY:aG≠b47:=by have:=g.lt;omega
   have cP:=Nat.le_trans o.size bW;have e:=e.below q;have g:=g.below q;have G:=G.below q;have o:=btr o q;refine Zf (X11 (enc:=encS) (l:=([(⟨some ⟨J,0,none⟩,1,[x.a]⟩ : Sl)])) (l2:=([(⟨aM,aN,(unionI (qubI i) ([] : List Int))⟩ : Sl)])) (B0:=w0.heap.size) rfl rfl X24 X41 X35 Xku (Own.of_blkL X35 g aH rfl rfl (Nat.le_of_ble_eq_true rfl)) (Rd.of_blk aL rfl _ aL.lt) (by simp only [maxLen];simp) (by simp) o.size) ?_;rintro _ dB ⟨cQ,cR,rfl,bX,hg,bY⟩
   have aC:Own _ w0.heap.size 43 1 encS _ _ ([(⟨some ⟨J,0,none⟩,1,[x.a]⟩ : Sl)]):=(Own.of_blkL X35 g aH rfl rfl (Nat.le_of_ble_eq_true rfl))
   have aZ:=bY _ aL.lt (Away.ne (by omega))
   clear bY;have e:=e.appT aC hg rfl;have G:=G.appT aC hg rfl;have o:=Below.app o aC hg (Nat.le_refl _) o.size;clear aC hg;refine Za rfl<|Zt bU fun a m=>?_;refine wp_ret<|Xr<|X3<|X3 ?_;refine Xr<|X3<|X2 m (Xv m rfl rfl) ?_;exact ⟨cQ,cR,([(⟨some ⟨J,0,none⟩,1,[x.a]⟩ : Sl)])++([(⟨aM,aN,(unionI (qubI i) ([] : List Int))⟩ : Sl)]),rfl,bX.rd.top,(Xuu (Rd.of_blk e rfl _ e.lt) G.rd.top),by rw [E];rfl,o⟩
  have aU:=W
  have cS:isW x.a i=false:=W
  refine wp_skip<|Xt<|bL _ _<|Zr m ?_;refine Ze (X06 rfl rfl (by omega) (by omega))<|Zm rfl ?_;refine Zn fun a m=>?_;refine Xp ?_;exact ⟨k+1,⟨m.sb,(by omega),(Xeb aS aI cS),y,t,e,g,f,D,aA,o⟩,(by omega)⟩
 have C:=H;have H:=of_decide_eq_false H
 have E:=Xh8 aD L bD aS (by omega)
 refine wp_exit<|Xl<|Xl<|X0a ?_;refine bH _ _<|Zs m fun _ bZ=>?_;refine Zm rfl<|Za rfl<|Zt bZ fun a m=>?_
 refine wp_ret (X2 m (Xv m rfl rfl) ?_)
 exact ⟨(some ⟨aG,0,none⟩),1,[(⟨some ⟨J,0,none⟩,1,[x.a]⟩ : Sl)],rfl,(Rd.of_blk g rfl _ g.lt),(Xid (Rd.of_blk e rfl _ e.lt)),by rw [E];rfl,o⟩
theorem Xwg(w0:World)(c:Cx)(Ac:Option Addr)(cc:Nat)(j:Rd w0 w0.heap.size 115 encG Ac c.gs)(N:c.gs.length≤cc)(p:Nat)(b4:cOk c=true)(bU:p<c.gs.length) : Ret Tryz.prog 91 [.agg #[vi c.n,.slice Ac c.gs.length cc],vi (p:Int)] w0 (fun v w=>∃ A9 e9 ls,v=.slice A9 (List.length (α:=Sl) ls) e9∧Rd w w.heap.size 43 encS A9 ls∧(∀ s9 ∈ ls,Rd w w.heap.size 3 encI s9.A s9.l)∧ls.map Sl.l=lsX c p∧Below w0.heap.size w0 w):=by
 obtain ⟨cQ,cR,bW⟩:=X12 b4;obtain ⟨o,U⟩:=Xi (l:=c.gs) (k:=p) bU;have cM:=bW o (List.mem_of_getElem? U);have cS:=X36 o
 have cN:(c.gs.drop (p+1)).length≤400:=by rw [List.length_drop];omega
 refine enter Tryz.func91 rfl 68 rfl rfl ?_;intro a q
 have t:=bz w0
 refine Zs q fun _ bX=>?_;refine Zf (X0i (zs:=[vi c.n,.slice Ac c.gs.length cc]) rfl rfl) ?_;rintro _ w1 ⟨b3,rfl,bY,g,D⟩;have cO:=Nat.le_trans t.size bY;have j:=j.below g;have t:=btr t g;refine Za rfl<|Zx bX fun a q _ bZ=>?_;refine Ze (Vd rfl X0v 1)<|Ze (X0 rfl X15 (D.at 1))<|Zm rfl<|Zi (k:=p) (u:=o) (enc:=encG) (l:=c.gs) trivial rfl rfl Xf X0p Xb j U rfl ?_;intro p7 b5;refine Ze (X07 (l:=[vi o.k,vi o.a,vi o.b]) rfl X0g b5 rfl)<|Zf (Vc (Xxv _ o) Xm3) ?_;rintro _ w2 ⟨A8,c8,rfl,e,g⟩;have e:=e.lower t.size;have D:=D.below g;have j:=j.below g;have t:=btr t g;refine Za rfl<|ZX bZ fun a q _ c4=>?_;refine Zs q fun _ b6=>?_;refine Zm rfl<|Ze (X0x rfl X08)<|Zt b6 fun a q=>?_;refine wp_block<|Zs q fun _ b7=>?_;refine Ze (X13 rfl rfl)<|Za rfl<|Zt b7 fun a q=>?_
 refine Xk q rfl (fun I=>?_) (fun I=>?_)
 ·have z:=I
  have x:o.k=12:=by
   have H:=I
   unfold qubI at H
   by_cases h8:o.k=12
   ·exact h8
   ·rw [if_neg h8] at H;split at H<;>simp at H
  have E:=Xwc U x;refine Zs q fun _ b8=>?_;refine Za rfl<|Zt b8 fun a q=>?_;refine wp_ret<|Xr<|X3<|X2 q (Xv q rfl rfl) ?_;exact ⟨none,0,[],rfl,Rd.nil _ _ _ _ _,(fun _ h=>by cases h),by rw [E];rfl,t⟩
 have z:=I
 have x:¬ o.k=12:=by
  intro h8;have H:=I
  unfold qubI at H
  rw [if_pos h8] at H;simp at H
 refine Zs q fun _ b9=>?_;refine Ze (X13 rfl rfl)<|Za rfl<|Zt b9 fun a q=>?_
 refine Xk q rfl (fun J=>?_) (fun J=>?_)
 ·have B:=J
  have aQ:inR o.k 9 11=true:=by
   have H:=J
   unfold qubI at H
   rw [if_neg x] at H
   by_cases h8:inR o.k 9 11=true
   ·exact h8
   ·rw [if_neg h8] at H;simp at H
  have E:=Xl6 U x aQ;refine wp_seq_k fun _ bC=>?_;refine X0h none (fun _=>false) mixed ?_;intro w3 g;have e:=e.below g;have t:=btr t g;refine Yb q<|Yo 0 rfl (fun _=>Xa rfl)<|Yi (k:=0) (u:=o.a) (enc:=encI) (l:=(qubI o)) 1 rfl trivial rfl rfl X08 X1j X02 e.rd (by rw [X6e x aQ];rfl) rfl ?_;intro cT aR;refine Ye 2 rfl (X0 rfl X7 aR)<|Yo 4 rfl (fun _=>Xa rfl)<|Yi (k:=1) (u:=o.b) (enc:=encI) (l:=(qubI o)) 5 rfl trivial rfl rfl X08 X1j X02 e.rd (by rw [X6e x aQ];rfl) rfl ?_;intro cU aS;refine Ye 6 rfl (X0 rfl X7 aS)<|Y1 3 ?_;refine Yk rfl trivial (X5 (k:=1) (vs:=[vi o.a]) (zs:=[vi o.a]) rfl X08 X1o rfl rfl) (fun _ _ ⟨_,_,_,h,_⟩=>h) ?_;rintro _ w4 ⟨cA,rfl,aK,g,aB⟩;have aT:=Nat.le_trans t.size aK;have bD:=e.away aK;have t:=btr t g;refine Y1 7<|Yk rfl trivial (Vc (Xwy _ (some ⟨cA,0,none⟩) 1 ([o.a]) (Rd.of_blk aB rfl _ aB.lt) o.b w0.heap.size (Own.of_blkL X02 aB aT rfl rfl (Nat.le_of_ble_eq_true rfl)) t.size (by simp)) Xn9) (fun _ _ ⟨aI,aJ,_,Q,g⟩=>g) ?_;rintro _ w5 ⟨aI,aJ,rfl,Q,g⟩;have t:=btr t g;refine Y1 8<|Yk rfl trivial (X5 (k:=1) (vs:=[.slice aI (putI ([o.a]) o.b).length aJ]) (zs:=[.slice aI (putI ([o.a]) o.b).length aJ]) rfl X24 X41 rfl rfl) (fun _ _ ⟨_,_,_,h,_⟩=>h) ?_;rintro _ w6 ⟨cB,rfl,bE,g,aL⟩;have cC:=Nat.le_trans t.size bE;have Q:=Q.below g;have t:=btr t g;refine Yo 9 rfl (fun _=>X18 rfl) ?_;refine Yd fun a q=>?_;refine bC _ _<|wp_ret<|Xr<|X3 ?_;refine X2 q (Xv q rfl rfl) ?_;exact ⟨(some ⟨cB,0,none⟩),1,[(⟨aI,aJ,(putI ([o.a]) o.b)⟩ : Sl)],rfl,(Rd.of_blk aL rfl _ aL.lt),(Xid Q.rd.top),by rw [E];rfl,t⟩
 have B:=J
 have W:inR o.k 9 11=false:=by
  have H:=J
  unfold qubI at H
  rw [if_neg x] at H
  cases h8:inR o.k 9 11
  ·rfl
  ·rw [if_pos h8] at H;simp at H
 refine wp_skip<|Xt<|c4 _ _<|wp_seq_k fun _ bF=>?_;refine Zs q fun _ bG=>?_;refine Ze (Vd rfl X0v 1)<|Ze (X0 rfl X15 (D.at 1))<|Zm rfl<|Ze (X06 rfl rfl (by omega) (by omega)) ?_;have y:=(j.top).dropK Xb (c:=cc) N (p+1);refine Ze (Xeu (l:=c.gs) (k:=(p+1)) rfl rfl Xf X0p rfl (by omega))<|Ze (X0x rfl Xf)<|Zm rfl<|Zt bG fun a q=>?_;refine wp_block<|X0b (σ:=Nat) (fun (k:Nat) (a:Act) (w:World)=>Fr a 68 [(5,.slice A8 (qubI o).length c8),(33,.slice (if cc=(p+1) then Ac else Ac.map (·.add ((p+1)*3))) (c.gs.drop (p+1)).length (cc-(p+1))),(34,vi ((c.gs.drop (p+1)).length:Int)),(35,vi (k:Int))]∧(k≤(c.gs.drop (p+1)).length)∧(NoW c p k o.a)∧Blk w b3 28 [vi c.n,.slice Ac c.gs.length cc]∧Rd w w0.heap.size 115 encG Ac c.gs∧Own w w0.heap.size 3 1 encI A8 c8 (qubI o)∧Rd w w2.heap.size 115 encG (if cc=(p+1) then Ac else Ac.map (·.add ((p+1)*3))) (c.gs.drop (p+1))∧c.gs.length≤cc∧Below w0.heap.size w0 w) (fun (k:Nat)=>(c.gs.drop (p+1)).length-k) 0 ?_ ?_
 ·exact ⟨q.sb,(Nat.zero_le _),rfl,D,j,e,y,N,t⟩
 rintro k a w7 ⟨q,hk,aU,D,j,e,y,N,t⟩;refine Zs q fun _ bH=>?_;refine Ze (X10 rfl rfl)<|ZX bH fun a q _ bI=>?_
 refine Xk q rfl (fun G=>?_) (fun G=>?_)
 ·have C:=G;have G:=of_decide_eq_true G
  obtain ⟨i,aC⟩:=Xi (l:=(c.gs.drop (p+1))) (k:=k) (by omega)
  refine wp_skip<|bI _ _<|wp_seq_k fun _ bJ=>?_;refine wp_block<|Zs q fun _ bK=>?_;refine Zi (k:=k) (u:=i) (enc:=encG) (l:=(c.gs.drop (p+1))) trivial rfl rfl Xf X0p Xb y aC rfl ?_;intro cV aW;refine Ze (X07 (l:=[vi i.k,vi i.a,vi i.b]) rfl X0g aW rfl)<|Zf (X8 (zs:=[vi 0,vi 0,vi 0]) X2i rfl) ?_;rintro _ w8 ⟨cD,rfl,aD,g,m⟩;have aE:=Nat.le_trans t.size aD;have bL:=j.away aD;have aA:=y.away aD;have D:=D.below g;have j:=j.below g;have e:=e.below g;have y:=y.below g;have t:=btr t g;refine Zo (Vw [vi i.k,vi i.a,vi i.b] X0p m) ?_;rintro _ w9 ⟨ho,hb⟩;have aM:=m;have D:=D.only ho (Blk.ne D aM rfl);have j:=j.only ho aE;have e:=e.onlyT ho aM rfl;have y:=y.onlyA ho aA;have t:=Below.only t ho aE;have m:=hb;refine ZX bK fun a q _ bM=>?_;refine X0o (fun a w=>Fr a 68 [(5,.slice A8 (qubI o).length c8),(7,.pointer (some ⟨cD,0,none⟩)),(33,.slice (if cc=(p+1) then Ac else Ac.map (·.add ((p+1)*3))) (c.gs.drop (p+1)).length (cc-(p+1))),(34,vi ((c.gs.drop (p+1)).length:Int)),(35,vi (k:Int)),(56,.bool ((inR i.k 9 11)&&((i.a==o.a)||(i.b==o.a))))]∧Below w9.heap.size w9 w) ?_ ?_
  ·have M:Below w9.heap.size w9 w9:=Below.refl _ _
   refine X0h none (fun _=>false) mixed ?_;intro cW g;have m:=m.below g;have e:=e.below g;have t:=btr t g;have M:=btr M g;refine Yb q<|Ye 0 rfl (Vn X0g m)<|Y1 1 ?_;refine Yk rfl trivial (Vc (Xqv _ i) Xb2) (fun _ _ ⟨_,g⟩=>g) ?_;rintro _ w11 ⟨rfl,g⟩;have m:=m.below g;have e:=e.below g;have t:=btr t g;have M:=btr M g;refine Yo 2 rfl (fun _=>Xa rfl) ?_
   refine Yl 41 rfl (fun d=>?_) (fun d=>?_)
   ·refine Yu 3 rfl (gW d) (fun _=>Vd rfl X0f 1) ?_;refine Yv 4 rfl (gW d) (X0 rfl X7 (m.at 1)) ?_;refine Yu 5 rfl (gW d) (fun _=>Xa rfl) ?_;refine Yi (k:=0) (u:=o.a) (enc:=encI) (l:=(qubI o)) 6 rfl ⟨_,_,rfl,rfl,d⟩ rfl rfl X08 X1j X02 e.rd (by rw [X6c x W];rfl) rfl ?_;intro cX aX;refine Yv 7 rfl (gW d) (X0 rfl X7 aX) ?_;refine Yu 8 rfl (gW d) (fun _=>X13 rfl rfl) ?_;refine Yu 9 rfl (gW d) (fun _=>Xa rfl) ?_
    refine Yl 48 rfl (fun f=>?_) (fun f=>?_)
    ·refine Yp 10 rfl (gP f) ?_;refine Yp 11 rfl (gP f) ?_;refine Yp 12 rfl (gP f) ?_;refine Yp 13 rfl (gP f) ?_;refine Yp 14 rfl (gP f) ?_;refine Yp 15 rfl (gP f) ?_;refine Yu 16 rfl (gW d) (fun _=>Xn rfl f rfl) ?_;refine Yo 17 rfl (fun _=>Xn rfl d rfl) ?_;refine Yd fun a q=>?_
     have aF:Below w9.heap.size w9 w11:=M
     exact ⟨q.sub ⟨rfl,rfl,rfl,rfl,rfl,X1 rfl (by first|rfl|(simp only [z,B,C,d,f,bs];done)|simp [z,B,C,d,f]),trivial⟩,aF⟩
    refine Yu 10 rfl (gW f) (fun _=>Vd rfl X0s 2) ?_;refine Yv 11 rfl (gW f) (X0 rfl X7 (m.at 2)) ?_;refine Yu 12 rfl (gW f) (fun _=>Xa rfl) ?_;refine Yi (k:=0) (u:=o.a) (enc:=encI) (l:=(qubI o)) 13 rfl ⟨_,_,rfl,rfl,f⟩ rfl rfl X08 X1j X02 e.rd (by rw [X6c x W];rfl) rfl ?_;intro cY aY;refine Yv 14 rfl (gW f) (X0 rfl X7 aY) ?_;refine Yu 15 rfl (gW f) (fun _=>X13 rfl rfl) ?_;refine Yu 16 rfl (gW d) (fun _=>Xj rfl f rfl) ?_;refine Yo 17 rfl (fun _=>Xn rfl d rfl) ?_;refine Yd fun a q=>?_
    have aF:Below w9.heap.size w9 w11:=M
    exact ⟨q.sub ⟨rfl,rfl,rfl,rfl,rfl,X1 rfl (by first|rfl|(simp only [z,B,C,d,f,bs];done)|simp [z,B,C,d,f]),trivial⟩,aF⟩
   refine Yp 3 rfl (gP d) ?_;refine Yp 4 rfl (gP d) ?_;refine Yp 5 rfl (gP d) ?_;refine Yp 6 rfl (gP d) ?_;refine Yp 7 rfl (gP d) ?_;refine Yp 8 rfl (gP d) ?_;refine Yp 9 rfl (gP d) ?_;refine Yp 10 rfl (gP trivial) ?_;refine Yp 11 rfl (gP trivial) ?_;refine Yp 12 rfl (gP trivial) ?_;refine Yp 13 rfl (gP trivial) ?_;refine Yp 14 rfl (gP trivial) ?_;refine Yp 15 rfl (gP trivial) ?_;refine Yp 16 rfl (gP d) ?_;refine Yo 17 rfl (fun _=>Xj rfl d rfl) ?_;refine Yd fun a q=>?_
   have aF:Below w9.heap.size w9 w11:=M
   exact ⟨q.sub ⟨rfl,rfl,rfl,rfl,rfl,X1 rfl (by first|rfl|(simp only [z,B,C,d,bs];done)|simp [z,B,C,d]),trivial⟩,aF⟩
  rintro a d5 ⟨q,g⟩;have D:=D.below g;have m:=m.below g;have j:=j.below g;have e:=e.below g;have y:=y.below g;have t:=btr t g;refine bM _ _ ?_
  refine Xk q rfl (fun L=>?_) (fun L=>?_)
  ·have aZ:=L
   have bN:isW o.a i=true:=L
   have cE:inR i.k 9 11=true:=((Bool.and_eq_true _ _▸bN:inR i.k 9 11=true∧(i.a==o.a||i.b==o.a)=true)).1
   have cP:=Xs2 cE;have d6:=X36 i;have E:=Xcg U x W aU aC bN
   rw [← X6c x W] at E
   refine Zs q fun _ bO=>?_;refine Zm rfl<|Ze (Vd rfl X0f 1)<|Ze (X0 rfl X7 (m.at 1))<|Zf (X5 (k:=1) (vs:=[vi i.a]) (zs:=[vi i.a]) rfl X08 X1o rfl rfl) ?_;rintro _ d7 ⟨cF,rfl,aN,g,aG⟩;have b0:=Nat.le_trans t.size aN;have bP:=e.away aN;have m:=m.below g;have e:=e.below g;have t:=btr t g;refine Ze (Vd rfl X0s 2)<|Ze (X0 rfl X7 (m.at 2))<|Zf (Vc (Xwy _ (some ⟨cF,0,none⟩) 1 ([i.a]) (Rd.of_blk aG rfl _ aG.lt) i.b w0.heap.size (Own.of_blkL X02 aG b0 rfl rfl (Nat.le_of_ble_eq_true rfl)) t.size (by simp)) Xn9) ?_;rintro _ d8 ⟨b1,b2,rfl,aH,g⟩;have e:=e.below g;have t:=btr t g;refine Zf (X5 (k:=2) (vs:=[.slice A8 (qubI o).length c8,.slice b1 (putI ([i.a]) i.b).length b2]) (zs:=[.slice A8 (qubI o).length c8,.slice b1 (putI ([i.a]) i.b).length b2]) rfl X24 X41 rfl rfl) ?_;rintro _ d9 ⟨cG,rfl,bQ,g,aO⟩;have cH:=Nat.le_trans t.size bQ;have e:=e.below g;have aH:=aH.below g;have t:=btr t g;refine Za rfl<|Zt bO fun a q=>?_;refine wp_ret<|Xr<|X3<|X3 ?_;refine Xr<|X3<|X2 q (Xv q rfl rfl) ?_;exact ⟨(some ⟨cG,0,none⟩),2,[(⟨A8,c8,(qubI o)⟩ : Sl),(⟨b1,b2,(putI ([i.a]) i.b)⟩ : Sl)],rfl,(Rd.of_blk aO rfl _ aO.lt),(Xuu e.rd.top aH.rd.top),by rw [E];rfl,t⟩
  have aZ:=L
  have cJ:isW o.a i=false:=L
  refine wp_skip<|Xt<|bJ _ _<|Zr q ?_;refine Ze (X06 rfl rfl (by omega) (by omega))<|Zm rfl ?_;refine Zn fun a q=>?_;refine Xp ?_;exact ⟨k+1,⟨q.sb,(by omega),(Xeb aU aC cJ),D,j,e,y,N,t⟩,(by omega)⟩
 have C:=G;have G:=of_decide_eq_false G
 have E:lsX c p=[qubI o]:=by rw [Xh8 U x W aU (by omega),X6c x W]
 refine wp_exit<|Xl<|Xl<|X0a ?_;refine bF _ _<|Zs q fun _ bR=>?_;refine Zm rfl<|Zf (X5 (k:=1) (vs:=[.slice A8 (qubI o).length c8]) (zs:=[.slice A8 (qubI o).length c8]) rfl X24 X41 rfl rfl) ?_;rintro _ dA ⟨cK,rfl,bS,g,aP⟩;have cL:=Nat.le_trans t.size bS;have e:=e.below g;have t:=btr t g;refine Za rfl<|Zt bR fun a q=>?_
 refine wp_ret (X2 q (Xv q rfl rfl) ?_)
 exact ⟨(some ⟨cK,0,none⟩),1,[(⟨A8,c8,(qubI o)⟩ : Sl)],rfl,(Rd.of_blk aP rfl _ aP.lt),(Xid e.rd.top),by rw [E];rfl,t⟩
theorem Xws(E:World)(L:Nat)(M:ByteArray→Option Sq)(aH:Option Addr)(aI aJ:Nat)(e:MapS E L (sgF M))(b:DeepM E E.heap.size 115 M)(aW:sgL M=(tbW 1 5).1)(N:Nat)(Q:ByteArray→Option Sq)(aK:Option Addr)(aL aM:Nat)(f:MapS E N (sgF Q))(d:DeepM E E.heap.size 115 Q)(aX:sgL Q=(tbW 2 3).1)(c:Cx)(Ac:Option Addr)(cc:Nat)(g:Rd E E.heap.size 115 encG Ac c.gs)(D:c.gs.length≤cc)(aO:cOk c=true)(aY:PowT E) : Ret Tryz.prog 53 [.agg #[.map none,.slice none 0 0,.map (some L),.slice aH aI aJ,.map (some N),.slice aK aL aM],.agg #[vi c.n,.slice Ac c.gs.length cc]] E (fun v w=>∃ A9 e9 B9 f9,v=.tuple #[.agg #[vi ((stX c).getD rpZ).pos,.slice A9 ((stX c).getD rpZ).old.length e9,.slice B9 ((stX c).getD rpZ).new.length f9],.bool (stX c).isSome]∧Own w E.heap.size 115 3 encG A9 e9 ((stX c).getD rpZ).old∧Own w E.heap.size 115 3 encG B9 f9 ((stX c).getD rpZ).new∧Apart A9 B9∧Below E.heap.size E w):=by
 obtain ⟨c4,cA,cB⟩:=X12 aO;refine enter Tryz.func53 rfl 38 rfl rfl ?_;intro a y
 have z:=bz E
 refine Zs y fun _ bM=>?_;refine Zf (X0i (zs:=[.map none,.slice none 0 0,.map (some L),.slice aH aI aJ,.map (some N),.slice aK aL aM]) rfl rfl) ?_;rintro _ w1 ⟨b3,rfl,bN,i,q⟩;have bX:=Nat.le_trans z.size bN;have e:=e.below i;have f:=f.below i;have g:=g.below i;have b:=b.below i;have d:=d.below i;have z:=btr z i;refine Zf (X0i (zs:=[vi c.n,.slice Ac c.gs.length cc]) rfl rfl) ?_;rintro _ w2 ⟨b4,rfl,bO,i,t⟩;have bY:=Nat.le_trans z.size bO;have e:=e.below i;have f:=f.below i;have q:=q.below i;have g:=g.below i;have b:=b.below i;have d:=d.below i;have z:=btr z i;refine Zf (X8 (zs:=[vi 0,.slice none 0 0,.slice none 0 0]) X2l rfl) ?_;rintro _ w3 ⟨b7,rfl,bP,i,p⟩;have aP:=Nat.le_trans z.size bP;have e:=e.below i;have f:=f.below i;have q:=q.below i;have t:=t.below i;have g:=g.below i;have b:=b.below i;have d:=d.below i;have z:=btr z i;refine Za rfl<|ZX bM fun a y _ bQ=>?_;refine Zs y fun _ bR=>?_;refine Ze (Vd rfl X0v 1)<|Ze (X0 rfl X15 (t.at 1))<|Ze (X0x rfl Xf)<|Zm rfl<|Zt bR fun a y=>?_;refine wp_block<|X0b (σ:=Nat) (fun (k:Nat) (a:Act) (w:World)=>Fr a 38 [(2,.pointer (some ⟨b3,0,none⟩)),(3,.pointer (some ⟨b4,0,none⟩)),(4,.pointer (some ⟨b7,0,none⟩)),(13,vi (c.gs.length:Int)),(14,vi (k:Int))]∧(k≤c.gs.length)∧(NoS c k)∧MapS w L (sgF M)∧MapS w N (sgF Q)∧Blk w b3 85 [.map none,.slice none 0 0,.map (some L),.slice aH aI aJ,.map (some N),.slice aK aL aM]∧Blk w b4 28 [vi c.n,.slice Ac c.gs.length cc]∧Blk w b7 46 [vi 0,.slice none 0 0,.slice none 0 0]∧Rd w E.heap.size 115 encG Ac c.gs∧c.gs.length≤cc∧DeepM w (E.heap.size) 115 M∧DeepM w (E.heap.size) 115 Q∧Below E.heap.size E w) (fun (k:Nat)=>c.gs.length-k) 0 ?_ ?_
 ·exact ⟨y.sb,(Nat.zero_le _),rfl,e,f,q,t,p,g,D,b,d,z⟩
 rintro k a w4 ⟨y,hk,hS,e,f,q,t,p,g,D,b,d,z⟩;refine Zs y fun _ aZ=>?_;refine Ze (X10 rfl rfl)<|ZX aZ fun a y _ b0=>?_
 refine Xk y rfl (fun G=>?_) (fun G=>?_)
 ·have aQ:=G;have G:=of_decide_eq_true G
  obtain ⟨cC,bZ⟩:=Xi (l:=c.gs) (k:=k) (by omega)
  refine wp_skip<|b0 _ _<|wp_seq_k fun _ b1=>?_;refine wp_block<|Zs y fun _ b2=>?_;refine Zm rfl<|Za rfl<|Zx b2 fun a y _ b5=>?_;refine Ze (Vn X1l t)<|Zm rfl<|Zf (Vc (Xwf _ c Ac cc g.top D k aO (by omega)) Xoy) ?_;rintro _ w5 ⟨b6,bS,lsq,rfl,h,x,U,i⟩;have e:=e.below i;have f:=f.below i;have q:=q.below i;have t:=t.below i;have p:=p.below i;have g:=g.below i;have b:=b.below i;have d:=d.below i;have z:=btr z i;refine Ze (X0x rfl X24)<|Zm rfl<|Zt b5 fun a y=>?_;refine wp_block<|X0b (σ:=Nat) (fun (j:Nat) (a:Act) (w:World)=>Fr a 38 [(2,.pointer (some ⟨b3,0,none⟩)),(3,.pointer (some ⟨b4,0,none⟩)),(4,.pointer (some ⟨b7,0,none⟩)),(6,vi (k:Int)),(13,vi (c.gs.length:Int)),(14,vi (k:Int)),(19,.slice b6 lsq.length bS),(20,vi (lsq.length:Int)),(21,vi (j:Int))]∧(j≤lsq.length)∧(NoL c k j)∧MapS w L (sgF M)∧MapS w N (sgF Q)∧Blk w b3 85 [.map none,.slice none 0 0,.map (some L),.slice aH aI aJ,.map (some N),.slice aK aL aM]∧Blk w b4 28 [vi c.n,.slice Ac c.gs.length cc]∧Blk w b7 46 [vi 0,.slice none 0 0,.slice none 0 0]∧Rd w E.heap.size 115 encG Ac c.gs∧Rd w w5.heap.size 43 encS b6 lsq∧c.gs.length≤cc∧DeepM w (E.heap.size) 115 M∧DeepM w (E.heap.size) 115 Q∧(∀ s9 ∈ lsq,Rd w w5.heap.size 3 encI s9.A s9.l)∧Below E.heap.size E w) (fun (j:Nat)=>lsq.length-j) 0 ?_ ?_
  ·exact ⟨y.sb,(Nat.zero_le _),(Xek c k),e,f,q,t,p,g,h,D,b,d,x,z⟩
  rintro j a w6 ⟨y,hj,hL,e,f,q,t,p,g,h,D,b,d,x,z⟩;refine Zs y fun _ b8=>?_;refine Ze (X10 rfl rfl)<|ZX b8 fun a y _ b9=>?_
  refine Xk y rfl (fun H=>?_) (fun H=>?_)
  ·have aR:=H;have H:=of_decide_eq_true H
   obtain ⟨m,W⟩:=Xi (l:=lsq) (k:=j) (by omega)
   have cD:m.l.length≤2:=Xau c k _ (List.mem_of_getElem? (Xan U W))
   have cE:lsq.length≤2:=by have h9:=Xh4 c k;rw [← U,List.length_map] at h9;exact h9
   refine wp_skip<|b9 _ _<|wp_seq_k fun _ bC=>?_;refine wp_block<|Zs y fun _ bD=>?_;refine Zi (k:=j) (u:=m) (enc:=encS) (l:=lsq) trivial rfl rfl X24 Xdo X35 h W rfl ?_;intro cF aS;have bE:=x m (List.mem_of_getElem? W);refine Ze (X0 rfl X4d aS)<|Za rfl<|Zx bD fun a y _ bF=>?_;refine Ze (Vn Xh6 q)<|Ze (Vn X1l t)<|Zm rfl<|Zm rfl<|Zf (Vc (Xy7 _ L M aH aI aJ e b.top aW N Q aK aL aM f d.top aX c Ac cc g.top D (k:Int) m.A m.c m.l bE.top (by omega) (by omega) (aY.of z)) Xqn) ?_;rintro _ w7 ⟨aC,aD,aE,aF,rfl,B,C,aG,i⟩;have B:=B.lower z.size;have C:=C.lower z.size;have e:=e.below i;have f:=f.below i;have q:=q.below i;have t:=t.below i;have p:=p.below i;have g:=g.below i;have h:=h.below i;have b:=b.below i;have d:=d.below i
   have x:=fun s9 aA=>(x s9 aA).below i
   have z:=btr z i;refine Zm rfl<|Ze (X4 (vs:=[.agg #[vi (((shrI c (k:Int) m.l).getD rpZ).pos),.slice aC (((shrI c (k:Int) m.l).getD rpZ).old).length aD,.slice aE (((shrI c (k:Int) m.l).getD rpZ).new).length aF],.bool ((shrI c (k:Int) m.l).isSome)]) rfl rfl)<|Ze (X4 (vs:=[.agg #[vi (((shrI c (k:Int) m.l).getD rpZ).pos),.slice aC (((shrI c (k:Int) m.l).getD rpZ).old).length aD,.slice aE (((shrI c (k:Int) m.l).getD rpZ).new).length aF],.bool ((shrI c (k:Int) m.l).isSome)]) rfl rfl)<|Zf (X8 (zs:=[vi 0,.slice none 0 0,.slice none 0 0]) X2l rfl) ?_;rintro _ w8 ⟨b32,rfl,bG,i,aB⟩
   have bH:b7≠b32:=by have:=p.lt;omega
   have aT:=Nat.le_trans z.size bG;have e:=e.below i;have f:=f.below i;have q:=q.below i;have t:=t.below i;have p:=p.below i;have g:=g.below i;have h:=h.below i;have B:=B.below i;have C:=C.below i;have b:=b.below i;have d:=d.below i
   have x:=fun s9 aA=>(x s9 aA).below i
   have z:=btr z i;refine Zo (Vw [vi (((shrI c (k:Int) m.l).getD rpZ).pos),.slice aC (((shrI c (k:Int) m.l).getD rpZ).old).length aD,.slice aE (((shrI c (k:Int) m.l).getD rpZ).new).length aF] X14 aB) ?_;rintro _ w9 ⟨I,hb⟩;have o:=aB;have e:=e.only I (e.ne o);have f:=f.only I (f.ne o);have q:=q.only I (Blk.ne q o rfl);have t:=t.only I (Blk.ne t o rfl);have p:=p.only I (by omega);have g:=g.onlyT I o rfl;have h:=h.onlyT I o rfl;have B:=B.onlyT I o rfl;have C:=C.onlyT I o rfl;have b:=b.onlyT I o rfl;have d:=d.onlyT I o rfl
   have x:=fun s9 aA=>(x s9 aA).onlyT I o rfl
   have z:=Below.only z I aT;have aB:=hb;refine Za rfl<|Zx bF fun a y _ bI=>?_;refine Zm rfl<|Zt bI fun a y=>?_
   refine Xk y rfl (fun J=>?_) (fun J=>?_)
   ·have aU:=J
    have aN:=Xe0 hS (by omega) hL (Xan U W) J
    have bJ:(shrI c (k:Int) m.l).isSome=true:=J
    refine Zs y fun _ bK=>?_;refine Ze (Vn X1a aB)<|Zo (Vw [vi (((shrI c (k:Int) m.l).getD rpZ).pos),.slice aC (((shrI c (k:Int) m.l).getD rpZ).old).length aD,.slice aE (((shrI c (k:Int) m.l).getD rpZ).new).length aF] X14 p) ?_;rintro _ cG ⟨I,hb⟩;have o:=p;have B:=B.onlyT I o rfl;have C:=C.onlyT I o rfl
    have x:=fun s9 aA=>(x s9 aA).onlyT I o rfl
    have z:=Below.only z I aP;have p:=hb;refine Za rfl<|Zt bK fun a y=>?_;refine wp_ret<|Xr<|X3<|X3 ?_;refine Xr<|Xr<|X3<|X3 ?_;refine Xr<|X3<|X2 y (X0w y rfl (ResV.cellN (l:=[vi (((shrI c (k:Int) m.l).getD rpZ).pos),.slice aC (((shrI c (k:Int) m.l).getD rpZ).old).length aD,.slice aE (((shrI c (k:Int) m.l).getD rpZ).new).length aF]) rfl X1a (p.at 0) rfl) rfl) ?_
    rw [aN,bJ]
    exact ⟨aC,aD,aE,aF,rfl,B,C,aG,z⟩
   have aU:=J
   have bU:(shrI c (k:Int) m.l).isSome=false:=J
   refine wp_skip<|Xt<|bC _ _<|Zr y ?_;refine Ze (X06 rfl rfl (by omega) (by omega))<|Zm rfl ?_;refine Zn fun a y=>?_;refine Xp ?_;exact ⟨j+1,⟨y.sb,(by omega),(Xds hL (Xan U W) bU),e,f,q,t,p,g,h,D,b,d,x,z⟩,(by omega)⟩
  have aR:=H;have H:=of_decide_eq_false H
  have bW:=Xhf hL (by rw [← U,List.length_map];omega)
  refine wp_exit<|Xl<|Xl<|X0a ?_;refine Xt<|b1 _ _<|Zr y<|Ze (X06 rfl rfl (by omega) (by omega))<|Zm rfl ?_;refine Zn fun a y=>?_;refine Xp ?_;exact ⟨k+1,⟨y.sb,(by omega),(Xd2 hS bW),e,f,q,t,p,g,D,b,d,z⟩,(by omega)⟩
 have aQ:=G;have G:=of_decide_eq_false G
 have aN:=Xh5 hS (by omega)
 refine wp_exit<|Xl<|Xl<|X0a ?_;refine bQ _ _<|Zs y fun _ bL=>?_;refine Ze (Xg (ps:=[]) (cs:=[vi 0,.slice none 0 0,.slice none 0 0]) rfl (fun _=>by first|rfl|kernel_rfl))<|Zo (Vw [vi 0,.slice none 0 0,.slice none 0 0] X14 p) ?_;rintro _ cH ⟨I,hb⟩;have o:=p;have z:=Below.only z I aP;have p:=hb;refine Za rfl<|Zt bL fun a y=>?_
 refine wp_ret (X2 y (X0w y rfl (ResV.cellN (l:=[vi 0,.slice none 0 0,.slice none 0 0]) rfl X1a (p.at 0) rfl) rfl) ?_)
 rw [aN]
 exact ⟨none,0,none,0,rfl,(Own.nil _ _ _ _ _),(Own.nil _ _ _ _ _),(Apart.none_l _),z⟩
theorem Xxt(H:World)(c:Cx)(Ac:Option Addr)(cc:Nat)(b:Rd H H.heap.size 115 encG Ac c.gs)(y:c.gs.length≤cc)(I:cOk c=true) : Ret Tryz.prog 51 [.agg #[vi c.n,.slice Ac c.gs.length cc]] H (fun v w=>∃ A9 e9 B9 f9,v=.tuple #[.agg #[vi ((stX c).getD rpZ).pos,.slice A9 ((stX c).getD rpZ).old.length e9,.slice B9 ((stX c).getD rpZ).new.length f9],.bool (stX c).isSome]∧Own w H.heap.size 115 3 encG A9 e9 ((stX c).getD rpZ).old∧Own w H.heap.size 115 3 encG B9 f9 ((stX c).getD rpZ).new∧Apart A9 B9∧Below H.heap.size H w):=by
 obtain ⟨bD,bE,bF⟩:=X12 I;refine enter Tryz.func51 rfl 35 rfl rfl ?_;intro a i
 have p:=bz H
 refine Zs i fun _ aY=>?_;refine Zf (X0i (zs:=[vi c.n,.slice Ac c.gs.length cc]) rfl rfl) ?_;rintro _ w1 ⟨b3,rfl,aZ,x,f⟩;have b9:=Nat.le_trans p.size aZ;have b:=b.below x;have p:=btr p x;refine Zf (X8 (zs:=[vi 0,.slice none 0 0,.slice none 0 0]) X2l rfl) ?_;rintro _ w2 ⟨b6,rfl,b0,x,e⟩;have aA:=Nat.le_trans p.size b0;have f:=f.below x;have b:=b.below x;have p:=btr p x;refine Za rfl<|ZX aY fun a i _ b1=>?_;refine Zs i fun _ b2=>?_;refine Ze (Vd rfl X0v 1)<|Ze (X0 rfl X15 (f.at 1))<|Ze (X0x rfl Xf)<|Zm rfl<|Zt b2 fun a i=>?_;refine wp_block<|X0b (σ:=Nat) (fun (k:Nat) (a:Act) (w:World)=>Fr a 35 [(1,.pointer (some ⟨b3,0,none⟩)),(2,.pointer (some ⟨b6,0,none⟩)),(11,vi (c.gs.length:Int)),(12,vi (k:Int))]∧(k≤c.gs.length)∧(NoS c k)∧Blk w b3 28 [vi c.n,.slice Ac c.gs.length cc]∧Blk w b6 46 [vi 0,.slice none 0 0,.slice none 0 0]∧Rd w H.heap.size 115 encG Ac c.gs∧c.gs.length≤cc∧Below H.heap.size H w) (fun (k:Nat)=>c.gs.length-k) 0 ?_ ?_
 ·exact ⟨i.sb,(Nat.zero_le _),rfl,f,e,b,y,p⟩
 rintro k a w3 ⟨i,hk,hS,f,e,b,y,p⟩;refine Zs i fun _ b4=>?_;refine Ze (X10 rfl rfl)<|ZX b4 fun a i _ aG=>?_
 refine Xk i rfl (fun z=>?_) (fun z=>?_)
 ·have aB:=z;have z:=of_decide_eq_true z
  obtain ⟨bG,bC⟩:=Xi (l:=c.gs) (k:=k) (by omega)
  refine wp_skip<|aG _ _<|wp_seq_k fun _ aH=>?_;refine wp_block<|Zs i fun _ aI=>?_;refine Zm rfl<|Za rfl<|Zx aI fun a i _ aJ=>?_;refine Ze (Vn X1l f)<|Zm rfl<|Zf (Vc (Xwg _ c Ac cc b.top y k I (by omega)) Xrg) ?_;rintro _ w4 ⟨aK,b5,lsq,rfl,o,g,C,x⟩;have f:=f.below x;have e:=e.below x;have b:=b.below x;have p:=btr p x;refine Ze (X0x rfl X24)<|Zm rfl<|Zt aJ fun a i=>?_;refine wp_block<|X0b (σ:=Nat) (fun (j:Nat) (a:Act) (w:World)=>Fr a 35 [(1,.pointer (some ⟨b3,0,none⟩)),(2,.pointer (some ⟨b6,0,none⟩)),(4,vi (k:Int)),(11,vi (c.gs.length:Int)),(12,vi (k:Int)),(17,.slice aK lsq.length b5),(18,vi (lsq.length:Int)),(19,vi (j:Int))]∧(j≤lsq.length)∧(NoL c k j)∧Blk w b3 28 [vi c.n,.slice Ac c.gs.length cc]∧Blk w b6 46 [vi 0,.slice none 0 0,.slice none 0 0]∧Rd w H.heap.size 115 encG Ac c.gs∧Rd w w4.heap.size 43 encS aK lsq∧c.gs.length≤cc∧(∀ s9 ∈ lsq,Rd w w4.heap.size 3 encI s9.A s9.l)∧Below H.heap.size H w) (fun (j:Nat)=>lsq.length-j) 0 ?_ ?_
  ·exact ⟨i.sb,(Nat.zero_le _),(Xek c k),f,e,b,o,y,g,p⟩
  rintro j a w5 ⟨i,hj,hL,f,e,b,o,y,g,p⟩;refine Zs i fun _ aL=>?_;refine Ze (X10 rfl rfl)<|ZX aL fun a i _ aM=>?_
  refine Xk i rfl (fun h=>?_) (fun h=>?_)
  ·have aC:=h;have h:=of_decide_eq_true h
   obtain ⟨d,D⟩:=Xi (l:=lsq) (k:=j) (by omega)
   have bH:d.l.length≤2:=Xau c k _ (List.mem_of_getElem? (Xan C D))
   have bI:lsq.length≤2:=by have h9:=Xh4 c k;rw [← C,List.length_map] at h9;exact h9
   refine wp_skip<|aM _ _<|wp_seq_k fun _ aN=>?_;refine wp_block<|Zs i fun _ aO=>?_;refine Zi (k:=j) (u:=d) (enc:=encS) (l:=lsq) trivial rfl rfl X24 Xdo X35 o D rfl ?_;intro bJ aD;have aP:=g d (List.mem_of_getElem? D);refine Ze (X0 rfl X4d aD)<|Za rfl<|Zx aO fun a i _ aQ=>?_;refine Ze (Vn X1l f)<|Zm rfl<|Zm rfl<|Zf (X1x (vs:=[.agg #[vi c.n,.slice Ac c.gs.length cc],vi (k:Int),.slice d.A d.l.length d.c]) rfl Xox (by have hq:=Xy3 w5 c Ac cc b.top y (k:Int) d.A d.c d.l aP.top I (by omega);rw [← Xvo I] at hq;exact hq)) ?_;rintro _ w6 ⟨L,M,N,Q,rfl,q,t,U,x⟩;have q:=q.lower p.size;have t:=t.lower p.size;have f:=f.below x;have e:=e.below x;have b:=b.below x;have o:=o.below x
   have g:=fun s9 E=>(g s9 E).below x
   have p:=btr p x;refine Zm rfl<|Ze (X4 (vs:=[.agg #[vi (((shrI c (k:Int) d.l).getD rpZ).pos),.slice L (((shrI c (k:Int) d.l).getD rpZ).old).length M,.slice N (((shrI c (k:Int) d.l).getD rpZ).new).length Q],.bool ((shrI c (k:Int) d.l).isSome)]) rfl rfl)<|Ze (X4 (vs:=[.agg #[vi (((shrI c (k:Int) d.l).getD rpZ).pos),.slice L (((shrI c (k:Int) d.l).getD rpZ).old).length M,.slice N (((shrI c (k:Int) d.l).getD rpZ).new).length Q],.bool ((shrI c (k:Int) d.l).isSome)]) rfl rfl)<|Zf (X8 (zs:=[vi 0,.slice none 0 0,.slice none 0 0]) X2l rfl) ?_;rintro _ w7 ⟨b31,rfl,aR,x,J⟩
   have aS:b6≠b31:=by have:=e.lt;omega
   have aE:=Nat.le_trans p.size aR;have f:=f.below x;have e:=e.below x;have b:=b.below x;have o:=o.below x;have q:=q.below x;have t:=t.below x
   have g:=fun s9 E=>(g s9 E).below x
   have p:=btr p x;refine Zo (Vw [vi (((shrI c (k:Int) d.l).getD rpZ).pos),.slice L (((shrI c (k:Int) d.l).getD rpZ).old).length M,.slice N (((shrI c (k:Int) d.l).getD rpZ).new).length Q] X14 J) ?_;rintro _ w8 ⟨G,hb⟩;have m:=J;have f:=f.only G (Blk.ne f m rfl);have e:=e.only G (by omega);have b:=b.onlyT G m rfl;have o:=o.onlyT G m rfl;have q:=q.onlyT G m rfl;have t:=t.onlyT G m rfl
   have g:=fun s9 E=>(g s9 E).onlyT G m rfl
   have p:=Below.only p G aE;have J:=hb;refine Za rfl<|Zx aQ fun a i _ aT=>?_;refine Zm rfl<|Zt aT fun a i=>?_
   refine Xk i rfl (fun B=>?_) (fun B=>?_)
   ·have aF:=B
    have W:=Xe0 hS (by omega) hL (Xan C D) B
    have aU:(shrI c (k:Int) d.l).isSome=true:=B
    refine Zs i fun _ aW=>?_;refine Ze (Vn X1a J)<|Zo (Vw [vi (((shrI c (k:Int) d.l).getD rpZ).pos),.slice L (((shrI c (k:Int) d.l).getD rpZ).old).length M,.slice N (((shrI c (k:Int) d.l).getD rpZ).new).length Q] X14 e) ?_;rintro _ w9 ⟨G,hb⟩;have m:=e;have q:=q.onlyT G m rfl;have t:=t.onlyT G m rfl
    have g:=fun s9 E=>(g s9 E).onlyT G m rfl
    have p:=Below.only p G aA;have e:=hb;refine Za rfl<|Zt aW fun a i=>?_;refine wp_ret<|Xr<|X3<|X3 ?_;refine Xr<|Xr<|X3<|X3 ?_;refine Xr<|X3<|X2 i (X0w i rfl (ResV.cellN (l:=[vi (((shrI c (k:Int) d.l).getD rpZ).pos),.slice L (((shrI c (k:Int) d.l).getD rpZ).old).length M,.slice N (((shrI c (k:Int) d.l).getD rpZ).new).length Q]) rfl X1a (e.at 0) rfl) rfl) ?_
    rw [W,aU]
    exact ⟨L,M,N,Q,rfl,q,t,U,p⟩
   have aF:=B
   have b7:(shrI c (k:Int) d.l).isSome=false:=B
   refine wp_skip<|Xt<|aN _ _<|Zr i ?_;refine Ze (X06 rfl rfl (by omega) (by omega))<|Zm rfl ?_;refine Zn fun a i=>?_;refine Xp ?_;exact ⟨j+1,⟨i.sb,(by omega),(Xds hL (Xan C D) b7),f,e,b,o,y,g,p⟩,(by omega)⟩
  have aC:=h;have h:=of_decide_eq_false h
  have b8:=Xhf hL (by rw [← C,List.length_map];omega)
  refine wp_exit<|Xl<|Xl<|X0a ?_;refine Xt<|aH _ _<|Zr i<|Ze (X06 rfl rfl (by omega) (by omega))<|Zm rfl ?_;refine Zn fun a i=>?_;refine Xp ?_;exact ⟨k+1,⟨i.sb,(by omega),(Xd2 hS b8),f,e,b,y,p⟩,(by omega)⟩
 have aB:=z;have z:=of_decide_eq_false z
 have W:=Xh5 hS (by omega)
 refine wp_exit<|Xl<|Xl<|X0a ?_;refine b1 _ _<|Zs i fun _ aX=>?_;refine Ze (Xg (ps:=[]) (cs:=[vi 0,.slice none 0 0,.slice none 0 0]) rfl (fun _=>by first|rfl|kernel_rfl))<|Zo (Vw [vi 0,.slice none 0 0,.slice none 0 0] X14 e) ?_;rintro _ bK ⟨G,hb⟩;have m:=e;have p:=Below.only p G aA;have e:=hb;refine Za rfl<|Zt aX fun a i=>?_
 refine wp_ret (X2 i (X0w i rfl (ResV.cellN (l:=[vi 0,.slice none 0 0,.slice none 0 0]) rfl X1a (e.at 0) rfl) rfl) ?_)
 rw [W]
 exact ⟨none,0,none,0,rfl,(Own.nil _ _ _ _ _),(Own.nil _ _ _ _ _),(Apart.none_l _),p⟩
theorem Xs5(B:World)(c:Cx)(Ac:Option Addr)(cc:Nat)(b:Rd B B.heap.size 115 encG Ac c.gs)(aA:c.gs.length≤cc)(aK:c.gs.length≤1000000000)(C:PowT B) : Ret Tryz.prog 27 [.agg #[vi c.n,.slice Ac c.gs.length cc]] B (fun v w=>∃ A9 e9 B9 f9,v=.tuple #[.agg #[vi ((stI c).getD rpZ).pos,.slice A9 ((stI c).getD rpZ).old.length e9,.slice B9 ((stI c).getD rpZ).new.length f9],.bool (stI c).isSome]∧Own w B.heap.size 115 3 encG A9 e9 ((stI c).getD rpZ).old∧Own w B.heap.size 115 3 encG B9 f9 ((stI c).getD rpZ).new∧Apart A9 B9∧Below B.heap.size B w):=by
 refine enter Tryz.func27 rfl 13 rfl rfl ?_;intro a o
 have f:=bz B
 refine Zs o fun _ aL=>?_;refine Zf (X0i (zs:=[vi c.n,.slice Ac c.gs.length cc]) rfl rfl) ?_;rintro _ w1 ⟨b3,rfl,aM,e,m⟩;have aQ:=Nat.le_trans f.size aM;have b:=b.below e;have f:=btr f e;refine Zf (X8 (zs:=[vi 0,.slice none 0 0,.slice none 0 0]) X2l rfl) ?_;rintro _ w2 ⟨b6,rfl,aN,e,d⟩;have D:=Nat.le_trans f.size aN;have m:=m.below e;have b:=b.below e;have f:=btr f e;refine Za rfl<|ZX aL fun a o _ aO=>?_;refine Zs o fun _ aP=>?_;refine Ze (Vn X1l m)<|Zf (Vc (F55 _ c Ac cc b.top (Nat.le_trans aK (by decide))) Xl5) ?_;rintro _ w3 ⟨rfl,e⟩;have m:=m.below e;have d:=d.below e;have b:=b.below e;have f:=btr f e;refine Ze (X0z rfl)<|Zt aP fun a o=>?_
 refine Xk o rfl (fun x=>?_) (fun x=>?_)
 ·have aB:=x;have y:=Xna (bn1 x);refine Zs o fun _ aC=>?_;refine Ze (Xg (ps:=[]) (cs:=[vi 0,.slice none 0 0,.slice none 0 0]) rfl (fun _=>by first|rfl|kernel_rfl))<|Zo (Vw [vi 0,.slice none 0 0,.slice none 0 0] X14 d) ?_;rintro _ w4 ⟨ho,hb⟩;have z:=d;have f:=Below.only f ho D;have d:=hb;refine Za rfl<|Zt aC fun a o=>?_;refine wp_ret<|X3<|X2 o (X0w o rfl (ResV.cellN (l:=[vi 0,.slice none 0 0,.slice none 0 0]) rfl X1a (d.at 0) rfl) rfl) ?_
  rw [y]
  exact ⟨none,0,none,0,rfl,(Own.nil _ _ _ _ _),(Own.nil _ _ _ _ _),(Apart.none_l _),f⟩
 have aB:=x
 have E:cOk c=true:=bn2 x
 have y:=Xgh E;refine wp_skip<|aO _ _<|wp_seq_k fun _ aD=>?_;refine X0h none (fun j=>[5].contains j) mixed ?_;intro w5 e;have m:=m.below e;have d:=d.below e;have b:=b.below e;have f:=btr f e;refine Yb o<|Ye 1 rfl (Vn X1l m)<|Y1 0 ?_;refine Yk rfl trivial (Vc (Xwx _ (C.of f)) Xq4) (fun _ _ ⟨aE,G,aF,aG,H,aH,I,aI,aJ,J,_,L,h,M,N,A,Q,e⟩=>e) ?_;rintro _ w6 ⟨aE,G,aF,aG,H,aH,I,aI,aJ,J,rfl,L,h,M,N,A,Q,e⟩;have d:=d.below e;have b:=b.below e;have f:=btr f e;refine Y1 2<|Yk rfl trivial (Vc (Xws _ aE G aF H.length aG L h.top M aH I aI J.length aJ N A.top Q c Ac cc b.top aA E (C.of f)) Xrl) (fun _ _ ⟨p,q,t,u,_,g,i,k,e⟩=>e) ?_;rintro _ w7 ⟨p,q,t,u,rfl,g,i,k,e⟩;have g:=g.lower f.size;have i:=i.lower f.size;have d:=d.below e;have f:=btr f e;refine Yo 3 rfl (fun _=>X4 (vs:=[.agg #[vi (((stX c).getD rpZ).pos),.slice p (((stX c).getD rpZ).old).length q,.slice t (((stX c).getD rpZ).new).length u],.bool ((stX c).isSome)]) rfl rfl)<|Yo 4 rfl (fun _=>X4 (vs:=[.agg #[vi (((stX c).getD rpZ).pos),.slice p (((stX c).getD rpZ).old).length q,.slice t (((stX c).getD rpZ).new).length u],.bool ((stX c).isSome)]) rfl rfl)<|Y1 5 ?_;refine Yh rfl trivial rfl (Vw [vi (((stX c).getD rpZ).pos),.slice p (((stX c).getD rpZ).old).length q,.slice t (((stX c).getD rpZ).new).length u] X14 d) ?_;rintro _ w8 ⟨ho,hb⟩;have z:=d;have g:=g.onlyT ho z rfl;have i:=i.onlyT ho z rfl;have f:=Below.only f ho D;have d:=hb;refine Yo 6 rfl (fun _=>X18 rfl) ?_
 refine Yd fun a o=>?_;refine aD _ _ ?_
 refine wp_ret (X2 o (X0w o rfl (ResV.cellN (l:=[vi (((stX c).getD rpZ).pos),.slice p (((stX c).getD rpZ).old).length q,.slice t (((stX c).getD rpZ).new).length u]) rfl X1a (d.at 0) rfl) rfl) ?_)
 rw [y]
 exact ⟨p,q,t,u,rfl,g,i,k,f⟩
theorem Xwp(y:World)(c:Cx)(Ac:Option Addr)(cc:Nat)(z:Rd y y.heap.size 115 encG Ac c.gs)(aA:c.gs.length≤cc)(aK:c.gs.length≤1000000000) : Ret Tryz.prog 26 [.agg #[vi c.n,.slice Ac c.gs.length cc]] y (fun v w=>∃ A9 e9 B9 f9,v=.tuple #[.agg #[vi ((stI c).getD rpZ).pos,.slice A9 ((stI c).getD rpZ).old.length e9,.slice B9 ((stI c).getD rpZ).new.length f9],.bool (stI c).isSome]∧Own w y.heap.size 115 3 encG A9 e9 ((stI c).getD rpZ).old∧Own w y.heap.size 115 3 encG B9 f9 ((stI c).getD rpZ).new∧Apart A9 B9∧Below y.heap.size y w):=by
 refine enter Tryz.func26 rfl 12 rfl rfl ?_;intro a g
 have d:=bz y
 refine Zs g fun _ aE=>?_;refine Zf (X0i (zs:=[vi c.n,.slice Ac c.gs.length cc]) rfl rfl) ?_;rintro _ w1 ⟨b3,rfl,aF,k,i⟩;have aJ:=Nat.le_trans d.size aF;have d:=btr d k;refine Zf (X8 (zs:=[vi 0,.slice none 0 0,.slice none 0 0]) X2l rfl) ?_;rintro _ w2 ⟨b6,rfl,aG,k,b⟩;have h:=Nat.le_trans d.size aG;have i:=i.below k;have d:=btr d k;refine Za rfl<|ZX aE fun a g _ aH=>?_;refine Zs g fun _ aI=>?_;refine Ze (Vn X1l i)<|Zf (Vc (F53 _ c Ac cc (z.below' d).top) Xy0) ?_;rintro _ w3 ⟨rfl,k⟩;have i:=i.below k;have b:=b.below k;have d:=btr d k;refine Ze (X0z rfl)<|Zt aI fun a g=>?_
 refine Xk g rfl (fun m=>?_) (fun m=>?_)
 ·have aB:=m;have o:=Xna (bn1 m);refine Zs g fun _ aC=>?_;refine Ze (Xg (ps:=[]) (cs:=[vi 0,.slice none 0 0,.slice none 0 0]) rfl (fun _=>by first|rfl|kernel_rfl))<|Zo (Vw [vi 0,.slice none 0 0,.slice none 0 0] X14 b) ?_;rintro _ w4 ⟨ho,hb⟩;have p:=b;have d:=Below.only d ho h;have b:=hb;refine Za rfl<|Zt aC fun a g=>?_;refine wp_ret<|X3<|X2 g (X0w g rfl (ResV.cellN (l:=[vi 0,.slice none 0 0,.slice none 0 0]) rfl X1a (b.at 0) rfl) rfl) ?_
  rw [o]
  exact ⟨none,0,none,0,rfl,(Own.nil _ _ _ _ _),(Own.nil _ _ _ _ _),(Apart.none_l _),d⟩
 have aB:=m
 have A:cOk c=true:=bn2 m
 have o:=Xgh A;refine wp_skip<|aH _ _<|Zs g fun _ aD=>?_;refine Ze (Vn X1l i)<|Zf (Vc (Xxt _ c Ac cc (z.below' d).top aA A) Xqu) ?_;rintro _ w5 ⟨q,t,u,x,rfl,e,f,j,k⟩;have e:=e.lower d.size;have f:=f.lower d.size;have b:=b.below k;have d:=btr d k;refine Ze (X4 (vs:=[.agg #[vi (((stX c).getD rpZ).pos),.slice q (((stX c).getD rpZ).old).length t,.slice u (((stX c).getD rpZ).new).length x],.bool ((stX c).isSome)]) rfl rfl)<|Ze (X4 (vs:=[.agg #[vi (((stX c).getD rpZ).pos),.slice q (((stX c).getD rpZ).old).length t,.slice u (((stX c).getD rpZ).new).length x],.bool ((stX c).isSome)]) rfl rfl)<|Zo (Vw [vi (((stX c).getD rpZ).pos),.slice q (((stX c).getD rpZ).old).length t,.slice u (((stX c).getD rpZ).new).length x] X14 b) ?_;rintro _ w6 ⟨ho,hb⟩;have p:=b;have e:=e.onlyT ho p rfl;have f:=f.onlyT ho p rfl;have d:=Below.only d ho h;have b:=hb;refine Za rfl<|Zt aD fun a g=>?_
 refine wp_ret (X2 g (X0w g rfl (ResV.cellN (l:=[vi (((stX c).getD rpZ).pos),.slice q (((stX c).getD rpZ).old).length t,.slice u (((stX c).getD rpZ).new).length x]) rfl X1a (b.at 0) rfl) rfl) ?_)
 rw [o]
 exact ⟨q,t,u,x,rfl,e,f,j,d⟩
theorem Xxw(w0:World){Xc:TypeId}(c:Cx)(Ac:Option Addr)(cc:Nat)(E:Rd w0 w0.heap.size Xc encG Ac c.gs)(e8:c.gs.length≤9223372036854775807)(bF:PowT w0) : Ret Tryz.prog 5 [.agg #[vi c.n,.slice Ac c.gs.length cc]] w0 (fun v w=>v=.bool true∧Below w0.heap.size w0 w):=by
 have U:=Xpm c;refine enter Tryz.func5 rfl 96 rfl rfl ?_;intro a p
 have m:=bz w0
 refine Zs p fun _ eA=>?_;refine Zf (X0i (zs:=[vi c.n,.slice Ac c.gs.length cc]) rfl rfl) ?_;rintro _ w1 ⟨b3,rfl,cR,e,l⟩;have eL:=Nat.le_trans m.size cR;have dY:=(E.below' m).away cR;have m:=btr m e;refine Za rfl<|Zx eA fun a p _ eB=>?_;refine Za rfl<|Zx eB fun a p _ eC=>?_;refine Ze (Vn Xdz l)<|Zm rfl<|Zf (Vc (F14 _ c Ac cc (E.below' m).top 1048576 (by omega) e8) Xwo) ?_;rintro _ w2 ⟨rfl,e⟩;have l:=l.below e;have m:=btr m e;refine Za rfl<|ZX eC fun a p _ eD=>?_;refine Zs p fun _ eE=>?_;refine Zm rfl<|Ze (X10 rfl rfl)<|Zt eE fun a p=>?_
 refine Xk p rfl (fun aD=>?_) (fun aD=>?_)
 ·have y:=aD;have aD:=of_decide_eq_true aD;refine Zs p fun _ eF=>?_;refine Za rfl<|Zt eF fun a p=>?_;refine wp_ret<|X3<|X2 p (Xv p rfl rfl) ?_;exact ⟨rfl,m⟩
 have y:=aD;have aD:=of_decide_eq_false aD
 have aC:c.gs.length≤1048576:=by have:=Xsd aD;omega
 refine wp_skip<|eD _ _<|Zs p fun _ cS=>?_;refine Ze (Vn Xdz l)<|Zf (Vc (F16 _ c Ac cc (E.below' m).top aC) Xi2) ?_;rintro _ w3 ⟨eG,eH,rfl,aA,e⟩;have aA:=aA.lower m.size;have l:=l.below e;have m:=btr m e;refine Zf (Vc (Xwp _ c eG eH aA.rd.top aA.cap (Nat.le_trans aC (by decide))) Xos) ?_;rintro _ w4 ⟨aQ,aR,aS,aT,rfl,b,d,bP,e⟩;have bQ:=aA.apart b (Nat.le_refl _);have b:=b.lower m.size;have bR:=aA.apart d (Nat.le_refl _);have d:=d.lower m.size;have l:=l.below e;have m:=btr m e;refine Zm rfl<|Ze (X4 (vs:=[.agg #[vi (((stI c).getD rpZ).pos),.slice aQ (((stI c).getD rpZ).old).length aR,.slice aS (((stI c).getD rpZ).new).length aT],.bool ((stI c).isSome)]) rfl rfl)<|Ze (X4 (vs:=[.agg #[vi (((stI c).getD rpZ).pos),.slice aQ (((stI c).getD rpZ).old).length aR,.slice aS (((stI c).getD rpZ).new).length aT],.bool ((stI c).isSome)]) rfl rfl)<|Zf (X8 (zs:=[vi 0,.slice none 0 0,.slice none 0 0]) X2l rfl) ?_;rintro _ w5 ⟨b6,rfl,bG,e,f⟩;have bL:=Nat.le_trans m.size bG;have cT:=(E.below' m).away bG;have l:=l.below e;have b:=b.below e;have d:=d.below e;have m:=btr m e;refine Zo (Vw [vi (((stI c).getD rpZ).pos),.slice aQ (((stI c).getD rpZ).old).length aR,.slice aS (((stI c).getD rpZ).new).length aT] X14 f) ?_;rintro _ w6 ⟨H,hb⟩;have o:=f;have l:=l.only H (Blk.ne l o rfl);have b:=b.onlyT H o rfl;have d:=d.onlyT H o rfl;have m:=Below.only m H bL;have f:=hb;refine Za rfl<|Zx cS fun a p _ cU=>?_;refine Ze (Vn Xdz l)<|Zf (Vc (F16 _ c Ac cc (E.below' m).top aC) Xi2) ?_;rintro _ w7 ⟨b7,b8,rfl,k,e⟩;have aU:=b.apart k (Nat.le_refl _)
 have aW:=d.apart k (Nat.le_refl _);have k:=k.lower m.size;have l:=l.below e;have f:=f.below e;have b:=b.below e;have d:=d.below e;have m:=btr m e;refine Zf (X8 (zs:=[vi 0,.slice none 0 0]) Xjp rfl) ?_;rintro _ w8 ⟨eI,rfl,bH,e,q⟩;have bM:=Nat.le_trans m.size bH;have cV:=(E.below' m).away bH;have l:=l.below e;have f:=f.below e;have b:=b.below e;have d:=d.below e;have k:=k.below e;have m:=btr m e;refine Zo (Vw [vi c.n,.slice b7 c.gs.length b8] Xcm q) ?_;rintro _ w9 ⟨H,hb⟩;have o:=q;have l:=l.only H (Blk.ne l o rfl);have f:=f.only H (Blk.ne f o rfl);have b:=b.onlyT H o rfl;have d:=d.onlyT H o rfl;have k:=k.onlyT H o rfl;have m:=Below.only m H bM;have q:=hb;refine Zx cU fun a p _ cW=>?_;refine Ze (Vn X1l q)<|Zf (Vc (Xs5 _ c b7 b8 k.rd.top k.cap (Nat.le_trans aC (by decide)) (bF.of m)) Xi8) ?_;rintro _ eM ⟨aE,aF,aG,aH,rfl,g,i,aB,e⟩;have aX:=b.apart g (Nat.le_refl _);have aY:=d.apart g (Nat.le_refl _);have aZ:=k.apart g (Nat.le_refl _);have g:=g.lower m.size;have b0:=b.apart i (Nat.le_refl _);have b1:=d.apart i (Nat.le_refl _);have b2:=k.apart i (Nat.le_refl _);have i:=i.lower m.size;have l:=l.below e;have f:=f.below e;have q:=q.below e;have b:=b.below e;have d:=d.below e;have k:=k.below e;have m:=btr m e;refine Zm rfl<|Ze (X4 (vs:=[.agg #[vi (((stI c).getD rpZ).pos),.slice aE (((stI c).getD rpZ).old).length aF,.slice aG (((stI c).getD rpZ).new).length aH],.bool ((stI c).isSome)]) rfl rfl)<|Ze (X4 (vs:=[.agg #[vi (((stI c).getD rpZ).pos),.slice aE (((stI c).getD rpZ).old).length aF,.slice aG (((stI c).getD rpZ).new).length aH],.bool ((stI c).isSome)]) rfl rfl)<|Zf (X8 (zs:=[vi 0,.slice none 0 0,.slice none 0 0]) X2l rfl) ?_;rintro _ eN ⟨b26,rfl,bI,e,j⟩
 have bS:b6≠b26:=by have:=f.lt;omega
 have bN:=Nat.le_trans m.size bI;have cX:=(E.below' m).away bI;have l:=l.below e;have f:=f.below e;have q:=q.below e;have b:=b.below e;have d:=d.below e;have k:=k.below e;have g:=g.below e;have i:=i.below e;have m:=btr m e;refine Zo (Vw [vi (((stI c).getD rpZ).pos),.slice aE (((stI c).getD rpZ).old).length aF,.slice aG (((stI c).getD rpZ).new).length aH] X14 j) ?_;rintro _ w12 ⟨H,hb⟩;have o:=j;have l:=l.only H (Blk.ne l o rfl);have f:=f.only H (by omega);have q:=q.only H (Blk.ne q o rfl);have b:=b.onlyT H o rfl;have d:=d.onlyT H o rfl;have k:=k.onlyT H o rfl;have g:=g.onlyT H o rfl;have i:=i.onlyT H o rfl;have m:=Below.only m H bN;have j:=hb;refine Za rfl<|ZX cW fun a p _ cY=>?_;refine wp_seq_k fun _ d5=>?_;refine X0o (fun a w=>Fr a 96 [(1,.pointer (some ⟨b3,0,none⟩)),(4,.pointer (some ⟨b6,0,none⟩)),(5,.bool ((stI c).isSome)),(6,.pointer (some ⟨eI,0,none⟩)),(7,.pointer (some ⟨b26,0,none⟩)),(8,.bool ((stI c).isSome)),(40,.bool ((!(decide (((stI c).getD rpZ).pos=((stI c).getD rpZ).pos)&&decide (((stI c).getD rpZ).old=((stI c).getD rpZ).old)&&decide (((stI c).getD rpZ).new=((stI c).getD rpZ).new)))||(((stI c).isSome) != ((stI c).isSome))))]∧Below w12.heap.size w12 w) ?_ ?_
 ·have I:Below w12.heap.size w12 w12:=Below.refl _ _
  refine Zr p<|Ze (Vn X1a j)<|Ze (Vn X1a f)<|Zf (Vc (F13 _ ((stI c).getD rpZ) aE aF g.rd.top aG aH i.rd.top ((stI c).getD rpZ) aQ aR b.rd.top aS aT d.rd.top (Nat.le_trans U.1 (by decide)) (Nat.le_trans U.2 (by decide))) Xmr) ?_;rintro _ w13 ⟨rfl,e⟩;have m:=btr m e;have I:=btr I e;refine Ze (X0z rfl)<|Zm rfl ?_
  refine Zg 36 rfl (fun z=>?_) (fun z=>?_)
  ·refine Zp (gP z) ?_;refine Zp (gP z) ?_;refine Zp (gP z) ?_;refine Ze (Xn rfl z rfl) ?_;refine Zn fun a p=>?_
   have L:Below w12.heap.size w12 w13:=I
   exact ⟨p.sub ⟨rfl,rfl,rfl,rfl,rfl,rfl,X1 rfl (by first|rfl|(simp only [y,z,Bool.true_and,Bool.false_and,Bool.true_or,Bool.false_or];done)|(simp [y,z];done)|(exfalso;revert z;simp)),trivial⟩,L⟩
  refine Zv (gW z) (Xa rfl) ?_;refine Zv (gW z) (Xa rfl) ?_;refine Zv (gW z) (Xmh Tryz.underlying4 rfl rfl) ?_;refine Ze (Xj rfl z rfl) ?_;refine Zn fun a p=>?_
  have L:Below w12.heap.size w12 w13:=I
  exact ⟨p.sub ⟨rfl,rfl,rfl,rfl,rfl,rfl,X1 rfl (by first|rfl|(simp only [y,z,Bool.true_and,Bool.false_and,Bool.true_or,Bool.false_or];done)|(simp [y,z];done)|(exfalso;revert z;simp)),trivial⟩,L⟩
 rintro a eO ⟨p,e⟩;have l:=l.below e;have f:=f.below e;have q:=q.below e;have j:=j.below e;have b:=b.below e;have d:=d.below e;have k:=k.below e;have g:=g.below e;have i:=i.below e;have m:=btr m e;refine d5 _ _ ?_
 refine Xk p rfl (fun aL=>?_) (fun aL=>?_)
 ·have x:=aL
  simp at aL
 have x:=aL;refine wp_skip<|cY _ _<|wp_seq_k fun _ d6=>?_;refine wp_seq_k fun _ d7=>?_;refine X0h none (fun _=>false) mixed ?_;intro eP e;have l:=l.below e;have f:=f.below e;have q:=q.below e;have j:=j.below e;have b:=b.below e;have d:=d.below e;have k:=k.below e;have g:=g.below e;have i:=i.below e;have m:=btr m e;refine Yb p<|Ye 0 rfl (Vn X1l q)<|Ye 1 rfl (Vn Xdz l)<|Y1 2 ?_;refine Yk rfl trivial (Vc (F16 _ c Ac cc (E.below' m).top aC) Xi2) (fun _ _ ⟨d8,d9,_,J,e⟩=>e) ?_;rintro _ eQ ⟨d8,d9,rfl,J,e⟩;have bU:=b.apart J (Nat.le_refl _);have bW:=d.apart J (Nat.le_refl _);have bX:=k.apart J (Nat.le_refl _);have bY:=g.apart J (Nat.le_refl _);have bZ:=i.apart J (Nat.le_refl _);have J:=J.lower m.size;have l:=l.below e;have f:=f.below e;have q:=q.below e;have j:=j.below e;have b:=b.below e;have d:=d.below e;have k:=k.below e;have g:=g.below e;have i:=i.below e;have m:=btr m e;refine Y1 3<|Yk rfl trivial (Vc (F19 _ c b7 b8 k.rd.top c d8 d9 J.rd.top (Nat.le_trans aC (by decide))) Xx2) (fun _ _ ⟨_,e⟩=>e) ?_;rintro _ eR ⟨rfl,e⟩;have l:=l.below e;have f:=f.below e;have q:=q.below e;have j:=j.below e;have b:=b.below e;have d:=d.below e;have k:=k.below e;have g:=g.below e;have i:=i.below e;have m:=btr m e;refine Yo 4 rfl (fun _=>X0z rfl) ?_;refine Yd fun a p=>?_;refine d7 _ _ ?_
 refine Xk p rfl (fun aM=>?_) (fun aM=>?_)
 ·have h:=aM
  simp [eqC] at aM
 have h:=aM;refine wp_skip<|d6 _ _<|Zs p fun _ dA=>?_;refine Za rfl<|Zx dA fun a p _ dB=>?_;refine Ze (Vn X1l q)<|Zm rfl<|Zf (Vc (F23 _ w0.heap.size b7 b8 c.gs k c.n 1 (by decide) (Nat.le_trans aC (by decide))) Xwb) ?_;rintro _ w18 ⟨rfl,bJ,hg⟩;have u:=k;have l:=l.appT u hg rfl;have f:=f.appT u hg rfl;have j:=j.appT u hg rfl;have b:=b.appP hg aU;have d:=d.appP hg aW;have g:=g.appP hg aZ.symm;have i:=i.appP hg b2.symm;have m:=Below.app m u hg (Nat.le_refl _) m.size
 clear u hg;clear k;have k:=bJ;clear bJ;refine Za rfl<|ZX dB fun a p _ dC=>?_;refine wp_seq_k fun _ dD=>?_;refine X0o (fun a w=>Fr a 96 [(1,.pointer (some ⟨b3,0,none⟩)),(4,.pointer (some ⟨b6,0,none⟩)),(5,.bool ((stI c).isSome)),(7,.pointer (some ⟨b26,0,none⟩)),(61,.bool (((decide ((1+3*(c.gs.length:Int))<0))||(!(decide (((stI c).getD rpZ).pos=((stI c).getD rpZ).pos)&&decide (((stI c).getD rpZ).old=((stI c).getD rpZ).old)&&decide (((stI c).getD rpZ).new=((stI c).getD rpZ).new))))||(((stI c).isSome) != ((stI c).isSome))))]∧Below w18.heap.size w18 w) ?_ ?_
 ·have I:Below w18.heap.size w18 w18:=Below.refl _ _
  refine Zr p<|Zm rfl<|Ze (X10 rfl rfl)<|Zm rfl ?_
  refine Zg 51 rfl (fun t=>?_) (fun t=>?_)
  ·refine Zp (gP t) ?_;refine Zp (gP t) ?_;refine Zp (gP t) ?_;refine Zp (gP t) ?_;refine Ze (Xn rfl t rfl)<|Zm rfl<|Zp (gP rfl) ?_;refine Zp (gP rfl) ?_;refine Zp (gP rfl) ?_;refine Ze (Xn rfl rfl rfl) ?_;refine Zn fun a p=>?_
   have L:Below w18.heap.size w18 w18:=I
   exact ⟨p.sub ⟨rfl,rfl,rfl,rfl,X1 rfl (by first|rfl|(simp only [y,x,h,t,Bool.true_and,Bool.false_and,Bool.true_or,Bool.false_or];done)|(simp [y,x,h,t];done)|(exfalso;revert t;simp)),trivial⟩,L⟩
  refine Zv (gW t) (Vn X1a j) ?_;refine Zv (gW t) (Vn X1a f) ?_;refine Zk (gW t) (Vc (F13 _ ((stI c).getD rpZ) aE aF g.rd.top aG aH i.rd.top ((stI c).getD rpZ) aQ aR b.rd.top aS aT d.rd.top (Nat.le_trans U.1 (by decide)) (Nat.le_trans U.2 (by decide))) Xmr) ?_;rintro _ w19 ⟨rfl,e⟩;have m:=btr m e;have I:=btr I e;refine Zv (gW t) (X0z rfl) ?_;refine Ze (Xj rfl t rfl)<|Zm rfl ?_
  refine Zg 57 rfl (fun A=>?_) (fun A=>?_)
  ·refine Zp (gP A) ?_;refine Zp (gP A) ?_;refine Zp (gP A) ?_;refine Ze (Xn rfl A rfl) ?_;refine Zn fun a p=>?_
   have L:Below w18.heap.size w18 w19:=I
   exact ⟨p.sub ⟨rfl,rfl,rfl,rfl,X1 rfl (by first|rfl|(simp only [y,x,h,t,A,Bool.true_and,Bool.false_and,Bool.true_or,Bool.false_or];done)|(simp [y,x,h,t,A];done)|(exfalso;revert A;simp)),trivial⟩,L⟩
  refine Zv (gW A) (Xa rfl) ?_;refine Zv (gW A) (Xa rfl) ?_;refine Zv (gW A) (Xmh Tryz.underlying4 rfl rfl) ?_;refine Ze (Xj rfl A rfl) ?_;refine Zn fun a p=>?_
  have L:Below w18.heap.size w18 w19:=I
  exact ⟨p.sub ⟨rfl,rfl,rfl,rfl,X1 rfl (by first|rfl|(simp only [y,x,h,t,A,Bool.true_and,Bool.false_and,Bool.true_or,Bool.false_or];done)|(simp [y,x,h,t,A];done)|(exfalso;revert A;simp)),trivial⟩,L⟩
 rintro a eS ⟨p,e⟩;have l:=l.below e;have f:=f.below e;have j:=j.below e;have b:=b.below e;have d:=d.below e;have g:=g.below e;have i:=i.below e;have m:=btr m e;refine dD _ _ ?_
 refine Xk p rfl (fun aN=>?_) (fun aN=>?_)
 ·have W:=aN
  have h9:¬ (1+3*(c.gs.length:Int)<0):=by omega
  simp [h9] at aN
 have W:=aN;refine wp_skip<|dC _ _<|Zs p fun _ dE=>?_;refine Za rfl<|Zx dE fun a p _ dF=>?_;refine Ze (Vn X1a j)<|Zm rfl<|Zf (Vc (Xxj _ w0.heap.size aE aF (((stI c).getD rpZ).old) g aG aH (((stI c).getD rpZ).new) i aB (((stI c).getD rpZ).pos) 1 (by decide) (Nat.le_trans U.1 (by decide)) (Nat.le_trans U.2 (by decide))) Xol) ?_;rintro _ eT ⟨rfl,b4,b5,eU,aI,aK⟩;have u:=g;have aO:=i;have aO:=aO.appP aI aB.symm;have l:=l.appT u aI rfl;have f:=f.appT u aI rfl;have j:=j.appT u aI rfl;have b:=b.appP aI aX;have d:=d.appP aI aY;have m:=Below.app m u aI (Nat.le_refl _) m.size
 clear u;have u:=aO;have l:=l.appT u aK rfl;have f:=f.appT u aK rfl;have j:=j.appT u aK rfl;have b:=b.appP aK b0;have d:=d.appP aK b1;have m:=Below.app m u aK (Nat.le_refl _) m.size
 clear u aO aI aK g i;have g:=b4;have i:=b5;clear b4 b5;refine Za rfl<|Zx dF fun a p _ dG=>?_;refine Za rfl<|Zx dG fun a p _ dH=>?_;refine Ze (Vn X1a j)<|Zm rfl<|Zf (Vc (Xrz _ aE aF (((stI c).getD rpZ).old).length (markG 1 (((stI c).getD rpZ).old).length) (X2d _ _).symm g.rd.top aG aH (((stI c).getD rpZ).new).length (markG (1+3*((((stI c).getD rpZ).old).length:Int)) (((stI c).getD rpZ).new).length) (X2d _ _).symm i.rd.top (((stI c).getD rpZ).pos) 1 (by decide) (by rw [X2d];exact (Nat.le_trans U.1 (by decide))) (by rw [X2d];exact (Nat.le_trans U.2 (by decide)))) Xgq) ?_;rintro _ eW ⟨rfl,e⟩;have l:=l.below e;have f:=f.below e;have j:=j.below e;have b:=b.below e;have d:=d.below e;have g:=g.below e;have i:=i.below e;have m:=btr m e;refine Za rfl<|ZX dH fun a p _ dI=>?_;refine Zs p fun _ dJ=>?_;refine Zm rfl<|Ze (X10 rfl rfl)<|Zt dJ fun a p=>?_
 refine Xk p rfl (fun Q=>?_) (fun Q=>?_)
 ·have M:=Q;have Q:=of_decide_eq_true Q
  rw [Xe5 _ (by decide)] at Q;omega
 have M:=Q;have Q:=of_decide_eq_false Q;refine wp_skip<|dI _ _<|wp_seq_k fun _ dK=>?_;refine Zs p fun _ dL=>?_;refine Zm rfl<|Zm rfl<|Ze (X2h rfl rfl)<|Zt dL fun a p=>?_
 refine Xk p rfl (fun aJ=>?_) (fun aJ=>?_)
 ·have N:=aJ
  rw [Xe5 _ (by decide)] at aJ;simp at aJ
 have N:=aJ;refine wp_skip<|dK _ _<|Zs p fun _ dM=>?_;refine Ze (Vn Xdz l)<|Zf (Vc (F16 _ c Ac cc (E.below' m).top aC) Xi2) ?_;rintro _ eX ⟨eJ,eK,rfl,G,e⟩;have c4:=b.apart G (Nat.le_refl _);have cA:=d.apart G (Nat.le_refl _);have cB:=g.apart G (Nat.le_refl _);have cC:=i.apart G (Nat.le_refl _);have G:=G.lower m.size;have f:=f.below e;have j:=j.below e;have b:=b.below e;have d:=d.below e;have g:=g.below e;have i:=i.below e;have m:=btr m e;refine Zf (Vc (Xs5 _ c eJ eK G.rd.top G.cap (Nat.le_trans aC (by decide)) (bF.of m)) Xi8) ?_;rintro _ eY ⟨b9,bC,bD,bE,rfl,C,D,cD,e⟩;have cE:=b.apart C (Nat.le_refl _);have cF:=d.apart C (Nat.le_refl _);have cG:=g.apart C (Nat.le_refl _);have cH:=i.apart C (Nat.le_refl _);have cJ:=G.apart C (Nat.le_refl _);have C:=C.lower m.size;have cK:=b.apart D (Nat.le_refl _);have cL:=d.apart D (Nat.le_refl _);have cM:=g.apart D (Nat.le_refl _);have cN:=i.apart D (Nat.le_refl _);have cO:=G.apart D (Nat.le_refl _);have D:=D.lower m.size;have f:=f.below e;have j:=j.below e;have b:=b.below e;have d:=d.below e;have g:=g.below e;have i:=i.below e;have m:=btr m e;refine Zm rfl<|Ze (X4 (vs:=[.agg #[vi (((stI c).getD rpZ).pos),.slice b9 (((stI c).getD rpZ).old).length bC,.slice bD (((stI c).getD rpZ).new).length bE],.bool ((stI c).isSome)]) rfl rfl)<|Ze (X4 (vs:=[.agg #[vi (((stI c).getD rpZ).pos),.slice b9 (((stI c).getD rpZ).old).length bC,.slice bD (((stI c).getD rpZ).new).length bE],.bool ((stI c).isSome)]) rfl rfl)<|Zf (X8 (zs:=[vi 0,.slice none 0 0,.slice none 0 0]) X2l rfl) ?_;rintro _ f0 ⟨b58,rfl,bK,e,aP⟩
 have cP:b6≠b58:=by have:=f.lt;omega
 have cQ:b26≠b58:=by have:=j.lt;omega
 have bO:=Nat.le_trans m.size bK;have dN:=(E.below' m).away bK;have f:=f.below e;have j:=j.below e;have b:=b.below e;have d:=d.below e;have g:=g.below e;have i:=i.below e;have C:=C.below e;have D:=D.below e;have m:=btr m e;refine Zo (Vw [vi (((stI c).getD rpZ).pos),.slice b9 (((stI c).getD rpZ).old).length bC,.slice bD (((stI c).getD rpZ).new).length bE] X14 aP) ?_;rintro _ w26 ⟨H,hb⟩;have o:=aP;have f:=f.only H (by omega);have j:=j.only H (by omega);have b:=b.onlyT H o rfl;have d:=d.onlyT H o rfl;have g:=g.onlyT H o rfl;have i:=i.onlyT H o rfl;have C:=C.onlyT H o rfl;have D:=D.onlyT H o rfl;have m:=Below.only m H bO;have aP:=hb;refine Za rfl<|ZX dM fun a p _ dO=>?_;refine wp_seq_k fun _ dP=>?_;refine X0o (fun a w=>Fr a 96 [(7,.pointer (some ⟨b26,0,none⟩)),(10,vi (1+3*((((stI c).getD rpZ).old).length:Int)+3*((((stI c).getD rpZ).new).length:Int))),(87,.bool ((!(decide (((stI c).getD rpZ).pos=((stI c).getD rpZ).pos)&&decide (((stI c).getD rpZ).old=((stI c).getD rpZ).old)&&decide (((stI c).getD rpZ).new=((stI c).getD rpZ).new)))||(((stI c).isSome) != ((stI c).isSome))))]∧Below w26.heap.size w26 w) ?_ ?_
 ·have I:Below w26.heap.size w26 w26:=Below.refl _ _
  refine Zr p<|Ze (Vn X1a aP)<|Ze (Vn X1a f)<|Zf (Vc (F13 _ ((stI c).getD rpZ) b9 bC C.rd.top bD bE D.rd.top ((stI c).getD rpZ) aQ aR b.rd.top aS aT d.rd.top (Nat.le_trans U.1 (by decide)) (Nat.le_trans U.2 (by decide))) Xmr) ?_;rintro _ w27 ⟨rfl,e⟩;have m:=btr m e;have I:=btr I e;refine Ze (X0z rfl)<|Zm rfl ?_
  refine Zg 83 rfl (fun B=>?_) (fun B=>?_)
  ·refine Zp (gP B) ?_;refine Zp (gP B) ?_;refine Zp (gP B) ?_;refine Ze (Xn rfl B rfl) ?_;refine Zn fun a p=>?_
   have L:Below w26.heap.size w26 w27:=I
   exact ⟨p.sub ⟨rfl,rfl,X1 rfl (by first|rfl|(simp only [y,x,h,W,M,N,B,Bool.true_and,Bool.false_and,Bool.true_or,Bool.false_or];done)|(simp [y,x,h,W,M,N,B];done)|(exfalso;revert B;simp)),trivial⟩,L⟩
  refine Zv (gW B) (Xa rfl) ?_;refine Zv (gW B) (Xa rfl) ?_;refine Zv (gW B) (Xmh Tryz.underlying4 rfl rfl) ?_;refine Ze (Xj rfl B rfl) ?_;refine Zn fun a p=>?_
  have L:Below w26.heap.size w26 w27:=I
  exact ⟨p.sub ⟨rfl,rfl,X1 rfl (by first|rfl|(simp only [y,x,h,W,M,N,B,Bool.true_and,Bool.false_and,Bool.true_or,Bool.false_or];done)|(simp [y,x,h,W,M,N,B];done)|(exfalso;revert B;simp)),trivial⟩,L⟩
 rintro a f6 ⟨p,e⟩;have j:=j.below e;have g:=g.below e;have i:=i.below e;have m:=btr m e;refine dP _ _<|X64 p (X1 rfl x) ?_;refine wp_skip<|dO _ _<|Zs p fun _ dQ=>?_;refine Za rfl<|Zx dQ fun a p _ dR=>?_;refine Ze (Vn X1a j)<|Zm rfl<|Zf (Vc (Xrz _ aE aF (((stI c).getD rpZ).old).length (markG 1 (((stI c).getD rpZ).old).length) (X2d _ _).symm g.rd.top aG aH (((stI c).getD rpZ).new).length (markG (1+3*((((stI c).getD rpZ).old).length:Int)) (((stI c).getD rpZ).new).length) (X2d _ _).symm i.rd.top (((stI c).getD rpZ).pos) 1 (by decide) (by rw [X2d];exact (Nat.le_trans U.1 (by decide))) (by rw [X2d];exact (Nat.le_trans U.2 (by decide)))) Xgq) ?_;rintro _ f7 ⟨rfl,e⟩;have m:=btr m e;refine Za rfl<|ZX dR fun a p _ dS=>?_;refine Zs p fun _ dT=>?_;refine Zm rfl<|Ze (X10 rfl rfl)<|Zt dT fun a p=>?_;refine X64 p (X1 rfl M) ?_;refine wp_skip<|dS _ _<|wp_seq_k fun _ dU=>?_;refine Zs p fun _ dW=>?_;refine Zm rfl<|Zm rfl<|Ze (X2h rfl rfl)<|Zt dW fun a p=>?_;refine X64 p (X1 rfl N) ?_;refine wp_skip<|dU _ _<|Zs p fun _ dX=>?_;refine Za rfl<|Zt dX fun a p=>?_
 refine wp_ret (X2 p (Xv p rfl rfl) ?_)
 exact ⟨rfl,m⟩
end Go.Proofs.YtblmmikapnflcaaGreatDoor
namespace Go.Proofs.YtblmmikapnflcaaGreatDoor
open Go.ChangeShapes Go.WideShapes Go.ChangeAt Go.RowKit Go.Deep Go.Joins
set_option linter.unusedVariables false
set_option maxRecDepth 100000 in
theorem Xcq(os:Os)(started:os.Started)(H:Type)(enc:TypeId×Value→H) :
  ReturnsInHanded {} Tryz.checked os 5 .any (fun w args=>(Rows.fnExactPeepholeStepSpec.pre enc Tryz.prog Tryz.f5 [] false w args∧laidMetH Tryz.prog Rows.fnExactPeepholeStepRow.laid w)∧sizedMet enc Tryz.prog Tryz.f5 (OpenSpec.ofChange Rows.fnExactPeepholeStepSpec) false w args)
   (Rows.fnExactPeepholeStepSpec.post enc Tryz.prog Tryz.f5 false true false false):=by
 refine returnsInHanded_of_change_and (C:=Tryz.checked) (X:=fun w _=>laidMetH Tryz.prog Rows.fnExactPeepholeStepRow.laid w) (fun _ _ _ hh h=>h.of_heap hh) own started (by kernel_rfl) Tryz.func5
  (ChangeSpec.witness_shaped (enc:=enc) (C:=Tryz.checked) (os:=os) (X:=fun w _=>laidMetH Tryz.prog Rows.fnExactPeepholeStepRow.laid w) false (World.laidAll Tryz.prog os Rows.fnExactPeepholeStepRow.laid) #[.agg #[.int .i64 0,.slice none 0 0]] 8 (World.laidAll_os _ _ _)
   (World.shaped_of_ZipB (by kernel_rfl) (by kernel_rfl)) (by kernel_rfl) (by kernel_rfl) (by kernel_rfl)
   (by rw [MakeChecks.laidMetH_plain _ _ _ (by kernel_rfl)];exact laidMet_laidAll _ (by kernel_rfl) (by kernel_rfl))) ?_
 intro W base args ds gs before hval0 hW _ _ hL _
 have hval:∀ (j:Nat) t v,Tryz.f5.params[j]? = some t→args[j]? = some v→Value.okWide Tryz.prog W .any base t v:=hval0
 have hW':=hW
 obtain ⟨p,q,hA0,hV,rfl,hfz,hnd⟩:=hW
 have hA:DataW.TrodAll enc Tryz.prog W 0 (fun _=>true) true Tryz.f5.params.toList args.toList ds p:=hA0
 rw [Tryz.params5] at hA hval
 obtain ⟨v0,d0,rfl,rfl,h0⟩:=trodAll_one hA;obtain ⟨rfl,rfl⟩:=trodVars_none hV;have h0k:=h0
 obtain ⟨c,A,i,E,rfl,hr0,hl0⟩:=Xj3 (hval 0 42 v0 rfl rfl) h0 (fun _=>rfl)
 clear hA0 hval0
 simp only [List.append_nil] at hW'
 have hlt:∀ x ∈ p,x.block<W.heap.size:=fun x hx=>hW'.lt x (by simpa using hx)
 have hPow:=Xsv hL;refine Calls.mono (Xxw W c A i hr0 hl0 hPow) fun r W' ⟨v,he,hv,hb⟩=>?_
 subst hv
 refine ⟨_,he,Xfn (pa:=p) (pv:=[]) hW' (fun _ _ _=>trodAll_mk1 (shut_bool Tryz.underlying4 true)) (fun sp hsp=>?_) (fun _ _=>rfl) (by simp) hb⟩
 exact trodAll_mk1 (WideElems.Trod_stays Xq6 (by kernel_rfl) (of_decide_eq_true (by kernel_rfl)) h0k (fun x hx=>hb.same (hlt x hx)) (fun x hx=>hsp x hx))
theorem Xlf:Rows.FnExactPeepholeStepSaid:=
 OpenClaim.holds_of_wide 5 Tryz.f5 rfl rfl rfl rfl rfl rfl rfl ⟨rfl,rfl,rfl,rfl,rfl⟩ rfl rfl rfl rfl rfl (by kernel_rfl) Tryz.func5 (by kernel_rfl)
  (of_decide_eq_true (by kernel_rfl)) (by unfold Func.isWrapper;first|(rw [if_pos (by decide +kernel)];kernel_rfl)|(rw [if_neg (by decide +kernel)];exact ⟨rfl,rfl⟩))
  (fun os started H enc _=>Xcq os started H enc)
theorem Xr9 : Tryz.prog.funcNamed "loop.example/g00864/laws.FnExactPeepholeStep" = some 5 := by kernel_rfl
theorem Xf9:Tryz.prog.wantsStandIn 42=false:=by kernel_rfl
theorem peep_holds:Rows.FnExactPeepholeStepCardSaid:=
 Claim7.holds_tied_plain_at .later [] [.data, .data, .data] true (true, "d67b8a333686db2ad90547f7332ed44c940649eedb26d49b61633b9a266fa1e5") false
  Xlf (fun _ h=>by cases h) (by kernel_rfl) (fun _ h=>by cases h) fnExactPeepholeStep_row_tie rfl ⟨rfl,rfl⟩ (by kernel_rfl) rfl
  (fun f fn hf hfn=>by
   obtain rfl:f=5:=Option.some.inj (Xr9.symm.trans hf) |>.symm
   obtain rfl:fn=Tryz.f5:=(Option.some.inj (Tryz.func5.symm.trans hfn)).symm
   exact ⟨by kernel_rfl,fun j t ht=>by
    rw [Tryz.params5] at ht
    have hm:=Array.mem_of_getElem? ht
    simp only [List.mem_toArray,List.mem_cons,List.mem_nil_iff,or_false] at hm
    subst hm;exact Xf9⟩)
  (by kernel_rfl)
end Go.Proofs.YtblmmikapnflcaaGreatDoor
