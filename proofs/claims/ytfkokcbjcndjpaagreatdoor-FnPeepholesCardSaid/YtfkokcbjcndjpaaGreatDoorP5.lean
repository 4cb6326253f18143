/-
  For every drawn circuit, the certificate of the peephole pass is accepted, gates and T gates do not become more, and nothing is left to replace. Conditions: none beside the variables' values, which the card ties to the program's text.
-/
import Derived.Test.YtfkokcbjcndjpaaGreatDoorP4
import Derived.Test.YtfkokcbjcndjpaaGreatDoorP2
import Derived.Test.YtfkokcbjcndjpaaGreatDoorP3
import Derived.Test.YtfkokcbjcndjpaaGreatDoorP1
set_option linter.unusedVariables false
set_option linter.unusedSimpArgs false
set_option maxHeartbeats 1000000
set_option maxRecDepth 4000
set_option linter.unusedSectionVars false
namespace Go.Proofs.YtfkokcbjcndjpaaGreatDoor
open Go.RowKit
theorem Xuv(w0:World)(c:Cx)(Ac:Option Addr)(cc:Nat)(C:Rd w0 w0.heap.size 59 encG Ac c.gs)(aU:c.gs.length<=cc)(Arr:Option Addr)(crr:Nat)(rr:List Int)(z:Rd w0 w0.heap.size 3 encI Arr rr)(Aqs:Option Addr)(cqs:Nat)(qs:List Int)(Q:Rd w0 w0.heap.size 3 encI Aqs qs)(Aws:Option Addr)(cws:Nat)(ws:List Gt)(e:Rd w0 w0.heap.size 59 encG Aws ws)(p:Int)(jV:cOk c=true)(hY:runB c p qs=true)(hZ:rr=runL c p qs)(lR:ws.length<=1000000)(l3:qs.length<=1048576) : Ret Tryz.prog 68 [.agg #[vi c.n,.slice Ac c.gs.length cc],.slice Arr rr.length crr,.slice Aqs qs.length cqs,.slice Aws ws.length cws] w0 (fun v w=>∃ A9 e9 B9 f9,v=.tuple #[.agg #[vi ((repX c p rr qs ws).getD rpZ).pos,.slice A9 ((repX c p rr qs ws).getD rpZ).old.length e9,.slice B9 ((repX c p rr qs ws).getD rpZ).new.length f9],.bool (repX c p rr qs ws).isSome]/\Own w w0.heap.size 59 3 encG A9 e9 ((repX c p rr qs ws).getD rpZ).old/\Own w w0.heap.size 59 3 encG B9 f9 ((repX c p rr qs ws).getD rpZ).new/\Apart A9 B9/\Below w0.heap.size w0 w):=by
 obtain ⟨l4,l5,lS⟩:=X10 jV
 have lH:c.gs.length<=400:=l5
 obtain ⟨L,eW,lT,jW,iJ⟩:=X34 hY
 rw [<- hZ] at eW iJ
 have lU:=X4m eW jW
 have lI:rr.length<=6:=by rw [hZ];exact X8k ..
 have lJ:1<=rr.length:=by rw [hZ];exact X9s hY
 have jX:0<=p:=by obtain ⟨_,_,k9,e9,_⟩:=X27 hY;omega
 obtain ⟨lV,jY⟩:=Xgn hY
 have fG:rr[0]? = some p:=by rw [hZ,jY];rfl
 refine enter Tryz.func68 O 96 O O ?_;intro a D
 have g:=bz w0
 refine Zs D fun _ l6=>?_;refine Zf (X0m (zs:=[vi c.n,.slice Ac c.gs.length cc]) O O) ?_;rintro _ w1 ⟨b6,rfl,l7,d,M⟩;have lK:=Q0 g.size l7;have C:=C.bw d;have z:=z.bw d;have Q:=Q.bw d;have e:=e.bw d;have g:=btr g d;refine Zf (Xl (zs:=[vi 0,.slice none 0 0,.slice none 0 0]) X2v O) ?_;rintro _ w2 ⟨b9,rfl,l8,d,t⟩;have eL:=Q0 g.size l8;have M:=M.bw d;have C:=C.bw d;have z:=z.bw d;have Q:=Q.bw d;have e:=e.bw d;have g:=btr g d;refine Za O<|ZX l6 fun a D _ jZ=>?_;refine Zs D fun _ k0=>?_;refine Zm O<|Ze (X0o O Xa)<|Zm O<|Zt k0 fun a D=>?_;refine Q8<|X0d (σ:=Nat) (fun (k:Nat) (a:Act) (w:World)=>Fr a 96 [(1,.slice Arr rr.length crr),(2,.slice Aqs qs.length cqs),(3,.slice Aws ws.length cws),(4,(pZ9 b6)),(8,(pZ9 b9)),(17,.slice Aws ws.length cws),(18,vi (ws.length:Int)),(19,vi (k:Int))]/\(k<=ws.length)/\((ws.take k).all (ftB c.n qs)=true)/\Blk w b6 25 [vi c.n,.slice Ac c.gs.length cc]/\Blk w b9 36 [vi 0,.slice none 0 0,.slice none 0 0]/\Rd w w0.heap.size 59 encG Ac c.gs/\Rd w w0.heap.size 3 encI Arr rr/\Rd w w0.heap.size 3 encI Aqs qs/\Rd w w0.heap.size 59 encG Aws ws/\c.gs.length<=cc/\Below w0.heap.size w0 w) (fun (k:Nat)=>ws.length-k) 0 ?_ ?_
 ·exact ⟨D.sb,(Qf _),O5,M,t,C,z,Q,e,aU,g⟩
 rintro k a w3 ⟨D,iY,iZ,M,t,C,z,Q,e,aU,g⟩;refine Zs D fun _ k5=>?_;refine Ze (X16 O O)<|ZX k5 fun a D _ k6=>?_
 refine X12 D O (fun H k7=>?_) (fun H k7=>?_)
 ·obtain ⟨aO,eM⟩:=Xj (l:=ws) (k:=k) Z
  refine Q7<|k6 _ _<|Q5 fun _ k8=>?_;refine Q8<|Zs D fun _ kA=>?_;refine Zi (k:=k) (u:=aO) (enc:=encG) (l:=ws) tv0 O O Xa X0g X9 e eM O ?_;intro lW j4;refine Ze (Xx (l:=[vi aO.k,vi aO.a,vi aO.b]) O X01 j4 O) ?_;refine ZB [vi aO.k,vi aO.a,vi aO.b] X26 X0g fun lX w5 kB d eN=>?_;have l9:=Q0 g.size kB;have M:=M.bw d;have t:=t.bw d;have C:=C.bw d;have z:=z.bw d;have Q:=Q.bw d;have e:=e.bw d;have g:=btr g d;refine ZX kA fun a D _ kC=>?_;refine Zs D fun _ kD=>?_;refine Ze (Vd O X1d 0)<|Ze (X0 O X8 (M.at 0))<|Ze (Vn X01 eN)<|Zf (Vc (Xvm _ c.n aO l4) Xhc) ?_;rintro _ w6 ⟨rfl,d⟩;have M:=M.bw d;have t:=t.bw d;have eN:=eN.bw d;have C:=C.bw d;have z:=z.bw d;have Q:=Q.bw d;have e:=e.bw d;have g:=btr g d;refine Ze (X0x O)<|Zt kD fun a D=>?_
  refine X04 D O (fun fH=>?_) (fun fH=>?_)
  ·have h8:ftB c.n qs aO=false:=by unfold ftB;have h9:gOk c.n aO=false:=(by simpa using fH);rw [h9];rfl
   have bJ:=Xej (c:=c) (p:=p) (run:=rr) (qs:=qs) (Xhn eM h8);refine Zs D fun _ kE=>?_;refine Ze (Xi (ps:=[]) (cs:=[vi 0,.slice none 0 0,.slice none 0 0]) O (fun _=>by first|rfl|kernel_rfl))<|Zo (Vw [vi 0,.slice none 0 0,.slice none 0 0] X17 t) ?_;rintro _ w7 ⟨E,hb⟩;have g:=Below.oy g E eL;have t:=hb;refine Za O<|Zt kE fun a D=>?_;refine Q6<|X5<|Xo<|X5 ?_;refine X5<|Xo<|X5<|X4 D (X0q D O (ResV.cellN (l:=[vi 0,.slice none 0 0,.slice none 0 0]) O X1g (t.at 0) O) O) ?_
   rw [bJ]
   exact ⟨none,0,none,0,O,(Own.nil _ _ _ _ _),(Own.nil _ _ _ _ _),(Apart.none_l _),g⟩
  have iK:gOk c.n aO=true:=by simpa using fH
  refine Q7<|kC _ _<|Zs D fun _ kF=>?_;refine Ze (Vn X01 eN)<|Zm O<|Zf (Vc (Xml _ aO Aqs cqs qs Q.top l3) Xdv) ?_;rintro _ w8 ⟨rfl,d⟩;have M:=M.bw d;have t:=t.bw d;have C:=C.bw d;have z:=z.bw d;have Q:=Q.bw d;have e:=e.bw d;have g:=btr g d;refine Zm O<|Ze (X3 (vs:=[vi (inN aO qs:Int),vi (ouN aO qs:Int)]) O O)<|Ze (X3 (vs:=[vi (inN aO qs:Int),vi (ouN aO qs:Int)]) O O)<|Za O<|Za O<|Zx kF fun a D _ kG=>?_;refine Zm O<|Ze (X29 O O)<|Zt kG fun a D=>?_
  refine X12 D O (fun j5 fI=>?_) (fun j5 fI=>?_)
  ·have h8:ftB c.n qs aO=false:=by unfold ftB;rw [decide_eq_true fI,iK];rfl
   have bJ:=Xej (c:=c) (p:=p) (run:=rr) (qs:=qs) (Xhn eM h8);refine Zs D fun _ kH=>?_;refine Ze (Xi (ps:=[]) (cs:=[vi 0,.slice none 0 0,.slice none 0 0]) O (fun _=>by first|rfl|kernel_rfl))<|Zo (Vw [vi 0,.slice none 0 0,.slice none 0 0] X17 t) ?_;rintro _ w9 ⟨E,hb⟩;have g:=Below.oy g E eL;have t:=hb;refine Za O<|Zt kH fun a D=>?_;refine Q6<|Xo<|X5<|X5 ?_;refine Xo<|X5<|X4 D (X0q D O (ResV.cellN (l:=[vi 0,.slice none 0 0,.slice none 0 0]) O X1g (t.at 0) O) O) ?_
   rw [bJ]
   exact ⟨none,0,none,0,O,(Own.nil _ _ _ _ _),(Own.nil _ _ _ _ _),(Apart.none_l _),g⟩
  have h8:ftB c.n qs aO=true:=by unfold ftB;rw [decide_eq_false fI,iK];rfl
  refine Q7<|Xn<|k8 _ _<|Zr D ?_;refine Ze (X03 O O Z Z)<|Zm O ?_;refine Zn fun a D=>?_;refine Xd ?_;exact ⟨k+1,⟨D.sb,Z,(Xjk iZ eM h8),M,t,C,z,Q,e,aU,g⟩,Z⟩
 have iL:ws.all (ftB c.n qs)=true:=by rw [Qi Z] at iZ;exact iZ
 refine Q9<|Xm<|Xm<|X0a ?_;refine jZ _ _<|Zs D fun _ kI=>?_;refine Zm O<|Zm O<|Ze (X0o O Xy)<|Ze (X18 O O Z Z)<|Zi (k:=(rr.length-1)) (u:=(lastI rr)) (enc:=encI) (l:=rr) tv0 O O Xy X1o Xt z iJ Z ?_;intro lY j6;refine Ze (X0 O X8 j6)<|Za O<|ZX kI fun a D _ kJ=>?_;refine X0f (fun a w=>∃ b52 aA aC bK bS,Fr a 96 [(1,.slice Arr rr.length crr),(4,(pZ9 b6)),(8,(pZ9 b9)),(14,vi (lastI rr)),(15,(pZ9 b52))]/\w0.heap.size<=b52/\Blk w b52 36 [vi p,.slice aA ((c.gs.take (L+1)).drop p.toNat).length aC,.slice bK ws.length bS]/\b9≠b52/\Own w w0.heap.size 59 3 encG aA aC ((c.gs.take (L+1)).drop p.toNat)/\Own w w0.heap.size 59 3 encG bK bS ws/\Apart aA bK/\Below w3.heap.size w3 w) ?_ ?_
 ·have f:Below w3.heap.size w3 w3:=Below.refl _ _
  refine X08 none (fun j=>[18].contains j) mixed ?_;intro lZ d;have M:=M.bw d;have t:=t.bw d;have C:=C.bw d;have z:=z.bw d;have e:=e.bw d;have g:=btr g d;have f:=btr f d;refine Yb D<|Yo 0 O (fun _=>X7 O)<|Yi (k:=0) (u:=p) (enc:=encI) (l:=rr) 1 O tv0 O O Xy X1o Xt z fG O ?_;intro m3 j7;refine Ye 2 O (X0 O X8 j7)<|Yo 4 O (fun _=>Vd O X05 1)<|Ye 5 O (X0 O X0l (M.at 1))<|Yo 6 O (fun _=>X7 O)<|Yi (k:=0) (u:=p) (enc:=encI) (l:=rr) 7 O tv0 O O Xy X1o Xt z fG O ?_;intro m4 j8;refine Ye 8 O (X0 O X8 j8)<|Yo 9 O (fun _=>X7 O)<|Yo 10 O (fun _=>X03 O O Z Z) ?_;have A:=((C.top).takeK X9 (L+1)).dropK X9 (c:=cc) (Xeq aU (L+1)) p.toNat;refine Yo 11 O (fun _=>Xms (l:=c.gs) (k:=p.toNat) (m:=(L+1)) O O O Xa X0g Z (by rw [eW];omega) Z Z aU)<|Yo 14 O (fun _=>X7 O) ?_;refine Y3 3 13 17 ?_ ?_ ?_
  ·refine Yk O tv0 (X2 (k:=0) (vs:=[]) (zs:=[]) O Xa Xc O O) (fun _ _ ⟨_,_,_,h,_⟩=>h) ?_;rintro _ m5 ⟨kK,rfl,iM,d,aD⟩;have bL:=Q0 g.size iM;have lA:=Q0 f.size iM;have t:=t.bw d;have e:=e.bw d;have A:=A.bw d;have g:=btr g d;have f:=btr f d;refine Y3 12 13 17 ?_ ?_ ?_
   ·refine Yk O tv0 (X0r (enc:=encG) (l2:=(((c.gs.take (L+1)).drop p.toNat))) O O Xa Xc X9 Xq aD A (by simp only [maxLen];simp;omega) O3) (fun _ _ ⟨aA,aC,_,o,d,i⟩=>d) ?_;rintro _ m6 ⟨aA,aC,rfl,o,d,i⟩;clear i;have o:=o.lower bL;have t:=t.bw d;have e:=e.bw d;have g:=btr g d;have f:=btr f d;refine Y2 13 17 ?_ ?_
    ·refine Yk O tv0 (X2 (k:=0) (vs:=[]) (zs:=[]) O Xa Xc O O) (fun _ _ ⟨_,_,_,h,_⟩=>h) ?_;rintro _ m7 ⟨m8,rfl,fJ,d,eO⟩;have fK:=Q0 g.size fJ;have lB:=Q0 f.size fJ;have bU:=o.away fJ;have t:=t.bw d;have e:=e.bw d;have o:=o.bw d;have g:=btr g d;have f:=btr f d;refine Y2 15 17 ?_ ?_
     ·refine Yk O tv0 (X0r (enc:=encG) (l2:=(ws)) O O Xa Xc X9 Xq eO e (by simp only [maxLen];omega) Z) (fun _ _ ⟨bK,bS,_,aR,d,i⟩=>d) ?_;rintro _ m9 ⟨bK,bS,rfl,aR,d,i⟩;have b1:=Apart.new0 o bU i;clear i;have aR:=aR.lower fK;have t:=t.bw d;have o:=o.bw d;have g:=btr g d;have f:=btr f d;refine Yo 16 O (fun _=>Xi (ps:=[(0,vi p),(1,.slice aA ((c.gs.take (L+1)).drop p.toNat).length aC),(2,.slice bK ws.length bS)]) (cs:=[vi p,.slice aA ((c.gs.take (L+1)).drop p.toNat).length aC,.slice bK ws.length bS]) O (fun _=>by first|rfl|kernel_rfl))<|Y1 17 ?_;refine Yk O tv0 (Xl (zs:=[vi 0,.slice none 0 0,.slice none 0 0]) X2v O) (fun _ _ ⟨_,_,_,h,_⟩=>h) ?_;rintro _ mC ⟨b52,rfl,iN,d,G⟩
      have cJ:b9≠b52:=by have:=t.lt;omega
      have cC:=Q0 g.size iN;have jA:=Q0 f.size iN;have o:=o.bw d;have aR:=aR.bw d;have g:=btr g d;have f:=btr f d;refine Y1 18<|Yh O tv0 O (Vw [vi p,.slice aA ((c.gs.take (L+1)).drop p.toNat).length aC,.slice bK ws.length bS] X17 G) ?_;rintro _ mD ⟨E,hb⟩;have o:=o.oT E G O;have aR:=aR.oT E G O;have f:=Below.oy f E jA;have g:=Below.oy g E cC;have G:=hb;refine Yd fun a D=>?_;exact ⟨b52,aA,aC,bK,bS,D.sb,cC,G,cJ,o,aR,b1,f⟩
     refine Yk O tv0 (Xl (zs:=[vi 0,.slice none 0 0,.slice none 0 0]) X2v O) (fun _ _ ⟨_,_,_,h,_⟩=>h) ?_;rintro _ mE ⟨b55,rfl,iO,d,bM⟩
     have fL:b9≠b55:=by have:=t.lt;omega
     have fM:=Q0 g.size iO;have jB:=Q0 f.size iO;have eO:=eO.bw d;have e:=e.bw d;have o:=o.bw d;have g:=btr g d;have f:=btr f d;refine Y1 15<|Yk O tv0 (X0r (enc:=encG) (l2:=(ws)) O O Xa Xc X9 Xq eO e (by simp only [maxLen];omega) Z) (fun _ _ ⟨fN,fO,_,bW,d,i⟩=>d) ?_;rintro _ mF ⟨fN,fO,rfl,bW,d,i⟩;have eX:=Apart.new0 o bU i;clear i;have bW:=bW.lower fK;have bM:=bM.bw d;have o:=o.bw d;have g:=btr g d;have f:=btr f d;refine Yo 16 O (fun _=>Xi (ps:=[(0,vi p),(1,.slice aA ((c.gs.take (L+1)).drop p.toNat).length aC),(2,.slice fN ws.length fO)]) (cs:=[vi p,.slice aA ((c.gs.take (L+1)).drop p.toNat).length aC,.slice fN ws.length fO]) O (fun _=>by first|rfl|kernel_rfl))<|Y1 18 ?_;refine Yh O tv0 O (Vw [vi p,.slice aA ((c.gs.take (L+1)).drop p.toNat).length aC,.slice fN ws.length fO] X17 bM) ?_;rintro _ mG ⟨E,hb⟩;have o:=o.oT E bM O;have bW:=bW.oT E bM O;have f:=Below.oy f E jB;have g:=Below.oy g E fM;have bM:=hb;refine Yd fun a D=>?_;exact ⟨b55,aA,aC,fN,fO,D.sub ⟨O,O,O,O,(by first|rfl|(simp [look,H])),trivial⟩,fM,bM,fL,o,bW,eX,f⟩
    refine Yk O tv0 (Xl (zs:=[vi 0,.slice none 0 0,.slice none 0 0]) X2v O) (fun _ _ ⟨_,_,_,h,_⟩=>h) ?_;rintro _ mH ⟨b61,rfl,iP,d,aV⟩
    have fP:b9≠b61:=by have:=t.lt;omega
    have fQ:=Q0 g.size iP;have jC:=Q0 f.size iP;have e:=e.bw d;have o:=o.bw d;have g:=btr g d;have f:=btr f d;refine Y1 13<|Yk O tv0 (X2 (k:=0) (vs:=[]) (zs:=[]) O Xa Xc O O) (fun _ _ ⟨_,_,_,h,_⟩=>h) ?_;rintro _ mI ⟨mJ,rfl,fR,d,kL⟩;have jD:=Q0 g.size fR;have lC:=Q0 f.size fR;have eY:=o.away fR;have aV:=aV.bw d;have e:=e.bw d;have o:=o.bw d;have g:=btr g d;have f:=btr f d;refine Y1 15<|Yk O tv0 (X0r (enc:=encG) (l2:=(ws)) O O Xa Xc X9 Xq kL e (by simp only [maxLen];omega) Z) (fun _ _ ⟨fS,fT,_,bX,d,i⟩=>d) ?_;rintro _ mK ⟨fS,fT,rfl,bX,d,i⟩;have eZ:=Apart.new0 o eY i;clear i;have bX:=bX.lower jD;have aV:=aV.bw d;have o:=o.bw d;have g:=btr g d;have f:=btr f d;refine Yo 16 O (fun _=>Xi (ps:=[(0,vi p),(1,.slice aA ((c.gs.take (L+1)).drop p.toNat).length aC),(2,.slice fS ws.length fT)]) (cs:=[vi p,.slice aA ((c.gs.take (L+1)).drop p.toNat).length aC,.slice fS ws.length fT]) O (fun _=>by first|rfl|kernel_rfl))<|Y1 18 ?_;refine Yh O tv0 O (Vw [vi p,.slice aA ((c.gs.take (L+1)).drop p.toNat).length aC,.slice fS ws.length fT] X17 aV) ?_;rintro _ mL ⟨E,hb⟩;have o:=o.oT E aV O;have bX:=bX.oT E aV O;have f:=Below.oy f E jC;have g:=Below.oy g E fQ;have aV:=hb;refine Yd fun a D=>?_;exact ⟨b61,aA,aC,fS,fT,D.sub ⟨O,O,O,O,(by first|rfl|(simp [look,H])),trivial⟩,fQ,aV,fP,o,bX,eZ,f⟩
   ·refine Yk O tv0 (X2 (k:=0) (vs:=[]) (zs:=[]) O Xa Xc O O) (fun _ _ ⟨_,_,_,h,_⟩=>h) ?_;rintro _ mM ⟨b67,rfl,iQ,d,aF⟩
    have bY:kK≠b67:=by have:=aD.lt;omega
    have eC:=Q0 g.size iQ;have lD:=Q0 f.size iQ;have t:=t.bw d;have aD:=aD.bw d;have e:=e.bw d;have A:=A.bw d;have g:=btr g d;have f:=btr f d;refine Y2 12 17 ?_ ?_
    ·refine Yk O tv0 (X0r (enc:=encG) (l2:=(((c.gs.take (L+1)).drop p.toNat))) O O Xa Xc X9 Xq aD A (by simp only [maxLen];simp;omega) O3) (fun _ _ ⟨cD,cE,_,U,d,i⟩=>d) ?_;rintro _ mN ⟨cD,cE,rfl,U,d,i⟩;have bZ:=i _ aF.lt (Ne.symm bY);clear i;have U:=U.lower bL;have t:=t.bw d;have aF:=aF.bw d;have e:=e.bw d;have g:=btr g d;have f:=btr f d;refine Y2 15 17 ?_ ?_
     ·refine Yk O tv0 (X0r (enc:=encG) (l2:=(ws)) O O Xa Xc X9 Xq aF e (by simp only [maxLen];omega) Z) (fun _ _ ⟨fU,fV,_,bE,d,i⟩=>d) ?_;rintro _ mO ⟨fU,fV,rfl,bE,d,i⟩;have f0:=Apart.new0 U bZ i;clear i;have bE:=bE.lower eC;have t:=t.bw d;have U:=U.bw d;have g:=btr g d;have f:=btr f d;refine Yo 16 O (fun _=>Xi (ps:=[(0,vi p),(1,.slice cD ((c.gs.take (L+1)).drop p.toNat).length cE),(2,.slice fU ws.length fV)]) (cs:=[vi p,.slice cD ((c.gs.take (L+1)).drop p.toNat).length cE,.slice fU ws.length fV]) O (fun _=>by first|rfl|kernel_rfl))<|Y1 17 ?_;refine Yk O tv0 (Xl (zs:=[vi 0,.slice none 0 0,.slice none 0 0]) X2v O) (fun _ _ ⟨_,_,_,h,_⟩=>h) ?_;rintro _ mP ⟨b75,rfl,iR,d,cK⟩
      have fW:b9≠b75:=by have:=t.lt;omega
      have fX:=Q0 g.size iR;have jE:=Q0 f.size iR;have U:=U.bw d;have bE:=bE.bw d;have g:=btr g d;have f:=btr f d;refine Y1 18<|Yh O tv0 O (Vw [vi p,.slice cD ((c.gs.take (L+1)).drop p.toNat).length cE,.slice fU ws.length fV] X17 cK) ?_;rintro _ mQ ⟨E,hb⟩;have U:=U.oT E cK O;have bE:=bE.oT E cK O;have f:=Below.oy f E jE;have g:=Below.oy g E fX;have cK:=hb;refine Yd fun a D=>?_;exact ⟨b75,cD,cE,fU,fV,D.sub ⟨O,O,O,O,(by first|rfl|(simp [look,H])),trivial⟩,fX,cK,fW,U,bE,f0,f⟩
     refine Yk O tv0 (Xl (zs:=[vi 0,.slice none 0 0,.slice none 0 0]) X2v O) (fun _ _ ⟨_,_,_,h,_⟩=>h) ?_;rintro _ mR ⟨b78,rfl,iS,d,bN⟩
     have fY:b9≠b78:=by have:=t.lt;omega
     have fZ:=Q0 g.size iS;have jF:=Q0 f.size iS;have aF:=aF.bw d;have e:=e.bw d;have U:=U.bw d;have g:=btr g d;have f:=btr f d;refine Y1 15<|Yk O tv0 (X0r (enc:=encG) (l2:=(ws)) O O Xa Xc X9 Xq aF e (by simp only [maxLen];omega) Z) (fun _ _ ⟨g3,g4,_,c4,d,i⟩=>d) ?_;rintro _ mS ⟨g3,g4,rfl,c4,d,i⟩;have f5:=Apart.new0 U bZ i;clear i;have c4:=c4.lower eC;have bN:=bN.bw d;have U:=U.bw d;have g:=btr g d;have f:=btr f d;refine Yo 16 O (fun _=>Xi (ps:=[(0,vi p),(1,.slice cD ((c.gs.take (L+1)).drop p.toNat).length cE),(2,.slice g3 ws.length g4)]) (cs:=[vi p,.slice cD ((c.gs.take (L+1)).drop p.toNat).length cE,.slice g3 ws.length g4]) O (fun _=>by first|rfl|kernel_rfl))<|Y1 18 ?_;refine Yh O tv0 O (Vw [vi p,.slice cD ((c.gs.take (L+1)).drop p.toNat).length cE,.slice g3 ws.length g4] X17 bN) ?_;rintro _ mT ⟨E,hb⟩;have U:=U.oT E bN O;have c4:=c4.oT E bN O;have f:=Below.oy f E jF;have g:=Below.oy g E fZ;have bN:=hb;refine Yd fun a D=>?_;exact ⟨b78,cD,cE,g3,g4,D.sub ⟨O,O,O,O,(by first|rfl|(simp [look,H])),trivial⟩,fZ,bN,fY,U,c4,f5,f⟩
    refine Yk O tv0 (Xl (zs:=[vi 0,.slice none 0 0,.slice none 0 0]) X2v O) (fun _ _ ⟨_,_,_,h,_⟩=>h) ?_;rintro _ mU ⟨b84,rfl,iT,d,aW⟩
    have g5:b9≠b84:=by have:=t.lt;omega
    have g6:=Q0 g.size iT;have jG:=Q0 f.size iT;have aD:=aD.bw d;have aF:=aF.bw d;have e:=e.bw d;have A:=A.bw d;have g:=btr g d;have f:=btr f d;refine Y1 12<|Yk O tv0 (X0r (enc:=encG) (l2:=(((c.gs.take (L+1)).drop p.toNat))) O O Xa Xc X9 Xq aD A (by simp only [maxLen];simp;omega) O3) (fun _ _ ⟨g7,g8,_,aX,d,i⟩=>d) ?_;rintro _ mW ⟨g7,g8,rfl,aX,d,i⟩;have f6:=i _ aF.lt (Ne.symm bY);clear i;have aX:=aX.lower bL;have aF:=aF.bw d;have aW:=aW.bw d;have e:=e.bw d;have g:=btr g d;have f:=btr f d;refine Y1 15<|Yk O tv0 (X0r (enc:=encG) (l2:=(ws)) O O Xa Xc X9 Xq aF e (by simp only [maxLen];omega) Z) (fun _ _ ⟨gA,gB,_,cA,d,i⟩=>d) ?_;rintro _ mX ⟨gA,gB,rfl,cA,d,i⟩;have f7:=Apart.new0 aX f6 i;clear i;have cA:=cA.lower eC;have aW:=aW.bw d;have aX:=aX.bw d;have g:=btr g d;have f:=btr f d;refine Yo 16 O (fun _=>Xi (ps:=[(0,vi p),(1,.slice g7 ((c.gs.take (L+1)).drop p.toNat).length g8),(2,.slice gA ws.length gB)]) (cs:=[vi p,.slice g7 ((c.gs.take (L+1)).drop p.toNat).length g8,.slice gA ws.length gB]) O (fun _=>by first|rfl|kernel_rfl))<|Y1 18 ?_;refine Yh O tv0 O (Vw [vi p,.slice g7 ((c.gs.take (L+1)).drop p.toNat).length g8,.slice gA ws.length gB] X17 aW) ?_;rintro _ mY ⟨E,hb⟩;have aX:=aX.oT E aW O;have cA:=cA.oT E aW O;have f:=Below.oy f E jG;have g:=Below.oy g E g6;have aW:=hb;refine Yd fun a D=>?_;exact ⟨b84,g7,g8,gA,gB,D.sub ⟨O,O,O,O,(by first|rfl|(simp [look,H])),trivial⟩,g6,aW,g5,aX,cA,f7,f⟩
   refine Yk O tv0 (Xl (zs:=[vi 0,.slice none 0 0,.slice none 0 0]) X2v O) (fun _ _ ⟨_,_,_,h,_⟩=>h) ?_;rintro _ n0 ⟨b91,rfl,iU,d,J⟩
   have cL:b9≠b91:=by have:=t.lt;omega
   have cF:=Q0 g.size iU;have gC:=Q0 f.size iU;have aD:=aD.bw d;have e:=e.bw d;have A:=A.bw d;have g:=btr g d;have f:=btr f d;refine Y2 12 13 ?_ ?_
   ·refine Yk O tv0 (X0r (enc:=encG) (l2:=(((c.gs.take (L+1)).drop p.toNat))) O O Xa Xc X9 Xq aD A (by simp only [maxLen];simp;omega) O3) (fun _ _ ⟨gD,gE,_,aN,d,i⟩=>d) ?_;rintro _ n3 ⟨gD,gE,rfl,aN,d,i⟩;clear i;have aN:=aN.lower bL;have J:=J.bw d;have e:=e.bw d;have g:=btr g d;have f:=btr f d;refine Y1 13<|Yk O tv0 (X2 (k:=0) (vs:=[]) (zs:=[]) O Xa Xc O O) (fun _ _ ⟨_,_,_,h,_⟩=>h) ?_;rintro _ n5 ⟨n6,rfl,gF,d,kM⟩;have jH:=Q0 g.size gF;have lE:=Q0 f.size gF;have f8:=aN.away gF;have J:=J.bw d;have e:=e.bw d;have aN:=aN.bw d;have g:=btr g d;have f:=btr f d;refine Y1 15<|Yk O tv0 (X0r (enc:=encG) (l2:=(ws)) O O Xa Xc X9 Xq kM e (by simp only [maxLen];omega) Z) (fun _ _ ⟨gG,gH,_,cB,d,i⟩=>d) ?_;rintro _ n7 ⟨gG,gH,rfl,cB,d,i⟩;have fA:=Apart.new0 aN f8 i;clear i;have cB:=cB.lower jH;have J:=J.bw d;have aN:=aN.bw d;have g:=btr g d;have f:=btr f d;refine Yo 16 O (fun _=>Xi (ps:=[(0,vi p),(1,.slice gD ((c.gs.take (L+1)).drop p.toNat).length gE),(2,.slice gG ws.length gH)]) (cs:=[vi p,.slice gD ((c.gs.take (L+1)).drop p.toNat).length gE,.slice gG ws.length gH]) O (fun _=>by first|rfl|kernel_rfl))<|Y1 18 ?_;refine Yh O tv0 O (Vw [vi p,.slice gD ((c.gs.take (L+1)).drop p.toNat).length gE,.slice gG ws.length gH] X17 J) ?_;rintro _ n8 ⟨E,hb⟩;have aN:=aN.oT E J O;have cB:=cB.oT E J O;have f:=Below.oy f E gC;have g:=Below.oy g E cF
    have J:=hb;refine Yd fun a D=>?_;exact ⟨b91,gD,gE,gG,gH,D.sub ⟨O,O,O,O,(by first|rfl|(simp [look,H])),trivial⟩,cF,J,cL,aN,cB,fA,f⟩
   refine Yk O tv0 (X2 (k:=0) (vs:=[]) (zs:=[]) O Xa Xc O O) (fun _ _ ⟨_,_,_,h,_⟩=>h) ?_;rintro _ n9 ⟨b98,rfl,iV,d,eP⟩
   have fB:kK≠b98:=by have:=aD.lt;omega
   have jI:=Q0 g.size iV;have lF:=Q0 f.size iV;have aD:=aD.bw d;have J:=J.bw d;have e:=e.bw d;have A:=A.bw d;have g:=btr g d;have f:=btr f d;refine Y1 12<|Yk O tv0 (X0r (enc:=encG) (l2:=(((c.gs.take (L+1)).drop p.toNat))) O O Xa Xc X9 Xq aD A (by simp only [maxLen];simp;omega) O3) (fun _ _ ⟨cM,cN,_,aG,d,i⟩=>d) ?_;rintro _ nA ⟨cM,cN,rfl,aG,d,i⟩;have eD:=i _ eP.lt (Ne.symm fB);clear i;have aG:=aG.lower bL;have J:=J.bw d;have eP:=eP.bw d;have e:=e.bw d;have g:=btr g d;have f:=btr f d;refine Y1 15<|Yk O tv0 (X0r (enc:=encG) (l2:=(ws)) O O Xa Xc X9 Xq eP e (by simp only [maxLen];omega) Z) (fun _ _ ⟨cO,cP,_,b2,d,i⟩=>d) ?_;rintro _ nB ⟨cO,cP,rfl,b2,d,i⟩;have cQ:=Apart.new0 aG eD i;clear i;have b2:=b2.lower jI;have J:=J.bw d;have aG:=aG.bw d;have g:=btr g d;have f:=btr f d;refine Yo 16 O (fun _=>Xi (ps:=[(0,vi p),(1,.slice cM ((c.gs.take (L+1)).drop p.toNat).length cN),(2,.slice cO ws.length cP)]) (cs:=[vi p,.slice cM ((c.gs.take (L+1)).drop p.toNat).length cN,.slice cO ws.length cP]) O (fun _=>by first|rfl|kernel_rfl))<|Y1 18 ?_;refine Yh O tv0 O (Vw [vi p,.slice cM ((c.gs.take (L+1)).drop p.toNat).length cN,.slice cO ws.length cP] X17 J) ?_;rintro _ nC ⟨E,hb⟩;have aG:=aG.oT E J O;have b2:=b2.oT E J O;have f:=Below.oy f E gC;have g:=Below.oy g E cF;have J:=hb;refine Yd fun a D=>?_
   exact ⟨b91,cM,cN,cO,cP,D.sub ⟨O,O,O,O,(by first|rfl|(simp [look,H])),trivial⟩,cF,J,cL,aG,b2,cQ,f⟩
  ·refine Yk O tv0 (X2 (k:=0) (vs:=[]) (zs:=[]) O Xa Xc O O) (fun _ _ ⟨_,_,_,h,_⟩=>h) ?_;rintro _ nD ⟨iW,rfl,gI,d,B⟩;have bI:=Q0 g.size gI;have kR:=Q0 f.size gI;have t:=t.bw d;have e:=e.bw d;have A:=A.bw d;have g:=btr g d;have f:=btr f d;refine Y2 3 17 ?_ ?_
   ·refine Yk O tv0 (X2 (k:=0) (vs:=[]) (zs:=[]) O Xa Xc O O) (fun _ _ ⟨_,_,_,h,_⟩=>h) ?_;rintro _ nE ⟨b106,rfl,gJ,d,cG⟩
    have bF:iW≠b106:=by have:=B.lt;omega
    have eQ:=Q0 g.size gJ;have kS:=Q0 f.size gJ;have t:=t.bw d;have B:=B.bw d;have e:=e.bw d;have A:=A.bw d;have g:=btr g d;have f:=btr f d;refine Y2 12 17 ?_ ?_
    ·refine Yk O tv0 (X0r (enc:=encG) (l2:=(((c.gs.take (L+1)).drop p.toNat))) O O Xa Xc X9 Xq cG A (by simp only [maxLen];simp;omega) O3) (fun _ _ ⟨aY,aZ,_,I,d,i⟩=>d) ?_;rintro _ nF ⟨aY,aZ,rfl,I,d,i⟩;have bG:=i _ B.lt bF;clear i;have I:=I.lower eQ;have t:=t.bw d;have B:=B.bw d;have e:=e.bw d;have g:=btr g d;have f:=btr f d;refine Y2 15 17 ?_ ?_
     ·refine Yk O tv0 (X0r (enc:=encG) (l2:=(ws)) O O Xa Xc X9 Xq B e (by simp only [maxLen];omega) Z) (fun _ _ ⟨cR,cS,_,aP,d,i⟩=>d) ?_;rintro _ nG ⟨cR,cS,rfl,aP,d,i⟩;have cT:=Apart.new0 I bG i;clear i;have aP:=aP.lower bI;have t:=t.bw d;have I:=I.bw d;have g:=btr g d;have f:=btr f d;refine Yo 16 O (fun _=>Xi (ps:=[(0,vi p),(1,.slice aY ((c.gs.take (L+1)).drop p.toNat).length aZ),(2,.slice cR ws.length cS)]) (cs:=[vi p,.slice aY ((c.gs.take (L+1)).drop p.toNat).length aZ,.slice cR ws.length cS]) O (fun _=>by first|rfl|kernel_rfl))<|Y1 17 ?_;refine Yk O tv0 (Xl (zs:=[vi 0,.slice none 0 0,.slice none 0 0]) X2v O) (fun _ _ ⟨_,_,_,h,_⟩=>h) ?_;rintro _ nH ⟨b114,rfl,gK,d,bO⟩
      have fC:b9≠b114:=by have:=t.lt;omega
      have eR:=Q0 g.size gK;have i7:=Q0 f.size gK;have I:=I.bw d;have aP:=aP.bw d;have g:=btr g d;have f:=btr f d;refine Y1 18<|Yh O tv0 O (Vw [vi p,.slice aY ((c.gs.take (L+1)).drop p.toNat).length aZ,.slice cR ws.length cS] X17 bO) ?_;rintro _ nI ⟨E,hb⟩;have I:=I.oT E bO O;have aP:=aP.oT E bO O;have f:=Below.oy f E i7;have g:=Below.oy g E eR;have bO:=hb;refine Yd fun a D=>?_;exact ⟨b114,aY,aZ,cR,cS,D.sub ⟨O,O,O,O,(by first|rfl|(simp [look,H])),trivial⟩,eR,bO,fC,I,aP,cT,f⟩
     refine Yk O tv0 (Xl (zs:=[vi 0,.slice none 0 0,.slice none 0 0]) X2v O) (fun _ _ ⟨_,_,_,h,_⟩=>h) ?_;rintro _ nJ ⟨b117,rfl,gL,d,aS⟩
     have fD:b9≠b117:=by have:=t.lt;omega
     have eS:=Q0 g.size gL;have i8:=Q0 f.size gL;have B:=B.bw d;have e:=e.bw d;have I:=I.bw d;have g:=btr g d;have f:=btr f d;refine Y1 15<|Yk O tv0 (X0r (enc:=encG) (l2:=(ws)) O O Xa Xc X9 Xq B e (by simp only [maxLen];omega) Z) (fun _ _ ⟨cU,cV,_,b3,d,i⟩=>d) ?_;rintro _ nK ⟨cU,cV,rfl,b3,d,i⟩;have cW:=Apart.new0 I bG i;clear i;have b3:=b3.lower bI;have aS:=aS.bw d;have I:=I.bw d;have g:=btr g d;have f:=btr f d;refine Yo 16 O (fun _=>Xi (ps:=[(0,vi p),(1,.slice aY ((c.gs.take (L+1)).drop p.toNat).length aZ),(2,.slice cU ws.length cV)]) (cs:=[vi p,.slice aY ((c.gs.take (L+1)).drop p.toNat).length aZ,.slice cU ws.length cV]) O (fun _=>by first|rfl|kernel_rfl))<|Y1 18 ?_;refine Yh O tv0 O (Vw [vi p,.slice aY ((c.gs.take (L+1)).drop p.toNat).length aZ,.slice cU ws.length cV] X17 aS) ?_;rintro _ nL ⟨E,hb⟩;have I:=I.oT E aS O;have b3:=b3.oT E aS O;have f:=Below.oy f E i8;have g:=Below.oy g E eS;have aS:=hb;refine Yd fun a D=>?_;exact ⟨b117,aY,aZ,cU,cV,D.sub ⟨O,O,O,O,(by first|rfl|(simp [look,H])),trivial⟩,eS,aS,fD,I,b3,cW,f⟩
    refine Yk O tv0 (Xl (zs:=[vi 0,.slice none 0 0,.slice none 0 0]) X2v O) (fun _ _ ⟨_,_,_,h,_⟩=>h) ?_;rintro _ nM ⟨b123,rfl,gM,d,aH⟩
    have fE:b9≠b123:=by have:=t.lt;omega
    have eT:=Q0 g.size gM;have iA:=Q0 f.size gM;have B:=B.bw d;have cG:=cG.bw d;have e:=e.bw d;have A:=A.bw d;have g:=btr g d;have f:=btr f d;refine Y1 12<|Yk O tv0 (X0r (enc:=encG) (l2:=(((c.gs.take (L+1)).drop p.toNat))) O O Xa Xc X9 Xq cG A (by simp only [maxLen];simp;omega) O3) (fun _ _ ⟨cX,cY,_,aI,d,i⟩=>d) ?_;rintro _ nN ⟨cX,cY,rfl,aI,d,i⟩;have d5:=i _ B.lt bF;clear i;have aI:=aI.lower eQ;have B:=B.bw d;have aH:=aH.bw d;have e:=e.bw d;have g:=btr g d;have f:=btr f d;refine Y1 15<|Yk O tv0 (X0r (enc:=encG) (l2:=(ws)) O O Xa Xc X9 Xq B e (by simp only [maxLen];omega) Z) (fun _ _ ⟨d6,d7,_,b4,d,i⟩=>d) ?_;rintro _ nO ⟨d6,d7,rfl,b4,d,i⟩;have d8:=Apart.new0 aI d5 i;clear i;have b4:=b4.lower bI;have aH:=aH.bw d;have aI:=aI.bw d;have g:=btr g d;have f:=btr f d;refine Yo 16 O (fun _=>Xi (ps:=[(0,vi p),(1,.slice cX ((c.gs.take (L+1)).drop p.toNat).length cY),(2,.slice d6 ws.length d7)]) (cs:=[vi p,.slice cX ((c.gs.take (L+1)).drop p.toNat).length cY,.slice d6 ws.length d7]) O (fun _=>by first|rfl|kernel_rfl))<|Y1 18 ?_;refine Yh O tv0 O (Vw [vi p,.slice cX ((c.gs.take (L+1)).drop p.toNat).length cY,.slice d6 ws.length d7] X17 aH) ?_;rintro _ nP ⟨E,hb⟩;have aI:=aI.oT E aH O;have b4:=b4.oT E aH O;have f:=Below.oy f E iA;have g:=Below.oy g E eT;have aH:=hb
    refine Yd fun a D=>?_;exact ⟨b123,cX,cY,d6,d7,D.sub ⟨O,O,O,O,(by first|rfl|(simp [look,H])),trivial⟩,eT,aH,fE,aI,b4,d8,f⟩
   refine Yk O tv0 (Xl (zs:=[vi 0,.slice none 0 0,.slice none 0 0]) X2v O) (fun _ _ ⟨_,_,_,h,_⟩=>h) ?_;rintro _ nQ ⟨b130,rfl,gN,d,aE⟩
   have fF:b9≠b130:=by have:=t.lt;omega
   have eU:=Q0 g.size gN;have iB:=Q0 f.size gN;have B:=B.bw d;have e:=e.bw d;have A:=A.bw d;have g:=btr g d;have f:=btr f d;refine Y1 3<|Yk O tv0 (X2 (k:=0) (vs:=[]) (zs:=[]) O Xa Xc O O) (fun _ _ ⟨_,_,_,h,_⟩=>h) ?_;rintro _ nR ⟨b131,rfl,gO,d,jJ⟩
   have d9:iW≠b131:=by have:=B.lt;omega
   have iC:=Q0 g.size gO;have kT:=Q0 f.size gO;have B:=B.bw d;have aE:=aE.bw d;have e:=e.bw d;have A:=A.bw d;have g:=btr g d;have f:=btr f d;refine Y1 12<|Yk O tv0 (X0r (enc:=encG) (l2:=(((c.gs.take (L+1)).drop p.toNat))) O O Xa Xc X9 Xq jJ A (by simp only [maxLen];simp;omega) O3) (fun _ _ ⟨dA,dB,_,aJ,d,i⟩=>d) ?_;rintro _ nS ⟨dA,dB,rfl,aJ,d,i⟩;have dC:=i _ B.lt d9;clear i;have aJ:=aJ.lower iC;have B:=B.bw d;have aE:=aE.bw d;have e:=e.bw d;have g:=btr g d;have f:=btr f d;refine Y1 15<|Yk O tv0 (X0r (enc:=encG) (l2:=(ws)) O O Xa Xc X9 Xq B e (by simp only [maxLen];omega) Z) (fun _ _ ⟨dD,dE,_,b5,d,i⟩=>d) ?_;rintro _ nT ⟨dD,dE,rfl,b5,d,i⟩;have dF:=Apart.new0 aJ dC i;clear i;have b5:=b5.lower bI;have aE:=aE.bw d;have aJ:=aJ.bw d;have g:=btr g d;have f:=btr f d;refine Yo 16 O (fun _=>Xi (ps:=[(0,vi p),(1,.slice dA ((c.gs.take (L+1)).drop p.toNat).length dB),(2,.slice dD ws.length dE)]) (cs:=[vi p,.slice dA ((c.gs.take (L+1)).drop p.toNat).length dB,.slice dD ws.length dE]) O (fun _=>by first|rfl|kernel_rfl))<|Y1 18 ?_;refine Yh O tv0 O (Vw [vi p,.slice dA ((c.gs.take (L+1)).drop p.toNat).length dB,.slice dD ws.length dE] X17 aE) ?_;rintro _ nU ⟨E,hb⟩;have aJ:=aJ.oT E aE O;have b5:=b5.oT E aE O;have f:=Below.oy f E iB;have g:=Below.oy g E eU;have aE:=hb
   refine Yd fun a D=>?_;exact ⟨b130,dA,dB,dD,dE,D.sub ⟨O,O,O,O,(by first|rfl|(simp [look,H])),trivial⟩,eU,aE,fF,aJ,b5,dF,f⟩
  refine Yk O tv0 (Xl (zs:=[vi 0,.slice none 0 0,.slice none 0 0]) X2v O) (fun _ _ ⟨_,_,_,h,_⟩=>h) ?_;rintro _ nV ⟨b139,rfl,gQ,d,y⟩
  have b7:b9≠b139:=by have:=t.lt;omega
  have aQ:=Q0 g.size gQ;have cH:=Q0 f.size gQ;have e:=e.bw d;have A:=A.bw d;have g:=btr g d;have f:=btr f d;refine Y2 3 13 ?_ ?_
  ·refine Yk O tv0 (X2 (k:=0) (vs:=[]) (zs:=[]) O Xa Xc O O) (fun _ _ ⟨_,_,_,h,_⟩=>h) ?_;rintro _ nW ⟨kN,rfl,gR,d,bP⟩;have eV:=Q0 g.size gR;have kU:=Q0 f.size gR;have y:=y.bw d;have e:=e.bw d;have A:=A.bw d;have g:=btr g d;have f:=btr f d;refine Y2 12 13 ?_ ?_
   ·refine Yk O tv0 (X0r (enc:=encG) (l2:=(((c.gs.take (L+1)).drop p.toNat))) O O Xa Xc X9 Xq bP A (by simp only [maxLen];simp;omega) O3) (fun _ _ ⟨dG,dH,_,aB,d,i⟩=>d) ?_;rintro _ nX ⟨dG,dH,rfl,aB,d,i⟩;clear i;have aB:=aB.lower eV;have y:=y.bw d;have e:=e.bw d;have g:=btr g d;have f:=btr f d;refine Y1 13<|Yk O tv0 (X2 (k:=0) (vs:=[]) (zs:=[]) O Xa Xc O O) (fun _ _ ⟨_,_,_,h,_⟩=>h) ?_;rintro _ nY ⟨lL,rfl,eE,d,jK⟩;have iD:=Q0 g.size eE;have kV:=Q0 f.size eE;have dI:=aB.away eE;have y:=y.bw d;have e:=e.bw d;have aB:=aB.bw d;have g:=btr g d;have f:=btr f d;refine Y1 15<|Yk O tv0 (X0r (enc:=encG) (l2:=(ws)) O O Xa Xc X9 Xq jK e (by simp only [maxLen];omega) Z) (fun _ _ ⟨dJ,dK,_,b8,d,i⟩=>d) ?_;rintro _ nZ ⟨dJ,dK,rfl,b8,d,i⟩;have dL:=Apart.new0 aB dI i;clear i;have b8:=b8.lower iD;have y:=y.bw d;have aB:=aB.bw d;have g:=btr g d;have f:=btr f d;refine Yo 16 O (fun _=>Xi (ps:=[(0,vi p),(1,.slice dG ((c.gs.take (L+1)).drop p.toNat).length dH),(2,.slice dJ ws.length dK)]) (cs:=[vi p,.slice dG ((c.gs.take (L+1)).drop p.toNat).length dH,.slice dJ ws.length dK]) O (fun _=>by first|rfl|kernel_rfl))<|Y1 18 ?_;refine Yh O tv0 O (Vw [vi p,.slice dG ((c.gs.take (L+1)).drop p.toNat).length dH,.slice dJ ws.length dK] X17 y) ?_;rintro _ o0 ⟨E,hb⟩;have aB:=aB.oT E y O;have b8:=b8.oT E y O;have f:=Below.oy f E cH
    have g:=Below.oy g E aQ;have y:=hb;refine Yd fun a D=>?_;exact ⟨b139,dG,dH,dJ,dK,D.sub ⟨O,O,O,O,(by first|rfl|(simp [look,H])),trivial⟩,aQ,y,b7,aB,b8,dL,f⟩
   refine Yk O tv0 (X2 (k:=0) (vs:=[]) (zs:=[]) O Xa Xc O O) (fun _ _ ⟨_,_,_,h,_⟩=>h) ?_;rintro _ o3 ⟨b148,rfl,gS,d,cI⟩
   have dM:kN≠b148:=by have:=bP.lt;omega
   have iE:=Q0 g.size gS;have kW:=Q0 f.size gS;have y:=y.bw d;have bP:=bP.bw d;have e:=e.bw d;have A:=A.bw d;have g:=btr g d;have f:=btr f d;refine Y1 12<|Yk O tv0 (X0r (enc:=encG) (l2:=(((c.gs.take (L+1)).drop p.toNat))) O O Xa Xc X9 Xq bP A (by simp only [maxLen];simp;omega) O3) (fun _ _ ⟨dN,dO,_,aK,d,i⟩=>d) ?_;rintro _ o4 ⟨dN,dO,rfl,aK,d,i⟩;have dP:=i _ cI.lt (Ne.symm dM);clear i;have aK:=aK.lower eV;have y:=y.bw d;have cI:=cI.bw d;have e:=e.bw d;have g:=btr g d;have f:=btr f d;refine Y1 15<|Yk O tv0 (X0r (enc:=encG) (l2:=(ws)) O O Xa Xc X9 Xq cI e (by simp only [maxLen];omega) Z) (fun _ _ ⟨dQ,dR,_,bC,d,i⟩=>d) ?_;rintro _ o5 ⟨dQ,dR,rfl,bC,d,i⟩;have dS:=Apart.new0 aK dP i;clear i;have bC:=bC.lower iE;have y:=y.bw d;have aK:=aK.bw d;have g:=btr g d;have f:=btr f d;refine Yo 16 O (fun _=>Xi (ps:=[(0,vi p),(1,.slice dN ((c.gs.take (L+1)).drop p.toNat).length dO),(2,.slice dQ ws.length dR)]) (cs:=[vi p,.slice dN ((c.gs.take (L+1)).drop p.toNat).length dO,.slice dQ ws.length dR]) O (fun _=>by first|rfl|kernel_rfl))<|Y1 18 ?_;refine Yh O tv0 O (Vw [vi p,.slice dN ((c.gs.take (L+1)).drop p.toNat).length dO,.slice dQ ws.length dR] X17 y) ?_;rintro _ o6 ⟨E,hb⟩;have aK:=aK.oT E y O;have bC:=bC.oT E y O;have f:=Below.oy f E cH;have g:=Below.oy g E aQ;have y:=hb
   refine Yd fun a D=>?_;exact ⟨b139,dN,dO,dQ,dR,D.sub ⟨O,O,O,O,(by first|rfl|(simp [look,H])),trivial⟩,aQ,y,b7,aK,bC,dS,f⟩
  refine Yk O tv0 (X2 (k:=0) (vs:=[]) (zs:=[]) O Xa Xc O O) (fun _ _ ⟨_,_,_,h,_⟩=>h) ?_;rintro _ o7 ⟨kO,rfl,gT,d,aT⟩;have iF:=Q0 g.size gT;have kX:=Q0 f.size gT;have y:=y.bw d;have e:=e.bw d;have A:=A.bw d;have g:=btr g d;have f:=btr f d;refine Y1 3<|Yk O tv0 (X2 (k:=0) (vs:=[]) (zs:=[]) O Xa Xc O O) (fun _ _ ⟨_,_,_,h,_⟩=>h) ?_;rintro _ o8 ⟨b156,rfl,gU,d,jL⟩
  have dT:kO≠b156:=by have:=aT.lt;omega
  have iG:=Q0 g.size gU;have kY:=Q0 f.size gU;have y:=y.bw d;have aT:=aT.bw d;have e:=e.bw d;have A:=A.bw d;have g:=btr g d;have f:=btr f d;refine Y1 12<|Yk O tv0 (X0r (enc:=encG) (l2:=(((c.gs.take (L+1)).drop p.toNat))) O O Xa Xc X9 Xq jL A (by simp only [maxLen];simp;omega) O3) (fun _ _ ⟨dU,dW,_,aL,d,i⟩=>d) ?_;rintro _ o9 ⟨dU,dW,rfl,aL,d,i⟩;have dX:=i _ aT.lt dT;clear i;have aL:=aL.lower iG;have y:=y.bw d;have aT:=aT.bw d;have e:=e.bw d;have g:=btr g d;have f:=btr f d;refine Y1 15<|Yk O tv0 (X0r (enc:=encG) (l2:=(ws)) O O Xa Xc X9 Xq aT e (by simp only [maxLen];omega) Z) (fun _ _ ⟨dY,e7,_,bD,d,i⟩=>d) ?_;rintro _ oA ⟨dY,e7,rfl,bD,d,i⟩;have eA:=Apart.new0 aL dX i;clear i;have bD:=bD.lower iF;have y:=y.bw d;have aL:=aL.bw d;have g:=btr g d;have f:=btr f d;refine Yo 16 O (fun _=>Xi (ps:=[(0,vi p),(1,.slice dU ((c.gs.take (L+1)).drop p.toNat).length dW),(2,.slice dY ws.length e7)]) (cs:=[vi p,.slice dU ((c.gs.take (L+1)).drop p.toNat).length dW,.slice dY ws.length e7]) O (fun _=>by first|rfl|kernel_rfl))<|Y1 18 ?_;refine Yh O tv0 O (Vw [vi p,.slice dU ((c.gs.take (L+1)).drop p.toNat).length dW,.slice dY ws.length e7] X17 y) ?_;rintro _ oB ⟨E,hb⟩;have aL:=aL.oT E y O;have bD:=bD.oT E y O;have f:=Below.oy f E cH;have g:=Below.oy g E aQ;have y:=hb
  refine Yd fun a D=>?_;exact ⟨b139,dU,dW,dY,e7,D.sub ⟨O,O,O,O,(by first|rfl|(simp [look,H])),trivial⟩,aQ,y,b7,aL,bD,eA,f⟩
 rintro a oC ⟨b52,aA,aC,bK,bS,D,cC,G,cJ,o,aR,b1,d⟩;have M:=M.bw d;have t:=t.bw d;have C:=C.bw d;have z:=z.bw d;have g:=btr g d;refine kJ _ _<|Q5 fun _ jM=>?_;refine Zs D fun _ jN=>?_;refine Zm O<|Zi (k:=0) (u:=p) (enc:=encI) (l:=rr) tv0 O O Xy X1o Xt z fG O ?_;intro lM iH;refine Ze (X0 O X8 iH)<|Za O<|Zt jN fun a D=>?_;refine Q8<|X0d (σ:=Nat×Int×(List Gt)) (fun (s:Nat×Int×(List Gt)) (a:Act) (w:World)=>match s with|(k,x,q)=>∃ bH bQ,Fr a 96 [(1,.slice Arr rr.length crr),(4,(pZ9 b6)),(8,(pZ9 b9)),(14,vi (lastI rr)),(15,(pZ9 b52)),(16,vi x)]/\(x=p+(k:Int))/\(k<=winN rr p)/\(q=ws++gapL c rr p k)/\Blk w b6 25 [vi c.n,.slice Ac c.gs.length cc]/\Blk w b9 36 [vi 0,.slice none 0 0,.slice none 0 0]/\Blk w b52 36 [vi p,.slice aA ((c.gs.take (L+1)).drop p.toNat).length aC,.slice bH q.length bQ]/\Rd w w0.heap.size 59 encG Ac c.gs/\Rd w w0.heap.size 3 encI Arr rr/\Own w w0.heap.size 59 3 encG aA aC ((c.gs.take (L+1)).drop p.toNat)/\Own w w0.heap.size 59 3 encG bH bQ q/\c.gs.length<=cc/\Apart aA bH/\Below w0.heap.size w0 w) (fun (s:Nat×Int×(List Gt))=>match s with|(k,x,q)=>winN rr p-k) (0,p,ws) ?_ ?_
 ·exact ⟨bK,bS,D.sb,O5,(Qf _),(by rw [Xaq,List.append_nil]),M,t,G,C,z,o,aR,aU,b1,g⟩
 rintro ⟨k,x,q⟩ a lG ⟨bH,bQ,D,hx,hk,hq,M,t,G,C,z,o,W,aU,aM,g⟩;refine Q5 fun _ jO=>?_;refine Zs D fun _ jP=>?_;refine Zm O<|Zm O<|Ze (X6i O O)<|Zt jP fun a D=>?_
 refine X12 D O (fun b0 eF=>?_) (fun b0 eF=>?_)
 ·have iY:k<winN rr p:=by have h9:=eF;rw [eW] at h9;omega
  obtain ⟨u9,kP⟩:=Xj (l:=c.gs) (k:=p.toNat+k) Z
  have lN:=X9j c rr p k
  have kQ:q.length<=1000000+k:=by rw [hq,Qh];omega
  refine Q7<|jO _ _<|Q5 fun _ gX=>?_;refine Q8<|Zs D fun _ jQ=>?_;refine Zm O<|Zm O<|Zf (Vc (Xzd _ Arr crr rr z.top x Z) Xoe) ?_;rintro _ oD ⟨rfl,d⟩;have M:=M.bw d;have t:=t.bw d;have G:=G.bw d;have C:=C.bw d;have z:=z.bw d;have o:=o.bw d;have W:=W.bw d;have g:=btr g d;refine Ze (X0x O)<|Zt jQ fun a D=>?_
  refine X04 D O (fun eG=>?_) (fun eG=>?_)
  ·have hT:hasB rr (p+(k:Int))=false:=by have h9:=eG;rw [hx] at h9;exact bn1 h9
   refine X08 none (fun j=>[8,10].contains j) mixed ?_;intro oE d;have M:=M.bw d;have t:=t.bw d;have G:=G.bw d;have C:=C.bw d;have z:=z.bw d;have o:=o.bw d;have W:=W.bw d;have g:=btr g d;refine Yb D<|Yo 0 O (fun _=>Vd O X24 2)<|Ye 1 O (X0 O X0l (G.at 2))<|Yo 2 O (fun _=>Vd O X05 1)<|Ye 3 O (X0 O X0l (M.at 1))<|Yo 4 O (fun _=>X7 O)<|Yi (k:=(p.toNat+k)) (u:=u9) (enc:=encG) (l:=c.gs) 5 O tv0 O O Xa X0g X9 C kP Z ?_;intro lO iI;refine Ye 6 O (Xx (l:=[vi u9.k,vi u9.a,vi u9.b]) O X01 iI O)<|Y1 7 ?_;refine Yk O tv0 (X2 (k:=1) (vs:=[.agg #[vi u9.k,vi u9.a,vi u9.b]]) (zs:=[vi u9.k,vi u9.a,vi u9.b]) O Xa Xc O O) (fun _ _ ⟨_,_,_,h,_⟩=>h) ?_;rintro _ oF ⟨lP,rfl,gY,d,eH⟩;have kZ:=Q0 g.size gY;have eB:=W.away gY;have M:=M.bw d;have t:=t.bw d;have G:=G.bw d;have C:=C.bw d;have z:=z.bw d;have o:=o.bw d;have W:=W.bw d;have g:=btr g d;refine Y1 8<|Yt O tv0 O (X0i (enc:=encG) (l:=(q)) (l2:=([u9])) (B0:=w0.heap.size) O O Xa Xc X9 Xq W (Rd.of_blk eH O _ eH.lt) (by simp only [maxLen];simp;omega) O3 g.size) ?_;rintro _ oG ⟨hG,hJ,rfl,eI,hg,i⟩
   have bR:Own _ w0.heap.size 59 3 encG _ _ (q):=W
   have iX:=i _ eH.lt eB;have eJ:=Apart.app o aM i;clear i;have M:=M.appT bR hg O;have t:=t.appT bR hg O;have G:=G.appT bR hg O;have C:=C.appB bR hg (Qb _);have z:=z.appT bR hg O;have o:=o.appP hg aM;have g:=Below.app g bR hg (Qb _) g.size;clear bR hg;refine Yo 9 O (fun _=>Vd O X24 2)<|Y1 10 ?_;refine Yh O tv0 O (Vu (vs:=[.slice hG (q++([u9])).length hJ]) (l':=[vi p,.slice aA ((c.gs.take (L+1)).drop p.toNat).length aC,.slice hG (q++([u9])).length hJ]) O O X3w G) ?_;rintro _ oH ⟨E,hb⟩;have M:=M.oz E G O;have t:=t.oy E Z;have C:=C.oT E G O;have z:=z.oT E G O;have o:=o.oT E G O;have eI:=eI.oT E G O;have g:=Below.oy g E cC;have G:=hb;refine Yd fun a D=>?_;refine Xn<|gX _ _<|Zr D<|Zm O<|Ze (X03 O O Z Z)<|Za O ?_;refine Zn fun a D=>?_;refine Xd ?_;exact ⟨(k+1,x+1,(q++[u9])),⟨hG,hJ,D.sb,Z,Z,(Xjl jX hq hT kP),M,t,G,C,z,o,eI,aU,eJ,g⟩,O1⟩
  have hT:hasB rr (p+(k:Int))=true:=by have h9:=eG;rw [hx] at h9;exact bn2 h9
  refine Q7<|Xn<|gX _ _<|Zr D ?_;refine Zm O<|Ze (X03 O O Z Z)<|Za O ?_;refine Zn fun a D=>?_;refine Xd ?_;exact ⟨(k+1,x+1,q),⟨bH,bQ,D.sb,Z,Z,(Xfq hq hT),M,t,G,C,z,o,W,aU,aM,g⟩,O1⟩
 have iY:k=winN rr p:=by have h9:=eF;rw [eW] at h9;omega
 have hP:=Xg3 hq iY
 have hU:(newR c p rr ws).old=_:=Xg4 jX eW jW
 have lQ:=X9j c rr p k
 have kQ:q.length<=1000000+1000000000:=by rw [hq,Qh];omega
 refine Q9<|Xm<|Xm<|X0a ?_;refine jM _ _<|Q5 fun _ jR=>?_;refine Q5 fun _ jS=>?_;refine X0f (fun a w=>Fr a 96 [(8,(pZ9 b9)),(15,(pZ9 b52)),(93,.bool ((decide (40<(((c.gs.take (L+1)).drop p.toNat).length:Int)))||(decide (40<(q.length:Int)))))]/\lG=w) ?_ ?_
 ·refine Zr D<|Ze (Vd O X2b 1)<|Ze (X0 O X0l (G.at 1))<|Ze (X0o O Xa)<|Ze (X29 O O)<|Zm O ?_
  refine Zg 88 O (fun N=>?_) (fun N=>?_)
  ·(iterate 4 refine Zp (gP N) ?_);refine Ze (Xf O N O) ?_;refine Zn fun a D=>?_;exact ⟨D.sub ⟨O,O,X1 O (by first|rfl|(simp only [H,b0,N,bs];done)|simp [H,b0,N]),trivial⟩,O⟩
  refine Zv (gW N) (Vd O X24 2) ?_;refine Zv (gW N) (X0 O X0l (G.at 2)) ?_;refine Zv (gW N) (X0o O Xa) ?_;refine Zv (gW N) (X29 O O) ?_;refine Ze (Xb O N O) ?_;refine Zn fun a D=>?_;exact ⟨D.sub ⟨O,O,X1 O (by first|rfl|(simp only [H,b0,N,bs];done)|simp [H,b0,N]),trivial⟩,O⟩
 rintro a _ ⟨D,rfl⟩;refine jS _ _ ?_
 refine X04 D O (fun eK=>?_) (fun eK=>?_)
 ·have h9:40<(newR c p rr ws).old.length∨40<(newR c p rr ws).new.length:=by rw [hU,hP];have h8:=eK;simp only [Bool.or_eq_true,Qr] at h8;omega
  have bJ:=Xk7 iL h9;refine Zs D fun _ jT=>?_;refine Ze (Xi (ps:=[]) (cs:=[vi 0,.slice none 0 0,.slice none 0 0]) O (fun _=>by first|rfl|kernel_rfl))<|Zo (Vw [vi 0,.slice none 0 0,.slice none 0 0] X17 t) ?_;rintro _ oI ⟨E,hb⟩;have g:=Below.oy g E eL;have t:=hb;refine Za O<|Zt jT fun a D=>?_;refine Q6<|X5<|X4 D (X0q D O (ResV.cellN (l:=[vi 0,.slice none 0 0,.slice none 0 0]) O X1g (t.at 0) O) O) ?_
  rw [bJ]
  exact ⟨none,0,none,0,O,(Own.nil _ _ _ _ _),(Own.nil _ _ _ _ _),(Apart.none_l _),g⟩
 have h9:¬ (40<(newR c p rr ws).old.length∨40<(newR c p rr ws).new.length):=by rw [hU,hP];have h8:=eK;simp only [Bool.or_eq_false_iff,decide_eq_false_iff_not] at h8;omega
 have bJ:=Xk8 iL h9;refine Q7<|jR _ _<|Zs D fun _ jU=>?_;refine Ze (Vn X1g G)<|Zo (Vw [vi p,.slice aA ((c.gs.take (L+1)).drop p.toNat).length aC,.slice bH q.length bQ] X17 t) ?_;rintro _ oJ ⟨E,hb⟩;have o:=o.oT E t O;have W:=W.oT E t O;have g:=Below.oy g E eL;have t:=hb;refine Za O<|Zt jU fun a D=>?_
 refine Q6 (X4 D (X0q D O (ResV.cellN (l:=[vi p,.slice aA ((c.gs.take (L+1)).drop p.toNat).length aC,.slice bH q.length bQ]) O X1g (t.at 0) O) O) ?_)
 rw [bJ]
 simp only [Qq]
 rw [hU,hP]
 exact ⟨aA,aC,bH,bQ,O,o,W,aM,g⟩
theorem Xmj(w0:World)(m:PowT w0) : Ret Tryz.prog 18 [] w0 (fun v w=>∃ b1 F1 A1 c1 z1 b2 F2 A2 c2 z2,v=.agg #[.map none,.slice none 0 0,.map (some b1),.slice A1 (List.length (α:=Int) z1) c1,.map (some b2),.slice A2 (List.length (α:=Int) z2) c2]/\MapS w b1 (sgF F1)/\DeepM w w.heap.size 59 F1/\sgL F1=(tbW 1 5).1/\MapS w b2 (sgF F2)/\DeepM w w.heap.size 59 F2/\sgL F2=(tbW 2 3).1/\Below w0.heap.size w0 w):=by
 refine enter Tryz.func18 O 5 O O ?_;intro a hf
 have f:=bz w0
 refine Zs hf fun _ aD=>?_;refine Zf (Xl (zs:=[.map none,.slice none 0 0,.map none,.slice none 0 0,.map none,.slice none 0 0]) Xz4 O) ?_;rintro _ w1 ⟨b5,rfl,aE,j,b⟩;have aA:=Q0 f.size aE;have f:=btr f j;refine Zx aD fun a hf _ aF=>?_;refine Zf (Vc (Xuo _ 1 5 Z Z (m.of f)) Xj3) ?_;rintro _ w2 ⟨b7,aG,A7,c7,d,rfl,g,c,aH,aB,aK,j⟩;have aB:=aB.lower f.size;have b:=b.bw j;have f:=btr f j;refine Zf (Vc (Xuo _ 2 3 Z Z (m.of f)) Xj3) ?_;rintro _ w3 ⟨b8,aI,A8,c8,e,rfl,k,i,aJ,aC,aL,j⟩;have aC:=aC.lower f.size;have b:=b.bw j;have g:=g.bw j;have c:=c.bw j;have f:=btr f j;refine Ze (Xi (ps:=[(1,.agg #[.map (some b7),.slice A7 d.length c7]),(2,.agg #[.map (some b8),.slice A8 e.length c8])]) (cs:=[.map none,.slice none 0 0,.map (some b7),.slice A7 d.length c7,.map (some b8),.slice A8 e.length c8]) O (fun _=>by first|rfl|kernel_rfl))<|Ze (Xi (ps:=[(0,.agg #[.map none,.slice none 0 0,.map (some b7),.slice A7 d.length c7,.map (some b8),.slice A8 e.length c8])]) (cs:=[.map none,.slice none 0 0,.map (some b7),.slice A7 d.length c7,.map (some b8),.slice A8 e.length c8]) O (fun _=>by first|rfl|kernel_rfl))<|Zo (Vw [.map none,.slice none 0 0,.map (some b7),.slice A7 d.length c7,.map (some b8),.slice A8 e.length c8] Xu4 b) ?_;rintro _ w4 ⟨ho,hb⟩;have g:=g.oy ho (g.ne b);have k:=k.oy ho (k.ne b);have c:=c.oT ho b O;have i:=i.oT ho b O;have f:=Below.oy f ho aA;have b:=hb;refine Zt aF fun a hf=>?_
 refine Q6 (X4 hf (Xv hf O (ResV.cellN (l:=[.map none,.slice none 0 0,.map (some b7),.slice A7 d.length c7,.map (some b8),.slice A8 e.length c8]) O Xku (b.at 0) O)) ?_)
 exact ⟨b7,aG,A7,c7,d,b8,aI,A8,c8,e,O,g,c.top,aH,k,i.top,aJ,f⟩
theorem Xuj(w0:World)(k:Int) : Ret Tryz.prog 79 [vi k] w0 (fun v w=>v=.bool (isTk k)/\Below w0.heap.size w0 w):=by
 refine enter Tryz.func79 O 9 O O ?_;intro a c
 have hW:=bz w0
 refine Zs c fun _ aA=>?_;refine Za O<|ZX aA fun a c _ aB=>?_;refine X0f (fun a w=>Fr a 9 [(2,.bool ((k==7)||(k==8)))]/\w0=w) ?_ ?_
 ·refine Zr c<|Zm O<|Ze (X13 O O)<|Zm O ?_
  refine Zg 5 O (fun b=>?_) (fun b=>?_)
  ·(iterate 2 refine Zp (gP b) ?_);refine Ze (Xf O b O)<|Za O ?_;refine Zn fun a c=>?_;exact ⟨c.sub ⟨X1 O (by first|rfl|(simp only [b,bs];done)|simp [b]),trivial⟩,O⟩
  refine Zv (gW b) (X7 O) ?_;refine Zv (gW b) (X13 O O) ?_;refine Ze (Xb O b O)<|Za O ?_;refine Zn fun a c=>?_;exact ⟨c.sub ⟨X1 O (by first|rfl|(simp only [b,bs];done)|simp [b]),trivial⟩,O⟩
 rintro a _ ⟨c,rfl⟩;refine aB _ _ ?_
 refine Q6 (X4 c (Xv c O O) ?_)
 exact ⟨O,hW⟩
theorem Xif(f:World)(Al:Option Addr)(cl:Nat)(l:List Gt)(aB:Rd f f.heap.size 59 encG Al l)(aU:l.length<=100000000) : Ret Tryz.prog 59 [.slice Al l.length cl] f (fun v w=>v=vi ((tcN l:Nat) : Int)/\Below f.heap.size f w):=by
 refine enter Tryz.func59 O 20 O O ?_;intro a c
 have d:=bz f
 refine Zs c fun _ aJ=>?_;refine Za O<|Zx aJ fun a c _ aK=>?_;refine Za O<|ZX aK fun a c _ aL=>?_;refine Zs c fun _ aM=>?_;refine Zm O<|Ze (X0o O Xa)<|Zm O<|Zt aM fun a c=>?_;refine Q8<|X0d (σ:=Nat) (fun (k:Nat) (a:Act) (w:World)=>Fr a 20 [(3,vi ((tcN (l.take k) : Nat) : Int)),(6,.slice Al l.length cl),(7,vi (l.length:Int)),(8,vi (k:Int))]/\(k<=l.length)/\Below f.heap.size f w) (fun (k:Nat)=>l.length-k) 0 ?_ ?_
 ·exact ⟨c.sb,(Qf _),d⟩
 rintro k a w1 ⟨c,hk,d⟩;refine Zs c fun _ aN=>?_;refine Ze (X16 O O)<|ZX aN fun a c _ aO=>?_
 refine X12 c O (fun aC aP=>?_) (fun aC aP=>?_)
 ·obtain ⟨e,aD⟩:=Xj (l:=l) (k:=k) Z
  have aQ:=Xu7 aD;have aR:=Y1m (l.take k)
  rw [Qn] at aR
  refine Q7<|aO _ _<|Q5 fun _ aE=>?_;refine Q8<|Zs c fun _ aF=>?_;refine Zi (k:=k) (u:=e) (enc:=encG) (l:=l) tv0 O O Xa X0g X9 (aB.bx d) aD O ?_;intro aV aA;refine Ze (Xx (l:=[vi e.k,vi e.a,vi e.b]) O X01 aA O) ?_;refine ZB [vi e.k,vi e.a,vi e.b] X26 X0g fun aW w3 aG hE aH=>?_;have aS:=Q0 d.size aG;have d:=btr d hE;refine Zt aF fun a c=>?_;refine Zr c<|Zm O<|Ze (Vd O X0n 0)<|Ze (X0 O X8 (aH.at 0))<|Zf (Vc (Xuj _ e.k) Xiy) ?_;rintro _ w4 ⟨rfl,hE⟩;have d:=btr d hE;refine Zf (Vc (F59 _ (isTk e.k)) Xjg) ?_;rintro _ _ ⟨rfl,rfl⟩;refine Ze (X03 O O Z Z)<|Za O ?_;refine Zn fun a c=>?_;refine Xn<|aE _ _<|Zr c<|Ze (X03 O O Z Z)<|Zm O ?_;refine Zn fun a c=>?_
  rw [<- aQ] at c
  refine Xd ?_;exact ⟨k+1,⟨c.sb,Z,d⟩,Z⟩
 have aT:l.take k=l:=Qi Z
 refine Q9<|Xm<|Xm<|X0a ?_;refine aL _ _<|Zs c fun _ aI=>?_;refine Zm O<|Za O<|Zt aI fun a c=>?_
 refine Q6 (X4 c (Xv c O O) ?_)
 rw [aT]
 exact ⟨O,d⟩
theorem Xvv(M:World)(aW:Nat)(aR:ByteArray->Option Sq)(b9:Option Addr)(bC bD:Nat)(u:MapS M aW (sgF aR))(q:DeepM M M.heap.size 59 aR)(bE:sgL aR=(tbW 1 5).1)(aX:Nat)(aY:ByteArray->Option Sq)(bF:Option Addr)(bG bH:Nat)(dF:MapS M aX (sgF aY))(cQ:DeepM M M.heap.size 59 aY)(dG:sgL aY=(tbW 2 3).1)(c:Cx)(Ac:Option Addr)(cc:Nat)(o:Rd M M.heap.size 59 encG Ac c.gs)(bI:c.gs.length<=cc)(p:Int)(Aqs:Option Addr)(cqs:Nat)(qs:List Int)(b:Rd M M.heap.size 3 encI Aqs qs)(bJ:c.gs.length<=1000000000)(bK:qs.length<=1048576)(cR:runB c p qs=true->qs.length=1)(bL:PowT M) : Ret Tryz.prog 23 [.agg #[.map none,.slice none 0 0,.map (some aW),.slice b9 bC bD,.map (some aX),.slice bF bG bH],.agg #[vi c.n,.slice Ac c.gs.length cc],vi p,.slice Aqs qs.length cqs] M (fun v w=>∃ A9 e9 B9 f9,v=.tuple #[.agg #[vi ((shrI c p qs).getD rpZ).pos,.slice A9 ((shrI c p qs).getD rpZ).old.length e9,.slice B9 ((shrI c p qs).getD rpZ).new.length f9],.bool (shrI c p qs).isSome]/\Own w M.heap.size 59 3 encG A9 e9 ((shrI c p qs).getD rpZ).old/\Own w M.heap.size 59 3 encG B9 f9 ((shrI c p qs).getD rpZ).new/\Apart A9 B9/\Below M.heap.size M w):=by
 obtain ⟨rr,bM⟩ : ∃ rr,rr=(runP c p qs).getD []:=⟨_,O⟩
 obtain ⟨ro,aZ⟩ : ∃ ro:Bool,ro=(runP c p qs).isSome:=⟨_,O⟩
 refine enter Tryz.func23 O 93 O O ?_;intro a C
 have y:=bz M
 refine Zs C fun _ cS=>?_;refine Zf (X0m (zs:=[.map none,.slice none 0 0,.map (some aW),.slice b9 bC bD,.map (some aX),.slice bF bG bH]) O O) ?_;rintro _ w1 ⟨b4,rfl,cT,d,B⟩;have dH:=Q0 y.size cT;have u:=u.bw d;have o:=o.bw d;have b:=b.bw d;have q:=q.bw d;have y:=btr y d;refine Zf (X0m (zs:=[vi c.n,.slice Ac c.gs.length cc]) O O) ?_;rintro _ w2 ⟨b5,rfl,cU,d,A⟩;have dI:=Q0 y.size cU;have u:=u.bw d;have B:=B.bw d;have o:=o.bw d;have b:=b.bw d;have q:=q.bw d;have y:=btr y d;refine Zf (Xl (zs:=[vi 0,.slice none 0 0,.slice none 0 0]) X2v O) ?_;rintro _ w3 ⟨b8,rfl,cV,d,t⟩;have aH:=Q0 y.size cV;have u:=u.bw d;have B:=B.bw d;have A:=A.bw d;have o:=o.bw d;have b:=b.bw d;have q:=q.bw d;have y:=btr y d;refine Za O<|Zx cS fun a C _ cW=>?_;refine Ze (Vn X0e A)<|Zm O<|Zm O<|Zf (X23 (vs:=[.agg #[vi c.n,.slice Ac c.gs.length cc],vi p,.slice Aqs qs.length cqs]) O Xdt (by have hq:=Xmk w3 c Ac cc o.top p Aqs cqs qs b.top bJ bK;rw [<- bM,<- aZ] at hq;exact hq)) ?_;rintro _ w4 ⟨b0,b1,rfl,aI,d⟩;have aI:=aI.lower y.size;have u:=u.bw d;have B:=B.bw d;have A:=A.bw d;have t:=t.bw d;have o:=o.bw d;have b:=b.bw d;have q:=q.bw d;have y:=btr y d;refine Zm O<|Ze (X3 (vs:=[.slice b0 rr.length b1,.bool ro]) O O)<|Ze (X3 (vs:=[.slice b0 rr.length b1,.bool ro]) O O)<|Za O<|Za O<|ZX cW fun a C _ bN=>?_;refine Zs C fun _ bO=>?_
 refine Zm O<|Ze (X0x O)<|Zt bO fun a C=>?_
 refine X04 C O (fun D=>?_) (fun D=>?_)
 ·have bP:(runP c p qs).isSome=false:=by rw [<- aZ];simpa using D
  have N:shrI c p qs=none:=by unfold shrI;rw [Xb5 bP];rfl
  refine Zs C fun _ bQ=>?_;refine Ze (Xi (ps:=[]) (cs:=[vi 0,.slice none 0 0,.slice none 0 0]) O (fun _=>by first|rfl|kernel_rfl))<|Zo (Vw [vi 0,.slice none 0 0,.slice none 0 0] X17 t) ?_;rintro _ w5 ⟨ho,hb⟩;have y:=Below.oy y ho aH;have t:=hb;refine Za O<|Zt bQ fun a C=>?_;refine Q6<|X5<|X4 C (X0q C O (ResV.cellN (l:=[vi 0,.slice none 0 0,.slice none 0 0]) O X1g (t.at 0) O) O) ?_
  rw [N]
  exact ⟨none,0,none,0,O,(Own.nil _ _ _ _ _),(Own.nil _ _ _ _ _),(Apart.none_l _),y⟩
 obtain ⟨W,aJ,b2⟩:=X7r (c:=c) (p:=p) (qs:=qs) (by rw [<- aZ];simpa using D)
 have aC:rr=runL c p qs:=by rw [bM,b2];rfl
 have Q:=cR aJ
 have dJ:rr.length<=6:=by rw [aC];exact X8k ..
 obtain ⟨dL,dM,cX⟩:=X7n W aJ
 have bR:∀ i ∈ rr,∃ j:Nat,i=(j:Int)/\j<c.gs.length:=fun i hi=>by rw [aC] at hi;obtain ⟨j,h1,h2,_⟩:=X43 aJ i hi;exact ⟨j,h1,h2⟩
 have dK:=X3i c rr;obtain ⟨cY,bS,M9,aA,bU,bW,bX,d5,dN⟩:=Xkz W aJ
 rw [<- aC] at cY bS aA
 have bY:opI ⟨(qs.length:Int),mapI (gatL c rr) (numbI qs)⟩=some M9:=by rw [bS];exact aA
 have bZ:=Xfr (fun g hg=>(X58 W aJ g (by rw [<- aC];exact hg)).1) (X10 W).1.2
 rw [Q] at bW bX
 obtain ⟨c4,d6⟩:=Xqh (n:=1) Z bU bW bX d5
 rw [show KN 1=5 from rfl] at c4
 obtain ⟨wo,cA⟩ : ∃ wo,wo=(tbW 1 5).1 (keyM M9):=⟨_,O⟩
 have aK:wo=srW 1 M9:=cA.trans c4
 have d7:(wo.getD []).length<=8/\∀ g ∈ wo.getD [],g ∈ gsT 1:=by
  cases e:wo with
  | none=>exact ⟨Qf _,fun g hg=>by cases hg⟩
  | some w9=>have h9:=X6e (aK.symm.trans e);have:=X8q 1;exact ⟨by show w9.length<=8;omega,h9.2⟩
 have d8:=Xe4 (n:=1) Z d7.2
 have cB:shrI c p qs=plX c p qs rr:=by unfold shrI;rw [b2,aC];rfl
 refine Q7<|bN _ _<|Zs C fun _ cC=>?_;refine Ze (Vn X0e A)<|Zm O<|Zf (Vc (Xux _ c Ac cc o.top b0 b1 rr aI.rd.top Z bR) Xjb) ?_;rintro _ w6 ⟨cD,cE,rfl,z,d⟩;have z:=z.lower y.size;have u:=u.bw d;have B:=B.bw d;have A:=A.bw d;have t:=t.bw d;have o:=o.bw d;have b:=b.bw d;have q:=q.bw d;have y:=btr y d;refine Za O<|Zx cC fun a C _ cF=>?_;refine Zm O<|Ze (X0o O Xy)<|Zm O<|Zm O<|Zf (Vc (F49 _ Aqs cqs qs b.top cX Z) Xoo) ?_;rintro _ w7 ⟨d9,dA,rfl,aL,d⟩;have aL:=aL.lower y.size;have u:=u.bw d;have B:=B.bw d;have A:=A.bw d;have t:=t.bw d;have o:=o.bw d;have b:=b.bw d;have z:=z.bw d;have q:=q.bw d;have y:=btr y d;refine Zf (Vc (F51 _ cD cE (gatL c rr) z.rd.top d9 dA (numbI qs) aL.rd.top 5 bZ (X4h _) Z) Xc6) ?_;rintro _ w8 ⟨aS,aT,rfl,aB,d⟩;have b3:=z.apart aB (Qb _);have aB:=aB.lower y.size;have u:=u.bw d;have B:=B.bw d;have A:=A.bw d;have t:=t.bw d;have o:=o.bw d;have b:=b.bw d;have z:=z.bw d;have q:=q.bw d;have y:=btr y d;refine Ze (Xi (ps:=[(0,vi (qs.length:Int)),(1,.slice aS (mapI (gatL c rr) (numbI qs)).length aT)]) (cs:=[vi (qs.length:Int),.slice aS (mapI (gatL c rr) (numbI qs)).length aT]) O (fun _=>by first|rfl|kernel_rfl))<|Zf (X23 (vs:=[.agg #[vi (qs.length:Int),.slice aS (mapI (gatL c rr) (numbI qs)).length aT]]) O Xjh (by have hq:=F97 w8 (⟨(qs.length:Int),(mapI (gatL c rr) (numbI qs))⟩ : Cx) aS aT aB.rd.top (by show (mapI (gatL c rr) (numbI qs)).length<=_;unfold mapI;rw [Qo];omega);rw [bY,Qq,Option.isSome_some] at hq;exact hq)) ?_;rintro _ w9 ⟨aM,aN,rfl,aO,d⟩
 have u:=u.bw d;have B:=B.bw d;have A:=A.bw d;have t:=t.bw d;have o:=o.bw d;have b:=b.bw d;have z:=z.bw d;have q:=q.bw d;have y:=btr y d;refine Zm O<|Ze (X3 (vs:=[.agg #[vi M9.rows,vi M9.cols,.slice aM M9.cells.length aN],.bool true]) O O)<|Ze (X3 (vs:=[.agg #[vi M9.rows,vi M9.cols,.slice aM M9.cells.length aN],.bool true]) O O) ?_;refine ZB [vi M9.rows,vi M9.cols,.slice aM M9.cells.length aN] X1r X19 fun dO dB cG d cH=>?_;have dC:=Q0 y.size cG;have u:=u.bw d;have B:=B.bw d;have A:=A.bw d;have t:=t.bw d;have o:=o.bw d;have b:=b.bw d;have z:=z.bw d;have aO:=aO.bw d;have q:=q.bw d;have y:=btr y d;refine Za O<|Zx cF fun a C _ cI=>?_;refine Ze (Vn X0j cH)<|Zf (X23 (vs:=[.agg #[vi M9.rows,vi M9.cols,.slice aM M9.cells.length aN]]) O X9h (by have hq:=Xig dB M9 aM aN aO.top (X65 bU) (bL.of y);rw [d6] at hq;exact hq)) ?_;rintro _ w12 ⟨rfl,d⟩;have u:=u.bw d;have B:=B.bw d;have A:=A.bw d;have t:=t.bw d;have o:=o.bw d;have b:=b.bw d;have z:=z.bw d;have q:=q.bw d;have y:=btr y d;refine Zm O<|Ze (X3 (vs:=[.string (keyM M9),.bool true]) O O)<|Ze (X3 (vs:=[.string (keyM M9),.bool true]) O O)<|Za O<|Za O<|Zx cI fun a C _ cJ=>?_;refine Zm O<|Ze (Vx (X0o O Xy) (show _=(1:Int) from (by rw [Q];rfl)))<|Ze (Vd O Xc4 0)<|Ze (Xbn (k:=1) (sz:=2) O O Tryz.underlying52 X9u O O4 (m:=2) O)<|Ze (Vd O X5x 2)<|Ze (X0 O X9w (B.at 2))<|Zm O ?_
 obtain ⟨aP,aQ,aU,aV,E⟩:=Xeb q (keyM M9)
 rw [bE,<- cA] at aU aV E
 refine Ze (Xh2 (f:=aR) O O Tryz.underlying49 Tryz.underlying9 Xqw u aU aV)<|Zm O<|Ze (X3 (vs:=[.slice aP ((wo).getD []).length aQ,.bool ((wo).isSome)]) O O)<|Ze (X3 (vs:=[.slice aP ((wo).getD []).length aQ,.bool ((wo).isSome)]) O O)<|Za O<|Za O<|ZX cJ fun a C _ cK=>?_;refine Q5 fun _ cL=>?_;refine X0f (fun a w=>Fr a 93 [(2,vi p),(3,.slice Aqs qs.length cqs),(5,(pZ9 b5)),(8,(pZ9 b8)),(17,.slice aP ((wo).getD []).length aQ),(82,.bool (((!((wo).isSome))||(decide (((gatL c rr).length:Int)<=(((wo).getD []).length:Int))))||(decide (((tcN (gatL c rr) : Nat) : Int)<((tcN ((wo).getD []) : Nat) : Int)))))]/\Below w12.heap.size w12 w) ?_ ?_
 ·have U:Below w12.heap.size w12 w12:=Below.refl _ _
  refine Zr C<|Zm O<|Ze (X0x O)<|Zm O<|Zv (gW O) (X7 O) ?_;refine Zv (gW O) (X0x O) ?_;refine Ze (Xb O O O)<|Zm O<|Zv (gW O) (X7 O) ?_;refine Zv (gW O) (X0x O) ?_;refine Ze (Xb O O O)<|Zm O ?_
  refine Zg 69 O (fun x=>?_) (fun x=>?_)
  ·(iterate 5 refine Zp (gP x) ?_);refine Ze (Xf O x O)<|Zm O<|Zp (gP O) ?_;(iterate 4 refine Zp (gP O) ?_);refine Ze (Xf O O O) ?_;refine Zn fun a C=>?_;exact ⟨C.sub ⟨O,O,O,O,O,X1 O (by first|rfl|(simp only [D,x,bs];done)|simp [D,x]),trivial⟩,U⟩
  refine Zv (gW x) (X7 O) ?_;refine Zv (gW x) (X0o O Xa) ?_;refine Zv (gW x) (X7 O) ?_;refine Zv (gW x) (X0o O Xa) ?_;refine Zv (gW x) (Xa2 O O) ?_;refine Ze (Xb O x O)<|Zm O ?_
  refine Zg 76 O (fun h=>?_) (fun h=>?_)
  ·(iterate 5 refine Zp (gP h) ?_);refine Ze (Xf O h O) ?_;refine Zn fun a C=>?_;exact ⟨C.sub ⟨O,O,O,O,O,X1 O (by first|rfl|(simp only [D,x,h,bs];done)|simp [D,x,h]),trivial⟩,U⟩
  refine Zv (gW h) (X7 O) ?_;refine Zk (gW h) (Vc (Xif _ aP aQ ((wo).getD []) E.top Z) X9g) ?_;rintro _ dP ⟨rfl,d⟩;have z:=z.bw d;have y:=btr y d;have U:=btr U d;refine Zv (gW h) (X7 O) ?_;refine Zk (gW h) (Vc (Xif _ cD cE (gatL c rr) z.rd.top Z) X9g) ?_;rintro _ dQ ⟨rfl,d⟩;have y:=btr y d;have U:=btr U d;refine Zv (gW h) (X29 O O) ?_;refine Ze (Xb O h O) ?_;refine Zn fun a C=>?_;exact ⟨C.sub ⟨O,O,O,O,O,X1 O (by first|rfl|(simp only [D,x,h,bs];done)|simp [D,x,h]),trivial⟩,U⟩
 rintro a dR ⟨C,d⟩;have A:=A.bw d;have t:=t.bw d;have o:=o.bw d;have b:=b.bw d;have E:=E.bw d;have y:=btr y d;refine cL _ _ ?_
 refine X04 C O (fun I=>?_) (fun I=>?_)
 ·have dD:=I
  have N:shrI c p qs=none:=by
   rw [cB]
   refine X67 aA fun w9 h9=>?_
   rw [Q,<- aK] at h9
   rw [h9] at I
   intro h8
   revert I
   simp [X3i]
   omega
  refine Zs C fun _ cM=>?_;refine Ze (Xi (ps:=[]) (cs:=[vi 0,.slice none 0 0,.slice none 0 0]) O (fun _=>by first|rfl|kernel_rfl))<|Zo (Vw [vi 0,.slice none 0 0,.slice none 0 0] X17 t) ?_;rintro _ dS ⟨ho,hb⟩;have y:=Below.oy y ho aH;have t:=hb;refine Za O<|Zt cM fun a C=>?_;refine Q6<|X5<|X4 C (X0q C O (ResV.cellN (l:=[vi 0,.slice none 0 0,.slice none 0 0]) O X1g (t.at 0) O) O) ?_
  rw [N]
  exact ⟨none,0,none,0,O,(Own.nil _ _ _ _ _),(Own.nil _ _ _ _ _),(Apart.none_l _),y⟩
 have dE:wo=some (wo.getD []):=Xey (by have h9:=I;revert h9;cases wo.isSome<;>simp)
 have N:shrI c p qs=repX c p rr qs (mapI (wo.getD []) qs):=by
  rw [cB]
  refine X9o aA (by rw [Q,<- aK];exact dE) ?_;have h9:=I
  simp [X3i] at h9
  omega
 refine Q7<|cK _ _<|Q5 fun _ cN=>?_;refine X08 none (fun j=>[9].contains j) mixed ?_;intro dT d;have A:=A.bw d;have t:=t.bw d;have o:=o.bw d;have b:=b.bw d;have E:=E.bw d;have y:=btr y d;refine Yb C<|Ye 0 O (Vn X0e A)<|Yo 1 O (fun _=>X7 O)<|Yo 2 O (fun _=>X7 O)<|Yo 3 O (fun _=>X7 O)<|Yo 4 O (fun _=>X7 O)<|Y1 5 ?_;refine Yk O tv0 (Vc (F51 _ aP aQ ((wo).getD []) E.top Aqs cqs qs b.top 1 d8 Q Z) Xc6) (fun _ _ ⟨cO,cP,_,J,d⟩=>d) ?_;rintro _ dU ⟨cO,cP,rfl,J,d⟩;have J:=J.lower y.size;have t:=t.bw d;have o:=o.bw d;have b:=b.bw d;have y:=btr y d;refine Y1 6<|Yk O tv0 (Vc (Xuy _ c Ac cc o.top bI p Aqs cqs qs b.top cO cP (mapI ((wo).getD []) qs) J.rd.top bJ (by unfold mapI;rw [Qo];omega) bK) Xjc) (fun _ _ ⟨aD,aE,aF,aG,_,G,H,L,d⟩=>d) ?_;rintro _ dW ⟨aD,aE,aF,aG,rfl,G,H,L,d⟩;have b6:=J.apart G (Qb _);have G:=G.lower y.size;have b7:=J.apart H (Qb _);have H:=H.lower y.size;have t:=t.bw d;have y:=btr y d;refine Yo 7 O (fun _=>X3 (vs:=[.agg #[vi ((((runP c p qs).bind fun run=>repX c p run qs (mapI ((wo).getD []) qs)).getD rpZ).pos),.slice aD ((((runP c p qs).bind fun run=>repX c p run qs (mapI ((wo).getD []) qs)).getD rpZ).old).length aE,.slice aF ((((runP c p qs).bind fun run=>repX c p run qs (mapI ((wo).getD []) qs)).getD rpZ).new).length aG],.bool (((runP c p qs).bind fun run=>repX c p run qs (mapI ((wo).getD []) qs)).isSome)]) O O)<|Yo 8 O (fun _=>X3 (vs:=[.agg #[vi ((((runP c p qs).bind fun run=>repX c p run qs (mapI ((wo).getD []) qs)).getD rpZ).pos),.slice aD ((((runP c p qs).bind fun run=>repX c p run qs (mapI ((wo).getD []) qs)).getD rpZ).old).length aE,.slice aF ((((runP c p qs).bind fun run=>repX c p run qs (mapI ((wo).getD []) qs)).getD rpZ).new).length aG],.bool (((runP c p qs).bind fun run=>repX c p run qs (mapI ((wo).getD []) qs)).isSome)]) O O)<|Y1 9 ?_
 refine Yh O tv0 O (Vw [vi ((((runP c p qs).bind fun run=>repX c p run qs (mapI ((wo).getD []) qs)).getD rpZ).pos),.slice aD ((((runP c p qs).bind fun run=>repX c p run qs (mapI ((wo).getD []) qs)).getD rpZ).old).length aE,.slice aF ((((runP c p qs).bind fun run=>repX c p run qs (mapI ((wo).getD []) qs)).getD rpZ).new).length aG] X17 t) ?_;rintro _ dX ⟨ho,hb⟩;have G:=G.oT ho t O;have H:=H.oT ho t O;have y:=Below.oy y ho aH;have t:=hb;refine Yo 10 O (fun _=>X0y O) ?_;refine Yd fun a C=>?_;refine cN _ _ ?_
 refine Q6 (X4 C (X0q C O (ResV.cellN (l:=[vi ((((runP c p qs).bind fun run=>repX c p run qs (mapI ((wo).getD []) qs)).getD rpZ).pos),.slice aD ((((runP c p qs).bind fun run=>repX c p run qs (mapI ((wo).getD []) qs)).getD rpZ).old).length aE,.slice aF ((((runP c p qs).bind fun run=>repX c p run qs (mapI ((wo).getD []) qs)).getD rpZ).new).length aG]) O X1g (t.at 0) O) O) ?_)
 rw [N,show repX c p rr qs (mapI (wo.getD []) qs)=(runP c p qs).bind (fun run=>repX c p run qs (mapI (wo.getD []) qs)) from by rw [b2,aC];rfl]
 exact ⟨aD,aE,aF,aG,O,G,H,L,y⟩
theorem Xvw(M:World)(aW:Nat)(aX:ByteArray->Option Sq)(b9:Option Addr)(bC bD:Nat)(dF:MapS M aW (sgF aX))(cQ:DeepM M M.heap.size 59 aX)(dG:sgL aX=(tbW 1 5).1)(aY:Nat)(aR:ByteArray->Option Sq)(bE:Option Addr)(bF bG:Nat)(u:MapS M aY (sgF aR))(q:DeepM M M.heap.size 59 aR)(bH:sgL aR=(tbW 2 3).1)(c:Cx)(Ac:Option Addr)(cc:Nat)(o:Rd M M.heap.size 59 encG Ac c.gs)(bI:c.gs.length<=cc)(p:Int)(Aqs:Option Addr)(cqs:Nat)(qs:List Int)(b:Rd M M.heap.size 3 encI Aqs qs)(bJ:c.gs.length<=1000000000)(bK:qs.length<=1048576)(cR:runB c p qs=true->qs.length=2)(bL:PowT M) : Ret Tryz.prog 23 [.agg #[.map none,.slice none 0 0,.map (some aW),.slice b9 bC bD,.map (some aY),.slice bE bF bG],.agg #[vi c.n,.slice Ac c.gs.length cc],vi p,.slice Aqs qs.length cqs] M (fun v w=>∃ A9 e9 B9 f9,v=.tuple #[.agg #[vi ((shrI c p qs).getD rpZ).pos,.slice A9 ((shrI c p qs).getD rpZ).old.length e9,.slice B9 ((shrI c p qs).getD rpZ).new.length f9],.bool (shrI c p qs).isSome]/\Own w M.heap.size 59 3 encG A9 e9 ((shrI c p qs).getD rpZ).old/\Own w M.heap.size 59 3 encG B9 f9 ((shrI c p qs).getD rpZ).new/\Apart A9 B9/\Below M.heap.size M w):=by
 obtain ⟨rr,bM⟩ : ∃ rr,rr=(runP c p qs).getD []:=⟨_,O⟩
 obtain ⟨ro,aZ⟩ : ∃ ro:Bool,ro=(runP c p qs).isSome:=⟨_,O⟩
 refine enter Tryz.func23 O 93 O O ?_;intro a C
 have y:=bz M
 refine Zs C fun _ cS=>?_;refine Zf (X0m (zs:=[.map none,.slice none 0 0,.map (some aW),.slice b9 bC bD,.map (some aY),.slice bE bF bG]) O O) ?_;rintro _ w1 ⟨b4,rfl,cT,d,B⟩;have dH:=Q0 y.size cT;have u:=u.bw d;have o:=o.bw d;have b:=b.bw d;have q:=q.bw d;have y:=btr y d;refine Zf (X0m (zs:=[vi c.n,.slice Ac c.gs.length cc]) O O) ?_;rintro _ w2 ⟨b5,rfl,cU,d,A⟩;have dI:=Q0 y.size cU;have u:=u.bw d;have B:=B.bw d;have o:=o.bw d;have b:=b.bw d;have q:=q.bw d;have y:=btr y d;refine Zf (Xl (zs:=[vi 0,.slice none 0 0,.slice none 0 0]) X2v O) ?_;rintro _ w3 ⟨b8,rfl,cV,d,t⟩;have aH:=Q0 y.size cV;have u:=u.bw d;have B:=B.bw d;have A:=A.bw d;have o:=o.bw d;have b:=b.bw d;have q:=q.bw d;have y:=btr y d;refine Za O<|Zx cS fun a C _ cW=>?_;refine Ze (Vn X0e A)<|Zm O<|Zm O<|Zf (X23 (vs:=[.agg #[vi c.n,.slice Ac c.gs.length cc],vi p,.slice Aqs qs.length cqs]) O Xdt (by have hq:=Xmk w3 c Ac cc o.top p Aqs cqs qs b.top bJ bK;rw [<- bM,<- aZ] at hq;exact hq)) ?_;rintro _ w4 ⟨b0,b1,rfl,aI,d⟩;have aI:=aI.lower y.size;have u:=u.bw d;have B:=B.bw d;have A:=A.bw d;have t:=t.bw d;have o:=o.bw d;have b:=b.bw d;have q:=q.bw d;have y:=btr y d;refine Zm O<|Ze (X3 (vs:=[.slice b0 rr.length b1,.bool ro]) O O)<|Ze (X3 (vs:=[.slice b0 rr.length b1,.bool ro]) O O)<|Za O<|Za O<|ZX cW fun a C _ bN=>?_;refine Zs C fun _ bO=>?_
 refine Zm O<|Ze (X0x O)<|Zt bO fun a C=>?_
 refine X04 C O (fun D=>?_) (fun D=>?_)
 ·have bP:(runP c p qs).isSome=false:=by rw [<- aZ];simpa using D
  have N:shrI c p qs=none:=by unfold shrI;rw [Xb5 bP];rfl
  refine Zs C fun _ bQ=>?_;refine Ze (Xi (ps:=[]) (cs:=[vi 0,.slice none 0 0,.slice none 0 0]) O (fun _=>by first|rfl|kernel_rfl))<|Zo (Vw [vi 0,.slice none 0 0,.slice none 0 0] X17 t) ?_;rintro _ w5 ⟨ho,hb⟩;have y:=Below.oy y ho aH;have t:=hb;refine Za O<|Zt bQ fun a C=>?_;refine Q6<|X5<|X4 C (X0q C O (ResV.cellN (l:=[vi 0,.slice none 0 0,.slice none 0 0]) O X1g (t.at 0) O) O) ?_
  rw [N]
  exact ⟨none,0,none,0,O,(Own.nil _ _ _ _ _),(Own.nil _ _ _ _ _),(Apart.none_l _),y⟩
 obtain ⟨W,aJ,b2⟩:=X7r (c:=c) (p:=p) (qs:=qs) (by rw [<- aZ];simpa using D)
 have aC:rr=runL c p qs:=by rw [bM,b2];rfl
 have Q:=cR aJ
 have dJ:rr.length<=6:=by rw [aC];exact X8k ..
 obtain ⟨dL,dM,cX⟩:=X7n W aJ
 have bR:∀ i ∈ rr,∃ j:Nat,i=(j:Int)/\j<c.gs.length:=fun i hi=>by rw [aC] at hi;obtain ⟨j,h1,h2,_⟩:=X43 aJ i hi;exact ⟨j,h1,h2⟩
 have dK:=X3i c rr;obtain ⟨cY,bS,M9,aA,bU,bW,bX,d5,dN⟩:=Xkz W aJ
 rw [<- aC] at cY bS aA
 have bY:opI ⟨(qs.length:Int),mapI (gatL c rr) (numbI qs)⟩=some M9:=by rw [bS];exact aA
 have bZ:=Xfr (fun g hg=>(X58 W aJ g (by rw [<- aC];exact hg)).1) (X10 W).1.2
 rw [Q] at bW bX
 obtain ⟨c4,d6⟩:=Xqh (n:=2) Z bU bW bX d5
 rw [show KN 2=3 from rfl] at c4
 obtain ⟨wo,cA⟩ : ∃ wo,wo=(tbW 2 3).1 (keyM M9):=⟨_,O⟩
 have aK:wo=srW 2 M9:=cA.trans c4
 have d7:(wo.getD []).length<=8/\∀ g ∈ wo.getD [],g ∈ gsT 2:=by
  cases e:wo with
  | none=>exact ⟨Qf _,fun g hg=>by cases hg⟩
  | some w9=>have h9:=X6e (aK.symm.trans e);have:=X8q 2;exact ⟨by show w9.length<=8;omega,h9.2⟩
 have d8:=Xe4 (n:=2) Z d7.2
 have cB:shrI c p qs=plX c p qs rr:=by unfold shrI;rw [b2,aC];rfl
 refine Q7<|bN _ _<|Zs C fun _ cC=>?_;refine Ze (Vn X0e A)<|Zm O<|Zf (Vc (Xux _ c Ac cc o.top b0 b1 rr aI.rd.top Z bR) Xjb) ?_;rintro _ w6 ⟨cD,cE,rfl,z,d⟩;have z:=z.lower y.size;have u:=u.bw d;have B:=B.bw d;have A:=A.bw d;have t:=t.bw d;have o:=o.bw d;have b:=b.bw d;have q:=q.bw d;have y:=btr y d;refine Za O<|Zx cC fun a C _ cF=>?_;refine Zm O<|Ze (X0o O Xy)<|Zm O<|Zm O<|Zf (Vc (F49 _ Aqs cqs qs b.top cX Z) Xoo) ?_;rintro _ w7 ⟨d9,dA,rfl,aL,d⟩;have aL:=aL.lower y.size;have u:=u.bw d;have B:=B.bw d;have A:=A.bw d;have t:=t.bw d;have o:=o.bw d;have b:=b.bw d;have z:=z.bw d;have q:=q.bw d;have y:=btr y d;refine Zf (Vc (F51 _ cD cE (gatL c rr) z.rd.top d9 dA (numbI qs) aL.rd.top 5 bZ (X4h _) Z) Xc6) ?_;rintro _ w8 ⟨aS,aT,rfl,aB,d⟩;have b3:=z.apart aB (Qb _);have aB:=aB.lower y.size;have u:=u.bw d;have B:=B.bw d;have A:=A.bw d;have t:=t.bw d;have o:=o.bw d;have b:=b.bw d;have z:=z.bw d;have q:=q.bw d;have y:=btr y d;refine Ze (Xi (ps:=[(0,vi (qs.length:Int)),(1,.slice aS (mapI (gatL c rr) (numbI qs)).length aT)]) (cs:=[vi (qs.length:Int),.slice aS (mapI (gatL c rr) (numbI qs)).length aT]) O (fun _=>by first|rfl|kernel_rfl))<|Zf (X23 (vs:=[.agg #[vi (qs.length:Int),.slice aS (mapI (gatL c rr) (numbI qs)).length aT]]) O Xjh (by have hq:=F97 w8 (⟨(qs.length:Int),(mapI (gatL c rr) (numbI qs))⟩ : Cx) aS aT aB.rd.top (by show (mapI (gatL c rr) (numbI qs)).length<=_;unfold mapI;rw [Qo];omega);rw [bY,Qq,Option.isSome_some] at hq;exact hq)) ?_;rintro _ w9 ⟨aM,aN,rfl,aO,d⟩
 have u:=u.bw d;have B:=B.bw d;have A:=A.bw d;have t:=t.bw d;have o:=o.bw d;have b:=b.bw d;have z:=z.bw d;have q:=q.bw d;have y:=btr y d;refine Zm O<|Ze (X3 (vs:=[.agg #[vi M9.rows,vi M9.cols,.slice aM M9.cells.length aN],.bool true]) O O)<|Ze (X3 (vs:=[.agg #[vi M9.rows,vi M9.cols,.slice aM M9.cells.length aN],.bool true]) O O) ?_;refine ZB [vi M9.rows,vi M9.cols,.slice aM M9.cells.length aN] X1r X19 fun dO dB cG d cH=>?_;have dC:=Q0 y.size cG;have u:=u.bw d;have B:=B.bw d;have A:=A.bw d;have t:=t.bw d;have o:=o.bw d;have b:=b.bw d;have z:=z.bw d;have aO:=aO.bw d;have q:=q.bw d;have y:=btr y d;refine Za O<|Zx cF fun a C _ cI=>?_;refine Ze (Vn X0j cH)<|Zf (X23 (vs:=[.agg #[vi M9.rows,vi M9.cols,.slice aM M9.cells.length aN]]) O X9h (by have hq:=Xig dB M9 aM aN aO.top (X65 bU) (bL.of y);rw [d6] at hq;exact hq)) ?_;rintro _ w12 ⟨rfl,d⟩;have u:=u.bw d;have B:=B.bw d;have A:=A.bw d;have t:=t.bw d;have o:=o.bw d;have b:=b.bw d;have z:=z.bw d;have q:=q.bw d;have y:=btr y d;refine Zm O<|Ze (X3 (vs:=[.string (keyM M9),.bool true]) O O)<|Ze (X3 (vs:=[.string (keyM M9),.bool true]) O O)<|Za O<|Za O<|Zx cI fun a C _ cJ=>?_;refine Zm O<|Ze (Vx (X0o O Xy) (show _=(2:Int) from (by rw [Q];rfl)))<|Ze (Vd O Xc4 0)<|Ze (Xbn (k:=2) (sz:=2) O O Tryz.underlying52 X9u O O4 (m:=4) O)<|Ze (Vd O X5x 4)<|Ze (X0 O X9w (B.at 4))<|Zm O ?_
 obtain ⟨aP,aQ,aU,aV,E⟩:=Xeb q (keyM M9)
 rw [bH,<- cA] at aU aV E
 refine Ze (Xh2 (f:=aR) O O Tryz.underlying49 Tryz.underlying9 Xqw u aU aV)<|Zm O<|Ze (X3 (vs:=[.slice aP ((wo).getD []).length aQ,.bool ((wo).isSome)]) O O)<|Ze (X3 (vs:=[.slice aP ((wo).getD []).length aQ,.bool ((wo).isSome)]) O O)<|Za O<|Za O<|ZX cJ fun a C _ cK=>?_;refine Q5 fun _ cL=>?_;refine X0f (fun a w=>Fr a 93 [(2,vi p),(3,.slice Aqs qs.length cqs),(5,(pZ9 b5)),(8,(pZ9 b8)),(17,.slice aP ((wo).getD []).length aQ),(82,.bool (((!((wo).isSome))||(decide (((gatL c rr).length:Int)<=(((wo).getD []).length:Int))))||(decide (((tcN (gatL c rr) : Nat) : Int)<((tcN ((wo).getD []) : Nat) : Int)))))]/\Below w12.heap.size w12 w) ?_ ?_
 ·have U:Below w12.heap.size w12 w12:=Below.refl _ _
  refine Zr C<|Zm O<|Ze (X0x O)<|Zm O<|Zv (gW O) (X7 O) ?_;refine Zv (gW O) (X0x O) ?_;refine Ze (Xb O O O)<|Zm O<|Zv (gW O) (X7 O) ?_;refine Zv (gW O) (X0x O) ?_;refine Ze (Xb O O O)<|Zm O ?_
  refine Zg 69 O (fun x=>?_) (fun x=>?_)
  ·(iterate 5 refine Zp (gP x) ?_);refine Ze (Xf O x O)<|Zm O<|Zp (gP O) ?_;(iterate 4 refine Zp (gP O) ?_);refine Ze (Xf O O O) ?_;refine Zn fun a C=>?_;exact ⟨C.sub ⟨O,O,O,O,O,X1 O (by first|rfl|(simp only [D,x,bs];done)|simp [D,x]),trivial⟩,U⟩
  refine Zv (gW x) (X7 O) ?_;refine Zv (gW x) (X0o O Xa) ?_;refine Zv (gW x) (X7 O) ?_;refine Zv (gW x) (X0o O Xa) ?_;refine Zv (gW x) (Xa2 O O) ?_;refine Ze (Xb O x O)<|Zm O ?_
  refine Zg 76 O (fun h=>?_) (fun h=>?_)
  ·(iterate 5 refine Zp (gP h) ?_);refine Ze (Xf O h O) ?_;refine Zn fun a C=>?_;exact ⟨C.sub ⟨O,O,O,O,O,X1 O (by first|rfl|(simp only [D,x,h,bs];done)|simp [D,x,h]),trivial⟩,U⟩
  refine Zv (gW h) (X7 O) ?_;refine Zk (gW h) (Vc (Xif _ aP aQ ((wo).getD []) E.top Z) X9g) ?_;rintro _ dP ⟨rfl,d⟩;have z:=z.bw d;have y:=btr y d;have U:=btr U d;refine Zv (gW h) (X7 O) ?_;refine Zk (gW h) (Vc (Xif _ cD cE (gatL c rr) z.rd.top Z) X9g) ?_;rintro _ dQ ⟨rfl,d⟩;have y:=btr y d;have U:=btr U d;refine Zv (gW h) (X29 O O) ?_;refine Ze (Xb O h O) ?_;refine Zn fun a C=>?_;exact ⟨C.sub ⟨O,O,O,O,O,X1 O (by first|rfl|(simp only [D,x,h,bs];done)|simp [D,x,h]),trivial⟩,U⟩
 rintro a dR ⟨C,d⟩;have A:=A.bw d;have t:=t.bw d;have o:=o.bw d;have b:=b.bw d;have E:=E.bw d;have y:=btr y d;refine cL _ _ ?_
 refine X04 C O (fun I=>?_) (fun I=>?_)
 ·have dD:=I
  have N:shrI c p qs=none:=by
   rw [cB]
   refine X67 aA fun w9 h9=>?_
   rw [Q,<- aK] at h9
   rw [h9] at I
   intro h8
   revert I
   simp [X3i]
   omega
  refine Zs C fun _ cM=>?_;refine Ze (Xi (ps:=[]) (cs:=[vi 0,.slice none 0 0,.slice none 0 0]) O (fun _=>by first|rfl|kernel_rfl))<|Zo (Vw [vi 0,.slice none 0 0,.slice none 0 0] X17 t) ?_;rintro _ dS ⟨ho,hb⟩;have y:=Below.oy y ho aH;have t:=hb;refine Za O<|Zt cM fun a C=>?_;refine Q6<|X5<|X4 C (X0q C O (ResV.cellN (l:=[vi 0,.slice none 0 0,.slice none 0 0]) O X1g (t.at 0) O) O) ?_
  rw [N]
  exact ⟨none,0,none,0,O,(Own.nil _ _ _ _ _),(Own.nil _ _ _ _ _),(Apart.none_l _),y⟩
 have dE:wo=some (wo.getD []):=Xey (by have h9:=I;revert h9;cases wo.isSome<;>simp)
 have N:shrI c p qs=repX c p rr qs (mapI (wo.getD []) qs):=by
  rw [cB]
  refine X9o aA (by rw [Q,<- aK];exact dE) ?_;have h9:=I
  simp [X3i] at h9
  omega
 refine Q7<|cK _ _<|Q5 fun _ cN=>?_;refine X08 none (fun j=>[9].contains j) mixed ?_;intro dT d;have A:=A.bw d;have t:=t.bw d;have o:=o.bw d;have b:=b.bw d;have E:=E.bw d;have y:=btr y d;refine Yb C<|Ye 0 O (Vn X0e A)<|Yo 1 O (fun _=>X7 O)<|Yo 2 O (fun _=>X7 O)<|Yo 3 O (fun _=>X7 O)<|Yo 4 O (fun _=>X7 O)<|Y1 5 ?_;refine Yk O tv0 (Vc (F51 _ aP aQ ((wo).getD []) E.top Aqs cqs qs b.top 2 d8 Q Z) Xc6) (fun _ _ ⟨cO,cP,_,J,d⟩=>d) ?_;rintro _ dU ⟨cO,cP,rfl,J,d⟩;have J:=J.lower y.size;have t:=t.bw d;have o:=o.bw d;have b:=b.bw d;have y:=btr y d;refine Y1 6<|Yk O tv0 (Vc (Xuy _ c Ac cc o.top bI p Aqs cqs qs b.top cO cP (mapI ((wo).getD []) qs) J.rd.top bJ (by unfold mapI;rw [Qo];omega) bK) Xjc) (fun _ _ ⟨aD,aE,aF,aG,_,G,H,L,d⟩=>d) ?_;rintro _ dW ⟨aD,aE,aF,aG,rfl,G,H,L,d⟩;have b6:=J.apart G (Qb _);have G:=G.lower y.size;have b7:=J.apart H (Qb _);have H:=H.lower y.size;have t:=t.bw d;have y:=btr y d;refine Yo 7 O (fun _=>X3 (vs:=[.agg #[vi ((((runP c p qs).bind fun run=>repX c p run qs (mapI ((wo).getD []) qs)).getD rpZ).pos),.slice aD ((((runP c p qs).bind fun run=>repX c p run qs (mapI ((wo).getD []) qs)).getD rpZ).old).length aE,.slice aF ((((runP c p qs).bind fun run=>repX c p run qs (mapI ((wo).getD []) qs)).getD rpZ).new).length aG],.bool (((runP c p qs).bind fun run=>repX c p run qs (mapI ((wo).getD []) qs)).isSome)]) O O)<|Yo 8 O (fun _=>X3 (vs:=[.agg #[vi ((((runP c p qs).bind fun run=>repX c p run qs (mapI ((wo).getD []) qs)).getD rpZ).pos),.slice aD ((((runP c p qs).bind fun run=>repX c p run qs (mapI ((wo).getD []) qs)).getD rpZ).old).length aE,.slice aF ((((runP c p qs).bind fun run=>repX c p run qs (mapI ((wo).getD []) qs)).getD rpZ).new).length aG],.bool (((runP c p qs).bind fun run=>repX c p run qs (mapI ((wo).getD []) qs)).isSome)]) O O)<|Y1 9 ?_
 refine Yh O tv0 O (Vw [vi ((((runP c p qs).bind fun run=>repX c p run qs (mapI ((wo).getD []) qs)).getD rpZ).pos),.slice aD ((((runP c p qs).bind fun run=>repX c p run qs (mapI ((wo).getD []) qs)).getD rpZ).old).length aE,.slice aF ((((runP c p qs).bind fun run=>repX c p run qs (mapI ((wo).getD []) qs)).getD rpZ).new).length aG] X17 t) ?_;rintro _ dX ⟨ho,hb⟩;have G:=G.oT ho t O;have H:=H.oT ho t O;have y:=Below.oy y ho aH;have t:=hb;refine Yo 10 O (fun _=>X0y O) ?_;refine Yd fun a C=>?_;refine cN _ _ ?_
 refine Q6 (X4 C (X0q C O (ResV.cellN (l:=[vi ((((runP c p qs).bind fun run=>repX c p run qs (mapI ((wo).getD []) qs)).getD rpZ).pos),.slice aD ((((runP c p qs).bind fun run=>repX c p run qs (mapI ((wo).getD []) qs)).getD rpZ).old).length aE,.slice aF ((((runP c p qs).bind fun run=>repX c p run qs (mapI ((wo).getD []) qs)).getD rpZ).new).length aG]) O X1g (t.at 0) O) O) ?_)
 rw [N,show repX c p rr qs (mapI (wo.getD []) qs)=(runP c p qs).bind (fun run=>repX c p run qs (mapI (wo.getD []) qs)) from by rw [b2,aC];rfl]
 exact ⟨aD,aE,aF,aG,O,G,H,L,y⟩
theorem Xut(b:World)(j:Nat)(d:ByteArray->Option Sq)(aA:Option Addr)(aB aC:Nat)(l:MapS b j (sgF d))(e:DeepM b b.heap.size 59 d)(m:sgL d=(tbW 1 5).1)(k:Nat)(f:ByteArray->Option Sq)(aD:Option Addr)(aE aF:Nat)(o:MapS b k (sgF f))(g:DeepM b b.heap.size 59 f)(q:sgL f=(tbW 2 3).1)(c:Cx)(Ac:Option Addr)(cc:Nat)(t:Rd b b.heap.size 59 encG Ac c.gs)(u:c.gs.length<=cc)(p:Int)(Aqs:Option Addr)(cqs:Nat)(qs:List Int)(i:Rd b b.heap.size 3 encI Aqs qs)(aG:c.gs.length<=1000000000)(aH:qs.length<=1048576)(x:PowT b) :
  Ret Tryz.prog 23 [.agg #[.map none,.slice none 0 0,.map (some j),.slice aA aB aC,.map (some k),.slice aD aE aF],.agg #[vi c.n,.slice Ac c.gs.length cc],vi p,.slice Aqs qs.length cqs] b (fun v w=>∃ A9 e9 B9 f9,v=.tuple #[.agg #[vi ((shrI c p qs).getD rpZ).pos,.slice A9 ((shrI c p qs).getD rpZ).old.length e9,.slice B9 ((shrI c p qs).getD rpZ).new.length f9],.bool (shrI c p qs).isSome]/\Own w b.heap.size 59 3 encG A9 e9 ((shrI c p qs).getD rpZ).old/\Own w b.heap.size 59 3 encG B9 f9 ((shrI c p qs).getD rpZ).new/\Apart A9 B9/\Below b.heap.size b w):=by
 by_cases h:qs.length=2
 ·exact Xvw b j d aA aB aC l e m k f aD aE aF o g q c Ac cc t u p Aqs cqs qs i aG aH (fun _=>h) x
 ·exact Xvv b j d aA aB aC l e m k f aD aE aF o g q c Ac cc t u p Aqs cqs qs i aG aH (fun hr=>by have:=(X27 hr).1;omega) x
theorem Xzz(x:World)(c:Cx)(Ac:Option Addr)(cc:Nat)(d:Rd x x.heap.size 59 encG Ac c.gs)(aA:c.gs.length<=cc)(p:Int)(Aqs:Option Addr)(cqs:Nat)(qs:List Int)(b:Rd x x.heap.size 3 encI Aqs qs)(aJ:c.gs.length<=1000000000)(aK:qs.length<=1048576)(h:PowT x) : Ret Tryz.prog 8 [.agg #[vi c.n,.slice Ac c.gs.length cc],vi p,.slice Aqs qs.length cqs] x (fun v w=>∃ A9 e9 B9 f9,v=.tuple #[.agg #[vi ((shrI c p qs).getD rpZ).pos,.slice A9 ((shrI c p qs).getD rpZ).old.length e9,.slice B9 ((shrI c p qs).getD rpZ).new.length f9],.bool (shrI c p qs).isSome]/\Own w x.heap.size 59 3 encG A9 e9 ((shrI c p qs).getD rpZ).old/\Own w x.heap.size 59 3 encG B9 f9 ((shrI c p qs).getD rpZ).new/\Apart A9 B9/\Below x.heap.size x w):=by
 refine enter Tryz.func8 O 15 O O ?_;intro a hf
 have m:=bz x
 refine Zs hf fun _ aL=>?_;refine Zf (X0m (zs:=[vi c.n,.slice Ac c.gs.length cc]) O O) ?_;rintro _ w1 ⟨b4,rfl,aM,e,y⟩;have aP:=Q0 m.size aM;have d:=d.bw e;have b:=b.bw e;have m:=btr m e;refine Zf (Xl (zs:=[vi 0,.slice none 0 0,.slice none 0 0]) X2v O) ?_;rintro _ w2 ⟨b7,rfl,aN,e,f⟩;have aB:=Q0 m.size aN;have y:=y.bw e;have d:=d.bw e;have b:=b.bw e;have m:=btr m e;refine Za O<|ZX aL fun a hf _ aO=>?_;refine X08 none (fun j=>[7].contains j) mixed ?_;intro w3 e;have y:=y.bw e;have f:=f.bw e;have d:=d.bw e;have b:=b.bw e;have m:=btr m e;refine Yb hf<|Ye 1 O (Vn X0e y)<|Yo 2 O (fun _=>X7 O)<|Yo 3 O (fun _=>X7 O)<|Y1 0 ?_;refine Yk O tv0 (Vc (Xmj _ (h.of m)) Xds) (fun _ _ ⟨b9,aC,A9,c9,aD,aE,A,aF,aG,B,_,aH,C,aI,D,z,E,e⟩=>e) ?_;rintro _ w4 ⟨b9,aC,A9,c9,aD,aE,A,aF,aG,B,rfl,aH,C,aI,D,z,E,e⟩;have f:=f.bw e;have d:=d.bw e;have b:=b.bw e;have m:=btr m e;refine Y1 4<|Yk O tv0 (Vc (Xut _ b9 aC A9 aD.length c9 aH C.top aI aE A aF B.length aG D z.top E c Ac cc d.top aA p Aqs cqs qs b.top aJ aK (h.of m)) Xj7) (fun _ _ ⟨o,q,t,u,_,g,i,k,e⟩=>e) ?_;rintro _ w5 ⟨o,q,t,u,rfl,g,i,k,e⟩;have g:=g.lower m.size;have i:=i.lower m.size;have f:=f.bw e;have m:=btr m e;refine Yo 5 O (fun _=>X3 (vs:=[.agg #[vi (((shrI c p qs).getD rpZ).pos),.slice o (((shrI c p qs).getD rpZ).old).length q,.slice t (((shrI c p qs).getD rpZ).new).length u],.bool ((shrI c p qs).isSome)]) O O)<|Yo 6 O (fun _=>X3 (vs:=[.agg #[vi (((shrI c p qs).getD rpZ).pos),.slice o (((shrI c p qs).getD rpZ).old).length q,.slice t (((shrI c p qs).getD rpZ).new).length u],.bool ((shrI c p qs).isSome)]) O O)<|Y1 7 ?_
 refine Yh O tv0 O (Vw [vi (((shrI c p qs).getD rpZ).pos),.slice o (((shrI c p qs).getD rpZ).old).length q,.slice t (((shrI c p qs).getD rpZ).new).length u] X17 f) ?_;rintro _ w6 ⟨ho,hb⟩;have g:=g.oT ho f O;have i:=i.oT ho f O;have m:=Below.oy m ho aB;have f:=hb;refine Yo 8 O (fun _=>X0y O) ?_;refine Yd fun a hf=>?_;refine aO _ _ ?_
 refine Q6 (X4 hf (X0q hf O (ResV.cellN (l:=[vi (((shrI c p qs).getD rpZ).pos),.slice o (((shrI c p qs).getD rpZ).old).length q,.slice t (((shrI c p qs).getD rpZ).new).length u]) O X1g (f.at 0) O) O) ?_)
 exact ⟨o,q,t,u,O,g,i,k,m⟩
theorem Y0b(m:World)(c:Cx)(Ac:Option Addr)(cc:Nat)(aB:Rd m m.heap.size 59 encG Ac c.gs)(lo:Int)(hi:Int)(aT:c.gs.length<=100000000) : Ret Tryz.prog 115 [.agg #[vi c.n,.slice Ac c.gs.length cc],vi lo,vi hi] m (fun v w=>v=vi ((c.gs.countP fun g=>inR g.k lo hi:Nat) : Int)/\Below m.heap.size m w):=by
 refine enter Tryz.func115 O 26 O O ?_;intro a d
 have f:=bz m
 refine Zs d fun _ aI=>?_;refine Zf (X0m (zs:=[vi c.n,.slice Ac c.gs.length cc]) O O) ?_;rintro _ w1 ⟨b3,rfl,aJ,hE,aK⟩;have aS:=Q0 f.size aJ;have f:=btr f hE;refine Za O<|Zx aI fun a d _ aL=>?_;refine Za O<|ZX aL fun a d _ aM=>?_;refine Zs d fun _ aN=>?_;refine Ze (Vd O X05 1)<|Ze (X0 O X0l (aK.at 1))<|Ze (X0o O Xa)<|Zm O<|Zt aN fun a d=>?_;refine Q8<|X0d (σ:=Nat×Nat) (fun (s:Nat×Nat) (a:Act) (w:World)=>match s with|(k,q)=>Fr a 26 [(1,vi lo),(2,vi hi),(7,vi (q:Int)),(11,.slice Ac c.gs.length cc),(12,vi (c.gs.length:Int)),(13,vi (k:Int))]/\(k<=c.gs.length)/\(q=(c.gs.take k).countP fun g=>inR g.k lo hi)/\(q<=k)/\Below m.heap.size m w) (fun (s:Nat×Nat)=>match s with|(k,q)=>c.gs.length-k) (0,0) ?_ ?_
 ·exact ⟨d.sb,(Qf _),O,(Qb _),f⟩
 rintro ⟨k,q⟩ a w2 ⟨d,hk,hq,aU,f⟩;refine Zs d fun _ aO=>?_;refine Ze (X16 O O)<|ZX aO fun a d _ aP=>?_
 refine X12 d O (fun aC aQ=>?_) (fun aC aQ=>?_)
 ·obtain ⟨e,i⟩:=Xj (l:=c.gs) (k:=k) Z
  refine Q7<|aP _ _<|Q5 fun _ o=>?_;refine Q8<|Zs d fun _ aD=>?_;refine Zi (k:=k) (u:=e) (enc:=encG) (l:=c.gs) tv0 O O Xa X0g X9 (aB.bx f) i O ?_;intro aV aA;refine Ze (Xx (l:=[vi e.k,vi e.a,vi e.b]) O X01 aA O) ?_;refine ZB [vi e.k,vi e.a,vi e.b] X26 X0g fun aW w4 aE hE aF=>?_;have aR:=Q0 f.size aE;have f:=btr f hE;refine Zx aD fun a d _ aG=>?_;refine Ze (Vd O X0n 0)<|Ze (X0 O X8 (aF.at 0))<|Zm O<|Zm O<|Zf (Vc (F85 _ e.k lo hi) X3g) ?_;rintro _ _ ⟨rfl,rfl⟩;refine Zt aG fun a d=>?_
  refine X04 d O (fun j=>?_) (fun j=>?_)
  ·have hT:inR e.k lo hi=true:=j
   refine Zr d<|Zm O<|Ze (X03 O O Z Z)<|Za O ?_;refine Zn fun a d=>?_;refine Xn<|o _ _<|Zr d<|Ze (X03 O O Z Z)<|Zm O ?_;refine Zn fun a d=>?_;refine Xd ?_;exact ⟨(k+1,q+1),⟨d.sb,Z,(by rw [Qt,i,List.countP_append,<- hq];simp [hT]),Z,f⟩,O1⟩
  have hT:inR e.k lo hi=false:=j
  refine Q7<|Xn<|o _ _<|Zr d ?_;refine Ze (X03 O O Z Z)<|Zm O ?_;refine Zn fun a d=>?_;refine Xd ?_;exact ⟨(k+1,q),⟨d.sb,Z,(by rw [Qt,i,List.countP_append,<- hq];simp [hT]),Z,f⟩,O1⟩
 refine Q9<|Xm<|Xm<|X0a ?_;refine aM _ _<|Zs d fun _ aH=>?_;refine Zm O<|Za O<|Zt aH fun a d=>?_
 refine Q6 (X4 d (Xv d O O) ?_)
 exact ⟨by rw [hq,Qi Z],f⟩
theorem Xih(w0:World)(Al:Option Addr)(cl:Nat)(l:List Gt)(aA:Rd w0 w0.heap.size 59 encG Al l)(aB:l.length<=100000000) : Ret Tryz.prog 67 [.slice Al l.length cl] w0 (fun v w=>v=vi ((tcN l:Nat) : Int)/\Below w0.heap.size w0 w):=by
 refine enter Tryz.func67 O 6 O O ?_;intro a hf
 have hW:=bz w0
 refine Zs hf fun _ aC=>?_;refine Za O<|Zx aC fun a hf _ aD=>?_;refine Zm O<|Ze (Xi (ps:=[(1,.slice Al l.length cl)]) (cs:=[vi 0,.slice Al l.length cl]) O (fun _=>by first|rfl|kernel_rfl))<|Zf (Vc (Y0b _ (⟨0,l⟩ : Cx) Al cl (aA.bx hW).top 7 8 aB) Xsw) ?_;rintro _ w1 ⟨rfl,hE⟩;have hW:=btr hW hE;refine Za O<|Zt aD fun a hf=>?_
 refine Q6 (X4 hf (Xv hf O O) ?_)
 exact ⟨by rw [<- Xql],hW⟩
theorem Y06(z:World)(c:Cx)(Ac:Option Addr)(cc:Nat)(aK:Rd z z.heap.size 59 encG Ac c.gs)(Arr:Option Addr)(crr:Nat)(rr:List Int)(aA:Rd z z.heap.size 3 encI Arr rr)(Aqs:Option Addr)(cqs:Nat)(qs:List Int)(aB:Rd z z.heap.size 3 encI Aqs qs)(bI:cOk c=true)(bL:rr.length<=6)(b2:∀ i ∈ rr,∃ j:Nat,i=(j:Int)/\j<c.gs.length)(b3:∀ g ∈ gatL c rr,GoodG qs c.n g/\insB g qs=true)(b4:Inc qs)(b6:qs.length<=1048576) : Ret Tryz.prog 62 [.agg #[vi c.n,.slice Ac c.gs.length cc],.slice Arr rr.length crr,.slice Aqs qs.length cqs] z (fun v w=>∃ A e,v=.agg #[vi (xC c rr qs).n,.slice A (xC c rr qs).gs.length e]/\Own w z.heap.size 59 3 encG A e (xC c rr qs).gs/\Below z.heap.size z w):=by
 have bJ:=X3i c rr;refine enter Tryz.func62 O 33 O O ?_;intro a x
 have p:=bz z
 refine Zs x fun _ b8=>?_;refine Zf (X0m (zs:=[vi c.n,.slice Ac c.gs.length cc]) O O) ?_;rintro _ w1 ⟨b5,rfl,b9,t,f⟩;have bK:=Q0 p.size b9;have p:=btr p t;refine Zf (Xl (zs:=[vi 0,.slice none 0 0]) X2y O) ?_;rintro _ w2 ⟨b7,rfl,bC,t,m⟩
 have b1:b5≠b7:=by have:=f.lt;omega
 have aL:=Q0 p.size bC;have f:=f.bw t;have p:=btr p t;refine Zx b8 fun a x _ bD=>?_;refine Zm O<|Ze (X0o O Xy)<|Ze (Xi (ps:=[(0,vi (qs.length:Int))]) (cs:=[vi (qs.length:Int),.slice none 0 0]) O (fun _=>by first|rfl|kernel_rfl)) ?_;refine ZB [vi (qs.length:Int),.slice none 0 0] X2y X1b fun b11 w4 aM t d=>?_
 have aN:b5≠b11:=by have:=f.lt;omega
 have aO:b7≠b11:=by have:=m.lt;omega
 have aC:=Q0 p.size aM;have f:=f.bw t;have m:=m.bw t;have p:=btr p t;refine ZX bD fun a x _ aP=>?_;refine Zs x fun _ aQ=>?_;refine Zm O<|Ze (X0o O Xy)<|Zm O<|Zt aQ fun a x=>?_;refine Q8<|X0d (σ:=Nat×(List Gt)) (fun (s:Nat×(List Gt)) (a:Act) (w:World)=>match s with|(k,q)=>∃ B C,Fr a 33 [(2,.slice Aqs qs.length cqs),(3,(pZ9 b5)),(6,(pZ9 b7)),(7,(pZ9 b11)),(13,.slice Arr rr.length crr),(14,vi (rr.length:Int)),(15,vi (k:Int))]/\(k<=rr.length)/\(q=((gatL c rr).take k).map (smallG qs))/\(q.length=k)/\Blk w b5 25 [vi c.n,.slice Ac c.gs.length cc]/\Blk w b7 25 [vi 0,.slice none 0 0]/\Blk w b11 25 [vi (qs.length:Int),.slice B q.length C]/\Own w z.heap.size 59 3 encG B C q/\Below z.heap.size z w) (fun (s:Nat×(List Gt))=>match s with|(k,q)=>rr.length-k) (0,[]) ?_ ?_
 ·exact ⟨none,0,x.sb,(Qf _),O,O,f,m,d,(Own.nil _ _ _ _ _),p⟩
 rintro ⟨k,q⟩ a w5 ⟨B,C,x,hk,hq,bE,f,m,d,o,p⟩;refine Zs x fun _ aR=>?_;refine Ze (X16 O O)<|ZX aR fun a x _ aS=>?_
 refine X12 x O (fun aD aT=>?_) (fun aD aT=>?_)
 ·obtain ⟨bF,E⟩:=Xj (l:=rr) (k:=k) Z
  obtain ⟨j9,aU,aV⟩:=b2 _ (Qe E)
  obtain ⟨u9,aE⟩:=Xj (l:=gatL c rr) (k:=k) Z
  have bG:c.gs[j9]? = some u9:=Xtb E aU aV aE
  obtain ⟨J,G⟩:=b3 u9 (Qe aE);refine Q7<|aS _ _<|Q5 fun _ aW=>?_;refine Q8<|Zs x fun _ aX=>?_;refine Zi (k:=k) (u:=bF) (enc:=encI) (l:=rr) tv0 O O Xy X1o Xt (aA.bx p) E O ?_;intro bM aF;refine Ze (X0 O X8 aF)<|Za O<|Zt aX fun a x=>?_;refine X08 none (fun j=>[10,12].contains j) mixed ?_;intro w6 t;have f:=f.bw t;have m:=m.bw t;have d:=d.bw t;have o:=o.bw t;have p:=btr p t;refine Yb x<|Yo 0 O (fun _=>Vd O X05 1)<|Ye 1 O (X0 O X0l (d.at 1))<|Yo 2 O (fun _=>Vd O X05 1)<|Ye 3 O (X0 O X0l (f.at 1))<|Yo 4 O (fun _=>X7 O)<|Yi (k:=j9) (u:=u9) (enc:=encG) (l:=c.gs) 5 O tv0 O O Xa X0g X9 (aK.bx p) bG aU ?_;intro bN aG;refine Ye 6 O (Xx (l:=[vi u9.k,vi u9.a,vi u9.b]) O X01 aG O)<|Yo 7 O (fun _=>X7 O)<|Y1 8 ?_;refine Yk O tv0 (Vc (Y1v _ u9 Aqs cqs qs (aB.bx p).top (Xjs G) (J.use _ (Xpt (Xjs G))) b4 (fun h9=>J.use _ (Xpu (Xjs G) h9)) (Q0 b6 O4)) Xx5) (fun _ _ ⟨_,t⟩=>t) ?_;rintro _ w7 ⟨rfl,t⟩;have f:=f.bw t;have m:=m.bw t;have d:=d.bw t;have o:=o.bw t;have p:=btr p t;refine Y1 9<|Yk O tv0 (X2 (k:=1) (vs:=[.agg #[vi ((smallG qs u9).k),vi ((smallG qs u9).a),vi ((smallG qs u9).b)]]) (zs:=[vi ((smallG qs u9).k),vi ((smallG qs u9).a),vi ((smallG qs u9).b)]) O Xa Xc O O) (fun _ _ ⟨_,_,_,h,_⟩=>h) ?_;rintro _ w8 ⟨bO,rfl,L,t,H⟩;have bH:=Q0 p.size L;have D:=o.away L;have f:=f.bw t;have m:=m.bw t;have d:=d.bw t;have o:=o.bw t
  have p:=btr p t;refine Y1 10<|Yt O tv0 O (X0i (enc:=encG) (l:=(q)) (l2:=([(smallG qs u9)])) (B0:=z.heap.size) O O Xa Xc X9 Xq o (Rd.of_blk H O _ H.lt) (by simp only [maxLen];simp;omega) O3 p.size) ?_;rintro _ w9 ⟨aH,aI,rfl,I,hg,aY⟩
  have y:Own _ z.heap.size 59 3 encG _ _ (q):=o
  have aJ:=aY _ H.lt D;clear aY;have f:=f.appT y hg O;have m:=m.appT y hg O;have d:=d.appT y hg O;have p:=Below.app p y hg (Qb _) p.size;clear y hg;refine Yo 11 O (fun _=>Vd O X05 1)<|Y1 12 ?_;refine Yh O tv0 O (Vu (vs:=[.slice aH (q++([(smallG qs u9)])).length aI]) (l':=[vi (qs.length:Int),.slice aH (q++([(smallG qs u9)])).length aI]) O O X3w d) ?_;rintro _ bP ⟨ho,hb⟩;have f:=f.oy ho Z;have m:=m.oy ho Z;have I:=I.oT ho d O;have p:=Below.oy p ho aC;have d:=hb;refine Yd fun a x=>?_;refine Xn<|aW _ _<|Zr x<|Ze (X03 O O Z Z)<|Zm O ?_;refine Zn fun a x=>?_;refine Xd ?_;exact ⟨(k+1,(q++[smallG qs u9])),⟨aH,aI,x.sb,Z,(Xqb hq aE),(by simp;exact bE),f,m,d,I,p⟩,O1⟩
 have aZ:q=(gatL c rr).map (smallG qs):=by rw [hq,Qi Z]
 refine Q9<|Xm<|Xm<|X0a ?_;refine aP _ _<|Zs x fun _ b0=>?_;refine Ze (Vn X0e d)<|Zo (Vw [vi (qs.length:Int),.slice B q.length C] X1b m) ?_;rintro _ bQ ⟨ho,hb⟩;have o:=o.oT ho m O;have p:=Below.oy p ho aL;have m:=hb;refine Zt b0 fun a x=>?_
 refine Q6 (X4 x (Xv x O (ResV.cellN (l:=[vi (qs.length:Int),.slice B q.length C]) O X0e (m.at 0) O)) ?_)
 subst aZ
 exact ⟨B,C,O,o,p⟩
theorem Y07(w0:World)(x:Cx)(Ax:Option Addr)(cx:Nat)(aB:Rd w0 w0.heap.size 59 encG Ax x.gs)(hx:cOk x=true)(M9:Mx)(aC:opI x=some M9) : Ret Tryz.prog 63 [.agg #[vi x.n,.slice Ax x.gs.length cx]] w0 (fun v w=>∃ A c1,v=mV A c1 ((opI x).getD mZ)/\Rd w w.heap.size 139 encD A ((opI x).getD mZ).cells/\Below w0.heap.size w0 w):=by
 obtain ⟨hn,aL,aN⟩:=X10 hx;have q:=Xyh hx aC
 obtain ⟨d,hd⟩ : ∃ d:Nat,d=2^x.n.toNat:=⟨_,O⟩
 rw [<- hd] at q
 refine enter Tryz.func63 O 14 O O ?_;intro a hf
 have e:=bz w0
 refine Zs hf fun _ aF=>?_;refine Zf (X0m (zs:=[vi x.n,.slice Ax x.gs.length cx]) O O) ?_;rintro _ w1 ⟨b3,rfl,aG,c,f⟩;have aM:=Q0 e.size aG;have e:=btr e c;refine Zf (Xl (zs:=[vi 0,vi 0,.slice none 0 0]) X1r O) ?_;rintro _ w2 ⟨b5,rfl,aH,c,b⟩;have aD:=Q0 e.size aH;have f:=f.bw c;have e:=btr e c;refine Zx aF fun a hf _ aI=>?_;refine Ze (Xi (ps:=[]) (cs:=[.bool false]) O (fun _=>by first|rfl|kernel_rfl))<|Zf (X0m (zs:=[.bool false]) O O) ?_;rintro _ w3 ⟨b7,rfl,aJ,c,g⟩;have aE:=Q0 e.size aJ;have f:=f.bw c;have b:=b.bw c;have e:=btr e c;refine Za O<|ZX aI fun a hf _ aK=>?_;refine X08 (some b7) (fun j=>[8].contains j) mixed ?_;intro w4 c;have f:=f.bw c;have b:=b.bw c;have g:=g.bw c;have e:=btr e c;refine Yb hf<|Yo 0 O (fun _=>X7 O) ?_;refine Yw 1 O tv0 (fun w1 h1=>Xx (l:=[vi x.n,.slice Ax x.gs.length cx]) O X0e ((f.oz h1 g O).at 0) O) ?_;refine Yo 2 O (fun _=>Vd O X1d 0) ?_;refine Yw 3 O tv0 (fun w1 h1=>X0 O X8 ((f.oz h1 g O).at 0)) ?_;refine Yo 4 O (fun _=>Xh4 (m:=x.n.toNat) Tryz.underlying3 Tryz.underlying151 O Z Z)<|Yo 5 O (fun _=>Xbp (m:=x.n.toNat) (D:=d) O O O ⟨hd,by omega⟩)<|Y1 6 ?_;refine Yf O tv0 (EfW.mono (Vc (Xvq _ d (by rw [hd];exact X5b hn.2)) Xhg) (fun _ _ h=>⟨fun _=>by obtain ⟨A9,c9,rfl,k,c⟩:=h;exact Keep.of_below c,h⟩)) ?_;rintro _ w5 ⟨A9,c9,rfl,k,c⟩;have k:=k.lower e.size;have b:=b.bw c;have g:=g.bw c;have e:=btr e c;refine Y1 7<|Yf O tv0 (EfW.mono (X23 (vs:=[(pZ9 b7),.agg #[vi x.n,.slice Ax x.gs.length cx],.agg #[vi ((unitS d).rows),vi ((unitS d).cols),.slice A9 ((unitS d).cells).length c9]]) O Xx8 (by have hq:=Y1y w5 b7 false g x Ax cx (aB.bx e).top (unitS d) A9 c9 k.rd.top hx (X3d (by rw [hd];exact X2j hn)).2 (by rw [<- hd];rfl);rw [q] at hq;dsimp only at hq;exact hq)) (fun _ _ h=>⟨fun _=>by obtain ⟨o,p,rfl,i,hK,aA⟩:=h;exact hK.keep,h⟩)) ?_;rintro _ w6 ⟨o,p,rfl,i,hK,aA⟩
 obtain ⟨wm,hO,hm,c⟩:=hK.mid;clear hm;have t:=g;have b:=b.oz hO t O;have e:=Below.oy e hO aE;have b:=b.bw c;have e:=btr e c
 clear t c hO hK;have g:=aA;clear aA;refine Y1 8<|Yh O tv0 O (Vw [vi M9.rows,vi M9.cols,.slice o M9.cells.length p] X19 b) ?_;rintro _ w7 ⟨ho,hb⟩;have i:=i.oT ho b O;have e:=Below.oy e ho aD;have b:=hb;refine Yd fun a hf=>?_;refine aK _ _ ?_
 refine Q6 (X4 hf (Xv hf O (ResV.cellN (l:=[vi M9.rows,vi M9.cols,.slice o M9.cells.length p]) O X0j (b.at 0) O)) ?_)
 rw [aC]
 exact ⟨o,p,O,i.top,e⟩
theorem Xuw(z:World)(Al:Option Addr)(cl:Nat)(l:List Gt)(b3:Rd z z.heap.size 59 encG Al l)(Aqs:Option Addr)(cqs:Nat)(qs:List Int)(h:Rd z z.heap.size 3 encI Aqs qs)(L:Nat)(D:∀ g ∈ l,(g.k≠12->0<=g.a/\g.a<(L:Int))/\(inR g.k 9 11=true->0<=g.b/\g.b<(L:Int)))(hL:qs.length=L)(cC:l.length<=1000000) : Ret Tryz.prog 69 [.slice Al l.length cl,.slice Aqs qs.length cqs] z (fun v w=>∃ A c,v=.slice A (mapI l qs).length c/\Own w z.heap.size 59 3 encG A c (mapI l qs)/\Below z.heap.size z w):=by
 refine enter Tryz.func69 O 37 O O ?_;intro a i
 have j:=bz z
 refine Zs i fun _ bJ=>?_;refine Za O<|Zx bJ fun a i _ bK=>?_;refine Za O<|ZX bK fun a i _ bL=>?_;refine Zs i fun _ bM=>?_;refine Zm O<|Ze (X0o O Xa)<|Zm O<|Zt bM fun a i=>?_;refine Q8<|X0d (σ:=Nat×(List Gt)) (fun (s:Nat×(List Gt)) (a:Act) (w:World)=>match s with|(k,q)=>∃ A9 c9,Fr a 37 [(1,.slice Aqs qs.length cqs),(5,.slice A9 q.length c9),(8,.slice Al l.length cl),(9,vi (l.length:Int)),(10,vi (k:Int))]/\(k<=l.length)/\(q=(l.take k).map (mapG qs))/\(q.length=k)/\Own w z.heap.size 59 3 encG A9 c9 q/\Below z.heap.size z w) (fun (s:Nat×(List Gt))=>match s with|(k,q)=>l.length-k) (0,[]) ?_ ?_
 ·exact ⟨none,0,i.sb,(Qf _),O,O,(Own.nil _ _ _ _ _),j⟩
 rintro ⟨k,q⟩ a w1 ⟨A9,c9,i,hk,hq,aC,f,j⟩;refine Zs i fun _ b4=>?_;refine Ze (X16 O O)<|ZX b4 fun a i _ b5=>?_
 refine X12 i O (fun aM b6=>?_) (fun aM b6=>?_)
 ·obtain ⟨d,x⟩:=Xj (l:=l) (k:=k) Z
  refine Q7<|b5 _ _<|Q5 fun _ C=>?_;refine Q8<|Zs i fun _ b7=>?_;refine Zi (k:=k) (u:=d) (enc:=encG) (l:=l) tv0 O O Xa X0g X9 (b3.bx j) x O ?_;intro cD aN;refine Ze (Xx (l:=[vi d.k,vi d.a,vi d.b]) O X01 aN O) ?_;refine ZB [vi d.k,vi d.a,vi d.b] X26 X0g fun aD w3 aE y e=>?_;have B:=Q0 j.size aE;have m:=f.away aE;have f:=f.bw y;have j:=btr j y;refine ZX b7 fun a i _ aF=>?_;refine Zs i fun _ b8=>?_;refine Ze (Vn X01 e)<|Zf (Vc (Xmf _ d) Xai) ?_;rintro _ w4 ⟨rfl,y⟩;have e:=e.bw y;have f:=f.bw y;have j:=btr j y;refine Zt b8 fun a i=>?_
  refine X04 i O (fun E=>?_) (fun E=>?_)
  ·have o:inR d.k 9 11=true:=E
   obtain ⟨cE,cF⟩:=(D d (Qe x)).2 o;refine Zr i<|Zm O<|Ze (Vd O X14 2)<|Ze (X0 O X8 (e.at 2))<|Zi (k:=d.b.toNat) (u:=(qs.getD d.b.toNat 0)) (enc:=encI) (l:=qs) tv0 O O Xy X1o Xt (h.bx j) (X7d Z) Z ?_;intro cG aO;refine Ze (X0 O X8 aO)<|Ze (Vd O X14 2)<|Zo (Vu (vs:=[vi (qs.getD d.b.toNat 0)]) (l':=[vi d.k,vi d.a,vi (qs.getD d.b.toNat 0)]) O O X1o e) ?_;rintro _ w5 ⟨ho,hb⟩;have f:=f.onlyA ho m;have j:=Below.oy j ho B;have e:=hb;refine ZX aF fun a i _ aG=>?_;refine Zs i fun _ b9=>?_;refine Ze (Vd O X0n 0)<|Ze (X0 O X8 (e.at 0))<|Ze (X47 O O)<|Zt b9 fun a i=>?_
   refine X04 i O (fun G=>?_) (fun G=>?_)
   ·have n:¬ d.k=12:=by simpa using G
    obtain ⟨bN,bO⟩:=(D d (Qe x)).1 n;refine Zr i<|Zm O<|Ze (Vd O X0p 1)<|Ze (X0 O X8 (e.at 1))<|Zi (k:=d.a.toNat) (u:=(qs.getD d.a.toNat 0)) (enc:=encI) (l:=qs) tv0 O O Xy X1o Xt (h.bx j) (X7d Z) Z ?_;intro cH aP;refine Ze (X0 O X8 aP)<|Ze (Vd O X0p 1)<|Zo (Vu (vs:=[vi (qs.getD d.a.toNat 0)]) (l':=[vi d.k,vi (qs.getD d.a.toNat 0),vi (qs.getD d.b.toNat 0)]) O O X1o e) ?_;rintro _ w6 ⟨ho,hb⟩;have f:=f.onlyA ho m;have j:=Below.oy j ho B;have e:=hb;refine Zt aG fun a i=>?_;refine Zr i<|Zm O<|Ze (Vn X01 e)<|Zf (X2 (k:=1) (vs:=[.agg #[vi d.k,vi (qs.getD d.a.toNat 0),vi (qs.getD d.b.toNat 0)]]) (zs:=[vi d.k,vi (qs.getD d.a.toNat 0),vi (qs.getD d.b.toNat 0)]) O Xa Xc O O) ?_;rintro _ w7 ⟨b29,rfl,aH,y,H⟩
    have aR:aD≠b29:=by have:=e.lt;omega
    have bP:=Q0 j.size aH;have I:=f.away aH;have e:=e.bw y;have f:=f.bw y;have j:=btr j y;refine Zf (X0i (enc:=encG) (l:=(q)) (l2:=([(⟨d.k,(qs.getD d.a.toNat 0),(qs.getD d.b.toNat 0)⟩ : Gt)])) (B0:=z.heap.size) O O Xa Xc X9 Xq f (Rd.of_blk H O _ H.lt) (by simp only [maxLen];simp;omega) O3 j.size) ?_;rintro _ w8 ⟨bQ,bR,rfl,bC,J,t⟩
    have p:Own _ z.heap.size 59 3 encG _ _ (q):=f
    have aS:=t _ e.lt m;have aT:=t _ H.lt I;clear t;have j:=Below.app j p J (Qb _) j.size;clear p J;refine Za O ?_;refine Zn fun a i=>?_;refine Xn<|C _ _<|Zr i<|Ze (X03 O O Z Z)<|Zm O ?_;refine Zn fun a i=>?_;refine Xd ?_;exact ⟨(k+1,q++([(⟨d.k,(qs.getD d.a.toNat 0),(qs.getD d.b.toNat 0)⟩ : Gt)])),⟨bQ,bR,i.sb,Z,(X5q hq x (by unfold mapG;first|rw [Q4 n,Q4 o]|rw [Q4 n,Q3 (by rw [o];decide)]|rw [Q3 n,Q4 o]|rw [Q3 n,Q3 (by rw [o];decide)])),(by simp;exact aC),bC,j⟩,O1⟩
   have n:d.k=12:=by simpa using G
   refine Q7<|aG _ _<|Zr i<|Zm O<|Ze (Vn X01 e)<|Zf (X2 (k:=1) (vs:=[.agg #[vi d.k,vi d.a,vi (qs.getD d.b.toNat 0)]]) (zs:=[vi d.k,vi d.a,vi (qs.getD d.b.toNat 0)]) O Xa Xc O O) ?_;rintro _ w9 ⟨b32,rfl,aI,y,M⟩
   have aU:aD≠b32:=by have:=e.lt;omega
   have bS:=Q0 j.size aI;have N:=f.away aI;have e:=e.bw y;have f:=f.bw y;have j:=btr j y;refine Zf (X0i (enc:=encG) (l:=(q)) (l2:=([(⟨d.k,d.a,(qs.getD d.b.toNat 0)⟩ : Gt)])) (B0:=z.heap.size) O O Xa Xc X9 Xq f (Rd.of_blk M O _ M.lt) (by simp only [maxLen];simp;omega) O3 j.size) ?_;rintro _ cI ⟨bU,bW,rfl,bD,J,t⟩
   have p:Own _ z.heap.size 59 3 encG _ _ (q):=f
   have aV:=t _ e.lt m;have aW:=t _ M.lt N;clear t;have j:=Below.app j p J (Qb _) j.size;clear p J;refine Za O ?_;refine Zn fun a i=>?_;refine Xn<|C _ _<|Zr i<|Ze (X03 O O Z Z)<|Zm O ?_;refine Zn fun a i=>?_;refine Xd ?_;exact ⟨(k+1,q++([(⟨d.k,d.a,(qs.getD d.b.toNat 0)⟩ : Gt)])),⟨bU,bW,i.sb,Z,(X5q hq x (by unfold mapG;first|rw [Q4 n,Q4 o]|rw [Q4 n,Q3 (by rw [o];decide)]|rw [Q3 n,Q4 o]|rw [Q3 n,Q3 (by rw [o];decide)])),(by simp;exact aC),bD,j⟩,O1⟩
  have o:inR d.k 9 11=false:=E
  refine Q7<|aF _ _<|Q5 fun _ aJ=>?_;refine Zs i fun _ bE=>?_;refine Ze (Vd O X0n 0)<|Ze (X0 O X8 (e.at 0))<|Ze (X47 O O)<|Zt bE fun a i=>?_
  refine X04 i O (fun Q=>?_) (fun Q=>?_)
  ·have n:¬ d.k=12:=by simpa using Q
   obtain ⟨bN,bO⟩:=(D d (Qe x)).1 n;refine Zr i<|Zm O<|Ze (Vd O X0p 1)<|Ze (X0 O X8 (e.at 1))<|Zi (k:=d.a.toNat) (u:=(qs.getD d.a.toNat 0)) (enc:=encI) (l:=qs) tv0 O O Xy X1o Xt (h.bx j) (X7d Z) Z ?_;intro cJ aQ;refine Ze (X0 O X8 aQ)<|Ze (Vd O X0p 1)<|Zo (Vu (vs:=[vi (qs.getD d.a.toNat 0)]) (l':=[vi d.k,vi (qs.getD d.a.toNat 0),vi d.b]) O O X1o e) ?_;rintro _ cK ⟨ho,hb⟩;have f:=f.onlyA ho m;have j:=Below.oy j ho B;have e:=hb;refine Zt aJ fun a i=>?_;refine Zr i<|Zm O<|Ze (Vn X01 e)<|Zf (X2 (k:=1) (vs:=[.agg #[vi d.k,vi (qs.getD d.a.toNat 0),vi d.b]]) (zs:=[vi d.k,vi (qs.getD d.a.toNat 0),vi d.b]) O Xa Xc O O) ?_;rintro _ cL ⟨b40,rfl,aK,y,U⟩
   have aX:aD≠b40:=by have:=e.lt;omega
   have bX:=Q0 j.size aK;have W:=f.away aK;have e:=e.bw y;have f:=f.bw y;have j:=btr j y;refine Zf (X0i (enc:=encG) (l:=(q)) (l2:=([(⟨d.k,(qs.getD d.a.toNat 0),d.b⟩ : Gt)])) (B0:=z.heap.size) O O Xa Xc X9 Xq f (Rd.of_blk U O _ U.lt) (by simp only [maxLen];simp;omega) O3 j.size) ?_;rintro _ cM ⟨bY,bZ,rfl,bF,J,t⟩
   have p:Own _ z.heap.size 59 3 encG _ _ (q):=f
   have aY:=t _ e.lt m;have aZ:=t _ U.lt W;clear t;have j:=Below.app j p J (Qb _) j.size;clear p J;refine Za O ?_;refine Zn fun a i=>?_;refine Xn<|C _ _<|Zr i<|Ze (X03 O O Z Z)<|Zm O ?_;refine Zn fun a i=>?_;refine Xd ?_;exact ⟨(k+1,q++([(⟨d.k,(qs.getD d.a.toNat 0),d.b⟩ : Gt)])),⟨bY,bZ,i.sb,Z,(X5q hq x (by unfold mapG;first|rw [Q4 n,Q4 o]|rw [Q4 n,Q3 (by rw [o];decide)]|rw [Q3 n,Q4 o]|rw [Q3 n,Q3 (by rw [o];decide)])),(by simp;exact aC),bF,j⟩,O1⟩
  have n:d.k=12:=by simpa using Q
  refine Q7<|aJ _ _<|Zr i<|Zm O<|Ze (Vn X01 e)<|Zf (X2 (k:=1) (vs:=[.agg #[vi d.k,vi d.a,vi d.b]]) (zs:=[vi d.k,vi d.a,vi d.b]) O Xa Xc O O) ?_;rintro _ cN ⟨b43,rfl,aL,y,aA⟩
  have b0:aD≠b43:=by have:=e.lt;omega
  have c4:=Q0 j.size aL;have aB:=f.away aL;have e:=e.bw y;have f:=f.bw y;have j:=btr j y;refine Zf (X0i (enc:=encG) (l:=(q)) (l2:=([d])) (B0:=z.heap.size) O O Xa Xc X9 Xq f (Rd.of_blk aA O _ aA.lt) (by simp only [maxLen];simp;omega) O3 j.size) ?_;rintro _ cO ⟨cA,cB,rfl,bG,J,t⟩
  have p:Own _ z.heap.size 59 3 encG _ _ (q):=f
  have b1:=t _ e.lt m;have b2:=t _ aA.lt aB;clear t;have j:=Below.app j p J (Qb _) j.size;clear p J;refine Za O ?_;refine Zn fun a i=>?_;refine Xn<|C _ _<|Zr i<|Ze (X03 O O Z Z)<|Zm O ?_;refine Zn fun a i=>?_;refine Xd ?_;exact ⟨(k+1,q++([d])),⟨cA,cB,i.sb,Z,(X5q hq x (by unfold mapG;first|rw [Q4 n,Q4 o]|rw [Q4 n,Q3 (by rw [o];decide)]|rw [Q3 n,Q4 o]|rw [Q3 n,Q3 (by rw [o];decide)])),(by simp;exact aC),bG,j⟩,O1⟩
 have bH:q=mapI l qs:=by rw [hq,Qi Z];rfl
 refine Q9<|Xm<|Xm<|X0a ?_;refine bL _ _<|Zs i fun _ bI=>?_;refine Zm O<|Za O<|Zt bI fun a i=>?_
 refine Q6 (X4 i (Xv i O O) ?_)
 subst bH
 exact ⟨A9,c9,O,f,j⟩
theorem Xus(w0:World)(c:Cx)(Ac:Option Addr)(cc:Nat)(e:Rd w0 w0.heap.size 59 encG Ac c.gs)(G:c.gs.length<=cc)(p:Int)(Aqs:Option Addr)(cqs:Nat)(qs:List Int)(b:Rd w0 w0.heap.size 3 encI Aqs qs)(H:cOk c=true)(bE:qs.length<=1048576) : Ret Tryz.prog 24 [.agg #[vi c.n,.slice Ac c.gs.length cc],vi p,.slice Aqs qs.length cqs] w0 (fun v w=>∃ A9 e9 B9 f9,v=.tuple #[.agg #[vi ((shrX c p qs).getD rpZ).pos,.slice A9 ((shrX c p qs).getD rpZ).old.length e9,.slice B9 ((shrX c p qs).getD rpZ).new.length f9],.bool (shrX c p qs).isSome]/\Own w w0.heap.size 59 3 encG A9 e9 ((shrX c p qs).getD rpZ).old/\Own w w0.heap.size 59 3 encG B9 f9 ((shrX c p qs).getD rpZ).new/\Apart A9 B9/\Below w0.heap.size w0 w):=by
 obtain ⟨rr,cG⟩ : ∃ rr,rr=(runX c p qs).getD []:=⟨_,O⟩
 obtain ⟨ro,bI⟩ : ∃ ro:Bool,ro=(runX c p qs).isSome:=⟨_,O⟩
 have eQ:c.gs.length<=400:=(X10 H).2.1
 refine enter Tryz.func24 O 75 O O ?_;intro a y
 have u:=bz w0
 refine Zs y fun _ eB=>?_;refine Zf (X0m (zs:=[vi c.n,.slice Ac c.gs.length cc]) O O) ?_;rintro _ w1 ⟨b4,rfl,eC,d,m⟩;have eR:=Q0 u.size eC;have e:=e.bw d;have b:=b.bw d;have u:=btr u d;refine Zf (Xl (zs:=[vi 0,.slice none 0 0,.slice none 0 0]) X2v O) ?_;rintro _ w2 ⟨b7,rfl,eD,d,f⟩;have Q:=Q0 u.size eD;have m:=m.bw d;have e:=e.bw d;have b:=b.bw d;have u:=btr u d;refine Za O<|Zx eB fun a y _ eE=>?_;refine Ze (Vn X0e m)<|Zm O<|Zm O<|Zf (X23 (vs:=[.agg #[vi c.n,.slice Ac c.gs.length cc],vi p,.slice Aqs qs.length cqs]) O Xsr (by have hq:=Y05 w2 c Ac cc e.top p Aqs cqs qs b.top H bE;rw [<- cG,<- bI] at hq;exact hq)) ?_;rintro _ w3 ⟨A9,c9,rfl,o,d⟩;have o:=o.lower u.size;have m:=m.bw d;have f:=f.bw d;have e:=e.bw d;have b:=b.bw d;have u:=btr u d;refine Zm O<|Ze (X3 (vs:=[.slice A9 rr.length c9,.bool ro]) O O)<|Ze (X3 (vs:=[.slice A9 rr.length c9,.bool ro]) O O)<|Za O<|Za O<|ZX eE fun a y _ cH=>?_;refine Zs y fun _ cI=>?_;refine Zm O<|Ze (X0x O)<|Zt cI fun a y=>?_
 refine X04 y O (fun aV=>?_) (fun aV=>?_)
 ·have C:shrX c p qs=none:=by unfold shrX;rw [Xq1 (by rw [<- bI];exact bn1 aV)];rfl
  refine Zs y fun _ cJ=>?_;refine Ze (Xi (ps:=[]) (cs:=[vi 0,.slice none 0 0,.slice none 0 0]) O (fun _=>by first|rfl|kernel_rfl))<|Zo (Vw [vi 0,.slice none 0 0,.slice none 0 0] X17 f) ?_;rintro _ w4 ⟨E,hb⟩;have u:=Below.oy u E Q;have f:=hb;refine Za O<|Zt cJ fun a y=>?_;refine Q6<|X5<|X4 y (X0q y O (ResV.cellN (l:=[vi 0,.slice none 0 0,.slice none 0 0]) O X1g (f.at 0) O) O) ?_
  rw [C]
  exact ⟨none,0,none,0,O,(Own.nil _ _ _ _ _),(Own.nil _ _ _ _ _),(Apart.none_l _),u⟩
 obtain ⟨aF,cK⟩:=Xts (c:=c) (p:=p) (qs:=qs) (by rw [<- bI];exact bn2 aV)
 have aE:rr=runL c p qs:=by rw [cG,cK];rfl
 have eS:rr.length<=6:=by rw [aE];exact X8k ..
 have eT:1<=rr.length:=by rw [aE];exact X9s aF
 obtain ⟨N,eF,eV⟩:=X7n H aF
 have cL:∀ i ∈ rr,∃ j:Nat,i=(j:Int)/\j<c.gs.length:=fun i hi=>by rw [aE] at hi;obtain ⟨j,h1,h2,_⟩:=X43 aF i hi;exact ⟨j,h1,h2⟩
 have eU:=X3i c rr
 have eG:∀ g ∈ gatL c rr,GoodG qs c.n g/\insB g qs=true:=fun g hg=>X58 H aF g (by rw [<- aE];exact hg)
 obtain ⟨cM,eH,z,D,eW,cN,eX,eY,cO⟩:=Xkz H aF
 rw [<- aE] at cM eH D
 have aM:shrX c p qs=plX c p qs rr:=by unfold shrX;rw [cK,aE];rfl
 have bF:tcN (xC c rr qs).gs=tcN (gatL c rr):=Xqm qs (gatL c rr)
 refine Q7<|cH _ _<|Zs y fun _ cP=>?_;refine Ze (Vn X0e m)<|Zm O<|Zm O<|Zf (Vc (Y06 _ c Ac cc e.top A9 c9 rr o.rd.top Aqs cqs qs b.top H Z cL eG eF bE) Xss) ?_;rintro _ w5 ⟨aC,aD,rfl,k,d⟩;have k:=k.lower u.size;have m:=m.bw d;have f:=f.bw d;have e:=e.bw d;have b:=b.bw d;have o:=o.bw d;have u:=btr u d;refine ZB [vi ((xC c rr qs).n),.slice aC ((xC c rr qs).gs).length aD] X2y X1b fun b19 w7 cQ d q=>?_
 have cR:b4≠b19:=by have:=m.lt;omega
 have eI:=Q0 u.size cQ;have m:=m.bw d;have f:=f.bw d;have e:=e.bw d;have b:=b.bw d;have o:=o.bw d;have k:=k.bw d;have u:=btr u d;refine Zx cP fun a y _ cS=>?_;refine Ze (Vn X0e q)<|Zf (X23 (vs:=[.agg #[vi ((xC c rr qs).n),.slice aC ((xC c rr qs).gs).length aD]]) O Xst (by have hq:=Y07 w7 (xC c rr qs) aC aD k.rd.top cM z D;rw [D,Qq] at hq;exact hq)) ?_;rintro _ w8 ⟨aG,aW,rfl,x,d⟩;have m:=m.bw d;have f:=f.bw d;have q:=q.bw d;have e:=e.bw d;have b:=b.bw d;have o:=o.bw d;have k:=k.bw d;have u:=btr u d;refine Zf (Xl (zs:=[vi 0,vi 0,.slice none 0 0]) X1r O) ?_;rintro _ w9 ⟨bG,rfl,cT,d,t⟩;have bJ:=Q0 u.size cT;have m:=m.bw d;have f:=f.bw d;have q:=q.bw d;have e:=e.bw d;have b:=b.bw d;have o:=o.bw d;have k:=k.bw d;have x:=x.bw d;have u:=btr u d;refine Zo (Vw [vi z.rows,vi z.cols,.slice aG z.cells.length aW] X19 t) ?_;rintro _ eZ ⟨E,hb⟩;have m:=m.oz E t O;have f:=f.oz E t O;have q:=q.oz E t O;have e:=e.oT E t O;have b:=b.oT E t O;have o:=o.oT E t O;have k:=k.oT E t O;have x:=x.oT E t O;have u:=Below.oy u E bJ;have t:=hb;refine Zx cS fun a y _ cU=>?_;refine Zm O<|Ze (X0o O Xy)<|Ze (X18 O O Z Z)<|Za O<|ZX cU fun a y _ bH=>?_
 refine Zs y fun _ cV=>?_;refine Zm O<|Ze (X0o O Xy)<|Ze (X13 O O)<|Zt cV fun a y=>?_
 refine X04 y O (fun aX=>?_) (fun aX=>?_)
 ·have eJ:qs.length=2:=by have h9:(qs.length:Int)=2:=(by simpa using aX);omega
  have aY:KN qs.length=3:=by rw [eJ];rfl
  refine Zr y<|Zm O<|Zf (Vc (Xum _ ((rr.length:Int)-1) 3) Xj1) ?_;rintro _ f0 ⟨rfl,d⟩;have m:=m.bw d;have f:=f.bw d;have q:=q.bw d;have t:=t.bw d;have e:=e.bw d;have b:=b.bw d;have o:=o.bw d;have k:=k.bw d;have x:=x.bw d;have u:=btr u d;refine Za O<|ZX bH fun a y _ cW=>?_;refine Zs y fun _ cX=>?_;refine Za O<|Zt cX fun a y=>?_;refine Q8<|X0d (σ:=Nat) (fun (j:Nat) (a:Act) (w:World)=>Fr a 75 [(2,.slice Aqs qs.length cqs),(3,(pZ9 b4)),(6,(pZ9 b7)),(8,.slice A9 rr.length c9),(10,(pZ9 b19)),(11,(pZ9 bG)),(12,vi (min ((rr.length:Int)-1) 3)),(13,vi (j:Int))]/\(j<=7)/\(∀ i,i<j->fdS qs.length z i (unitS (2^qs.length))=none)/\Blk w b4 25 [vi c.n,.slice Ac c.gs.length cc]/\Blk w b7 36 [vi 0,.slice none 0 0,.slice none 0 0]/\Blk w b19 25 [vi ((xC c rr qs).n),.slice aC ((xC c rr qs).gs).length aD]/\Blk w bG 92 [vi z.rows,vi z.cols,.slice aG z.cells.length aW]/\Rd w w0.heap.size 59 encG Ac c.gs/\Rd w w0.heap.size 3 encI Aqs qs/\Own w w0.heap.size 3 1 encI A9 c9 rr/\Own w w0.heap.size 59 3 encG aC aD ((xC c rr qs).gs)/\Rd w w8.heap.size 139 encD aG z.cells/\c.gs.length<=cc/\Below w0.heap.size w0 w) (fun (j:Nat)=>8-j) 0 ?_ ?_
  ·exact ⟨y.sb,Z,(fun i hi=>absurd hi Z),m,f,q,t,e,b,o,k,x,G,u⟩
  rintro j a f5 ⟨y,eK,aH,m,f,q,t,e,b,o,k,x,G,u⟩;refine Q5 fun _ cY=>?_;refine Zs y fun _ d5=>?_;refine Zm O<|Zm O<|Ze (X6i O O)<|Zt d5 fun a y=>?_
  refine X12 y O (fun bK aZ=>?_) (fun bK aZ=>?_)
  ·have bL:=aZ
   have bM:j<=KN qs.length:=by rw [aY];omega
   have eL:j<rr.length:=by omega
   refine Q7<|cY _ _<|Q5 fun _ d6=>?_;refine Q8<|Q5 fun _ d7=>?_;refine X08 none (fun _=>false) mixed ?_;intro f6 d;have m:=m.bw d;have f:=f.bw d;have q:=q.bw d;have t:=t.bw d;have e:=e.bw d;have b:=b.bw d;have o:=o.bw d;have k:=k.bw d;have x:=x.bw d;have u:=btr u d;refine Yb y<|Yo 0 O (fun _=>X7 O)<|Yo 1 O (fun _=>X0o O Xy)<|Yo 2 O (fun _=>Vd O X22 0)<|Ye 3 O (Vx (X0 O X8 (t.at 0)) cN)<|Ye 5 O (Vn X0j t)<|Yo 6 O (fun _=>X7 O)<|Y1 4 ?_;refine Yk O tv0 (Vc (Xvq _ (2^qs.length:Nat) (by rcases N with h|h<;>rw [h]<;>decide)) Xhg) (fun _ _ ⟨d8,d9,_,aK,d⟩=>d) ?_;rintro _ f7 ⟨d8,d9,rfl,aK,d⟩;have aK:=aK.lower u.size;have m:=m.bw d;have f:=f.bw d;have q:=q.bw d;have t:=t.bw d;have e:=e.bw d;have b:=b.bw d;have o:=o.bw d;have k:=k.bw d;have x:=x.bw d;have u:=btr u d;refine Y1 7<|Yk O tv0 (Vc (Xup _ qs.length (unitS (2^qs.length:Nat)) d8 d9 aK.rd.top z aG aW x.top j N [] 0 Z (Qm.2 O) (X7x _ N).symm cO) Xdq) (fun _ _ ⟨b0,b1,_,A,d⟩=>d) ?_;rintro _ f8 ⟨b0,b1,rfl,A,d⟩;have bU:=k.apart A (Qb _);have A:=A.lower u.size;have m:=m.bw d;have f:=f.bw d;have q:=q.bw d;have t:=t.bw d;have e:=e.bw d;have b:=b.bw d;have o:=o.bw d;have k:=k.bw d;have x:=x.bw d;have u:=btr u d;refine Yo 8 O (fun _=>X7 O)<|Yo 9 O (fun _=>X3 (vs:=[.slice b0 ((fdS qs.length z j (unitS (2^qs.length:Nat))).getD []).length b1,.bool ((fdS qs.length z j (unitS (2^qs.length:Nat))).isSome)]) O O)<|Yo 10 O (fun _=>X3 (vs:=[.slice b0 ((fdS qs.length z j (unitS (2^qs.length:Nat))).getD []).length b1,.bool ((fdS qs.length z j (unitS (2^qs.length:Nat))).isSome)]) O O)<|Yo 11 O (fun _=>X0y O)<|Yo 12 O (fun _=>X0y O) ?_
   refine Yd fun a y=>?_;refine d7 _ _<|Q5 fun _ dA=>?_;refine Zs y fun _ dB=>?_;refine Zm O<|Ze (X0x O)<|Zt dB fun a y=>?_
   refine X04 y O (fun b2=>?_) (fun b2=>?_)
   ·have bN:(fdS qs.length z j (unitS (2^qs.length))).isSome=false:=bn1 b2
    refine Q9<|Xm<|X0a<|d6 _ _ ?_;refine Zr y<|Zm O<|Ze (X03 O O Z Z)<|Za O ?_;refine Zn fun a y=>?_;refine Xd ?_;exact ⟨j+1,⟨y.sb,Z,(Xcp aH bN),m,f,q,t,e,b,o,k,x,G,u⟩,Z⟩
   have bO:(fdS qs.length z j (unitS (2^qs.length))).isSome=true:=by simpa using b2
   obtain ⟨aI,eM⟩:=Xgs N bM aH bO;have b3:=X6e aI;have bP:=Xe4 N b3.2;have eN:=b3.1;have eO:=X8q qs.length;refine Q7<|dA _ _<|Q5 fun _ dC=>?_;refine Q5 fun _ dD=>?_;refine X08 none (fun _=>false) mixed ?_;intro fA d;have m:=m.bw d;have f:=f.bw d;have q:=q.bw d;have e:=e.bw d;have b:=b.bw d;have o:=o.bw d;have k:=k.bw d;have A:=A.bw d;have u:=btr u d;refine Yb y<|Yo 0 O (fun _=>X7 O)<|Yo 2 O (fun _=>Vd O X05 1)<|Ye 3 O (X0 O X0l (q.at 1))<|Y1 1 ?_;refine Yk O tv0 (Vc (Xih _ b0 b1 ((fdS qs.length z j (unitS (2^qs.length:Nat))).getD []) A.rd.top Z) X9i) (fun _ _ ⟨_,d⟩=>d) ?_;rintro _ fB ⟨rfl,d⟩;have m:=m.bw d;have f:=f.bw d;have e:=e.bw d;have b:=b.bw d;have o:=o.bw d;have k:=k.bw d;have A:=A.bw d;have u:=btr u d;refine Y1 4<|Yk O tv0 (Vc (Xih _ aC aD ((xC c rr qs).gs) k.rd.top (by show ((gatL c rr).map (smallG qs)).length<=_;rw [Qo];omega)) X9i) (fun _ _ ⟨_,d⟩=>d) ?_;rintro _ fC ⟨rfl,d⟩;have m:=m.bw d;have f:=f.bw d;have e:=e.bw d;have b:=b.bw d;have o:=o.bw d;have A:=A.bw d;have u:=btr u d;refine Yo 5 O (fun _=>X29 O O) ?_;refine Yd fun a y=>?_;refine dD _ _ ?_
   refine X12 y O (fun bQ b5=>?_) (fun bQ b5=>?_)
   ·have aJ:=b5
    rw [bF] at aJ
    have C:shrX c p qs=none:=by
     rw [aM]
     refine X67 D fun w9 h9 h8=>?_
     rw [aI] at h9
     injection h9 with h9
     subst h9
     omega
    refine Zs y fun _ dE=>?_;refine Ze (Xi (ps:=[]) (cs:=[vi 0,.slice none 0 0,.slice none 0 0]) O (fun _=>by first|rfl|kernel_rfl))<|Zo (Vw [vi 0,.slice none 0 0,.slice none 0 0] X17 f) ?_;rintro _ fD ⟨E,hb⟩;have u:=Below.oy u E Q;have f:=hb;refine Za O<|Zt dE fun a y=>?_;refine Q6<|X5<|Xo<|X5 ?_;refine X5<|Xo<|X5<|X4 y (X0q y O (ResV.cellN (l:=[vi 0,.slice none 0 0,.slice none 0 0]) O X1g (f.at 0) O) O) ?_
    rw [C]
    exact ⟨none,0,none,0,O,(Own.nil _ _ _ _ _),(Own.nil _ _ _ _ _),(Apart.none_l _),u⟩
   have aJ:=b5
   rw [bF] at aJ
   have C:shrX c p qs=repX c p rr qs (mapI ((fdS qs.length z j (unitS (2^qs.length))).getD []) qs):=by
    rw [aM]
    exact X9o D aI ⟨by omega,by omega⟩
   refine Q7<|dC _ _<|Q5 fun _ dF=>?_;refine X08 none (fun j=>[9].contains j) mixed ?_;intro fE d;have m:=m.bw d;have f:=f.bw d;have e:=e.bw d;have b:=b.bw d;have o:=o.bw d;have A:=A.bw d;have u:=btr u d;refine Yb y<|Ye 0 O (Vn X0e m)<|Yo 1 O (fun _=>X7 O)<|Yo 2 O (fun _=>X7 O)<|Yo 3 O (fun _=>X7 O)<|Yo 4 O (fun _=>X7 O)<|Y1 5 ?_;refine Yk O tv0 (Vc (Xuw _ b0 b1 ((fdS qs.length z j (unitS (2^qs.length:Nat))).getD []) A.rd.top Aqs cqs qs b.top qs.length bP O Z) Xja) (fun _ _ ⟨dG,dH,_,U,d⟩=>d) ?_;rintro _ fF ⟨dG,dH,rfl,U,d⟩;have bW:=A.apart U (Qb _);have U:=U.lower u.size;have f:=f.bw d;have e:=e.bw d;have b:=b.bw d;have o:=o.bw d;have A:=A.bw d;have u:=btr u d;refine Y1 6<|Yk O tv0 (Vc (Xuv _ c Ac cc e.top G A9 c9 rr o.rd.top Aqs cqs qs b.top dG dH (mapI ((fdS qs.length z j (unitS (2^qs.length:Nat))).getD []) qs) U.rd.top p H aF aE (by unfold mapI;rw [Qo];omega) bE) Xj9) (fun _ _ ⟨aN,aO,aP,aQ,_,I,J,aA,d⟩=>d) ?_;rintro _ fG ⟨aN,aO,aP,aQ,rfl,I,J,aA,d⟩;have bX:=A.apart I (Qb _);have bY:=U.apart I (Qb _);have I:=I.lower u.size;have bZ:=A.apart J (Qb _);have c4:=U.apart J (Qb _);have J:=J.lower u.size;have f:=f.bw d;have u:=btr u d;refine Yo 7 O (fun _=>X3 (vs:=[.agg #[vi (((repX c p rr qs (mapI ((fdS qs.length z j (unitS (2^qs.length:Nat))).getD []) qs)).getD rpZ).pos),.slice aN (((repX c p rr qs (mapI ((fdS qs.length z j (unitS (2^qs.length:Nat))).getD []) qs)).getD rpZ).old).length aO,.slice aP (((repX c p rr qs (mapI ((fdS qs.length z j (unitS (2^qs.length:Nat))).getD []) qs)).getD rpZ).new).length aQ],.bool ((repX c p rr qs (mapI ((fdS qs.length z j (unitS (2^qs.length:Nat))).getD []) qs)).isSome)]) O O)<|Yo 8 O (fun _=>X3 (vs:=[.agg #[vi (((repX c p rr qs (mapI ((fdS qs.length z j (unitS (2^qs.length:Nat))).getD []) qs)).getD rpZ).pos),.slice aN (((repX c p rr qs (mapI ((fdS qs.length z j (unitS (2^qs.length:Nat))).getD []) qs)).getD rpZ).old).length aO,.slice aP (((repX c p rr qs (mapI ((fdS qs.length z j (unitS (2^qs.length:Nat))).getD []) qs)).getD rpZ).new).length aQ],.bool ((repX c p rr qs (mapI ((fdS qs.length z j (unitS (2^qs.length:Nat))).getD []) qs)).isSome)]) O O)<|Y1 9 ?_
   refine Yh O tv0 O (Vw [vi (((repX c p rr qs (mapI ((fdS qs.length z j (unitS (2^qs.length:Nat))).getD []) qs)).getD rpZ).pos),.slice aN (((repX c p rr qs (mapI ((fdS qs.length z j (unitS (2^qs.length:Nat))).getD []) qs)).getD rpZ).old).length aO,.slice aP (((repX c p rr qs (mapI ((fdS qs.length z j (unitS (2^qs.length:Nat))).getD []) qs)).getD rpZ).new).length aQ] X17 f) ?_;rintro _ fH ⟨E,hb⟩;have I:=I.oT E f O;have J:=J.oT E f O;have u:=Below.oy u E Q;have f:=hb;refine Yo 10 O (fun _=>X0y O) ?_;refine Yd fun a y=>?_;refine dF _ _<|Q6<|Xo<|X5 ?_;refine X5<|Xo<|X5<|X4 y (X0q y O (ResV.cellN (l:=[vi (((repX c p rr qs (mapI ((fdS qs.length z j (unitS (2^qs.length:Nat))).getD []) qs)).getD rpZ).pos),.slice aN (((repX c p rr qs (mapI ((fdS qs.length z j (unitS (2^qs.length:Nat))).getD []) qs)).getD rpZ).old).length aO,.slice aP (((repX c p rr qs (mapI ((fdS qs.length z j (unitS (2^qs.length:Nat))).getD []) qs)).getD rpZ).new).length aQ]) O X1g (f.at 0) O) O) ?_
   rw [C]
   exact ⟨aN,aO,aP,aQ,O,I,J,aA,u⟩
  have bL:=aZ
  have C:shrX c p qs=none:=by
   rw [aM]
   refine X67 D fun w9 h9 h8=>?_;have h7:=Xqd N aH w9 h9;have h6:=(X6e h9).1
   rw [aY] at h6
   omega
  refine Q9<|Xm<|Xm<|X0a ?_;refine cW _ _<|Zs y fun _ dI=>?_;refine Ze (Xi (ps:=[]) (cs:=[vi 0,.slice none 0 0,.slice none 0 0]) O (fun _=>by first|rfl|kernel_rfl))<|Zo (Vw [vi 0,.slice none 0 0,.slice none 0 0] X17 f) ?_;rintro _ fI ⟨E,hb⟩;have u:=Below.oy u E Q;have f:=hb;refine Za O<|Zt dI fun a y=>?_
  refine Q6 (X4 y (X0q y O (ResV.cellN (l:=[vi 0,.slice none 0 0,.slice none 0 0]) O X1g (f.at 0) O) O) ?_)
  rw [C]
  exact ⟨none,0,none,0,O,(Own.nil _ _ _ _ _),(Own.nil _ _ _ _ _),(Apart.none_l _),u⟩
 have eP:qs.length=1:=by have h9:¬ (qs.length:Int)=2:=(by simpa using aX);omega
 have aY:KN qs.length=5:=by rw [eP];rfl
 refine Q7<|bH _ _<|Q5 fun _ dJ=>?_;refine Zs y fun _ dK=>?_;refine Za O<|Zt dK fun a y=>?_;refine Q8<|X0d (σ:=Nat) (fun (j:Nat) (a:Act) (w:World)=>Fr a 75 [(2,.slice Aqs qs.length cqs),(3,(pZ9 b4)),(6,(pZ9 b7)),(8,.slice A9 rr.length c9),(10,(pZ9 b19)),(11,(pZ9 bG)),(12,vi ((rr.length:Int)-1)),(13,vi (j:Int))]/\(j<=7)/\(∀ i,i<j->fdS qs.length z i (unitS (2^qs.length))=none)/\Blk w b4 25 [vi c.n,.slice Ac c.gs.length cc]/\Blk w b7 36 [vi 0,.slice none 0 0,.slice none 0 0]/\Blk w b19 25 [vi ((xC c rr qs).n),.slice aC ((xC c rr qs).gs).length aD]/\Blk w bG 92 [vi z.rows,vi z.cols,.slice aG z.cells.length aW]/\Rd w w0.heap.size 59 encG Ac c.gs/\Rd w w0.heap.size 3 encI Aqs qs/\Own w w0.heap.size 3 1 encI A9 c9 rr/\Own w w0.heap.size 59 3 encG aC aD ((xC c rr qs).gs)/\Rd w w8.heap.size 139 encD aG z.cells/\c.gs.length<=cc/\Below w0.heap.size w0 w) (fun (j:Nat)=>8-j) 0 ?_ ?_
 ·exact ⟨y.sb,Z,(fun i hi=>absurd hi Z),m,f,q,t,e,b,o,k,x,G,u⟩
 rintro j a fJ ⟨y,eK,aH,m,f,q,t,e,b,o,k,x,G,u⟩;refine Q5 fun _ dL=>?_;refine Zs y fun _ dM=>?_;refine Zm O<|Zm O<|Ze (X6i O O)<|Zt dM fun a y=>?_
 refine X12 y O (fun bR b6=>?_) (fun bR b6=>?_)
 ·have bL:=b6
  have bM:j<=KN qs.length:=by rw [aY];omega
  have eL:j<rr.length:=by omega
  refine Q7<|dL _ _<|Q5 fun _ dN=>?_;refine Q8<|Q5 fun _ dO=>?_;refine X08 none (fun _=>false) mixed ?_;intro fK d;have m:=m.bw d;have f:=f.bw d;have q:=q.bw d;have t:=t.bw d;have e:=e.bw d;have b:=b.bw d;have o:=o.bw d;have k:=k.bw d;have x:=x.bw d;have u:=btr u d;refine Yb y<|Yo 0 O (fun _=>X7 O)<|Yo 1 O (fun _=>X0o O Xy)<|Yo 2 O (fun _=>Vd O X22 0)<|Ye 3 O (Vx (X0 O X8 (t.at 0)) cN)<|Ye 5 O (Vn X0j t)<|Yo 6 O (fun _=>X7 O)<|Y1 4 ?_;refine Yk O tv0 (Vc (Xvq _ (2^qs.length:Nat) (by rcases N with h|h<;>rw [h]<;>decide)) Xhg) (fun _ _ ⟨dP,dQ,_,aL,d⟩=>d) ?_;rintro _ fL ⟨dP,dQ,rfl,aL,d⟩;have aL:=aL.lower u.size;have m:=m.bw d;have f:=f.bw d;have q:=q.bw d;have t:=t.bw d;have e:=e.bw d;have b:=b.bw d;have o:=o.bw d;have k:=k.bw d;have x:=x.bw d;have u:=btr u d;refine Y1 7<|Yk O tv0 (Vc (Xup _ qs.length (unitS (2^qs.length:Nat)) dP dQ aL.rd.top z aG aW x.top j N [] 0 Z (Qm.2 O) (X7x _ N).symm cO) Xdq) (fun _ _ ⟨b8,b9,_,B,d⟩=>d) ?_;rintro _ fM ⟨b8,b9,rfl,B,d⟩;have cA:=k.apart B (Qb _);have B:=B.lower u.size;have m:=m.bw d;have f:=f.bw d;have q:=q.bw d;have t:=t.bw d;have e:=e.bw d;have b:=b.bw d;have o:=o.bw d;have k:=k.bw d;have x:=x.bw d;have u:=btr u d;refine Yo 8 O (fun _=>X7 O)<|Yo 9 O (fun _=>X3 (vs:=[.slice b8 ((fdS qs.length z j (unitS (2^qs.length:Nat))).getD []).length b9,.bool ((fdS qs.length z j (unitS (2^qs.length:Nat))).isSome)]) O O)<|Yo 10 O (fun _=>X3 (vs:=[.slice b8 ((fdS qs.length z j (unitS (2^qs.length:Nat))).getD []).length b9,.bool ((fdS qs.length z j (unitS (2^qs.length:Nat))).isSome)]) O O)<|Yo 11 O (fun _=>X0y O)<|Yo 12 O (fun _=>X0y O) ?_
  refine Yd fun a y=>?_;refine dO _ _<|Q5 fun _ dR=>?_;refine Zs y fun _ dS=>?_;refine Zm O<|Ze (X0x O)<|Zt dS fun a y=>?_
  refine X04 y O (fun bC=>?_) (fun bC=>?_)
  ·have bN:(fdS qs.length z j (unitS (2^qs.length))).isSome=false:=bn1 bC
   refine Q9<|Xm<|X0a<|dN _ _ ?_;refine Zr y<|Zm O<|Ze (X03 O O Z Z)<|Za O ?_;refine Zn fun a y=>?_;refine Xd ?_;exact ⟨j+1,⟨y.sb,Z,(Xcp aH bN),m,f,q,t,e,b,o,k,x,G,u⟩,Z⟩
  have bO:(fdS qs.length z j (unitS (2^qs.length))).isSome=true:=by simpa using bC
  obtain ⟨aI,eM⟩:=Xgs N bM aH bO;have b3:=X6e aI;have bP:=Xe4 N b3.2;have eN:=b3.1;have eO:=X8q qs.length;refine Q7<|dR _ _<|Q5 fun _ dT=>?_;refine Q5 fun _ dU=>?_;refine X08 none (fun _=>false) mixed ?_;intro fN d;have m:=m.bw d;have f:=f.bw d;have q:=q.bw d;have e:=e.bw d;have b:=b.bw d;have o:=o.bw d;have k:=k.bw d;have B:=B.bw d;have u:=btr u d;refine Yb y<|Yo 0 O (fun _=>X7 O)<|Yo 2 O (fun _=>Vd O X05 1)<|Ye 3 O (X0 O X0l (q.at 1))<|Y1 1 ?_;refine Yk O tv0 (Vc (Xih _ b8 b9 ((fdS qs.length z j (unitS (2^qs.length:Nat))).getD []) B.rd.top Z) X9i) (fun _ _ ⟨_,d⟩=>d) ?_;rintro _ fO ⟨rfl,d⟩;have m:=m.bw d;have f:=f.bw d;have e:=e.bw d;have b:=b.bw d;have o:=o.bw d;have k:=k.bw d;have B:=B.bw d;have u:=btr u d;refine Y1 4<|Yk O tv0 (Vc (Xih _ aC aD ((xC c rr qs).gs) k.rd.top (by show ((gatL c rr).map (smallG qs)).length<=_;rw [Qo];omega)) X9i) (fun _ _ ⟨_,d⟩=>d) ?_;rintro _ fP ⟨rfl,d⟩;have m:=m.bw d;have f:=f.bw d;have e:=e.bw d;have b:=b.bw d;have o:=o.bw d;have B:=B.bw d;have u:=btr u d;refine Yo 5 O (fun _=>X29 O O) ?_;refine Yd fun a y=>?_;refine dU _ _ ?_
  refine X12 y O (fun bS bD=>?_) (fun bS bD=>?_)
  ·have aJ:=bD
   rw [bF] at aJ
   have C:shrX c p qs=none:=by
    rw [aM]
    refine X67 D fun w9 h9 h8=>?_
    rw [aI] at h9
    injection h9 with h9
    subst h9
    omega
   refine Zs y fun _ dW=>?_;refine Ze (Xi (ps:=[]) (cs:=[vi 0,.slice none 0 0,.slice none 0 0]) O (fun _=>by first|rfl|kernel_rfl))<|Zo (Vw [vi 0,.slice none 0 0,.slice none 0 0] X17 f) ?_;rintro _ fQ ⟨E,hb⟩;have u:=Below.oy u E Q;have f:=hb;refine Za O<|Zt dW fun a y=>?_;refine Q6<|X5<|Xo<|X5 ?_;refine X5<|Xo<|X5<|X4 y (X0q y O (ResV.cellN (l:=[vi 0,.slice none 0 0,.slice none 0 0]) O X1g (f.at 0) O) O) ?_
   rw [C]
   exact ⟨none,0,none,0,O,(Own.nil _ _ _ _ _),(Own.nil _ _ _ _ _),(Apart.none_l _),u⟩
  have aJ:=bD
  rw [bF] at aJ
  have C:shrX c p qs=repX c p rr qs (mapI ((fdS qs.length z j (unitS (2^qs.length))).getD []) qs):=by
   rw [aM]
   exact X9o D aI ⟨by omega,by omega⟩
  refine Q7<|dT _ _<|Q5 fun _ dX=>?_;refine X08 none (fun j=>[9].contains j) mixed ?_;intro fR d;have m:=m.bw d;have f:=f.bw d;have e:=e.bw d;have b:=b.bw d;have o:=o.bw d;have B:=B.bw d;have u:=btr u d;refine Yb y<|Ye 0 O (Vn X0e m)<|Yo 1 O (fun _=>X7 O)<|Yo 2 O (fun _=>X7 O)<|Yo 3 O (fun _=>X7 O)<|Yo 4 O (fun _=>X7 O)<|Y1 5 ?_;refine Yk O tv0 (Vc (Xuw _ b8 b9 ((fdS qs.length z j (unitS (2^qs.length:Nat))).getD []) B.rd.top Aqs cqs qs b.top qs.length bP O Z) Xja) (fun _ _ ⟨dY,e7,_,W,d⟩=>d) ?_;rintro _ fS ⟨dY,e7,rfl,W,d⟩;have cB:=B.apart W (Qb _);have W:=W.lower u.size;have f:=f.bw d;have e:=e.bw d;have b:=b.bw d;have o:=o.bw d;have B:=B.bw d;have u:=btr u d;refine Y1 6<|Yk O tv0 (Vc (Xuv _ c Ac cc e.top G A9 c9 rr o.rd.top Aqs cqs qs b.top dY e7 (mapI ((fdS qs.length z j (unitS (2^qs.length:Nat))).getD []) qs) W.rd.top p H aF aE (by unfold mapI;rw [Qo];omega) bE) Xj9) (fun _ _ ⟨aR,aS,aT,aU,_,L,M,aB,d⟩=>d) ?_;rintro _ fT ⟨aR,aS,aT,aU,rfl,L,M,aB,d⟩;have cC:=B.apart L (Qb _);have cD:=W.apart L (Qb _);have L:=L.lower u.size;have cE:=B.apart M (Qb _);have cF:=W.apart M (Qb _);have M:=M.lower u.size;have f:=f.bw d;have u:=btr u d;refine Yo 7 O (fun _=>X3 (vs:=[.agg #[vi (((repX c p rr qs (mapI ((fdS qs.length z j (unitS (2^qs.length:Nat))).getD []) qs)).getD rpZ).pos),.slice aR (((repX c p rr qs (mapI ((fdS qs.length z j (unitS (2^qs.length:Nat))).getD []) qs)).getD rpZ).old).length aS,.slice aT (((repX c p rr qs (mapI ((fdS qs.length z j (unitS (2^qs.length:Nat))).getD []) qs)).getD rpZ).new).length aU],.bool ((repX c p rr qs (mapI ((fdS qs.length z j (unitS (2^qs.length:Nat))).getD []) qs)).isSome)]) O O)<|Yo 8 O (fun _=>X3 (vs:=[.agg #[vi (((repX c p rr qs (mapI ((fdS qs.length z j (unitS (2^qs.length:Nat))).getD []) qs)).getD rpZ).pos),.slice aR (((repX c p rr qs (mapI ((fdS qs.length z j (unitS (2^qs.length:Nat))).getD []) qs)).getD rpZ).old).length aS,.slice aT (((repX c p rr qs (mapI ((fdS qs.length z j (unitS (2^qs.length:Nat))).getD []) qs)).getD rpZ).new).length aU],.bool ((repX c p rr qs (mapI ((fdS qs.length z j (unitS (2^qs.length:Nat))).getD []) qs)).isSome)]) O O)<|Y1 9 ?_
  refine Yh O tv0 O (Vw [vi (((repX c p rr qs (mapI ((fdS qs.length z j (unitS (2^qs.length:Nat))).getD []) qs)).getD rpZ).pos),.slice aR (((repX c p rr qs (mapI ((fdS qs.length z j (unitS (2^qs.length:Nat))).getD []) qs)).getD rpZ).old).length aS,.slice aT (((repX c p rr qs (mapI ((fdS qs.length z j (unitS (2^qs.length:Nat))).getD []) qs)).getD rpZ).new).length aU] X17 f) ?_;rintro _ fU ⟨E,hb⟩;have L:=L.oT E f O;have M:=M.oT E f O;have u:=Below.oy u E Q;have f:=hb;refine Yo 10 O (fun _=>X0y O) ?_;refine Yd fun a y=>?_;refine dX _ _<|Q6<|Xo<|X5 ?_;refine X5<|Xo<|X5<|X4 y (X0q y O (ResV.cellN (l:=[vi (((repX c p rr qs (mapI ((fdS qs.length z j (unitS (2^qs.length:Nat))).getD []) qs)).getD rpZ).pos),.slice aR (((repX c p rr qs (mapI ((fdS qs.length z j (unitS (2^qs.length:Nat))).getD []) qs)).getD rpZ).old).length aS,.slice aT (((repX c p rr qs (mapI ((fdS qs.length z j (unitS (2^qs.length:Nat))).getD []) qs)).getD rpZ).new).length aU]) O X1g (f.at 0) O) O) ?_
  rw [C]
  exact ⟨aR,aS,aT,aU,O,L,M,aB,u⟩
 have bL:=b6
 have C:shrX c p qs=none:=by
  rw [aM]
  refine X67 D fun w9 h9 h8=>?_;have h7:=Xqd N aH w9 h9;have h6:=(X6e h9).1
  rw [aY] at h6
  omega
 refine Q9<|Xm<|Xm<|X0a ?_;refine dJ _ _<|Zs y fun _ eA=>?_;refine Ze (Xi (ps:=[]) (cs:=[vi 0,.slice none 0 0,.slice none 0 0]) O (fun _=>by first|rfl|kernel_rfl))<|Zo (Vw [vi 0,.slice none 0 0,.slice none 0 0] X17 f) ?_;rintro _ fV ⟨E,hb⟩;have u:=Below.oy u E Q;have f:=hb;refine Za O<|Zt eA fun a y=>?_
 refine Q6 (X4 y (X0q y O (ResV.cellN (l:=[vi 0,.slice none 0 0,.slice none 0 0]) O X1g (f.at 0) O) O) ?_)
 rw [C]
 exact ⟨none,0,none,0,O,(Own.nil _ _ _ _ _),(Own.nil _ _ _ _ _),(Apart.none_l _),u⟩
theorem Xzy(y:World)(c:Cx)(Ac:Option Addr)(cc:Nat)(z:Rd y y.heap.size 59 encG Ac c.gs)(aB:c.gs.length<=cc)(p:Int)(Aqs:Option Addr)(cqs:Nat)(qs:List Int)(aA:Rd y y.heap.size 3 encI Aqs qs)(aL:c.gs.length<=1000000000)(aE:qs.length<=1048576) : Ret Tryz.prog 9 [.agg #[vi c.n,.slice Ac c.gs.length cc],vi p,.slice Aqs qs.length cqs] y (fun v w=>∃ A9 e9 B9 f9,v=.tuple #[.agg #[vi ((shrI c p qs).getD rpZ).pos,.slice A9 ((shrI c p qs).getD rpZ).old.length e9,.slice B9 ((shrI c p qs).getD rpZ).new.length f9],.bool (shrI c p qs).isSome]/\Own w y.heap.size 59 3 encG A9 e9 ((shrI c p qs).getD rpZ).old/\Own w y.heap.size 59 3 encG B9 f9 ((shrI c p qs).getD rpZ).new/\Apart A9 B9/\Below y.heap.size y w):=by
 refine enter Tryz.func9 O 18 O O ?_;intro a g
 have d:=bz y
 refine Zs g fun _ aF=>?_;refine Zf (X0m (zs:=[vi c.n,.slice Ac c.gs.length cc]) O O) ?_;rintro _ w1 ⟨b4,rfl,aG,k,i⟩;have aK:=Q0 d.size aG;have d:=btr d k;refine Zf (Xl (zs:=[vi 0,.slice none 0 0,.slice none 0 0]) X2v O) ?_;rintro _ w2 ⟨b7,rfl,aH,k,b⟩;have h:=Q0 d.size aH;have i:=i.bw k;have d:=btr d k;refine Za O<|ZX aF fun a g _ aI=>?_;refine Zs g fun _ aJ=>?_;refine Ze (Vn X0e i)<|Zf (Vc (F53 _ c Ac cc (z.bx d).top) Xjf) ?_;rintro _ w3 ⟨rfl,k⟩;have i:=i.bw k;have b:=b.bw k;have d:=btr d k;refine Ze (X0x O)<|Zt aJ fun a g=>?_
 refine X04 g O (fun m=>?_) (fun m=>?_)
 ·have o:=Xtw (c:=c) (bn1 m) p qs;refine Zs g fun _ aC=>?_;refine Ze (Xi (ps:=[]) (cs:=[vi 0,.slice none 0 0,.slice none 0 0]) O (fun _=>by first|rfl|kernel_rfl))<|Zo (Vw [vi 0,.slice none 0 0,.slice none 0 0] X17 b) ?_;rintro _ w4 ⟨ho,hb⟩;have d:=Below.oy d ho h;have b:=hb;refine Za O<|Zt aC fun a g=>?_;refine Q6<|X5<|X4 g (X0q g O (ResV.cellN (l:=[vi 0,.slice none 0 0,.slice none 0 0]) O X1g (b.at 0) O) O) ?_
  rw [o]
  exact ⟨none,0,none,0,O,(Own.nil _ _ _ _ _),(Own.nil _ _ _ _ _),(Apart.none_l _),d⟩
 have A:cOk c=true:=bn2 m
 have o:=Xq9 A p qs;refine Q7<|aI _ _<|Zs g fun _ aD=>?_;refine Ze (Vn X0e i)<|Zm O<|Zm O<|Zf (Vc (Xus _ c Ac cc (z.bx d).top aB p Aqs cqs qs (aA.bx d).top A aE) Xj6) ?_;rintro _ w5 ⟨q,t,u,x,rfl,e,f,j,k⟩;have e:=e.lower d.size;have f:=f.lower d.size;have b:=b.bw k;have d:=btr d k;refine Ze (X3 (vs:=[.agg #[vi (((shrX c p qs).getD rpZ).pos),.slice q (((shrX c p qs).getD rpZ).old).length t,.slice u (((shrX c p qs).getD rpZ).new).length x],.bool ((shrX c p qs).isSome)]) O O)<|Ze (X3 (vs:=[.agg #[vi (((shrX c p qs).getD rpZ).pos),.slice q (((shrX c p qs).getD rpZ).old).length t,.slice u (((shrX c p qs).getD rpZ).new).length x],.bool ((shrX c p qs).isSome)]) O O)<|Zo (Vw [vi (((shrX c p qs).getD rpZ).pos),.slice q (((shrX c p qs).getD rpZ).old).length t,.slice u (((shrX c p qs).getD rpZ).new).length x] X17 b) ?_;rintro _ w6 ⟨ho,hb⟩;have e:=e.oT ho b O;have f:=f.oT ho b O;have d:=Below.oy d ho h;have b:=hb;refine Za O<|Zt aD fun a g=>?_
 refine Q6 (X4 g (X0q g O (ResV.cellN (l:=[vi (((shrX c p qs).getD rpZ).pos),.slice q (((shrX c p qs).getD rpZ).old).length t,.slice u (((shrX c p qs).getD rpZ).new).length x]) O X1g (b.at 0) O) O) ?_)
 rw [o]
 exact ⟨q,t,u,x,O,e,f,j,d⟩
theorem Xtr{c:Cx}{p:Int}{run qs:List Int}{ws:List Gt} : ((repX c p run qs ws).getD rpZ).old.length<=40/\((repX c p run qs ws).getD rpZ).new.length<=40:=by
 unfold repX
 split
 ·split
  ·rename_i h;exact h
  ·exact ⟨Qf _,Qf _⟩
 ·exact ⟨Qf _,Qf _⟩
theorem Xkk(c:Cx)(p:Int)(qs:List Int) : ((shrI c p qs).getD rpZ).old.length<=40/\((shrI c p qs).getD rpZ).new.length<=40:=by
 unfold shrI
 cases runP c p qs with
 | none=>exact ⟨Qf _,Qf _⟩
 | some run=>
  rw [Qz]
  unfold plX
  cases srW qs.length ((opI (xC c run qs)).getD mZ) with
  | none=>exact ⟨Qf _,Qf _⟩
  | some w=>
   rw [Qz]
   split
   ·exact Xtr
   ·exact ⟨Qf _,Qf _⟩
theorem Xkw{a b:Int} : unionI [a,b] []=putI [a] b:=
 Xe7 _ _ (Xd3 _ _) (X7m _ _ O5) fun x=>by rw [X8m,X68];simp
def isW(q:Int)(g:Gt) : Bool:=inR g.k 9 11&&(g.a==q||g.b==q)
def lsX(c:Cx)(p:Nat) : List (List Int):=
 if (c.gs.getD p gZ).k=12 then [] else if inR (c.gs.getD p gZ).k 9 11=true then [putI [(c.gs.getD p gZ).a] (c.gs.getD p gZ).b] else
  match (c.gs.drop (p+1)).find? (isW (c.gs.getD p gZ).a) with
  | some h=>[[(c.gs.getD p gZ).a],putI [h.a] h.b]
  | none=>[[(c.gs.getD p gZ).a]]
theorem Xyf{c:Cx}{p:Nat}{g:Gt}(h:c.gs[p]? = some g)(hk:g.k=12) : lsX c p=[]:=by
 unfold lsX;rw [Qa,h,Qq,Q4 hk]
theorem Xht{c:Cx}{p:Nat}{g:Gt}(h:c.gs[p]? = some g)(hk:¬ g.k=12)(h2:inR g.k 9 11=true) : lsX c p=[putI [g.a] g.b]:=by
 unfold lsX;rw [Qa,h,Qq,Q3 hk,Q4 h2]
def NoW(c:Cx)(p k:Nat)(q:Int) : Prop:=((c.gs.drop (p+1)).take k).all (fun g=>!isW q g)=true
theorem Xaw{c:Cx}{p k:Nat}{q:Int}{u:Gt}(h:NoW c p k q)(hu:(c.gs.drop (p+1))[k]? = some u)(hw:isW q u=false) : NoW c p (k+1) q:=by
 unfold NoW at *;rw [Qt,hu,List.all_append,h];simp [hw]
theorem Xav{c:Cx}{p k:Nat}{g u:Gt}(hg:c.gs[p]? = some g)(hk:¬ g.k=12)(h2:inR g.k 9 11=false)(h:NoW c p k g.a)(hu:(c.gs.drop (p+1))[k]? = some u)(hw:isW g.a u=true) : lsX c p=[[g.a],putI [u.a] u.b]:=by
 have hf:(c.gs.drop (p+1)).find? (isW g.a)=some u:=by
  obtain ⟨h4,h5⟩:=Qg.1 hu
  rw [List.find?_eq_some_iff_getElem]
  refine ⟨hw,k,h4,h5,fun j hj=>?_⟩
  unfold NoW at h
  have:=W1.1 h (c.gs.drop (p+1))[j] (by rw [List.mem_iff_getElem];exact ⟨j,by simp at h4 ⊢;omega,by simp⟩)
  simpa using this
 unfold lsX
 rw [Qa,hg,Qq,Q3 hk,Q3 (by rw [h2];decide),hf]
theorem Xed{c:Cx}{p k:Nat}{g:Gt}(hg:c.gs[p]? = some g)(hk:¬ g.k=12)(h2:inR g.k 9 11=false)(h:NoW c p k g.a)(hl:(c.gs.drop (p+1)).length<=k) : lsX c p=[[g.a]]:=by
 have hf:(c.gs.drop (p+1)).find? (isW g.a)=none:=by
  rw [List.find?_eq_none]
  intro x hx
  unfold NoW at h
  rw [Qi hl] at h
  have:=W1.1 h x hx
  simpa using this
 unfold lsX
 rw [Qa,hg,Qq,Q3 hk,Q3 (by rw [h2];decide),hf]
theorem Xf7{α:Type}{P:α->Prop}{x:α}(h:P x) : ∀ s ∈ [x],P s:=fun s hs=>by rw [Qm.1 hs];exact h
theorem Xrd{α:Type}{P:α->Prop}{x y:α}(h:P x)(h2:P y) : ∀ s ∈ [x,y],P s:=fun s hs=>by
 rcases Qv.1 hs with e|hs
 ·rw [e];exact h
 ·rw [Qm.1 hs];exact h2
theorem X4j{g:Gt}(h:¬ g.k=12)(h2:inR g.k 9 11=true) : qubI g=[g.a,g.b]:=by unfold qubI;rw [Q3 h,Q4 h2]
theorem X3e{g:Gt}(h:¬ g.k=12)(h2:inR g.k 9 11=false) : qubI g=[g.a]:=by unfold qubI;rw [Q3 h,Q3 (by rw [h2];decide)]
theorem Xqp{g:Gt}(h:inR g.k 9 11=true) : ¬ g.k=12:=by have:=X0b.1 h;omega
def stL(c:Cx)(p:Nat) : Option Rp:=(lsX c p).findSome? fun qs=>shrI c (p:Int) qs
def stX(c:Cx) : Option Rp:=(List.range c.gs.length).findSome? (stL c)
def NoS(c:Cx)(k:Nat) : Prop:=(List.range k).findSome? (stL c)=none
theorem Xg7{c:Cx}{k:Nat}(h:NoS c k)(h2:stL c k=none) : NoS c (k+1):=by
 unfold NoS at *;rw [List.range_succ,List.findSome?_append,h];simp [h2]
theorem Xk2{c:Cx}{k:Nat}(h:NoS c k)(hk:k=c.gs.length) : stX c=none:=by subst hk;exact h
def NoL(c:Cx)(p j:Nat) : Prop:=((lsX c p).take j).findSome? (fun qs=>shrI c (p:Int) qs)=none
theorem Xg5{c:Cx}{p j:Nat}{qs:List Int}(h:NoL c p j)(hq:(lsX c p)[j]? = some qs)(hn:(shrI c (p:Int) qs).isSome=false) : NoL c p (j+1):=by
 unfold NoL at *;rw [Qt,hq,List.findSome?_append,h]
 cases e:shrI c (p:Int) qs with
 | none=>simp [e]
 | some r=>rw [e] at hn;cases hn
theorem Xk1{c:Cx}{p j:Nat}(h:NoL c p j)(hj:(lsX c p).length<=j) : stL c p=none:=by
 unfold NoL at h;rw [Qi hj] at h;exact h
theorem Xg6(c:Cx)(p:Nat) : NoL c p 0:=rfl
theorem Xgt{c:Cx}{p j:Nat}{qs:List Int}(h0:NoS c p)(hp:p<c.gs.length)(h:NoL c p j)(hq:(lsX c p)[j]? = some qs)(hn:(shrI c (p:Int) qs).isSome=true) : stX c=shrI c (p:Int) qs:=by
 have h1:stL c p=shrI c (p:Int) qs:=by
  unfold stL NoL at *
  obtain ⟨h4,h5⟩:=Qg.1 hq
  have e:lsX c p=(lsX c p).take j++qs::(lsX c p).drop (j+1):=by rw [<- h5,<- Qy h4,W9]
  rw [e,List.findSome?_append,h,List.findSome?_cons]
  cases e2:shrI c (p:Int) qs with
  | none=>rw [e2] at hn;cases hn
  | some r=>rfl
 unfold stX NoS at *
 have e:List.range c.gs.length=List.range p++p::(List.range' (p+1) (c.gs.length-(p+1))):=by
  have e0:List.range' 0 c.gs.length=List.range' 0 p++List.range' (0+p) (c.gs.length-p):=by rw [List.range'_append_1];congr 1;omega
  rw [List.range_eq_range',List.range_eq_range',e0]
  congr 1
  rw [show c.gs.length-p=(c.gs.length-(p+1))+1 from by omega,List.range'_succ];simp
 rw [e,List.findSome?_append,h0,List.findSome?_cons,h1]
 cases e2:shrI c (p:Int) qs with
 | none=>rw [e2] at hn;cases hn
 | some r=>rfl
theorem Xcl{ls:List Sl}{l:List (List Int)}{j:Nat}{u:Sl}(h:ls.map Sl.l=l)(hu:ls[j]? = some u) : l[j]? = some u.l:=by rw [<- h,List.getElem?_map,hu];rfl
theorem Xjw(c:Cx)(p:Nat) : (lsX c p).length<=2:=by
 unfold lsX
 split
 ·simp
 ·split
  ·simp
  ·split<;>simp
theorem X8f(c:Cx)(p:Nat) : ∀ l ∈ lsX c p,l.length<=2:=by
 have h:∀ a b:Int,(putI [a] b).length<=2:=fun a b=>X1f [a] b
 unfold lsX
 split
 ·simp
 ·split
  ·exact Xf7 (h _ _)
  ·split
   ·exact Xrd O5 (h _ _)
   ·exact Xf7 O5
def stI(c:Cx) : Option Rp:=if cOk c=true then stX c else none
theorem Xkp{c:Cx}(h:cOk c=true) : stI c=stX c:=Q4 h
theorem Xyu{c:Cx}(h:cOk c=false) : stI c=none:=Q3 (by rw [h];decide)
theorem X4r{α:Type}{f:α->Option Rp}(hf:∀ a,((f a).getD rpZ).old.length<=40/\((f a).getD rpZ).new.length<=40) : ∀ l:List α,((l.findSome? f).getD rpZ).old.length<=40/\((l.findSome? f).getD rpZ).new.length<=40
 | []=>⟨Qf _,Qf _⟩
 | a::l=>by
  rw [List.findSome?_cons]
  have h:=hf a
  cases e:f a with
  | none=>exact X4r hf l
  | some r=>rw [e] at h;exact h
theorem Xtz(c:Cx) : ((stX c).getD rpZ).old.length<=40/\((stX c).getD rpZ).new.length<=40:=by
 unfold stX
 exact X4r (fun p=>by unfold stL;exact X4r (fun qs=>Xkk c (p:Int) qs) (lsX c p)) (List.range c.gs.length)
abbrev Za1(n:Int)(g:List Gt) : Rp:=(stX (⟨n,g⟩ : Cx)).getD rpZ
abbrev Za2(n:Int)(g:List Gt) : Cx:=(applyI (⟨n,g⟩ : Cx) (Za1 n g)).getD cZ
theorem Xip:∀ (k:Nat) (r:List Int) (p:Int),r.Nodup->(∀ x ∈ r,p<=x/\x<p+(k:Int))->r.length<=(List.range k).countP (fun (j:Nat)=>hasB r (p+(j:Int)))
 | 0,r,p,_,h=>by
  cases r with
  | nil=>simp
  | cons x r=>have:=h x (Qk ..);omega
 | k+1,r,p,hd,h=>by
  have h2:∀ x ∈ r.erase (p+(k:Int)),p<=x/\x<p+(k:Int):=fun x hx=>by
   have:=(hd.mem_erase_iff).1 hx
   have h3:=h x this.2;have h4:=this.1
   omega
  have ih:=Xip k (r.erase (p+(k:Int))) p (hd.erase _) h2
  have e:(List.range k).countP (fun (j:Nat)=>hasB (r.erase (p+(k:Int))) (p+(j:Int)))=(List.range k).countP (fun (j:Nat)=>hasB r (p+(j:Int))):=by
   apply List.countP_congr
   intro j hj;have hj:=W2.1 hj
   rw [X3j,X3j,hd.mem_erase_iff]
   exact ⟨fun h=>h.2,fun h=>⟨by omega,h⟩⟩
  rw [List.range_succ,List.countP_append,<- e,List.countP_singleton]
  by_cases hm:p+(k:Int) ∈ r
  ·rw [List.length_erase_of_mem hm] at ih
   rw [Q4 (X3j.2 hm)]
   omega
  ·rw [List.erase_of_not_mem hm] at ih
   rw [List.erase_of_not_mem hm]
   omega
theorem Xb4(qs:List Int) : ∀ (l:List Gt) (i:Int) (m:Nat),(rnL qs l i m).Pairwise (· < ·)
 | [],i,m=>by cases m<;>exact List.Pairwise.nil
 | g::l,i,0=>by rw [Xk9];exact List.Pairwise.nil
 | g::l,i,m+1=>by
  rw [rnL]
  split
  ·refine List.Pairwise.cons (fun x hx=>?_) (Xb4 qs l (i+1) m)
   obtain ⟨j,e,_⟩:=Xek qs l (i+1) m x hx
   omega
  ·split
   ·exact List.Pairwise.nil
   ·exact Xb4 qs l (i+1) (m+1)
theorem Xfz{r:List Int}(h:r.Pairwise (· < ·)) : ∀ x ∈ r,x<=lastI r:=fun x hx=>by
 obtain ⟨i,hi,rfl⟩:=List.mem_iff_getElem.1 hx
 unfold lastI
 rw [Qa,Qc Z,Qq]
 by_cases hl:i=r.length-1
 ·subst hl;exact Int.le_refl _
 ·exact Int.le_of_lt (W0.1 h i (r.length-1) hi Z Z)
theorem Xlw{c:Cx}{p:Int}{qs:List Int}{w:List Gt}(h:runB c p qs=true)(hw:w.length<(runL c p qs).length) : (newR c p (runL c p qs) w).new.length<(newR c p (runL c p qs) w).old.length:=by
 obtain ⟨j,hj,hjl,hpj,_⟩:=X34 h
 have hi:(runL c p qs).Pairwise (· < ·):=Xb4 ..
 have hp:0<=p:=by obtain ⟨_,_,k,e,_⟩:=X27 h;omega
 have hwn:=X4m hj hpj
 have hc:=Xip (winN (runL c p qs) p) (runL c p qs) p (hi.imp fun h=>Int.ne_of_lt h) fun x hx=>by
  obtain ⟨q,e,_,hq,_⟩:=X43 h x hx
  have:=Xfz hi x hx
  rw [hj] at this
  omega
 have hl:=List.length_eq_countP_add_countP (fun (j:Nat)=>hasB (runL c p qs) (p+(j:Int))) (l:=List.range (winN (runL c p qs) p))
 rw [List.length_range] at hl
 show (w++gapL c (runL c p qs) p (winN (runL c p qs) p)).length<((c.gs.drop p.toNat).take (winN (runL c p qs) p)).length
 rw [Qh,Qn,List.length_drop]
 have e:(gapL c (runL c p qs) p (winN (runL c p qs) p)).length=(List.range (winN (runL c p qs) p)).countP (fun (j:Nat)=>!hasB (runL c p qs) (p+(j:Int))):=by
  unfold gapL;rw [Qo,List.countP_eq_length_filter]
 rw [e]
 have e2:(List.range (winN (runL c p qs) p)).countP (fun a=>decide ¬(fun (j:Nat)=>hasB (runL c p qs) (p+(j:Int))) a=true)=(List.range (winN (runL c p qs) p)).countP (fun (j:Nat)=>!hasB (runL c p qs) (p+(j:Int))):=by
  apply List.countP_congr
  intro j _
  simp
 rw [e2] at hl
 omega
theorem X72{c:Cx}{p:Int}{qs:List Int}{r:Rp}(h:shrI c p qs=some r) : r.new.length<r.old.length:=by
 unfold shrI at h
 cases e:runP c p qs with
 | none=>rw [e] at h;cases h
 | some run=>
  obtain ⟨_,hb,e2⟩:=X7r (by rw [e];rfl)
  rw [e,Qz] at h
  rw [e] at e2
  injection e2 with e2
  subst e2
  unfold plX at h
  cases e3:srW qs.length ((opI (xC c (runL c p qs) qs)).getD mZ) with
  | none=>rw [e3] at h;cases h
  | some w=>
   rw [e3,Qz] at h
   split at h
   ·rename_i hw
    unfold repX at h
    split at h
    ·split at h
     ·injection h with h
      subst h
      exact Xlw hb (by rw [show (mapI w qs).length=w.length from by unfold mapI;simp];exact hw.1)
     ·cases h
    ·cases h
   ·cases h
theorem Xma{c:Cx}{r:Rp}(h:stX c=some r) : r.new.length<r.old.length:=by
 obtain ⟨p,_,h⟩:=List.exists_of_findSome?_eq_some h;obtain ⟨qs,_,h⟩:=List.exists_of_findSome?_eq_some h;exact X72 h
def pkR:Nat->Cx->Option (List Rp×Cx)
 | 0,c=>some ([],c)
 | k+1,c=>match stX c with
  | none=>some ([],c)
  | some r=>match applyS c r with
   | none=>none
   | some e=>(pkR k e).map fun x=>(r::x.1,x.2)
def pkC(c:Cx) : Cx×List Rp×Cx:=if cOk c=true then (match pkR c.gs.length c with|some x=>(c,x.1,x.2)|none=>(cZ,[],cZ)) else (cZ,[],cZ)
def pkB(c:Cx) : Bool:=cOk c&&(pkR c.gs.length c).isSome
theorem Xb0{c:Cx}(h:stX c=none) : ∀ k,pkR k c=some ([],c)
 | 0=>rfl
 | k+1=>by unfold pkR;rw [h]
theorem Xb1{c e:Cx}{r:Rp}(h:stX c=some r)(ha:applyS c r=some e)(k:Nat) : pkR (k+1) c=(pkR k e).map fun x=>(r::x.1,x.2):=by
 conv=>lhs;unfold pkR
 rw [h];simp only [ha]
theorem Xeg{c:Cx}{r:Rp}(h:stX c=some r)(ha:applyS c r=none)(k:Nat) : pkR (k+1) c=none:=by
 conv=>lhs;unfold pkR
 rw [h];simp only [ha]
structure PkI (c:Cx) (l:List Sr) (d:Cx) (k:Nat) : Prop where
 run:pkR c.gs.length c=(pkR k d).map fun x=>(l.map Sr.rp++x.1,x.2)
 ok:cOk d=true
 n:d.n=c.n
 le:d.gs.length<=k
 len:l.length+d.gs.length<=c.gs.length
 small:∀ s ∈ l,s.old.length<=40/\s.new.length<=40
theorem PkI.sta{c:Cx}(h:cOk c=true) : PkI c [] c c.gs.length:=⟨by simp,h,rfl,Qb _,by simp,fun s hs=>by simp at hs⟩
theorem X7t{c:Cx}{r:Rp}(h:stX c=some r) : 1<=c.gs.length:=by
 cases e:c.gs.length with
 | zero=>unfold stX at h;rw [e] at h;cases h
 | succ k=>omega
theorem X6f{c:Cx}{r:Rp}(h:stX c=some r) : r.old.length<=40/\r.new.length<=40:=by
 have:=Xtz c;rw [h] at this;exact this
theorem X81{c e:Cx}{r:Rp}(h:stX c=some r)(ha:applyS c r=some e) : e.gs.length+1<=c.gs.length:=by
 obtain ⟨p,q,h1,h2⟩:=X8s ha
 have:=Xma h
 rw [h1,h2];simp only [Qh];omega
theorem PkI.nxt{c d e:Cx}{l:List Sr}{k:Nat}(h:PkI c l d k){r:Rp}(hr:stX d=some r)(ha:applyS d r=some e){s:Sr}(hs:s.rp=r) : ∃ k',k=k'+1/\PkI c (l++[s]) e k':=by
 have h1:=X7t hr;have h2:=X81 hr ha;have hle:=h.le
 obtain ⟨k',rfl⟩ : ∃ k',k=k'+1:=⟨k-1,by omega⟩
 refine ⟨k',O,?_⟩
 obtain ⟨e1,e2,_⟩:=(X55 h.ok).2 e ha;have hrun:=h.run
 rw [Xb1 hr ha,Option.map_map] at hrun
 refine ⟨?_,e1,e2.trans h.n,by omega,by have:=h.len;simp;omega,fun x hx=>?_⟩
 ·rw [hrun,List.map_append]
  simp only [Qx,List.map_cons,List.map_nil,hs]
  rfl
 ·rcases Qu.1 hx with hx|hx
  ·exact h.small x hx
  ·rw [Qm] at hx
   subst hx
   subst hs
   exact X6f hr
theorem PkI.don{c d:Cx}{l:List Sr}{k:Nat}(h:PkI c l d k)(hc:cOk c=true)(hn:stX d=none) : pkC c=(c,l.map Sr.rp,d)/\pkB c=true:=by
 have e:pkR c.gs.length c=some (l.map Sr.rp,d):=by rw [h.run,Xb0 hn k];simp
 unfold pkC pkB
 rw [Q4 hc,e,hc]
 exact ⟨O,O⟩
theorem PkI.bd{c d:Cx}{l:List Sr}{k:Nat}{r:Rp}(h:PkI c l d k)(hc:cOk c=true)(hr:stX d=some r)(ha:applyS d r=none) : pkC c=(cZ,[],cZ)/\pkB c=false:=by
 have h1:=X7t hr;have hle:=h.le
 obtain ⟨k',rfl⟩ : ∃ k',k=k'+1:=⟨k-1,by omega⟩
 have e:pkR c.gs.length c=none:=by rw [h.run,Xeg hr ha];rfl
 unfold pkC pkB
 rw [Q4 hc,e,hc]
 exact ⟨O,O⟩
theorem Xvi{c:Cx}(hc:cOk c=false) : pkC c=(cZ,[],cZ)/\pkB c=false:=by
 unfold pkC pkB
 rw [Q3 (by rw [hc];decide),hc]
 exact ⟨O,O⟩
end Go.Proofs.YtfkokcbjcndjpaaGreatDoor
namespace Go.Proofs.YtfkokcbjcndjpaaGreatDoor
open Go Go.RowKit
section
variable {P : Program} {a : Act} {w : World} {n : Nat} {e : Env} {ty : TypeId} {pos : String} {af : Array Edge} {g : Option (Nat × Bool)} {d : Option Tmp}
theorem Xdi{k:FuncId}{cs:List Operand}{vs:List Value}(hf:Fr a n e)(hx:evs e cs=some vs) : Ev P ⟨d,.makeFunc (.func k) cs.toArray #[],ty,pos,af,g⟩ a w (.func (.func k) vs.toArray #[]):=fun w' _=>by
 simp [execOp,Instr.makeFunc,hf.evs hx]
theorem Xh3{k:FuncId}{cs:List Operand}{vs:List Value}(hx:evs e cs=some vs) : EvW P ⟨d,.makeFunc (.func k) cs.toArray #[],ty,pos,af,g⟩ n e w (.func (.func k) vs.toArray #[]):=fun a hf=>Xdi hf hx
theorem Xnk{f:FuncId}{x:Operand}{xs:List Operand}{vs cs:List Value}{ts:Array TypeId}{R:Value->World->Prop}(hf:Fr a n e)(hv:ev e x=some (.func (.func f) cs.toArray #[]))(hx:evs e xs=some vs)(hF:FuncF P f)(h:Ret P f (cs++vs) w R) :
  Ef P ⟨d,.call ⟨.value x,xs.toArray,ts⟩,ty,pos,af,g⟩ a w R:=by
 have hm:=hf.evs hx
 have hv':=hf.ev hv
 unfold Ef
 have hr:(execOp a.eval ⟨d,.call ⟨.value x,xs.toArray,ts⟩,ty,pos,af,g⟩).run P w=.ok (.enter f (cs++vs).toArray) w:=by
  simp [execOp,resolve,hv',Deferred.ofValue,invoke,hm,X4w hF]
 rw [hr]
 exact h
theorem Xvz{f:FuncId}{x:Operand}{xs:List Operand}{vs cs:List Value}{ts:Array TypeId}{R:Value->World->Prop}(hv:ev e x=some (.func (.func f) cs.toArray #[]))(hx:evs e xs=some vs)(hF:FuncF P f)(h:Ret P f (cs++vs) w R) : EfW P ⟨d,.call ⟨.value x,xs.toArray,ts⟩,ty,pos,af,g⟩ n e w R:=fun a hf=>Xnk hf hv hx hF h
end
def ApS(s t:Sr) : Prop:=(Apart s.A t.A/\Apart s.A t.B)/\(Apart s.B t.A/\Apart s.B t.B)
def DeepO(w:World)(B0:Nat)(E:TypeId)(l:List Sr) : Prop:=(∀ s ∈ l,Own w B0 E 3 encG s.A s.c s.old/\Own w B0 E 3 encG s.B s.d s.new/\Apart s.A s.B)/\l.Pairwise ApS
section
variable {w w' : World} {B0 B1 : Nat} {E : TypeId} {l : List Sr} {x s : Sr}
theorem DeepO.nil(w:World)(B0:Nat)(E:TypeId) : DeepO w B0 E []:=⟨fun s hs=>by simp at hs,List.Pairwise.nil⟩
theorem DeepO.one(h1:Own w B0 E 3 encG x.A x.c x.old)(h2:Own w B0 E 3 encG x.B x.d x.new)(ha:Apart x.A x.B) : DeepO w B0 E [x]:=⟨fun s hs=>by rw [Qm.1 hs];exact ⟨h1,h2,ha⟩,List.pairwise_singleton ..⟩
theorem DeepO.bw(h:DeepO w B0 E l)(hb:Below w.heap.size w w') : DeepO w' B0 E l:=⟨fun s hs=>⟨(h.1 s hs).1.bw hb,(h.1 s hs).2.1.bw hb,(h.1 s hs).2.2⟩,h.2⟩
theorem DeepO.oT{b:Nat}{T:TypeId}{lc:List Value}(h:DeepO w B0 E l)(ho:Only b w w')(hb:Blk w b T lc)(hT:Nat.beq E T=false) : DeepO w' B0 E l:=⟨fun s hs=>⟨(h.1 s hs).1.oT ho hb hT,(h.1 s hs).2.1.oT ho hb hT,(h.1 s hs).2.2⟩,h.2⟩
theorem DeepO.appT{α:Type}{B2:Nat}{E':TypeId}{sz:Nat}{enc:α->List Value}{A:Option Addr}{c:Nat}{m:List α}(h:DeepO w B0 E l)(ho:Own w B2 E' sz enc A c m)(hg:w.grownBy w' (Value.slice A m.length c).ownBlock)(hT:Nat.beq E' E=false) : DeepO w' B0 E l:=
 ⟨fun s hs=>⟨(h.1 s hs).1.appT ho hg hT,(h.1 s hs).2.1.appT ho hg hT,(h.1 s hs).2.2⟩,h.2⟩
theorem DeepO.appP{α:Type}{A:Option Addr}{c:Nat}{m:List α}(h:DeepO w B0 E l)(hg:w.grownBy w' (Value.slice A m.length c).ownBlock)(hf:∀ s ∈ l,Apart s.A A/\Apart s.B A) : DeepO w' B0 E l:=
 ⟨fun s hs=>⟨(h.1 s hs).1.appP hg (hf s hs).1,(h.1 s hs).2.1.appP hg (hf s hs).2,(h.1 s hs).2.2⟩,h.2⟩
theorem DeepO.rd(h:DeepO w B0 E l) : DeepR w w.heap.size E l:=fun s hs=>⟨(h.1 s hs).1.rd,(h.1 s hs).2.1.rd⟩
theorem DeepO.tail(h:DeepO w B0 E (x::l)) : DeepO w B0 E l:=⟨fun s hs=>h.1 s (Ql _ hs),h.2.of_cons⟩
theorem DeepO.lower(h:DeepO w B1 E l)(hB:B0<=B1) : DeepO w B0 E l:=⟨fun s hs=>⟨(h.1 s hs).1.lower hB,(h.1 s hs).2.1.lower hB,(h.1 s hs).2.2⟩,h.2⟩
theorem DeepO.fresh{A:Option Addr}{c:Nat}{m:List Gt}(h:DeepO w B0 E l)(h1:Own w' B1 E 3 encG A c m)(hB:w.heap.size<=B1) : ∀ s ∈ l,Apart s.A A/\Apart s.B A:=fun s hs=>⟨(h.1 s hs).1.apart h1 hB,(h.1 s hs).2.1.apart h1 hB⟩
theorem DeepO.snoc(h:DeepO w B0 E l)(h1:Own w B0 E 3 encG x.A x.c x.old)(h2:Own w B0 E 3 encG x.B x.d x.new)(ha:Apart x.A x.B)(f1:∀ s ∈ l,Apart s.A x.A/\Apart s.B x.A)(f2:∀ s ∈ l,Apart s.A x.B/\Apart s.B x.B) : DeepO w B0 E (l++[x]):=by
 refine ⟨fun s hs=>?_,List.pairwise_append.2 ⟨h.2,List.pairwise_singleton ..,fun s hs t ht=>?_⟩⟩
 ·rcases Qu.1 hs with hs|hs
  ·exact h.1 s hs
  ·rw [Qm.1 hs];exact ⟨h1,h2,ha⟩
 ·rw [Qm.1 ht]
  exact ⟨⟨(f1 s hs).1,(f2 s hs).1⟩,⟨(f1 s hs).2,(f2 s hs).2⟩⟩
theorem DeepO.head{p:Int}{A D:Option Addr}{c g:Nat}{m k:List Gt}(h:DeepO w B0 E (⟨p,A,c,m,none,0,[]⟩::l))(hD:Own w B0 E 3 encG D g k)(f:∀ s ∈ (⟨p,A,c,m,none,0,[]⟩::l:List Sr),Apart s.A D/\Apart s.B D) : DeepO w B0 E (⟨p,A,c,m,D,g,k⟩::l):=by
 have h0:=h.1 _ (Qk ..);have h2:=W8.1 h.2
 refine ⟨fun s hs=>?_,W8.2 ⟨fun t ht=>?_,h2.2⟩⟩
 ·rcases Qv.1 hs with rfl|hs
  ·exact ⟨h0.1,hD,(f _ (Qk ..)).1⟩
  ·exact h.1 s (Ql _ hs)
 ·have h3:=f t (Ql _ ht);exact ⟨(h2.1 t ht).1,⟨h3.1.symm,h3.2.symm⟩⟩
theorem DeepO.pos{i:Nat}{p:Int}(h:DeepO w B0 E l)(hx:l[i]? = some x) : DeepO w B0 E (l.set i ⟨p,x.A,x.c,x.old,x.B,x.d,x.new⟩):=by
 obtain ⟨hi,hxi⟩:=Qg.1 hx;have hp:=W0.1 h.2;have hxm:=h.1 x (Qe hx)
 refine ⟨fun s hs=>?_,W0.2 fun j k hj hk hjk=>?_⟩
 ·obtain ⟨j,hj,rfl⟩:=List.mem_iff_getElem.1 hs
  rw [List.length_set] at hj
  rw [List.getElem_set]
  split
  ·exact hxm
  ·exact h.1 _ (List.getElem_mem hj)
 ·rw [List.length_set] at hj hk
  have h1:=hp j k hj hk hjk
  rw [List.getElem_set,List.getElem_set]
  split
  ·rename_i e;subst e;rw [Q3 Z];rw [hxi] at h1;exact h1
  ·split
   ·rename_i e;subst e;rw [hxi] at h1;exact h1
   ·exact h1
end
theorem Xgb:∀ (k:Nat) (c:Cx) (l:List Rp) (d:Cx),pkR k c=some (l,d)->(∀ r ∈ l,r.old.length<=40/\r.new.length<=40)/\l.length+d.gs.length<=c.gs.length
 | 0,c,l,d,h=>by
  unfold pkR at h;injection h with h;injection h with h1 h2;subst h1;subst h2
  exact ⟨fun r hr=>by simp at hr,by simp⟩
 | k+1,c,l,d,h=>by
  cases hx:stX c with
  | none=>
   rw [Xb0 hx] at h;injection h with h;injection h with h1 h2;subst h1;subst h2
   exact ⟨fun r hr=>by simp at hr,by simp⟩
  | some r=>
   cases ha:applyS c r with
   | none=>rw [Xeg hx ha] at h;cases h
   | some e=>
    rw [Xb1 hx ha] at h
    cases hp:pkR k e with
    | none=>rw [hp] at h;cases h
    | some y=>
     rw [hp,Option.map_some] at h;injection h with h;injection h with h1 h2;subst h1;subst h2
     obtain ⟨h3,h4⟩:=Xgb k e y.1 y.2 hp;have h5:=X81 hx ha
     refine ⟨fun q hq=>?_,by rw [Qs];omega⟩
     rcases Qv.1 hq with rfl|hq
     ·exact X6f hx
     ·exact h3 q hq
theorem Xga(c:Cx) : (pkC c).1.gs.length<=400/\(pkC c).2.2.gs.length<=400/\(pkC c).2.1.length<=400/\∀ r ∈ (pkC c).2.1,r.old.length<=40/\r.new.length<=40:=by
 unfold pkC
 split
 ·rename_i hc
  have hl:=Xn1 hc
  cases hp:pkR c.gs.length c with
  | none=>exact ⟨Qf _,Qf _,Qf _,fun r hr=>by cases hr⟩
  | some y=>
   obtain ⟨h1,h2⟩:=Xgb _ c y.1 y.2 hp;exact ⟨hl,by show y.2.gs.length<=400;omega,by show y.1.length<=400;omega,h1⟩
 ·exact ⟨Qf _,Qf _,Qf _,fun r hr=>by cases hr⟩
theorem Xpm{c:Cx}{l:List Sr}(h:l.map Sr.rp=(pkC c).2.1) : l.length<=400/\∀ s ∈ l,s.old.length<=40/\s.new.length<=40:=by
 obtain ⟨_,_,h3,h4⟩:=Xga c
 rw [<- h] at h3 h4
 rw [Qo] at h3
 exact ⟨h3,fun s hs=>h4 s.rp (List.mem_map_of_mem hs)⟩
end Go.Proofs.YtfkokcbjcndjpaaGreatDoor
namespace Go.Proofs.YtfkokcbjcndjpaaGreatDoor
open Go.RowKit
theorem Y09(W:World)(c:Cx)(Ac:Option Addr)(cc:Nat)(m:Rd W W.heap.size 59 encG Ac c.gs)(L:c.gs.length<=cc)(p:Nat)(aR:cOk c=true)(bP:p<c.gs.length) : Ret Tryz.prog 43 [.agg #[vi c.n,.slice Ac c.gs.length cc],vi (p:Int)] W (fun v w=>∃ A9 e9 ls,v=.slice A9 (List.length (α:=Sl) ls) e9/\Rd w w.heap.size 32 encS A9 ls/\(∀ s9 ∈ ls,Rd w w.heap.size 3 encI s9.A s9.l)/\ls.map Sl.l=lsX c p/\Below W.heap.size W w):=by
 obtain ⟨cO,cP,bQ⟩:=X10 aR;obtain ⟨t,U⟩:=Xj (l:=c.gs) (k:=p) bP;have cK:=bQ t (Qe U);have cQ:=X2e t
 have cL:(c.gs.drop (p+1)).length<=400:=by rw [List.length_drop];omega
 refine enter Tryz.func43 O 65 O O ?_;intro a j
 have q:=bz W
 refine Zs j fun _ bR=>?_;refine Zf (X0m (zs:=[vi c.n,.slice Ac c.gs.length cc]) O O) ?_;rintro _ w1 ⟨b3,rfl,bS,o,C⟩;have cM:=Q0 q.size bS;have m:=m.bw o;have q:=btr q o;refine Za O<|Zx bR fun a j _ bU=>?_;refine Ze (Vd O X05 1)<|Ze (X0 O X0l (C.at 1))<|Zm O<|Zi (k:=p) (u:=t) (enc:=encG) (l:=c.gs) tv0 O O Xa X0g X9 m U O ?_;intro p7 aS;refine Ze (Xx (l:=[vi t.k,vi t.a,vi t.b]) O X01 aS O) ?_;refine ZB [vi t.k,vi t.a,vi t.b] X26 X0g fun b8 w3 bW o x=>?_;have cN:=Q0 q.size bW;have C:=C.bw o;have m:=m.bw o;have q:=btr q o;refine ZX bU fun a j _ bX=>?_;refine Q8<|Zs j fun _ aT=>?_;refine Ze (Vd O X0n 0)<|Ze (X0 O X8 (x.at 0))<|Ze (X13 O O)<|Za O<|Zt aT fun a j=>?_
 refine X04 j O (fun z=>?_) (fun z=>?_)
 ·have H:t.k=12:=by simpa using z
  have D:=Xyf U H;refine Zs j fun _ aU=>?_;refine Za O<|Zt aU fun a j=>?_;refine Q6<|Xo<|X5<|X4 j (Xv j O O) ?_;exact ⟨none,0,[],O,Rd.nil _ _ _ _ _,(fun _ h=>by cases h),by rw [D];rfl,q⟩
 have H:¬ t.k=12:=by simpa using z
 refine Zs j fun _ aV=>?_;refine Ze (Vd O X0n 0)<|Ze (X0 O X8 (x.at 0))<|Zf (Vc (F99 _ t.k) Xal) ?_;rintro _ _ ⟨rfl,rfl⟩;refine Za O<|Zt aV fun a j=>?_
 refine X04 j O (fun B=>?_) (fun B=>?_)
 ·have aW:inR t.k 9 11=true:=B
  have D:lsX c p=[unionI (qubI t) []]:=by rw [Xht U H aW,X4j H aW,Xkw]
  refine Zs j fun _ aX=>?_;refine Ze (Vn X01 x)<|Zf (Vc (F96 _ t) Xfp) ?_;rintro _ w4 ⟨bY,bZ,rfl,aA,o⟩;have aA:=aA.lower q.size;have q:=btr q o;refine Zf (Vc (F47 _ bY bZ (qubI t) aA.rd.top none 0 ([] : List Int) (Rd.nil _ _ _ _ _) Z O5) Xje) ?_;rintro _ w5 ⟨aJ,aK,rfl,J,o⟩;have J:=J.lower q.size;have q:=btr q o;refine Zf (X2 (k:=1) (vs:=[.slice aJ (unionI (qubI t) ([] : List Int)).length aK]) (zs:=[.slice aJ (unionI (qubI t) ([] : List Int)).length aK]) O X1u X3q O O) ?_;rintro _ w6 ⟨c4,rfl,aY,o,aI⟩;have cA:=Q0 q.size aY;have J:=J.bw o;have q:=btr q o;refine Za O<|Zt aX fun a j=>?_;refine Q6<|Xo<|X5<|X4 j (Xv j O O) ?_;exact ⟨(some ⟨c4,0,none⟩),1,[(⟨aJ,aK,(unionI (qubI t) ([] : List Int))⟩ : Sl)],O,(Rd.of_blk aI O _ aI.lt),(Xf7 J.rd.top),by rw [D];rfl,q⟩
 have aZ:inR t.k 9 11=false:=B
 refine Q7<|Xn<|bX _ _<|Zs j fun _ b0=>?_;refine Ze (Vd O X0p 1)<|Ze (X0 O X8 (x.at 1))<|Zf (X2 (k:=1) (vs:=[vi t.a]) (zs:=[vi t.a]) O Xy X1a O O) ?_;rintro _ w7 ⟨G,rfl,b1,o,e⟩;have cB:=Q0 q.size b1;have C:=C.bw o;have x:=x.bw o;have m:=m.bw o;have q:=btr q o;refine Zf (X2 (k:=1) (vs:=[.slice (some ⟨G,0,none⟩) ([t.a]).length 1]) (zs:=[.slice (some ⟨G,0,none⟩) ([t.a]).length 1]) O X1u X3q O O) ?_;rintro _ w8 ⟨aB,rfl,b2,o,i⟩;have aC:=Q0 q.size b2;have C:=C.bw o;have x:=x.bw o;have e:=e.bw o;have m:=m.bw o;have q:=btr q o;refine Za O<|ZX b0 fun a j _ b4=>?_;refine Zs j fun _ b5=>?_;refine Ze (Vd O X05 1)<|Ze (X0 O X0l (C.at 1))<|Zm O<|Ze (X03 O O Z Z) ?_;have I:=(m.top).dropK X9 (c:=cc) L (p+1);refine Ze (X54 (l:=c.gs) (k:=(p+1)) O O Xa X0g O Z)<|Ze (X0o O Xa)<|Zm O<|Zt b5 fun a j=>?_;refine Q8<|X0d (σ:=Nat) (fun (k:Nat) (a:Act) (w:World)=>Fr a 65 [(5,(pZ9 b8)),(6,.slice (some ⟨aB,0,none⟩) ([(⟨some ⟨G,0,none⟩,1,[t.a]⟩ : Sl)]).length 1),(34,.slice (if cc=(p+1) then Ac else Ac.map (·.add ((p+1)*3))) (c.gs.drop (p+1)).length (cc-(p+1))),(35,vi ((c.gs.drop (p+1)).length:Int)),(36,vi (k:Int))]/\(k<=(c.gs.drop (p+1)).length)/\(NoW c p k t.a)/\Blk w b3 25 [vi c.n,.slice Ac c.gs.length cc]/\Blk w b8 59 [vi t.k,vi t.a,vi t.b]/\Blk w G 3 [vi t.a]/\Blk w aB 32 [.slice (some ⟨G,0,none⟩) ([t.a]).length 1]/\Rd w W.heap.size 59 encG Ac c.gs/\Rd w w8.heap.size 59 encG (if cc=(p+1) then Ac else Ac.map (·.add ((p+1)*3))) (c.gs.drop (p+1))/\c.gs.length<=cc/\Below W.heap.size W w) (fun (k:Nat)=>(c.gs.drop (p+1)).length-k) 0 ?_ ?_
 ·exact ⟨j.sb,(Qf _),O,C,x,e,i,m,I,L,q⟩
 rintro k a w9 ⟨j,hk,aL,C,x,e,i,m,I,L,q⟩;refine Zs j fun _ b6=>?_;refine Ze (X16 O O)<|ZX b6 fun a j _ b7=>?_
 refine X12 j O (fun y b9=>?_) (fun y b9=>?_)
 ·obtain ⟨f,aD⟩:=Xj (l:=(c.gs.drop (p+1))) (k:=k) Z
  refine Q7<|b7 _ _<|Q5 fun _ bC=>?_;refine Q8<|Zs j fun _ bD=>?_;refine Zi (k:=k) (u:=f) (enc:=encG) (l:=(c.gs.drop (p+1))) tv0 O O Xa X0g X9 I aD O ?_;intro cR aM;refine Ze (Xx (l:=[vi f.k,vi f.a,vi f.b]) O X01 aM O) ?_;refine ZB [vi f.k,vi f.a,vi f.b] X26 X0g fun b38 cC bE o M=>?_
  have bF:b8≠b38:=by have:=x.lt;omega
  have cD:=Q0 q.size bE;have C:=C.bw o;have x:=x.bw o;have e:=e.bw o;have i:=i.bw o;have m:=m.bw o;have I:=I.bw o;have q:=btr q o;refine ZX bD fun a j _ bG=>?_;refine X0f (fun a w=>Fr a 65 [(5,(pZ9 b8)),(6,.slice (some ⟨aB,0,none⟩) ([(⟨some ⟨G,0,none⟩,1,[t.a]⟩ : Sl)]).length 1),(8,(pZ9 b38)),(34,.slice (if cc=(p+1) then Ac else Ac.map (·.add ((p+1)*3))) (c.gs.drop (p+1)).length (cc-(p+1))),(35,vi ((c.gs.drop (p+1)).length:Int)),(36,vi (k:Int)),(56,.bool ((inR f.k 9 11)&&((f.a==t.a)||(f.b==t.a))))]/\cC=w) ?_ ?_
  ·refine Zr j<|Ze (Vd O X0n 0)<|Ze (X0 O X8 (M.at 0))<|Zf (Vc (F99 _ f.k) Xal) ?_;rintro _ _ ⟨rfl,rfl⟩;refine Zm O ?_
   refine Zg 43 O (fun d=>?_) (fun d=>?_)
   ·refine Zv (gW d) (Vd O X0p 1) ?_;refine Zv (gW d) (X0 O X8 (M.at 1)) ?_;refine Zv (gW d) (Vd O X0p 1) ?_;refine Zv (gW d) (X0 O X8 (x.at 1)) ?_;refine Zv (gW d) (X13 O O) ?_;refine Zv (gW d) (X7 O) ?_
    refine Zg 49 O (fun g=>?_) (fun g=>?_)
    ·(iterate 5 refine Zp (gP g) ?_);refine Zv (gW d) (Xf O g O) ?_;refine Ze (Xf O d O) ?_;refine Zn fun a j=>?_;exact ⟨j.sub ⟨O,O,O,O,O,O,X1 O (by first|rfl|(simp only [z,B,y,d,g,bs];done)|simp [z,B,y,d,g]),trivial⟩,O⟩
    refine Zv (gW g) (Vd O X14 2) ?_;refine Zv (gW g) (X0 O X8 (M.at 2)) ?_;refine Zv (gW g) (Vd O X0p 1) ?_;refine Zv (gW g) (X0 O X8 (x.at 1)) ?_;refine Zv (gW g) (X13 O O) ?_;refine Zv (gW d) (Xb O g O) ?_;refine Ze (Xf O d O) ?_;refine Zn fun a j=>?_;exact ⟨j.sub ⟨O,O,O,O,O,O,X1 O (by first|rfl|(simp only [z,B,y,d,g,bs];done)|simp [z,B,y,d,g]),trivial⟩,O⟩
   (iterate 6 refine Zp (gP d) ?_);(iterate 5 refine Zp (gP tv0) ?_);refine Zp (gP d) ?_;refine Ze (Xb O d O) ?_;refine Zn fun a j=>?_;exact ⟨j.sub ⟨O,O,O,O,O,O,X1 O (by first|rfl|(simp only [z,B,y,d,bs];done)|simp [z,B,y,d]),trivial⟩,O⟩
  rintro a _ ⟨j,rfl⟩;refine bG _ _ ?_
  refine X04 j O (fun aE=>?_) (fun aE=>?_)
  ·have bH:isW t.a f=true:=aE
   have bI:inR f.k 9 11=true:=((Qd _ _▸bH:inR f.k 9 11=true/\(f.a==t.a||f.b==t.a)=true)).1
   have bJ:=Xqp bI;have cS:=X2e f;have D:=Xav U H aZ aL aD bH
   rw [show putI [f.a] f.b=unionI (qubI f) [] from by rw [X4j bJ bI,Xkw]] at D
   refine Zs j fun _ bK=>?_;refine Zm O<|Ze (Vn X01 M)<|Zf (Vc (F96 _ f) Xfp) ?_;rintro _ cT ⟨cE,cF,rfl,N,o⟩;have aN:=N.awayNew e.lt;have N:=N.lower q.size;have e:=e.bw o;have i:=i.bw o;have q:=btr q o;refine Zf (Vc (F47 _ cE cF (qubI f) N.rd.top none 0 ([] : List Int) (Rd.nil _ _ _ _ _) Z O5) Xje) ?_;rintro _ cU ⟨aG,aH,rfl,E,o⟩;have aO:=E.awayNew e.lt;have E:=E.lower q.size;have e:=e.bw o;have i:=i.bw o;have q:=btr q o;refine Zf (X2 (k:=1) (vs:=[.slice aG (unionI (qubI f) ([] : List Int)).length aH]) (zs:=[.slice aG (unionI (qubI f) ([] : List Int)).length aH]) O X1u X3q O O) ?_;rintro _ cV ⟨b47,rfl,bL,o,aF⟩
   have aP:aB≠b47:=by have:=i.lt;omega
   have cG:=Q0 q.size bL;have e:=e.bw o;have i:=i.bw o;have E:=E.bw o;have q:=btr q o;refine Zf (X0i (enc:=encS) (l:=([(⟨some ⟨G,0,none⟩,1,[t.a]⟩ : Sl)])) (l2:=([(⟨aG,aH,(unionI (qubI f) ([] : List Int))⟩ : Sl)])) (B0:=W.heap.size) O O X1u X3q X2z Xnq (Own.of_blkL X2z i aC O O (Nat.le_of_ble_eq_true O)) (Rd.of_blk aF O _ aF.lt) (by simp only [maxLen];simp) O5 q.size) ?_;rintro _ cW ⟨cH,cI,rfl,bM,hg,bN⟩
   have Q:Own _ W.heap.size 32 1 encS _ _ ([(⟨some ⟨G,0,none⟩,1,[t.a]⟩ : Sl)]):=(Own.of_blkL X2z i aC O O (Nat.le_of_ble_eq_true O))
   have aQ:=bN _ aF.lt (Away.ne Z)
   clear bN;have e:=e.appT Q hg O;have E:=E.appT Q hg O;have q:=Below.app q Q hg (Qb _) q.size;clear Q hg;refine Za O<|Zt bK fun a j=>?_;refine Q6<|Xo<|X5<|X5 ?_;refine Xo<|X5<|X4 j (Xv j O O) ?_;exact ⟨cH,cI,([(⟨some ⟨G,0,none⟩,1,[t.a]⟩ : Sl)])++([(⟨aG,aH,(unionI (qubI f) ([] : List Int))⟩ : Sl)]),O,bM.rd.top,(Xrd (Rd.of_blk e O _ e.lt) E.rd.top),by rw [D];rfl,q⟩
  have cJ:isW t.a f=false:=aE
  refine Q7<|Xn<|bC _ _<|Zr j ?_;refine Ze (X03 O O Z Z)<|Zm O ?_;refine Zn fun a j=>?_;refine Xd ?_;exact ⟨k+1,⟨j.sb,Z,(Xaw aL aD cJ),C,x,e,i,m,I,L,q⟩,Z⟩
 have D:=Xed U H aZ aL Z
 refine Q9<|Xm<|Xm<|X0a ?_;refine b4 _ _<|Zs j fun _ bO=>?_;refine Zm O<|Za O<|Zt bO fun a j=>?_
 refine Q6 (X4 j (Xv j O O) ?_)
 exact ⟨(some ⟨aB,0,none⟩),1,[(⟨some ⟨G,0,none⟩,1,[t.a]⟩ : Sl)],O,(Rd.of_blk i O _ i.lt),(Xf7 (Rd.of_blk e O _ e.lt)),by rw [D];rfl,q⟩
theorem Y08(N:World)(c:Cx)(Q:Option Addr)(U:Nat)(q:Rd N N.heap.size 59 encG Q c.gs)(I:c.gs.length<=U)(p:Nat)(aU:cOk c=true)(bL:p<c.gs.length) : Ret Tryz.prog 54 [.agg #[vi c.n,.slice Q c.gs.length U],vi (p:Int)] N (fun v w=>∃ A9 e9 ls,v=.slice A9 (List.length (α:=Sl) ls) e9/\Rd w w.heap.size 32 encS A9 ls/\(∀ s9 ∈ ls,Rd w w.heap.size 3 encI s9.A s9.l)/\ls.map Sl.l=lsX c p/\Below N.heap.size N w):=by
 obtain ⟨cI,cJ,bM⟩:=X10 aU;obtain ⟨j,L⟩:=Xj (l:=c.gs) (k:=p) bL;have cE:=bM j (Qe L);have cK:=X2e j
 have cF:(c.gs.drop (p+1)).length<=400:=by rw [List.length_drop];omega
 refine enter Tryz.func54 O 68 O O ?_;intro a m
 have o:=bz N
 refine Zs m fun _ bN=>?_;refine Zf (X0m (zs:=[vi c.n,.slice Q c.gs.length U]) O O) ?_;rintro _ w1 ⟨b3,rfl,bO,g,E⟩;have cG:=Q0 o.size bO;have q:=q.bw g;have o:=btr o g;refine Za O<|Zx bN fun a m _ bP=>?_;refine Ze (Vd O X05 1)<|Ze (X0 O X0l (E.at 1))<|Zm O<|Zi (k:=p) (u:=j) (enc:=encG) (l:=c.gs) tv0 O O Xa X0g X9 q L O ?_;intro p7 aV;refine Ze (Xx (l:=[vi j.k,vi j.a,vi j.b]) O X01 aV O)<|Zf (Vc (Xvo _ j) Xhe) ?_;rintro _ w2 ⟨A8,c8,rfl,e,g⟩;have e:=e.lower o.size;have E:=E.bw g;have q:=q.bw g;have o:=btr o g;refine Za O<|ZX bP fun a m _ bQ=>?_;refine Zs m fun _ aW=>?_;refine Zm O<|Ze (X0o O Xy)<|Zt aW fun a m=>?_;refine Q8<|Zs m fun _ aX=>?_;refine Ze (X13 O O)<|Za O<|Zt aX fun a m=>?_
 refine X04 m O (fun z=>?_) (fun z=>?_)
 ·have t:j.k=12:=by
   have G:=z
   unfold qubI at G
   by_cases h8:j.k=12
   ·exact h8
   ·rw [Q3 h8] at G;split at G<;>simp at G
  have C:=Xyf L t;refine Zs m fun _ aY=>?_;refine Za O<|Zt aY fun a m=>?_;refine Q6<|Xo<|X5<|X4 m (Xv m O O) ?_;exact ⟨none,0,[],O,Rd.nil _ _ _ _ _,(fun _ h=>by cases h),by rw [C];rfl,o⟩
 have t:¬ j.k=12:=by
  intro h8;have G:=z
  unfold qubI at G
  rw [Q4 h8] at G;simp at G
 refine Zs m fun _ aZ=>?_;refine Ze (X13 O O)<|Za O<|Zt aZ fun a m=>?_
 refine X04 m O (fun B=>?_) (fun B=>?_)
 ·have aJ:inR j.k 9 11=true:=by
   have G:=B
   unfold qubI at G
   rw [Q3 t] at G
   by_cases h8:inR j.k 9 11=true
   ·exact h8
   ·rw [Q3 h8] at G;simp at G
  have C:=Xht L t aJ;refine Q5 fun _ b0=>?_;refine X08 none (fun _=>false) mixed ?_;intro w3 g;have e:=e.bw g;have o:=btr o g;refine Yb m<|Yo 0 O (fun _=>X7 O)<|Yi (k:=0) (u:=j.a) (enc:=encI) (l:=(qubI j)) 1 O tv0 O O Xy X1o Xt e.rd (by rw [X4j t aJ];rfl) O ?_;intro cL aK;refine Ye 2 O (X0 O X8 aK)<|Yo 4 O (fun _=>X7 O)<|Yi (k:=1) (u:=j.b) (enc:=encI) (l:=(qubI j)) 5 O tv0 O O Xy X1o Xt e.rd (by rw [X4j t aJ];rfl) O ?_;intro cM aL;refine Ye 6 O (X0 O X8 aL)<|Y1 3 ?_;refine Yk O tv0 (X2 (k:=1) (vs:=[vi j.a]) (zs:=[vi j.a]) O Xy X1a O O) (fun _ _ ⟨_,_,_,h,_⟩=>h) ?_;rintro _ w4 ⟨bR,rfl,b1,g,W⟩;have aM:=Q0 o.size b1;have o:=btr o g;refine Y1 7<|Yk O tv0 (Vc (Xmg _ (some ⟨bR,0,none⟩) 1 ([j.a]) (Rd.of_blk W O _ W.lt) j.b N.heap.size (Own.of_blkL Xt W aM O O (Nat.le_of_ble_eq_true O)) o.size O5) Xaj) (fun _ _ ⟨aE,aF,_,J,g⟩=>g) ?_;rintro _ w5 ⟨aE,aF,rfl,J,g⟩;have o:=btr o g;refine Y1 8<|Yk O tv0 (X2 (k:=1) (vs:=[.slice aE (putI ([j.a]) j.b).length aF]) (zs:=[.slice aE (putI ([j.a]) j.b).length aF]) O X1u X3q O O) (fun _ _ ⟨_,_,_,h,_⟩=>h) ?_;rintro _ w6 ⟨bS,rfl,b2,g,aG⟩;have bU:=Q0 o.size b2;have J:=J.bw g;have o:=btr o g;refine Yo 9 O (fun _=>X0y O) ?_;refine Yd fun a m=>?_;refine b0 _ _<|Q6<|Xo<|X5 ?_;refine X4 m (Xv m O O) ?_;exact ⟨(some ⟨bS,0,none⟩),1,[(⟨aE,aF,(putI ([j.a]) j.b)⟩ : Sl)],O,(Rd.of_blk aG O _ aG.lt),(Xf7 J.rd.top),by rw [C];rfl,o⟩
 have M:inR j.k 9 11=false:=by
  have G:=B
  unfold qubI at G
  rw [Q3 t] at G
  cases h8:inR j.k 9 11
  ·rfl
  ·rw [Q4 h8] at G;simp at G
 refine Q7<|Xn<|bQ _ _<|Q5 fun _ b4=>?_;refine Zs m fun _ b5=>?_;refine Ze (Vd O X05 1)<|Ze (X0 O X0l (E.at 1))<|Zm O<|Ze (X03 O O Z Z) ?_;have D:=(q.top).dropK X9 (c:=U) I (p+1);refine Ze (X54 (l:=c.gs) (k:=(p+1)) O O Xa X0g O Z)<|Ze (X0o O Xa)<|Zm O<|Zt b5 fun a m=>?_;refine Q8<|X0d (σ:=Nat) (fun (k:Nat) (a:Act) (w:World)=>Fr a 68 [(5,.slice A8 (qubI j).length c8),(33,.slice (if U=(p+1) then Q else Q.map (·.add ((p+1)*3))) (c.gs.drop (p+1)).length (U-(p+1))),(34,vi ((c.gs.drop (p+1)).length:Int)),(35,vi (k:Int))]/\(k<=(c.gs.drop (p+1)).length)/\(NoW c p k j.a)/\Blk w b3 25 [vi c.n,.slice Q c.gs.length U]/\Rd w N.heap.size 59 encG Q c.gs/\Own w N.heap.size 3 1 encI A8 c8 (qubI j)/\Rd w w2.heap.size 59 encG (if U=(p+1) then Q else Q.map (·.add ((p+1)*3))) (c.gs.drop (p+1))/\c.gs.length<=U/\Below N.heap.size N w) (fun (k:Nat)=>(c.gs.drop (p+1)).length-k) 0 ?_ ?_
 ·exact ⟨m.sb,(Qf _),O,E,q,e,D,I,o⟩
 rintro k a w7 ⟨m,hk,aN,E,q,e,D,I,o⟩;refine Zs m fun _ b6=>?_;refine Ze (X16 O O)<|ZX b6 fun a m _ b7=>?_
 refine X12 m O (fun y b8=>?_) (fun y b8=>?_)
 ·obtain ⟨i,aA⟩:=Xj (l:=(c.gs.drop (p+1))) (k:=k) Z
  refine Q7<|b7 _ _<|Q5 fun _ b9=>?_;refine Q8<|Zs m fun _ bC=>?_;refine Zi (k:=k) (u:=i) (enc:=encG) (l:=(c.gs.drop (p+1))) tv0 O O Xa X0g X9 D aA O ?_;intro cN aO;refine Ze (Xx (l:=[vi i.k,vi i.a,vi i.b]) O X01 aO O) ?_;refine ZB [vi i.k,vi i.a,vi i.b] X26 X0g fun bW w9 bD g x=>?_;have bX:=Q0 o.size bD;have E:=E.bw g;have q:=q.bw g;have e:=e.bw g;have D:=D.bw g;have o:=btr o g;refine ZX bC fun a m _ bE=>?_;refine X0f (fun a w=>Fr a 68 [(5,.slice A8 (qubI j).length c8),(7,(pZ9 bW)),(33,.slice (if U=(p+1) then Q else Q.map (·.add ((p+1)*3))) (c.gs.drop (p+1)).length (U-(p+1))),(34,vi ((c.gs.drop (p+1)).length:Int)),(35,vi (k:Int)),(56,.bool ((inR i.k 9 11)&&((i.a==j.a)||(i.b==j.a))))]/\Below w9.heap.size w9 w) ?_ ?_
  ·have H:Below w9.heap.size w9 w9:=Below.refl _ _
   refine X08 none (fun _=>false) mixed ?_;intro cO g;have x:=x.bw g;have e:=e.bw g;have o:=btr o g;have H:=btr H g;refine Yb m<|Ye 0 O (Vn X01 x)<|Y1 1 ?_;refine Yk O tv0 (Vc (Xmf _ i) Xai) (fun _ _ ⟨_,g⟩=>g) ?_;rintro _ cP ⟨rfl,g⟩;have x:=x.bw g;have e:=e.bw g;have o:=btr o g;have H:=btr H g;refine Yo 2 O (fun _=>X7 O) ?_
   refine Yl 41 O (fun d=>?_) (fun d=>?_)
   ·refine Yu 3 O (gW d) (fun _=>Vd O X0p 1) ?_;refine Yv 4 O (gW d) (X0 O X8 (x.at 1)) ?_;refine Yu 5 O (gW d) (fun _=>X7 O) ?_;refine Yi (k:=0) (u:=j.a) (enc:=encI) (l:=(qubI j)) 6 O ⟨_,_,O,O,d⟩ O O Xy X1o Xt e.rd (by rw [X3e t M];rfl) O ?_;intro cQ aP;refine Yv 7 O (gW d) (X0 O X8 aP) ?_;refine Yu 8 O (gW d) (fun _=>X13 O O) ?_;refine Yu 9 O (gW d) (fun _=>X7 O) ?_
    refine Yl 48 O (fun f=>?_) (fun f=>?_)
    ·refine Yp 10 O (gP f) ?_;refine Yp 11 O (gP f) ?_;refine Yp 12 O (gP f) ?_;refine Yp 13 O (gP f) ?_;refine Yp 14 O (gP f) ?_;refine Yp 15 O (gP f) ?_;refine Yu 16 O (gW d) (fun _=>Xf O f O) ?_;refine Yo 17 O (fun _=>Xf O d O) ?_;refine Yd fun a m=>?_;exact ⟨m.sub ⟨O,O,O,O,O,X1 O (by first|rfl|(simp only [z,B,y,d,f,bs];done)|simp [z,B,y,d,f]),trivial⟩,H⟩
    refine Yu 10 O (gW f) (fun _=>Vd O X14 2) ?_;refine Yv 11 O (gW f) (X0 O X8 (x.at 2)) ?_;refine Yu 12 O (gW f) (fun _=>X7 O) ?_;refine Yi (k:=0) (u:=j.a) (enc:=encI) (l:=(qubI j)) 13 O ⟨_,_,O,O,f⟩ O O Xy X1o Xt e.rd (by rw [X3e t M];rfl) O ?_;intro cR aQ;refine Yv 14 O (gW f) (X0 O X8 aQ) ?_;refine Yu 15 O (gW f) (fun _=>X13 O O) ?_;refine Yu 16 O (gW d) (fun _=>Xb O f O) ?_;refine Yo 17 O (fun _=>Xf O d O) ?_;refine Yd fun a m=>?_;exact ⟨m.sub ⟨O,O,O,O,O,X1 O (by first|rfl|(simp only [z,B,y,d,f,bs];done)|simp [z,B,y,d,f]),trivial⟩,H⟩
   refine Yp 3 O (gP d) ?_;refine Yp 4 O (gP d) ?_;refine Yp 5 O (gP d) ?_;refine Yp 6 O (gP d) ?_;refine Yp 7 O (gP d) ?_;refine Yp 8 O (gP d) ?_;refine Yp 9 O (gP d) ?_;refine Yp 10 O (gP tv0) ?_;refine Yp 11 O (gP tv0) ?_;refine Yp 12 O (gP tv0) ?_;refine Yp 13 O (gP tv0) ?_;refine Yp 14 O (gP tv0) ?_;refine Yp 15 O (gP tv0) ?_;refine Yp 16 O (gP d) ?_;refine Yo 17 O (fun _=>Xb O d O) ?_;refine Yd fun a m=>?_;exact ⟨m.sub ⟨O,O,O,O,O,X1 O (by first|rfl|(simp only [z,B,y,d,bs];done)|simp [z,B,y,d]),trivial⟩,H⟩
  rintro a cS ⟨m,g⟩;have E:=E.bw g;have x:=x.bw g;have q:=q.bw g;have e:=e.bw g;have D:=D.bw g;have o:=btr o g;refine bE _ _ ?_
  refine X04 m O (fun aB=>?_) (fun aB=>?_)
  ·have bF:isW j.a i=true:=aB
   have bY:inR i.k 9 11=true:=((Qd _ _▸bF:inR i.k 9 11=true/\(i.a==j.a||i.b==j.a)=true)).1
   have cH:=Xqp bY;have cT:=X2e i;have C:=Xav L t M aN aA bF
   rw [<- X3e t M] at C
   refine Zs m fun _ bG=>?_;refine Zm O<|Ze (Vd O X0p 1)<|Ze (X0 O X8 (x.at 1))<|Zf (X2 (k:=1) (vs:=[vi i.a]) (zs:=[vi i.a]) O Xy X1a O O) ?_;rintro _ cU ⟨bZ,rfl,bH,g,aC⟩;have aR:=Q0 o.size bH;have x:=x.bw g;have e:=e.bw g;have o:=btr o g;refine Ze (Vd O X14 2)<|Ze (X0 O X8 (x.at 2))<|Zf (Vc (Xmg _ (some ⟨bZ,0,none⟩) 1 ([i.a]) (Rd.of_blk aC O _ aC.lt) i.b N.heap.size (Own.of_blkL Xt aC aR O O (Nat.le_of_ble_eq_true O)) o.size O5) Xaj) ?_;rintro _ cV ⟨aS,aT,rfl,aD,g⟩;have e:=e.bw g;have o:=btr o g;refine Zf (X2 (k:=2) (vs:=[.slice A8 (qubI j).length c8,.slice aS (putI ([i.a]) i.b).length aT]) (zs:=[.slice A8 (qubI j).length c8,.slice aS (putI ([i.a]) i.b).length aT]) O X1u X3q O O) ?_;rintro _ cW ⟨c4,rfl,bI,g,aH⟩;have cA:=Q0 o.size bI;have e:=e.bw g;have aD:=aD.bw g;have o:=btr o g;refine Za O<|Zt bG fun a m=>?_;refine Q6<|Xo<|X5<|X5 ?_;refine Xo<|X5<|X4 m (Xv m O O) ?_;exact ⟨(some ⟨c4,0,none⟩),2,[(⟨A8,c8,(qubI j)⟩ : Sl),(⟨aS,aT,(putI ([i.a]) i.b)⟩ : Sl)],O,(Rd.of_blk aH O _ aH.lt),(Xrd e.rd.top aD.rd.top),by rw [C];rfl,o⟩
  have cB:isW j.a i=false:=aB
  refine Q7<|Xn<|b9 _ _<|Zr m ?_;refine Ze (X03 O O Z Z)<|Zm O ?_;refine Zn fun a m=>?_;refine Xd ?_;exact ⟨k+1,⟨m.sb,Z,(Xaw aN aA cB),E,q,e,D,I,o⟩,Z⟩
 have C:lsX c p=[qubI j]:=by rw [Xed L t M aN Z,X3e t M]
 refine Q9<|Xm<|Xm<|X0a ?_;refine b4 _ _<|Zs m fun _ bJ=>?_;refine Zm O<|Zf (X2 (k:=1) (vs:=[.slice A8 (qubI j).length c8]) (zs:=[.slice A8 (qubI j).length c8]) O X1u X3q O O) ?_;rintro _ cX ⟨cC,rfl,bK,g,aI⟩;have cD:=Q0 o.size bK;have e:=e.bw g;have o:=btr o g;refine Za O<|Zt bJ fun a m=>?_
 refine Q6 (X4 m (Xv m O O) ?_)
 exact ⟨(some ⟨cC,0,none⟩),1,[(⟨A8,c8,(qubI j)⟩ : Sl)],O,(Rd.of_blk aI O _ aI.lt),(Xf7 e.rd.top),by rw [C];rfl,o⟩
theorem Xuu(E:World)(H:Nat)(I:ByteArray->Option Sq)(aE:Option Addr)(aF aG:Nat)(e:MapS E H (sgF I))(b:DeepM E E.heap.size 59 I)(aR:sgL I=(tbW 1 5).1)(J:Nat)(L:ByteArray->Option Sq)(aH:Option Addr)(aI aJ:Nat)(f:MapS E J (sgF L))(d:DeepM E E.heap.size 59 L)(aS:sgL L=(tbW 2 3).1)(c:Cx)(Ac:Option Addr)(cc:Nat)(g:Rd E E.heap.size 59 encG Ac c.gs)(D:c.gs.length<=cc)(aL:cOk c=true)(aT:PowT E) : Ret Tryz.prog 19 [.agg #[.map none,.slice none 0 0,.map (some H),.slice aE aF aG,.map (some J),.slice aH aI aJ],.agg #[vi c.n,.slice Ac c.gs.length cc]] E (fun v w=>∃ A9 e9 B9 f9,v=.tuple #[.agg #[vi ((stX c).getD rpZ).pos,.slice A9 ((stX c).getD rpZ).old.length e9,.slice B9 ((stX c).getD rpZ).new.length f9],.bool (stX c).isSome]/\Own w E.heap.size 59 3 encG A9 e9 ((stX c).getD rpZ).old/\Own w E.heap.size 59 3 encG B9 f9 ((stX c).getD rpZ).new/\Apart A9 B9/\Below E.heap.size E w):=by
 obtain ⟨bX,bY,bZ⟩:=X10 aL;refine enter Tryz.func19 O 38 O O ?_;intro a y
 have z:=bz E
 refine Zs y fun _ bJ=>?_;refine Zf (X0m (zs:=[.map none,.slice none 0 0,.map (some H),.slice aE aF aG,.map (some J),.slice aH aI aJ]) O O) ?_;rintro _ w1 ⟨b3,rfl,bK,i,q⟩;have bS:=Q0 z.size bK;have e:=e.bw i;have f:=f.bw i;have g:=g.bw i;have b:=b.bw i;have d:=d.bw i;have z:=btr z i;refine Zf (X0m (zs:=[vi c.n,.slice Ac c.gs.length cc]) O O) ?_;rintro _ w2 ⟨b4,rfl,bL,i,t⟩;have bU:=Q0 z.size bL;have e:=e.bw i;have f:=f.bw i;have q:=q.bw i;have g:=g.bw i;have b:=b.bw i;have d:=d.bw i;have z:=btr z i;refine Zf (Xl (zs:=[vi 0,.slice none 0 0,.slice none 0 0]) X2v O) ?_;rintro _ w3 ⟨b7,rfl,bM,i,o⟩;have aM:=Q0 z.size bM;have e:=e.bw i;have f:=f.bw i;have q:=q.bw i;have t:=t.bw i;have g:=g.bw i;have b:=b.bw i;have d:=d.bw i;have z:=btr z i;refine Za O<|ZX bJ fun a y _ bN=>?_;refine Zs y fun _ bO=>?_;refine Ze (Vd O X05 1)<|Ze (X0 O X0l (t.at 1))<|Ze (X0o O Xa)<|Zm O<|Zt bO fun a y=>?_;refine Q8<|X0d (σ:=Nat) (fun (k:Nat) (a:Act) (w:World)=>Fr a 38 [(2,(pZ9 b3)),(3,(pZ9 b4)),(4,(pZ9 b7)),(13,vi (c.gs.length:Int)),(14,vi (k:Int))]/\(k<=c.gs.length)/\(NoS c k)/\MapS w H (sgF I)/\MapS w J (sgF L)/\Blk w b3 54 [.map none,.slice none 0 0,.map (some H),.slice aE aF aG,.map (some J),.slice aH aI aJ]/\Blk w b4 25 [vi c.n,.slice Ac c.gs.length cc]/\Blk w b7 36 [vi 0,.slice none 0 0,.slice none 0 0]/\Rd w E.heap.size 59 encG Ac c.gs/\c.gs.length<=cc/\DeepM w (E.heap.size) 59 I/\DeepM w (E.heap.size) 59 L/\Below E.heap.size E w) (fun (k:Nat)=>c.gs.length-k) 0 ?_ ?_
 ·exact ⟨y.sb,(Qf _),O,e,f,q,t,o,g,D,b,d,z⟩
 rintro k a w4 ⟨y,hk,hS,e,f,q,t,o,g,D,b,d,z⟩;refine Zs y fun _ aU=>?_;refine Ze (X16 O O)<|ZX aU fun a y _ aV=>?_
 refine X12 y O (fun aN aW=>?_) (fun aN aW=>?_)
 ·obtain ⟨c4,bW⟩:=Xj (l:=c.gs) (k:=k) Z
  refine Q7<|aV _ _<|Q5 fun _ aX=>?_;refine Q8<|Zs y fun _ aY=>?_;refine Zm O<|Za O<|Zx aY fun a y _ aZ=>?_;refine Ze (Vn X0e t)<|Zm O<|Zf (Vc (Y09 _ c Ac cc g.top D k aL Z) Xsu) ?_;rintro _ w5 ⟨b0,bP,lsq,rfl,h,x,M,i⟩;have e:=e.bw i;have f:=f.bw i;have q:=q.bw i;have t:=t.bw i;have o:=o.bw i;have g:=g.bw i;have b:=b.bw i;have d:=d.bw i;have z:=btr z i;refine Ze (X0o O X1u)<|Zm O<|Zt aZ fun a y=>?_;refine Q8<|X0d (σ:=Nat) (fun (j:Nat) (a:Act) (w:World)=>Fr a 38 [(2,(pZ9 b3)),(3,(pZ9 b4)),(4,(pZ9 b7)),(6,vi (k:Int)),(13,vi (c.gs.length:Int)),(14,vi (k:Int)),(19,.slice b0 lsq.length bP),(20,vi (lsq.length:Int)),(21,vi (j:Int))]/\(j<=lsq.length)/\(NoL c k j)/\MapS w H (sgF I)/\MapS w J (sgF L)/\Blk w b3 54 [.map none,.slice none 0 0,.map (some H),.slice aE aF aG,.map (some J),.slice aH aI aJ]/\Blk w b4 25 [vi c.n,.slice Ac c.gs.length cc]/\Blk w b7 36 [vi 0,.slice none 0 0,.slice none 0 0]/\Rd w E.heap.size 59 encG Ac c.gs/\Rd w w5.heap.size 32 encS b0 lsq/\c.gs.length<=cc/\DeepM w (E.heap.size) 59 I/\DeepM w (E.heap.size) 59 L/\(∀ s9 ∈ lsq,Rd w w5.heap.size 3 encI s9.A s9.l)/\Below E.heap.size E w) (fun (j:Nat)=>lsq.length-j) 0 ?_ ?_
  ·exact ⟨y.sb,(Qf _),(Xg6 c k),e,f,q,t,o,g,h,D,b,d,x,z⟩
  rintro j a w6 ⟨y,hj,hL,e,f,q,t,o,g,h,D,b,d,x,z⟩;refine Zs y fun _ b1=>?_;refine Ze (X16 O O)<|ZX b1 fun a y _ b2=>?_
  refine X12 y O (fun aO b5=>?_) (fun aO b5=>?_)
  ·obtain ⟨m,N⟩:=Xj (l:=lsq) (k:=j) Z
   have cA:m.l.length<=2:=X8f c k _ (Qe (Xcl M N))
   have cB:lsq.length<=2:=by have h9:=Xjw c k;rw [<- M,Qo] at h9;exact h9
   refine Q7<|b2 _ _<|Q5 fun _ b6=>?_;refine Q8<|Zs y fun _ b8=>?_;refine Zi (k:=j) (u:=m) (enc:=encS) (l:=lsq) tv0 O O X1u Xbd X2z h N O ?_;intro cC aP;have b9:=x m (Qe N);refine Ze (X0 O X4k aP)<|Za O<|Zx b8 fun a y _ bC=>?_;refine Ze (Vn Xku q)<|Ze (Vn X0e t)<|Zm O<|Zm O<|Zf (Vc (Xut _ H I aE aF aG e b.top aR J L aH aI aJ f d.top aS c Ac cc g.top D (k:Int) m.A m.c m.l b9.top Z Z (aT.of z)) Xj7) ?_;rintro _ w7 ⟨W,aA,aB,aC,rfl,B,C,aD,i⟩;have B:=B.lower z.size;have C:=C.lower z.size;have e:=e.bw i;have f:=f.bw i;have q:=q.bw i;have t:=t.bw i;have o:=o.bw i;have g:=g.bw i;have h:=h.bw i;have b:=b.bw i;have d:=d.bw i
   have x:=fun s9 Q=>(x s9 Q).bw i
   have z:=btr z i;refine Zm O<|Ze (X3 (vs:=[.agg #[vi (((shrI c (k:Int) m.l).getD rpZ).pos),.slice W (((shrI c (k:Int) m.l).getD rpZ).old).length aA,.slice aB (((shrI c (k:Int) m.l).getD rpZ).new).length aC],.bool ((shrI c (k:Int) m.l).isSome)]) O O)<|Ze (X3 (vs:=[.agg #[vi (((shrI c (k:Int) m.l).getD rpZ).pos),.slice W (((shrI c (k:Int) m.l).getD rpZ).old).length aA,.slice aB (((shrI c (k:Int) m.l).getD rpZ).new).length aC],.bool ((shrI c (k:Int) m.l).isSome)]) O O)<|Zf (Xl (zs:=[vi 0,.slice none 0 0,.slice none 0 0]) X2v O) ?_;rintro _ w8 ⟨b32,rfl,bD,i,p⟩
   have bE:b7≠b32:=by have:=o.lt;omega
   have aQ:=Q0 z.size bD;have e:=e.bw i;have f:=f.bw i;have q:=q.bw i;have t:=t.bw i;have o:=o.bw i;have g:=g.bw i;have h:=h.bw i;have B:=B.bw i;have C:=C.bw i;have b:=b.bw i;have d:=d.bw i
   have x:=fun s9 Q=>(x s9 Q).bw i
   have z:=btr z i;refine Zo (Vw [vi (((shrI c (k:Int) m.l).getD rpZ).pos),.slice W (((shrI c (k:Int) m.l).getD rpZ).old).length aA,.slice aB (((shrI c (k:Int) m.l).getD rpZ).new).length aC] X17 p) ?_;rintro _ w9 ⟨G,hb⟩;have e:=e.oy G (e.ne p);have f:=f.oy G (f.ne p);have q:=q.oz G p O;have t:=t.oz G p O;have o:=o.oy G Z;have g:=g.oT G p O;have h:=h.oT G p O;have B:=B.oT G p O;have C:=C.oT G p O;have b:=b.oT G p O;have d:=d.oT G p O
   have x:=fun s9 Q=>(x s9 Q).oT G p O
   have z:=Below.oy z G aQ;have p:=hb;refine Za O<|Zx bC fun a y _ bF=>?_;refine Zm O<|Zt bF fun a y=>?_
   refine X04 y O (fun U=>?_) (fun U=>?_)
   ·have aK:=Xgt hS Z hL (Xcl M N) U
    have bG:(shrI c (k:Int) m.l).isSome=true:=U
    refine Zs y fun _ bH=>?_;refine Ze (Vn X1g p)<|Zo (Vw [vi (((shrI c (k:Int) m.l).getD rpZ).pos),.slice W (((shrI c (k:Int) m.l).getD rpZ).old).length aA,.slice aB (((shrI c (k:Int) m.l).getD rpZ).new).length aC] X17 o) ?_;rintro _ cD ⟨G,hb⟩;have B:=B.oT G o O;have C:=C.oT G o O
    have x:=fun s9 Q=>(x s9 Q).oT G o O
    have z:=Below.oy z G aM;have o:=hb;refine Za O<|Zt bH fun a y=>?_;refine Q6<|Xo<|X5<|X5 ?_;refine Xo<|Xo<|X5<|X5 ?_;refine Xo<|X5<|X4 y (X0q y O (ResV.cellN (l:=[vi (((shrI c (k:Int) m.l).getD rpZ).pos),.slice W (((shrI c (k:Int) m.l).getD rpZ).old).length aA,.slice aB (((shrI c (k:Int) m.l).getD rpZ).new).length aC]) O X1g (o.at 0) O) O) ?_
    rw [aK,bG]
    exact ⟨W,aA,aB,aC,O,B,C,aD,z⟩
   have bQ:(shrI c (k:Int) m.l).isSome=false:=U
   refine Q7<|Xn<|b6 _ _<|Zr y ?_;refine Ze (X03 O O Z Z)<|Zm O ?_;refine Zn fun a y=>?_;refine Xd ?_;exact ⟨j+1,⟨y.sb,Z,(Xg5 hL (Xcl M N) bQ),e,f,q,t,o,g,h,D,b,d,x,z⟩,Z⟩
  have bR:=Xk1 hL (by rw [<- M,Qo];omega)
  refine Q9<|Xm<|Xm<|X0a ?_;refine Xn<|aX _ _<|Zr y<|Ze (X03 O O Z Z)<|Zm O ?_;refine Zn fun a y=>?_;refine Xd ?_;exact ⟨k+1,⟨y.sb,Z,(Xg7 hS bR),e,f,q,t,o,g,D,b,d,z⟩,Z⟩
 have aK:=Xk2 hS Z
 refine Q9<|Xm<|Xm<|X0a ?_;refine bN _ _<|Zs y fun _ bI=>?_;refine Ze (Xi (ps:=[]) (cs:=[vi 0,.slice none 0 0,.slice none 0 0]) O (fun _=>by first|rfl|kernel_rfl))<|Zo (Vw [vi 0,.slice none 0 0,.slice none 0 0] X17 o) ?_;rintro _ cE ⟨G,hb⟩;have z:=Below.oy z G aM;have o:=hb;refine Za O<|Zt bI fun a y=>?_
 refine Q6 (X4 y (X0q y O (ResV.cellN (l:=[vi 0,.slice none 0 0,.slice none 0 0]) O X1g (o.at 0) O) O) ?_)
 rw [aK]
 exact ⟨none,0,none,0,O,(Own.nil _ _ _ _ _),(Own.nil _ _ _ _ _),(Apart.none_l _),z⟩
theorem Y03(D:World)(c:Cx)(Q:Option Addr)(U:Nat)(b:Rd D D.heap.size 59 encG Q c.gs)(y:c.gs.length<=U)(E:cOk c=true) : Ret Tryz.prog 47 [.agg #[vi c.n,.slice Q c.gs.length U]] D (fun v w=>∃ A9 e9 B9 f9,v=.tuple #[.agg #[vi ((stX c).getD rpZ).pos,.slice A9 ((stX c).getD rpZ).old.length e9,.slice B9 ((stX c).getD rpZ).new.length f9],.bool (stX c).isSome]/\Own w D.heap.size 59 3 encG A9 e9 ((stX c).getD rpZ).old/\Own w D.heap.size 59 3 encG B9 f9 ((stX c).getD rpZ).new/\Apart A9 B9/\Below D.heap.size D w):=by
 obtain ⟨bD,bE,bF⟩:=X10 E;refine enter Tryz.func47 O 35 O O ?_;intro a i
 have o:=bz D
 refine Zs i fun _ aY=>?_;refine Zf (X0m (zs:=[vi c.n,.slice Q c.gs.length U]) O O) ?_;rintro _ w1 ⟨b3,rfl,aZ,x,f⟩;have b9:=Q0 o.size aZ;have b:=b.bw x;have o:=btr o x;refine Zf (Xl (zs:=[vi 0,.slice none 0 0,.slice none 0 0]) X2v O) ?_;rintro _ w2 ⟨b6,rfl,b0,x,e⟩;have aA:=Q0 o.size b0;have f:=f.bw x;have b:=b.bw x;have o:=btr o x;refine Za O<|ZX aY fun a i _ b1=>?_;refine Zs i fun _ b2=>?_;refine Ze (Vd O X05 1)<|Ze (X0 O X0l (f.at 1))<|Ze (X0o O Xa)<|Zm O<|Zt b2 fun a i=>?_;refine Q8<|X0d (σ:=Nat) (fun (k:Nat) (a:Act) (w:World)=>Fr a 35 [(1,(pZ9 b3)),(2,(pZ9 b6)),(11,vi (c.gs.length:Int)),(12,vi (k:Int))]/\(k<=c.gs.length)/\(NoS c k)/\Blk w b3 25 [vi c.n,.slice Q c.gs.length U]/\Blk w b6 36 [vi 0,.slice none 0 0,.slice none 0 0]/\Rd w D.heap.size 59 encG Q c.gs/\c.gs.length<=U/\Below D.heap.size D w) (fun (k:Nat)=>c.gs.length-k) 0 ?_ ?_
 ·exact ⟨i.sb,(Qf _),O,f,e,b,y,o⟩
 rintro k a w3 ⟨i,hk,hS,f,e,b,y,o⟩;refine Zs i fun _ b4=>?_;refine Ze (X16 O O)<|ZX b4 fun a i _ aF=>?_
 refine X12 i O (fun aB aG=>?_) (fun aB aG=>?_)
 ·obtain ⟨bG,bC⟩:=Xj (l:=c.gs) (k:=k) Z
  refine Q7<|aF _ _<|Q5 fun _ aH=>?_;refine Q8<|Zs i fun _ aI=>?_;refine Zm O<|Za O<|Zx aI fun a i _ aJ=>?_;refine Ze (Vn X0e f)<|Zm O<|Zf (Vc (Y08 _ c Q U b.top y k E Z) Xdu) ?_;rintro _ w4 ⟨aK,b5,lsq,rfl,m,g,z,x⟩;have f:=f.bw x;have e:=e.bw x;have b:=b.bw x;have o:=btr o x;refine Ze (X0o O X1u)<|Zm O<|Zt aJ fun a i=>?_;refine Q8<|X0d (σ:=Nat) (fun (j:Nat) (a:Act) (w:World)=>Fr a 35 [(1,(pZ9 b3)),(2,(pZ9 b6)),(4,vi (k:Int)),(11,vi (c.gs.length:Int)),(12,vi (k:Int)),(17,.slice aK lsq.length b5),(18,vi (lsq.length:Int)),(19,vi (j:Int))]/\(j<=lsq.length)/\(NoL c k j)/\Blk w b3 25 [vi c.n,.slice Q c.gs.length U]/\Blk w b6 36 [vi 0,.slice none 0 0,.slice none 0 0]/\Rd w D.heap.size 59 encG Q c.gs/\Rd w w4.heap.size 32 encS aK lsq/\c.gs.length<=U/\(∀ W ∈ lsq,Rd w w4.heap.size 3 encI W.A W.l)/\Below D.heap.size D w) (fun (j:Nat)=>lsq.length-j) 0 ?_ ?_
  ·exact ⟨i.sb,(Qf _),(Xg6 c k),f,e,b,m,y,g,o⟩
  rintro j a w5 ⟨i,hj,hL,f,e,b,m,y,g,o⟩;refine Zs i fun _ aL=>?_;refine Ze (X16 O O)<|ZX aL fun a i _ aM=>?_
  refine X12 i O (fun aC aN=>?_) (fun aC aN=>?_)
  ·obtain ⟨d,h⟩:=Xj (l:=lsq) (k:=j) Z
   have bH:d.l.length<=2:=X8f c k _ (Qe (Xcl z h))
   have bI:lsq.length<=2:=by have h9:=Xjw c k;rw [<- z,Qo] at h9;exact h9
   refine Q7<|aM _ _<|Q5 fun _ aO=>?_;refine Q8<|Zs i fun _ aP=>?_;refine Zi (k:=j) (u:=d) (enc:=encS) (l:=lsq) tv0 O O X1u Xbd X2z m h O ?_;intro bJ aD;have aQ:=g d (Qe h);refine Ze (X0 O X4k aD)<|Za O<|Zx aP fun a i _ aR=>?_;refine Ze (Vn X0e f)<|Zm O<|Zm O<|Zf (X23 (vs:=[.agg #[vi c.n,.slice Q c.gs.length U],vi (k:Int),.slice d.A d.l.length d.c]) O Xj6 (by have hq:=Xus w5 c Q U b.top y (k:Int) d.A d.c d.l aQ.top E Z;rw [<- Xq9 E] at hq;exact hq)) ?_;rintro _ w6 ⟨H,I,J,L,rfl,p,q,M,x⟩;have p:=p.lower o.size;have q:=q.lower o.size;have f:=f.bw x;have e:=e.bw x;have b:=b.bw x;have m:=m.bw x
   have g:=fun W B=>(g W B).bw x
   have o:=btr o x;refine Zm O<|Ze (X3 (vs:=[.agg #[vi (((shrI c (k:Int) d.l).getD rpZ).pos),.slice H (((shrI c (k:Int) d.l).getD rpZ).old).length I,.slice J (((shrI c (k:Int) d.l).getD rpZ).new).length L],.bool ((shrI c (k:Int) d.l).isSome)]) O O)<|Ze (X3 (vs:=[.agg #[vi (((shrI c (k:Int) d.l).getD rpZ).pos),.slice H (((shrI c (k:Int) d.l).getD rpZ).old).length I,.slice J (((shrI c (k:Int) d.l).getD rpZ).new).length L],.bool ((shrI c (k:Int) d.l).isSome)]) O O)<|Zf (Xl (zs:=[vi 0,.slice none 0 0,.slice none 0 0]) X2v O) ?_;rintro _ w7 ⟨b31,rfl,aS,x,t⟩
   have aT:b6≠b31:=by have:=e.lt;omega
   have aE:=Q0 o.size aS;have f:=f.bw x;have e:=e.bw x;have b:=b.bw x;have m:=m.bw x;have p:=p.bw x;have q:=q.bw x
   have g:=fun W B=>(g W B).bw x
   have o:=btr o x;refine Zo (Vw [vi (((shrI c (k:Int) d.l).getD rpZ).pos),.slice H (((shrI c (k:Int) d.l).getD rpZ).old).length I,.slice J (((shrI c (k:Int) d.l).getD rpZ).new).length L] X17 t) ?_;rintro _ w8 ⟨C,hb⟩;have f:=f.oz C t O;have e:=e.oy C Z;have b:=b.oT C t O;have m:=m.oT C t O;have p:=p.oT C t O;have q:=q.oT C t O
   have g:=fun W B=>(g W B).oT C t O
   have o:=Below.oy o C aE;have t:=hb;refine Za O<|Zx aR fun a i _ aU=>?_;refine Zm O<|Zt aU fun a i=>?_
   refine X04 i O (fun G=>?_) (fun G=>?_)
   ·have N:=Xgt hS Z hL (Xcl z h) G
    have aV:(shrI c (k:Int) d.l).isSome=true:=G
    refine Zs i fun _ aW=>?_;refine Ze (Vn X1g t)<|Zo (Vw [vi (((shrI c (k:Int) d.l).getD rpZ).pos),.slice H (((shrI c (k:Int) d.l).getD rpZ).old).length I,.slice J (((shrI c (k:Int) d.l).getD rpZ).new).length L] X17 e) ?_;rintro _ w9 ⟨C,hb⟩;have p:=p.oT C e O;have q:=q.oT C e O
    have g:=fun W B=>(g W B).oT C e O
    have o:=Below.oy o C aA;have e:=hb;refine Za O<|Zt aW fun a i=>?_;refine Q6<|Xo<|X5<|X5 ?_;refine Xo<|Xo<|X5<|X5 ?_;refine Xo<|X5<|X4 i (X0q i O (ResV.cellN (l:=[vi (((shrI c (k:Int) d.l).getD rpZ).pos),.slice H (((shrI c (k:Int) d.l).getD rpZ).old).length I,.slice J (((shrI c (k:Int) d.l).getD rpZ).new).length L]) O X1g (e.at 0) O) O) ?_
    rw [N,aV]
    exact ⟨H,I,J,L,O,p,q,M,o⟩
   have b7:(shrI c (k:Int) d.l).isSome=false:=G
   refine Q7<|Xn<|aO _ _<|Zr i ?_;refine Ze (X03 O O Z Z)<|Zm O ?_;refine Zn fun a i=>?_;refine Xd ?_;exact ⟨j+1,⟨i.sb,Z,(Xg5 hL (Xcl z h) b7),f,e,b,m,y,g,o⟩,Z⟩
  have b8:=Xk1 hL (by rw [<- z,Qo];omega)
  refine Q9<|Xm<|Xm<|X0a ?_;refine Xn<|aH _ _<|Zr i<|Ze (X03 O O Z Z)<|Zm O ?_;refine Zn fun a i=>?_;refine Xd ?_;exact ⟨k+1,⟨i.sb,Z,(Xg7 hS b8),f,e,b,y,o⟩,Z⟩
 have N:=Xk2 hS Z
 refine Q9<|Xm<|Xm<|X0a ?_;refine b1 _ _<|Zs i fun _ aX=>?_;refine Ze (Xi (ps:=[]) (cs:=[vi 0,.slice none 0 0,.slice none 0 0]) O (fun _=>by first|rfl|kernel_rfl))<|Zo (Vw [vi 0,.slice none 0 0,.slice none 0 0] X17 e) ?_;rintro _ bK ⟨C,hb⟩;have o:=Below.oy o C aA;have e:=hb;refine Za O<|Zt aX fun a i=>?_
 refine Q6 (X4 i (X0q i O (ResV.cellN (l:=[vi 0,.slice none 0 0,.slice none 0 0]) O X1g (e.at 0) O) O) ?_)
 rw [N]
 exact ⟨none,0,none,0,O,(Own.nil _ _ _ _ _),(Own.nil _ _ _ _ _),(Apart.none_l _),o⟩
theorem Y00(h:World)(c:Cx)(Ac:Option Addr)(cc:Nat)(b:Rd h h.heap.size 59 encG Ac c.gs)(aB:c.gs.length<=cc)(aK:c.gs.length<=1000000000)(A:PowT h) : Ret Tryz.prog 13 [.agg #[vi c.n,.slice Ac c.gs.length cc]] h (fun v w=>∃ A9 e9 B9 f9,v=.tuple #[.agg #[vi ((stI c).getD rpZ).pos,.slice A9 ((stI c).getD rpZ).old.length e9,.slice B9 ((stI c).getD rpZ).new.length f9],.bool (stI c).isSome]/\Own w h.heap.size 59 3 encG A9 e9 ((stI c).getD rpZ).old/\Own w h.heap.size 59 3 encG B9 f9 ((stI c).getD rpZ).new/\Apart A9 B9/\Below h.heap.size h w):=by
 refine enter Tryz.func13 O 13 O O ?_;intro a o
 have f:=bz h
 refine Zs o fun _ aL=>?_;refine Zf (X0m (zs:=[vi c.n,.slice Ac c.gs.length cc]) O O) ?_;rintro _ w1 ⟨b3,rfl,aM,e,m⟩;have aQ:=Q0 f.size aM;have b:=b.bw e;have f:=btr f e;refine Zf (Xl (zs:=[vi 0,.slice none 0 0,.slice none 0 0]) X2v O) ?_;rintro _ w2 ⟨b6,rfl,aN,e,d⟩;have B:=Q0 f.size aN;have m:=m.bw e;have b:=b.bw e;have f:=btr f e;refine Za O<|ZX aL fun a o _ aO=>?_;refine Zs o fun _ aP=>?_;refine Ze (Vn X0e m)<|Zf (Vc (F55 _ c Ac cc b.top (Q0 aK O4)) X8u) ?_;rintro _ w3 ⟨rfl,e⟩;have m:=m.bw e;have d:=d.bw e;have b:=b.bw e;have f:=btr f e;refine Ze (X0x O)<|Zt aP fun a o=>?_
 refine X04 o O (fun aA=>?_) (fun aA=>?_)
 ·have x:=Xyu (bn1 aA);refine Zs o fun _ aC=>?_;refine Ze (Xi (ps:=[]) (cs:=[vi 0,.slice none 0 0,.slice none 0 0]) O (fun _=>by first|rfl|kernel_rfl))<|Zo (Vw [vi 0,.slice none 0 0,.slice none 0 0] X17 d) ?_;rintro _ w4 ⟨ho,hb⟩;have f:=Below.oy f ho B;have d:=hb;refine Za O<|Zt aC fun a o=>?_;refine Q6<|X5<|X4 o (X0q o O (ResV.cellN (l:=[vi 0,.slice none 0 0,.slice none 0 0]) O X1g (d.at 0) O) O) ?_
  rw [x]
  exact ⟨none,0,none,0,O,(Own.nil _ _ _ _ _),(Own.nil _ _ _ _ _),(Apart.none_l _),f⟩
 have C:cOk c=true:=bn2 aA
 have x:=Xkp C;refine Q7<|aO _ _<|Q5 fun _ aD=>?_;refine X08 none (fun j=>[5].contains j) mixed ?_;intro w5 e;have m:=m.bw e;have d:=d.bw e;have b:=b.bw e;have f:=btr f e;refine Yb o<|Ye 1 O (Vn X0e m)<|Y1 0 ?_;refine Yk O tv0 (Vc (Xmj _ (A.of f)) Xds) (fun _ _ ⟨aE,D,aF,aG,E,aH,G,aI,aJ,H,_,I,y,J,L,z,M,e⟩=>e) ?_;rintro _ w6 ⟨aE,D,aF,aG,E,aH,G,aI,aJ,H,rfl,I,y,J,L,z,M,e⟩;have d:=d.bw e;have b:=b.bw e;have f:=btr f e;refine Y1 2<|Yk O tv0 (Vc (Xuu _ aE D aF E.length aG I y.top J aH G aI H.length aJ L z.top M c Ac cc b.top aB C (A.of f)) Xj8) (fun _ _ ⟨p,q,t,u,_,g,i,k,e⟩=>e) ?_;rintro _ w7 ⟨p,q,t,u,rfl,g,i,k,e⟩;have g:=g.lower f.size;have i:=i.lower f.size;have d:=d.bw e;have f:=btr f e;refine Yo 3 O (fun _=>X3 (vs:=[.agg #[vi (((stX c).getD rpZ).pos),.slice p (((stX c).getD rpZ).old).length q,.slice t (((stX c).getD rpZ).new).length u],.bool ((stX c).isSome)]) O O)<|Yo 4 O (fun _=>X3 (vs:=[.agg #[vi (((stX c).getD rpZ).pos),.slice p (((stX c).getD rpZ).old).length q,.slice t (((stX c).getD rpZ).new).length u],.bool ((stX c).isSome)]) O O)<|Y1 5 ?_;refine Yh O tv0 O (Vw [vi (((stX c).getD rpZ).pos),.slice p (((stX c).getD rpZ).old).length q,.slice t (((stX c).getD rpZ).new).length u] X17 d) ?_;rintro _ w8 ⟨ho,hb⟩;have g:=g.oT ho d O;have i:=i.oT ho d O;have f:=Below.oy f ho B;have d:=hb;refine Yo 6 O (fun _=>X0y O) ?_;refine Yd fun a o=>?_
 refine aD _ _ ?_
 refine Q6 (X4 o (X0q o O (ResV.cellN (l:=[vi (((stX c).getD rpZ).pos),.slice p (((stX c).getD rpZ).old).length q,.slice t (((stX c).getD rpZ).new).length u]) O X1g (d.at 0) O) O) ?_)
 rw [x]
 exact ⟨p,q,t,u,O,g,i,k,f⟩
theorem Xf1(y:World)(c:Cx)(Ac:Option Addr)(cc:Nat)(q:Rd y y.heap.size 59 encG Ac c.gs)(aK:c.gs.length<=100000000) : Ret Tryz.prog 46 [.agg #[vi c.n,.slice Ac c.gs.length cc]] y (fun v w=>∃ A e,v=.agg #[vi c.n,.slice A c.gs.length e]/\Own w y.heap.size 59 3 encG A e c.gs/\Below y.heap.size y w):=by
 refine enter Tryz.func46 O 10 O O ?_;intro a p
 have f:=bz y
 refine Zs p fun _ aD=>?_;refine Zf (X0m (zs:=[vi c.n,.slice Ac c.gs.length cc]) O O) ?_;rintro _ w1 ⟨b3,rfl,aE,g,b⟩;have aJ:=Q0 f.size aE;have f:=btr f g;refine Zf (Xl (zs:=[vi 0,.slice none 0 0]) X2y O) ?_;rintro _ w2 ⟨b5,rfl,aF,g,d⟩
 have aC:b3≠b5:=by have:=b.lt;omega
 have t:=Q0 f.size aF;have b:=b.bw g;have f:=btr f g;refine ZX aD fun a p _ aG=>?_;refine X0f (fun a w=>∃ z B,Fr a 10 [(2,(pZ9 b5))]/\Own w y.heap.size 59 3 encG z B c.gs/\Blk w b3 25 [vi c.n,.slice Ac c.gs.length cc]/\Blk w b5 25 [vi c.n,.slice z c.gs.length B]/\Below y.heap.size y w) ?_ ?_
 ·refine X08 none (fun j=>[5,7].contains j) mixed ?_;intro w3 g;have b:=b.bw g;have d:=d.bw g;have f:=btr f g;refine Yb p<|Yo 0 O (fun _=>Vd O X1d 0)<|Yo 3 O (fun _=>Vd O X05 1)<|Ye 4 O (X0 O X0l (b.at 1)) ?_;refine Y2 1 2 ?_ ?_
  ·refine Yz O tv0 (Uev (X0 O X8 (b.at 0))) ?_;refine Y1 2<|Yk O tv0 (X2 (k:=0) (vs:=[]) (zs:=[]) O Xa Xc O O) (fun _ _ ⟨_,_,_,h,_⟩=>h) ?_;rintro _ w4 ⟨b7,rfl,aH,g,aI⟩;have aA:=Q0 f.size aH;have b:=b.bw g;have d:=d.bw g;have f:=btr f g;refine Y1 5<|Yt O tv0 O (X49 (enc:=encG) (l2:=(c.gs)) O O Xa Xc X9 Xq aI (q.bx f) (by simp only [maxLen];omega) Z) ?_;rintro _ w5 ⟨z,B,rfl,o,g⟩;have o:=o.lower aA;have b:=b.bw g;have d:=d.bw g;have f:=btr f g;refine Yo 6 O (fun _=>Xi (ps:=[(0,vi c.n),(1,.slice z c.gs.length B)]) (cs:=[vi c.n,.slice z c.gs.length B]) O (fun _=>by first|rfl|kernel_rfl))<|Y1 7 ?_;refine Yh O tv0 O (Vw [vi c.n,.slice z c.gs.length B] X1b d) ?_;rintro _ w6 ⟨u,hb⟩;have b:=b.oy u Z;have o:=o.oT u d O;have f:=Below.oy f u t;have d:=hb;refine Yd fun a p=>?_;exact ⟨z,B,p.sb,o,b,d,f⟩
  refine Yk O tv0 (X2 (k:=0) (vs:=[]) (zs:=[]) O Xa Xc O O) (fun _ _ ⟨_,_,_,h,_⟩=>h) ?_;rintro _ w7 ⟨aL,rfl,aB,g,H⟩;have x:=Q0 f.size aB;have b:=b.bw g;have d:=d.bw g;have f:=btr f g;refine Y2 1 5 ?_ ?_
  ·refine Yz O tv0 (Uev (X0 O X8 (b.at 0))) ?_;refine Y1 5<|Yt O tv0 O (X49 (enc:=encG) (l2:=(c.gs)) O O Xa Xc X9 Xq H (q.bx f) (by simp only [maxLen];omega) Z) ?_;rintro _ w8 ⟨C,D,rfl,i,g⟩;have i:=i.lower x;have b:=b.bw g;have d:=d.bw g;have f:=btr f g;refine Yo 6 O (fun _=>Xi (ps:=[(0,vi c.n),(1,.slice C c.gs.length D)]) (cs:=[vi c.n,.slice C c.gs.length D]) O (fun _=>by first|rfl|kernel_rfl))<|Y1 7 ?_;refine Yh O tv0 O (Vw [vi c.n,.slice C c.gs.length D] X1b d) ?_;rintro _ w9 ⟨u,hb⟩;have b:=b.oy u Z;have i:=i.oT u d O;have f:=Below.oy f u t;have d:=hb;refine Yd fun a p=>?_;exact ⟨C,D,p.sb,i,b,d,f⟩
  refine Yt O tv0 O (X49 (enc:=encG) (l2:=(c.gs)) O O Xa Xc X9 Xq H (q.bx f) (by simp only [maxLen];omega) Z) ?_;rintro _ aM ⟨E,G,rfl,m,g⟩;have m:=m.lower x;have b:=b.bw g;have d:=d.bw g;have f:=btr f g;refine Y1 1<|Yz O tv0 (Uev (X0 O X8 (b.at 0))) ?_;refine Yo 6 O (fun _=>Xi (ps:=[(0,vi c.n),(1,.slice E c.gs.length G)]) (cs:=[vi c.n,.slice E c.gs.length G]) O (fun _=>by first|rfl|kernel_rfl))<|Y1 7 ?_;refine Yh O tv0 O (Vw [vi c.n,.slice E c.gs.length G] X1b d) ?_;rintro _ aN ⟨u,hb⟩;have b:=b.oy u Z;have m:=m.oT u d O;have f:=Below.oy f u t;have d:=hb;refine Yd fun a p=>?_;exact ⟨E,G,p.sb,m,b,d,f⟩
 rintro a aO ⟨z,B,p,o,b,d,f⟩;refine aG _ _ ?_
 refine Q6 (X4 p (Xv p O (ResV.cellN (l:=[vi c.n,.slice z c.gs.length B]) O X0e (d.at 0) O)) ?_)
 exact ⟨z,B,O,o,f⟩
theorem Y04(w0:World)(c:Cx)(Ac:Option Addr)(cc:Nat)(t:Rd w0 w0.heap.size 59 encG Ac c.gs)(hc:cOk c=true) : Ret Tryz.prog 21 [.agg #[vi c.n,.slice Ac c.gs.length cc],.bool false] w0 (fun v w=>∃ (l:List Sr) (A:Option Addr) (e:Nat) (B:Option Addr) (f:Nat) (D:Option Addr) (g:Nat),v=.tuple #[.agg #[vi (pkC c).1.n,.slice A (pkC c).1.gs.length e,.slice B l.length f,vi (pkC c).2.2.n,.slice D (pkC c).2.2.gs.length g],.bool (pkB c)]/\l.map Sr.rp=(pkC c).2.1/\((pkC c).1.gs.length<=e/\(pkC c).2.2.gs.length<=g)/\Rd w w.heap.size 59 encG A (pkC c).1.gs/\Rd w w.heap.size 59 encG D (pkC c).2.2.gs/\Own w w0.heap.size 36 3 encSr B f l/\DeepR w w.heap.size 59 l/\Below w0.heap.size w0 w):=by
 obtain ⟨dA,dB,dC⟩:=X10 hc;refine enter Tryz.func21 O 56 O O ?_;intro a C
 have p:=bz w0
 refine Zs C fun _ cR=>?_;refine Zf (X0m (zs:=[vi c.n,.slice Ac c.gs.length cc]) O O) ?_;rintro _ w1 ⟨b3,rfl,cS,d,aT⟩;have d8:=Q0 p.size cS;have t:=t.bw d;have p:=btr p d;refine Zf (Xl (zs:=[vi 0,.slice none 0 0,.slice none 0 0,vi 0,.slice none 0 0]) Xbm O) ?_;rintro _ w2 ⟨b7,rfl,cT,d,o⟩;have bK:=Q0 p.size cT;have aT:=aT.bw d;have t:=t.bw d;have p:=btr p d;refine Za O<|ZX cR fun a C _ cU=>?_;refine X0f (fun a w=>∃ b17 A9 c9 aJ aK,Fr a 56 [(1,.bool false),(4,(pZ9 b7)),(6,(pZ9 b17))]/\w0.heap.size<=b17/\Blk w b17 29 [vi c.n,.slice A9 c.gs.length c9,.slice none 0 0,vi c.n,.slice aJ c.gs.length aK]/\b7≠b17/\Own w w0.heap.size 59 3 encG A9 c9 c.gs/\Own w w0.heap.size 59 3 encG aJ aK c.gs/\Below w2.heap.size w2 w) ?_ ?_
 ·have q:Below w2.heap.size w2 w2:=Below.refl _ _
  refine X08 none (fun j=>[6].contains j) mixed ?_;intro w3 d;have aT:=aT.bw d;have o:=o.bw d;have t:=t.bw d;have p:=btr p d;have q:=btr q d;refine Yb C<|Ye 0 O (Vn X0e aT)<|Ye 2 O (Vn X0e aT) ?_;refine Y2 1 5 ?_ ?_
  ·refine Yk O tv0 (Vc (Xf1 _ c Ac cc t.top Z) X79) (fun _ _ ⟨A9,c9,_,m,d⟩=>d) ?_;rintro _ w4 ⟨A9,c9,rfl,m,d⟩;have m:=m.lower p.size;have o:=o.bw d;have t:=t.bw d;have p:=btr p d;have q:=btr q d;refine Y2 3 5 ?_ ?_
   ·refine Yk O tv0 (Vc (Xf1 _ c Ac cc t.top Z) X79) (fun _ _ ⟨aJ,aK,_,L,d⟩=>d) ?_;rintro _ w5 ⟨aJ,aK,rfl,L,d⟩;have L:=L.lower p.size;have o:=o.bw d;have m:=m.bw d;have p:=btr p d;have q:=btr q d;refine Yo 4 O (fun _=>Xi (ps:=[(0,.agg #[vi c.n,.slice A9 c.gs.length c9]),(2,.agg #[vi c.n,.slice aJ c.gs.length aK])]) (cs:=[vi c.n,.slice A9 c.gs.length c9,.slice none 0 0,vi c.n,.slice aJ c.gs.length aK]) O (fun _=>by first|rfl|kernel_rfl))<|Y1 5 ?_;refine Yk O tv0 (Xl (zs:=[vi 0,.slice none 0 0,.slice none 0 0,vi 0,.slice none 0 0]) Xbm O) (fun _ _ ⟨_,_,_,h,_⟩=>h) ?_;rintro _ w6 ⟨b17,rfl,bL,d,b⟩
    have aP:b7≠b17:=by have:=o.lt;omega
    have aF:=Q0 p.size bL;have bP:=Q0 q.size bL;have m:=m.bw d;have L:=L.bw d;have p:=btr p d;have q:=btr q d;refine Y1 6<|Yh O tv0 O (Vw [vi c.n,.slice A9 c.gs.length c9,.slice none 0 0,vi c.n,.slice aJ c.gs.length aK] X45 b) ?_;rintro _ w7 ⟨J,hb⟩;have m:=m.oT J b O;have L:=L.oT J b O;have q:=Below.oy q J bP;have p:=Below.oy p J aF;have b:=hb;refine Yd fun a C=>?_;exact ⟨b17,A9,c9,aJ,aK,C.sb,aF,b,aP,m,L,q⟩
   refine Yk O tv0 (Xl (zs:=[vi 0,.slice none 0 0,.slice none 0 0,vi 0,.slice none 0 0]) Xbm O) (fun _ _ ⟨_,_,_,h,_⟩=>h) ?_;rintro _ w8 ⟨b21,rfl,bM,d,aG⟩
   have aY:b7≠b21:=by have:=o.lt;omega
   have aZ:=Q0 p.size bM;have bQ:=Q0 q.size bM;have t:=t.bw d;have m:=m.bw d;have p:=btr p d;have q:=btr q d;refine Y1 3<|Yk O tv0 (Vc (Xf1 _ c Ac cc t.top Z) X79) (fun _ _ ⟨b0,b1,_,aN,d⟩=>d) ?_;rintro _ w9 ⟨b0,b1,rfl,aN,d⟩;have aN:=aN.lower p.size;have aG:=aG.bw d;have m:=m.bw d;have p:=btr p d;have q:=btr q d;refine Yo 4 O (fun _=>Xi (ps:=[(0,.agg #[vi c.n,.slice A9 c.gs.length c9]),(2,.agg #[vi c.n,.slice b0 c.gs.length b1])]) (cs:=[vi c.n,.slice A9 c.gs.length c9,.slice none 0 0,vi c.n,.slice b0 c.gs.length b1]) O (fun _=>by first|rfl|kernel_rfl))<|Y1 6 ?_;refine Yh O tv0 O (Vw [vi c.n,.slice A9 c.gs.length c9,.slice none 0 0,vi c.n,.slice b0 c.gs.length b1] X45 aG) ?_;rintro _ dD ⟨J,hb⟩;have m:=m.oT J aG O;have aN:=aN.oT J aG O;have q:=Below.oy q J bQ;have p:=Below.oy p J aZ;have aG:=hb;refine Yd fun a C=>?_;exact ⟨b21,A9,c9,b0,b1,C.sub ⟨O,O,(by first|rfl|(simp [look])),trivial⟩,aZ,aG,aY,m,aN,q⟩
  refine Yk O tv0 (Xl (zs:=[vi 0,.slice none 0 0,.slice none 0 0,vi 0,.slice none 0 0]) Xbm O) (fun _ _ ⟨_,_,_,h,_⟩=>h) ?_;rintro _ dE ⟨b29,rfl,bN,d,Q⟩
  have b2:b7≠b29:=by have:=o.lt;omega
  have b4:=Q0 p.size bN;have bR:=Q0 q.size bN;have t:=t.bw d;have p:=btr p d;have q:=btr q d;refine Y1 1<|Yk O tv0 (Vc (Xf1 _ c Ac cc t.top Z) X79) (fun _ _ ⟨b5,b6,_,aC,d⟩=>d) ?_;rintro _ dF ⟨b5,b6,rfl,aC,d⟩;have aC:=aC.lower p.size;have Q:=Q.bw d;have t:=t.bw d;have p:=btr p d;have q:=btr q d;refine Y1 3<|Yk O tv0 (Vc (Xf1 _ c Ac cc t.top Z) X79) (fun _ _ ⟨b8,b9,_,aO,d⟩=>d) ?_;rintro _ dG ⟨b8,b9,rfl,aO,d⟩;have aO:=aO.lower p.size;have Q:=Q.bw d;have aC:=aC.bw d;have p:=btr p d;have q:=btr q d;refine Yo 4 O (fun _=>Xi (ps:=[(0,.agg #[vi c.n,.slice b5 c.gs.length b6]),(2,.agg #[vi c.n,.slice b8 c.gs.length b9])]) (cs:=[vi c.n,.slice b5 c.gs.length b6,.slice none 0 0,vi c.n,.slice b8 c.gs.length b9]) O (fun _=>by first|rfl|kernel_rfl))<|Y1 6 ?_;refine Yh O tv0 O (Vw [vi c.n,.slice b5 c.gs.length b6,.slice none 0 0,vi c.n,.slice b8 c.gs.length b9] X45 Q) ?_;rintro _ dH ⟨J,hb⟩;have aC:=aC.oT J Q O;have aO:=aO.oT J Q O;have q:=Below.oy q J bR;have p:=Below.oy p J b4;have Q:=hb;refine Yd fun a C=>?_;exact ⟨b29,b5,b6,b8,b9,C.sub ⟨O,O,(by first|rfl|(simp [look])),trivial⟩,b4,Q,b2,aC,aO,q⟩
 rintro a dI ⟨b17,A9,c9,aJ,aK,C,aF,b,aP,m,L,d⟩;have o:=o.bw d;have p:=btr p d;refine cU _ _<|Q8<|X0d (σ:=(List Sr)×Int×(List Gt)×Nat) (fun (s:(List Sr)×Int×(List Gt)×Nat) (a:Act) (w:World)=>match s with|(l,i,gs,k)=>∃ bC bD aL aM,Fr a 56 [(1,.bool false),(4,(pZ9 b7)),(6,(pZ9 b17))]/\(PkI c l ⟨i,gs⟩ k)/\Blk w b7 29 [vi 0,.slice none 0 0,.slice none 0 0,vi 0,.slice none 0 0]/\Blk w b17 29 [vi c.n,.slice A9 c.gs.length c9,.slice bC l.length bD,vi i,.slice aL gs.length aM]/\Own w w0.heap.size 59 3 encG A9 c9 c.gs/\Own w w0.heap.size 36 3 encSr bC bD l/\Own w w0.heap.size 59 3 encG aL aM gs/\DeepR w w.heap.size 59 l/\Below w0.heap.size w0 w) (fun (s:(List Sr)×Int×(List Gt)×Nat)=>match s with|(l,i,gs,k)=>k) ([],c.n,c.gs,c.gs.length) ?_ ?_
 ·exact ⟨none,0,aJ,aK,C.sb,(PkI.sta hc),o,b,m,(Own.nil _ _ _ _ _),L,(DeepR.nil _ _ _),p⟩
 rintro ⟨l,i,gs,k⟩ a dJ ⟨bC,bD,aL,aM,C,bE,o,b,m,y,G,u,p⟩;refine Q8<|Zs C fun _ cB=>?_;refine Ze (Vd O X20 3)<|Ze (Xx (l:=[vi i,.slice aL gs.length aM]) O X0e ((b.at 3).take 2) O)<|Zf (Vc (Y03 _ (⟨i,gs⟩ : Cx) aL aM G.rd.top G.cap bE.ok) Xsp) ?_;rintro _ dK ⟨U,W,aA,aB,rfl,H,I,bY,d⟩;have H:=H.lower p.size;have I:=I.lower p.size;have o:=o.bw d;have b:=b.bw d;have m:=m.bw d;have y:=y.bw d;have G:=G.bw d;have u:=u.bw d;have p:=btr p d;refine Zm O<|Ze (X3 (vs:=[.agg #[vi ((Za1 i gs).pos),.slice U ((Za1 i gs).old).length W,.slice aA ((Za1 i gs).new).length aB],.bool ((stX (⟨i,gs⟩ : Cx)).isSome)]) O O)<|Ze (X3 (vs:=[.agg #[vi ((Za1 i gs).pos),.slice U ((Za1 i gs).old).length W,.slice aA ((Za1 i gs).new).length aB],.bool ((stX (⟨i,gs⟩ : Cx)).isSome)]) O O) ?_;refine ZB [vi ((Za1 i gs).pos),.slice U ((Za1 i gs).old).length W,.slice aA ((Za1 i gs).new).length aB] X2v X17 fun cC dL aS d M=>?_;have cV:=Q0 p.size aS;have aU:=y.away aS;have o:=o.bw d;have b:=b.bw d;have m:=m.bw d;have y:=y.bw d;have G:=G.bw d;have H:=H.bw d;have I:=I.bw d;have u:=u.bw d;have p:=btr p d;refine Za O<|ZX cB fun a C _ cD=>?_;refine Zs C fun _ cE=>?_;refine Zm O<|Zt cE fun a C=>?_;refine X40 C O ?_;refine Q7<|cD _ _<|Q5 fun _ cF=>?_
 refine Zs C fun _ cG=>?_;refine Zm O<|Ze (X0x O)<|Zt cG fun a C=>?_
 refine X04 C O (fun aQ=>?_) (fun aQ=>?_)
 ·have aH:=aQ
  have cW:stX ⟨i,gs⟩=none:=by revert aQ;cases stX ⟨i,gs⟩<;>simp
  obtain ⟨bF,bS⟩:=bE.don hc cW;refine Zs C fun _ cH=>?_;refine Ze (Vn X5l b)<|Zo (Vw [vi c.n,.slice A9 c.gs.length c9,.slice bC l.length bD,vi i,.slice aL gs.length aM] X45 o) ?_;rintro _ dM ⟨J,hb⟩;have m:=m.oT J o O;have y:=y.oT J o O;have G:=G.oT J o O;have u:=u.oT J o O;have p:=Below.oy p J bK;have o:=hb;refine Za O<|Zt cH fun a C=>?_;refine Q6<|X5<|Xo<|X5 ?_;refine Xo<|X4 C (X0q C O (ResV.cellN (l:=[vi c.n,.slice A9 c.gs.length c9,.slice bC l.length bD,vi i,.slice aL gs.length aM]) O X5l (o.at 0) O) O) ?_
  rw [bF,bS]
  exact ⟨l,_,_,_,_,_,_,O,O,⟨m.cap,G.cap⟩,m.rd.top,G.rd.top,y,(u.top),p⟩
 have aH:=aQ
 have d9:l.length+gs.length<=c.gs.length:=bE.len
 have bH:stX ⟨i,gs⟩=some ((stX ⟨i,gs⟩).getD rpZ):=by revert aQ;cases stX ⟨i,gs⟩<;>simp
 obtain ⟨cI,aS⟩:=X6f bH
 have dN:1<=gs.length:=X7t bH
 refine Q7<|cF _ _<|Zs C fun _ cJ=>?_;refine Ze (Vd O X20 3)<|Ze (Xx (l:=[vi i,.slice aL gs.length aM]) O X0e ((b.at 3).take 2) O)<|Ze (Vn X1g M)<|Zf (Vc (F63 _ (⟨i,gs⟩ : Cx) aL aM G.rd.top G.cap (Za1 i gs) U W H.rd.top aA aB I.rd.top O7 (Q0 cI O4) (Q0 aS O4)) Y14) ?_;rintro _ dO ⟨aV,aW,rfl,E,d⟩;have E:=E.lower p.size;have o:=o.bw d;have b:=b.bw d;have M:=M.bw d;have m:=m.bw d;have y:=y.bw d;have H:=H.bw d;have I:=I.bw d;have u:=u.bw d;have p:=btr p d;refine Zm O<|Ze (X3 (vs:=[.agg #[vi (((applyS (⟨i,gs⟩ : Cx) (Za1 i gs)).getD cZ).n),.slice aV (((applyS (⟨i,gs⟩ : Cx) (Za1 i gs)).getD cZ).gs).length aW],.bool ((applyS (⟨i,gs⟩ : Cx) (Za1 i gs)).isSome)]) O O)<|Ze (X3 (vs:=[.agg #[vi (((applyS (⟨i,gs⟩ : Cx) (Za1 i gs)).getD cZ).n),.slice aV (((applyS (⟨i,gs⟩ : Cx) (Za1 i gs)).getD cZ).gs).length aW],.bool ((applyS (⟨i,gs⟩ : Cx) (Za1 i gs)).isSome)]) O O) ?_;refine ZB [vi (((applyS (⟨i,gs⟩ : Cx) (Za1 i gs)).getD cZ).n),.slice aV (((applyS (⟨i,gs⟩ : Cx) (Za1 i gs)).getD cZ).gs).length aW] X2y X1b fun cX cY cK d aD=>?_;have d5:=Q0 p.size cK;have o:=o.bw d;have b:=b.bw d;have M:=M.bw d;have m:=m.bw d;have y:=y.bw d;have H:=H.bw d;have I:=I.bw d;have E:=E.bw d;have u:=u.bw d;have p:=btr p d;refine Za O<|ZX cJ fun a C _ cL=>?_
 refine Q5 fun _ cM=>?_;refine X0f (fun a w=>Fr a 56 [(1,.bool false),(4,(pZ9 b7)),(6,(pZ9 b17)),(7,(pZ9 cC)),(9,(pZ9 cX)),(46,.bool ((!((applyS (⟨i,gs⟩ : Cx) (Za1 i gs)).isSome))||((l.length:Int)==400)))]/\cY=w) ?_ ?_
 ·refine Zr C<|Zm O<|Ze (X0x O)<|Zm O ?_
  refine Zg 41 O (fun z=>?_) (fun z=>?_)
  ·(iterate 4 refine Zp (gP z) ?_);refine Ze (Xf O z O) ?_;refine Zn fun a C=>?_;exact ⟨C.sub ⟨O,O,O,O,O,X1 O (by first|rfl|(simp only [aH,z,bs];done)|simp [aH,z]),trivial⟩,O⟩
  refine Zv (gW z) (Vd O X2p 2) ?_;refine Zv (gW z) (X0 O X97 (b.at 2)) ?_;refine Zv (gW z) (X0o O X44) ?_;refine Zv (gW z) (X13 O O) ?_;refine Ze (Xb O z O) ?_;refine Zn fun a C=>?_;exact ⟨C.sub ⟨O,O,O,O,O,X1 O (by first|rfl|(simp only [aH,z,bs];done)|simp [aH,z]),trivial⟩,O⟩
 rintro a _ ⟨C,rfl⟩;refine cM _ _ ?_
 refine X04 C O (fun aI=>?_) (fun aI=>?_)
 ·have bU:=aI
  have cN:applyS ⟨i,gs⟩ ((stX ⟨i,gs⟩).getD rpZ)=none:=by
   cases bW:applyS ⟨i,gs⟩ ((stX ⟨i,gs⟩).getD rpZ) with
   | none=>rfl
   | some e8=>rw [bW] at aI;simp at aI;omega
  obtain ⟨bF,bS⟩:=bE.bd hc bH cN;refine Zs C fun _ cO=>?_;refine Ze (Xi (ps:=[]) (cs:=[vi 0,.slice none 0 0,.slice none 0 0,vi 0,.slice none 0 0]) O (fun _=>by first|rfl|kernel_rfl))<|Zo (Vw [vi 0,.slice none 0 0,.slice none 0 0,vi 0,.slice none 0 0] X45 o) ?_;rintro _ dP ⟨J,hb⟩;have p:=Below.oy p J bK;have o:=hb;refine Za O<|Zt cO fun a C=>?_;refine Q6<|X5<|Xo<|X5 ?_;refine Xo<|X4 C (X0q C O (ResV.cellN (l:=[vi 0,.slice none 0 0,.slice none 0 0,vi 0,.slice none 0 0]) O X5l (o.at 0) O) O) ?_
  rw [bF,bS]
  exact ⟨[],_,_,_,_,_,_,O,O,⟨(Qf _),(Qf _)⟩,(Rd.nil _ _ _ _ _),(Rd.nil _ _ _ _ _),(Own.nil _ _ _ _ _),(DeepR.nil _ _ _),p⟩
 have bU:=aI
 have d6:applyS ⟨i,gs⟩ ((stX ⟨i,gs⟩).getD rpZ)=some ((applyS ⟨i,gs⟩ ((stX ⟨i,gs⟩).getD rpZ)).getD cZ):=by
  cases bW:applyS ⟨i,gs⟩ ((stX ⟨i,gs⟩).getD rpZ) with
  | none=>rw [bW] at aI;simp at aI
  | some e8=>rfl
 refine Q7<|cL _ _<|Zs C fun _ cP=>?_;refine Ze (Vd O X2p 2)<|Ze (X0 O X97 (b.at 2))<|Ze (Vn X1g M)<|Zf (X2 (k:=1) (vs:=[.agg #[vi ((Za1 i gs).pos),.slice U ((Za1 i gs).old).length W,.slice aA ((Za1 i gs).new).length aB]]) (zs:=[vi ((Za1 i gs).pos),.slice U ((Za1 i gs).old).length W,.slice aA ((Za1 i gs).new).length aB]) O X44 X6w O O) ?_;rintro _ dQ ⟨b62,rfl,bO,d,bG⟩
 have bZ:cC≠b62:=by have:=M.lt;omega
 have d7:=Q0 p.size bO;have aX:=y.away bO;have o:=o.bw d;have b:=b.bw d;have M:=M.bw d;have aD:=aD.bw d;have m:=m.bw d;have y:=y.bw d;have H:=H.bw d;have I:=I.bw d;have E:=E.bw d;have u:=u.bw d;have p:=btr p d;refine Zf (X0i (enc:=encSr) (l:=(l)) (l2:=([(⟨(Za1 i gs).pos,U,W,(Za1 i gs).old,aA,aB,(Za1 i gs).new⟩ : Sr)])) (B0:=w0.heap.size) O O X44 X6w X4d X5v y (Rd.of_blk bG O _ bG.lt) (by simp only [maxLen];simp;omega) O3 p.size) ?_;rintro _ dR ⟨bI,bJ,rfl,aR,hg,bX⟩
 have aE:Own _ w0.heap.size 36 3 encSr _ _ (l):=y
 have c4:=bX _ M.lt aU;have cA:=bX _ bG.lt aX;clear bX;have N:=DeepR.snoc (l:=l) (x:=(⟨(Za1 i gs).pos,U,W,(Za1 i gs).old,aA,aB,(Za1 i gs).new⟩ : Sr)) u.top H.rd.top I.rd.top;have o:=o.appT aE hg O;have b:=b.appT aE hg O;have aD:=aD.appT aE hg O;have m:=m.appT aE hg O;have E:=E.appT aE hg O;have N:=N.appT aE hg O;have p:=Below.app p aE hg (Qb _) p.size;clear aE hg;refine Ze (Vd O X2p 2)<|Zo (Vu (vs:=[.slice bI (l++([(⟨(Za1 i gs).pos,U,W,(Za1 i gs).old,aA,aB,(Za1 i gs).new⟩ : Sr)])).length bJ]) (l':=[vi c.n,.slice A9 c.gs.length c9,.slice bI (l++([(⟨(Za1 i gs).pos,U,W,(Za1 i gs).old,aA,aB,(Za1 i gs).new⟩ : Sr)])).length bJ,vi i,.slice aL gs.length aM]) O O Xgv b) ?_;rintro _ dS ⟨J,hb⟩;have o:=o.oy J Z;have aD:=aD.oz J b O;have m:=m.oT J b O;have E:=E.oT J b O;have aR:=aR.oT J b O;have N:=N.oT J b O;have p:=Below.oy p J aF;have b:=hb;refine Zt cP fun a C=>?_;refine Zr C<|Ze (Vn X0e aD)<|Ze (Vd O X20 3)<|Zo (Vu (vs:=[vi (((applyS (⟨i,gs⟩ : Cx) (Za1 i gs)).getD cZ).n),.slice aV (((applyS (⟨i,gs⟩ : Cx) (Za1 i gs)).getD cZ).gs).length aW]) (l':=[vi c.n,.slice A9 c.gs.length c9,.slice bI (l++([(⟨(Za1 i gs).pos,U,W,(Za1 i gs).old,aA,aB,(Za1 i gs).new⟩ : Sr)])).length bJ,vi (((applyS (⟨i,gs⟩ : Cx) (Za1 i gs)).getD cZ).n),.slice aV (((applyS (⟨i,gs⟩ : Cx) (Za1 i gs)).getD cZ).gs).length aW]) O O X1b b) ?_;rintro _ dT ⟨J,hb⟩
 have o:=o.oy J Z;have m:=m.oT J b O;have E:=E.oT J b O;have aR:=aR.oT J b O;have N:=N.oT J b O;have p:=Below.oy p J aF;have b:=hb;refine Zn fun a C=>?_;refine Xn ?_;obtain ⟨k2,dU,cQ⟩:=bE.nxt bH d6 (s:=⟨(Za1 i gs).pos,U,W,(Za1 i gs).old,aA,aB,(Za1 i gs).new⟩) O;refine Xd ?_;exact ⟨(l++([(⟨(Za1 i gs).pos,U,W,(Za1 i gs).old,aA,aB,(Za1 i gs).new⟩ : Sr)]),((applyS (⟨i,gs⟩ : Cx) (Za1 i gs)).getD cZ).n,((applyS (⟨i,gs⟩ : Cx) (Za1 i gs)).getD cZ).gs,k2),⟨bI,bJ,aV,aW,C.sb,cQ,o,b,m,aR,E,N.top,p⟩,O1⟩
theorem Y01(w0:World)(c:Cx)(Ac:Option Addr)(cc:Nat)(G:Rd w0 w0.heap.size 59 encG Ac c.gs)(aN:c.gs.length<=100000000) : Ret Tryz.prog 6 [.agg #[vi c.n,.slice Ac c.gs.length cc]] w0 (fun v w=>∃ (l:List Sr) (A:Option Addr) (e:Nat) (B:Option Addr) (f:Nat) (D:Option Addr) (g:Nat),v=.tuple #[.agg #[vi (pkC c).1.n,.slice A (pkC c).1.gs.length e,.slice B l.length f,vi (pkC c).2.2.n,.slice D (pkC c).2.2.gs.length g],.bool (pkB c)]/\l.map Sr.rp=(pkC c).2.1/\((pkC c).1.gs.length<=e/\(pkC c).2.2.gs.length<=g)/\Rd w w.heap.size 59 encG A (pkC c).1.gs/\Rd w w.heap.size 59 encG D (pkC c).2.2.gs/\Own w w0.heap.size 36 3 encSr B f l/\DeepR w w.heap.size 59 l/\Below w0.heap.size w0 w):=by
 refine enter Tryz.func6 O 12 O O ?_;intro a o
 have d:=bz w0
 refine Zs o fun _ aG=>?_;refine Zf (X0m (zs:=[vi c.n,.slice Ac c.gs.length cc]) O O) ?_;rintro _ w1 ⟨b3,rfl,aH,q,p⟩;have aM:=Q0 d.size aH;have d:=btr d q;refine Zf (Xl (zs:=[vi 0,.slice none 0 0,.slice none 0 0,vi 0,.slice none 0 0]) Xbm O) ?_;rintro _ w2 ⟨b7,rfl,aI,q,b⟩;have H:=Q0 d.size aI;have p:=p.bw q;have d:=btr d q;refine Za O<|ZX aG fun a o _ aJ=>?_;refine Zs o fun _ aK=>?_;refine Ze (Vn X0e p)<|Zf (Vc (F53 _ c Ac cc (G.bx d).top) Xjf) ?_;rintro _ w3 ⟨rfl,q⟩;have p:=p.bw q;have b:=b.bw q;have d:=btr d q;refine Ze (X0x O)<|Zt aK fun a o=>?_
 refine X04 o O (fun t=>?_) (fun t=>?_)
 ·have hc:cOk c=false:=bn1 t
  obtain ⟨aD,aL⟩:=Xvi hc;refine Zs o fun _ aE=>?_;refine Ze (Xi (ps:=[]) (cs:=[vi 0,.slice none 0 0,.slice none 0 0,vi 0,.slice none 0 0]) O (fun _=>by first|rfl|kernel_rfl))<|Zo (Vw [vi 0,.slice none 0 0,.slice none 0 0,vi 0,.slice none 0 0] X45 b) ?_;rintro _ w4 ⟨ho,hb⟩;have d:=Below.oy d ho H;have b:=hb;refine Za O<|Zt aE fun a o=>?_;refine Q6<|X5<|X4 o (X0q o O (ResV.cellN (l:=[vi 0,.slice none 0 0,.slice none 0 0,vi 0,.slice none 0 0]) O X5l (b.at 0) O) O) ?_
  rw [aD,aL]
  exact ⟨[],_,_,_,_,_,_,O,O,⟨(Qf _),(Qf _)⟩,(Rd.nil _ _ _ _ _),(Rd.nil _ _ _ _ _),(Own.nil _ _ _ _ _),(DeepR.nil _ _ _),d⟩
 have hc:cOk c=true:=bn2 t
 refine Q7<|aJ _ _<|Zs o fun _ aF=>?_;refine Ze (Vn X0e p)<|Zf (Vc (Y04 _ c Ac cc (G.bx d).top hc) Xsq) ?_;rintro _ w5 ⟨u,x,y,z,h,C,E,rfl,aA,⟨aB,aC⟩,j,k,i,m,q⟩;have i:=i.lower d.size;have b:=b.bw q;have d:=btr d q;refine Ze (X3 (vs:=[.agg #[vi ((pkC c).1.n),.slice x ((pkC c).1.gs).length y,.slice z u.length h,vi ((pkC c).2.2.n),.slice C ((pkC c).2.2.gs).length E],.bool (pkB c)]) O O)<|Ze (X3 (vs:=[.agg #[vi ((pkC c).1.n),.slice x ((pkC c).1.gs).length y,.slice z u.length h,vi ((pkC c).2.2.n),.slice C ((pkC c).2.2.gs).length E],.bool (pkB c)]) O O)<|Zo (Vw [vi ((pkC c).1.n),.slice x ((pkC c).1.gs).length y,.slice z u.length h,vi ((pkC c).2.2.n),.slice C ((pkC c).2.2.gs).length E] X45 b) ?_;rintro _ w6 ⟨ho,hb⟩;have j:=j.oT ho b O;have i:=i.oT ho b O;have k:=k.oT ho b O;have m:=m.oT ho b O;have d:=Below.oy d ho H;have b:=hb;refine Za O<|Zt aF fun a o=>?_
 refine Q6 (X4 o (X0q o O (ResV.cellN (l:=[vi ((pkC c).1.n),.slice x ((pkC c).1.gs).length y,.slice z u.length h,vi ((pkC c).2.2.n),.slice C ((pkC c).2.2.gs).length E]) O X5l (b.at 0) O) O) ?_)
 exact ⟨_,_,_,_,_,_,_,O,aA,⟨aB,aC⟩,j.top,k.top,i,(m.top),d⟩
theorem Xzj(w0:World)(b2:Nat)(b4:ByteArray->Option Sq)(bJ:Option Addr)(bK bL:Nat)(o:MapS w0 b2 (sgF b4))(i:DeepM w0 w0.heap.size 59 b4)(cS:sgL b4=(tbW 1 5).1)(b5:Nat)(b6:ByteArray->Option Sq)(bM:Option Addr)(bN bO:Nat)(p:MapS w0 b5 (sgF b6))(m:DeepM w0 w0.heap.size 59 b6)(cT:sgL b6=(tbW 2 3).1)(c:Cx)(Ac:Option Addr)(cc:Nat)(cU:Rd w0 w0.heap.size 59 encG Ac c.gs)(aT:c.gs.length<=cc)(hc:cOk c=true)(cV:PowT w0) : Ret Tryz.prog 17 [.agg #[vi c.n,.slice Ac c.gs.length cc],.func (.func 19) #[.agg #[.map none,.slice none 0 0,.map (some b2),.slice bJ bK bL,.map (some b5),.slice bM bN bO]] #[]] w0 (fun v w=>∃ (l:List Sr) (A:Option Addr) (e:Nat) (B:Option Addr) (f:Nat) (D:Option Addr) (g:Nat),v=.tuple #[.agg #[vi (pkC c).1.n,.slice A (pkC c).1.gs.length e,.slice B l.length f,vi (pkC c).2.2.n,.slice D (pkC c).2.2.gs.length g],.bool (pkB c)]/\l.map Sr.rp=(pkC c).2.1/\Own w w0.heap.size 36 3 encSr B f l/\DeepO w w0.heap.size (59:TypeId) (⟨0,A,e,(pkC c).1.gs,D,g,(pkC c).2.2.gs⟩::l)/\Below w0.heap.size w0 w):=by
 obtain ⟨eH,eI,eJ⟩:=X10 hc
 have dQ:cIf c=some c:=by unfold cIf;rw [Q4 hc]
 refine enter Tryz.func17 O 62 O O ?_;intro a hf
 have L:=bz w0
 refine Zs hf fun _ dR=>?_;refine Zf (X0m (zs:=[vi c.n,.slice Ac c.gs.length cc]) O O) ?_;rintro _ w1 ⟨b3,rfl,dS,q,E⟩;have eF:=Q0 L.size dS;have o:=o.bw q;have p:=p.bw q;have i:=i.bw q;have m:=m.bw q;have L:=btr L q;refine Zf (Xl (zs:=[vi 0,.slice none 0 0,.slice none 0 0,vi 0,.slice none 0 0]) Xbm O) ?_;rintro _ w2 ⟨b7,rfl,dT,q,G⟩;have bY:=Q0 L.size dT;have o:=o.bw q;have p:=p.bw q;have E:=E.bw q;have i:=i.bw q;have m:=m.bw q;have L:=btr L q;refine Za O<|Zx dR fun a hf _ dU=>?_;refine Ze (Vd O X1d 0)<|Ze (X0 O X8 (E.at 0))<|Ze (Vd O X05 1)<|Ze (X0 O X0l (E.at 1))<|Zf (Vc (Xvn _ c.n Ac cc c.gs (cU.bx L).top Z) Xhd) ?_;rintro _ w3 ⟨A9,c9,rfl,H,q⟩;have H:=H.lower L.size;have o:=o.bw q;have p:=p.bw q;have E:=E.bw q;have G:=G.bw q;have i:=i.bw q;have m:=m.bw q;have L:=btr L q
 have hcf':cIf ⟨c.n,c.gs⟩=some c:=dQ
 refine Zm O<|Ze (X3 (vs:=[.agg #[vi (((cIf ⟨c.n,c.gs⟩).getD cZ).n),.slice A9 (((cIf ⟨c.n,c.gs⟩).getD cZ).gs).length c9],.bool ((cIf ⟨c.n,c.gs⟩).isSome)]) O O)<|Ze (X3 (vs:=[.agg #[vi (((cIf ⟨c.n,c.gs⟩).getD cZ).n),.slice A9 (((cIf ⟨c.n,c.gs⟩).getD cZ).gs).length c9],.bool ((cIf ⟨c.n,c.gs⟩).isSome)]) O O) ?_;refine ZB [vi (((cIf ⟨c.n,c.gs⟩).getD cZ).n),.slice A9 (((cIf ⟨c.n,c.gs⟩).getD cZ).gs).length c9] X2y X1b fun b11 w5 cW q bZ=>?_
 have cX:b3≠b11:=by have:=E.lt;omega
 have dW:=Q0 L.size cW;have o:=o.bw q;have p:=p.bw q;have E:=E.bw q;have G:=G.bw q;have H:=H.bw q;have i:=i.bw q;have m:=m.bw q;have L:=btr L q;refine Za O<|Zx dU fun a hf _ cY=>?_;refine Ze (Vn X0e bZ)<|Ze (Vn X0e bZ)<|Ze (Xi (ps:=[(0,.agg #[vi (((cIf ⟨c.n,c.gs⟩).getD cZ).n),.slice A9 (((cIf ⟨c.n,c.gs⟩).getD cZ).gs).length c9]),(2,.agg #[vi (((cIf ⟨c.n,c.gs⟩).getD cZ).n),.slice A9 (((cIf ⟨c.n,c.gs⟩).getD cZ).gs).length c9])]) (cs:=[vi (((cIf ⟨c.n,c.gs⟩).getD cZ).n),.slice A9 (((cIf ⟨c.n,c.gs⟩).getD cZ).gs).length c9,.slice none 0 0,vi (((cIf ⟨c.n,c.gs⟩).getD cZ).n),.slice A9 (((cIf ⟨c.n,c.gs⟩).getD cZ).gs).length c9]) O (fun _=>by first|rfl|kernel_rfl)) ?_;refine ZB [vi (((cIf ⟨c.n,c.gs⟩).getD cZ).n),.slice A9 (((cIf ⟨c.n,c.gs⟩).getD cZ).gs).length c9,.slice none 0 0,vi (((cIf ⟨c.n,c.gs⟩).getD cZ).n),.slice A9 (((cIf ⟨c.n,c.gs⟩).getD cZ).gs).length c9] Xbm X45 fun b19 w7 d5 q b=>?_
 have d6:b7≠b19:=by have:=G.lt;omega
 have aD:=Q0 L.size d5;have o:=o.bw q;have p:=p.bw q;have E:=E.bw q;have G:=G.bw q;have H:=H.bw q;have i:=i.bw q;have m:=m.bw q;have L:=btr L q;refine Zt cY fun a hf=>?_;refine Q8<|X0d (σ:=(List Sr)×Int×(List Gt)×Nat) (fun (s:(List Sr)×Int×(List Gt)×Nat) (a:Act) (w:World)=>match s with|(l,d,gs,k)=>∃ b8 b9 aM aN,Fr a 62 [(1,.func (.func 19) #[.agg #[.map none,.slice none 0 0,.map (some b2),.slice bJ bK bL,.map (some b5),.slice bM bN bO]] #[]),(2,(pZ9 b3)),(4,(pZ9 b7)),(8,(pZ9 b19))]/\(PkI c l ⟨d,gs⟩ k)/\MapS w b2 (sgF b4)/\MapS w b5 (sgF b6)/\Blk w b3 25 [vi c.n,.slice Ac c.gs.length cc]/\Blk w b7 29 [vi 0,.slice none 0 0,.slice none 0 0,vi 0,.slice none 0 0]/\Blk w b19 29 [vi (((cIf ⟨c.n,c.gs⟩).getD cZ).n),.slice A9 (((cIf ⟨c.n,c.gs⟩).getD cZ).gs).length c9,.slice b8 l.length b9,vi d,.slice aM gs.length aN]/\Own w w0.heap.size 59 3 encG A9 c9 (((cIf ⟨c.n,c.gs⟩).getD cZ).gs)/\Own w w0.heap.size 36 3 encSr b8 b9 l/\Rd w w.heap.size 59 encG aM gs/\c.gs.length<=cc/\DeepR w w.heap.size 59 l/\gs.length<=aN/\DeepM w (w0.heap.size) 59 b4/\DeepM w (w0.heap.size) 59 b6/\DeepO w w0.heap.size (59:TypeId) ((⟨0,A9,c9,((cIf ⟨c.n,c.gs⟩).getD cZ).gs,none,0,[]⟩ : Sr)::l)/\Below w0.heap.size w0 w) (fun (s:(List Sr)×Int×(List Gt)×Nat)=>match s with|(l,d,gs,k)=>k) ([],((cIf ⟨c.n,c.gs⟩).getD cZ).n,((cIf ⟨c.n,c.gs⟩).getD cZ).gs,c.gs.length) ?_ ?_
 ·exact ⟨none,0,A9,c9,hf.sb,(by rw [hcf'];exact PkI.sta hc),o,p,E,G,b,H,(Own.nil _ _ _ _ _),H.rd,aT,(DeepR.nil _ _ _),H.cap,i,m,(DeepO.one (x:=(⟨0,A9,c9,((cIf ⟨c.n,c.gs⟩).getD cZ).gs,none,0,[]⟩ : Sr)) H (Own.nil _ _ _ _ _) (Apart.none_l _).symm),L⟩
 rintro ⟨l,d,gs,k⟩ a w8 ⟨b8,b9,aM,aN,hf,aL,o,p,E,G,b,H,J,aP,aT,W,bF,i,m,I,L⟩;refine Q8<|Zs hf fun _ d7=>?_;refine Zm O<|Ze (Vd O X20 3)<|Ze (Xx (l:=[vi d,.slice aM gs.length aN]) O X0e ((b.at 3).take 2) O)<|Zf (Xvz (cs:=[.agg #[.map none,.slice none 0 0,.map (some b2),.slice bJ bK bL,.map (some b5),.slice bM bN bO]]) (vs:=[.agg #[vi d,.slice aM gs.length aN]]) O O Xj8 (Xuu _ b2 b4 bJ bK bL o i.top cS b5 b6 bM bN bO p m.top cT (⟨d,gs⟩ : Cx) aM aN aP.top bF aL.ok (cV.of L))) ?_;rintro _ w9 ⟨M,N,Q,U,rfl,t,u,aH,q⟩;have bP:=I.fresh t (Qb _);have bQ:=I.fresh u (Qb _);have d8:=H.apart t (Qb _);have t:=t.lower L.size;have d9:=H.apart u (Qb _);have u:=u.lower L.size;have o:=o.bw q;have p:=p.bw q;have E:=E.bw q;have G:=G.bw q;have b:=b.bw q;have H:=H.bw q;have J:=J.bw q;have aP:=aP.bw q;have W:=W.bw q;have i:=i.bw q;have m:=m.bw q;have I:=I.bw q;have L:=btr L q;refine Zm O<|Ze (X3 (vs:=[.agg #[vi ((Za1 d gs).pos),.slice M ((Za1 d gs).old).length N,.slice Q ((Za1 d gs).new).length U],.bool ((stX (⟨d,gs⟩ : Cx)).isSome)]) O O)<|Ze (X3 (vs:=[.agg #[vi ((Za1 d gs).pos),.slice M ((Za1 d gs).old).length N,.slice Q ((Za1 d gs).new).length U],.bool ((stX (⟨d,gs⟩ : Cx)).isSome)]) O O) ?_;refine ZB [vi ((Za1 d gs).pos),.slice M ((Za1 d gs).old).length N,.slice Q ((Za1 d gs).new).length U] X2v X17 fun dA eK c4 q aA=>?_
 have dX:=Q0 L.size c4;have aO:=J.away c4;have o:=o.bw q;have p:=p.bw q;have E:=E.bw q;have G:=G.bw q;have b:=b.bw q;have H:=H.bw q;have J:=J.bw q;have aP:=aP.bw q;have t:=t.bw q;have u:=u.bw q;have W:=W.bw q;have i:=i.bw q;have m:=m.bw q;have I:=I.bw q;have L:=btr L q;refine Za O<|ZX d7 fun a hf _ dB=>?_;refine Zs hf fun _ dC=>?_;refine Zm O<|Ze (X0x O)<|Zt dC fun a hf=>?_
 refine X04 hf O (fun aW=>?_) (fun aW=>?_)
 ·have cC:=aW
  have dY:stX ⟨d,gs⟩=none:=by revert aW;cases stX ⟨d,gs⟩<;>simp
  obtain ⟨bG,cD⟩:=aL.don hc dY
  have e7:d=c.n:=aL.n
  refine Zs hf fun _ dD=>?_;refine Ze (Vd O X1d 0)<|Ze (X0 O X8 (E.at 0))<|Ze (Vd O X20 3)<|Ze (Vd O X05 4)<|Ze (X0 O X0l (b.at 4))<|Zf (Vc (Xvn _ c.n aM aN gs aP.top (by have:=aL.len;dsimp only at this;omega)) Xhd) ?_;rintro _ eL ⟨bC,bD,rfl,aG,q⟩;have eA:=I.fresh aG (Qb _);have dE:=H.apart aG (Qb _);have cG:=t.apart aG (Qb _);have cH:=u.apart aG (Qb _);have aG:=aG.lower L.size;have G:=G.bw q;have b:=b.bw q;have J:=J.bw q;have I:=I.bw q;have L:=btr L q
  have eB:cIf ⟨c.n,gs⟩=some ⟨c.n,gs⟩:=by unfold cIf;rw [Q4 (by have:=aL.ok;have h9:=aL.n;dsimp only at h9;rw [h9] at this;exact this)]
  refine Zm O<|Ze (X3 (vs:=[.agg #[vi (((cIf ⟨c.n,gs⟩).getD cZ).n),.slice bC (((cIf ⟨c.n,gs⟩).getD cZ).gs).length bD],.bool ((cIf ⟨c.n,gs⟩).isSome)]) O O)<|Ze (X3 (vs:=[.agg #[vi (((cIf ⟨c.n,gs⟩).getD cZ).n),.slice bC (((cIf ⟨c.n,gs⟩).getD cZ).gs).length bD],.bool ((cIf ⟨c.n,gs⟩).isSome)]) O O)<|Ze (Vd O X20 3)<|Zo (Vu (vs:=[vi (((cIf ⟨c.n,gs⟩).getD cZ).n),.slice bC (((cIf ⟨c.n,gs⟩).getD cZ).gs).length bD]) (l':=[vi (((cIf ⟨c.n,c.gs⟩).getD cZ).n),.slice A9 (((cIf ⟨c.n,c.gs⟩).getD cZ).gs).length c9,.slice b8 l.length b9,vi (((cIf ⟨c.n,gs⟩).getD cZ).n),.slice bC (((cIf ⟨c.n,gs⟩).getD cZ).gs).length bD]) O O X1b b) ?_;rintro _ eM ⟨z,hb⟩;have G:=G.oy z Z;have J:=J.oT z b O;have aG:=aG.oT z b O;have I:=I.oT z b O;have L:=Below.oy L z aD;have b:=hb;refine Zx dD fun a hf _ dF=>?_;refine Ze (Vn X5l b)<|Zo (Vw [vi (((cIf ⟨c.n,c.gs⟩).getD cZ).n),.slice A9 (((cIf ⟨c.n,c.gs⟩).getD cZ).gs).length c9,.slice b8 l.length b9,vi (((cIf ⟨c.n,gs⟩).getD cZ).n),.slice bC (((cIf ⟨c.n,gs⟩).getD cZ).gs).length bD] X45 G) ?_;rintro _ eN ⟨z,hb⟩;have J:=J.oT z G O;have aG:=aG.oT z G O;have I:=I.oT z G O;have L:=Below.oy L z bY;have G:=hb;refine Za O<|Zt dF fun a hf=>?_;refine Q6<|X5<|Xo<|X5 ?_;refine Xo<|X4 hf (X0q hf O (ResV.cellN (l:=[vi (((cIf ⟨c.n,c.gs⟩).getD cZ).n),.slice A9 (((cIf ⟨c.n,c.gs⟩).getD cZ).gs).length c9,.slice b8 l.length b9,vi (((cIf ⟨c.n,gs⟩).getD cZ).n),.slice bC (((cIf ⟨c.n,gs⟩).getD cZ).gs).length bD]) O X5l (G.at 0) O) O) ?_
  rw [bG,cD,e7]
  rw [hcf'] at *
  rw [eB] at *
  exact ⟨l,_,_,_,_,_,_,O,O,J,(I.head aG eA),L⟩
 have cC:=aW
 have eG:l.length+gs.length<=c.gs.length:=aL.len
 have b1:stX ⟨d,gs⟩=some ((stX ⟨d,gs⟩).getD rpZ):=by revert aW;cases stX ⟨d,gs⟩<;>simp
 obtain ⟨dG,dH⟩:=X6f b1
 have eO:1<=gs.length:=X7t b1
 have bH:=(X55 (r:=(stX ⟨d,gs⟩).getD rpZ) aL.ok).1;refine Q7<|dB _ _<|Zs hf fun _ dI=>?_;refine Ze (Vd O X20 3)<|Ze (Xx (l:=[vi d,.slice aM gs.length aN]) O X0e ((b.at 3).take 2) O)<|Ze (Vn X1g aA)<|Zf (Vc (F66 _ (⟨d,gs⟩ : Cx) aM aN aP.top bF (Za1 d gs) M N t.rd.top Q U u.rd.top (by have:=aL.len;dsimp only at this ⊢;omega) (Q0 dG O4) (Q0 dH O4)) Xve) ?_;rintro _ eP ⟨aE,aF,rfl,C,q⟩;have dJ:=H.apart C (Qb _);have cI:=t.apart C (Qb _);have cJ:=u.apart C (Qb _);have C:=C.lower L.size;have o:=o.bw q;have p:=p.bw q;have E:=E.bw q;have G:=G.bw q;have b:=b.bw q;have aA:=aA.bw q;have H:=H.bw q;have J:=J.bw q;have t:=t.bw q;have u:=u.bw q;have W:=W.bw q;have i:=i.bw q;have m:=m.bw q;have I:=I.bw q;have L:=btr L q;refine Zm O<|Ze (X3 (vs:=[.agg #[vi ((Za2 d gs).n),.slice aE ((Za2 d gs).gs).length aF],.bool ((applyI (⟨d,gs⟩ : Cx) (Za1 d gs)).isSome)]) O O)<|Ze (X3 (vs:=[.agg #[vi ((Za2 d gs).n),.slice aE ((Za2 d gs).gs).length aF],.bool ((applyI (⟨d,gs⟩ : Cx) (Za1 d gs)).isSome)]) O O) ?_;refine ZB [vi ((Za2 d gs).n),.slice aE ((Za2 d gs).gs).length aF] X2y X1b fun b37 eQ dK q aC=>?_
 have dL:b3≠b37:=by have:=E.lt;omega
 have eC:=Q0 L.size dK;have o:=o.bw q;have p:=p.bw q;have E:=E.bw q;have G:=G.bw q;have b:=b.bw q;have aA:=aA.bw q;have H:=H.bw q;have J:=J.bw q;have t:=t.bw q;have u:=u.bw q;have C:=C.bw q;have W:=W.bw q;have i:=i.bw q;have m:=m.bw q;have I:=I.bw q;have L:=btr L q;refine Za O<|ZX dI fun a hf _ dM=>?_;refine Zs hf fun _ dN=>?_;refine Zm O<|Ze (X0x O)<|Zt dN fun a hf=>?_
 refine X04 hf O (fun aQ=>?_) (fun aQ=>?_)
 ·have cE:=aQ
  rw [bH] at aQ
  have dO:applyS ⟨d,gs⟩ ((stX ⟨d,gs⟩).getD rpZ)=none:=by
   revert aQ
   cases applyS ⟨d,gs⟩ ((stX ⟨d,gs⟩).getD rpZ)<;>simp
  obtain ⟨bG,cD⟩:=aL.bd hc b1 dO;refine Zs hf fun _ dP=>?_;refine Ze (Xi (ps:=[]) (cs:=[vi 0,.slice none 0 0,.slice none 0 0,vi 0,.slice none 0 0]) O (fun _=>by first|rfl|kernel_rfl))<|Zo (Vw [vi 0,.slice none 0 0,.slice none 0 0,vi 0,.slice none 0 0] X45 G) ?_;rintro _ eR ⟨z,hb⟩;have L:=Below.oy L z bY;have G:=hb;refine Za O<|Zt dP fun a hf=>?_;refine Q6<|X5<|Xo<|X5 ?_;refine Xo<|X4 hf (X0q hf O (ResV.cellN (l:=[vi 0,.slice none 0 0,.slice none 0 0,vi 0,.slice none 0 0]) O X5l (G.at 0) O) O) ?_
  rw [bG,cD]
  exact ⟨[],_,_,_,_,_,_,O,O,Own.nil _ _ _ _ _,DeepO.one (Own.nil _ _ _ _ _) (Own.nil _ _ _ _ _) (Apart.none_l _),L⟩
 have cE:=aQ
 rw [bH] at aQ
 have bR:applyS ⟨d,gs⟩ ((stX ⟨d,gs⟩).getD rpZ)=some ((applyI ⟨d,gs⟩ ((stX ⟨d,gs⟩).getD rpZ)).getD cZ):=by
  rw [bH];revert aQ
  cases applyS ⟨d,gs⟩ ((stX ⟨d,gs⟩).getD rpZ)<;>simp
 refine Q7<|dM _ _<|X08 none (fun j=>[4,7,9].contains j) mixed ?_;intro eS q;have o:=o.bw q;have p:=p.bw q;have E:=E.bw q;have G:=G.bw q;have b:=b.bw q;have aA:=aA.bw q;have aC:=aC.bw q;have H:=H.bw q;have J:=J.bw q;have t:=t.bw q;have u:=u.bw q;have C:=C.bw q;have W:=W.bw q;have i:=i.bw q;have m:=m.bw q;have I:=I.bw q;have L:=btr L q;refine Yb hf<|Yo 0 O (fun _=>Vd O X2p 2)<|Ye 1 O (X0 O X97 (b.at 2))<|Ye 2 O (Vn X1g aA) ?_;refine Y2 3 5 ?_ ?_
 ·refine Yk O tv0 (X2 (k:=1) (vs:=[.agg #[vi ((Za1 d gs).pos),.slice M ((Za1 d gs).old).length N,.slice Q ((Za1 d gs).new).length U]]) (zs:=[vi ((Za1 d gs).pos),.slice M ((Za1 d gs).old).length N,.slice Q ((Za1 d gs).new).length U]) O X44 X6w O O) (fun _ _ ⟨_,_,_,h,_⟩=>h) ?_;rintro _ eT ⟨b45,rfl,cA,q,aU⟩
  have cK:dA≠b45:=by have:=aA.lt;omega
  have eD:=Q0 L.size cA;have aV:=J.away cA;have o:=o.bw q;have p:=p.bw q;have E:=E.bw q;have G:=G.bw q;have b:=b.bw q;have aA:=aA.bw q;have aC:=aC.bw q;have H:=H.bw q;have J:=J.bw q;have t:=t.bw q;have u:=u.bw q;have C:=C.bw q;have W:=W.bw q;have i:=i.bw q;have m:=m.bw q;have I:=I.bw q;have L:=btr L q;refine Y2 4 5 ?_ ?_
  ·refine Yt O tv0 O (X0i (enc:=encSr) (l:=(l)) (l2:=([(⟨(Za1 d gs).pos,M,N,(Za1 d gs).old,Q,U,(Za1 d gs).new⟩ : Sr)])) (B0:=w0.heap.size) O O X44 X6w X4d X5v J (Rd.of_blk aU O _ aU.lt) (by simp only [maxLen];simp;omega) O3 L.size) ?_;rintro _ eU ⟨aX,aY,rfl,aI,hg,aR⟩
   have y:Own _ w0.heap.size 36 3 encSr _ _ (l):=J
   have cL:=aR _ aA.lt aO;have cM:=aR _ aU.lt aV;clear aR;have aB:=DeepR.snoc (l:=l) (x:=(⟨(Za1 d gs).pos,M,N,(Za1 d gs).old,Q,U,(Za1 d gs).new⟩ : Sr)) W.top t.rd.top u.rd.top;have o:=o.app y hg;have p:=p.app y hg;have E:=E.appT y hg O;have G:=G.appT y hg O;have b:=b.appT y hg O;have aC:=aC.appT y hg O;have H:=H.appT y hg O;have t:=t.appT y hg O;have u:=u.appT y hg O;have C:=C.appT y hg O;have aB:=aB.appT y hg O;have i:=i.appT y hg O;have m:=m.appT y hg O;have I:=I.appT y hg O;have L:=Below.app L y hg (Qb _) L.size;clear y hg;refine Yo 6 O (fun _=>Vd O X2p 2) ?_;refine Y2 5 7 ?_ ?_
   ·refine Yz O tv0 (Uev (Xx (l:=[vi ((Za2 d gs).n),.slice aE ((Za2 d gs).gs).length aF]) O X0e (aC.at 0) O)) ?_;refine Y1 7<|Yh O tv0 O (Vu (vs:=[.slice aX (l++([(⟨(Za1 d gs).pos,M,N,(Za1 d gs).old,Q,U,(Za1 d gs).new⟩ : Sr)])).length aY]) (l':=[vi (((cIf ⟨c.n,c.gs⟩).getD cZ).n),.slice A9 (((cIf ⟨c.n,c.gs⟩).getD cZ).gs).length c9,.slice aX (l++([(⟨(Za1 d gs).pos,M,N,(Za1 d gs).old,Q,U,(Za1 d gs).new⟩ : Sr)])).length aY,vi d,.slice aM gs.length aN]) O O Xgv b) ?_;rintro _ eV ⟨z,hb⟩;have o:=o.oy z (o.ne b);have p:=p.oy z (p.ne b);have E:=E.oz z b O;have G:=G.oy z Z;have H:=H.oT z b O;have t:=t.oT z b O;have u:=u.oT z b O;have C:=C.oT z b O;have aI:=aI.oT z b O;have aB:=aB.oT z b O;have i:=i.oT z b O;have m:=m.oT z b O;have I:=I.oT z b O;have L:=Below.oy L z aD;have b:=hb;refine Yo 8 O (fun _=>Vd O X20 3)<|Y1 9 ?_;refine Yh O tv0 O (Vu (vs:=[vi ((Za2 d gs).n),.slice aE ((Za2 d gs).gs).length aF]) (l':=[vi (((cIf ⟨c.n,c.gs⟩).getD cZ).n),.slice A9 (((cIf ⟨c.n,c.gs⟩).getD cZ).gs).length c9,.slice aX (l++([(⟨(Za1 d gs).pos,M,N,(Za1 d gs).old,Q,U,(Za1 d gs).new⟩ : Sr)])).length aY,vi ((Za2 d gs).n),.slice aE ((Za2 d gs).gs).length aF]) O O X1b b) ?_;rintro _ eW ⟨z,hb⟩
    have o:=o.oy z (o.ne b);have p:=p.oy z (p.ne b);have E:=E.oz z b O;have G:=G.oy z Z;have H:=H.oT z b O;have t:=t.oT z b O;have u:=u.oT z b O;have C:=C.oT z b O;have aI:=aI.oT z b O;have aB:=aB.oT z b O;have i:=i.oT z b O;have m:=m.oT z b O;have I:=I.oT z b O;have L:=Below.oy L z aD;have b:=hb;refine Yd fun a hf=>?_;refine Xn ?_;obtain ⟨k2,cF,aS⟩:=aL.nxt b1 bR (s:=⟨(Za1 d gs).pos,M,N,(Za1 d gs).old,Q,U,(Za1 d gs).new⟩) O;refine Xd ?_;exact ⟨(l++([(⟨(Za1 d gs).pos,M,N,(Za1 d gs).old,Q,U,(Za1 d gs).new⟩ : Sr)]),(Za2 d gs).n,(Za2 d gs).gs,k2),⟨aX,aY,aE,aF,hf.sb,aS,o,p,E,G,b,H,aI,C.rd,aT,aB.top,C.cap,i,m,(DeepO.snoc (x:=⟨(Za1 d gs).pos,M,N,(Za1 d gs).old,Q,U,(Za1 d gs).new⟩) I t u aH bP bQ),L⟩,O1⟩
   refine Yh O tv0 O (Vu (vs:=[.slice aX (l++([(⟨(Za1 d gs).pos,M,N,(Za1 d gs).old,Q,U,(Za1 d gs).new⟩ : Sr)])).length aY]) (l':=[vi (((cIf ⟨c.n,c.gs⟩).getD cZ).n),.slice A9 (((cIf ⟨c.n,c.gs⟩).getD cZ).gs).length c9,.slice aX (l++([(⟨(Za1 d gs).pos,M,N,(Za1 d gs).old,Q,U,(Za1 d gs).new⟩ : Sr)])).length aY,vi d,.slice aM gs.length aN]) O O Xgv b) ?_;rintro _ eX ⟨z,hb⟩;have o:=o.oy z (o.ne b);have p:=p.oy z (p.ne b);have E:=E.oz z b O;have G:=G.oy z Z;have aC:=aC.oz z b O;have H:=H.oT z b O;have t:=t.oT z b O;have u:=u.oT z b O;have C:=C.oT z b O;have aI:=aI.oT z b O;have aB:=aB.oT z b O;have i:=i.oT z b O;have m:=m.oT z b O;have I:=I.oT z b O;have L:=Below.oy L z aD;have b:=hb;refine Y1 5<|Yz O tv0 (Uev (Xx (l:=[vi ((Za2 d gs).n),.slice aE ((Za2 d gs).gs).length aF]) O X0e (aC.at 0) O)) ?_;refine Yo 8 O (fun _=>Vd O X20 3)<|Y1 9 ?_;refine Yh O tv0 O (Vu (vs:=[vi ((Za2 d gs).n),.slice aE ((Za2 d gs).gs).length aF]) (l':=[vi (((cIf ⟨c.n,c.gs⟩).getD cZ).n),.slice A9 (((cIf ⟨c.n,c.gs⟩).getD cZ).gs).length c9,.slice aX (l++([(⟨(Za1 d gs).pos,M,N,(Za1 d gs).old,Q,U,(Za1 d gs).new⟩ : Sr)])).length aY,vi ((Za2 d gs).n),.slice aE ((Za2 d gs).gs).length aF]) O O X1b b) ?_;rintro _ eY ⟨z,hb⟩
   have o:=o.oy z (o.ne b);have p:=p.oy z (p.ne b);have E:=E.oz z b O;have G:=G.oy z Z;have H:=H.oT z b O;have t:=t.oT z b O;have u:=u.oT z b O;have C:=C.oT z b O;have aI:=aI.oT z b O;have aB:=aB.oT z b O;have i:=i.oT z b O;have m:=m.oT z b O;have I:=I.oT z b O;have L:=Below.oy L z aD;have b:=hb;refine Yd fun a hf=>?_;refine Xn ?_;obtain ⟨k2,cF,aS⟩:=aL.nxt b1 bR (s:=⟨(Za1 d gs).pos,M,N,(Za1 d gs).old,Q,U,(Za1 d gs).new⟩) O;refine Xd ?_;exact ⟨(l++([(⟨(Za1 d gs).pos,M,N,(Za1 d gs).old,Q,U,(Za1 d gs).new⟩ : Sr)]),(Za2 d gs).n,(Za2 d gs).gs,k2),⟨aX,aY,aE,aF,hf.sb,aS,o,p,E,G,b,H,aI,C.rd,aT,aB.top,C.cap,i,m,(DeepO.snoc (x:=⟨(Za1 d gs).pos,M,N,(Za1 d gs).old,Q,U,(Za1 d gs).new⟩) I t u aH bP bQ),L⟩,O1⟩
  refine Yz O tv0 (Uev (Xx (l:=[vi ((Za2 d gs).n),.slice aE ((Za2 d gs).gs).length aF]) O X0e (aC.at 0) O)) ?_;refine Y1 4<|Yt O tv0 O (X0i (enc:=encSr) (l:=(l)) (l2:=([(⟨(Za1 d gs).pos,M,N,(Za1 d gs).old,Q,U,(Za1 d gs).new⟩ : Sr)])) (B0:=w0.heap.size) O O X44 X6w X4d X5v J (Rd.of_blk aU O _ aU.lt) (by simp only [maxLen];simp;omega) O3 L.size) ?_;rintro _ eZ ⟨bS,bU,rfl,aZ,hg,aR⟩
  have y:Own _ w0.heap.size 36 3 encSr _ _ (l):=J
  have cN:=aR _ aA.lt aO;have cO:=aR _ aU.lt aV;clear aR;have aJ:=DeepR.snoc (l:=l) (x:=(⟨(Za1 d gs).pos,M,N,(Za1 d gs).old,Q,U,(Za1 d gs).new⟩ : Sr)) W.top t.rd.top u.rd.top;have o:=o.app y hg;have p:=p.app y hg;have E:=E.appT y hg O;have G:=G.appT y hg O;have b:=b.appT y hg O;have H:=H.appT y hg O;have t:=t.appT y hg O;have u:=u.appT y hg O;have C:=C.appT y hg O;have aJ:=aJ.appT y hg O;have i:=i.appT y hg O;have m:=m.appT y hg O;have I:=I.appT y hg O;have L:=Below.app L y hg (Qb _) L.size;clear y hg;refine Yo 6 O (fun _=>Vd O X2p 2)<|Y1 7 ?_;refine Yh O tv0 O (Vu (vs:=[.slice bS (l++([(⟨(Za1 d gs).pos,M,N,(Za1 d gs).old,Q,U,(Za1 d gs).new⟩ : Sr)])).length bU]) (l':=[vi (((cIf ⟨c.n,c.gs⟩).getD cZ).n),.slice A9 (((cIf ⟨c.n,c.gs⟩).getD cZ).gs).length c9,.slice bS (l++([(⟨(Za1 d gs).pos,M,N,(Za1 d gs).old,Q,U,(Za1 d gs).new⟩ : Sr)])).length bU,vi d,.slice aM gs.length aN]) O O Xgv b) ?_;rintro _ f0 ⟨z,hb⟩;have o:=o.oy z (o.ne b);have p:=p.oy z (p.ne b);have E:=E.oz z b O;have G:=G.oy z Z;have H:=H.oT z b O;have t:=t.oT z b O;have u:=u.oT z b O;have C:=C.oT z b O;have aZ:=aZ.oT z b O;have aJ:=aJ.oT z b O;have i:=i.oT z b O;have m:=m.oT z b O
  have I:=I.oT z b O;have L:=Below.oy L z aD;have b:=hb;refine Yo 8 O (fun _=>Vd O X20 3)<|Y1 9 ?_;refine Yh O tv0 O (Vu (vs:=[vi ((Za2 d gs).n),.slice aE ((Za2 d gs).gs).length aF]) (l':=[vi (((cIf ⟨c.n,c.gs⟩).getD cZ).n),.slice A9 (((cIf ⟨c.n,c.gs⟩).getD cZ).gs).length c9,.slice bS (l++([(⟨(Za1 d gs).pos,M,N,(Za1 d gs).old,Q,U,(Za1 d gs).new⟩ : Sr)])).length bU,vi ((Za2 d gs).n),.slice aE ((Za2 d gs).gs).length aF]) O O X1b b) ?_;rintro _ f5 ⟨z,hb⟩;have o:=o.oy z (o.ne b);have p:=p.oy z (p.ne b);have E:=E.oz z b O;have G:=G.oy z Z;have H:=H.oT z b O;have t:=t.oT z b O;have u:=u.oT z b O;have C:=C.oT z b O;have aZ:=aZ.oT z b O;have aJ:=aJ.oT z b O;have i:=i.oT z b O;have m:=m.oT z b O;have I:=I.oT z b O;have L:=Below.oy L z aD;have b:=hb;refine Yd fun a hf=>?_;refine Xn ?_;obtain ⟨k2,cF,aS⟩:=aL.nxt b1 bR (s:=⟨(Za1 d gs).pos,M,N,(Za1 d gs).old,Q,U,(Za1 d gs).new⟩) O;refine Xd ?_;exact ⟨(l++([(⟨(Za1 d gs).pos,M,N,(Za1 d gs).old,Q,U,(Za1 d gs).new⟩ : Sr)]),(Za2 d gs).n,(Za2 d gs).gs,k2),⟨bS,bU,aE,aF,hf.sb,aS,o,p,E,G,b,H,aZ,C.rd,aT,aJ.top,C.cap,i,m,(DeepO.snoc (x:=⟨(Za1 d gs).pos,M,N,(Za1 d gs).old,Q,U,(Za1 d gs).new⟩) I t u aH bP bQ),L⟩,O1⟩
 refine Yz O tv0 (Uev (Xx (l:=[vi ((Za2 d gs).n),.slice aE ((Za2 d gs).gs).length aF]) O X0e (aC.at 0) O)) ?_;refine Y1 3<|Yk O tv0 (X2 (k:=1) (vs:=[.agg #[vi ((Za1 d gs).pos),.slice M ((Za1 d gs).old).length N,.slice Q ((Za1 d gs).new).length U]]) (zs:=[vi ((Za1 d gs).pos),.slice M ((Za1 d gs).old).length N,.slice Q ((Za1 d gs).new).length U]) O X44 X6w O O) (fun _ _ ⟨_,_,_,h,_⟩=>h) ?_;rintro _ f6 ⟨b49,rfl,cB,q,bI⟩
 have cP:dA≠b49:=by have:=aA.lt;omega
 have eE:=Q0 L.size cB;have bE:=J.away cB;have o:=o.bw q;have p:=p.bw q;have E:=E.bw q;have G:=G.bw q;have b:=b.bw q;have aA:=aA.bw q;have H:=H.bw q;have J:=J.bw q;have t:=t.bw q;have u:=u.bw q;have C:=C.bw q;have W:=W.bw q;have i:=i.bw q;have m:=m.bw q;have I:=I.bw q;have L:=btr L q;refine Y1 4<|Yt O tv0 O (X0i (enc:=encSr) (l:=(l)) (l2:=([(⟨(Za1 d gs).pos,M,N,(Za1 d gs).old,Q,U,(Za1 d gs).new⟩ : Sr)])) (B0:=w0.heap.size) O O X44 X6w X4d X5v J (Rd.of_blk bI O _ bI.lt) (by simp only [maxLen];simp;omega) O3 L.size) ?_;rintro _ f7 ⟨bW,bX,rfl,b0,hg,aR⟩
 have y:Own _ w0.heap.size 36 3 encSr _ _ (l):=J
 have cQ:=aR _ aA.lt aO;have cR:=aR _ bI.lt bE;clear aR;have aK:=DeepR.snoc (l:=l) (x:=(⟨(Za1 d gs).pos,M,N,(Za1 d gs).old,Q,U,(Za1 d gs).new⟩ : Sr)) W.top t.rd.top u.rd.top;have o:=o.app y hg;have p:=p.app y hg;have E:=E.appT y hg O;have G:=G.appT y hg O;have b:=b.appT y hg O;have H:=H.appT y hg O;have t:=t.appT y hg O;have u:=u.appT y hg O;have C:=C.appT y hg O;have aK:=aK.appT y hg O;have i:=i.appT y hg O;have m:=m.appT y hg O;have I:=I.appT y hg O;have L:=Below.app L y hg (Qb _) L.size;clear y hg;refine Yo 6 O (fun _=>Vd O X2p 2)<|Y1 7 ?_;refine Yh O tv0 O (Vu (vs:=[.slice bW (l++([(⟨(Za1 d gs).pos,M,N,(Za1 d gs).old,Q,U,(Za1 d gs).new⟩ : Sr)])).length bX]) (l':=[vi (((cIf ⟨c.n,c.gs⟩).getD cZ).n),.slice A9 (((cIf ⟨c.n,c.gs⟩).getD cZ).gs).length c9,.slice bW (l++([(⟨(Za1 d gs).pos,M,N,(Za1 d gs).old,Q,U,(Za1 d gs).new⟩ : Sr)])).length bX,vi d,.slice aM gs.length aN]) O O Xgv b) ?_;rintro _ f8 ⟨z,hb⟩;have o:=o.oy z (o.ne b);have p:=p.oy z (p.ne b);have E:=E.oz z b O;have G:=G.oy z Z;have H:=H.oT z b O;have t:=t.oT z b O;have u:=u.oT z b O;have C:=C.oT z b O;have b0:=b0.oT z b O;have aK:=aK.oT z b O;have i:=i.oT z b O;have m:=m.oT z b O
 have I:=I.oT z b O;have L:=Below.oy L z aD;have b:=hb;refine Yo 8 O (fun _=>Vd O X20 3)<|Y1 9 ?_;refine Yh O tv0 O (Vu (vs:=[vi ((Za2 d gs).n),.slice aE ((Za2 d gs).gs).length aF]) (l':=[vi (((cIf ⟨c.n,c.gs⟩).getD cZ).n),.slice A9 (((cIf ⟨c.n,c.gs⟩).getD cZ).gs).length c9,.slice bW (l++([(⟨(Za1 d gs).pos,M,N,(Za1 d gs).old,Q,U,(Za1 d gs).new⟩ : Sr)])).length bX,vi ((Za2 d gs).n),.slice aE ((Za2 d gs).gs).length aF]) O O X1b b) ?_;rintro _ fA ⟨z,hb⟩;have o:=o.oy z (o.ne b);have p:=p.oy z (p.ne b);have E:=E.oz z b O;have G:=G.oy z Z;have H:=H.oT z b O;have t:=t.oT z b O;have u:=u.oT z b O;have C:=C.oT z b O;have b0:=b0.oT z b O;have aK:=aK.oT z b O;have i:=i.oT z b O;have m:=m.oT z b O;have I:=I.oT z b O;have L:=Below.oy L z aD;have b:=hb;refine Yd fun a hf=>?_;refine Xn ?_;obtain ⟨k2,cF,aS⟩:=aL.nxt b1 bR (s:=⟨(Za1 d gs).pos,M,N,(Za1 d gs).old,Q,U,(Za1 d gs).new⟩) O;refine Xd ?_;exact ⟨(l++([(⟨(Za1 d gs).pos,M,N,(Za1 d gs).old,Q,U,(Za1 d gs).new⟩ : Sr)]),(Za2 d gs).n,(Za2 d gs).gs,k2),⟨bW,bX,aE,aF,hf.sb,aS,o,p,E,G,b,H,b0,C.rd,aT,aK.top,C.cap,i,m,(DeepO.snoc (x:=⟨(Za1 d gs).pos,M,N,(Za1 d gs).old,Q,U,(Za1 d gs).new⟩) I t u aH bP bQ),L⟩,O1⟩
theorem Y02(M:World)(c:Cx)(Ac:Option Addr)(cc:Nat)(d:Rd M M.heap.size 59 encG Ac c.gs)(aK:c.gs.length<=cc)(aR:c.gs.length<=1000000000)(N:PowT M) : Ret Tryz.prog 5 [.agg #[vi c.n,.slice Ac c.gs.length cc]] M (fun v w=>∃ (l:List Sr) (A:Option Addr) (e:Nat) (B:Option Addr) (f:Nat) (D:Option Addr) (g:Nat),v=.tuple #[.agg #[vi (pkC c).1.n,.slice A (pkC c).1.gs.length e,.slice B l.length f,vi (pkC c).2.2.n,.slice D (pkC c).2.2.gs.length g],.bool (pkB c)]/\l.map Sr.rp=(pkC c).2.1/\Own w M.heap.size 36 3 encSr B f l/\DeepO w M.heap.size (59:TypeId) (⟨0,A,e,(pkC c).1.gs,D,g,(pkC c).2.2.gs⟩::l)/\Below M.heap.size M w):=by
 refine enter Tryz.func5 O 14 O O ?_;intro a E
 have o:=bz M
 refine Zs E fun _ aS=>?_;refine Zf (X0m (zs:=[vi c.n,.slice Ac c.gs.length cc]) O O) ?_;rintro _ w1 ⟨b3,rfl,aT,k,p⟩;have aY:=Q0 o.size aT;have d:=d.bw k;have o:=btr o k;refine Zf (Xl (zs:=[vi 0,.slice none 0 0,.slice none 0 0,vi 0,.slice none 0 0]) Xbm O) ?_;rintro _ w2 ⟨b7,rfl,aU,k,i⟩;have Q:=Q0 o.size aU;have p:=p.bw k;have d:=d.bw k;have o:=btr o k;refine Za O<|ZX aS fun a E _ aV=>?_;refine Zs E fun _ aW=>?_;refine Ze (Vn X0e p)<|Zf (Vc (F55 _ c Ac cc d.top (Q0 aR O4)) X8u) ?_;rintro _ w3 ⟨rfl,k⟩;have p:=p.bw k;have i:=i.bw k;have d:=d.bw k;have o:=btr o k;refine Ze (X0x O)<|Zt aW fun a E=>?_
 refine X04 E O (fun G=>?_) (fun G=>?_)
 ·have hc:cOk c=false:=bn1 G
  obtain ⟨aL,aX⟩:=Xvi hc;refine Zs E fun _ aM=>?_;refine Ze (Xi (ps:=[]) (cs:=[vi 0,.slice none 0 0,.slice none 0 0,vi 0,.slice none 0 0]) O (fun _=>by first|rfl|kernel_rfl))<|Zo (Vw [vi 0,.slice none 0 0,.slice none 0 0,vi 0,.slice none 0 0] X45 i) ?_;rintro _ w4 ⟨ho,hb⟩;have o:=Below.oy o ho Q;have i:=hb;refine Za O<|Zt aM fun a E=>?_;refine Q6<|X5<|X4 E (X0q E O (ResV.cellN (l:=[vi 0,.slice none 0 0,.slice none 0 0,vi 0,.slice none 0 0]) O X5l (i.at 0) O) O) ?_
  rw [aL,aX]
  exact ⟨[],_,_,_,_,_,_,O,O,Own.nil _ _ _ _ _,DeepO.one (Own.nil _ _ _ _ _) (Own.nil _ _ _ _ _) (Apart.none_l _),o⟩
 have hc:cOk c=true:=bn2 G
 refine Q7<|aV _ _<|Q5 fun _ aN=>?_;refine X08 none (fun j=>[6].contains j) mixed ?_;intro w5 k;have p:=p.bw k;have i:=i.bw k;have d:=d.bw k;have o:=btr o k;refine Yb E<|Ye 0 O (Vn X0e p)<|Y1 1 ?_;refine Yk O tv0 (Vc (Xmj _ (N.of o)) Xds) (fun _ _ ⟨aE,U,aF,aG,H,aH,W,aI,aJ,I,_,aA,J,aB,aC,L,aD,k⟩=>k) ?_;rintro _ w6 ⟨aE,U,aF,aG,H,aH,W,aI,aJ,I,rfl,aA,J,aB,aC,L,aD,k⟩;have i:=i.bw k;have d:=d.bw k;have o:=btr o k;refine Yo 2 O (fun _=>Xh3 (vs:=[.agg #[.map none,.slice none 0 0,.map (some aE),.slice aF H.length aG,.map (some aH),.slice aI I.length aJ]]) O)<|Y1 3 ?_;refine Yk O tv0 (Vc (Xzj _ aE U aF H.length aG aA J.top aB aH W aI I.length aJ aC L.top aD c Ac cc d.top aK hc (N.of o)) Xs7) (fun _ _ ⟨q,t,u,x,y,z,h,_,C,m,b,k⟩=>k) ?_;rintro _ w7 ⟨q,t,u,x,y,z,h,rfl,C,m,b,k⟩;have aO:=(b.1 _ (Qk ..)).1.rd;have aP:=(b.1 _ (Qk ..)).2.1.rd;have aQ:=b.tail.rd;have b:=b.lower o.size;have m:=m.lower o.size;have i:=i.bw k;have o:=btr o k;refine Yo 4 O (fun _=>X3 (vs:=[.agg #[vi ((pkC c).1.n),.slice t ((pkC c).1.gs).length u,.slice x q.length y,vi ((pkC c).2.2.n),.slice z ((pkC c).2.2.gs).length h],.bool (pkB c)]) O O)<|Yo 5 O (fun _=>X3 (vs:=[.agg #[vi ((pkC c).1.n),.slice t ((pkC c).1.gs).length u,.slice x q.length y,vi ((pkC c).2.2.n),.slice z ((pkC c).2.2.gs).length h],.bool (pkB c)]) O O)<|Y1 6 ?_;refine Yh O tv0 O (Vw [vi ((pkC c).1.n),.slice t ((pkC c).1.gs).length u,.slice x q.length y,vi ((pkC c).2.2.n),.slice z ((pkC c).2.2.gs).length h] X45 i) ?_;rintro _ w8 ⟨ho,hb⟩
 have m:=m.oT ho i O;have b:=b.oT ho i O;have o:=Below.oy o ho Q;have i:=hb;refine Yo 7 O (fun _=>X0y O) ?_;refine Yd fun a E=>?_;refine aN _ _ ?_
 refine Q6 (X4 E (X0q E O (ResV.cellN (l:=[vi ((pkC c).1.n),.slice t ((pkC c).1.gs).length u,.slice x q.length y,vi ((pkC c).2.2.n),.slice z ((pkC c).2.2.gs).length h]) O X5l (i.at 0) O) O) ?_)
 exact ⟨_,_,_,_,_,_,_,O,C,m,b,o⟩
end Go.Proofs.YtfkokcbjcndjpaaGreatDoor
namespace Go.Proofs.YtfkokcbjcndjpaaGreatDoor
theorem Xyg(k:Nat) : om^(7*k)*om^k=1:=by
 rw [<- X1p,show 7*k+k=8*k by omega,X8g,Nat.mul_mod_right]
 rfl
theorem Eqv.symm{l m:List Gt}(h:Eqv l m) : Eqv m l:=by
 obtain ⟨k,h⟩:=h
 refine ⟨7*k,fun v β=>?_⟩
 rw [h v β,<- Xe,Xyg,Xk]
theorem Eqv.lift{us:List Int}{n:Int}{l m:List Gt}(hs0:∀ x ∈ us,0<=x)(hl:∀ g ∈ l,GoodG us n g)(hm:∀ g ∈ m,GoodG us n g)(h:Eqv (l.map (smallG us)) (m.map (smallG us))) : Eqv l m:=by
 obtain ⟨k,h⟩:=h
 refine ⟨k,fun v β=>?_⟩
 have e:=Xya hs0 β
 have h1:=X9r β l v hl (fun j=>β (us.getD j 0).toNat)
 have h2:=X9r β m v hm (fun j=>β (us.getD j 0).toNat)
 rw [e] at h1 h2
 rw [h1,h2]
 have h3:=h (fun γ=>v (inj us β γ)) (fun j=>β (us.getD j 0).toNat)
 rwa [X3p,X3p] at h3
theorem Xp4{l:List Int}(h:Inc l){i j:Nat}(hi:i<l.length)(hj:j<l.length)(e:l.getD i 0=l.getD j 0) : i=j:=by
 have a:=W0.1 h
 rw [Qa,Qa,Qc hi,Qc hj,Qq,Qq] at e
 rcases Nat.lt_trichotomy i j with c|c|c
 ·have:=a i j hi hj c;omega
 ·exact c
 ·have:=a j i hj hi c;omega
theorem Xea{us:List Int}(hi:Inc us){j:Nat}(hj:j<us.length) : lastN us (us.getD j 0) us.length=(j:Int):=by
 have hm:us.getD j 0 ∈ us:=by
  rw [Qa,Qc hj]
  exact List.getElem_mem hj
 obtain ⟨i,h1,h2,h3⟩:=X2k hm
 rw [h2,Xp4 hi h1 hj h3]
theorem Xm8{us:List Int}{n:Int}{g:Gt}(h:GoodG us n g) : Low us.length (smallG us g):=by
 refine ⟨fun hk=>?_,fun hk=>?_⟩
 ·have hk':¬ g.k=12:=hk
  show (if g.k=12 then (0:Int) else lastN us g.a us.length).toNat<us.length
  rw [Q3 hk']
  obtain ⟨i,h1,h2,_⟩:=X2k (h.use _ (Xpt hk'))
  omega
 ·have hk':9<=g.k/\g.k<=11:=hk
  have h9:inR g.k 9 11=true:=X0b.2 hk'
  show (if inR g.k 9 11=true then lastN us g.b us.length else (0:Int)).toNat<us.length
  rw [Q4 h9]
  obtain ⟨i,h1,h2,_⟩:=X2k (h.use _ (Xpu Z h9))
  omega
theorem Xgm{us:List Int}{n:Int}(hi:Inc us)(hs0:∀ x ∈ us,0<=x){l:List Gt}(hl:∀ g ∈ l,GoodG us n g)(v:St)(γ:Nat->Bool) :
  run (l.map (smallG us)) v γ=run l (fun β=>v fun j=>if j<us.length then β (us.getD j 0).toNat else γ j) (inj us (fun _=>false) γ):=by
 rw [X9r (fun _=>false) l _ hl γ]
 refine Xi2 (N:=us.length) (β:=γ) _ (fun g hg=>?_) (fun γ' hγ=>?_) γ (fun _ _=>rfl)
 ·obtain ⟨x,hx,rfl⟩:=W6.1 hg;exact Xm8 (hl x hx)
 ·show v γ'=v _
  congr 1
  funext j
  by_cases hj:j<us.length
  ·rw [Q4 hj]
   have hm:us.getD j 0 ∈ us:=by
    rw [Qa,Qc hj]
    exact List.getElem_mem hj
   have h0:=hs0 _ hm
   rw [Xhq (by rw [Int.toNat_of_nonneg h0];exact hm),Int.toNat_of_nonneg h0,Xea hi hj,Qj]
  ·rw [Q3 hj]
   exact (hγ j Z).symm
theorem Eqv.down{us:List Int}{n:Int}{l m:List Gt}(hi:Inc us)(hs0:∀ x ∈ us,0<=x)(hl:∀ g ∈ l,GoodG us n g)(hm:∀ g ∈ m,GoodG us n g)(h:Eqv l m) :
  ∃ k,k<8/\∀ v β,s2^hs (m.map (smallG us))*run (l.map (smallG us)) v β=om^k*(s2^hs (l.map (smallG us))*run (m.map (smallG us)) v β):=by
 obtain ⟨k,h⟩:=h
 refine ⟨k % 8,Nat.mod_lt _ O4,fun v β=>?_⟩
 rw [Xgm hi hs0 hl,Xgm hi hs0 hm,X3p,X3p,<- X8g]
 exact h _ _
theorem Xnt{n:Int}{r:Rp}(hv:vrI n r=true)(h1:hs r.old<=23)(h2:hs r.new<=23)(h:Eqv r.old r.new) : justS r=(true,true):=by
 obtain ⟨hn,hl,ho,hw⟩:=X4z hv
 have hall:∀ g ∈ r.old++r.new,gOk n g=true:=fun g hg=>by
  rcases Qu.1 hg with hg|hg
  ·exact ho g hg
  ·exact hw g hg
 have hq:=X4y hall
 have hgo:∀ g ∈ r.old++r.new,GoodG (usedS (r.old++r.new)) n g:=fun g hg=>⟨hall g hg,fun x hx=>(X4l _ x).2 ⟨g,hg,hx⟩⟩
 exact Xth hv h1 h2 O (h.down (X8n _) (fun x hx=>(hq x hx).1) (fun g hg=>hgo g (List.mem_append_left _ hg)) fun g hg=>hgo g (List.mem_append_right _ hg))
theorem Xap(qs:List Int) : ∀ (l:List Gt) (i:Int) (m:Nat) (x:Int),x ∈ rnL qs l i m->∀ j:Nat,i+(j:Int)<x->i+(j:Int) ∉ rnL qs l i m->∀ g,l[j]? = some g->tchB g qs=false
 | [],_,_,_,h=>by cases h
 | _::_,_,0,_,h=>by cases h
 | g0::l,i,m+1,x,h=>fun j hj hn g hg=>by
  unfold rnL at h hn
  by_cases hi:insB g0 qs=true
  ·rw [Q4 hi] at h hn
   rw [Qv] at h
   rw [Qv,not_or] at hn
   rcases h with h|h
   ·omega
   ·cases j with
    | zero=>exact absurd (show i+((0:Nat) : Int)=i by omega) hn.1
    | succ j=>
     have e:i+((j+1:Nat) : Int)=(i+1)+(j:Int):=by omega
     rw [e] at hj hn
     exact Xap qs l (i+1) m x h j hj hn.2 g hg
  ·rw [Q3 hi] at h hn
   by_cases ht:tchB g0 qs=true
   ·rw [Q4 ht] at h;cases h
   ·rw [Q3 ht] at h hn
    cases j with
    | zero=>
     have e:g0=g:=by simpa using hg
     rw [<- e];simpa using ht
    | succ j=>
     have e:i+((j+1:Nat) : Int)=(i+1)+(j:Int):=by omega
     rw [e] at hj hn
     exact Xap qs l (i+1) (m+1) x h j hj hn g hg
theorem Xkr{n:Int}{g:Gt}(h:gOk n g=true){q:Nat}(hs:Sup g q) : ∃ x ∈ qubI g,0<=x/\q=x.toNat:=by
 obtain ⟨_,_,h3,h4⟩:=X1i h
 rcases hs with ⟨h1,h2⟩|⟨h1,h2⟩
 ·exact ⟨g.a,Xpt h1,(h3 h1).1,h2⟩
 ·exact ⟨g.b,Xpu Z (X0b.2 h1),(h4 h1).1,h2⟩
theorem Xw9{n:Int}{qs:List Int}{u h:Gt}(hu:gOk n u=true)(hh:gOk n h=true)(h1:insB u qs=true)(h2:tchB h qs=false) : Dis u h:=fun q a b=>by
 obtain ⟨x,hx,x0,ex⟩:=Xkr hu a;obtain ⟨y,hy,y0,ey⟩:=Xkr hh b
 have e:x=y:=by omega
 have g1:=X3j.2 ((Xfy hu h1).use x hx)
 have g2:=W7.1 h2 y hy
 rw [e] at g1
 exact g2 g1
theorem Xc8:∀ {r:List Int},r.Pairwise (· < ·)->∀ {y:Int},y ∈ r->(r.filter fun x=>decide (x<y+1))=(r.filter fun x=>decide (x<y))++[y]
 | [],_,y,h=>by cases h
 | a::r,hp,y,h=>by
  obtain ⟨h1,h2⟩:=W8.1 hp
  rcases Qv.1 h with h|h
  ·subst h
   have e1:(r.filter fun x=>decide (x<y+1))=[]:=List.filter_eq_nil_iff.2 fun x hx=>by have:=h1 x hx;simp;omega
   have e2:(r.filter fun x=>decide (x<y))=[]:=List.filter_eq_nil_iff.2 fun x hx=>by have:=h1 x hx;simp;omega
   rw [List.filter_cons_of_pos O3,List.filter_cons_of_neg O5,e1,e2]
   rfl
  ·have:=h1 y h
   rw [List.filter_cons_of_pos O3,List.filter_cons_of_pos O3,Xc8 h2 h]
   rfl
theorem Xlo{r:List Int}{y:Int}(h:y ∉ r) : (r.filter fun x=>decide (x<y+1))=(r.filter fun x=>decide (x<y)):=by
 refine List.filter_congr fun x hx=>?_
 have:x≠y:=fun e=>h (e▸hx)
 rw [decide_eq_decide]
 omega
theorem X2s(l m:List Gt) : tcN (l++m)=tcN l+tcN m:=List.countP_append
theorem Xta(c:Cx)(r s:List Int) : gatL c (r++s)=gatL c r++gatL c s:=List.map_append
theorem Xt9{c:Cx}(hc:cOk c=true){p:Nat}{qs:List Int}{k:Nat}(hk:(p:Int)+(k:Int)<=lastI (runL c p qs))(h:runB c p qs=true){u:Gt}(hu:gOk c.n u=true)(hi:insB u qs=true) : ∀ g ∈ gapL c (runL c p qs) p k,TwoQ g/\Dis u g:=fun g hg=>by
 obtain ⟨j,hj,rfl⟩:=W6.1 hg
 rw [List.mem_filter,W2] at hj
 obtain ⟨hjk,hn⟩:=hj;obtain ⟨t,e1,ht,_,e2⟩:=X34 h
 have hl:lastI (runL c p qs) ∈ runL c p qs:=Qe e2
 have hjl:p+j<c.gs.length:=by omega
 have hg1:c.gs[p+j]? = some (c.gs.getD (p+j) gZ):=X62 hjl
 have hok:gOk c.n (c.gs.getD (p+j) gZ)=true:=(X10 hc).2.2 _ (Qe hg1)
 rw [show ((p:Int)+(j:Int)).toNat=p+j by omega]
 refine ⟨(Xes hok).1,Xw9 hu hok hi ?_⟩
 refine Xap qs (c.gs.drop p) p 6 _ hl j Z (fun hm=>?_) _ (by rw [List.getElem?_drop];exact hg1)
 have:=X3j.2 (show (p:Int)+(j:Int) ∈ runL c p qs from hm)
 rw [this] at hn
 simp at hn
theorem Xd9{c:Cx}(hc:cOk c=true){p:Nat}{qs:List Int}(h:runB c p qs=true) : ∀ k,k<=winN (runL c p qs) p->
  (∀ v,run ((c.gs.drop p).take k) v=run (gatL c ((runL c p qs).filter fun x=>decide (x<(p:Int)+(k:Int)))++gapL c (runL c p qs) p k) v)/\
  hs ((c.gs.drop p).take k)=hs (gatL c ((runL c p qs).filter fun x=>decide (x<(p:Int)+(k:Int)))++gapL c (runL c p qs) p k)/\
  tcN ((c.gs.drop p).take k)=tcN (gatL c ((runL c p qs).filter fun x=>decide (x<(p:Int)+(k:Int)))++gapL c (runL c p qs) p k)
 | 0,_=>by
  have e:((runL c p qs).filter fun x=>decide (x<(p:Int)+((0:Nat) : Int)))=[]:=List.filter_eq_nil_iff.2 fun x hx=>by
   obtain ⟨j,_,_,h3,_⟩:=X43 h x hx
   simp;omega
  rw [e,Xaq,List.take_zero]
  exact ⟨fun _=>rfl,O,O⟩
 | k+1,hk=>by
  obtain ⟨i1,i2,i3⟩:=Xd9 hc h k Z
  obtain ⟨t,e1,ht,hpt,_⟩:=X34 h;have hw:=X4m e1 hpt
  have hkl:p+k<c.gs.length:=by omega
  have hu:c.gs[p+k]? = some (c.gs.getD (p+k) gZ):=X62 hkl
  have hok:gOk c.n (c.gs.getD (p+k) gZ)=true:=(X10 hc).2.2 _ (Qe hu)
  have hT:(c.gs.drop p).take (k+1)=(c.gs.drop p).take k++[c.gs.getD (p+k) gZ]:=by
   rw [Qt,List.getElem?_drop,hu];rfl
  rw [hT,show (p:Int)+((k+1:Nat) : Int)=((p:Int)+(k:Int))+1 by omega]
  by_cases hr:(p:Int)+(k:Int) ∈ runL c p qs
  ·have hb:=X3j.2 hr
   rw [Xc8 (show (runL c p qs).Pairwise (· < ·) from Xb4 qs _ _ _) hr,Xjm hb,Xta]
   have hg:gatL c [(p:Int)+(k:Int)]=[c.gs.getD (p+k) gZ]:=by
    unfold gatL
    rw [List.map_singleton,show ((p:Int)+(k:Int)).toNat=p+k by omega]
   have hi:insB (c.gs.getD (p+k) gZ) qs=true:=by
    obtain ⟨j,ej,_,_,g,hg1,hg2⟩:=X43 h _ hr
    have:j=p+k:=by omega
    subst this
    rw [hu] at hg1
    injection hg1 with hg1
    rw [hg1];exact hg2
   have hd:=Xt9 hc (k:=k) Z h hok hi
   rw [hg]
   generalize c.gs.getD (p+k) gZ=u at *
   generalize gatL c ((runL c p qs).filter fun x=>decide (x<(p:Int)+(k:Int)))=A at *
   generalize gapL c (runL c p qs) p k=B at *
   refine ⟨fun v=>?_,?_,?_⟩
   ·rw [X32,i1 v,X32,X32,X32]
    show act u (run B (run A v))=run B (act u (run A v))
    exact Xgk (Xes hok).1 B hd _
   ·rw [X3o,i2,X3o,X3o,X3o];omega
   ·rw [X2s,i3,X2s,X2s,X2s];omega
  ·have hb:hasB (runL c p qs) ((p:Int)+(k:Int))=false:=by
    cases e:hasB (runL c p qs) ((p:Int)+(k:Int)) with
    | false=>rfl
    | true=>exact absurd (X3j.1 e) hr
   rw [Xlo hr,Xot hb (by rw [show ((p:Int)+(k:Int)).toNat=p+k by omega];exact hu),<- Qx]
   generalize c.gs.getD (p+k) gZ=u at *
   generalize gatL c ((runL c p qs).filter fun x=>decide (x<(p:Int)+(k:Int)))++gapL c (runL c p qs) p k=A at *
   generalize (c.gs.drop p).take k=T at *
   exact ⟨fun v=>by rw [X32,i1 v,X32],by rw [X3o,i2,X3o],by rw [X2s,i3,X2s]⟩
theorem Xue{c:Cx}(hc:cOk c=true){p:Nat}{qs:List Int}(h:runB c p qs=true) :
  Eqv ((c.gs.drop p).take (winN (runL c p qs) p)) (gatL c (runL c p qs)++gapL c (runL c p qs) p (winN (runL c p qs) p))/\
  tcN ((c.gs.drop p).take (winN (runL c p qs) p))=tcN (gatL c (runL c p qs))+tcN (gapL c (runL c p qs) p (winN (runL c p qs) p)):=by
 obtain ⟨t,e1,ht,hpt,_⟩:=X34 h;have hw:=X4m e1 hpt;obtain ⟨i1,i2,i3⟩:=Xd9 hc h _ (Qb _)
 have e:((runL c p qs).filter fun x=>decide (x<(p:Int)+((winN (runL c p qs) p:Nat) : Int)))=runL c p qs:=List.filter_eq_self.2 fun x hx=>by
  have:=Xfz (Xb4 qs _ _ _) x (show x ∈ rnL qs (c.gs.drop ((p:Int)).toNat) p 6 from hx)
  have h3:lastI (rnL qs (c.gs.drop ((p:Int)).toNat) p 6)=(t:Int):=e1
  simp;omega
 rw [e] at i1 i2 i3
 refine ⟨⟨0,fun v β=>?_⟩,by rw [i3,X2s]⟩
 rw [i1 v,i2,X4i,Xk]
theorem Y1a{n:Nat}(hn:n=1∨n=2) : ∀ g ∈ gsT n,¬ g.k=12/\(0<=g.a/\g.a<(n:Int))/\(if inR g.k 9 11=true then 0<=g.b/\g.b<(n:Int) else g.b=0):=by
 rcases hn with rfl|rfl<;>decide
theorem Xty{qs:List Int}(hn:qs.length=1∨qs.length=2)(hi:Inc qs){g:Gt}(hg:g ∈ gsT qs.length) : smallG qs (mapG qs g)=g:=by
 obtain ⟨h1,h2,h3⟩:=Y1a hn g hg
 have ea:lastN qs (qs.getD g.a.toNat 0) qs.length=g.a:=by rw [Xea hi Z];omega
 unfold smallG mapG
 dsimp only
 rw [Q3 h1,Q3 h1,ea]
 by_cases h9:inR g.k 9 11=true
 ·rw [Q4 h9] at h3
  have eb:lastN qs (qs.getD g.b.toNat 0) qs.length=g.b:=by rw [Xea hi Z];omega
  rw [Q4 h9,Q4 h9,eb]
 ·rw [Q3 h9] at h3
  rw [Q3 h9,<- h3]
theorem Xt8{n:Int}{qs:List Int}{g:Gt}(h:ftB n qs g=true) : GoodG qs n g:=by
 unfold ftB at h
 rw [Qd] at h
 refine ⟨h.1,fun x hx=>?_⟩
 have h2:=h.2
 rw [Xaz] at h2
 have h3:=W7.1 (bn1 h2) x hx;exact X3j.1 (by simpa using h3)
theorem Xqt{c:Cx}(hc:cOk c=true){p:Nat}{qs:List Int}{w:List Gt}(h:runB c p qs=true)(hw:srW qs.length ((opI (xC c (runL c p qs) qs)).getD mZ)=some w)(hf:∀ g ∈ mapI w qs,GoodG qs c.n g) : Eqv (gatL c (runL c p qs)) (mapI w qs):=by
 obtain ⟨hn,hi,hq⟩:=X7n hc h;obtain ⟨_,_,M,e1,_⟩:=Xkz hc h
 rw [e1] at hw
 obtain ⟨j,hj,hm,hp⟩:=X9l (show lsW (gsT qs.length) (fun w=>phaseS (valW qs.length w) M) (KN qs.length)=some w from hw)
 have e2:=X2m hn (Q0 hj (X8q _)) hm
 have hp':phaseS (valW qs.length w) M=true:=hp
 obtain ⟨k,_,hk⟩:=(X3u (N:=qs.length) O O e2 e1).1 hp'
 have hwq:(mapI w qs).map (smallG qs)=w:=by
  unfold mapI
  rw [List.map_map]
  conv=>rhs;rw [<- List.map_id w]
  exact List.map_congr_left fun g hg=>Xty hn hi (X9z _ _ _ hm g hg)
 have hE:Eqv ((mapI w qs).map (smallG qs)) ((gatL c (runL c p qs)).map (smallG qs)):=by
  rw [hwq]
  exact ⟨k,hk⟩
 exact (hE.lift (fun x hx=>(hq x hx).1) hf fun g hg=>(X58 hc h g hg).1).symm
theorem Xgr{c:Cx}{p:Int}{qs:List Int}{r:Rp}(h:shrI c p qs=some r)(h23:c.gs.length<=23) : justS r=(true,true)/\vrI c.n r=true/\tcN r.new<=tcN r.old:=by
 have hsh:=X72 h
 unfold shrI at h
 cases e:runP c p qs with
 | none=>rw [e] at h;cases h
 | some rr=>
  obtain ⟨hc,hb,e2⟩:=X7r (by rw [e];rfl)
  rw [e,Qz] at h
  rw [e] at e2
  injection e2 with e2
  subst e2
  obtain ⟨_,_,k,rfl,hkl,_⟩:=X27 hb
  unfold plX at h
  cases e3:srW qs.length ((opI (xC c (runL c k qs) qs)).getD mZ) with
  | none=>rw [e3] at h;cases h
  | some w=>
   rw [e3,Qz] at h
   split at h
   ·rename_i hw
    unfold repX at h
    split at h
    ·rename_i hf
     split at h
     ·rename_i h40
      injection h with h
      subst h
      obtain ⟨hn,hl,hg⟩:=X10 hc
      have hfg:∀ g ∈ mapI w qs,GoodG qs c.n g:=fun g hx=>Xt8 (W1.1 hf g hx)
      obtain ⟨w1,w2⟩:=Xue hc hb
      have w3:=(Xqt hc hb e3 hfg).ctx [] (gapL c (runL c k qs) k (winN (runL c k qs) k))
      have eo:(newR c k (runL c k qs) (mapI w qs)).old=(c.gs.drop k).take (winN (runL c k qs) k):=rfl
      have en:(newR c k (runL c k qs) (mapI w qs)).new=mapI w qs++gapL c (runL c k qs) k (winN (runL c k qs) k):=rfl
      have hE:Eqv (newR c k (runL c k qs) (mapI w qs)).old (newR c k (runL c k qs) (mapI w qs)).new:=by
       rw [eo,en]
       exact w1.trans w3
      have ho:∀ g ∈ (newR c k (runL c k qs) (mapI w qs)).old,gOk c.n g=true:=fun g hx=>hg g (List.mem_of_mem_drop (Wd hx))
      have hnw:∀ g ∈ (newR c k (runL c k qs) (mapI w qs)).new,gOk c.n g=true:=fun g hx=>by
       rw [en] at hx
       rcases Qu.1 hx with hx|hx
       ·exact (hfg g hx).ok
       ·obtain ⟨j,hj,rfl⟩:=W6.1 hx
        rw [List.mem_filter,W2] at hj
        obtain ⟨t,e1,ht,hpt,_⟩:=X34 hb;have hwn:=X4m e1 hpt
        rw [show ((k:Int)+(j:Int)).toNat=k+j by omega]
        exact hg _ (Qe (X62 (show k+j<c.gs.length by omega)))
      have hv:vrI c.n (newR c k (runL c k qs) (mapI w qs))=true:=by
       simp only [vrI,Qd,X0b,Qr,Bool.not_eq_true',W7]
       refine ⟨⟨⟨⟨⟨hn,?_⟩,by omega⟩,by omega⟩,fun g hx=>by simp [ho g hx]⟩,fun g hx=>by simp [hnw g hx]⟩
       show 0<=(k:Int)/\(k:Int)<=400
       omega
      have lo:(newR c k (runL c k qs) (mapI w qs)).old.length<=c.gs.length:=by
       rw [eo,Qn,List.length_drop];omega
      have hlo:=Xfu (newR c k (runL c k qs) (mapI w qs)).old;have hln:=Xfu (newR c k (runL c k qs) (mapI w qs)).new
      refine ⟨Xnt hv Z Z hE,hv,?_⟩
      rw [eo,en,w2,X2s]
      have e4:tcN (mapI w qs)=tcN w:=by
       unfold mapI tcN
       rw [List.countP_map]
       rfl
      have:=hw.2
      omega
     ·cases h
    ·cases h
   ·cases h
theorem Xu1{c:Cx}{r:Rp}(h:stX c=some r)(h23:c.gs.length<=23) : justS r=(true,true)/\vrI c.n r=true/\tcN r.new<=tcN r.old:=by
 obtain ⟨p,_,h⟩:=List.exists_of_findSome?_eq_some h;obtain ⟨qs,_,h⟩:=List.exists_of_findSome?_eq_some h;exact Xgr h h23
theorem Xgc:∀ (k i:Nat) (c:Cx) (x:List Rp×Cx),cOk c=true->c.gs.length<=k->c.gs.length<=23->pkR k c=some x->
  checkLS i c x.2 x.1=0/\stX x.2=none/\cOk x.2=true/\x.2.gs.length<=c.gs.length/\tcN x.2.gs<=tcN c.gs/\x.1.length<=c.gs.length
 | 0,i,c,x,hc,hk,_,h=>by
  have e:x=([],c):=by unfold pkR at h;injection h with h;exact h.symm
  subst e
  have hn:stX c=none:=by
   cases e:stX c with
   | none=>rfl
   | some r=>have:=X7t e;omega
  refine ⟨?_,hn,hc,Qb _,Qb _,Qf _⟩
  show checkLS i c c []=0
  unfold checkLS
  rw [Q4 (Xag _)]
 | k+1,i,c,x,hc,hk,h23,h=>by
  cases e:stX c with
  | none=>
   rw [Xb0 e] at h
   injection h with h
   subst h
   refine ⟨?_,e,hc,Qb _,Qb _,Qf _⟩
   show checkLS i c c []=0
   unfold checkLS
   rw [Q4 (Xag _)]
  | some r=>
   cases ea:applyS c r with
   | none=>rw [Xeg e ea] at h;cases h
   | some d=>
    rw [Xb1 e ea] at h
    cases ek:pkR k d with
    | none=>rw [ek] at h;cases h
    | some y=>
     rw [ek,Option.map_some] at h
     injection h with h
     subst h
     have hd:=(X55 hc).2 d ea;have hs:=X81 e ea;obtain ⟨j1,j2,j3⟩:=Xu1 e h23
     obtain ⟨i1,i2,i3,i4,i5,i6⟩:=Xgc k (i+1) d y hd.1 Z Z ek
     obtain ⟨p,q,a1,a2⟩:=X8s ea
     refine ⟨?_,i2,i3,by dsimp only;omega,?_,by rw [Qs];omega⟩
     ·unfold checkLS
      rw [ea,j1,Q4 (by rfl)]
      exact i1
     ·refine Q0 i5 ?_
      rw [a1,a2,X2s,X2s,X2s,X2s]
      omega
theorem Xyk{c:Cx}(hb:pkB c=true)(h23:c.gs.length<=23) :
  checkS (pkC c).1 (pkC c).2.2 (pkC c).2.1=(0,true)/\stI (pkC c).2.2=none/\(pkC c).1=c/\(pkC c).2.2.gs.length<=c.gs.length/\tcN (pkC c).2.2.gs<=tcN c.gs/\cOk c=true/\cOk (pkC c).2.2=true:=by
 unfold pkB at hb
 rw [Qd] at hb
 obtain ⟨hc,hs⟩:=hb;obtain ⟨x,hx⟩:=Option.isSome_iff_exists.1 hs;obtain ⟨i1,i2,i3,i4,i5,i6⟩:=Xgc c.gs.length 0 c x hc (Qb _) h23 hx
 have e:pkC c=(c,x.1,x.2):=by unfold pkC;rw [Q4 hc,hx]
 rw [e]
 refine ⟨?_,(Xkp i3).trans i2,O,i4,i5,hc,i3⟩
 unfold checkS
 rw [Q4 (by rw [hc];simp only [Qw,Qr];omega)]
 exact congrArg (·,true) i1
end Go.Proofs.YtfkokcbjcndjpaaGreatDoor
namespace Go.Proofs.YtfkokcbjcndjpaaGreatDoor
open Go.RowKit
theorem Xv0(L:World)(c:Cx)(Q:Option Addr)(U:Nat)(q:Rd L L.heap.size 59 encG Q c.gs)(I:c.gs.length<=U)(p:Nat)(aU:cOk c=true)(bL:p<c.gs.length) : Ret Tryz.prog 54 [.agg #[vi c.n,.slice Q c.gs.length U],vi (p:Int)] L (fun v w=>∃ A9 e9 ls,v=.slice A9 (List.length (α:=Sl) ls) e9/\Rd w w.heap.size 32 encS A9 ls/\(∀ s9 ∈ ls,Own w L.heap.size 3 1 encI s9.A s9.c s9.l)/\ls.map Sl.l=lsX c p/\Below L.heap.size L w):=by
 obtain ⟨cI,cJ,bM⟩:=X10 aU;obtain ⟨j,M⟩:=Xj (l:=c.gs) (k:=p) bL;have cE:=bM j (Qe M);have cK:=X2e j
 have cF:(c.gs.drop (p+1)).length<=400:=by rw [List.length_drop];omega
 refine enter Tryz.func54 O 68 O O ?_;intro a m
 have o:=bz L
 refine Zs m fun _ bN=>?_;refine Zf (X0m (zs:=[vi c.n,.slice Q c.gs.length U]) O O) ?_;rintro _ w1 ⟨b3,rfl,bO,g,E⟩;have cG:=Q0 o.size bO;have q:=q.bw g;have o:=btr o g;refine Za O<|Zx bN fun a m _ bP=>?_;refine Ze (Vd O X05 1)<|Ze (X0 O X0l (E.at 1))<|Zm O<|Zi (k:=p) (u:=j) (enc:=encG) (l:=c.gs) tv0 O O Xa X0g X9 q M O ?_;intro p7 aV;refine Ze (Xx (l:=[vi j.k,vi j.a,vi j.b]) O X01 aV O)<|Zf (Vc (Xvo _ j) Xhe) ?_;rintro _ w2 ⟨A8,c8,rfl,e,g⟩;have e:=e.lower o.size;have E:=E.bw g;have q:=q.bw g;have o:=btr o g;refine Za O<|ZX bP fun a m _ bQ=>?_;refine Zs m fun _ aW=>?_;refine Zm O<|Ze (X0o O Xy)<|Zt aW fun a m=>?_;refine Q8<|Zs m fun _ aX=>?_;refine Ze (X13 O O)<|Za O<|Zt aX fun a m=>?_
 refine X04 m O (fun z=>?_) (fun z=>?_)
 ·have t:j.k=12:=by
   have G:=z
   unfold qubI at G
   by_cases h8:j.k=12
   ·exact h8
   ·rw [Q3 h8] at G;split at G<;>simp at G
  have C:=Xyf M t;refine Zs m fun _ aY=>?_;refine Za O<|Zt aY fun a m=>?_;refine Q6<|Xo<|X5<|X4 m (Xv m O O) ?_;exact ⟨none,0,[],O,Rd.nil _ _ _ _ _,(fun _ h=>by cases h),by rw [C];rfl,o⟩
 have t:¬ j.k=12:=by
  intro h8;have G:=z
  unfold qubI at G
  rw [Q4 h8] at G;simp at G
 refine Zs m fun _ aZ=>?_;refine Ze (X13 O O)<|Za O<|Zt aZ fun a m=>?_
 refine X04 m O (fun B=>?_) (fun B=>?_)
 ·have aJ:inR j.k 9 11=true:=by
   have G:=B
   unfold qubI at G
   rw [Q3 t] at G
   by_cases h8:inR j.k 9 11=true
   ·exact h8
   ·rw [Q3 h8] at G;simp at G
  have C:=Xht M t aJ;refine Q5 fun _ b0=>?_;refine X08 none (fun _=>false) mixed ?_;intro w3 g;have e:=e.bw g;have o:=btr o g;refine Yb m<|Yo 0 O (fun _=>X7 O)<|Yi (k:=0) (u:=j.a) (enc:=encI) (l:=(qubI j)) 1 O tv0 O O Xy X1o Xt e.rd (by rw [X4j t aJ];rfl) O ?_;intro cL aK;refine Ye 2 O (X0 O X8 aK)<|Yo 4 O (fun _=>X7 O)<|Yi (k:=1) (u:=j.b) (enc:=encI) (l:=(qubI j)) 5 O tv0 O O Xy X1o Xt e.rd (by rw [X4j t aJ];rfl) O ?_;intro cM aL;refine Ye 6 O (X0 O X8 aL)<|Y1 3 ?_;refine Yk O tv0 (X2 (k:=1) (vs:=[vi j.a]) (zs:=[vi j.a]) O Xy X1a O O) (fun _ _ ⟨_,_,_,h,_⟩=>h) ?_;rintro _ w4 ⟨bR,rfl,b1,g,W⟩;have aM:=Q0 o.size b1;have o:=btr o g;refine Y1 7<|Yk O tv0 (Vc (Xmg _ (some ⟨bR,0,none⟩) 1 ([j.a]) (Rd.of_blk W O _ W.lt) j.b L.heap.size (Own.of_blkL Xt W aM O O (Nat.le_of_ble_eq_true O)) o.size O5) Xaj) (fun _ _ ⟨aE,aF,_,J,g⟩=>g) ?_;rintro _ w5 ⟨aE,aF,rfl,J,g⟩;have o:=btr o g;refine Y1 8<|Yk O tv0 (X2 (k:=1) (vs:=[.slice aE (putI ([j.a]) j.b).length aF]) (zs:=[.slice aE (putI ([j.a]) j.b).length aF]) O X1u X3q O O) (fun _ _ ⟨_,_,_,h,_⟩=>h) ?_;rintro _ w6 ⟨bS,rfl,b2,g,aG⟩;have bU:=Q0 o.size b2;have J:=J.bw g;have o:=btr o g;refine Yo 9 O (fun _=>X0y O) ?_;refine Yd fun a m=>?_;refine b0 _ _<|Q6<|Xo<|X5 ?_;refine X4 m (Xv m O O) ?_;exact ⟨(some ⟨bS,0,none⟩),1,[(⟨aE,aF,(putI ([j.a]) j.b)⟩ : Sl)],O,(Rd.of_blk aG O _ aG.lt),(Xf7 J),by rw [C];rfl,o⟩
 have N:inR j.k 9 11=false:=by
  have G:=B
  unfold qubI at G
  rw [Q3 t] at G
  cases h8:inR j.k 9 11
  ·rfl
  ·rw [Q4 h8] at G;simp at G
 refine Q7<|Xn<|bQ _ _<|Q5 fun _ b4=>?_;refine Zs m fun _ b5=>?_;refine Ze (Vd O X05 1)<|Ze (X0 O X0l (E.at 1))<|Zm O<|Ze (X03 O O Z Z) ?_;have D:=(q.top).dropK X9 (c:=U) I (p+1);refine Ze (X54 (l:=c.gs) (k:=(p+1)) O O Xa X0g O Z)<|Ze (X0o O Xa)<|Zm O<|Zt b5 fun a m=>?_;refine Q8<|X0d (σ:=Nat) (fun (k:Nat) (a:Act) (w:World)=>Fr a 68 [(5,.slice A8 (qubI j).length c8),(33,.slice (if U=(p+1) then Q else Q.map (·.add ((p+1)*3))) (c.gs.drop (p+1)).length (U-(p+1))),(34,vi ((c.gs.drop (p+1)).length:Int)),(35,vi (k:Int))]/\(k<=(c.gs.drop (p+1)).length)/\(NoW c p k j.a)/\Blk w b3 25 [vi c.n,.slice Q c.gs.length U]/\Rd w L.heap.size 59 encG Q c.gs/\Own w L.heap.size 3 1 encI A8 c8 (qubI j)/\Rd w w2.heap.size 59 encG (if U=(p+1) then Q else Q.map (·.add ((p+1)*3))) (c.gs.drop (p+1))/\c.gs.length<=U/\Below L.heap.size L w) (fun (k:Nat)=>(c.gs.drop (p+1)).length-k) 0 ?_ ?_
 ·exact ⟨m.sb,(Qf _),O,E,q,e,D,I,o⟩
 rintro k a w7 ⟨m,hk,aN,E,q,e,D,I,o⟩;refine Zs m fun _ b6=>?_;refine Ze (X16 O O)<|ZX b6 fun a m _ b7=>?_
 refine X12 m O (fun y b8=>?_) (fun y b8=>?_)
 ·obtain ⟨i,aA⟩:=Xj (l:=(c.gs.drop (p+1))) (k:=k) Z
  refine Q7<|b7 _ _<|Q5 fun _ b9=>?_;refine Q8<|Zs m fun _ bC=>?_;refine Zi (k:=k) (u:=i) (enc:=encG) (l:=(c.gs.drop (p+1))) tv0 O O Xa X0g X9 D aA O ?_;intro cN aO;refine Ze (Xx (l:=[vi i.k,vi i.a,vi i.b]) O X01 aO O) ?_;refine ZB [vi i.k,vi i.a,vi i.b] X26 X0g fun bW w9 bD g x=>?_;have bX:=Q0 o.size bD;have E:=E.bw g;have q:=q.bw g;have e:=e.bw g;have D:=D.bw g;have o:=btr o g;refine ZX bC fun a m _ bE=>?_;refine X0f (fun a w=>Fr a 68 [(5,.slice A8 (qubI j).length c8),(7,(pZ9 bW)),(33,.slice (if U=(p+1) then Q else Q.map (·.add ((p+1)*3))) (c.gs.drop (p+1)).length (U-(p+1))),(34,vi ((c.gs.drop (p+1)).length:Int)),(35,vi (k:Int)),(56,.bool ((inR i.k 9 11)&&((i.a==j.a)||(i.b==j.a))))]/\Below w9.heap.size w9 w) ?_ ?_
  ·have H:Below w9.heap.size w9 w9:=Below.refl _ _
   refine X08 none (fun _=>false) mixed ?_;intro cO g;have x:=x.bw g;have e:=e.bw g;have o:=btr o g;have H:=btr H g;refine Yb m<|Ye 0 O (Vn X01 x)<|Y1 1 ?_;refine Yk O tv0 (Vc (Xmf _ i) Xai) (fun _ _ ⟨_,g⟩=>g) ?_;rintro _ cP ⟨rfl,g⟩;have x:=x.bw g;have e:=e.bw g;have o:=btr o g;have H:=btr H g;refine Yo 2 O (fun _=>X7 O) ?_
   refine Yl 41 O (fun d=>?_) (fun d=>?_)
   ·refine Yu 3 O (gW d) (fun _=>Vd O X0p 1) ?_;refine Yv 4 O (gW d) (X0 O X8 (x.at 1)) ?_;refine Yu 5 O (gW d) (fun _=>X7 O) ?_;refine Yi (k:=0) (u:=j.a) (enc:=encI) (l:=(qubI j)) 6 O ⟨_,_,O,O,d⟩ O O Xy X1o Xt e.rd (by rw [X3e t N];rfl) O ?_;intro cQ aP;refine Yv 7 O (gW d) (X0 O X8 aP) ?_;refine Yu 8 O (gW d) (fun _=>X13 O O) ?_;refine Yu 9 O (gW d) (fun _=>X7 O) ?_
    refine Yl 48 O (fun f=>?_) (fun f=>?_)
    ·refine Yp 10 O (gP f) ?_;refine Yp 11 O (gP f) ?_;refine Yp 12 O (gP f) ?_;refine Yp 13 O (gP f) ?_;refine Yp 14 O (gP f) ?_;refine Yp 15 O (gP f) ?_;refine Yu 16 O (gW d) (fun _=>Xf O f O) ?_;refine Yo 17 O (fun _=>Xf O d O) ?_;refine Yd fun a m=>?_;exact ⟨m.sub ⟨O,O,O,O,O,X1 O (by first|rfl|(simp only [z,B,y,d,f,bs];done)|simp [z,B,y,d,f]),trivial⟩,H⟩
    refine Yu 10 O (gW f) (fun _=>Vd O X14 2) ?_;refine Yv 11 O (gW f) (X0 O X8 (x.at 2)) ?_;refine Yu 12 O (gW f) (fun _=>X7 O) ?_;refine Yi (k:=0) (u:=j.a) (enc:=encI) (l:=(qubI j)) 13 O ⟨_,_,O,O,f⟩ O O Xy X1o Xt e.rd (by rw [X3e t N];rfl) O ?_;intro cR aQ;refine Yv 14 O (gW f) (X0 O X8 aQ) ?_;refine Yu 15 O (gW f) (fun _=>X13 O O) ?_;refine Yu 16 O (gW d) (fun _=>Xb O f O) ?_;refine Yo 17 O (fun _=>Xf O d O) ?_;refine Yd fun a m=>?_;exact ⟨m.sub ⟨O,O,O,O,O,X1 O (by first|rfl|(simp only [z,B,y,d,f,bs];done)|simp [z,B,y,d,f]),trivial⟩,H⟩
   refine Yp 3 O (gP d) ?_;refine Yp 4 O (gP d) ?_;refine Yp 5 O (gP d) ?_;refine Yp 6 O (gP d) ?_;refine Yp 7 O (gP d) ?_;refine Yp 8 O (gP d) ?_;refine Yp 9 O (gP d) ?_;refine Yp 10 O (gP tv0) ?_;refine Yp 11 O (gP tv0) ?_;refine Yp 12 O (gP tv0) ?_;refine Yp 13 O (gP tv0) ?_;refine Yp 14 O (gP tv0) ?_;refine Yp 15 O (gP tv0) ?_;refine Yp 16 O (gP d) ?_;refine Yo 17 O (fun _=>Xb O d O) ?_;refine Yd fun a m=>?_;exact ⟨m.sub ⟨O,O,O,O,O,X1 O (by first|rfl|(simp only [z,B,y,d,bs];done)|simp [z,B,y,d]),trivial⟩,H⟩
  rintro a cS ⟨m,g⟩;have E:=E.bw g;have x:=x.bw g;have q:=q.bw g;have e:=e.bw g;have D:=D.bw g;have o:=btr o g;refine bE _ _ ?_
  refine X04 m O (fun aB=>?_) (fun aB=>?_)
  ·have bF:isW j.a i=true:=aB
   have bY:inR i.k 9 11=true:=((Qd _ _▸bF:inR i.k 9 11=true/\(i.a==j.a||i.b==j.a)=true)).1
   have cH:=Xqp bY;have cT:=X2e i;have C:=Xav M t N aN aA bF
   rw [<- X3e t N] at C
   refine Zs m fun _ bG=>?_;refine Zm O<|Ze (Vd O X0p 1)<|Ze (X0 O X8 (x.at 1))<|Zf (X2 (k:=1) (vs:=[vi i.a]) (zs:=[vi i.a]) O Xy X1a O O) ?_;rintro _ cU ⟨bZ,rfl,bH,g,aC⟩;have aR:=Q0 o.size bH;have x:=x.bw g;have e:=e.bw g;have o:=btr o g;refine Ze (Vd O X14 2)<|Ze (X0 O X8 (x.at 2))<|Zf (Vc (Xmg _ (some ⟨bZ,0,none⟩) 1 ([i.a]) (Rd.of_blk aC O _ aC.lt) i.b L.heap.size (Own.of_blkL Xt aC aR O O (Nat.le_of_ble_eq_true O)) o.size O5) Xaj) ?_;rintro _ cV ⟨aS,aT,rfl,aD,g⟩;have e:=e.bw g;have o:=btr o g;refine Zf (X2 (k:=2) (vs:=[.slice A8 (qubI j).length c8,.slice aS (putI ([i.a]) i.b).length aT]) (zs:=[.slice A8 (qubI j).length c8,.slice aS (putI ([i.a]) i.b).length aT]) O X1u X3q O O) ?_;rintro _ cW ⟨c4,rfl,bI,g,aH⟩;have cA:=Q0 o.size bI;have e:=e.bw g;have aD:=aD.bw g;have o:=btr o g;refine Za O<|Zt bG fun a m=>?_;refine Q6<|Xo<|X5<|X5 ?_;refine Xo<|X5<|X4 m (Xv m O O) ?_;exact ⟨(some ⟨c4,0,none⟩),2,[(⟨A8,c8,(qubI j)⟩ : Sl),(⟨aS,aT,(putI ([i.a]) i.b)⟩ : Sl)],O,(Rd.of_blk aH O _ aH.lt),(Xrd e aD),by rw [C];rfl,o⟩
  have cB:isW j.a i=false:=aB
  refine Q7<|Xn<|b9 _ _<|Zr m ?_;refine Ze (X03 O O Z Z)<|Zm O ?_;refine Zn fun a m=>?_;refine Xd ?_;exact ⟨k+1,⟨m.sb,Z,(Xaw aN aA cB),E,q,e,D,I,o⟩,Z⟩
 have C:lsX c p=[qubI j]:=by rw [Xed M t N aN Z,X3e t N]
 refine Q9<|Xm<|Xm<|X0a ?_;refine b4 _ _<|Zs m fun _ bJ=>?_;refine Zm O<|Zf (X2 (k:=1) (vs:=[.slice A8 (qubI j).length c8]) (zs:=[.slice A8 (qubI j).length c8]) O X1u X3q O O) ?_;rintro _ cX ⟨cC,rfl,bK,g,aI⟩;have cD:=Q0 o.size bK;have e:=e.bw g;have o:=btr o g;refine Za O<|Zt bJ fun a m=>?_
 refine Q6 (X4 m (Xv m O O) ?_)
 exact ⟨(some ⟨cC,0,none⟩),1,[(⟨A8,c8,(qubI j)⟩ : Sl)],O,(Rd.of_blk aI O _ aI.lt),(Xf7 e),by rw [C];rfl,o⟩
end Go.Proofs.YtfkokcbjcndjpaaGreatDoor
