/-
  What is proved: for every circuit, the program's ReduceOneQubit answers as the reference's does, leaves its argument as it was and hands out memory of its own; the argument and the variable half read as before. Conditions: none beside the variable's value, which the card ties to the program's text.
-/
import Derived.Test.YtnmabjfoiakapaaGreatDoorV3
import Derived.Lib.ItoaNum
import Derived.Lib.Join
import Derived.Test.YtnmabjfoiakapaaGreatDoorV2
import Derived.Test.YtnmabjfoiakapaaGreatDoorV1
set_option linter.unusedVariables false
set_option linter.unusedSimpArgs false
set_option maxHeartbeats 1000000
set_option maxRecDepth 20000
set_option linter.unusedSectionVars false
namespace Go.Proofs.YtnmabjfoiakapaaGreatDoor
def sylG:Nat→List Gt
 | 0=>[⟨7,0,0⟩]
 | 1=>[⟨7,0,0⟩,⟨1,0,0⟩]
 | _=>[⟨7,0,0⟩,⟨1,0,0⟩,⟨5,0,0⟩]
theorem Xbr:∀ (a b:List Gt) (X:M2),prodG (a++b) X=prodG b (prodG a X)
 | [],_,_=>rfl
 | _::a,b,X=>Xbr a b _
theorem Xki(a b:List Gt) : hs (a++b)=hs a+hs b:=by
 induction a with
 | nil=>show hs b=0+hs b;omega
 | cons g a ih=>show hN g+hs (a++b)=hN g+hs a+hs b;omega
theorem Xr2(s:Nat)(X:M2) : prodG (sylG s) X=gY s*X:=by
 rcases s with _|_|s
 ·rfl
 ·show gH*(gT*X)=gH*gT*X
  rw [X1a]
 ·show gS*(gH*(gT*X))=gS*(gH*gT)*X
  rw [X1a,X1a]
theorem Xa2(s:Nat) : hs (sylG s)=hY s:=by rcases s with _|_|s<;>rfl
theorem Xcm(s:Nat) : ∀ g ∈ sylG s,g ∈ G4:=by
 rcases s with _|_|s
 ·exact (by decide:∀ g ∈ sylG 0,g ∈ G4)
 ·exact (by decide:∀ g ∈ sylG 1,g ∈ G4)
 ·exact (by decide:∀ g ∈ sylG 2,g ∈ G4)
theorem X5n(s:Nat) : (sylG s).length≤3:=by
 rcases s with _|_|s
 ·exact (by decide:(sylG 0).length≤3)
 ·exact (by decide:(sylG 1).length≤3)
 ·exact (by decide:(sylG 2).length≤3)
theorem Xlq(s:Nat) : hY s≤1:=by
 rcases s with _|_|s
 ·exact Qf _
 ·exact Qb _
 ·exact Qb _
theorem Xv4:((List.range 3).all fun s=>(trB (bkC s)).length==9&&(trB (bkC s)).all dOk&&decide (trB (trB (bkC s))=bkC s))=true:=by kernel_rfl
theorem X4r{s:Nat}(hs3:s<3) : blochI (opM (sylG s))=some (trB (bkC s))∧trB (trB (bkC s))=bkC s:=by
 have h1:=W1.1 Xv4 s (W2.2 hs3)
 simp only [Qd,beq_iff_eq,W1,Qr] at h1
 obtain ⟨⟨h2,h3⟩,h4⟩:=h1
 refine ⟨?_,h4⟩
 have hh:=Xlq s
 obtain ⟨M,a,b,d⟩:=Xbg (Xcm s) (Q0 (X5n s) (by decide)) (by rw [Xa2];omega)
 rw [X88 a]
 have hb:=Xdk hs3
 have hv:BV (trB (bkC s)) 1 (fun i j=>bT s j i):=⟨h2,h3,fun i j hi hj=>by
  have e:(bm3 (trB (bkC s))).at i j=(bm3 (bkC s)).at j i:=Xdv (R:=3) hi hj
  rw [e];exact hb.v j i hj hi⟩
 rw [Xa2,Xr2,Xa9] at b d
 refine X6k b d (by omega) hv fun i j hi hj=>?_
 rcases lt3 hs3 with rfl|rfl|rfl<;>rcases lt3 hi with rfl|rfl|rfl<;>rcases lt3 hj with rfl|rfl|rfl<;>decide
theorem Xef(s:Nat)(c:Rg)(Z:Nat→Nat→Rg)(i j:Nat) : tT (pm s fun i j=>c*Z i j) i j=c*tT (pm s Z) i j:=by
 rcases s with _|_|s<;>rcases i with _|_|i<;>simp only [tT,pm,rgn,Xs]<;>first|rfl|exact Xi _ _ _
theorem Xkw{s:Nat}(hs3:s<3){l r:List Dy}{k f:Nat}{Z:Nat→Nat→Rg}{Y:M2}(hl:BV l k Z)(h:mulBI (bkC s) l=some r)(hr:BV r (2*f+2) (tV Y)) : BV l (2*(f+hY s)+2) (tV (gY s*Y)):=by
 have hv:=X84 hs3 h hl
 have e1:∀ i j,i<3→j<3→tT (pm s fun i j=>s2^(2*(f+hY s)+2)*Z i j) i j=tT (pm s fun i j=>s2^k*tV (gY s*Y) i j) i j:=fun i j hi hj=>by
  have hc:=(hv.v i j hi hj).cross (hr.v i j hi hj)
  rw [Xef,Xef,Xym]
  rw [show 2*(f+hY s)+2=2*f+2+hY s+hY s by omega,X0s,X0s]
  have e2:s2^(k+1)=s2^k*s2:=rfl
  rw [e2] at hc
  rw [show s2^(2*f+2)*s2^hY s*s2^hY s*tT (pm s Z) i j=s2^hY s*(s2^hY s*(s2^(2*f+2)*tT (pm s Z) i j)) by simp only [rgs],hc]
  simp only [rgs]
 refine ⟨hl.len,hl.ok,fun i j hi hj=>?_⟩
 have e2:=Xsm (fun i hi=>Xry (fun i hi=>e1 i j hi hj) i hi) i hi
 exact Xlh (hl.at_ok i j) (hl.v i j hi hj) e2
def synG(ss:List Nat) : List Gt:=ss.reverse.flatMap sylG
def fmG(k:Nat)(ss:List Nat) : List Gt:=wdG (cw k)++synG ss
theorem X7t(s:Nat)(ss:List Nat) : synG (s::ss)=synG ss++sylG s:=by simp [synG]
def nfS(l:List Dy) : List Nat:=(stN l (bexp l).toNat).1
def nfL(l:List Dy) : List Dy:=(stN l (bexp l).toNat).2
def clX(l:List Dy) : Nat:=(List.range 24).findIdx fun k=>decide (clB k=l)
theorem Xys:((List.range 24).all fun k=>clX (clB k)==k)=true:=by kernel_rfl
theorem Xft{k:Nat}(hk:k<24) : clX (clB k)=k:=by
 have:=W1.1 Xys k (W2.2 hk)
 exact beq_iff_eq.1 this
def nfC(l:List Dy) : List Gt:=fmG (clX (nfL l)) (nfS l)
def nfW(l:List Dy) : Mx:=opM (nfC l)
def nfP(m:Mx)(l:List Dy) : Nat:=((List.range 8).find? fun (k:Nat)=>turnedS m (nfW l) (k:Int)).getD 0
theorem X9w{l:List Dy}(h:Gd l)(hb:bexp l≤40) : clX (nfL l)<24∧nfL l=clB (clX (nfL l)):=by
 have hn:=X24 l
 obtain ⟨h1,h2,_,_⟩:=X4k h hb (bexp l).toNat (by omega)
 obtain ⟨k,hk,e⟩:=Xnr h1 (by omega)
 have e':nfL l=clB k:=e
 rw [e',Xft hk]
 exact ⟨hk,rfl⟩
theorem Xpv(k:Nat)(ss:List Nat) : ∀ g ∈ fmG k ss,g ∈ G4:=fun g hg=>by
 rcases Qu.1 hg with hg|hg
 ·exact X96 _ g hg
 ·obtain ⟨s,_,hg⟩:=List.mem_flatMap.1 hg;exact Xcm s g hg
theorem Xex:∀ ss:List Nat,hs (synG ss)≤ss.length∧(synG ss).length≤3*ss.length
 | []=>⟨Qb _,Qb _⟩
 | s::ss=>by
  obtain ⟨h1,h2⟩:=Xex ss;have h3:=X5n s;have h4:=Xlq s
  rw [X7t,Xki,Xa2]
  constructor
  ·simp;omega
  ·simp;omega
theorem Xkh{k:Nat}(hk:k<24){ss:List Nat}(hl:ss.length≤40) : opI ⟨1,fmG k ss⟩=some (opM (fmG k ss))∧VM (opM (fmG k ss)) (hs (fmG k ss)) (prodG (fmG k ss) i2)∧UnL (hs (fmG k ss)) (prodG (fmG k ss) i2):=by
 have h1:=X6n hk;have h2:=Xex ss
 obtain ⟨M,a,b,d⟩:=Xbg (Xpv k ss) (by simp [fmG,wdG];omega) (by rw [fmG,Xki];omega)
 rw [X88 a]
 exact ⟨a,b,d⟩
theorem Xun{l:List Dy}(h:Gd l)(hb:bexp l≤40) : ∀ n:Nat,n≤(bexp l).toNat→∃ ss,(stN l ((bexp l).toNat-n)).1++ss=nfS l∧BV (stN l ((bexp l).toNat-n)).2 (2*hs (fmG (clX (nfL l)) ss)+2) (tV (prodG (fmG (clX (nfL l)) ss) i2)):=by
 intro n;have hn0:=X24 l;obtain ⟨c1,c2⟩:=X9w h hb
 induction n with
 | zero=>
  intro _
  refine ⟨[],List.append_nil _,?_⟩
  have e:fmG (clX (nfL l)) []=wdG (cw (clX (nfL l))):=List.append_nil _
  rw [e,Nat.sub_zero,show (stN l (bexp l).toNat).2=nfL l from rfl]
  have hv:=X5z c1
  rw [← c2] at hv
  refine ⟨hv.len,hv.ok,fun i j hi hj=>Xlh (hv.at_ok i j) (hv.v i j hi hj) ?_⟩
  rw [X2v,Xe]
  exact (X8x _ c1 i j hi hj).symm
 | succ n ih=>
  intro hn
  obtain ⟨ss,e1,e2⟩:=ih (by omega)
  obtain ⟨p,hp⟩:=X7f h hb (n:=(bexp l).toNat-(n+1)) (by omega)
  obtain ⟨g1,_,_,_⟩:=X4k h hb ((bexp l).toNat-(n+1)) (by omega)
  obtain ⟨s1,s2',_⟩:=X58 (show stripI _=some (p.1,p.2) from hp)
  have es:(bexp l).toNat-n=(bexp l).toNat-(n+1)+1:=by omega
  rw [es,X3m hp] at e1 e2
  obtain ⟨Z,z1,_⟩:=g1
  refine ⟨p.1::ss,by rw [← e1,Qx];rfl,?_⟩
  have e3:fmG (clX (nfL l)) (p.1::ss)=fmG (clX (nfL l)) ss++sylG p.1:=by rw [fmG,fmG,X7t,Qx]
  rw [e3,Xbr,Xr2,Xki,Xa2]
  exact Xkw s1 z1 s2' e2
theorem X7q{l:List Dy}(h:Gd l)(hb:bexp l≤40) : (nfS l).length=(bexp l).toNat∧∀ s ∈ nfS l,s<3:=by
 have hn:=X24 l
 obtain ⟨_,_,h3,h4⟩:=X4k h hb (bexp l).toNat (by omega)
 exact ⟨h3,h4⟩
theorem Xuy{y:Rg} : ∀ j:Nat,0<j→j<8→om^j*y=y→y=0:=fun j h0 h8 h=>by
 have e:∀ (k:Nat) (z:Rg),om^(k+1)*z=om^k*(om*z):=fun k z=>by rw [X4w,X9]
 have hj:j=1∨j=2∨j=3∨j=4∨j=5∨j=6∨j=7:=by omega
 rcases hj with rfl|rfl|rfl|rfl|rfl|rfl|rfl<;>simp only [e,X2v,Xe,Xfq,show om^1=om^(0+1) from rfl,show om^2=om^(1+1) from rfl,show om^3=om^(2+1) from rfl,show om^4=om^(3+1) from rfl,show om^5=om^(4+1) from rfl,show om^6=om^(5+1) from rfl,show om^7=om^(6+1) from rfl] at h <;>
  (have h1:=congrArg Rg.a h;have h2:=congrArg Rg.b h;have h3:=congrArg Rg.c h;have h4:=congrArg Rg.d h;simp only at h1 h2 h3 h4;apply X0m<;>simp only [Xc7,Xcg,Xg3,Xfx]<;>omega)
theorem Xfj{W:Mx}(hl:W.cells.length=4)(hc:W.cols=2)(k:Int){i j:Nat}(hi:i<2)(hj:j<2) : (⟨2,2,W.cells.map (dTurn k)⟩ : Mx).at i j=dTurn k (W.at i j):=by
 show (W.cells.map (dTurn k)).getD (i*2+j) dZ=dTurn k (W.cells.getD (i*W.cols.toNat+j) dZ)
 rw [hc,Qa,Qa,List.getElem?_map,show (2:Int).toNat=2 from rfl,Qc (by omega)];rfl
structure NfR (m:Mx) (l:List Dy) : Prop where
 gd:Gd l
 op:opI ⟨1,nfC l⟩=some (nfW l)
 vm:mOk (nfW l)=true∧(nfW l).rows=2∧(nfW l).cols=2
 one:mOk m=true∧m.rows=2∧m.cols=2
 ph:∃ k:Nat,k<8∧turnedS m (nfW l) (k:Int)=true
 uq:∀ k k':Nat,k<8→k'<8→turnedS m (nfW l) (k:Int)=true→turnedS m (nfW l) (k':Int)=true→k=k'
theorem nfR{m:Mx}{l:List Dy}(h:blochI m=some l)(hb:bexp l≤40) : NfR m l:=by
 have h1:oneQ m=true:=by unfold blochI at h;split at h;assumption;cases h
 obtain ⟨_,ok,hr,hc⟩:=X43 h1;obtain ⟨X,hX⟩:=Xyb ok hr hc;obtain ⟨uX,vX⟩:=Xec h hX
 have hgd:Gd l:=Xqx vX (by
  have e:=Xsa (uX.back (Xch 60))
  rwa [show (2:Rg)*(s2^60*s2^60)=s2^(2*60+2) from by rw [← X0s,← Xfs,← X0s]] at e)
 obtain ⟨c1,c2⟩:=X9w hgd hb;obtain ⟨n1,n2⟩:=X7q hgd hb;have hn:=X24 l
 obtain ⟨o1,o2,o3⟩:=Xkh c1 (ss:=nfS l) (by omega)
 obtain ⟨ss,e1,e2⟩:=Xun hgd hb (bexp l).toNat (Qb _)
 rw [Nat.sub_self] at e1 e2
 have e3:ss=nfS l:=e1
 subst e3
 obtain ⟨Y,hYe⟩ : ∃ Y,Y=prodG (fmG (clX (nfL l)) (nfS l)) i2:=⟨_,rfl⟩
 obtain ⟨f,hfe⟩ : ∃ f,f=hs (fmG (clX (nfL l)) (nfS l)):=⟨_,rfl⟩
 rw [← hYe,← hfe] at o2 o3 e2
 have e2:BV l (2*f+2) (tV Y):=e2
 have o2:VM (nfW l) f Y:=o2
 have lW:=(X2h o2.ok).2.2
 rw [o2.r,o2.c] at lW
 have hW4:(nfW l).cells.length=4:=lW
 have hph:∃ k:Nat,k<8∧turnedS m (nfW l) (k:Int)=true:=by
  obtain ⟨k,hk,ek⟩:=Xfc uX o3 fun i j hi hj=>by
   have:=(vX.v i j hi hj).cross (e2.v i j hi hj)
   rw [X0s,X0s,Xfs] at this
   have h9:∀ (a:Nat) (z:Rg),s2^(2*a)*2*z=2*(s2^a*s2^a*z):=fun a z=>by rw [show 2*a=a+a by omega,X0s];simp only [rgs]
   rw [h9,h9] at this
   exact X3f this
  refine ⟨k,hk,?_⟩
  have hok:mOk (⟨2,2,(nfW l).cells.map (dTurn k)⟩ : Mx)=true:=X7y (show isDimB 2=true by decide) (show isDimB 2=true by decide) (by simp [hW4]) fun x hx=>by
   obtain ⟨y,hy,rfl⟩:=W6.1 hx;exact Xe6 (X18 o2.ok y hy) _
  have hcell:m.cells=(nfW l).cells.map (dTurn k):=Xm6 ok hok hr hc rfl rfl fun i j hi hj=>by
   rw [Xfj hW4 o2.c _ hi hj]
   have oW:=Mx.at_ok (X18 o2.ok) i j
   refine Xsr (Mx.at_ok (X18 ok) i j) (Xe6 oW _) (hX.v i j hi hj) (Xet oW (o2.v i j hi hj) hk) ?_;have ha:=congrArg M2.a ek;have hb':=congrArg M2.b ek;have hc':=congrArg M2.c ek;have hd:=congrArg M2.d ek
   rcases lt2 hi with rfl|rfl<;>rcases lt2 hj with rfl|rfl
   ·exact ha
   ·exact hb'
   ·exact hc'
   ·exact hd
  unfold turnedS
  simp only [Qd,Qr]
  exact ⟨⟨by rw [hr,o2.r],by rw [hc,o2.c]⟩,hcell⟩
 refine ⟨hgd,o1,⟨o2.ok,o2.r,o2.c⟩,⟨ok,hr,hc⟩,hph,fun k k' hk hk' t1 t2=>?_⟩
 unfold turnedS at t1 t2
 simp only [Qd,Qr] at t1 t2
 have te:=t1.2.symm.trans t2.2
 have hz:∀ i j,i<2→j<2→om^k*Y.at i j=om^k'*Y.at i j:=fun i j hi hj=>by
  have oW:=Mx.at_ok (X18 o2.ok) i j
  have a1:=Xet oW (o2.v i j hi hj) hk
  have a2:=Xet oW (o2.v i j hi hj) hk'
  have e9:dTurn (k:Int) ((nfW l).at i j)=dTurn (k':Int) ((nfW l).at i j):=by rw [← Xfj hW4 o2.c _ hi hj,← Xfj hW4 o2.c _ hi hj,te]
  rw [e9] at a1
  exact a1.fun a2
 have hne:∀ p q:Nat,p<q→q<8→(∀ i j,i<2→j<2→om^p*Y.at i j=om^q*Y.at i j)→False:=fun p q hpq hq hh=>by
  have h0:∀ i j,i<2→j<2→Y.at i j=0:=fun i j hi hj=>by
   have:=hh i j hi hj
   rw [show q=p+(q-p) by omega,X0s,X9] at this
   exact Xuy (q-p) (by omega) (by omega) (X6m p this).symm
  have hb1:=o3.bd.1
  rw [show Y.a=0 from h0 0 0 (by decide) (by decide),show Y.b=0 from h0 0 1 (by decide) (by decide)] at hb1
  have:(1:Int)≤2^f:=X6b f
  rw [← hb1] at this
  revert this;decide
 rcases Nat.lt_trichotomy k k' with h9|h9|h9
 ·exact (hne k k' h9 hk' hz).elim
 ·exact h9
 ·exact (hne k' k h9 hk fun i j hi hj=>(hz i j hi hj).symm).elim
theorem Xkl{m:Mx}{l:List Dy}(h:NfR m l){k:Nat}(hk:k<8)(ht:turnedS m (nfW l) (k:Int)=true) : nfP m l=k:=by
 unfold nfP
 cases e:(List.range 8).find? fun (k:Nat)=>turnedS m (nfW l) (k:Int) with
 | none=>
  rw [List.find?_eq_none] at e
  exact absurd ht (e k (W2.2 hk))
 | some q=>
  have h1:=List.find?_some e;have h2:=List.mem_of_find?_eq_some e;exact h.uq q k (W2.1 h2) hk h1 ht
def gsT(n:Nat) : List Gt:=if n=2 then [⟨1,0,0⟩,⟨1,1,0⟩,⟨5,0,0⟩,⟨5,1,0⟩,⟨7,0,0⟩,⟨7,1,0⟩,⟨9,0,1⟩,⟨9,1,0⟩] else [⟨1,0,0⟩,⟨5,0,0⟩,⟨7,0,0⟩]
def valW(n:Nat)(w:List Gt) : Mx:=(opI ⟨n,w⟩).getD mZ
def kyW(n:Nat)(w:List Gt) : Option (List Dy):=canL (valW n w).cells
def fdS(n:Nat)(M:Mx) : Nat→Mx→Option (List Gt)
 | 0,x=>if phaseS x M=true then some [] else none
 | k+1,x=>(gsT n).findSome? fun g=>(fdS n M k (timesS false (gateS n g) x).2).map (g :: ·)
end Go.Proofs.YtnmabjfoiakapaaGreatDoor
namespace Go.Proofs.YtnmabjfoiakapaaGreatDoor
open Go
def dgV(l:List UInt8) : Nat:=l.foldl (fun a b=>10*a+(b.toNat-48)) 0
def txR(z:Rg) : List UInt8:=Lib.join [Lib.itoa z.a,Lib.itoa z.b,Lib.itoa z.c,Lib.itoa z.d] [32]
def txD(x:Dy) : List UInt8:=txR x.num++[47]++Lib.itoa x.exp
def txK(l:List Dy) : List UInt8:=Lib.join (l.map txD) [44]
end Go.Proofs.YtnmabjfoiakapaaGreatDoor
namespace Go.Proofs.YtnmabjfoiakapaaGreatDoor
open Go.RowKit
def entS(p:ByteArray×Value×Nat) : MapEntry:={ key:=.string p.1,val:=p.2.1,born:=p.2.2 }
def findS(l:List (ByteArray×Value×Nat))(s:ByteArray) : Option Value:=(l.find? fun p=>decide (p.1=s)).map fun p=>p.2.1
def MapS(w:World)(b:Nat)(f:ByteArray→Option Value) : Prop:=∃ l clock,w.heap[b]? = some (.map (l.map entS).toArray clock)∧∀ s,findS l s=f s
def updS(f:ByteArray→Option Value)(s:ByteArray)(v:Value) : ByteArray→Option Value:=fun x=>if x=s then some v else f x
section
variable {w w' : World} {b b' : Nat} {f : ByteArray → Option Value}
theorem MapS.lt(h:MapS w b f) : b<w.heap.size:=by
 obtain ⟨l,c,h,_⟩:=h
 rcases W4 b w.heap.size with h'|h'
 ·exact h'
 ·simp [We h'] at h
theorem MapS.keep(h:MapS w b f)(e:w'.heap[b]? = w.heap[b]?) : MapS w' b f:=let ⟨l,c,h,g⟩:=h;⟨l,c,e.trans h,g⟩
theorem MapS.below(h:MapS w b f)(hb:Below w.heap.size w w') : MapS w' b f:=h.keep (hb.block b h.lt)
theorem MapS.only(h:MapS w b f)(ho:Only b' w w')(hne:b≠b') : MapS w' b f:=h.keep (ho.block b hne)
theorem MapS.nc(h:MapS w b f) : NC w b:=fun l T fz e=>by
 obtain ⟨_,_,h,_⟩:=h
 rw [h] at e;cases e
theorem MapS.ne{T:TypeId}{l:List Value}(h:MapS w b f)(h':Blk w b' T l) : b≠b':=by
 rintro rfl;obtain ⟨_,_,h,_⟩:=h
 unfold Blk at h'
 rw [h] at h';cases h'
theorem MapS.app{α:Type}{B:Nat}{E:TypeId}{enc:α→List Value}{A:Option Addr}{l:List α}{sz n c c':Nat}(h:MapS w b f)(ho:Own w B E sz enc A c l)(hg:w.grownBy w' (Value.slice A n c').ownBlock) : MapS w' b f:=h.keep (h.nc.app h.lt ho hg)
end
section
variable {P : Program} {a : Act} {w : World} {n : Nat} {e : Env} {ty : TypeId} {pos : String} {af : Array Edge} {g : Option (Nat × Bool)} {d : Option Tmp} {b : Nat} {f : ByteArray → Option Value} {T K E : TypeId}
end
def kyT(o:Option (List Dy)) : ByteArray:=⟨(txK (o.getD [])).toArray⟩
def tbW(n k:Nat) : (ByteArray→Option (List Gt))×List (List Gt):=grT (gsT n) (fun w=>kyT (kyW n w)) k
def rndW{G:Type}(gs:List G)(lev:List (List G))(i j:Nat) : List (List G):=((lev.take i).flatMap fun u=>gs.map fun g=>u++[g])++((gs.take j).map fun g=>(lev.getD i [])++[g])
structure Tw where (A:Option Addr) (c:Nat) (w:List Gt) (m:Mx) (B:Option Addr) (d:Nat)
def encTw(t:Tw) : List Value:=[.slice t.A t.w.length t.c,.int .i64 t.m.rows,.int .i64 t.m.cols,.slice t.B t.m.cells.length t.d]
def DeepT(w:World)(B:Nat)(E F:TypeId)(l:List Tw) : Prop:=∀ t ∈ l,Rd w B E encG t.A t.w∧Rd w B F encD t.B t.m.cells
structure Sq where (A:Option Addr) (c:Nat) (w:List Gt)
abbrev Sq.v(s:Sq) : Value:=.slice s.A s.w.length s.c
def DeepM(w:World)(B:Nat)(E:TypeId)(f:ByteArray→Option Sq) : Prop:=∀ s x,f s=some x→Rd w B E encG x.A x.w
def sgF(f:ByteArray→Option Sq) : ByteArray→Option Value:=fun s=>(f s).map Sq.v
def sgL(f:ByteArray→Option Sq) : ByteArray→Option (List Gt):=fun s=>(f s).map Sq.w
def updG(f:ByteArray→Option Sq)(s:ByteArray)(x:Sq) : ByteArray→Option Sq:=fun q=>if q=s then some x else f q
section
variable {w w' : World} {B : Nat} {E F : TypeId} {l : List Tw} {f : ByteArray → Option Sq}
theorem DeepT.nil(w:World)(B:Nat)(E F:TypeId) : DeepT w B E F []:=fun s hs=>by simp at hs
theorem DeepT.snoc{x:Tw}(h:DeepT w B E F l)(h1:Rd w B E encG x.A x.w)(h2:Rd w B F encD x.B x.m.cells) : DeepT w B E F (l++[x]):=fun s hs=>by
 rcases Qu.1 hs with hs|hs
 ·exact h s hs
 ·obtain rfl:=Qm.1 hs;exact ⟨h1,h2⟩
theorem DeepT.below(h:DeepT w B E F l)(hb:Below w.heap.size w w') : DeepT w' B E F l:=fun s hs=>⟨(h s hs).1.below hb,(h s hs).2.below hb⟩
theorem DeepT.top(h:DeepT w B E F l) : DeepT w w.heap.size E F l:=fun s hs=>⟨(h s hs).1.top,(h s hs).2.top⟩
theorem DeepT.only{b:Nat}(h:DeepT w B E F l)(ho:Only b w w')(hB:B≤b) : DeepT w' B E F l:=fun s hs=>⟨(h s hs).1.only ho hB,(h s hs).2.only ho hB⟩
theorem DeepT.onlyN{b:Nat}(h:DeepT w B E F l)(ho:Only b w w')(hm:NC w b) : DeepT w' B E F l:=fun s hs=>⟨(h s hs).1.onlyN ho hm,(h s hs).2.onlyN ho hm⟩
theorem DeepT.onlyT{b:Nat}{T:TypeId}{lc:List Value}(h:DeepT w B E F l)(ho:Only b w w')(hb:Blk w b T lc)(hT:Nat.beq E T=false)(hT':Nat.beq F T=false) : DeepT w' B E F l:=fun s hs=>⟨(h s hs).1.onlyT ho hb hT,(h s hs).2.onlyT ho hb hT'⟩
theorem DeepT.appT{B0:Nat}{E':TypeId}{sz:Nat}{α:Type}{enc:α→List Value}{A:Option Addr}{c:Nat}{m:List α}(h:DeepT w B E F l)(ho:Own w B0 E' sz enc A c m)(hg:w.grownBy w' (Value.slice A m.length c).ownBlock)(hT:Nat.beq E' E=false)(hT':Nat.beq E' F=false) : DeepT w' B E F l:=fun s hs=>⟨(h s hs).1.appT ho hg hT,(h s hs).2.appT ho hg hT'⟩
theorem DeepT.one{x:Tw}(h1:Rd w B E encG x.A x.w)(h2:Rd w B F encD x.B x.m.cells) : DeepT w B E F [x]:=DeepT.snoc (DeepT.nil w B E F) h1 h2
theorem DeepM.below(h:DeepM w B E f)(hb:Below w.heap.size w w') : DeepM w' B E f:=fun s x hs=>(h s x hs).below hb
theorem DeepM.top(h:DeepM w B E f) : DeepM w w.heap.size E f:=fun s x hs=>(h s x hs).top
theorem DeepM.only{b:Nat}(h:DeepM w B E f)(ho:Only b w w')(hB:B≤b) : DeepM w' B E f:=fun s x hs=>(h s x hs).only ho hB
theorem DeepM.onlyN{b:Nat}(h:DeepM w B E f)(ho:Only b w w')(hm:NC w b) : DeepM w' B E f:=fun s x hs=>(h s x hs).onlyN ho hm
theorem DeepM.onlyT{b:Nat}{T:TypeId}{lc:List Value}(h:DeepM w B E f)(ho:Only b w w')(hb:Blk w b T lc)(hT:Nat.beq E T=false) : DeepM w' B E f:=fun s x hs=>(h s x hs).onlyT ho hb hT
theorem DeepM.appT{B0:Nat}{E':TypeId}{sz:Nat}{α:Type}{enc:α→List Value}{A:Option Addr}{c:Nat}{m:List α}(h:DeepM w B E f)(ho:Own w B0 E' sz enc A c m)(hg:w.grownBy w' (Value.slice A m.length c).ownBlock)(hT:Nat.beq E' E=false) : DeepM w' B E f:=fun s x hs=>(h s x hs).appT ho hg hT
theorem DeepM.none(w:World)(B:Nat)(E:TypeId) : DeepM w B E (fun _=>Option.none):=fun _ _ h=>by cases h
theorem DeepM.upd{s:ByteArray}{x:Sq}(h:DeepM w B E f)(hx:Rd w B E encG x.A x.w) : DeepM w B E (updG f s x):=fun q y hy=>by
 unfold updG at hy
 split at hy
 ·injection hy with hy;subst hy;exact hx
 ·exact h q y hy
end
end Go.Proofs.YtnmabjfoiakapaaGreatDoor
namespace Go.Proofs.YtnmabjfoiakapaaGreatDoor
def mstW(n:Nat) : Nat:=if n=2 then 4 else 8
def nW(m:Mx) : Nat:=if m.rows=4 then 2 else 1
def sqW(m:Mx) : Bool:=mOk m&&(decide (m.rows=m.cols)&&(decide (m.rows=2)||decide (m.rows=4)))
def shS(m:Mx) : Option (List Gt):=if sqW m=true then lsW (gsT (nW m)) (fun w=>phaseS (valW (nW m) w) m) (mstW (nW m)) else none
def shI(m:Mx) : Option (List Gt):=if (sqW m&&(canL m.cells).isSome)=true then (tbW (nW m) (mstW (nW m))).1 (kyT (canL m.cells)) else none
def srS(n:Nat)(M:Mx) : Nat→Option (List Gt)
 | 0=>fdS n M 0 (unitS (2^n))
 | k+1=>(srS n M k).or (fdS n M (k+1) (unitS (2^n)))
def szD(l:List Dy)(left:Int) : Int:=if left-(l.length:Int)<0 then -1 else left-(l.length:Int)
def dimS(n:Int) : Bool:=[1,2,4,8,16,32].any fun y=>y==n
theorem X93(n:Int) : dimS n=isDimB n:=by
 by_cases h:1≤n∧n≤32
 ·obtain ⟨k,rfl⟩:=Int.eq_ofNat_of_zero_le (by omega:0≤n)
  have hk:k<33:=by omega
  have:∀ j:Nat,j<33→dimS (j:Int)=isDimB (j:Int):=by decide
  exact this k hk
 ·have h1:isDimB n=false:=by
   unfold isDimB inR
   have:(decide (1≤n)&&decide (n≤32))=false:=by simp;omega
   rw [this];rfl
  rw [h1];simp [dimS];omega
def cmI(x y:Int) : Int:=if x<y then -1 else if y<x then 1 else 0
def cmL:List Int→List Int→Int
 | [],[]=>0
 | [],_::_=>-1
 | _::_,[]=>1
 | x::l,y::r=>if cmI x y≠0 then cmI x y else cmL l r
def cmR(x y:Rg) : Int:=cmL [x.a,x.b,x.c,x.d] [y.a,y.b,y.c,y.d]
def idxF{α:Type}(l:List α)(q:α→Bool) : Int:=match l.findIdx? q with
 | some k=>(k:Int)
 | none=>-1
end Go.Proofs.YtnmabjfoiakapaaGreatDoor
namespace Go.Proofs.YtnmabjfoiakapaaGreatDoor
open Go.RowKit
theorem Xvi(w0:World)(x:Dy) : Ret Tryz.prog 152 [.agg #[vi x.num.a,vi x.num.b,vi x.num.c,vi x.num.d,vi x.exp]] w0 (fun v w=>v=.bool (dOk x)∧Below w0.heap.size w0 w):=by
 refine enter Tryz.func152 rfl 22 rfl rfl ?_;intro a k
 have n:=bz w0
 refine Zs k fun _ a9=>?_;refine Zf (X09 (zs:=[vi x.num.a,vi x.num.b,vi x.num.c,vi x.num.d,vi x.exp]) rfl rfl) ?_;rintro _ w1 ⟨b2,rfl,aA,o,m⟩;have aC:=Q0 n.size aA;have n:=btr n o;refine Za rfl<|ZX a9 fun a k _ aB=>?_;refine X0a (fun a w=>Fr a 22 [(2,.bool (((rOk x.num)&&(inR x.exp 0 60))&&((x.exp==0)||(!(rEven x.num)))))]∧Below w1.heap.size w1 w) ?_ ?_
 ·have i:Below w1.heap.size w1 w1:=Below.refl _ _
  refine Zr k<|Ze (Vd rfl X19 0)<|Ze (Xy (l:=[vi x.num.a,vi x.num.b,vi x.num.c,vi x.num.d]) rfl X00 ((m.at 0).take 4) rfl)<|Zf (Vc (Xvl _ x.num) Xjl) ?_;rintro _ w2 ⟨rfl,o⟩;have m:=m.below o;have n:=btr n o;have i:=btr i o;refine Zm rfl ?_
  refine Zg 6 rfl (fun f=>?_) (fun f=>?_)
  ·refine Zv (gW f) (Vd rfl X0y 4) ?_;refine Zv (gW f) (X0 rfl X8 (m.at 4)) ?_;refine Zk (gW f) (Vc (F85 _ x.exp 0 60) X8t) ?_;rintro _ _ ⟨rfl,rfl⟩;refine Ze (Xh rfl f rfl)<|Zm rfl ?_
   refine Zg 11 rfl (fun e=>?_) (fun e=>?_)
   ·refine Zv (gW e) (Vd rfl X0y 4) ?_;refine Zv (gW e) (X0 rfl X8 (m.at 4)) ?_;refine Zv (gW e) (X1d rfl rfl) ?_;refine Zv (gW e) (Xb rfl) ?_
    refine Zg 15 rfl (fun g=>?_) (fun g=>?_)
    ·refine Zp (gP g) ?_;refine Zp (gP g) ?_;refine Zp (gP g) ?_;refine Zp (gP g) ?_;refine Zv (gW e) (Xh rfl g rfl) ?_;refine Ze (Xh rfl e rfl)<|Za rfl ?_;refine Zn fun a k=>?_
     have j:Below w1.heap.size w1 w2:=i
     exact ⟨k.sub ⟨X1 rfl (by first|rfl|(simp only [f,e,g,bs];done)|simp [f,e,g]),trivial⟩,j⟩
    refine Zv (gW g) (Vd rfl X19 0) ?_;refine Zv (gW g) (Xy (l:=[vi x.num.a,vi x.num.b,vi x.num.c,vi x.num.d]) rfl X00 ((m.at 0).take 4) rfl) ?_;refine Zk (gW g) (Vc (Xy0 _ x.num) Xms) ?_;rintro _ w3 ⟨rfl,o⟩;have n:=btr n o;have i:=btr i o;refine Zv (gW g) (X0o rfl) ?_;refine Zv (gW e) (Xf rfl g rfl) ?_;refine Ze (Xh rfl e rfl)<|Za rfl ?_;refine Zn fun a k=>?_
    have j:Below w1.heap.size w1 w3:=i
    exact ⟨k.sub ⟨X1 rfl (by first|rfl|(simp only [f,e,g,bs];done)|simp [f,e,g]),trivial⟩,j⟩
   refine Zp (gP e) ?_;refine Zp (gP e) ?_;refine Zp (gP e) ?_;refine Zp (gP e) ?_;refine Zp (gP trivial) ?_;refine Zp (gP trivial) ?_;refine Zp (gP trivial) ?_;refine Zp (gP trivial) ?_;refine Zp (gP e) ?_;refine Ze (Xf rfl e rfl)<|Za rfl ?_;refine Zn fun a k=>?_
   have j:Below w1.heap.size w1 w2:=i
   exact ⟨k.sub ⟨X1 rfl (by first|rfl|(simp only [f,e,bs];done)|simp [f,e]),trivial⟩,j⟩
  refine Zp (gP f) ?_;refine Zp (gP f) ?_;refine Zp (gP f) ?_;refine Ze (Xf rfl f rfl)<|Zm rfl<|Zp (gP rfl) ?_;refine Zp (gP rfl) ?_;refine Zp (gP rfl) ?_;refine Zp (gP rfl) ?_;refine Zp (gP trivial) ?_;refine Zp (gP trivial) ?_;refine Zp (gP trivial) ?_;refine Zp (gP trivial) ?_;refine Zp (gP rfl) ?_;refine Ze (Xf rfl rfl rfl)<|Za rfl ?_;refine Zn fun a k=>?_
  have j:Below w1.heap.size w1 w2:=i
  exact ⟨k.sub ⟨X1 rfl (by first|rfl|(simp only [f,bs];done)|simp [f]),trivial⟩,j⟩
 rintro a w4 ⟨k,o⟩;have n:=btr n o;refine aB _ _ ?_
 refine Q6 (X3 k (Xt k rfl rfl) ?_)
 exact ⟨by simp [dOk, *],n⟩
theorem Xqv(w0:World)(n:Int) : Ret Tryz.prog 151 [vi n] w0 (fun v w=>v=.bool (dimS n)∧Below w0.heap.size w0 w):=by
 refine enter Tryz.func151 rfl 6 rfl rfl ?_;intro a hf
 have hW:=bz w0
 refine Zs hf fun _ aA=>?_;refine Za rfl<|Zx aA fun a hf _ aB=>?_;refine Zf (Xd (k:=6) (vs:=[vi 1,vi 2,vi 4,vi 8,vi 16,vi 32]) (zs:=[vi 1,vi 2,vi 4,vi 8,vi 16,vi 32]) rfl X8p Xj1 rfl rfl) ?_;rintro _ w1 ⟨b3,rfl,aC,hE,a9⟩;have aD:=Q0 hW.size aC;have hW:=btr hW hE;refine Zm rfl<|Zf (Vc (Xzp _ (some ⟨b3,0,none⟩) 6 ([1,2,4,8,16,32]) (Rd.of_blk a9 rfl _ a9.lt) n (by simp)) Xub) ?_;rintro _ w2 ⟨rfl,hE⟩;have hW:=btr hW hE;refine Za rfl<|Zt aB fun a hf=>?_
 refine Q6 (X3 hf (Xt hf rfl rfl) ?_)
 exact ⟨by simp [dimS],hW⟩
theorem Xxp(B:World)(m:Mx)(Am:Option Addr)(cm:Nat)(C:Rd B B.heap.size 86 encD Am m.cells)(b0:m.cells.length≤2305843009213693951) : Ret Tryz.prog 106 [.agg #[vi m.rows,vi m.cols,.slice Am m.cells.length cm]] B (fun v w=>v=.bool (mOk m)∧Below B.heap.size B w):=by
 refine enter Tryz.func106 rfl 37 rfl rfl ?_;intro a f
 have n:=bz B
 refine Zs f fun _ aR=>?_;refine Zf (X09 (zs:=[vi m.rows,vi m.cols,.slice Am m.cells.length cm]) rfl rfl) ?_;rintro _ w1 ⟨b3,rfl,aS,q,j⟩;have aY:=Q0 n.size aS;have n:=btr n q;refine Za rfl<|ZX aR fun a f _ aT=>?_;refine Q5 fun _ aU=>?_;refine X0a (fun a w=>Fr a 37 [(1,.pointer (some ⟨b3,0,none⟩)),(25,.bool (((!(dimS m.rows))||(!(dimS m.cols)))||((m.cells.length:Int) != (wr (m.rows*m.cols)))))]∧Below w1.heap.size w1 w) ?_ ?_
 ·have t:Below w1.heap.size w1 w1:=Below.refl _ _
  refine Zr f<|Ze (Vd rfl X11 0)<|Ze (X0 rfl X8 (j.at 0))<|Zf (Vc (Xqv _ m.rows) Xhg) ?_;rintro _ w2 ⟨rfl,q⟩;have j:=j.below q;have n:=btr n q;have t:=btr t q;refine Ze (X0o rfl)<|Zm rfl ?_
  refine Zg 9 rfl (fun g=>?_) (fun g=>?_)
  ·refine Zp (gP g) ?_;refine Zp (gP g) ?_;refine Zp (gP g) ?_;refine Zp (gP g) ?_;refine Ze (Xh rfl g rfl)<|Zm rfl<|Zp (gP rfl) ?_;refine Zp (gP rfl) ?_;refine Zp (gP rfl) ?_;refine Zp (gP rfl) ?_;refine Zp (gP rfl) ?_;refine Zp (gP rfl) ?_;refine Zp (gP rfl) ?_;refine Zp (gP rfl) ?_;refine Zp (gP rfl) ?_;refine Ze (Xh rfl rfl rfl) ?_;refine Zn fun a f=>?_
   have z:Below w1.heap.size w1 w2:=t
   exact ⟨f.sub ⟨rfl,X1 rfl (by first|rfl|(simp only [g,bs];done)|simp [g]),trivial⟩,z⟩
  refine Zv (gW g) (Vd rfl X0w 1) ?_;refine Zv (gW g) (X0 rfl X8 (j.at 1)) ?_;refine Zk (gW g) (Vc (Xqv _ m.cols) Xhg) ?_;rintro _ w3 ⟨rfl,q⟩;have j:=j.below q;have n:=btr n q;have t:=btr t q;refine Zv (gW g) (X0o rfl) ?_;refine Ze (Xf rfl g rfl)<|Zm rfl ?_
  refine Zg 15 rfl (fun e=>?_) (fun e=>?_)
  ·refine Zp (gP e) ?_;refine Zp (gP e) ?_;refine Zp (gP e) ?_;refine Zp (gP e) ?_;refine Zp (gP e) ?_;refine Zp (gP e) ?_;refine Zp (gP e) ?_;refine Zp (gP e) ?_;refine Zp (gP e) ?_;refine Ze (Xh rfl e rfl) ?_;refine Zn fun a f=>?_
   have z:Below w1.heap.size w1 w3:=t
   exact ⟨f.sub ⟨rfl,X1 rfl (by first|rfl|(simp only [g,e,bs];done)|simp [g,e]),trivial⟩,z⟩
  refine Zv (gW e) (Vd rfl X0v 2) ?_;refine Zv (gW e) (X0 rfl X0j (j.at 2)) ?_;refine Zv (gW e) (X23 rfl Xv) ?_;refine Zv (gW e) (Vd rfl X11 0) ?_;refine Zv (gW e) (X0 rfl X8 (j.at 0)) ?_;refine Zv (gW e) (Vd rfl X0w 1) ?_;refine Zv (gW e) (X0 rfl X8 (j.at 1)) ?_;refine Zv (gW e) (X2t rfl rfl) ?_;refine Zv (gW e) (X2m rfl rfl) ?_;refine Ze (Xf rfl e rfl) ?_;refine Zn fun a f=>?_
  have z:Below w1.heap.size w1 w3:=t
  exact ⟨f.sub ⟨rfl,X1 rfl (by first|rfl|(simp only [g,e,bs];done)|simp [g,e]),trivial⟩,z⟩
 rintro a w4 ⟨f,q⟩;have j:=j.below q;have n:=btr n q;refine aU _ _ ?_
 refine Xl f rfl (fun h=>?_) (fun h=>?_)
 ·have aE:=h
  have aF:mOk m=false:=by revert h;unfold mOk;rw [← X93,← X93];cases dimS m.rows<;>cases dimS m.cols<;>simp<;>exact fun h8 h9=>absurd h9 h8
  refine Zs f fun _ aW=>?_;refine Za rfl<|Zt aW fun a f=>?_;refine Q6<|X7<|X3 f (Xt f rfl rfl) ?_;exact ⟨by rw [aF],n⟩
 have aE:=h
 have aG:(isDimB m.rows&&isDimB m.cols&&(m.cells.length:Int)==wr (m.rows*m.cols))=true:=by revert h;rw [← X93,← X93];cases dimS m.rows<;>cases dimS m.cols<;>simp
 refine Q7<|aT _ _<|Q5 fun _ aH=>?_;refine Zs f fun _ aI=>?_;refine Ze (Vd rfl X0v 2)<|Ze (X0 rfl X0j (j.at 2))<|Ze (X23 rfl Xv)<|Zm rfl<|Zt aI fun a f=>?_;refine Q8<|X03 (σ:=Nat) (fun (k:Nat) (a:Act) (w:World)=>Fr a 37 [(27,.slice Am m.cells.length cm),(28,vi (m.cells.length:Int)),(29,vi (k:Int))]∧(k≤m.cells.length)∧((m.cells.take k).all (fun x=>dOk x)=true)∧Below B.heap.size B w) (fun (k:Nat)=>m.cells.length+1-k) 0 ?_ ?_
 ·exact ⟨f.sb,(Qf _),(by simp),n⟩
 rintro k a w5 ⟨f,hk,D,n⟩;refine Zs f fun _ aJ=>?_;refine Ze (X14 rfl rfl)<|ZX aJ fun a f _ aK=>?_
 refine Xl f rfl (fun o=>?_) (fun o=>?_)
 ·have a9:=o;have o:=Q2 o
  obtain ⟨i,A⟩:=Xq (l:=m.cells) (k:=k) (by omega)
  refine Q7<|aK _ _<|Q5 fun _ aL=>?_;refine Q8<|Zs f fun _ aM=>?_;refine Zi (k:=k) (u:=i) (enc:=encD) (l:=m.cells) trivial rfl rfl Xv Xa Xz (C.below' n) A rfl ?_;intro b1 aA;refine Ze (Xy (l:=[vi i.num.a,vi i.num.b,vi i.num.c,vi i.num.d,vi i.exp]) rfl X6 aA rfl)<|Zf (X4 (zs:=[vi 0,vi 0,vi 0,vi 0,vi 0]) X0l rfl) ?_;rintro _ w6 ⟨b2,rfl,E,q,y⟩;have aB:=Q0 n.size E;have aN:=(C.below' n).away E;have n:=btr n q;refine Zo (Vw [vi i.num.a,vi i.num.b,vi i.num.c,vi i.num.d,vi i.exp] Xa y) ?_;rintro _ w7 ⟨ho,hb⟩;have aZ:=y;have n:=Below.only n ho aB;have y:=hb;refine Zx aM fun a f _ aO=>?_;refine Ze (Vn X6 y)<|Zf (Vc (Xvi _ i) Xoa) ?_;rintro _ w8 ⟨rfl,q⟩;have n:=btr n q;refine Ze (X0o rfl)<|Zt aO fun a f=>?_
  refine Xl f rfl (fun p=>?_) (fun p=>?_)
  ·have aC:=p
   have aD:(m.cells.any fun x=>!dOk x)=true:=X51 A p
   refine Zs f fun _ aP=>?_;refine Za rfl<|Zt aP fun a f=>?_;refine Q6<|Xw<|X7<|X7 ?_;refine Xw<|X7<|X3 f (Xt f rfl rfl) ?_;exact ⟨by rw [mOk,aG,aD];rfl,n⟩
  have aC:=p
  have aX:dOk i=true:=by revert p;cases dOk i<;>simp
  refine Q7<|Xn<|aL _ _<|Zr f ?_;refine Ze (X01 rfl rfl (by omega) (by omega))<|Zm rfl ?_;refine Zn fun a f=>?_;refine Xm ?_;exact ⟨k+1,⟨f.sb,(by omega),(X3o D A aX),n⟩,(by omega)⟩
 have a9:=o;have o:=Q1 o;refine Q9<|Xk<|Xk<|X05 ?_;refine aH _ _<|Zs f fun _ aQ=>?_;refine Za rfl<|Zt aQ fun a f=>?_
 refine Q6 (X3 f (Xt f rfl rfl) ?_)
 have aD:(m.cells.any fun x=>!dOk x)=false:=X40 (by simpa using X36 D (by omega))
 exact ⟨by rw [mOk,aG,aD];rfl,n⟩
end Go.Proofs.YtnmabjfoiakapaaGreatDoor
namespace Go.Proofs.YtnmabjfoiakapaaGreatDoor
open Go.RowKit Go.ChangeShapes Go.WideShapes Go.Deep Go.Joins
section
variable {H : Type} {enc : TypeId × Value → H} {w : World} {base fuel : Nat} {spare : Nat → Bool} {held : Bool}
end
end Go.Proofs.YtnmabjfoiakapaaGreatDoor
namespace Go.Proofs.YtnmabjfoiakapaaGreatDoor
open Go.RowKit
theorem Xmd(w0:World)(x:Cx)(Ax:Option Addr)(cx:Nat)(aA:Rd w0 w0.heap.size 90 encG Ax x.gs)(hx:cOk x=true)(M9:Mx)(aB:opI x=some M9) : Ret Tryz.prog 67 [.agg #[vi x.n,.slice Ax x.gs.length cx]] w0 (fun v w=>∃ A c1,v=mV A c1 ((opI x).getD mZ)∧Rd w w.heap.size 86 encD A ((opI x).getD mZ).cells∧Below w0.heap.size w0 w):=by
 obtain ⟨hn,aK,aM⟩:=X2c hx;have t:=Xto hx aB
 obtain ⟨d,hd⟩ : ∃ d:Nat,d=2^x.n.toNat:=⟨_,rfl⟩
 rw [← hd] at t
 refine enter Tryz.func67 rfl 14 rfl rfl ?_;intro a hf
 have e:=bz w0
 refine Zs hf fun _ aE=>?_;refine Zf (X09 (zs:=[vi x.n,.slice Ax x.gs.length cx]) rfl rfl) ?_;rintro _ w1 ⟨b3,rfl,aF,c,f⟩;have aL:=Q0 e.size aF;have e:=btr e c;refine Zf (X4 (zs:=[vi 0,vi 0,.slice none 0 0]) X12 rfl) ?_;rintro _ w2 ⟨b5,rfl,aG,c,b⟩;have aC:=Q0 e.size aG;have f:=f.below c;have e:=btr e c;refine Zx aE fun a hf _ aH=>?_;refine Ze (Xg (ps:=[]) (cs:=[.bool false]) rfl (fun _=>by first|rfl|kernel_rfl))<|Zf (X09 (zs:=[.bool false]) rfl rfl) ?_;rintro _ w3 ⟨b7,rfl,aI,c,g⟩;have aD:=Q0 e.size aI;have f:=f.below c;have b:=b.below c;have e:=btr e c;refine Za rfl<|ZX aH fun a hf _ aJ=>?_;refine X07 (some b7) (fun j=>[8].contains j) mixed ?_;intro w4 c;have f:=f.below c;have b:=b.below c;have g:=g.below c;have e:=btr e c;refine Yb hf<|Yo 0 rfl (fun _=>Xb rfl) ?_;refine Yw 1 rfl trivial (fun w1 h1=>Xy (l:=[vi x.n,.slice Ax x.gs.length cx]) rfl X1p ((f.only h1 (Blk.ne f g rfl)).at 0) rfl) ?_;refine Yo 2 rfl (fun _=>Vd rfl X2i 0) ?_;refine Yw 3 rfl trivial (fun w1 h1=>X0 rfl X8 ((f.only h1 (Blk.ne f g rfl)).at 0)) ?_;refine Yo 4 rfl (fun _=>Xea (m:=x.n.toNat) Tryz.underlying3 Tryz.underlying99 rfl (by omega) (by omega))<|Yo 5 rfl (fun _=>Xbi (m:=x.n.toNat) (D:=d) rfl rfl rfl ⟨hd,by omega⟩)<|Y1 6 ?_;refine Yf rfl trivial (EfW.mono (Vc (Xux _ d (by rw [hd];exact X53 hn.2)) Xfm) (fun _ _ h=>⟨fun _=>by obtain ⟨A9,c9,rfl,o,c⟩:=h;exact Keep.of_below c,h⟩)) ?_;rintro _ w5 ⟨A9,c9,rfl,o,c⟩;have o:=o.lower e.size;have b:=b.below c;have g:=g.below c;have e:=btr e c;refine Y1 7<|Yf rfl trivial (EfW.mono (X1j (vs:=[.pointer (some ⟨b7,0,none⟩),.agg #[vi x.n,.slice Ax x.gs.length cx],.agg #[vi ((unitS d).rows),vi ((unitS d).cols),.slice A9 ((unitS d).cells).length c9]]) rfl Xkz (by have hq:=Xvh w5 b7 false g x Ax cx (aA.below' e).top (unitS d) A9 c9 o.rd.top hx (X3b (by rw [hd];exact X2u hn)).2 (by rw [← hd];rfl);rw [t] at hq;dsimp only at hq;exact hq)) (fun _ _ h=>⟨fun _=>by obtain ⟨p,q,rfl,i,hK,a9⟩:=h;exact hK.keep,h⟩)) ?_;rintro _ w6 ⟨p,q,rfl,i,hK,a9⟩
 obtain ⟨wm,hO,hm,c⟩:=hK.mid;clear hm;have k:=g;have b:=b.only hO (Blk.ne b k rfl);have e:=Below.only e hO aD;have b:=b.below c;have e:=btr e c
 clear k c hO hK;have g:=a9;clear a9;refine Y1 8<|Yh rfl trivial rfl (Vw [vi M9.rows,vi M9.cols,.slice p M9.cells.length q] X0c b) ?_;rintro _ w7 ⟨ho,hb⟩;have k:=b;have i:=i.onlyT ho k rfl;have e:=Below.only e ho aC;have b:=hb;refine Yd fun a hf=>?_;refine aJ _ _ ?_
 refine Q6 (X3 hf (Xt hf rfl (ResV.cellN (l:=[vi M9.rows,vi M9.cols,.slice p M9.cells.length q]) rfl Xp (b.at 0) rfl)) ?_)
 rw [aB]
 exact ⟨p,q,rfl,i.top,e⟩
def HalfT(w:World) : Prop:=∃ T F,w.heap[0]? = some (.cells (encD dHf).toArray T F)
theorem HalfT.of{w0 w:World}(h:HalfT w0)(hW:Below w0.heap.size w0 w) : HalfT w:=by
 obtain ⟨T,F,h⟩:=h;exact ⟨T,F,(hW.block 0 (Qp.1 h).1).trans h⟩
theorem HalfT.at{w:World}(h:HalfT w)(k:Nat) : At w ⟨0,k,none⟩ ((encD dHf).drop k):=by
 obtain ⟨T,F,h⟩:=h;intro j v hj
 have e:w.cell? ⟨0,k+j,none⟩=(encD dHf)[k+j]?:=by simp [World.cell?,h]
 rw [X1z,e,← hj,List.getElem?_drop]
def dCjI(x:Dy) : Option Dy:=if dOk x=true then some (dCj x) else none
theorem Xu2{x:Dy}(h:dOk x=false) : dCjI x=none:=by rw [dCjI,Q3 (by rw [h];decide)]
theorem Xgq{x:Dy}(h:dOk x=true) : dCjI x=some (dCj x):=by rw [dCjI,Q4 h]
theorem Xwb{x:Dy}(h:dOk x=true) : rIf1 (rCj x.num) [x.num]=rCj x.num:=by
 have h1:=(X1v h).1
 have:rIf2 (rCj x.num) [x.num]=true:=by simp [rIf2,h1,Xg7 h1]
 rw [rIf1,Q4 this]
def adjI(m:Mx) : Option Mx:=if mOk m=true then matOf m.cols m.rows fun i j=>dCjI (m.at j i) else none
theorem Xax{m:Mx}(h:mOk m=true) : adjI m=some (adjS m):=by
 have hd:=X1q h
 have e:(fun i j=>dCjI (m.at j i))=fun i j=>some (dCj (m.at j i)):=by
  funext i j;exact Xgq (Mx.at_ok (X18 h) j i)
 rw [adjI,Q4 h,e,X56 hd.2 hd.1];rfl
theorem X95{m:Mx}(h:mOk m=true) : m.cells.length≤2305843009213693951:=by
 have h1:=X2h h
 rw [h1.2.2]
 exact Q0 (Nat.mul_le_mul (show m.rows.toNat≤32 by omega) (show m.cols.toNat≤32 by omega)) (by decide)
theorem Xm4{m:Mx}(h:mOk m=true) : (adjS m).cells.length≤2305843009213693951:=X95 (X2o h)
theorem Xka{m:Mx}(h:mOk m=true)(hrc:m.rows=m.cols) : idI m.rows=some (unitS m.rows.toNat)∧mOk (unitS m.rows.toNat)=true:=by
 have hd:=(X1q h).1;have h1:=X21 hd
 have e:m.rows=((m.rows.toNat:Nat) : Int):=by omega
 have:=X3b (d:=m.rows.toNat) (by rw [← e];exact hd)
 rw [← e] at this
 exact this
theorem Xgo{a b c:Mx}(h:mulI a b=some c) : mOk c=true:=by
 have hc:(mOk a&&mOk b&&a.cols==b.rows)=true:=by unfold mulI at h;split at h;assumption;cases h
 simp only [Qd,beq_iff_eq] at hc
 exact ((X27 hc.1.1 hc.1.2 hc.2).1 c h).2.1
theorem Xod{o:Option Mx}(h:∀ c,o=some c→mOk c=true) : (o.getD mZ).cells.length≤2305843009213693951:=by
 cases o with
 | none=>exact Qf _
 | some c=>exact X95 (h c rfl)
theorem X7c(a b:Mx) : ((mulI a b).getD mZ).cells.length≤2305843009213693951:=Xod fun _ h=>Xgo h
theorem Xgx{m:Mx}(h:mOk m=false∨m.rows≠m.cols) : uniI m=(false,false):=by
 unfold uniI
 rw [Q3]
 simp only [Qd,beq_iff_eq]
 rintro ⟨h1,h2⟩
 rcases h with h|h
 ·rw [h1] at h;cases h
 ·exact h h2
theorem Xah{m:Mx}(h:mOk m=true)(hrc:m.rows=m.cols) : uniI m=((mulI m (adjS m)).isSome&&eqM ((mulI m (adjS m)).getD mZ) (unitS m.rows.toNat),(mulI m (adjS m)).isSome):=by
 unfold uniI
 rw [Q4 (by rw [h,hrc];simp)]
 cases mulI m (adjS m)<;>rfl
theorem Xnp{m:Mx}(h:(mOk m=false∨m.rows≠2)∨m.cols≠2) : oneQ m=false:=by
 cases e:oneQ m with
 | false=>rfl
 | true=>
  obtain ⟨_,h1,h2,h3⟩:=X43 e
  rcases h with (h|h)|h
  ·rw [h1] at h;cases h
  ·exact absurd h2 h
  ·exact absurd h3 h
theorem Xl3{m:Mx}(h:m.rows=2) : oneQ m=((uniI m).2&&(uniI m).1):=by
 unfold oneQ;rw [h];simp
theorem Xvq(w0:World)(x:Rg) : Ret Tryz.prog 160 [.agg #[vi x.a,vi x.b,vi x.c,vi x.d]] w0 (fun v w=>v=.tuple #[rV (rIf1 (rCj x) [x]),.bool (rIf2 (rCj x) [x])]∧Below w0.heap.size w0 w):=by
 refine enter Tryz.func160 rfl 21 rfl rfl ?_;intro a hf
 have g:=bz w0
 refine Zs hf fun _ aE=>?_;refine Zf (X09 (zs:=[vi x.a,vi x.b,vi x.c,vi x.d]) rfl rfl) ?_;rintro _ w1 ⟨b2,rfl,aF,i,e⟩;have aJ:=Q0 g.size aF;have g:=btr g i;refine Zf (X4 (zs:=[vi 0,vi 0,vi 0,vi 0]) X1y rfl) ?_;rintro _ w2 ⟨b3,rfl,aG,i,f⟩
 have aB:b2≠b3:=by have:=e.lt;omega
 have a9:=Q0 g.size aG;have e:=e.below i;have g:=btr g i;refine Za rfl<|Zx aE fun a hf _ aH=>?_;refine Ze (Vd rfl X0d 0)<|Ze (X0 rfl X8 (e.at 0))<|Ze (Vd rfl X0f 3)<|Ze (X0 rfl X8 (e.at 3))<|Ze (X80 rfl)<|Ze (Vd rfl X0e 2)<|Ze (X0 rfl X8 (e.at 2))<|Ze (X80 rfl)<|Ze (Vd rfl X0g 1)<|Ze (X0 rfl X8 (e.at 1)) ?_;refine Ze (X80 rfl)<|Ze (Xg (ps:=[(0,vi x.a),(1,vi (wr (-x.d))),(2,vi (wr (-x.c))),(3,vi (wr (-x.b)))]) (cs:=[vi x.a,vi (wr (-x.d)),vi (wr (-x.c)),vi (wr (-x.b))]) rfl (fun _=>by first|rfl|kernel_rfl))<|Ze (Vn X00 e)<|Zf (Xd (k:=1) (vs:=[.agg #[vi x.a,vi x.b,vi x.c,vi x.d]]) (zs:=[vi x.a,vi x.b,vi x.c,vi x.d]) rfl X4m X4h rfl rfl) ?_;rintro _ w3 ⟨b5,rfl,aI,i,aA⟩
 have aC:b2≠b5:=by have:=e.lt;omega
 have aD:b3≠b5:=by have:=f.lt;omega
 have aK:=Q0 g.size aI;have f:=f.below i;have g:=btr g i;refine Zf (Vc (Xip _ (⟨x.a,wr (-x.d),wr (-x.c),wr (-x.b)⟩ : Rg) (some ⟨b5,0,none⟩) 1 ([x]) (Rd.of_blk aA rfl _ aA.lt) rfl (by simp) (by simp)) X7z) ?_;rintro _ w4 ⟨rfl,i⟩;have f:=f.below i;have g:=btr g i;refine Ze (X2 (vs:=[.agg #[vi ((rIf1 (⟨x.a,wr (-x.d),wr (-x.c),wr (-x.b)⟩ : Rg) ([x])).a),vi ((rIf1 (⟨x.a,wr (-x.d),wr (-x.c),wr (-x.b)⟩ : Rg) ([x])).b),vi ((rIf1 (⟨x.a,wr (-x.d),wr (-x.c),wr (-x.b)⟩ : Rg) ([x])).c),vi ((rIf1 (⟨x.a,wr (-x.d),wr (-x.c),wr (-x.b)⟩ : Rg) ([x])).d)],.bool (rIf2 (⟨x.a,wr (-x.d),wr (-x.c),wr (-x.b)⟩ : Rg) ([x]))]) rfl rfl)<|Ze (X2 (vs:=[.agg #[vi ((rIf1 (⟨x.a,wr (-x.d),wr (-x.c),wr (-x.b)⟩ : Rg) ([x])).a),vi ((rIf1 (⟨x.a,wr (-x.d),wr (-x.c),wr (-x.b)⟩ : Rg) ([x])).b),vi ((rIf1 (⟨x.a,wr (-x.d),wr (-x.c),wr (-x.b)⟩ : Rg) ([x])).c),vi ((rIf1 (⟨x.a,wr (-x.d),wr (-x.c),wr (-x.b)⟩ : Rg) ([x])).d)],.bool (rIf2 (⟨x.a,wr (-x.d),wr (-x.c),wr (-x.b)⟩ : Rg) ([x]))]) rfl rfl)<|Zo (Vw [vi ((rIf1 (⟨x.a,wr (-x.d),wr (-x.c),wr (-x.b)⟩ : Rg) ([x])).a),vi ((rIf1 (⟨x.a,wr (-x.d),wr (-x.c),wr (-x.b)⟩ : Rg) ([x])).b),vi ((rIf1 (⟨x.a,wr (-x.d),wr (-x.c),wr (-x.b)⟩ : Rg) ([x])).c),vi ((rIf1 (⟨x.a,wr (-x.d),wr (-x.c),wr (-x.b)⟩ : Rg) ([x])).d)] X10 f) ?_;rintro _ w5 ⟨ho,hb⟩;have aL:=f;have g:=Below.only g ho a9;have f:=hb;refine Za rfl<|Zt aH fun a hf=>?_
 refine Q6 (X3 hf (X0r hf rfl (ResV.cellN (l:=[vi ((rIf1 (⟨x.a,wr (-x.d),wr (-x.c),wr (-x.b)⟩ : Rg) ([x])).a),vi ((rIf1 (⟨x.a,wr (-x.d),wr (-x.c),wr (-x.b)⟩ : Rg) ([x])).b),vi ((rIf1 (⟨x.a,wr (-x.d),wr (-x.c),wr (-x.b)⟩ : Rg) ([x])).c),vi ((rIf1 (⟨x.a,wr (-x.d),wr (-x.c),wr (-x.b)⟩ : Rg) ([x])).d)]) rfl X00 (f.at 0) rfl) rfl) ?_)
 exact ⟨rfl,g⟩
theorem Xx9(w0:World)(x:Dy) : Ret Tryz.prog 119 [.agg #[vi x.num.a,vi x.num.b,vi x.num.c,vi x.num.d,vi x.exp]] w0 (fun v w=>v=.tuple #[dV ((dCjI x).getD dZ),.bool ((dCjI x).isSome)]∧Below w0.heap.size w0 w):=by
 refine enter Tryz.func119 rfl 20 rfl rfl ?_;intro a j
 have g:=bz w0
 refine Zs j fun _ aE=>?_;refine Zf (X09 (zs:=[vi x.num.a,vi x.num.b,vi x.num.c,vi x.num.d,vi x.exp]) rfl rfl) ?_;rintro _ w1 ⟨b2,rfl,aF,i,f⟩;have aN:=Q0 g.size aF;have g:=btr g i;refine Zf (X4 (zs:=[vi 0,vi 0,vi 0,vi 0,vi 0]) X0l rfl) ?_;rintro _ w2 ⟨b3,rfl,aG,i,e⟩
 have aD:b2≠b3:=by have:=f.lt;omega
 have o:=Q0 g.size aG;have f:=f.below i;have g:=btr g i;refine Za rfl<|ZX aE fun a j _ aH=>?_;refine Zs j fun _ aI=>?_;refine Ze (Vn X6 f)<|Zf (Vc (Xaq _ x) X4q) ?_;rintro _ w3 ⟨rfl,i⟩;have f:=f.below i;have e:=e.below i;have g:=btr g i;refine Ze (X0o rfl)<|Zt aI fun a j=>?_
 refine Xl j rfl (fun m=>?_) (fun m=>?_)
 ·have a9:=m
  have aJ:dOk x=false:=by simpa using m
  refine Zs j fun _ aK=>?_;refine Ze (Xg (ps:=[]) (cs:=[vi 0,vi 0,vi 0,vi 0,vi 0]) rfl (fun _=>by first|rfl|kernel_rfl))<|Zo (Vw [vi 0,vi 0,vi 0,vi 0,vi 0] Xa e) ?_;rintro _ w4 ⟨ho,hb⟩;have k:=e;have g:=Below.only g ho o;have e:=hb;refine Za rfl<|Zt aK fun a j=>?_;refine Q6<|X7<|X3 j (X0r j rfl (ResV.cellN (l:=[vi 0,vi 0,vi 0,vi 0,vi 0]) rfl X6 (e.at 0) rfl) rfl) ?_;exact ⟨by rw [Xu2 aJ];rfl,g⟩
 have a9:=m
 have aA:dOk x=true:=by simpa using m
 refine Q7<|aH _ _<|Zs j fun _ aL=>?_;refine Ze (Vd rfl X19 0)<|Ze (Xy (l:=[vi x.num.a,vi x.num.b,vi x.num.c,vi x.num.d]) rfl X00 ((f.at 0).take 4) rfl)<|Zf (Vc (Xvq _ x.num) Xq9) ?_;rintro _ w5 ⟨rfl,i⟩;have f:=f.below i;have e:=e.below i;have g:=btr g i;refine Zm rfl<|Ze (X2 (vs:=[.agg #[vi ((rIf1 (rCj x.num) [x.num]).a),vi ((rIf1 (rCj x.num) [x.num]).b),vi ((rIf1 (rCj x.num) [x.num]).c),vi ((rIf1 (rCj x.num) [x.num]).d)],.bool (rIf2 (rCj x.num) [x.num])]) rfl rfl)<|Ze (X2 (vs:=[.agg #[vi ((rIf1 (rCj x.num) [x.num]).a),vi ((rIf1 (rCj x.num) [x.num]).b),vi ((rIf1 (rCj x.num) [x.num]).c),vi ((rIf1 (rCj x.num) [x.num]).d)],.bool (rIf2 (rCj x.num) [x.num])]) rfl rfl)<|Zf (X4 (zs:=[vi 0,vi 0,vi 0,vi 0]) X1y rfl) ?_;rintro _ w6 ⟨b9,rfl,aM,i,n⟩;have aB:=Q0 g.size aM;have f:=f.below i;have e:=e.below i;have g:=btr g i;refine Zo (Vw [vi ((rIf1 (rCj x.num) [x.num]).a),vi ((rIf1 (rCj x.num) [x.num]).b),vi ((rIf1 (rCj x.num) [x.num]).c),vi ((rIf1 (rCj x.num) [x.num]).d)] X10 n) ?_;rintro _ w7 ⟨ho,hb⟩;have k:=n;have f:=f.only ho (Blk.ne f k rfl);have e:=e.only ho (Blk.ne e k rfl);have g:=Below.only g ho aB;have n:=hb;refine Za rfl<|Zx aL fun a j _ aC=>?_;refine Ze (Vn X00 n)<|Ze (Vd rfl X0y 4)<|Ze (X0 rfl X8 (f.at 4))<|Ze (Xg (ps:=[(0,.agg #[vi ((rIf1 (rCj x.num) [x.num]).a),vi ((rIf1 (rCj x.num) [x.num]).b),vi ((rIf1 (rCj x.num) [x.num]).c),vi ((rIf1 (rCj x.num) [x.num]).d)]),(1,vi x.exp)]) (cs:=[vi ((rIf1 (rCj x.num) [x.num]).a),vi ((rIf1 (rCj x.num) [x.num]).b),vi ((rIf1 (rCj x.num) [x.num]).c),vi ((rIf1 (rCj x.num) [x.num]).d),vi x.exp]) rfl (fun _=>by first|rfl|kernel_rfl))<|Zo (Vw [vi ((rIf1 (rCj x.num) [x.num]).a),vi ((rIf1 (rCj x.num) [x.num]).b),vi ((rIf1 (rCj x.num) [x.num]).c),vi ((rIf1 (rCj x.num) [x.num]).d),vi x.exp] Xa e) ?_;rintro _ w8 ⟨ho,hb⟩
 have k:=e;have g:=Below.only g ho o;have e:=hb;refine Za rfl<|Zt aC fun a j=>?_
 refine Q6 (X3 j (X0r j rfl (ResV.cellN (l:=[vi ((rIf1 (rCj x.num) [x.num]).a),vi ((rIf1 (rCj x.num) [x.num]).b),vi ((rIf1 (rCj x.num) [x.num]).c),vi ((rIf1 (rCj x.num) [x.num]).d),vi x.exp]) rfl X6 (e.at 0) rfl) rfl) ?_)
 exact ⟨by rw [Xgq aA,Xwb aA];rfl,g⟩
theorem Xxz(w0:World)(p:Mx)(Aa:Option Addr)(ca:Nat)(ba:Nat)(a9:Rd w0 w0.heap.size 86 encD Aa p.cells)(g:Blk w0 ba 32 [vi p.rows,vi p.cols,.slice Aa p.cells.length ca])(aD:mOk p=true)(i j:Nat)(hi:(i:Int)<p.cols)(hj:(j:Int)<p.rows) : Ret Tryz.prog 118 [vi (i:Int),vi (j:Int),.pointer (some ⟨ba,0,none⟩)] w0 (fun v w=>v=.tuple #[dV ((dCjI (p.at j i)).getD dZ),.bool (dCjI (p.at j i)).isSome]∧Below w0.heap.size w0 w):=by
 have aE:=g.lt;refine enter Tryz.func118 rfl 14 rfl rfl ?_;intro a hf
 have f:=bz w0
 refine Zs hf fun _ aF=>?_;refine Zf (X4 (zs:=[vi 0,vi 0,vi 0,vi 0,vi 0]) X0l rfl) ?_;rintro _ w1 ⟨b3,rfl,aA,k,e⟩;have aB:=Q0 f.size aA;have aC:=(a9.below' f).away aA;have g:=g.below k;have f:=btr f k;refine Za rfl<|Zx aF fun a hf _ aG=>?_;refine Ze (Xy (l:=[vi p.rows,vi p.cols,.slice Aa p.cells.length ca]) rfl Xp (g.at 0) rfl)<|Zm rfl<|Zm rfl<|Zf (Vc (Xfl _ p Aa ca (a9.below' f).top j i aD hj hi) X6s) ?_;rintro _ w2 ⟨rfl,k⟩;have e:=e.below k;have f:=btr f k;refine Zf (Vc (Xx9 _ (p.at j i)) Xo7) ?_;rintro _ w3 ⟨rfl,k⟩;have e:=e.below k;have f:=btr f k;refine Ze (X2 (vs:=[.agg #[vi (((dCjI (p.at j i)).getD dZ).num.a),vi (((dCjI (p.at j i)).getD dZ).num.b),vi (((dCjI (p.at j i)).getD dZ).num.c),vi (((dCjI (p.at j i)).getD dZ).num.d),vi (((dCjI (p.at j i)).getD dZ).exp)],.bool ((dCjI (p.at j i)).isSome)]) rfl rfl)<|Ze (X2 (vs:=[.agg #[vi (((dCjI (p.at j i)).getD dZ).num.a),vi (((dCjI (p.at j i)).getD dZ).num.b),vi (((dCjI (p.at j i)).getD dZ).num.c),vi (((dCjI (p.at j i)).getD dZ).num.d),vi (((dCjI (p.at j i)).getD dZ).exp)],.bool ((dCjI (p.at j i)).isSome)]) rfl rfl)<|Zo (Vw [vi (((dCjI (p.at j i)).getD dZ).num.a),vi (((dCjI (p.at j i)).getD dZ).num.b),vi (((dCjI (p.at j i)).getD dZ).num.c),vi (((dCjI (p.at j i)).getD dZ).num.d),vi (((dCjI (p.at j i)).getD dZ).exp)] Xa e) ?_;rintro _ w4 ⟨ho,hb⟩;have aH:=e;have f:=Below.only f ho aB;have e:=hb;refine Za rfl<|Zt aG fun a hf=>?_
 refine Q6 (X3 hf (X0r hf rfl (ResV.cellN (l:=[vi (((dCjI (p.at j i)).getD dZ).num.a),vi (((dCjI (p.at j i)).getD dZ).num.b),vi (((dCjI (p.at j i)).getD dZ).num.c),vi (((dCjI (p.at j i)).getD dZ).num.d),vi (((dCjI (p.at j i)).getD dZ).exp)]) rfl X6 (e.at 0) rfl) rfl) ?_)
 exact ⟨rfl,f⟩
theorem Xrk(w0:World)(p:Mx)(Ap:Option Addr)(cp:Nat)(q:Rd w0 w0.heap.size 86 encD Ap p.cells)(aC:p.cells.length≤2305843009213693951) : Ret Tryz.prog 70 [.agg #[vi p.rows,vi p.cols,.slice Ap p.cells.length cp]] w0 (fun v w=>∃ A c,v=.tuple #[mV A c ((adjI p).getD mZ),.bool (adjI p).isSome]∧Own w w0.heap.size 86 5 encD A c ((adjI p).getD mZ).cells∧Below w0.heap.size w0 w):=by
 refine enter Tryz.func70 rfl 16 rfl rfl ?_;intro a g
 have d:=bz w0
 refine Zs g fun _ aD=>?_;refine Zf (X09 (zs:=[vi p.rows,vi p.cols,.slice Ap p.cells.length cp]) rfl rfl) ?_;rintro _ w1 ⟨b3,rfl,aE,k,e⟩;have aJ:=Q0 d.size aE;have d:=btr d k;refine Zf (X4 (zs:=[vi 0,vi 0,.slice none 0 0]) X12 rfl) ?_;rintro _ w2 ⟨b5,rfl,aF,k,b⟩
 have aB:b3≠b5:=by have:=e.lt;omega
 have t:=Q0 d.size aF;have e:=e.below k;have d:=btr d k;refine Za rfl<|ZX aD fun a g _ aG=>?_;refine Zs g fun _ aH=>?_;refine Ze (Vn Xp e)<|Zf (Vc (Xby _ p Ap cp (q.below' d).top aC) X57) ?_;rintro _ w3 ⟨rfl,k⟩;have e:=e.below k;have b:=b.below k;have d:=btr d k;refine Ze (X0o rfl)<|Zt aH fun a g=>?_
 refine Xl g rfl (fun m=>?_) (fun m=>?_)
 ·have a9:=m
  have hn:mOk p=false:=by simpa using m
  refine Zs g fun _ aI=>?_;refine Ze (Xg (ps:=[]) (cs:=[vi 0,vi 0,.slice none 0 0]) rfl (fun _=>by first|rfl|kernel_rfl))<|Zo (Vw [vi 0,vi 0,.slice none 0 0] X0c b) ?_;rintro _ w4 ⟨ho,hb⟩;have u:=b;have d:=Below.only d ho t;have b:=hb;refine Za rfl<|Zt aI fun a g=>?_;refine Q6<|X7<|X3 g (X0r g rfl (ResV.cellN (l:=[vi 0,vi 0,.slice none 0 0]) rfl Xp (b.at 0) rfl) rfl) ?_;exact ⟨none,0,by rw [adjI,hn];rfl,by rw [adjI,hn];exact (Own.nil _ _ _ _ _),d⟩
 have a9:=m
 have hy:mOk p=true:=by simpa using m
 refine Q7<|aG _ _<|Zs g fun _ aA=>?_;refine Ze (Vd rfl X0w 1)<|Ze (X0 rfl X8 (e.at 1))<|Ze (Vd rfl X11 0)<|Ze (X0 rfl X8 (e.at 0))<|Ze (X41 (vs:=[.pointer (some ⟨b3,0,none⟩)]) rfl)<|Zf (Vc (Xkf _ p.cols p.rows 118 [.pointer (some ⟨b3,0,none⟩)] Xoe (fun i j=>dCjI (p.at j i)) (fun i j w' hi hj hE'=>Xxz w' p _ _ _ ((q.below' d).below hE').top (e.below hE') hy i j hi hj)) X9j) ?_;rintro _ w5 ⟨n,o,rfl,f,k⟩;have f:=f.lower d.size;have b:=b.below k;have d:=btr d k;refine Ze (X2 (vs:=[.agg #[vi (((matOf p.cols p.rows (fun i j=>dCjI (p.at j i))).getD mZ).rows),vi (((matOf p.cols p.rows (fun i j=>dCjI (p.at j i))).getD mZ).cols),.slice n (((matOf p.cols p.rows (fun i j=>dCjI (p.at j i))).getD mZ).cells).length o],.bool ((matOf p.cols p.rows (fun i j=>dCjI (p.at j i))).isSome)]) rfl rfl)<|Ze (X2 (vs:=[.agg #[vi (((matOf p.cols p.rows (fun i j=>dCjI (p.at j i))).getD mZ).rows),vi (((matOf p.cols p.rows (fun i j=>dCjI (p.at j i))).getD mZ).cols),.slice n (((matOf p.cols p.rows (fun i j=>dCjI (p.at j i))).getD mZ).cells).length o],.bool ((matOf p.cols p.rows (fun i j=>dCjI (p.at j i))).isSome)]) rfl rfl)<|Zo (Vw [vi (((matOf p.cols p.rows (fun i j=>dCjI (p.at j i))).getD mZ).rows),vi (((matOf p.cols p.rows (fun i j=>dCjI (p.at j i))).getD mZ).cols),.slice n (((matOf p.cols p.rows (fun i j=>dCjI (p.at j i))).getD mZ).cells).length o] X0c b) ?_;rintro _ w6 ⟨ho,hb⟩;have u:=b;have f:=f.onlyT ho u rfl;have d:=Below.only d ho t;have b:=hb;refine Za rfl<|Zt aA fun a g=>?_
 refine Q6 (X3 g (X0r g rfl (ResV.cellN (l:=[vi (((matOf p.cols p.rows (fun i j=>dCjI (p.at j i))).getD mZ).rows),vi (((matOf p.cols p.rows (fun i j=>dCjI (p.at j i))).getD mZ).cols),.slice n (((matOf p.cols p.rows (fun i j=>dCjI (p.at j i))).getD mZ).cells).length o]) rfl Xp (b.at 0) rfl) rfl) ?_)
 exact ⟨n,o,by rw [adjI,Q4 hy],by rw [adjI,Q4 hy];exact f,d⟩
theorem Xwt(w0:World)(m:Mx)(Am:Option Addr)(cm:Nat)(y:Rd w0 w0.heap.size 86 encD Am m.cells)(a9:m.cells.length≤2305843009213693951) : Ret Tryz.prog 117 [.agg #[vi m.rows,vi m.cols,.slice Am m.cells.length cm]] w0 (fun v w=>v=.tuple #[.bool ((uniI m).1),.bool ((uniI m).2)]∧Below w0.heap.size w0 w):=by
 refine enter Tryz.func117 rfl 44 rfl rfl ?_;intro a j
 have e:=bz w0
 refine Zs j fun _ aQ=>?_;refine Zf (X09 (zs:=[vi m.rows,vi m.cols,.slice Am m.cells.length cm]) rfl rfl) ?_;rintro _ w1 ⟨b3,rfl,aR,f,b⟩;have aY:=Q0 e.size aR;have e:=btr e f;refine Za rfl<|Za rfl<|ZX aQ fun a j _ aS=>?_;refine Q5 fun _ aT=>?_;refine X0a (fun a w=>Fr a 44 [(1,.pointer (some ⟨b3,0,none⟩)),(19,.bool ((!(mOk m))||(m.rows != m.cols)))]∧Below w1.heap.size w1 w) ?_ ?_
 ·have p:Below w1.heap.size w1 w1:=Below.refl _ _
  refine Zr j<|Ze (Vn Xp b)<|Zf (Vc (Xby _ m Am cm (y.below' e).top a9) X57) ?_;rintro _ w2 ⟨rfl,f⟩;have b:=b.below f;have e:=btr e f;have p:=btr p f;refine Ze (X0o rfl)<|Zm rfl ?_
  refine Zg 13 rfl (fun g=>?_) (fun g=>?_)
  ·refine Zp (gP g) ?_;refine Zp (gP g) ?_;refine Zp (gP g) ?_;refine Zp (gP g) ?_;refine Zp (gP g) ?_;refine Ze (Xh rfl g rfl) ?_;refine Zn fun a j=>?_
   have t:Below w1.heap.size w1 w2:=p
   exact ⟨j.sub ⟨rfl,X1 rfl (by first|rfl|(simp only [g,bs];done)|simp [g]),trivial⟩,t⟩
  refine Zv (gW g) (Vd rfl X11 0) ?_;refine Zv (gW g) (X0 rfl X8 (b.at 0)) ?_;refine Zv (gW g) (Vd rfl X0w 1) ?_;refine Zv (gW g) (X0 rfl X8 (b.at 1)) ?_;refine Zv (gW g) (X2m rfl rfl) ?_;refine Ze (Xf rfl g rfl) ?_;refine Zn fun a j=>?_
  have t:Below w1.heap.size w1 w2:=p
  exact ⟨j.sub ⟨rfl,X1 rfl (by first|rfl|(simp only [g,bs];done)|simp [g]),trivial⟩,t⟩
 rintro a w3 ⟨j,f⟩;have b:=b.below f;have e:=btr e f;refine aT _ _ ?_
 refine Xl j rfl (fun z=>?_) (fun z=>?_)
 ·have q:=z
  have aF:=Xgx (by simpa using z:mOk m=false∨m.rows≠m.cols)
  refine Zs j fun _ aU=>?_;refine Za rfl<|Za rfl<|Zt aU fun a j=>?_;refine Q6<|X7<|X3 j (X0r j rfl rfl rfl) ?_;exact ⟨by rw [aF],e⟩
 have q:=z
 have aW:mOk m=true∧m.rows=m.cols:=by have h9:=z;revert h9;cases mOk m<;>simp
 obtain ⟨h,aG⟩:=aW;refine Q7<|aS _ _<|Zs j fun _ aX=>?_;refine Ze (Vn Xp b)<|Zf (X1j (vs:=[.agg #[vi m.rows,vi m.cols,.slice Am m.cells.length cm]]) rfl Xhx (by have hq:=Xrk w3 m Am cm (y.below' e).top a9;rw [Xax h,Qq,Option.isSome_some] at hq;exact hq)) ?_;rintro _ w4 ⟨A,B,rfl,k,f⟩;have k:=k.lower e.size;have b:=b.below f;have e:=btr e f;refine Zm rfl<|Ze (X2 (vs:=[.agg #[vi ((adjS m).rows),vi ((adjS m).cols),.slice A ((adjS m).cells).length B],.bool true]) rfl rfl)<|Ze (X2 (vs:=[.agg #[vi ((adjS m).rows),vi ((adjS m).cols),.slice A ((adjS m).cells).length B],.bool true]) rfl rfl)<|Zf (X4 (zs:=[vi 0,vi 0,.slice none 0 0]) X12 rfl) ?_;rintro _ w5 ⟨b12,rfl,aH,f,l⟩
 have aI:b3≠b12:=by have:=b.lt;omega
 have aA:=Q0 e.size aH;have b:=b.below f;have k:=k.below f;have e:=btr e f;refine Zo (Vw [vi ((adjS m).rows),vi ((adjS m).cols),.slice A ((adjS m).cells).length B] X0c l) ?_;rintro _ w6 ⟨x,hb⟩;have o:=l;have b:=b.only x (by omega);have k:=k.onlyT x o rfl;have e:=Below.only e x aA;have l:=hb;refine Za rfl<|Zx aX fun a j _ aJ=>?_;refine Ze (Vn Xp b)<|Ze (Vn Xp l)<|Zf (Vc (Xlv _ m Am cm (y.below' e).top (adjS m) A B k.rd.top a9 (Xm4 h)) Xa5) ?_;rintro _ w7 ⟨C,D,rfl,c,f⟩;have c:=c.lower e.size;have b:=b.below f;have l:=l.below f;have e:=btr e f;refine Zm rfl<|Ze (X2 (vs:=[.agg #[vi (((mulI m (adjS m)).getD mZ).rows),vi (((mulI m (adjS m)).getD mZ).cols),.slice C (((mulI m (adjS m)).getD mZ).cells).length D],.bool ((mulI m (adjS m)).isSome)]) rfl rfl)<|Ze (X2 (vs:=[.agg #[vi (((mulI m (adjS m)).getD mZ).rows),vi (((mulI m (adjS m)).getD mZ).cols),.slice C (((mulI m (adjS m)).getD mZ).cells).length D],.bool ((mulI m (adjS m)).isSome)]) rfl rfl)<|Zf (X4 (zs:=[vi 0,vi 0,.slice none 0 0]) X12 rfl) ?_;rintro _ w8 ⟨b16,rfl,aK,f,i⟩
 have aL:b3≠b16:=by have:=b.lt;omega
 have aD:b12≠b16:=by have:=l.lt;omega
 have aB:=Q0 e.size aK;have b:=b.below f;have c:=c.below f;have e:=btr e f;refine Zo (Vw [vi (((mulI m (adjS m)).getD mZ).rows),vi (((mulI m (adjS m)).getD mZ).cols),.slice C (((mulI m (adjS m)).getD mZ).cells).length D] X0c i) ?_;rintro _ w9 ⟨x,hb⟩;have o:=i;have b:=b.only x (by omega);have c:=c.onlyT x o rfl;have e:=Below.only e x aB;have i:=hb;refine Za rfl<|Zx aJ fun a j _ aM=>?_;refine Ze (Vd rfl X11 0)<|Ze (X0 rfl X8 (b.at 0))<|Zf (X1j (vs:=[vi m.rows]) rfl Xk8 (by have hq:=Xxq w9 m.rows;rw [(Xka h aG).1,Qq,Option.isSome_some] at hq;exact hq)) ?_;rintro _ aZ ⟨E,G,rfl,n,f⟩;have n:=n.lower e.size;have b:=b.below f;have i:=i.below f;have c:=c.below f;have e:=btr e f;refine Zm rfl<|Ze (X2 (vs:=[.agg #[vi ((unitS m.rows.toNat).rows),vi ((unitS m.rows.toNat).cols),.slice E ((unitS m.rows.toNat).cells).length G],.bool true]) rfl rfl)<|Ze (X2 (vs:=[.agg #[vi ((unitS m.rows.toNat).rows),vi ((unitS m.rows.toNat).cols),.slice E ((unitS m.rows.toNat).cells).length G],.bool true]) rfl rfl)<|Zf (X4 (zs:=[vi 0,vi 0,.slice none 0 0]) X12 rfl) ?_;rintro _ b0 ⟨b20,rfl,aN,f,u⟩
 have aO:b3≠b20:=by have:=b.lt;omega
 have aE:b16≠b20:=by have:=i.lt;omega
 have aC:=Q0 e.size aN;have i:=i.below f;have c:=c.below f;have n:=n.below f;have e:=btr e f;refine Zo (Vw [vi ((unitS m.rows.toNat).rows),vi ((unitS m.rows.toNat).cols),.slice E ((unitS m.rows.toNat).cells).length G] X0c u) ?_;rintro _ w12 ⟨x,hb⟩;have o:=u;have i:=i.only x (by omega);have c:=c.onlyT x o rfl;have n:=n.onlyT x o rfl;have e:=Below.only e x aC;have u:=hb;refine Za rfl<|ZX aM fun a j _ aP=>?_;refine X0a (fun a w=>Fr a 44 [(2,.bool (((mulI m (adjS m)).isSome)&&(decide (((mulI m (adjS m)).getD mZ).rows=(unitS m.rows.toNat).rows)&&decide (((mulI m (adjS m)).getD mZ).cols=(unitS m.rows.toNat).cols)&&decide (((mulI m (adjS m)).getD mZ).cells=(unitS m.rows.toNat).cells)))),(3,.bool ((mulI m (adjS m)).isSome))]∧Below w12.heap.size w12 w) ?_ ?_
 ·have p:Below w12.heap.size w12 w12:=Below.refl _ _
  refine Zr j<|Zm rfl<|Zm rfl ?_
  refine Zg 38 rfl (fun d=>?_) (fun d=>?_)
  ·refine Zv (gW d) (Vn Xp i) ?_;refine Zv (gW d) (Vn Xp u) ?_;refine Zk (gW d) (Vc (Xxo _ ((mulI m (adjS m)).getD mZ) C D c.rd.top (unitS m.rows.toNat) E G n.rd.top (X7c m (adjS m))) Xln) ?_;rintro _ w13 ⟨rfl,f⟩;have e:=btr e f;have p:=btr p f;refine Ze (Xh rfl d rfl)<|Zm rfl<|Za rfl<|Za rfl ?_;refine Zn fun a j=>?_
   have t:Below w12.heap.size w12 w13:=p
   exact ⟨j.sub ⟨X1 rfl (by first|rfl|(simp only [q,d,bs];done)|simp [q,d]),rfl,trivial⟩,t⟩
  refine Zp (gP d) ?_;refine Zp (gP d) ?_;refine Zp (gP d) ?_;refine Ze (Xf rfl d rfl)<|Zm rfl<|Za rfl<|Za rfl ?_;refine Zn fun a j=>?_
  have t:Below w12.heap.size w12 w12:=p
  exact ⟨j.sub ⟨X1 rfl (by first|rfl|(simp only [q,d,bs];done)|simp [q,d]),rfl,trivial⟩,t⟩
 rintro a b1 ⟨j,f⟩;have e:=btr e f;refine aP _ _ ?_
 refine Q6 (X3 j (X0r j rfl rfl rfl) ?_)
 exact ⟨by rw [Xah h aG];rfl,e⟩
theorem Xvm(w0:World)(m:Mx)(Am:Option Addr)(cm:Nat)(o:Rd w0 w0.heap.size 86 encD Am m.cells)(a9:m.cells.length≤2305843009213693951) : Ret Tryz.prog 69 [.agg #[vi m.rows,vi m.cols,.slice Am m.cells.length cm]] w0 (fun v w=>v=.bool (oneQ m)∧Below w0.heap.size w0 w):=by
 refine enter Tryz.func69 rfl 27 rfl rfl ?_;intro a e
 have i:=bz w0
 refine Zs e fun _ aD=>?_;refine Zf (X09 (zs:=[vi m.rows,vi m.cols,.slice Am m.cells.length cm]) rfl rfl) ?_;rintro _ w1 ⟨b3,rfl,aE,n,f⟩;have aK:=Q0 i.size aE;have i:=btr i n;refine Za rfl<|ZX aD fun a e _ aF=>?_;refine Q5 fun _ aG=>?_;refine X0a (fun a w=>Fr a 27 [(1,.pointer (some ⟨b3,0,none⟩)),(17,.bool (((!(mOk m))||(m.rows != 2))||(m.cols != 2)))]∧Below w1.heap.size w1 w) ?_ ?_
 ·have j:Below w1.heap.size w1 w1:=Below.refl _ _
  refine Zr e<|Ze (Vn Xp f)<|Zf (Vc (Xby _ m Am cm (o.below' i).top a9) X57) ?_;rintro _ w2 ⟨rfl,n⟩;have f:=f.below n;have i:=btr i n;have j:=btr j n;refine Ze (X0o rfl)<|Zm rfl ?_
  refine Zg 8 rfl (fun b=>?_) (fun b=>?_)
  ·refine Zp (gP b) ?_;refine Zp (gP b) ?_;refine Zp (gP b) ?_;refine Ze (Xh rfl b rfl)<|Zm rfl<|Zp (gP rfl) ?_;refine Zp (gP rfl) ?_;refine Zp (gP rfl) ?_;refine Ze (Xh rfl rfl rfl) ?_;refine Zn fun a e=>?_
   have k:Below w1.heap.size w1 w2:=j
   exact ⟨e.sub ⟨rfl,X1 rfl (by first|rfl|(simp only [b,bs];done)|simp [b]),trivial⟩,k⟩
  refine Zv (gW b) (Vd rfl X11 0) ?_;refine Zv (gW b) (X0 rfl X8 (f.at 0)) ?_;refine Zv (gW b) (X2m rfl rfl) ?_;refine Ze (Xf rfl b rfl)<|Zm rfl ?_
  refine Zg 13 rfl (fun d=>?_) (fun d=>?_)
  ·refine Zp (gP d) ?_;refine Zp (gP d) ?_;refine Zp (gP d) ?_;refine Ze (Xh rfl d rfl) ?_;refine Zn fun a e=>?_
   have k:Below w1.heap.size w1 w2:=j
   exact ⟨e.sub ⟨rfl,X1 rfl (by first|rfl|(simp only [b,d,bs];done)|simp [b,d]),trivial⟩,k⟩
  refine Zv (gW d) (Vd rfl X0w 1) ?_;refine Zv (gW d) (X0 rfl X8 (f.at 1)) ?_;refine Zv (gW d) (X2m rfl rfl) ?_;refine Ze (Xf rfl d rfl) ?_;refine Zn fun a e=>?_
  have k:Below w1.heap.size w1 w2:=j
  exact ⟨e.sub ⟨rfl,X1 rfl (by first|rfl|(simp only [b,d,bs];done)|simp [b,d]),trivial⟩,k⟩
 rintro a w3 ⟨e,n⟩;have f:=f.below n;have i:=btr i n;refine aG _ _ ?_
 refine Xl e rfl (fun l=>?_) (fun l=>?_)
 ·have g:=l
  have aA:=Xnp (by simpa using l:(mOk m=false∨m.rows≠2)∨m.cols≠2)
  refine Zs e fun _ aH=>?_;refine Za rfl<|Zt aH fun a e=>?_;refine Q6<|X7<|X3 e (Xt e rfl rfl) ?_;exact ⟨by rw [aA],i⟩
 have g:=l
 have aI:(mOk m=true∧m.rows=2)∧m.cols=2:=by have h9:=l;revert h9;cases mOk m<;>simp
 obtain ⟨⟨aL,aJ⟩,aM⟩:=aI;refine Q7<|aF _ _<|Zs e fun _ aB=>?_;refine Ze (Vn Xp f)<|Zf (Vc (Xwt _ m Am cm (o.below' i).top a9) Xpu) ?_;rintro _ w4 ⟨rfl,n⟩;have i:=btr i n;refine Zm rfl<|Ze (X2 (vs:=[.bool ((uniI m).1),.bool ((uniI m).2)]) rfl rfl)<|Ze (X2 (vs:=[.bool ((uniI m).1),.bool ((uniI m).2)]) rfl rfl)<|Za rfl<|Za rfl<|ZX aB fun a e _ aC=>?_;refine X0a (fun a w=>Fr a 27 [(2,.bool (((uniI m).2)&&((uniI m).1)))]∧w4=w) ?_ ?_
 ·refine Zr e<|Zm rfl<|Zm rfl ?_
  refine Zg 24 rfl (fun c=>?_) (fun c=>?_)
  ·refine Zv (gW c) (Xb rfl) ?_;refine Ze (Xh rfl c rfl)<|Za rfl ?_;refine Zn fun a e=>?_;exact ⟨e.sub ⟨X1 rfl (by first|rfl|(simp only [g,c,bs];done)|simp [g,c]),trivial⟩,rfl⟩
  refine Zp (gP c) ?_;refine Ze (Xf rfl c rfl)<|Za rfl ?_;refine Zn fun a e=>?_;exact ⟨e.sub ⟨X1 rfl (by first|rfl|(simp only [g,c,bs];done)|simp [g,c]),trivial⟩,rfl⟩
 rintro a _ ⟨e,rfl⟩;refine aC _ _ ?_
 refine Q6 (X3 e (Xt e rfl rfl) ?_)
 exact ⟨by rw [Xl3 aJ];try rfl,i⟩
def trN(m:Mx) : Nat→Option Dy
 | 0=>some dZ
 | n+1=>(trN m n).bind fun s=>dAddI s (m.at n n)
def trI(m:Mx) : Option Dy:=if (mOk m&&m.rows==m.cols)=true then trN m m.rows.toNat else none
theorem Xm5{m:Mx}(h:mOk m=false∨m.rows≠m.cols) : trI m=none:=by
 unfold trI
 rw [Q3]
 simp only [Qd,beq_iff_eq]
 rintro ⟨h1,h2⟩
 rcases h with h|h
 ·rw [h1] at h;cases h
 ·exact h h2
theorem Xll{o:Option Dy}{x:Dy}{b:Bool}(h:(o.getD dZ,o.isSome)=(x,b))(hb:b=true) : o=some x:=by
 cases o with
 | none=>injection h with h1 h2;rw [hb] at h2;cases h2
 | some y=>injection h with h1 h2;exact congrArg some h1
theorem Xk0{m:Mx}{i:Nat}{x:Dy}{b:Bool}(h:((trN m i).getD dZ,(trN m i).isSome)=(x,b))(hb:b=true) : ((trN m (i+1)).getD dZ,(trN m (i+1)).isSome)=((dAddI x (m.at i i)).getD dZ,(dAddI x (m.at i i)).isSome):=by
 rw [trN,Xll h hb,Qz]
theorem Xkb{m:Mx}{i:Nat}(h:trN m i=none) : ∀ n,i≤n→trN m n=none:=fun n hn=>by
 induction n with
 | zero=>rw [show i=0 by omega] at h;exact h
 | succ n ih=>
  by_cases e:i=n+1
  ·rw [← e];exact h
  ·rw [trN,ih (by omega)];rfl
theorem Xn3{m:Mx}{i:Nat}{x:Dy}{b:Bool}(hm:mOk m=true)(hrc:m.rows=m.cols)(hi:(i:Int)≤m.rows)(h:((trN m i).getD dZ,(trN m i).isSome)=(x,b))(hst:b=true→m.rows≤(i:Int)) : ((trI m).getD dZ,(trI m).isSome)=(x,b):=by
 have e:trI m=trN m m.rows.toNat:=by rw [trI,Q4 (by rw [hm,hrc];simp)]
 rw [e]
 cases b with
 | true=>
  have:=hst rfl
  rw [show m.rows.toNat=i by omega];exact h
 | false=>
  cases e2:trN m i with
  | none=>rw [Xkb e2 m.rows.toNat (by omega)];rw [e2] at h;exact h
  | some y=>rw [e2] at h;injection h with _ h2;cases h2
theorem Xlk{w:World}{b:Nat}{T:TypeId}(h:Blk w b T [.int .i64 2,.int .i64 3,.int .i64 4]){i:Nat}(hi:i<3) : At w ⟨b,i*1,none⟩ (.int .i64 (2+(i:Int))::([.int .i64 2,.int .i64 3,.int .i64 4] : List Value).drop (i+1)):=by
 have h1:=h.at i
 rw [Nat.mul_one]
 rcases lt3 hi with rfl|rfl|rfl<;>exact h1
theorem Xdi{i:Nat}(hi:i<3) : gateI 1 ⟨2+(i:Int),0,0⟩=some (pauM i):=by
 have h:gOk 1 (⟨2+(i:Int),0,0⟩ : Gt)=true:=by rcases lt3 hi with rfl|rfl|rfl<;>decide
 exact (X4i h).1
theorem X3s{i:Nat}(hi:i<3) : mOk (pauM i)=true:=(X2p hi).ok
theorem Xke(i:Nat) : (pauM i).cells.length≤2305843009213693951:=by
 unfold pauM gateS
 rw [X2f];decide
theorem Xj6(q:Mx) : mulI mZ q=none:=by
 have h:mOk mZ=false:=by decide
 unfold mulI;rw [Q3 (by rw [h,Bool.false_and,Bool.false_and];decide)]
theorem Xb2{a b c:Mx}(h:mulI a b=some c)(hr:a.rows=2)(hc:b.cols=2) : mOk c=true∧c.rows=2∧c.cols=2:=by
 obtain ⟨_,q2,q3,_⟩:=X87 h;exact ⟨Xgo h,by rw [q2,hr],by rw [q3,hc]⟩
theorem Xtb{m:Mx}(hm:mOk m=true)(hr:m.rows=2)(hc:m.cols=2) : trI m=dAddI (m.at 0 0) (m.at 1 1):=by
 rw [trI,Q4 (by rw [hm,hr,hc];rfl),hr]
 show ((some dZ).bind fun s=>dAddI s (m.at 0 0)).bind (fun s=>dAddI s (m.at 1 1))=_
 rw [Qz,(Xii (Mx.at_ok (X18 hm) 0 0)).1,Qz]
theorem Xiv{m:Mx}(hm0:mOk m=true)(hr:m.rows=2)(hc:m.cols=2){i j:Nat}(hi:i<3)(hj:j<3) :
  ((dMulI ((trI ((mulI ((mulI ((mulI (pauM i) m).getD mZ) (pauM j)).getD mZ) (adjS m)).getD mZ)).getD dZ) dHf).getD dZ,(mulI (pauM i) m).isSome&&(mulI ((mulI (pauM i) m).getD mZ) (pauM j)).isSome&&(mulI ((mulI ((mulI (pauM i) m).getD mZ) (pauM j)).getD mZ) (adjS m)).isSome&&(trI ((mulI ((mulI ((mulI (pauM i) m).getD mZ) (pauM j)).getD mZ) (adjS m)).getD mZ)).isSome&&(dMulI ((trI ((mulI ((mulI ((mulI (pauM i) m).getD mZ) (pauM j)).getD mZ) (adjS m)).getD mZ)).getD dZ) dHf).isSome)=((celB m i j).getD dZ,(celB m i j).isSome):=by
 have t0:trI mZ=none:=Xm5 (.inl (by decide))
 have d0:dMulI dZ dHf=some dZ:=by kernel_rfl
 have pi:=X2p hi
 have pj:=X2p hj
 unfold celB
 cases h1:mulI (pauM i) m with
 | none=>simp only [Option.getD_none,Xj6,t0,d0,Option.bind_none,Option.isSome_none,Bool.false_and,Qq]
 | some x=>
  simp only [Qq,Qz,Option.isSome_some,Qw]
  cases h2:mulI x (pauM j) with
  | none=>simp only [Option.getD_none,Xj6,t0,d0,Option.bind_none,Option.isSome_none,Bool.false_and,Qq]
  | some y=>
   simp only [Qq,Qz,Option.isSome_some,Qw]
   cases h3:mulI y (adjS m) with
   | none=>simp only [Option.getD_none,t0,d0,Option.bind_none,Option.isSome_none,Bool.false_and,Qq]
   | some z=>
    obtain ⟨_,a2,a3⟩:=Xb2 h1 pi.r hc;obtain ⟨_,b2,bm3⟩:=Xb2 h2 a2 pj.c;obtain ⟨c1,c2,c3⟩:=Xb2 h3 b2 (show (adjS m).cols=2 from hr)
    simp only [Qq,Qz,Option.isSome_some,Qw]
    rw [Xtb c1 c2 c3]
    cases dAddI (z.at 0 0) (z.at 1 1) with
    | none=>simp only [Option.getD_none,d0,Option.bind_none,Option.isSome_none,Bool.false_and,Qq]
    | some t=>simp only [Qq,Qz,Option.isSome_some,Qw]
theorem Xwq(D:World)(m:Mx)(Am:Option Addr)(cm:Nat)(z:Rd D D.heap.size 86 encD Am m.cells)(aO:m.cells.length≤2305843009213693951) : Ret Tryz.prog 122 [.agg #[vi m.rows,vi m.cols,.slice Am m.cells.length cm]] D (fun v w=>v=.tuple #[dV ((trI m).getD dZ),.bool ((trI m).isSome)]∧Below D.heap.size D w):=by
 refine enter Tryz.func122 rfl 39 rfl rfl ?_;intro a n
 have k:=bz D
 refine Zs n fun _ aP=>?_;refine Zf (X09 (zs:=[vi m.rows,vi m.cols,.slice Am m.cells.length cm]) rfl rfl) ?_;rintro _ w1 ⟨b3,rfl,aQ,o,e⟩;have b0:=Q0 k.size aQ;have k:=btr k o;refine Zf (X4 (zs:=[vi 0,vi 0,vi 0,vi 0,vi 0]) X0l rfl) ?_;rintro _ w2 ⟨b4,rfl,aC,o,f⟩;have E:=Q0 k.size aC;have aN:=(z.below' k).away aC;have e:=e.below o;have k:=btr k o;refine Za rfl<|ZX aP fun a n _ aR=>?_;refine Q5 fun _ aS=>?_;refine X0a (fun a w=>Fr a 39 [(1,.pointer (some ⟨b3,0,none⟩)),(2,.pointer (some ⟨b4,0,none⟩)),(16,.bool ((!(mOk m))||(m.rows != m.cols)))]∧Below w2.heap.size w2 w) ?_ ?_
 ·have C:Below w2.heap.size w2 w2:=Below.refl _ _
  refine Zr n<|Ze (Vn Xp e)<|Zf (Vc (Xby _ m Am cm (z.below' k).top aO) X57) ?_;rintro _ w3 ⟨rfl,o⟩;have e:=e.below o;have k:=btr k o;have C:=btr C o;refine Ze (X0o rfl)<|Zm rfl ?_
  refine Zg 10 rfl (fun p=>?_) (fun p=>?_)
  ·refine Zp (gP p) ?_;refine Zp (gP p) ?_;refine Zp (gP p) ?_;refine Zp (gP p) ?_;refine Zp (gP p) ?_;refine Ze (Xh rfl p rfl) ?_;refine Zn fun a n=>?_
   have a9:Below w2.heap.size w2 w3:=C
   exact ⟨n.sub ⟨rfl,rfl,X1 rfl (by first|rfl|(simp only [p,bs];done)|simp [p]),trivial⟩,a9⟩
  refine Zv (gW p) (Vd rfl X11 0) ?_;refine Zv (gW p) (X0 rfl X8 (e.at 0)) ?_;refine Zv (gW p) (Vd rfl X0w 1) ?_;refine Zv (gW p) (X0 rfl X8 (e.at 1)) ?_;refine Zv (gW p) (X2m rfl rfl) ?_;refine Ze (Xf rfl p rfl) ?_;refine Zn fun a n=>?_
  have a9:Below w2.heap.size w2 w3:=C
  exact ⟨n.sub ⟨rfl,rfl,X1 rfl (by first|rfl|(simp only [p,bs];done)|simp [p]),trivial⟩,a9⟩
 rintro a w4 ⟨n,o⟩;have e:=e.below o;have f:=f.below o;have k:=btr k o;refine aS _ _ ?_
 refine Xl n rfl (fun h=>?_) (fun h=>?_)
 ·have t:=h
  have aD:=Xm5 (by simpa using h:mOk m=false∨m.rows≠m.cols)
  refine Zs n fun _ aT=>?_;refine Ze (Xg (ps:=[]) (cs:=[vi 0,vi 0,vi 0,vi 0,vi 0]) rfl (fun _=>by first|rfl|kernel_rfl))<|Zo (Vw [vi 0,vi 0,vi 0,vi 0,vi 0] Xa f) ?_;rintro _ w5 ⟨A,hb⟩;have u:=f;have k:=Below.only k A E;have f:=hb;refine Za rfl<|Zt aT fun a n=>?_;refine Q6<|X7<|X3 n (X0r n rfl (ResV.cellN (l:=[vi 0,vi 0,vi 0,vi 0,vi 0]) rfl X6 (f.at 0) rfl) rfl) ?_;exact ⟨by rw [aD];rfl,k⟩
 have t:=h
 have aU:mOk m=true∧m.rows=m.cols:=by have h9:=h;revert h9;cases mOk m<;>simp
 obtain ⟨aA,aW⟩:=aU;have b1:=X21 (X1q aA).1;refine Q7<|aR _ _<|Zs n fun _ aE=>?_;refine Ze (Xg (ps:=[]) (cs:=[vi 0,vi 0,vi 0,vi 0,vi 0]) rfl (fun _=>by first|rfl|kernel_rfl))<|Zf (X4 (zs:=[vi 0,vi 0,vi 0,vi 0,vi 0]) X0l rfl) ?_;rintro _ w6 ⟨b11,rfl,G,o,g⟩
 have aF:b4≠b11:=by have:=f.lt;omega
 have B:=Q0 k.size G;have aG:=(z.below' k).away G;have e:=e.below o;have f:=f.below o;have k:=btr k o;refine Zo (Vw [vi 0,vi 0,vi 0,vi 0,vi 0] Xa g) ?_;rintro _ w7 ⟨A,hb⟩;have u:=g;have e:=e.only A (Blk.ne e u rfl);have f:=f.only A (by omega);have k:=Below.only k A B;have g:=hb;refine Za rfl<|ZX aE fun a n _ aH=>?_;refine Zs n fun _ aI=>?_;refine Za rfl<|Zt aI fun a n=>?_;refine Q8<|X03 (σ:=Nat×Dy×Bool) (fun (s:Nat×Dy×Bool) (a:Act) (w:World)=>match s with|(i,x,b)=>Fr a 39 [(1,.pointer (some ⟨b3,0,none⟩)),(2,.pointer (some ⟨b4,0,none⟩)),(4,.pointer (some ⟨b11,0,none⟩)),(5,.bool b),(6,vi (i:Int))]∧((i:Int)≤m.rows)∧(((trN m i).getD dZ,(trN m i).isSome)=(x,b))∧Blk w b3 32 [vi m.rows,vi m.cols,.slice Am m.cells.length cm]∧Blk w b4 86 [vi 0,vi 0,vi 0,vi 0,vi 0]∧Blk w b11 86 [vi x.num.a,vi x.num.b,vi x.num.c,vi x.num.d,vi x.exp]∧Below D.heap.size D w) (fun (s:Nat×Dy×Bool)=>match s with|(i,x,b)=>m.rows.toNat+1-i) (0,dZ,true) ?_ ?_
 ·exact ⟨n.sb,(by omega),rfl,e,f,g,k⟩
 rintro ⟨i,x,b⟩ a w8 ⟨n,hi,hx,e,f,g,k⟩;refine Q5 fun _ aJ=>?_;refine Q5 fun _ aK=>?_;refine X0a (fun a w=>Fr a 39 [(1,.pointer (some ⟨b3,0,none⟩)),(2,.pointer (some ⟨b4,0,none⟩)),(4,.pointer (some ⟨b11,0,none⟩)),(5,.bool b),(6,vi (i:Int)),(25,.bool ((decide ((i:Int)<m.rows))&&b))]∧w8=w) ?_ ?_
 ·refine Zr n<|Zm rfl<|Ze (Vd rfl X11 0)<|Ze (X0 rfl X8 (e.at 0))<|Ze (X14 rfl rfl)<|Zm rfl ?_
  refine Zg 23 rfl (fun q=>?_) (fun q=>?_)
  ·refine Zv (gW q) (Xb rfl) ?_;refine Ze (Xh rfl q rfl) ?_;refine Zn fun a n=>?_;exact ⟨n.sub ⟨rfl,rfl,rfl,rfl,rfl,X1 rfl (by first|rfl|(simp only [t,q,bs];done)|simp [t,q]),trivial⟩,rfl⟩
  refine Zp (gP q) ?_;refine Ze (Xf rfl q rfl) ?_;refine Zn fun a n=>?_;exact ⟨n.sub ⟨rfl,rfl,rfl,rfl,rfl,X1 rfl (by first|rfl|(simp only [t,q,bs];done)|simp [t,q]),trivial⟩,rfl⟩
 rintro a _ ⟨n,rfl⟩;refine aK _ _ ?_
 refine Xl n rfl (fun y=>?_) (fun y=>?_)
 ·have aB:=y
  have aX:(i:Int)<m.rows∧b=true:=by have h9:=y;revert h9;cases b<;>simp
  obtain ⟨b2,aY⟩:=aX;refine Q7<|aJ _ _<|Q5 fun _ aL=>?_;refine Q8<|X07 none (fun j=>[9].contains j) mixed ?_;intro w9 o;have e:=e.below o;have f:=f.below o;have g:=g.below o;have k:=btr k o;refine Yb n<|Ye 0 rfl (Vn X6 g)<|Ye 1 rfl (Vn Xp e)<|Yo 2 rfl (fun _=>Xb rfl)<|Yo 3 rfl (fun _=>Xb rfl)<|Y1 4 ?_;refine Yk rfl trivial (Vc (Xfl _ m Am cm (z.below' k).top i i aA (by omega) (by omega)) X6s) (fun _ _ ⟨_,o⟩=>o) ?_;rintro _ b5 ⟨rfl,o⟩;have e:=e.below o;have f:=f.below o;have g:=g.below o;have k:=btr k o;refine Y1 5<|Yk rfl trivial (Vc (Xot _ x (m.at i i)) Xcx) (fun _ _ ⟨_,o⟩=>o) ?_;rintro _ b6 ⟨rfl,o⟩;have e:=e.below o;have f:=f.below o;have g:=g.below o;have k:=btr k o;refine Yo 6 rfl (fun _=>Xb rfl)<|Yo 7 rfl (fun _=>X2 (vs:=[.agg #[vi (((dAddI x (m.at i i)).getD dZ).num.a),vi (((dAddI x (m.at i i)).getD dZ).num.b),vi (((dAddI x (m.at i i)).getD dZ).num.c),vi (((dAddI x (m.at i i)).getD dZ).num.d),vi (((dAddI x (m.at i i)).getD dZ).exp)],.bool ((dAddI x (m.at i i)).isSome)]) rfl rfl)<|Yo 8 rfl (fun _=>X2 (vs:=[.agg #[vi (((dAddI x (m.at i i)).getD dZ).num.a),vi (((dAddI x (m.at i i)).getD dZ).num.b),vi (((dAddI x (m.at i i)).getD dZ).num.c),vi (((dAddI x (m.at i i)).getD dZ).num.d),vi (((dAddI x (m.at i i)).getD dZ).exp)],.bool ((dAddI x (m.at i i)).isSome)]) rfl rfl)<|Y1 9 ?_;refine Yh rfl trivial rfl (Vw [vi (((dAddI x (m.at i i)).getD dZ).num.a),vi (((dAddI x (m.at i i)).getD dZ).num.b),vi (((dAddI x (m.at i i)).getD dZ).num.c),vi (((dAddI x (m.at i i)).getD dZ).num.d),vi (((dAddI x (m.at i i)).getD dZ).exp)] Xa g) ?_;rintro _ b7 ⟨A,hb⟩;have u:=g;have e:=e.only A (Blk.ne e u rfl);have f:=f.only A (by omega)
  have k:=Below.only k A B;have g:=hb;refine Yo 10 rfl (fun _=>X0p rfl) ?_;refine Yd fun a n=>?_;refine Xn<|aL _ _<|Zr n<|Zm rfl<|Ze (X01 rfl rfl (by omega) (by omega))<|Za rfl ?_;refine Zn fun a n=>?_;refine Xm ?_;exact ⟨(i+1,((dAddI x (m.at i i)).getD dZ),(dAddI x (m.at i i)).isSome),⟨n.sb,(by omega),(Xk0 hx aY),e,f,g,k⟩,(by first|omega|(dsimp only;omega))⟩
 have aB:=y
 have aZ:b=true→m.rows≤(i:Int):=by intro h0;subst h0;have h9:=y;revert h9;simp
 refine Q9<|Xk<|Xk<|X05 ?_;refine aH _ _<|Zs n fun _ aM=>?_;refine Ze (Vn X6 g)<|Zm rfl<|Zo (Vw [vi x.num.a,vi x.num.b,vi x.num.c,vi x.num.d,vi x.exp] Xa f) ?_;rintro _ b8 ⟨A,hb⟩;have u:=f;have k:=Below.only k A E;have f:=hb;refine Za rfl<|Zt aM fun a n=>?_
 refine Q6 (X3 n (X0r n rfl (ResV.cellN (l:=[vi x.num.a,vi x.num.b,vi x.num.c,vi x.num.d,vi x.exp]) rfl X6 (f.at 0) rfl) rfl) ?_)
 have h9:=Xn3 aA aW hi hx aZ
 injection h9 with h91 h92
 exact ⟨by rw [h91,h92],k⟩
theorem Xvv(w0:World)(m:Mx)(Am:Option Addr)(cm:Nat)(W:Rd w0 w0.heap.size 86 encD Am m.cells)(p:Mx)(Ap:Option Addr)(cp:Nat)(a9:Rd w0 w0.heap.size 86 encD Ap p.cells)(i:Nat)(j:Nat)(cG:m.cells.length≤2305843009213693951)(cH:oneQ m=true)(aZ:p=adjS m)(aC:i<3)(aD:j<3)(cJ:HalfT w0) : Ret Tryz.prog 71 [.agg #[vi m.rows,vi m.cols,.slice Am m.cells.length cm],.agg #[vi p.rows,vi p.cols,.slice Ap p.cells.length cp],vi (i:Int),vi (j:Int)] w0 (fun v w=>v=.tuple #[dV ((celB m i j).getD dZ),.bool ((celB m i j).isSome)]∧Below w0.heap.size w0 w):=by
 obtain ⟨_,b0,cK,cM⟩:=X43 cH
 have cO:p.cells.length≤2305843009213693951:=by rw [aZ];exact Xm4 b0
 refine enter Tryz.func71 rfl 83 rfl rfl ?_;intro a L
 have f:=bz w0
 refine Zs L fun _ cP=>?_;refine Zf (X09 (zs:=[vi m.rows,vi m.cols,.slice Am m.cells.length cm]) rfl rfl) ?_;rintro _ w1 ⟨b4,rfl,cQ,n,t⟩;have cV:=Q0 f.size cQ;have f:=btr f n;refine Zf (X09 (zs:=[vi p.rows,vi p.cols,.slice Ap p.cells.length cp]) rfl rfl) ?_;rintro _ w2 ⟨b5,rfl,cR,n,o⟩
 have cD:b4≠b5:=by have:=t.lt;omega
 have cW:=Q0 f.size cR;have t:=t.below n;have f:=btr f n;refine Zf (X4 (zs:=[vi 0,vi 0,vi 0,vi 0,vi 0]) X0l rfl) ?_;rintro _ w3 ⟨b6,rfl,aO,n,e⟩;have Q:=Q0 f.size aO;have cE:=(W.below' f).away aO;have cF:=(a9.below' f).away aO;have t:=t.below n;have o:=o.below n;have f:=btr f n;refine Za rfl<|Zx cP fun a L _ cS=>?_;refine Ze (Xg (ps:=[(0,vi 2),(1,vi 3),(2,vi 4)]) (cs:=[vi 2,vi 3,vi 4]) rfl (fun _=>by first|rfl|kernel_rfl))<|Zf (X4 (zs:=[vi 0,vi 0,vi 0]) Xs7 rfl) ?_;rintro _ w4 ⟨b8,rfl,cT,n,I⟩;have b1:=Q0 f.size cT;have t:=t.below n;have o:=o.below n;have e:=e.below n;have f:=btr f n;refine Zo (Vw [vi 2,vi 3,vi 4] Xpj I) ?_;rintro _ w5 ⟨u,J⟩;have g:=I;have t:=t.only u (Blk.ne t g rfl);have o:=o.only u (Blk.ne o g rfl);have e:=e.only u (Blk.ne e g rfl);have f:=Below.only f u b1;have I:=J;refine Zx cS fun a L _ cU=>?_;refine Zm rfl<|Ze (Xbx (k:=i) rfl rfl Tryz.underlying162 X5w rfl aC (Nat.zero_add _))<|Ze (X0 rfl X8 (Xlk I aC))<|Ze (Xg (ps:=[(0,vi (2+(i:Int)))]) (cs:=[vi (2+(i:Int)),vi 0,vi 0]) rfl (fun _=>by first|rfl|kernel_rfl))<|Zf (X1j (vs:=[vi 1,.agg #[vi (2+(i:Int)),vi 0,vi 0]]) rfl Xa4 (by have hq:=Xjp w5 1 (⟨(2+(i:Int)),0,0⟩ : Gt);rw [Xdi aC,Qq,Option.isSome_some] at hq;exact hq)) ?_;rintro _ w6 ⟨aE,aF,rfl,z,n⟩;have b2:=z.awayNew e.lt;have z:=z.lower f.size;have t:=t.below n;have o:=o.below n;have e:=e.below n;have I:=I.below n;have f:=btr f n;refine Zm rfl<|Ze (X2 (vs:=[.agg #[vi ((pauM i).rows),vi ((pauM i).cols),.slice aE ((pauM i).cells).length aF],.bool true]) rfl rfl)<|Ze (X2 (vs:=[.agg #[vi ((pauM i).rows),vi ((pauM i).cols),.slice aE ((pauM i).cells).length aF],.bool true]) rfl rfl)<|Zf (X4 (zs:=[vi 0,vi 0,.slice none 0 0]) X12 rfl) ?_;rintro _ w7 ⟨b12,rfl,b3,n,h⟩
 have b7:b4≠b12:=by have:=t.lt;omega
 have b9:b5≠b12:=by have:=o.lt;omega
 have aP:=Q0 f.size b3;have t:=t.below n;have o:=o.below n;have e:=e.below n;have I:=I.below n;have z:=z.below n;have f:=btr f n;refine Zo (Vw [vi ((pauM i).rows),vi ((pauM i).cols),.slice aE ((pauM i).cells).length aF] X0c h) ?_;rintro _ w8 ⟨u,J⟩;have g:=h;have t:=t.only u (by omega);have o:=o.only u (by omega);have e:=e.only u (Blk.ne e g rfl);have I:=I.only u (Blk.ne I g rfl);have z:=z.onlyT u g rfl;have f:=Below.only f u aP;have h:=J;refine Za rfl<|Zx cU fun a L _ bC=>?_;refine Zm rfl<|Ze (Xbx (k:=j) rfl rfl Tryz.underlying162 X5w rfl aD (Nat.zero_add _))<|Ze (X0 rfl X8 (Xlk I aD))<|Ze (Xg (ps:=[(0,vi (2+(j:Int)))]) (cs:=[vi (2+(j:Int)),vi 0,vi 0]) rfl (fun _=>by first|rfl|kernel_rfl))<|Zf (X1j (vs:=[vi 1,.agg #[vi (2+(j:Int)),vi 0,vi 0]]) rfl Xa4 (by have hq:=Xjp w8 1 (⟨(2+(j:Int)),0,0⟩ : Gt);rw [Xdi aD,Qq,Option.isSome_some] at hq;exact hq)) ?_;rintro _ w9 ⟨aG,aH,rfl,A,n⟩;have bD:=A.awayNew e.lt;have A:=A.lower f.size;have t:=t.below n;have o:=o.below n;have e:=e.below n;have h:=h.below n;have z:=z.below n;have f:=btr f n;refine Zm rfl<|Ze (X2 (vs:=[.agg #[vi ((pauM j).rows),vi ((pauM j).cols),.slice aG ((pauM j).cells).length aH],.bool true]) rfl rfl)<|Ze (X2 (vs:=[.agg #[vi ((pauM j).rows),vi ((pauM j).cols),.slice aG ((pauM j).cells).length aH],.bool true]) rfl rfl)<|Zf (X4 (zs:=[vi 0,vi 0,.slice none 0 0]) X12 rfl) ?_;rintro _ cX ⟨b16,rfl,bE,n,C⟩
 have bF:b4≠b16:=by have:=t.lt;omega
 have bG:b5≠b16:=by have:=o.lt;omega
 have aT:b12≠b16:=by have:=h.lt;omega
 have aQ:=Q0 f.size bE;have t:=t.below n;have o:=o.below n;have e:=e.below n;have h:=h.below n;have z:=z.below n;have A:=A.below n;have f:=btr f n;refine Zo (Vw [vi ((pauM j).rows),vi ((pauM j).cols),.slice aG ((pauM j).cells).length aH] X0c C) ?_;rintro _ d5 ⟨u,J⟩;have g:=C;have t:=t.only u (by omega);have o:=o.only u (by omega);have e:=e.only u (Blk.ne e g rfl);have h:=h.only u (by omega);have z:=z.onlyT u g rfl;have A:=A.onlyT u g rfl;have f:=Below.only f u aQ;have C:=J;refine Za rfl<|Zx bC fun a L _ bH=>?_;refine Ze (Vn Xp h)<|Ze (Vn Xp t)<|Zf (Vc (Xlv _ (pauM i) aE aF z.rd.top m Am cm (W.below' f).top (Xke _) cG) Xa5) ?_;rintro _ d6 ⟨aI,aJ,rfl,H,n⟩;have bI:=H.awayNew e.lt;have H:=H.lower f.size;have t:=t.below n;have o:=o.below n;have e:=e.below n;have h:=h.below n;have C:=C.below n;have A:=A.below n;have f:=btr f n;refine Zm rfl<|Ze (X2 (vs:=[.agg #[vi (((mulI (pauM i) m).getD mZ).rows),vi (((mulI (pauM i) m).getD mZ).cols),.slice aI (((mulI (pauM i) m).getD mZ).cells).length aJ],.bool ((mulI (pauM i) m).isSome)]) rfl rfl)<|Ze (X2 (vs:=[.agg #[vi (((mulI (pauM i) m).getD mZ).rows),vi (((mulI (pauM i) m).getD mZ).cols),.slice aI (((mulI (pauM i) m).getD mZ).cells).length aJ],.bool ((mulI (pauM i) m).isSome)]) rfl rfl)<|Zf (X4 (zs:=[vi 0,vi 0,.slice none 0 0]) X12 rfl) ?_;rintro _ d7 ⟨b20,rfl,bJ,n,x⟩
 have bK:b4≠b20:=by have:=t.lt;omega
 have bL:b5≠b20:=by have:=o.lt;omega
 have aU:b12≠b20:=by have:=h.lt;omega
 have aW:b16≠b20:=by have:=C.lt;omega
 have U:=Q0 f.size bJ;have o:=o.below n;have e:=e.below n;have C:=C.below n;have A:=A.below n;have H:=H.below n;have f:=btr f n;refine Zo (Vw [vi (((mulI (pauM i) m).getD mZ).rows),vi (((mulI (pauM i) m).getD mZ).cols),.slice aI (((mulI (pauM i) m).getD mZ).cells).length aJ] X0c x) ?_;rintro _ d8 ⟨u,J⟩;have g:=x;have o:=o.only u (by omega);have e:=e.only u (Blk.ne e g rfl);have C:=C.only u (by omega);have A:=A.onlyT u g rfl;have H:=H.onlyT u g rfl;have f:=Below.only f u U;have x:=J;refine Za rfl<|Zx bH fun a L _ bM=>?_;refine Ze (Vn Xp x)<|Ze (Vn Xp C)<|Zf (Vc (Xlv _ ((mulI (pauM i) m).getD mZ) aI aJ H.rd.top (pauM j) aG aH A.rd.top (X7c _ _) (Xke _)) Xa5) ?_;rintro _ d9 ⟨aK,aL,rfl,N,n⟩;have bN:=N.awayNew e.lt;have N:=N.lower f.size;have o:=o.below n;have e:=e.below n;have x:=x.below n;have f:=btr f n;refine Zm rfl<|Ze (X2 (vs:=[.agg #[vi (((mulI ((mulI (pauM i) m).getD mZ) (pauM j)).getD mZ).rows),vi (((mulI ((mulI (pauM i) m).getD mZ) (pauM j)).getD mZ).cols),.slice aK (((mulI ((mulI (pauM i) m).getD mZ) (pauM j)).getD mZ).cells).length aL],.bool ((mulI ((mulI (pauM i) m).getD mZ) (pauM j)).isSome)]) rfl rfl)<|Ze (X2 (vs:=[.agg #[vi (((mulI ((mulI (pauM i) m).getD mZ) (pauM j)).getD mZ).rows),vi (((mulI ((mulI (pauM i) m).getD mZ) (pauM j)).getD mZ).cols),.slice aK (((mulI ((mulI (pauM i) m).getD mZ) (pauM j)).getD mZ).cells).length aL],.bool ((mulI ((mulI (pauM i) m).getD mZ) (pauM j)).isSome)]) rfl rfl)<|Zo (Vw [vi (((mulI ((mulI (pauM i) m).getD mZ) (pauM j)).getD mZ).rows),vi (((mulI ((mulI (pauM i) m).getD mZ) (pauM j)).getD mZ).cols),.slice aK (((mulI ((mulI (pauM i) m).getD mZ) (pauM j)).getD mZ).cells).length aL] X0c x) ?_;rintro _ dA ⟨u,J⟩
 have g:=x;have o:=o.only u (by omega);have e:=e.only u (Blk.ne e g rfl);have N:=N.onlyT u g rfl;have f:=Below.only f u U;have x:=J;refine Za rfl<|Zx bM fun a L _ bO=>?_;refine Ze (Vn Xp x)<|Ze (Vn Xp o)<|Zf (Vc (Xlv _ ((mulI ((mulI (pauM i) m).getD mZ) (pauM j)).getD mZ) aK aL N.rd.top p Ap cp (a9.below' f).top (X7c _ _) cO) Xa5) ?_;rintro _ dB ⟨aM,aN,rfl,E,n⟩;have bP:=E.awayNew e.lt;have E:=E.lower f.size;have e:=e.below n;have x:=x.below n;have f:=btr f n;refine Zm rfl<|Ze (X2 (vs:=[.agg #[vi (((mulI ((mulI ((mulI (pauM i) m).getD mZ) (pauM j)).getD mZ) p).getD mZ).rows),vi (((mulI ((mulI ((mulI (pauM i) m).getD mZ) (pauM j)).getD mZ) p).getD mZ).cols),.slice aM (((mulI ((mulI ((mulI (pauM i) m).getD mZ) (pauM j)).getD mZ) p).getD mZ).cells).length aN],.bool ((mulI ((mulI ((mulI (pauM i) m).getD mZ) (pauM j)).getD mZ) p).isSome)]) rfl rfl)<|Ze (X2 (vs:=[.agg #[vi (((mulI ((mulI ((mulI (pauM i) m).getD mZ) (pauM j)).getD mZ) p).getD mZ).rows),vi (((mulI ((mulI ((mulI (pauM i) m).getD mZ) (pauM j)).getD mZ) p).getD mZ).cols),.slice aM (((mulI ((mulI ((mulI (pauM i) m).getD mZ) (pauM j)).getD mZ) p).getD mZ).cells).length aN],.bool ((mulI ((mulI ((mulI (pauM i) m).getD mZ) (pauM j)).getD mZ) p).isSome)]) rfl rfl)<|Zo (Vw [vi (((mulI ((mulI ((mulI (pauM i) m).getD mZ) (pauM j)).getD mZ) p).getD mZ).rows),vi (((mulI ((mulI ((mulI (pauM i) m).getD mZ) (pauM j)).getD mZ) p).getD mZ).cols),.slice aM (((mulI ((mulI ((mulI (pauM i) m).getD mZ) (pauM j)).getD mZ) p).getD mZ).cells).length aN] X0c x) ?_;rintro _ dC ⟨u,J⟩;have g:=x;have e:=e.only u (Blk.ne e g rfl);have E:=E.onlyT u g rfl;have f:=Below.only f u U;have x:=J
 refine Za rfl<|Zx bO fun a L _ bQ=>?_;refine Ze (Vn Xp x)<|Zf (Vc (Xwq _ ((mulI ((mulI ((mulI (pauM i) m).getD mZ) (pauM j)).getD mZ) p).getD mZ) aM aN E.rd.top (X7c _ _)) Xna) ?_;rintro _ dD ⟨rfl,n⟩;have e:=e.below n;have E:=E.below n;have f:=btr f n;refine Zm rfl<|Ze (X2 (vs:=[.agg #[vi (((trI ((mulI ((mulI ((mulI (pauM i) m).getD mZ) (pauM j)).getD mZ) p).getD mZ)).getD dZ).num.a),vi (((trI ((mulI ((mulI ((mulI (pauM i) m).getD mZ) (pauM j)).getD mZ) p).getD mZ)).getD dZ).num.b),vi (((trI ((mulI ((mulI ((mulI (pauM i) m).getD mZ) (pauM j)).getD mZ) p).getD mZ)).getD dZ).num.c),vi (((trI ((mulI ((mulI ((mulI (pauM i) m).getD mZ) (pauM j)).getD mZ) p).getD mZ)).getD dZ).num.d),vi (((trI ((mulI ((mulI ((mulI (pauM i) m).getD mZ) (pauM j)).getD mZ) p).getD mZ)).getD dZ).exp)],.bool ((trI ((mulI ((mulI ((mulI (pauM i) m).getD mZ) (pauM j)).getD mZ) p).getD mZ)).isSome)]) rfl rfl)<|Ze (X2 (vs:=[.agg #[vi (((trI ((mulI ((mulI ((mulI (pauM i) m).getD mZ) (pauM j)).getD mZ) p).getD mZ)).getD dZ).num.a),vi (((trI ((mulI ((mulI ((mulI (pauM i) m).getD mZ) (pauM j)).getD mZ) p).getD mZ)).getD dZ).num.b),vi (((trI ((mulI ((mulI ((mulI (pauM i) m).getD mZ) (pauM j)).getD mZ) p).getD mZ)).getD dZ).num.c),vi (((trI ((mulI ((mulI ((mulI (pauM i) m).getD mZ) (pauM j)).getD mZ) p).getD mZ)).getD dZ).num.d),vi (((trI ((mulI ((mulI ((mulI (pauM i) m).getD mZ) (pauM j)).getD mZ) p).getD mZ)).getD dZ).exp)],.bool ((trI ((mulI ((mulI ((mulI (pauM i) m).getD mZ) (pauM j)).getD mZ) p).getD mZ)).isSome)]) rfl rfl)<|Zf (X4 (zs:=[vi 0,vi 0,vi 0,vi 0,vi 0]) X0l rfl) ?_;rintro _ dE ⟨b26,rfl,aA,n,M⟩
 have bR:b6≠b26:=by have:=e.lt;omega
 have aR:=Q0 f.size aA;have bS:=(W.below' f).away aA;have bU:=(a9.below' f).away aA;have aX:=E.away aA;have e:=e.below n;have f:=btr f n;refine Zo (Vw [vi (((trI ((mulI ((mulI ((mulI (pauM i) m).getD mZ) (pauM j)).getD mZ) p).getD mZ)).getD dZ).num.a),vi (((trI ((mulI ((mulI ((mulI (pauM i) m).getD mZ) (pauM j)).getD mZ) p).getD mZ)).getD dZ).num.b),vi (((trI ((mulI ((mulI ((mulI (pauM i) m).getD mZ) (pauM j)).getD mZ) p).getD mZ)).getD dZ).num.c),vi (((trI ((mulI ((mulI ((mulI (pauM i) m).getD mZ) (pauM j)).getD mZ) p).getD mZ)).getD dZ).num.d),vi (((trI ((mulI ((mulI ((mulI (pauM i) m).getD mZ) (pauM j)).getD mZ) p).getD mZ)).getD dZ).exp)] Xa M) ?_;rintro _ dF ⟨u,J⟩;have g:=M;have e:=e.only u (by omega);have f:=Below.only f u aR;have M:=J;refine Za rfl<|Zx bQ fun a L _ bW=>?_;refine Ze (Vn X6 M)<|Ze (Xy (l:=[vi dHf.num.a,vi dHf.num.b,vi dHf.num.c,vi dHf.num.d,vi dHf.exp]) rfl X6 ((cJ.of f).at 0) rfl)<|Zf (Vc (Xas _ ((trI ((mulI ((mulI ((mulI (pauM i) m).getD mZ) (pauM j)).getD mZ) p).getD mZ)).getD dZ) dHf) X4n) ?_;rintro _ dG ⟨rfl,n⟩;have e:=e.below n;have M:=M.below n;have f:=btr f n;refine Zm rfl<|Ze (X2 (vs:=[.agg #[vi (((dMulI ((trI ((mulI ((mulI ((mulI (pauM i) m).getD mZ) (pauM j)).getD mZ) p).getD mZ)).getD dZ) dHf).getD dZ).num.a),vi (((dMulI ((trI ((mulI ((mulI ((mulI (pauM i) m).getD mZ) (pauM j)).getD mZ) p).getD mZ)).getD dZ) dHf).getD dZ).num.b),vi (((dMulI ((trI ((mulI ((mulI ((mulI (pauM i) m).getD mZ) (pauM j)).getD mZ) p).getD mZ)).getD dZ) dHf).getD dZ).num.c),vi (((dMulI ((trI ((mulI ((mulI ((mulI (pauM i) m).getD mZ) (pauM j)).getD mZ) p).getD mZ)).getD dZ) dHf).getD dZ).num.d),vi (((dMulI ((trI ((mulI ((mulI ((mulI (pauM i) m).getD mZ) (pauM j)).getD mZ) p).getD mZ)).getD dZ) dHf).getD dZ).exp)],.bool ((dMulI ((trI ((mulI ((mulI ((mulI (pauM i) m).getD mZ) (pauM j)).getD mZ) p).getD mZ)).getD dZ) dHf).isSome)]) rfl rfl)<|Ze (X2 (vs:=[.agg #[vi (((dMulI ((trI ((mulI ((mulI ((mulI (pauM i) m).getD mZ) (pauM j)).getD mZ) p).getD mZ)).getD dZ) dHf).getD dZ).num.a),vi (((dMulI ((trI ((mulI ((mulI ((mulI (pauM i) m).getD mZ) (pauM j)).getD mZ) p).getD mZ)).getD dZ) dHf).getD dZ).num.b),vi (((dMulI ((trI ((mulI ((mulI ((mulI (pauM i) m).getD mZ) (pauM j)).getD mZ) p).getD mZ)).getD dZ) dHf).getD dZ).num.c),vi (((dMulI ((trI ((mulI ((mulI ((mulI (pauM i) m).getD mZ) (pauM j)).getD mZ) p).getD mZ)).getD dZ) dHf).getD dZ).num.d),vi (((dMulI ((trI ((mulI ((mulI ((mulI (pauM i) m).getD mZ) (pauM j)).getD mZ) p).getD mZ)).getD dZ) dHf).getD dZ).exp)],.bool ((dMulI ((trI ((mulI ((mulI ((mulI (pauM i) m).getD mZ) (pauM j)).getD mZ) p).getD mZ)).getD dZ) dHf).isSome)]) rfl rfl)<|Zf (X4 (zs:=[vi 0,vi 0,vi 0,vi 0,vi 0]) X0l rfl) ?_;rintro _ dH ⟨b28,rfl,aB,n,q⟩
 have bZ:b6≠b28:=by have:=e.lt;omega
 have aY:b26≠b28:=by have:=M.lt;omega
 have aS:=Q0 f.size aB;have cA:=(W.below' f).away aB;have cB:=(a9.below' f).away aB;have e:=e.below n;have f:=btr f n;refine Zo (Vw [vi (((dMulI ((trI ((mulI ((mulI ((mulI (pauM i) m).getD mZ) (pauM j)).getD mZ) p).getD mZ)).getD dZ) dHf).getD dZ).num.a),vi (((dMulI ((trI ((mulI ((mulI ((mulI (pauM i) m).getD mZ) (pauM j)).getD mZ) p).getD mZ)).getD dZ) dHf).getD dZ).num.b),vi (((dMulI ((trI ((mulI ((mulI ((mulI (pauM i) m).getD mZ) (pauM j)).getD mZ) p).getD mZ)).getD dZ) dHf).getD dZ).num.c),vi (((dMulI ((trI ((mulI ((mulI ((mulI (pauM i) m).getD mZ) (pauM j)).getD mZ) p).getD mZ)).getD dZ) dHf).getD dZ).num.d),vi (((dMulI ((trI ((mulI ((mulI ((mulI (pauM i) m).getD mZ) (pauM j)).getD mZ) p).getD mZ)).getD dZ) dHf).getD dZ).exp)] Xa q) ?_;rintro _ dI ⟨u,J⟩;have g:=q;have e:=e.only u (by omega);have f:=Below.only f u aS;have q:=J;refine Za rfl<|ZX bW fun a L _ cC=>?_;refine X0a (fun a w=>Fr a 83 [(8,.pointer (some ⟨b6,0,none⟩)),(9,.bool ((((((mulI (pauM i) m).isSome)&&((mulI ((mulI (pauM i) m).getD mZ) (pauM j)).isSome))&&((mulI ((mulI ((mulI (pauM i) m).getD mZ) (pauM j)).getD mZ) p).isSome))&&((trI ((mulI ((mulI ((mulI (pauM i) m).getD mZ) (pauM j)).getD mZ) p).getD mZ)).isSome))&&((dMulI ((trI ((mulI ((mulI ((mulI (pauM i) m).getD mZ) (pauM j)).getD mZ) p).getD mZ)).getD dZ) dHf).isSome)))]∧Blk w b6 86 [vi (((dMulI ((trI ((mulI ((mulI ((mulI (pauM i) m).getD mZ) (pauM j)).getD mZ) p).getD mZ)).getD dZ) dHf).getD dZ).num.a),vi (((dMulI ((trI ((mulI ((mulI ((mulI (pauM i) m).getD mZ) (pauM j)).getD mZ) p).getD mZ)).getD dZ) dHf).getD dZ).num.b),vi (((dMulI ((trI ((mulI ((mulI ((mulI (pauM i) m).getD mZ) (pauM j)).getD mZ) p).getD mZ)).getD dZ) dHf).getD dZ).num.c),vi (((dMulI ((trI ((mulI ((mulI ((mulI (pauM i) m).getD mZ) (pauM j)).getD mZ) p).getD mZ)).getD dZ) dHf).getD dZ).num.d),vi (((dMulI ((trI ((mulI ((mulI ((mulI (pauM i) m).getD mZ) (pauM j)).getD mZ) p).getD mZ)).getD dZ) dHf).getD dZ).exp)]∧Blk w b28 86 [vi (((dMulI ((trI ((mulI ((mulI ((mulI (pauM i) m).getD mZ) (pauM j)).getD mZ) p).getD mZ)).getD dZ) dHf).getD dZ).num.a),vi (((dMulI ((trI ((mulI ((mulI ((mulI (pauM i) m).getD mZ) (pauM j)).getD mZ) p).getD mZ)).getD dZ) dHf).getD dZ).num.b),vi (((dMulI ((trI ((mulI ((mulI ((mulI (pauM i) m).getD mZ) (pauM j)).getD mZ) p).getD mZ)).getD dZ) dHf).getD dZ).num.c),vi (((dMulI ((trI ((mulI ((mulI ((mulI (pauM i) m).getD mZ) (pauM j)).getD mZ) p).getD mZ)).getD dZ) dHf).getD dZ).num.d),vi (((dMulI ((trI ((mulI ((mulI ((mulI (pauM i) m).getD mZ) (pauM j)).getD mZ) p).getD mZ)).getD dZ) dHf).getD dZ).exp)]∧Below w0.heap.size w0 w) ?_ ?_
 ·refine Zr L<|Ze (Vn X6 q)<|Zm rfl<|Zm rfl ?_
  refine Zg 71 rfl (fun y=>?_) (fun y=>?_)
  ·refine Zv (gW y) (Xb rfl) ?_;refine Ze (Xh rfl y rfl)<|Zm rfl ?_
   refine Zg 74 rfl (fun B=>?_) (fun B=>?_)
   ·refine Zv (gW B) (Xb rfl) ?_;refine Ze (Xh rfl B rfl)<|Zm rfl ?_
    refine Zg 77 rfl (fun D=>?_) (fun D=>?_)
    ·refine Zv (gW D) (Xb rfl) ?_;refine Ze (Xh rfl D rfl)<|Zm rfl ?_
     refine Zg 80 rfl (fun G=>?_) (fun G=>?_)
     ·refine Zv (gW G) (Xb rfl) ?_;refine Ze (Xh rfl G rfl)<|Zo (Vw [vi (((dMulI ((trI ((mulI ((mulI ((mulI (pauM i) m).getD mZ) (pauM j)).getD mZ) p).getD mZ)).getD dZ) dHf).getD dZ).num.a),vi (((dMulI ((trI ((mulI ((mulI ((mulI (pauM i) m).getD mZ) (pauM j)).getD mZ) p).getD mZ)).getD dZ) dHf).getD dZ).num.b),vi (((dMulI ((trI ((mulI ((mulI ((mulI (pauM i) m).getD mZ) (pauM j)).getD mZ) p).getD mZ)).getD dZ) dHf).getD dZ).num.c),vi (((dMulI ((trI ((mulI ((mulI ((mulI (pauM i) m).getD mZ) (pauM j)).getD mZ) p).getD mZ)).getD dZ) dHf).getD dZ).num.d),vi (((dMulI ((trI ((mulI ((mulI ((mulI (pauM i) m).getD mZ) (pauM j)).getD mZ) p).getD mZ)).getD dZ) dHf).getD dZ).exp)] Xa e) ?_;rintro _ dJ ⟨u,J⟩;have g:=e;have q:=q.only u (by omega);have f:=Below.only f u Q;have e:=J;refine Za rfl ?_;refine Zn fun a L=>?_;exact ⟨L.sub ⟨rfl,X1 rfl (by first|rfl|(simp only [y,B,D,G,bs];done)|simp [y,B,D,G]),trivial⟩,e,q,f⟩
     refine Zp (gP G) ?_;refine Ze (Xf rfl G rfl)<|Zo (Vw [vi (((dMulI ((trI ((mulI ((mulI ((mulI (pauM i) m).getD mZ) (pauM j)).getD mZ) p).getD mZ)).getD dZ) dHf).getD dZ).num.a),vi (((dMulI ((trI ((mulI ((mulI ((mulI (pauM i) m).getD mZ) (pauM j)).getD mZ) p).getD mZ)).getD dZ) dHf).getD dZ).num.b),vi (((dMulI ((trI ((mulI ((mulI ((mulI (pauM i) m).getD mZ) (pauM j)).getD mZ) p).getD mZ)).getD dZ) dHf).getD dZ).num.c),vi (((dMulI ((trI ((mulI ((mulI ((mulI (pauM i) m).getD mZ) (pauM j)).getD mZ) p).getD mZ)).getD dZ) dHf).getD dZ).num.d),vi (((dMulI ((trI ((mulI ((mulI ((mulI (pauM i) m).getD mZ) (pauM j)).getD mZ) p).getD mZ)).getD dZ) dHf).getD dZ).exp)] Xa e) ?_;rintro _ dK ⟨u,J⟩;have g:=e;have q:=q.only u (by omega);have f:=Below.only f u Q;have e:=J;refine Za rfl ?_;refine Zn fun a L=>?_;exact ⟨L.sub ⟨rfl,X1 rfl (by first|rfl|(simp only [y,B,D,G,bs];done)|simp [y,B,D,G]),trivial⟩,e,q,f⟩
    refine Zp (gP D) ?_;refine Ze (Xf rfl D rfl)<|Zm rfl<|Zp (gP rfl) ?_;refine Ze (Xf rfl rfl rfl)<|Zo (Vw [vi (((dMulI ((trI ((mulI ((mulI ((mulI (pauM i) m).getD mZ) (pauM j)).getD mZ) p).getD mZ)).getD dZ) dHf).getD dZ).num.a),vi (((dMulI ((trI ((mulI ((mulI ((mulI (pauM i) m).getD mZ) (pauM j)).getD mZ) p).getD mZ)).getD dZ) dHf).getD dZ).num.b),vi (((dMulI ((trI ((mulI ((mulI ((mulI (pauM i) m).getD mZ) (pauM j)).getD mZ) p).getD mZ)).getD dZ) dHf).getD dZ).num.c),vi (((dMulI ((trI ((mulI ((mulI ((mulI (pauM i) m).getD mZ) (pauM j)).getD mZ) p).getD mZ)).getD dZ) dHf).getD dZ).num.d),vi (((dMulI ((trI ((mulI ((mulI ((mulI (pauM i) m).getD mZ) (pauM j)).getD mZ) p).getD mZ)).getD dZ) dHf).getD dZ).exp)] Xa e) ?_;rintro _ dL ⟨u,J⟩;have g:=e;have q:=q.only u (by omega);have f:=Below.only f u Q;have e:=J;refine Za rfl ?_;refine Zn fun a L=>?_;exact ⟨L.sub ⟨rfl,X1 rfl (by first|rfl|(simp only [y,B,D,bs];done)|simp [y,B,D]),trivial⟩,e,q,f⟩
   refine Zp (gP B) ?_;refine Ze (Xf rfl B rfl)<|Zm rfl<|Zp (gP rfl) ?_;refine Ze (Xf rfl rfl rfl)<|Zm rfl<|Zp (gP rfl) ?_;refine Ze (Xf rfl rfl rfl)<|Zo (Vw [vi (((dMulI ((trI ((mulI ((mulI ((mulI (pauM i) m).getD mZ) (pauM j)).getD mZ) p).getD mZ)).getD dZ) dHf).getD dZ).num.a),vi (((dMulI ((trI ((mulI ((mulI ((mulI (pauM i) m).getD mZ) (pauM j)).getD mZ) p).getD mZ)).getD dZ) dHf).getD dZ).num.b),vi (((dMulI ((trI ((mulI ((mulI ((mulI (pauM i) m).getD mZ) (pauM j)).getD mZ) p).getD mZ)).getD dZ) dHf).getD dZ).num.c),vi (((dMulI ((trI ((mulI ((mulI ((mulI (pauM i) m).getD mZ) (pauM j)).getD mZ) p).getD mZ)).getD dZ) dHf).getD dZ).num.d),vi (((dMulI ((trI ((mulI ((mulI ((mulI (pauM i) m).getD mZ) (pauM j)).getD mZ) p).getD mZ)).getD dZ) dHf).getD dZ).exp)] Xa e) ?_;rintro _ dM ⟨u,J⟩;have g:=e;have q:=q.only u (by omega);have f:=Below.only f u Q;have e:=J;refine Za rfl ?_;refine Zn fun a L=>?_;exact ⟨L.sub ⟨rfl,X1 rfl (by first|rfl|(simp only [y,B,bs];done)|simp [y,B]),trivial⟩,e,q,f⟩
  refine Zp (gP y) ?_;refine Ze (Xf rfl y rfl)<|Zm rfl<|Zp (gP rfl) ?_;refine Ze (Xf rfl rfl rfl)<|Zm rfl<|Zp (gP rfl) ?_;refine Ze (Xf rfl rfl rfl)<|Zm rfl<|Zp (gP rfl) ?_;refine Ze (Xf rfl rfl rfl)<|Zo (Vw [vi (((dMulI ((trI ((mulI ((mulI ((mulI (pauM i) m).getD mZ) (pauM j)).getD mZ) p).getD mZ)).getD dZ) dHf).getD dZ).num.a),vi (((dMulI ((trI ((mulI ((mulI ((mulI (pauM i) m).getD mZ) (pauM j)).getD mZ) p).getD mZ)).getD dZ) dHf).getD dZ).num.b),vi (((dMulI ((trI ((mulI ((mulI ((mulI (pauM i) m).getD mZ) (pauM j)).getD mZ) p).getD mZ)).getD dZ) dHf).getD dZ).num.c),vi (((dMulI ((trI ((mulI ((mulI ((mulI (pauM i) m).getD mZ) (pauM j)).getD mZ) p).getD mZ)).getD dZ) dHf).getD dZ).num.d),vi (((dMulI ((trI ((mulI ((mulI ((mulI (pauM i) m).getD mZ) (pauM j)).getD mZ) p).getD mZ)).getD dZ) dHf).getD dZ).exp)] Xa e) ?_;rintro _ dN ⟨u,J⟩;have g:=e;have q:=q.only u (by omega);have f:=Below.only f u Q;have e:=J;refine Za rfl ?_;refine Zn fun a L=>?_;exact ⟨L.sub ⟨rfl,X1 rfl (by first|rfl|(simp only [y,bs];done)|simp [y]),trivial⟩,e,q,f⟩
 rintro a dP ⟨L,e,q,f⟩;refine cC _ _ ?_
 refine Q6 (X3 L (X0r L rfl (ResV.cellN (l:=[vi (((dMulI ((trI ((mulI ((mulI ((mulI (pauM i) m).getD mZ) (pauM j)).getD mZ) p).getD mZ)).getD dZ) dHf).getD dZ).num.a),vi (((dMulI ((trI ((mulI ((mulI ((mulI (pauM i) m).getD mZ) (pauM j)).getD mZ) p).getD mZ)).getD dZ) dHf).getD dZ).num.b),vi (((dMulI ((trI ((mulI ((mulI ((mulI (pauM i) m).getD mZ) (pauM j)).getD mZ) p).getD mZ)).getD dZ) dHf).getD dZ).num.c),vi (((dMulI ((trI ((mulI ((mulI ((mulI (pauM i) m).getD mZ) (pauM j)).getD mZ) p).getD mZ)).getD dZ) dHf).getD dZ).num.d),vi (((dMulI ((trI ((mulI ((mulI ((mulI (pauM i) m).getD mZ) (pauM j)).getD mZ) p).getD mZ)).getD dZ) dHf).getD dZ).exp)]) rfl X6 (e.at 0) rfl) rfl) ?_)
 subst aZ
 have h9:=Xiv b0 cK cM aC aD
 injection h9 with h91 h92
 exact ⟨by rw [← h91,← h92],f⟩
theorem Xk7(W:World)(m:Mx)(Am:Option Addr)(cm:Nat)(G:Rd W W.heap.size 86 encD Am m.cells)(aM:m.cells.length≤2305843009213693951)(bZ:HalfT W) : Ret Tryz.prog 33 [.agg #[vi m.rows,vi m.cols,.slice Am m.cells.length cm]] W (fun v w=>∃ A c1,v=.tuple #[.agg #[.slice A ((blochI m).getD []).length c1],.bool ((blochI m).isSome)]∧Own w W.heap.size 86 5 encD A c1 ((blochI m).getD [])∧Below W.heap.size W w):=by
 refine enter Tryz.func33 rfl 47 rfl rfl ?_;intro a x
 have t:=bz W
 refine Zs x fun _ cA=>?_;refine Zf (X09 (zs:=[vi m.rows,vi m.cols,.slice Am m.cells.length cm]) rfl rfl) ?_;rintro _ w1 ⟨b3,rfl,cB,u,n⟩;have cM:=Q0 t.size cB;have t:=btr t u;refine Zf (X4 (zs:=[.slice none 0 0]) X22 rfl) ?_;rintro _ w2 ⟨b5,rfl,cC,u,f⟩;have aC:=Q0 t.size cC;have n:=n.below u;have t:=btr t u;refine Za rfl<|ZX cA fun a x _ cD=>?_;refine Zs x fun _ cE=>?_;refine Ze (Vn Xp n)<|Zf (Vc (Xvm _ m Am cm (G.below' t).top aM) Xph) ?_;rintro _ w3 ⟨rfl,u⟩;have n:=n.below u;have f:=f.below u;have t:=btr t u;refine Ze (X0o rfl)<|Zt cE fun a x=>?_
 refine Xl x rfl (fun aD=>?_) (fun aD=>?_)
 ·have b0:=aD
  have cF:oneQ m=false:=by simpa using aD
  refine Zs x fun _ cG=>?_;refine Ze (Xg (ps:=[]) (cs:=[.slice none 0 0]) rfl (fun _=>by first|rfl|kernel_rfl))<|Zo (Vw [.slice none 0 0] X1i f) ?_;rintro _ w4 ⟨z,hb⟩;have q:=f;have t:=Below.only t z aC;have f:=hb;refine Za rfl<|Zt cG fun a x=>?_;refine Q6<|X7<|X3 x (X0r x rfl (ResV.cellN (l:=[.slice none 0 0]) rfl X16 (f.at 0) rfl) rfl) ?_
  have he:blochI m=none:=by rw [blochI,Q3 (by rw [cF];decide)]
  rw [he]
  exact ⟨none,0,rfl,(Own.nil _ _ _ _ _),t⟩
 have b0:=aD
 have aH:oneQ m=true:=by simpa using aD
 obtain ⟨_,cH,cP,cQ⟩:=X43 aH;refine Q7<|cD _ _<|Zs x fun _ b1=>?_;refine Ze (Vn Xp n)<|Zf (X1j (vs:=[.agg #[vi m.rows,vi m.cols,.slice Am m.cells.length cm]]) rfl Xhx (by have hq:=Xrk w3 m Am cm (G.below' t).top aM;rw [Xax cH,Qq,Option.isSome_some] at hq;exact hq)) ?_;rintro _ w5 ⟨H,a9,rfl,e,u⟩;have e:=e.lower t.size;have n:=n.below u;have f:=f.below u;have t:=btr t u
 obtain ⟨B8,M⟩ : ∃ B8,B8=w5.heap.size:=⟨_,rfl⟩
 have p:B8≤w5.heap.size:=Nat.le_of_eq M
 have aL:W.heap.size≤B8:=by rw [M];exact t.size
 have e:=e.rd.top
 rw [← M] at e
 clear M;refine Zm rfl<|Ze (X2 (vs:=[.agg #[vi ((adjS m).rows),vi ((adjS m).cols),.slice H ((adjS m).cells).length a9],.bool true]) rfl rfl)<|Ze (X2 (vs:=[.agg #[vi ((adjS m).rows),vi ((adjS m).cols),.slice H ((adjS m).cells).length a9],.bool true]) rfl rfl)<|Zf (X4 (zs:=[vi 0,vi 0,.slice none 0 0]) X12 rfl) ?_;rintro _ w6 ⟨b14,rfl,b2,u,g⟩
 have b4:b3≠b14:=by have:=n.lt;omega
 have aN:=Q0 t.size b2;have n:=n.below u;have f:=f.below u;have e:=e.below u;have p:=Q0 p u.size;have t:=btr t u;refine Zo (Vw [vi ((adjS m).rows),vi ((adjS m).cols),.slice H ((adjS m).cells).length a9] X0c g) ?_;rintro _ w7 ⟨z,hb⟩;have q:=g;have n:=n.only z (by omega);have f:=f.only z (Blk.ne f q rfl);have e:=e.onlyT z q rfl;have p:=Q0 p (Nat.le_of_eq z.size.symm);have t:=Below.only t z aN;have g:=hb;refine Za rfl<|Zx b1 fun a x _ b6=>?_;refine Ze (Xg (ps:=[]) (cs:=[.slice none 0 0]) rfl (fun _=>by first|rfl|kernel_rfl))<|Zf (X4 (zs:=[.slice none 0 0]) X22 rfl) ?_;rintro _ w8 ⟨b18,rfl,b7,u,o⟩
 have b8:b5≠b18:=by have:=f.lt;omega
 have aE:=Q0 t.size b7;have n:=n.below u;have f:=f.below u;have g:=g.below u;have e:=e.below u;have p:=Q0 p u.size;have t:=btr t u;refine Zo (Vw [.slice none 0 0] X1i o) ?_;rintro _ w9 ⟨z,hb⟩;have q:=o;have n:=n.only z (Blk.ne n q rfl);have f:=f.only z (by omega);have g:=g.only z (Blk.ne g q rfl);have e:=e.onlyT z q rfl;have p:=Q0 p (Nat.le_of_eq z.size.symm);have t:=Below.only t z aE;have o:=hb;refine ZX b6 fun a x _ b9=>?_;refine Zs x fun _ bC=>?_;refine Zm rfl<|Zt bC fun a x=>?_;refine Q8<|X03 (σ:=Nat×(List Dy)) (fun (s:Nat×(List Dy)) (a:Act) (w:World)=>match s with|(i,l)=>∃ J L,Fr a 47 [(1,.pointer (some ⟨b3,0,none⟩)),(2,.pointer (some ⟨b5,0,none⟩)),(4,.pointer (some ⟨b14,0,none⟩)),(6,.pointer (some ⟨b18,0,none⟩)),(21,vi (i:Int))]∧(i≤3)∧(seqO (gridG (celB m) 3) (i*3)=some l)∧Blk w b3 32 [vi m.rows,vi m.cols,.slice Am m.cells.length cm]∧Blk w b5 66 [.slice none 0 0]∧Blk w b14 32 [vi ((adjS m).rows),vi ((adjS m).cols),.slice H ((adjS m).cells).length a9]∧Blk w b18 66 [.slice J l.length L]∧Rd w B8 86 encD H ((adjS m).cells)∧Own w B8 86 5 encD J L l∧B8≤w.heap.size∧Below W.heap.size W w) (fun (s:Nat×(List Dy))=>match s with|(i,l)=>3-i) (0,[]) ?_ ?_
 ·exact ⟨none,0,x.sb,(by omega),(by rw [Nat.zero_mul];rfl),n,f,g,o,e,(Own.nil _ _ _ _ _),p,t⟩
 rintro ⟨i,l⟩ a cR ⟨J,L,x,hi,hl,n,f,g,o,e,N,p,t⟩;refine Zs x fun _ bD=>?_;refine Ze (X14 rfl rfl)<|ZX bD fun a x _ bE=>?_
 refine Xl x rfl (fun h=>?_) (fun h=>?_)
 ·have aO:=h;have h:=Q2 h
  have aP:i<3:=by have:=h;omega
  refine Q7<|bE _ _<|Q5 fun _ bF=>?_;refine Q8<|Zs x fun _ bG=>?_;refine Zm rfl<|Za rfl<|Zx bG fun a x _ bH=>?_;refine Zm rfl<|Zt bH fun a x=>?_;refine Q8<|X03 (σ:=Nat×(List Dy)) (fun (s:Nat×(List Dy)) (a:Act) (w:World)=>match s with|(j,l2)=>∃ aI aJ,Fr a 47 [(1,.pointer (some ⟨b3,0,none⟩)),(2,.pointer (some ⟨b5,0,none⟩)),(4,.pointer (some ⟨b14,0,none⟩)),(6,.pointer (some ⟨b18,0,none⟩)),(7,vi (i:Int)),(21,vi (i:Int)),(24,vi (j:Int))]∧(j≤3)∧(seqO (gridG (celB m) 3) (i*3+j)=some l2)∧Blk w b3 32 [vi m.rows,vi m.cols,.slice Am m.cells.length cm]∧Blk w b5 66 [.slice none 0 0]∧Blk w b14 32 [vi ((adjS m).rows),vi ((adjS m).cols),.slice H ((adjS m).cells).length a9]∧Blk w b18 66 [.slice aI l2.length aJ]∧Rd w B8 86 encD H ((adjS m).cells)∧Own w B8 86 5 encD aI aJ l2∧B8≤w.heap.size∧Below W.heap.size W w) (fun (s:Nat×(List Dy))=>match s with|(j,l2)=>3-j) (0,l) ?_ ?_
  ·exact ⟨J,L,x.sb,(by omega),hl,n,f,g,o,e,N,p,t⟩
  rintro ⟨j,l2⟩ a cS ⟨aI,aJ,x,hj,aK,n,f,g,o,e,y,p,t⟩;refine Zs x fun _ bI=>?_;refine Ze (X14 rfl rfl)<|ZX bI fun a x _ bJ=>?_
  refine Xl x rfl (fun B=>?_) (fun B=>?_)
  ·have aQ:=B;have B:=Q2 B
   have aR:j<3:=by have:=B;omega
   have cO:=X31 aK;refine Q7<|bJ _ _<|Q5 fun _ bK=>?_;refine Q8<|Zs x fun _ bL=>?_;refine Zm rfl<|Za rfl<|Zx bL fun a x _ bM=>?_;refine Ze (Vn Xp n)<|Ze (Vn Xp g)<|Zm rfl<|Zm rfl<|Zf (Vc (Xvv _ m Am cm (G.below' t).top (adjS m) H a9 e.top i j aM aH rfl aP aR (bZ.of t)) Xok) ?_;rintro _ cT ⟨rfl,u⟩;have n:=n.below u;have f:=f.below u;have g:=g.below u;have o:=o.below u;have e:=e.below u;have y:=y.below u;have p:=Q0 p u.size;have t:=btr t u;refine Zm rfl<|Ze (X2 (vs:=[.agg #[vi (((celB m i j).getD dZ).num.a),vi (((celB m i j).getD dZ).num.b),vi (((celB m i j).getD dZ).num.c),vi (((celB m i j).getD dZ).num.d),vi (((celB m i j).getD dZ).exp)],.bool ((celB m i j).isSome)]) rfl rfl)<|Ze (X2 (vs:=[.agg #[vi (((celB m i j).getD dZ).num.a),vi (((celB m i j).getD dZ).num.b),vi (((celB m i j).getD dZ).num.c),vi (((celB m i j).getD dZ).num.d),vi (((celB m i j).getD dZ).exp)],.bool ((celB m i j).isSome)]) rfl rfl)<|Zf (X4 (zs:=[vi 0,vi 0,vi 0,vi 0,vi 0]) X0l rfl) ?_;rintro _ cU ⟨cJ,rfl,Q,u,C⟩;have aS:=Q0 t.size Q;have bN:=(G.below' t).away Q;have aA:=e.away Q;have E:=y.away Q;have n:=n.below u;have f:=f.below u;have g:=g.below u;have o:=o.below u;have e:=e.below u;have y:=y.below u;have p:=Q0 p u.size;have t:=btr t u;refine Zo (Vw [vi (((celB m i j).getD dZ).num.a),vi (((celB m i j).getD dZ).num.b),vi (((celB m i j).getD dZ).num.c),vi (((celB m i j).getD dZ).num.d),vi (((celB m i j).getD dZ).exp)] Xa C) ?_;rintro _ cV ⟨z,hb⟩;have q:=C;have n:=n.only z (Blk.ne n q rfl);have f:=f.only z (Blk.ne f q rfl)
   have g:=g.only z (Blk.ne g q rfl);have o:=o.only z (Blk.ne o q rfl);have e:=e.onlyA z aA;have y:=y.onlyA z E;have p:=Q0 p (Nat.le_of_eq z.size.symm);have t:=Below.only t z aS;have C:=hb;refine Za rfl<|ZX bM fun a x _ bO=>?_;refine Zs x fun _ bP=>?_;refine Zm rfl<|Ze (X0o rfl)<|Zt bP fun a x=>?_
   refine Xl x rfl (fun I=>?_) (fun I=>?_)
   ·have aT:=I
    have hn:gridG (celB m) 3 (i*3+j)=none:=by rw [X2l (by omega)];have h9:=I;revert h9;cases celB m i j<;>simp
    refine Zs x fun _ bQ=>?_;refine Ze (Xg (ps:=[]) (cs:=[.slice none 0 0]) rfl (fun _=>by first|rfl|kernel_rfl))<|Zo (Vw [.slice none 0 0] X1i f) ?_;rintro _ cW ⟨z,hb⟩;have q:=f;have p:=Q0 p (Nat.le_of_eq z.size.symm);have t:=Below.only t z aC;have f:=hb;refine Za rfl<|Zt bQ fun a x=>?_;refine Q6<|X7<|Xw<|X7 ?_;refine X7<|Xw<|Xw<|X7 ?_;refine X7<|Xw<|X7<|X3 x (X0r x rfl (ResV.cellN (l:=[.slice none 0 0]) rfl X16 (f.at 0) rfl) rfl) ?_
    have he:blochI m=none:=by rw [blochI,Q4 aH];exact X4z hn 9 (by omega)
    rw [he]
    exact ⟨none,0,rfl,(Own.nil _ _ _ _ _),t⟩
   have aT:=I
   have hx:gridG (celB m) 3 (i*3+j)=some ((celB m i j).getD dZ):=by rw [X2l (by omega)];have h9:=I;revert h9;cases celB m i j<;>simp
   refine Q7<|bO _ _<|Zr x<|Ze (Vd rfl X0t 0)<|Ze (X0 rfl X0j (o.at 0))<|Ze (Vn X6 C)<|Zf (Xd (k:=1) (vs:=[.agg #[vi (((celB m i j).getD dZ).num.a),vi (((celB m i j).getD dZ).num.b),vi (((celB m i j).getD dZ).num.c),vi (((celB m i j).getD dZ).num.d),vi (((celB m i j).getD dZ).exp)]]) (zs:=[vi (((celB m i j).getD dZ).num.a),vi (((celB m i j).getD dZ).num.b),vi (((celB m i j).getD dZ).num.c),vi (((celB m i j).getD dZ).num.d),vi (((celB m i j).getD dZ).exp)]) rfl Xv X0x rfl rfl) ?_;rintro _ cX ⟨b41,rfl,U,u,aF⟩
   have aW:cJ≠b41:=by have:=C.lt;omega
   have cK:=Q0 t.size U;have bR:=(G.below' t).away U;have aX:=e.away U;have aB:=y.away U;have n:=n.below u;have f:=f.below u;have g:=g.below u;have o:=o.below u;have C:=C.below u;have e:=e.below u;have y:=y.below u;have p:=Q0 p u.size;have t:=btr t u;refine Zf (X0n (enc:=encD) (l:=(l2)) (l2:=([((celB m i j).getD dZ)])) (B0:=B8) rfl rfl Xv X0x Xz X28 y (Rd.of_blk aF rfl _ aF.lt) (by simp only [maxLen];simp;omega) (by simp;omega) p) ?_;rintro _ d5 ⟨bS,bU,rfl,aG,hg,aU⟩
   have D:Own _ B8 86 5 encD _ _ (l2):=y
   have aY:=aU _ C.lt E;have aZ:=aU _ aF.lt aB;clear aU;have n:=n.appT D hg rfl;have f:=f.appT D hg rfl;have g:=g.appT D hg rfl;have o:=o.appT D hg rfl;have e:=e.appB D hg (Qb _);have p:=Q0 p hg.size;have t:=Below.app t D hg aL t.size;clear D hg;refine Ze (Vd rfl X0t 0)<|Zo (Vw [.slice bS (l2++([((celB m i j).getD dZ)])).length bU] X3g o) ?_;rintro _ d6 ⟨z,hb⟩;have q:=o;have n:=n.only z (Blk.ne n q rfl);have f:=f.only z (by omega);have g:=g.only z (Blk.ne g q rfl);have e:=e.onlyT z q rfl;have aG:=aG.onlyT z q rfl;have p:=Q0 p (Nat.le_of_eq z.size.symm);have t:=Below.only t z aE;have o:=hb;refine Zn fun a x=>?_;refine Xn<|bK _ _<|Zr x<|Ze (X01 rfl rfl (by omega) (by omega))<|Zm rfl ?_;refine Zn fun a x=>?_;refine Xm ?_;exact ⟨(j+1,l2++[((celB m i j).getD dZ)]),⟨bS,bU,x.sb,(by omega),(X42 aK hx),n,f,g,o,e,aG,p,t⟩,(by first|omega|(dsimp only;omega))⟩
  have aQ:=B;have B:=Q1 B
  have aR:j=3:=by have:=B;omega
  refine Q9<|Xk<|Xk<|X05 ?_;refine Xn<|bF _ _<|Zr x<|Ze (X01 rfl rfl (by omega) (by omega))<|Zm rfl ?_;refine Zn fun a x=>?_;refine Xm ?_;exact ⟨(i+1,l2),⟨aI,aJ,x.sb,(by omega),(by rw [Wb,Nat.one_mul];rw [aR] at aK;exact aK),n,f,g,o,e,y,p,t⟩,(by first|omega|(dsimp only;omega))⟩
 have aO:=h;have h:=Q1 h
 have aP:i=3:=by have:=h;omega
 refine Q9<|Xk<|Xk<|X05 ?_;refine b9 _ _<|Zs x fun _ bW=>?_;refine Ze (Vn X16 o)<|Zo (Vw [.slice J l.length L] X1i f) ?_;rintro _ d7 ⟨z,hb⟩;have q:=f;have N:=N.onlyT z q rfl;have p:=Q0 p (Nat.le_of_eq z.size.symm);have t:=Below.only t z aC;have f:=hb;refine Za rfl<|Zt bW fun a x=>?_
 refine Q6 (X3 x (X0r x rfl (ResV.cellN (l:=[.slice J l.length L]) rfl X16 (f.at 0) rfl) rfl) ?_)
 have he:blochI m=some l:=by rw [blochI,Q4 aH];rw [aP] at hl;exact hl
 rw [he]
 exact ⟨J,L,rfl,Own.lower N aL,t⟩
theorem at9{l:List Dy}(h:l.length=9){i j:Nat}(hi:i<3)(hj:j<3) : l[3*i+j]? = some ((bm3 l).at i j):=by
 show _=some (l.getD (i*3+j) dZ)
 rw [Wi 3 i,Qa,Qc (by omega)];rfl
theorem Xb4{l:List Dy}{k:Nat}{u:Dy}(h:l[k]? = some u) : bexp (l.take (k+1))=max (bexp (l.take k)) u.exp:=by
 unfold bexp
 rw [Qt,h,List.foldl_append];rfl
def reaB(x:Dy) : Bool:=dOk x&&x.num.c==0&&x.num.d==wr (-x.num.b)
theorem X97(a:List Dy) : (trB a).length=9:=X2f _ _ _
theorem Xl8(Q:World)(Ap:Option Addr)(cp:Nat)(p:List Dy)(H:Rd Q Q.heap.size 86 encD Ap p)(Aq:Option Addr)(cq:Nat)(q:List Dy)(I:Rd Q Q.heap.size 86 encD Aq q)(dG:p.length=9)(dH:q.length=9) : Ret Tryz.prog 72 [.slice Ap p.length cp,.slice Aq q.length cq] Q (fun v w=>∃ A c1,v=.tuple #[.slice A ((mulBI p q).getD []).length c1,.bool ((mulBI p q).isSome)]∧Own w Q.heap.size 86 5 encD A c1 ((mulBI p q).getD [])∧Below Q.heap.size Q w):=by
 refine enter Tryz.func72 rfl 65 rfl rfl ?_;intro a g
 have m:=bz Q
 refine Zs g fun _ dI=>?_;refine Za rfl<|Za rfl<|Zx dI fun a g _ dJ=>?_;refine Zf (Xd (k:=0) (vs:=[]) (zs:=[]) rfl Xv X0x rfl rfl) ?_;rintro _ w1 ⟨b6,rfl,b5,o,dK⟩;have bU:=Q0 m.size b5;have dE:=(H.below' m).away b5;have dF:=(I.below' m).away b5;have m:=btr m o;refine Za rfl<|ZX dJ fun a g _ dL=>?_;refine Zs g fun _ dM=>?_;refine Zm rfl<|Zt dM fun a g=>?_;refine Q8<|X03 (σ:=Nat×(List Dy)) (fun (s:Nat×(List Dy)) (a:Act) (w:World)=>match s with|(i,l)=>∃ aO aP,Fr a 65 [(0,.slice Ap p.length cp),(1,.slice Aq q.length cq),(6,.slice aO l.length aP),(16,vi (i:Int))]∧(i≤3)∧(seqO (gridG (fun i j=>dotI (bm3 p) (bm3 q) i j 3) 3) (i*3)=some l)∧Own w Q.heap.size 86 5 encD aO aP l∧Below Q.heap.size Q w) (fun (s:Nat×(List Dy))=>match s with|(i,l)=>3-i) (0,[]) ?_ ?_
 ·exact ⟨some ⟨b6,0,none⟩,0,g.sb,(by omega),(by rw [Nat.zero_mul];rfl),(Own.empty dK bU),m⟩
 rintro ⟨i,l⟩ a w2 ⟨aO,aP,g,hi,hl,b2,m⟩;refine Zs g fun _ bW=>?_;refine Ze (X14 rfl rfl)<|ZX bW fun a g _ bZ=>?_
 refine Xl g rfl (fun B=>?_) (fun B=>?_)
 ·have J:=B;have B:=Q2 B
  have b7:i<3:=by have:=B;omega
  refine Q7<|bZ _ _<|Q5 fun _ cA=>?_;refine Q8<|Zs g fun _ cB=>?_;refine Zm rfl<|Za rfl<|Zx cB fun a g _ cC=>?_;refine Zm rfl<|Zt cC fun a g=>?_;refine Q8<|X03 (σ:=Nat×(List Dy)) (fun (s:Nat×(List Dy)) (a:Act) (w:World)=>match s with|(j,l2)=>∃ U aB,Fr a 65 [(0,.slice Ap p.length cp),(1,.slice Aq q.length cq),(6,.slice U l2.length aB),(7,vi (i:Int)),(16,vi (i:Int)),(19,vi (j:Int))]∧(j≤3)∧(seqO (gridG (fun i j=>dotI (bm3 p) (bm3 q) i j 3) 3) (i*3+j)=some l2)∧Own w Q.heap.size 86 5 encD U aB l2∧Below Q.heap.size Q w) (fun (s:Nat×(List Dy))=>match s with|(j,l2)=>3-j) (0,l) ?_ ?_
  ·exact ⟨aO,aP,g.sb,(by omega),hl,b2,m⟩
  rintro ⟨j,l2⟩ a w3 ⟨U,aB,g,hj,b0,e,m⟩;refine Zs g fun _ cD=>?_;refine Ze (X14 rfl rfl)<|ZX cD fun a g _ cE=>?_
  refine Xl g rfl (fun C=>?_) (fun C=>?_)
  ·have L:=C;have C:=Q2 C
   have aQ:j<3:=by have:=C;omega
   have dW:=X31 b0;refine Q7<|cE _ _<|Q5 fun _ cF=>?_;refine Q8<|Zs g fun _ cG=>?_;refine Zm rfl<|Za rfl<|Zx cG fun a g _ cH=>?_;refine Ze (Xg (ps:=[]) (cs:=[vi 0,vi 0,vi 0,vi 0,vi 0]) rfl (fun _=>by first|rfl|kernel_rfl))<|Zf (X4 (zs:=[vi 0,vi 0,vi 0,vi 0,vi 0]) X0l rfl) ?_;rintro _ w4 ⟨M,rfl,aE,o,f⟩;have aR:=Q0 m.size aE;have G:=e.away aE;have cJ:=(H.below' m).away aE;have cK:=(I.below' m).away aE;have e:=e.below o;have m:=btr m o;refine Zo (Vw [vi 0,vi 0,vi 0,vi 0,vi 0] Xa f) ?_;rintro _ w5 ⟨ho,hb⟩;have aS:=f;have e:=e.onlyA ho G;have m:=Below.only m ho aR;have f:=hb;refine ZX cH fun a g _ cM=>?_;refine Zs g fun _ cO=>?_;refine Zm rfl<|Zt cO fun a g=>?_;refine Q8<|X03 (σ:=Nat×Dy) (fun (s:Nat×Dy) (a:Act) (w:World)=>match s with|(k,s)=>Fr a 65 [(0,.slice Ap p.length cp),(1,.slice Aq q.length cq),(6,.slice U l2.length aB),(7,vi (i:Int)),(8,vi (j:Int)),(9,.pointer (some ⟨M,0,none⟩)),(16,vi (i:Int)),(19,vi (j:Int)),(23,vi (k:Int))]∧(k≤3)∧(dotI (bm3 p) (bm3 q) i j k=some s)∧Blk w M 86 [vi s.num.a,vi s.num.b,vi s.num.c,vi s.num.d,vi s.exp]∧Own w Q.heap.size 86 5 encD U aB l2∧Below Q.heap.size Q w) (fun (s:Nat×Dy)=>match s with|(k,s)=>3-k) (0,dZ) ?_ ?_
   ·exact ⟨g.sb,(by omega),rfl,f,e,m⟩
   rintro ⟨k,s⟩ a w6 ⟨g,hk,hs,f,e,m⟩;refine Zs g fun _ cP=>?_;refine Ze (X14 rfl rfl)<|ZX cP fun a g _ cQ=>?_
   refine Xl g rfl (fun D=>?_) (fun D=>?_)
   ·have N:=D;have D:=Q2 D
    have b1:k<3:=by have:=D;omega
    refine Q7<|cQ _ _<|Q5 fun _ cR=>?_;refine Q8<|Zs g fun _ cS=>?_;refine Zm rfl<|Za rfl<|ZX cS fun a g _ cT=>?_;refine X0a (fun a w=>∃ t,Fr a 65 [(0,.slice Ap p.length cp),(1,.slice Aq q.length cq),(6,.slice U l2.length aB),(7,vi (i:Int)),(8,vi (j:Int)),(9,.pointer (some ⟨M,0,none⟩)),(11,.pointer (some ⟨t,0,none⟩)),(12,.bool ((dMulI ((bm3 p).at i k) ((bm3 q).at k j)).isSome)),(16,vi (i:Int)),(19,vi (j:Int)),(23,vi (k:Int))]∧Q.heap.size≤t∧Blk w t 86 [vi (((dMulI ((bm3 p).at i k) ((bm3 q).at k j)).getD dZ).num.a),vi (((dMulI ((bm3 p).at i k) ((bm3 q).at k j)).getD dZ).num.b),vi (((dMulI ((bm3 p).at i k) ((bm3 q).at k j)).getD dZ).num.c),vi (((dMulI ((bm3 p).at i k) ((bm3 q).at k j)).getD dZ).num.d),vi (((dMulI ((bm3 p).at i k) ((bm3 q).at k j)).getD dZ).exp)]∧M≠t∧Below w6.heap.size w6 w) ?_ ?_
    ·have x:Below w6.heap.size w6 w6:=Below.refl _ _
     refine X07 none (fun j=>[19].contains j) mixed ?_;intro w7 o;have f:=f.below o;have e:=e.below o;have m:=btr m o;have x:=btr x o;refine Yb g<|Yo 0 rfl (fun _=>Xb rfl)<|Yo 1 rfl (fun _=>Xb rfl)<|Yo 2 rfl (fun _=>X5v rfl rfl (by omega) (by omega))<|Yo 3 rfl (fun _=>Xb rfl)<|Yo 4 rfl (fun _=>X01 rfl rfl (by omega) (by omega))<|Yi (k:=(3*i+k)) (u:=((bm3 p).at i k)) (enc:=encD) (l:=p) 5 rfl trivial rfl rfl Xv Xa Xz (H.below' m) (at9 dG b7 b1) (by omega) ?_;intro dX b8;refine Ye 6 rfl (Xy (l:=[vi (((bm3 p).at i k).num.a),vi (((bm3 p).at i k).num.b),vi (((bm3 p).at i k).num.c),vi (((bm3 p).at i k).num.d),vi (((bm3 p).at i k).exp)]) rfl X6 b8 rfl)<|Yo 7 rfl (fun _=>Xb rfl)<|Yo 8 rfl (fun _=>Xb rfl)<|Yo 9 rfl (fun _=>X5v rfl rfl (by omega) (by omega))<|Yo 10 rfl (fun _=>Xb rfl)<|Yo 11 rfl (fun _=>X01 rfl rfl (by omega) (by omega))<|Yi (k:=(3*k+j)) (u:=((bm3 q).at k j)) (enc:=encD) (l:=q) 12 rfl trivial rfl rfl Xv Xa Xz (I.below' m) (at9 dH b1 aQ) (by omega) ?_;intro dY b9;refine Ye 13 rfl (Xy (l:=[vi (((bm3 q).at k j).num.a),vi (((bm3 q).at k j).num.b),vi (((bm3 q).at k j).num.c),vi (((bm3 q).at k j).num.d),vi (((bm3 q).at k j).exp)]) rfl X6 b9 rfl) ?_
     have z:Below w7.heap.size w7 w7:=Below.refl _ _
     refine Yc [0,1,2,3,4,5,6,7,8,9,10,11,12,13,14,15,16,17,18] 2 (fun a w=>∃ t,Fr a 65 [(0,.slice Ap p.length cp),(1,.slice Aq q.length cq),(6,.slice U l2.length aB),(7,vi (i:Int)),(8,vi (j:Int)),(9,.pointer (some ⟨M,0,none⟩)),(11,.pointer (some ⟨t,0,none⟩)),(16,vi (i:Int)),(19,vi (j:Int)),(23,vi (k:Int)),(42,.agg #[vi (((dMulI ((bm3 p).at i k) ((bm3 q).at k j)).getD dZ).num.a),vi (((dMulI ((bm3 p).at i k) ((bm3 q).at k j)).getD dZ).num.b),vi (((dMulI ((bm3 p).at i k) ((bm3 q).at k j)).getD dZ).num.c),vi (((dMulI ((bm3 p).at i k) ((bm3 q).at k j)).getD dZ).num.d),vi (((dMulI ((bm3 p).at i k) ((bm3 q).at k j)).getD dZ).exp)]),(43,.bool ((dMulI ((bm3 p).at i k) ((bm3 q).at k j)).isSome))]∧Q.heap.size≤t∧Blk w t 86 [vi 0,vi 0,vi 0,vi 0,vi 0]∧M≠t∧w7.heap.size≤t∧w6.heap.size≤t∧Away U t∧AwayR p Ap t∧AwayR q Aq t∧Below w7.heap.size w7 w) ?_ ?_
     ·rintro a w8 ⟨t,g,aD,E,W,bC,bD,bN,cU,cV,o⟩;clear z;have z:=o;have m:=btr m o;have x:=btr x o;refine Yb g<|Y1 19<|Yh rfl trivial rfl (Vw [vi (((dMulI ((bm3 p).at i k) ((bm3 q).at k j)).getD dZ).num.a),vi (((dMulI ((bm3 p).at i k) ((bm3 q).at k j)).getD dZ).num.b),vi (((dMulI ((bm3 p).at i k) ((bm3 q).at k j)).getD dZ).num.c),vi (((dMulI ((bm3 p).at i k) ((bm3 q).at k j)).getD dZ).num.d),vi (((dMulI ((bm3 p).at i k) ((bm3 q).at k j)).getD dZ).exp)] Xa E) ?_;rintro _ w9 ⟨ho,hb⟩;have aS:=E;have x:=Below.only x ho bD;have z:=Below.only z ho bC;have m:=Below.only m ho aD;have E:=hb;refine Yo 20 rfl (fun _=>X0p rfl) ?_;refine Yd fun a g=>?_
      have dN:Below w6.heap.size w6 w9:=x
      exact ⟨t,g.sb,aD,E,W,dN⟩
     intro b3;refine Y2 14 18 ?_ ?_
     ·refine Yk rfl trivial (Vc (Xas _ ((bm3 p).at i k) ((bm3 q).at k j)) X4n) (fun _ _ ⟨_,o⟩=>o) ?_;rintro _ e8 ⟨rfl,o⟩;have f:=f.below o;have e:=e.below o;have m:=btr m o;have x:=btr x o;have z:=btr z o;refine Yo 15 rfl (fun _=>Xb rfl)<|Yo 16 rfl (fun _=>X2 (vs:=[.agg #[vi (((dMulI ((bm3 p).at i k) ((bm3 q).at k j)).getD dZ).num.a),vi (((dMulI ((bm3 p).at i k) ((bm3 q).at k j)).getD dZ).num.b),vi (((dMulI ((bm3 p).at i k) ((bm3 q).at k j)).getD dZ).num.c),vi (((dMulI ((bm3 p).at i k) ((bm3 q).at k j)).getD dZ).num.d),vi (((dMulI ((bm3 p).at i k) ((bm3 q).at k j)).getD dZ).exp)],.bool ((dMulI ((bm3 p).at i k) ((bm3 q).at k j)).isSome)]) rfl rfl)<|Yo 17 rfl (fun _=>X2 (vs:=[.agg #[vi (((dMulI ((bm3 p).at i k) ((bm3 q).at k j)).getD dZ).num.a),vi (((dMulI ((bm3 p).at i k) ((bm3 q).at k j)).getD dZ).num.b),vi (((dMulI ((bm3 p).at i k) ((bm3 q).at k j)).getD dZ).num.c),vi (((dMulI ((bm3 p).at i k) ((bm3 q).at k j)).getD dZ).num.d),vi (((dMulI ((bm3 p).at i k) ((bm3 q).at k j)).getD dZ).exp)],.bool ((dMulI ((bm3 p).at i k) ((bm3 q).at k j)).isSome)]) rfl rfl)<|Y1 18 ?_;refine Yk rfl trivial (X4 (zs:=[vi 0,vi 0,vi 0,vi 0,vi 0]) X0l rfl) (fun _ _ ⟨_,_,_,h,_⟩=>h) ?_;rintro _ eA ⟨b39,rfl,a9,o,cW⟩
      have aI:M≠b39:=by have:=f.lt;omega
      have bE:=Q0 m.size a9;have bF:=Q0 x.size a9;have bG:=Q0 z.size a9;have aJ:=e.away a9;have aT:=(H.below' m).away a9;have aU:=(I.below' m).away a9;have m:=btr m o;have x:=btr x o;have z:=btr z o;exact fun a g=>b3 _ a _ rfl ⟨b39,g.sb,bE,cW,aI,bG,bF,aJ,aT,aU,z⟩
     refine Yk rfl trivial (X4 (zs:=[vi 0,vi 0,vi 0,vi 0,vi 0]) X0l rfl) (fun _ _ ⟨_,_,_,h,_⟩=>h) ?_;rintro _ eB ⟨b40,rfl,aA,o,aW⟩
     have aK:M≠b40:=by have:=f.lt;omega
     have bH:=Q0 m.size aA;have bI:=Q0 x.size aA;have bJ:=Q0 z.size aA;have aL:=e.away aA;have aX:=(H.below' m).away aA;have aY:=(I.below' m).away aA;have m:=btr m o;have x:=btr x o;have z:=btr z o;refine Y1 14<|Yk rfl trivial (Vc (Xas _ ((bm3 p).at i k) ((bm3 q).at k j)) X4n) (fun _ _ ⟨_,o⟩=>o) ?_;rintro _ eC ⟨rfl,o⟩;have aW:=aW.below o;have m:=btr m o;have x:=btr x o;have z:=btr z o;refine Yo 15 rfl (fun _=>Xb rfl)<|Yo 16 rfl (fun _=>X2 (vs:=[.agg #[vi (((dMulI ((bm3 p).at i k) ((bm3 q).at k j)).getD dZ).num.a),vi (((dMulI ((bm3 p).at i k) ((bm3 q).at k j)).getD dZ).num.b),vi (((dMulI ((bm3 p).at i k) ((bm3 q).at k j)).getD dZ).num.c),vi (((dMulI ((bm3 p).at i k) ((bm3 q).at k j)).getD dZ).num.d),vi (((dMulI ((bm3 p).at i k) ((bm3 q).at k j)).getD dZ).exp)],.bool ((dMulI ((bm3 p).at i k) ((bm3 q).at k j)).isSome)]) rfl rfl)<|Yo 17 rfl (fun _=>X2 (vs:=[.agg #[vi (((dMulI ((bm3 p).at i k) ((bm3 q).at k j)).getD dZ).num.a),vi (((dMulI ((bm3 p).at i k) ((bm3 q).at k j)).getD dZ).num.b),vi (((dMulI ((bm3 p).at i k) ((bm3 q).at k j)).getD dZ).num.c),vi (((dMulI ((bm3 p).at i k) ((bm3 q).at k j)).getD dZ).num.d),vi (((dMulI ((bm3 p).at i k) ((bm3 q).at k j)).getD dZ).exp)],.bool ((dMulI ((bm3 p).at i k) ((bm3 q).at k j)).isSome)]) rfl rfl) ?_;exact fun a g=>b3 _ a _ rfl ⟨b40,g.sb,bH,aW,aK,bJ,bI,aL,aX,aY,z⟩
    rintro a eD ⟨t,g,aD,E,W,o⟩;have f:=f.below o;have e:=e.below o;have m:=btr m o;refine cT _ _<|Zs g fun _ cX=>?_;refine Ze (Vn X6 f)<|Ze (Vn X6 E)<|Zf (Vc (Xot _ s ((dMulI ((bm3 p).at i k) ((bm3 q).at k j)).getD dZ)) Xcx) ?_;rintro _ eE ⟨rfl,o⟩;have f:=f.below o;have E:=E.below o;have e:=e.below o;have m:=btr m o;refine Zm rfl<|Ze (X2 (vs:=[.agg #[vi (((dAddI s ((dMulI ((bm3 p).at i k) ((bm3 q).at k j)).getD dZ)).getD dZ).num.a),vi (((dAddI s ((dMulI ((bm3 p).at i k) ((bm3 q).at k j)).getD dZ)).getD dZ).num.b),vi (((dAddI s ((dMulI ((bm3 p).at i k) ((bm3 q).at k j)).getD dZ)).getD dZ).num.c),vi (((dAddI s ((dMulI ((bm3 p).at i k) ((bm3 q).at k j)).getD dZ)).getD dZ).num.d),vi (((dAddI s ((dMulI ((bm3 p).at i k) ((bm3 q).at k j)).getD dZ)).getD dZ).exp)],.bool ((dAddI s ((dMulI ((bm3 p).at i k) ((bm3 q).at k j)).getD dZ)).isSome)]) rfl rfl)<|Ze (X2 (vs:=[.agg #[vi (((dAddI s ((dMulI ((bm3 p).at i k) ((bm3 q).at k j)).getD dZ)).getD dZ).num.a),vi (((dAddI s ((dMulI ((bm3 p).at i k) ((bm3 q).at k j)).getD dZ)).getD dZ).num.b),vi (((dAddI s ((dMulI ((bm3 p).at i k) ((bm3 q).at k j)).getD dZ)).getD dZ).num.c),vi (((dAddI s ((dMulI ((bm3 p).at i k) ((bm3 q).at k j)).getD dZ)).getD dZ).num.d),vi (((dAddI s ((dMulI ((bm3 p).at i k) ((bm3 q).at k j)).getD dZ)).getD dZ).exp)],.bool ((dAddI s ((dMulI ((bm3 p).at i k) ((bm3 q).at k j)).getD dZ)).isSome)]) rfl rfl)<|Zf (X4 (zs:=[vi 0,vi 0,vi 0,vi 0,vi 0]) X0l rfl) ?_;rintro _ eF ⟨b42,rfl,aF,o,aG⟩
    have bO:M≠b42:=by have:=f.lt;omega
    have bP:t≠b42:=by have:=E.lt;omega
    have bK:=Q0 m.size aF;have aM:=e.away aF;have d5:=(H.below' m).away aF;have d6:=(I.below' m).away aF;have f:=f.below o;have e:=e.below o;have m:=btr m o;refine Zo (Vw [vi (((dAddI s ((dMulI ((bm3 p).at i k) ((bm3 q).at k j)).getD dZ)).getD dZ).num.a),vi (((dAddI s ((dMulI ((bm3 p).at i k) ((bm3 q).at k j)).getD dZ)).getD dZ).num.b),vi (((dAddI s ((dMulI ((bm3 p).at i k) ((bm3 q).at k j)).getD dZ)).getD dZ).num.c),vi (((dAddI s ((dMulI ((bm3 p).at i k) ((bm3 q).at k j)).getD dZ)).getD dZ).num.d),vi (((dAddI s ((dMulI ((bm3 p).at i k) ((bm3 q).at k j)).getD dZ)).getD dZ).exp)] Xa aG) ?_;rintro _ dP ⟨ho,hb⟩;have aS:=aG;have f:=f.only ho (by omega);have e:=e.onlyA ho aM;have m:=Below.only m ho bK;have aG:=hb;refine Za rfl<|ZX cX fun a g _ d7=>?_;refine Q5 fun _ d8=>?_;refine X0a (fun a w=>Fr a 65 [(0,.slice Ap p.length cp),(1,.slice Aq q.length cq),(6,.slice U l2.length aB),(7,vi (i:Int)),(8,vi (j:Int)),(9,.pointer (some ⟨M,0,none⟩)),(13,.pointer (some ⟨b42,0,none⟩)),(16,vi (i:Int)),(19,vi (j:Int)),(23,vi (k:Int)),(55,.bool ((!((dMulI ((bm3 p).at i k) ((bm3 q).at k j)).isSome))||(!((dAddI s ((dMulI ((bm3 p).at i k) ((bm3 q).at k j)).getD dZ)).isSome))))]∧dP=w) ?_ ?_
    ·refine Zr g<|Zm rfl<|Ze (X0o rfl)<|Zm rfl ?_
     refine Zg 52 rfl (fun y=>?_) (fun y=>?_)
     ·refine Zp (gP y) ?_;refine Zp (gP y) ?_;refine Ze (Xh rfl y rfl) ?_;refine Zn fun a g=>?_;exact ⟨g.sub ⟨rfl,rfl,rfl,rfl,rfl,rfl,rfl,rfl,rfl,rfl,X1 rfl (by first|rfl|(simp only [J,L,N,y,bs];done)|simp [J,L,N,y]),trivial⟩,rfl⟩
     refine Zv (gW y) (Xb rfl) ?_;refine Zv (gW y) (X0o rfl) ?_;refine Ze (Xf rfl y rfl) ?_;refine Zn fun a g=>?_;exact ⟨g.sub ⟨rfl,rfl,rfl,rfl,rfl,rfl,rfl,rfl,rfl,rfl,X1 rfl (by first|rfl|(simp only [J,L,N,y,bs];done)|simp [J,L,N,y]),trivial⟩,rfl⟩
    rintro a _ ⟨g,rfl⟩;refine d8 _ _ ?_
    refine Xl g rfl (fun aC=>?_) (fun aC=>?_)
    ·have bL:=aC;have hn:=X4u aC
     have dQ:dotI (bm3 p) (bm3 q) i j (k+1)=none:=by rw [dotI,hs];simp only [Qz];revert hn;cases dMulI ((bm3 p).at i k) ((bm3 q).at k j)<;>simp
     have dR:=X6i dQ 3 (by omega)
     refine Zs g fun _ d9=>?_;refine Za rfl<|Za rfl<|Zt d9 fun a g=>?_;refine Q6<|X7<|Xw<|X7 ?_;refine X7<|Xw<|X7<|Xw ?_;refine X7<|X7<|Xw<|Xw ?_;refine X7<|X7<|Xw<|X7 ?_;refine X3 g (X0r g rfl rfl rfl) ?_
     have he:mulBI p q=none:=X4z (n:=i*3+j) (by rw [X2l aQ];exact dR) 9 (by omega)
     rw [he]
     exact ⟨none,0,rfl,(Own.nil _ _ _ _ _),m⟩
    have bL:=aC;have hy:=X66 aC;refine Q7<|d7 _ _<|Zr g<|Ze (Vn X6 aG)<|Zo (Vw [vi (((dAddI s ((dMulI ((bm3 p).at i k) ((bm3 q).at k j)).getD dZ)).getD dZ).num.a),vi (((dAddI s ((dMulI ((bm3 p).at i k) ((bm3 q).at k j)).getD dZ)).getD dZ).num.b),vi (((dAddI s ((dMulI ((bm3 p).at i k) ((bm3 q).at k j)).getD dZ)).getD dZ).num.c),vi (((dAddI s ((dMulI ((bm3 p).at i k) ((bm3 q).at k j)).getD dZ)).getD dZ).num.d),vi (((dAddI s ((dMulI ((bm3 p).at i k) ((bm3 q).at k j)).getD dZ)).getD dZ).exp)] Xa f) ?_;rintro _ eH ⟨ho,hb⟩;have aS:=f;have e:=e.onlyA ho G;have m:=Below.only m ho aR;have f:=hb;refine Zn fun a g=>?_;refine Xn<|cR _ _<|Zr g<|Ze (X01 rfl rfl (by omega) (by omega))<|Zm rfl ?_;refine Zn fun a g=>?_;refine Xm ?_;exact ⟨(k+1,((dAddI s ((dMulI ((bm3 p).at i k) ((bm3 q).at k j)).getD dZ)).getD dZ)),⟨g.sb,(by omega),(by rw [dotI,hs];simp only [Qz];revert hy;cases dMulI ((bm3 p).at i k) ((bm3 q).at k j)<;>simp;intro hy;revert hy;cases dAddI s _<;>simp),f,e,m⟩,(by first|omega|(dsimp only;omega))⟩
   have N:=D;have D:=Q1 D
   have b1:k=3:=by have:=D;omega
   have hx:gridG (fun i j=>dotI (bm3 p) (bm3 q) i j 3) 3 (i*3+j)=some s:=by rw [X2l aQ,← hs,b1]
   refine Q9<|Xk<|Xk<|X05 ?_;refine cM _ _<|Zr g<|Zm rfl<|Ze (Vn X6 f)<|Zf (Xd (k:=1) (vs:=[.agg #[vi s.num.a,vi s.num.b,vi s.num.c,vi s.num.d,vi s.exp]]) (zs:=[vi s.num.a,vi s.num.b,vi s.num.c,vi s.num.d,vi s.exp]) rfl Xv X0x rfl rfl) ?_;rintro _ eI ⟨b49,rfl,aH,o,aZ⟩
   have bQ:M≠b49:=by have:=f.lt;omega
   have dS:=Q0 m.size aH;have aN:=e.away aH;have dA:=(H.below' m).away aH;have dB:=(I.below' m).away aH;have f:=f.below o;have e:=e.below o;have m:=btr m o;refine Zf (X0n (enc:=encD) (l:=(l2)) (l2:=([s])) (B0:=Q.heap.size) rfl rfl Xv X0x Xz X28 e (Rd.of_blk aZ rfl _ aZ.lt) (by simp only [maxLen];simp;omega) (by simp;omega) m.size) ?_;rintro _ eJ ⟨dT,dU,rfl,dC,hg,bM⟩
   have b4:Own _ Q.heap.size 86 5 encD _ _ (l2):=e
   have bR:=bM _ f.lt G;have bS:=bM _ aZ.lt aN;clear bM;have m:=Below.app m b4 hg (Qb _) m.size;clear b4 hg;refine Za rfl ?_;refine Zn fun a g=>?_;refine Xn<|cF _ _<|Zr g<|Ze (X01 rfl rfl (by omega) (by omega))<|Zm rfl ?_;refine Zn fun a g=>?_;refine Xm ?_;exact ⟨(j+1,l2++[s]),⟨dT,dU,g.sb,(by omega),(X42 b0 hx),dC,m⟩,(by first|omega|(dsimp only;omega))⟩
  have L:=C;have C:=Q1 C
  have aQ:j=3:=by have:=C;omega
  refine Q9<|Xk<|Xk<|X05 ?_;refine Xn<|cA _ _<|Zr g<|Ze (X01 rfl rfl (by omega) (by omega))<|Zm rfl ?_;refine Zn fun a g=>?_;refine Xm ?_;exact ⟨(i+1,l2),⟨U,aB,g.sb,(by omega),(by rw [Wb,Nat.one_mul];rw [aQ] at b0;exact b0),e,m⟩,(by first|omega|(dsimp only;omega))⟩
 have J:=B;have B:=Q1 B
 have b7:i=3:=by have:=B;omega
 refine Q9<|Xk<|Xk<|X05 ?_;refine dL _ _<|Zs g fun _ dD=>?_;refine Zm rfl<|Za rfl<|Za rfl<|Zt dD fun a g=>?_
 refine Q6 (X3 g (X0r g rfl rfl rfl) ?_)
 have he:mulBI p q=some l:=by rw [b7] at hl;exact hl
 rw [he]
 exact ⟨aO,aP,rfl,b2,m⟩
theorem Xre(o:World)(Ap:Option Addr)(cp:Nat)(p:List Dy)(t:Rd o o.heap.size 86 encD Ap p)(aW:p.length=9) : Ret Tryz.prog 73 [.slice Ap p.length cp] o (fun v w=>∃ A c,v=.slice A (trB p).length c∧Own w o.heap.size 86 5 encD A c (trB p)∧Below o.heap.size o w):=by
 refine enter Tryz.func73 rfl 26 rfl rfl ?_;intro a e
 have m:=bz o
 refine Zs e fun _ aX=>?_;refine Za rfl<|Zx aX fun a e _ aY=>?_;refine Zf (Xd (k:=0) (vs:=[]) (zs:=[]) rfl Xv X0x rfl rfl) ?_;rintro _ w1 ⟨b5,rfl,aE,hE,aZ⟩;have aF:=Q0 m.size aE;have aU:=(t.below' m).away aE;have m:=btr m hE;refine Za rfl<|ZX aY fun a e _ b0=>?_;refine Zs e fun _ b1=>?_;refine Zm rfl<|Zt b1 fun a e=>?_;refine Q8<|X03 (σ:=Nat×(List Dy)) (fun (s:Nat×(List Dy)) (a:Act) (w:World)=>match s with|(i,l)=>∃ A9 c9,Fr a 26 [(0,.slice Ap p.length cp),(3,.slice A9 l.length c9),(7,vi (i:Int))]∧(i≤3)∧(gridL (fun i j=>(bm3 p).at j i) 3 (i*3)=l)∧Own w o.heap.size 86 5 encD A9 c9 l∧Below o.heap.size o w) (fun (s:Nat×(List Dy))=>match s with|(i,l)=>3-i) (0,[]) ?_ ?_
 ·exact ⟨some ⟨b5,0,none⟩,0,e.sb,(by omega),rfl,(Own.empty aZ aF),m⟩
 rintro ⟨i,l⟩ a w2 ⟨A9,c9,e,hi,hl,aG,m⟩;refine Zs e fun _ aH=>?_;refine Ze (X14 rfl rfl)<|ZX aH fun a e _ aI=>?_
 refine Xl e rfl (fun f=>?_) (fun f=>?_)
 ·have a9:=f;have f:=Q2 f
  have aA:i<3:=by have:=f;omega
  refine Q7<|aI _ _<|Q5 fun _ aJ=>?_;refine Q8<|Zs e fun _ aK=>?_;refine Zm rfl<|Za rfl<|Zx aK fun a e _ aL=>?_;refine Zm rfl<|Zt aL fun a e=>?_;refine Q8<|X03 (σ:=Nat×(List Dy)) (fun (s:Nat×(List Dy)) (a:Act) (w:World)=>match s with|(j,l2)=>∃ z h,Fr a 26 [(0,.slice Ap p.length cp),(3,.slice z l2.length h),(4,vi (i:Int)),(7,vi (i:Int)),(10,vi (j:Int))]∧(j≤3)∧(gridL (fun i j=>(bm3 p).at j i) 3 (i*3+j)=l2)∧Own w o.heap.size 86 5 encD z h l2∧Below o.heap.size o w) (fun (s:Nat×(List Dy))=>match s with|(j,l2)=>3-j) (0,l) ?_ ?_
  ·exact ⟨A9,c9,e.sb,(by omega),hl,aG,m⟩
  rintro ⟨j,l2⟩ a w3 ⟨z,h,e,hj,B,n,m⟩;refine Zs e fun _ aM=>?_;refine Ze (X14 rfl rfl)<|ZX aM fun a e _ aN=>?_
  refine Xl e rfl (fun g=>?_) (fun g=>?_)
  ·have aB:=g;have g:=Q2 g
   have C:j<3:=by have:=g;omega
   have b6:l2.length=i*3+j:=by rw [← B,X2f]
   refine Q7<|aN _ _<|Q5 fun _ aO=>?_;refine Q8<|Zs e fun _ aP=>?_;refine Zm rfl<|Za rfl<|Zt aP fun a e=>?_;refine Zr e<|Zm rfl<|Zm rfl<|Zm rfl<|Ze (X5v rfl rfl (by omega) (by omega))<|Zm rfl<|Ze (X01 rfl rfl (by omega) (by omega))<|Zi (k:=(3*j+i)) (u:=((bm3 p).at j i)) (enc:=encD) (l:=p) trivial rfl rfl Xv Xa Xz (t.below' m) (at9 aW C aA) (by omega) ?_;intro b7 aC;refine Ze (Xy (l:=[vi (((bm3 p).at j i).num.a),vi (((bm3 p).at j i).num.b),vi (((bm3 p).at j i).num.c),vi (((bm3 p).at j i).num.d),vi (((bm3 p).at j i).exp)]) rfl X6 aC rfl)<|Zf (Xd (k:=1) (vs:=[.agg #[vi (((bm3 p).at j i).num.a),vi (((bm3 p).at j i).num.b),vi (((bm3 p).at j i).num.c),vi (((bm3 p).at j i).num.d),vi (((bm3 p).at j i).exp)]]) (zs:=[vi (((bm3 p).at j i).num.a),vi (((bm3 p).at j i).num.b),vi (((bm3 p).at j i).num.c),vi (((bm3 p).at j i).num.d),vi (((bm3 p).at j i).exp)]) rfl Xv X0x rfl rfl) ?_;rintro _ w4 ⟨b8,rfl,x,hE,y⟩;have b2:=Q0 m.size x;have q:=n.away x;have aQ:=(t.below' m).away x;have n:=n.below hE;have m:=btr m hE;refine Zf (X0n (enc:=encD) (l:=(l2)) (l2:=([((bm3 p).at j i)])) (B0:=o.heap.size) rfl rfl Xv X0x Xz X28 n (Rd.of_blk y rfl _ y.lt) (by simp only [maxLen];simp;omega) (by simp;omega) m.size) ?_;rintro _ w5 ⟨b3,b4,rfl,aR,hg,aS⟩
   have D:Own _ o.heap.size 86 5 encD _ _ (l2):=n
   have aD:=aS _ y.lt q;clear aS;have m:=Below.app m D hg (Qb _) m.size;clear D hg;refine Za rfl ?_;refine Zn fun a e=>?_;refine Xn<|aO _ _<|Zr e<|Ze (X01 rfl rfl (by omega) (by omega))<|Zm rfl ?_;refine Zn fun a e=>?_;refine Xm ?_;exact ⟨(j+1,l2++[((bm3 p).at j i)]),⟨b3,b4,e.sb,(by omega),(by rw [X70 C,B]),aR,m⟩,(by first|omega|(dsimp only;omega))⟩
  have aB:=g;have g:=Q1 g
  have C:j=3:=by have:=g;omega
  refine Q9<|Xk<|Xk<|X05 ?_;refine Xn<|aJ _ _<|Zr e<|Ze (X01 rfl rfl (by omega) (by omega))<|Zm rfl ?_;refine Zn fun a e=>?_;refine Xm ?_;exact ⟨(i+1,l2),⟨z,h,e.sb,(by omega),(by rw [Wb,Nat.one_mul];rw [C] at B;exact B),n,m⟩,(by first|omega|(dsimp only;omega))⟩
 have a9:=f;have f:=Q1 f
 have aA:i=3:=by have:=f;omega
 refine Q9<|Xk<|Xk<|X05 ?_;refine b0 _ _<|Zs e fun _ aT=>?_;refine Zm rfl<|Za rfl<|Zt aT fun a e=>?_
 refine Q6 (X3 e (Xt e rfl rfl) ?_)
 have he:trB p=l:=by rw [aA] at hl;exact hl
 rw [he]
 exact ⟨A9,c9,rfl,aG,m⟩
theorem Xgl(m:World)(Ap:Option Addr)(cp:Nat)(p:List Dy)(n:Rd m m.heap.size 86 encD Ap p)(aR:p.length≤9) : Ret Tryz.prog 34 [.agg #[.slice Ap p.length cp]] m (fun v w=>v=vi (bexp p)∧Below m.heap.size m w):=by
 refine enter Tryz.func34 rfl 19 rfl rfl ?_;intro a f
 have i:=bz m
 refine Zs f fun _ aH=>?_;refine Zf (X09 (zs:=[.slice Ap p.length cp]) rfl rfl) ?_;rintro _ w1 ⟨b3,rfl,aI,hE,aJ⟩;have aP:=Q0 i.size aI;have i:=btr i hE;refine Za rfl<|Zx aH fun a f _ aK=>?_;refine Za rfl<|ZX aK fun a f _ aL=>?_;refine Zs f fun _ aM=>?_;refine Ze (Vd rfl X0t 0)<|Ze (X0 rfl X0j (aJ.at 0))<|Ze (X23 rfl Xv)<|Zm rfl<|Zt aM fun a f=>?_;refine Q8<|X03 (σ:=Nat) (fun (k:Nat) (a:Act) (w:World)=>Fr a 19 [(3,vi (bexp (p.take k))),(7,.slice Ap p.length cp),(8,vi (p.length:Int)),(9,vi (k:Int))]∧(k≤p.length)∧Below m.heap.size m w) (fun (k:Nat)=>p.length-k) 0 ?_ ?_
 ·exact ⟨f.sb,(Qf _),i⟩
 rintro k a w2 ⟨f,hk,i⟩;refine Zs f fun _ aN=>?_;refine Ze (X14 rfl rfl)<|ZX aN fun a f _ aO=>?_
 refine Xl f rfl (fun g=>?_) (fun g=>?_)
 ·have aB:=g;have g:=Q2 g
  obtain ⟨e,o⟩:=Xq (l:=p) (k:=k) (by omega)
  refine Q7<|aO _ _<|Q5 fun _ aC=>?_;refine Q8<|Zs f fun _ aD=>?_;refine Zi (k:=k) (u:=e) (enc:=encD) (l:=p) trivial rfl rfl Xv Xa Xz (n.below' i) o rfl ?_;intro aS a9;refine Ze (Xy (l:=[vi e.num.a,vi e.num.b,vi e.num.c,vi e.num.d,vi e.exp]) rfl X6 a9 rfl)<|Zf (X4 (zs:=[vi 0,vi 0,vi 0,vi 0,vi 0]) X0l rfl) ?_;rintro _ w3 ⟨aT,rfl,q,hE,j⟩;have aA:=Q0 i.size q;have aE:=(n.below' i).away q;have i:=btr i hE;refine Zo (Vw [vi e.num.a,vi e.num.b,vi e.num.c,vi e.num.d,vi e.exp] Xa j) ?_;rintro _ w4 ⟨ho,hb⟩;have aQ:=j;have i:=Below.only i ho aA;have j:=hb;refine Zt aD fun a f=>?_;refine Zr f<|Zm rfl<|Ze (Vd rfl X0y 4)<|Ze (X0 rfl X8 (j.at 4))<|Ze (Vx (Xtc rfl rfl) (Xb4 o).symm)<|Za rfl ?_;refine Zn fun a f=>?_;refine Xn<|aC _ _<|Zr f<|Ze (X01 rfl rfl (by omega) (by omega))<|Zm rfl ?_;refine Zn fun a f=>?_;refine Xm ?_;exact ⟨k+1,⟨f.sb,(by omega),i⟩,(by omega)⟩
 have aB:=g;have g:=Q1 g
 have aF:bexp (p.take k)=bexp p:=by rw [Qi (by omega)]
 refine Q9<|Xk<|Xk<|X05 ?_;refine aL _ _<|Zs f fun _ aG=>?_;refine Zm rfl<|Za rfl<|Zt aG fun a f=>?_
 refine Q6 (X3 f (Xt f rfl rfl) ?_)
 exact ⟨by rw [aF],i⟩
theorem Xw7(w0:World)(x:Dy) : Ret Tryz.prog 126 [.agg #[vi x.num.a,vi x.num.b,vi x.num.c,vi x.num.d,vi x.exp]] w0 (fun v w=>v=.bool (reaB x)∧Below w0.heap.size w0 w):=by
 refine enter Tryz.func126 rfl 21 rfl rfl ?_;intro a i
 have l:=bz w0
 refine Zs i fun _ a9=>?_;refine Zf (X09 (zs:=[vi x.num.a,vi x.num.b,vi x.num.c,vi x.num.d,vi x.exp]) rfl rfl) ?_;rintro _ w1 ⟨b2,rfl,aA,hE,g⟩;have aC:=Q0 l.size aA;have l:=btr l hE;refine Za rfl<|ZX a9 fun a i _ aB=>?_;refine X0a (fun a w=>Fr a 21 [(2,.bool (((dOk x)&&(x.num.c==0))&&(x.num.d==(wr (-x.num.b)))))]∧Below w1.heap.size w1 w) ?_ ?_
 ·have j:Below w1.heap.size w1 w1:=Below.refl _ _
  refine Zr i<|Ze (Vn X6 g)<|Zf (Vc (Xaq _ x) X4q) ?_;rintro _ w2 ⟨rfl,hE⟩;have g:=g.below hE;have l:=btr l hE;have j:=btr j hE;refine Zm rfl ?_
  refine Zg 5 rfl (fun f=>?_) (fun f=>?_)
  ·refine Zv (gW f) (Vd rfl X19 0) ?_;refine Zv (gW f) (Vd rfl X0e 2) ?_;refine Zv (gW f) (X0 rfl X8 (g.at 2)) ?_;refine Zv (gW f) (X1d rfl rfl) ?_;refine Ze (Xh rfl f rfl)<|Zm rfl ?_
   refine Zg 11 rfl (fun e=>?_) (fun e=>?_)
   ·refine Zv (gW e) (Vd rfl X19 0) ?_;refine Zv (gW e) (Vd rfl X0f 3) ?_;refine Zv (gW e) (X0 rfl X8 (g.at 3)) ?_;refine Zv (gW e) (Vd rfl X19 0) ?_;refine Zv (gW e) (Vd rfl X0g 1) ?_;refine Zv (gW e) (X0 rfl X8 (g.at 1)) ?_;refine Zv (gW e) (X80 rfl) ?_;refine Zv (gW e) (X1d rfl rfl) ?_;refine Ze (Xh rfl e rfl)<|Za rfl ?_;refine Zn fun a i=>?_
    have k:Below w1.heap.size w1 w2:=j
    exact ⟨i.sub ⟨X1 rfl (by first|rfl|(simp only [f,e,bs];done)|simp [f,e]),trivial⟩,k⟩
   refine Zp (gP e) ?_;refine Zp (gP e) ?_;refine Zp (gP e) ?_;refine Zp (gP e) ?_;refine Zp (gP e) ?_;refine Zp (gP e) ?_;refine Zp (gP e) ?_;refine Zp (gP e) ?_;refine Ze (Xf rfl e rfl)<|Za rfl ?_;refine Zn fun a i=>?_
   have k:Below w1.heap.size w1 w2:=j
   exact ⟨i.sub ⟨X1 rfl (by first|rfl|(simp only [f,e,bs];done)|simp [f,e]),trivial⟩,k⟩
  refine Zp (gP f) ?_;refine Zp (gP f) ?_;refine Zp (gP f) ?_;refine Zp (gP f) ?_;refine Ze (Xf rfl f rfl)<|Zm rfl<|Zp (gP rfl) ?_;refine Zp (gP rfl) ?_;refine Zp (gP rfl) ?_;refine Zp (gP rfl) ?_;refine Zp (gP rfl) ?_;refine Zp (gP rfl) ?_;refine Zp (gP rfl) ?_;refine Zp (gP rfl) ?_;refine Ze (Xf rfl rfl rfl)<|Za rfl ?_;refine Zn fun a i=>?_
  have k:Below w1.heap.size w1 w2:=j
  exact ⟨i.sub ⟨X1 rfl (by first|rfl|(simp only [f,bs];done)|simp [f]),trivial⟩,k⟩
 rintro a w3 ⟨i,hE⟩;have l:=btr l hE;refine aB _ _ ?_
 refine Q6 (X3 i (Xt i rfl rfl) ?_)
 exact ⟨by simp [reaB, *],l⟩
theorem Xxy(w0:World)(x:Dy) : Ret Tryz.prog 125 [.agg #[vi x.num.a,vi x.num.b,vi x.num.c,vi x.num.d,vi x.exp]] w0 (fun v w=>v=.bool (!reaB x)∧Below w0.heap.size w0 w):=by
 refine enter Tryz.func125 rfl 6 rfl rfl ?_;intro a hf
 have hW:=bz w0
 refine Zs hf fun _ a9=>?_;refine Zf (X09 (zs:=[vi x.num.a,vi x.num.b,vi x.num.c,vi x.num.d,vi x.exp]) rfl rfl) ?_;rintro _ w1 ⟨b2,rfl,aA,hE,aB⟩;have aD:=Q0 hW.size aA;have hW:=btr hW hE;refine Za rfl<|Zx a9 fun a hf _ aC=>?_;refine Ze (Vn X6 aB)<|Zf (Vc (Xw7 _ x) Xqg) ?_;rintro _ w2 ⟨rfl,hE⟩;have hW:=btr hW hE;refine Ze (X0o rfl)<|Za rfl<|Zt aC fun a hf=>?_
 refine Q6 (X3 hf (Xt hf rfl rfl) ?_)
 exact ⟨rfl,hW⟩
def rSub(x y:Rg) : Rg:=⟨wr (x.a-y.a),wr (x.b-y.b),wr (x.c-y.c),wr (x.d-y.d)⟩
def dSubI(x y:Dy) : Option Dy:=
 if (dOk x&&dOk y)=true then
  if ((dRaise x (max x.exp y.exp)).2&&(dRaise y (max x.exp y.exp)).2&&rIf2 (rSub (dRaise x (max x.exp y.exp)).1 (dRaise y (max x.exp y.exp)).1) [(dRaise x (max x.exp y.exp)).1,(dRaise y (max x.exp y.exp)).1])=true then
   dOf (rIf1 (rSub (dRaise x (max x.exp y.exp)).1 (dRaise y (max x.exp y.exp)).1) [(dRaise x (max x.exp y.exp)).1,(dRaise y (max x.exp y.exp)).1]) (max x.exp y.exp)
  else none
 else none
def Tri(a:Int) : Prop:=-1≤a∧a≤1
theorem Xnh:((List.range 5).all fun i=>(List.range 5).all fun j=>decide (dMulI (dO ((i:Int)-2) 0) (dO ((j:Int)-2) 0)=some (dO (((i:Int)-2)*((j:Int)-2)) 0)))=true:=by kernel_rfl
theorem Xn7:((List.range 13).all fun i=>(List.range 13).all fun j=>decide (dAddI (dO ((i:Int)-6) 0) (dO ((j:Int)-6) 0)=some (dO (((i:Int)-6)+((j:Int)-6)) 0))&&decide (dSubI (dO ((i:Int)-6) 0) (dO ((j:Int)-6) 0)=some (dO (((i:Int)-6)-((j:Int)-6)) 0)))=true:=by kernel_rfl
theorem Xwd{a b:Int}(ha:-2≤a∧a≤2)(hb:-2≤b∧b≤2) : dMulI (dO a 0) (dO b 0)=some (dO (a*b) 0):=by
 have h:=Xnh
 simp only [W1,W2,Qr] at h
 have:=h (a+2).toNat (by omega) (b+2).toNat (by omega)
 rwa [show (((a+2).toNat:Nat) : Int)-2=a by omega,show (((b+2).toNat:Nat) : Int)-2=b by omega] at this
theorem Xtt{a b:Int}(ha:-6≤a∧a≤6)(hb:-6≤b∧b≤6) : dAddI (dO a 0) (dO b 0)=some (dO (a+b) 0)∧dSubI (dO a 0) (dO b 0)=some (dO (a-b) 0):=by
 have h:=Xn7
 simp only [W1,W2,Qd,Qr] at h
 have:=h (a+6).toNat (by omega) (b+6).toNat (by omega)
 rwa [show (((a+6).toNat:Nat) : Int)-6=a by omega,show (((b+6).toNat:Nat) : Int)-6=b by omega] at this
theorem X7u{a b:Int}(ha:Tri a)(hb:Tri b) : Tri (a*b):=by
 unfold Tri at *
 have h1:a = -1∨a=0∨a=1:=by omega
 rcases h1 with rfl|rfl|rfl<;>omega
theorem Xhc{a b:Int}(ha:Tri a)(hb:Tri b) : dMulI (dO a 0) (dO b 0)=some (dO (a*b) 0):=Xwd (by unfold Tri at ha;omega) (by unfold Tri at hb;omega)
theorem Xmz{a b c d:Int}(ha:Tri a)(hd:Tri d)(hb:Tri b)(hc:Tri c) : dSubI (dO (a*d) 0) (dO (b*c) 0)=some (dO (a*d-b*c) 0):=by
 have h1:=X7u ha hd;have h2:=X7u hb hc
 unfold Tri at h1 h2
 exact (Xtt (by omega) (by omega)).2
structure SmB (q:List Int) : Prop where
 len:q.length=9
 tri:∀ n,Tri (q.getD n 0)
theorem SmB.blen{q:List Int}(h:SmB q) : (intB q).length=9:=by simp [intB,h.len]
theorem SmB.get{q:List Int}(h:SmB q){n:Nat}(hn:n<9) : (intB q)[n]? = some (dO (q.getD n 0) 0):=by
 have:=h.len
 rw [intB,List.getElem?_map,Qa,Qc (by omega)];rfl
def rstN(q:List Int)(k:Nat) : Nat→List Int
 | 0=>[]
 | j+1=>if j=k then rstN q k j else rstN q k j++[q.getD (3+j) 0,q.getD (6+j) 0]
theorem Xla{q:List Int}{k j:Nat}(h:j≠k) : intB (rstN q k j)++[dO (q.getD (3+j) 0) 0,dO (q.getD (6+j) 0) 0]=intB (rstN q k (j+1)):=by
 rw [rstN,Q3 h];simp [intB]
theorem Xmo{q:List Int}{k j:Nat}(h:j=k) : intB (rstN q k j)=intB (rstN q k (j+1)):=by rw [rstN,Q4 h]
theorem Xs4(q:List Int)(k j:Nat) : (intB (rstN q k j)).length≤2*j:=by
 induction j with
 | zero=>exact Qf _
 | succ j ih=>
  rw [rstN]
  split
  ·omega
  ·simp [intB] at ih ⊢;omega
def eN(q:List Int)(k n:Nat) : Int:=(rstN q k 3).getD n 0
theorem Xgc{q:List Int}{k:Nat}(h:k<3) : (intB (rstN q k 3)).length=4:=by
 rcases lt3 h with rfl|rfl|rfl<;>rfl
theorem X9i{q:List Int}(_:SmB q){k:Nat}(h:k<3){n:Nat}(hn:n<4) : (intB (rstN q k 3))[n]? = some (dO (eN q k n) 0):=by
 have hl:(rstN q k 3).length=4:=by have:=Xgc (q:=q) h;simpa [intB] using this
 rw [intB,List.getElem?_map,eN,Qa,Qc (by omega)];rfl
theorem X3r{q:List Int}(hS:SmB q){k:Nat}(h:k<3){n:Nat}(hn:n<4) : Tri (eN q k n):=by
 have hn':n=0∨n=1∨n=2∨n=3:=by omega
 rcases lt3 h with rfl|rfl|rfl<;>rcases hn' with rfl|rfl|rfl|rfl<;>exact hS.tri _
def mnN(q:List Int)(k:Nat) : Int:=eN q k 0*eN q k 3-eN q k 2*eN q k 1
def dtN(q:List Int) : Nat→Int
 | 0=>0
 | k+1=>if k=1 then dtN q k-q.getD k 0*mnN q k else dtN q k+q.getD k 0*mnN q k
theorem Xmm{q:List Int}(hS:SmB q){k:Nat}(h:k<3) : -2≤mnN q k∧mnN q k≤2:=by
 have h1:=X7u (X3r hS h (show 0<4 by decide)) (X3r hS h (show 3<4 by decide))
 have h2:=X7u (X3r hS h (show 2<4 by decide)) (X3r hS h (show 1<4 by decide))
 unfold Tri at h1 h2
 unfold mnN
 omega
theorem Xf8{q:List Int}(hS:SmB q){k:Nat}(h:k<3) : -2≤q.getD k 0*mnN q k∧q.getD k 0*mnN q k≤2:=by
 have h1:=Xmm hS h;have h2:=hS.tri k
 unfold Tri at h2
 have h3:q.getD k 0 = -1∨q.getD k 0=0∨q.getD k 0=1:=by omega
 rcases h3 with e|e|e<;>rw [e]<;>omega
theorem Xkg{q:List Int}(hS:SmB q) : ∀ k:Nat,k≤3→-(2*(k:Int))≤dtN q k∧dtN q k≤2*(k:Int):=fun k=>by
 induction k with
 | zero=>exact fun _=>⟨Int.le_refl _,Int.le_refl _⟩
 | succ k ih=>
  intro hk
  have h1:=ih (by omega)
  have h2:=Xf8 hS (show k<3 by omega)
  rw [dtN]
  split<;>omega
theorem Xhp{q:List Int}(hS:SmB q){k:Nat}(h:k<3) : dMulI (dO (q.getD k 0) 0) (dO (eN q k 0*eN q k 3-eN q k 2*eN q k 1) 0)=some (dO (q.getD k 0*mnN q k) 0):=by
 have h2:=hS.tri k
 unfold Tri at h2
 exact Xwd (by omega) (Xmm hS h)
theorem Xpx{q:List Int}(hS:SmB q){k:Nat}(h:k<3)(h1:k≠1) : dAddI (dO (dtN q k) 0) (dO (q.getD k 0*mnN q k) 0)=some (dO (dtN q (k+1)) 0):=by
 have a:=Xkg hS k (by omega)
 have b:=Xf8 hS h
 rw [(Xtt (by omega) (by omega)).1,dtN,Q3 h1]
theorem Xoc{q:List Int}(hS:SmB q){k:Nat}(h:k<3)(h1:k=1) : dSubI (dO (dtN q k) 0) (dO (q.getD k 0*mnN q k) 0)=some (dO (dtN q (k+1)) 0):=by
 have a:=Xkg hS k (by omega)
 have b:=Xf8 hS h
 rw [(Xtt (by omega) (by omega)).2,dtN,Q4 h1]
def qN9(k:Nat) : List Int:=clN.getD k []
theorem Xwh:((List.range 24).all fun k=>(qN9 k).length==9&&(qN9 k).all (fun x=>decide (-1≤x∧x≤1))&&decide (dtN (qN9 k) 3=1)&&!((clB k).any fun x=>!reaB x))=true:=by kernel_rfl
theorem Xho{k:Nat}(hk:k<24) : SmB (qN9 k)∧dtN (qN9 k) 3=1∧((clB k).any fun x=>!reaB x)=false:=by
 have h1:=W1.1 Xwh k (W2.2 hk)
 simp only [Qd,beq_iff_eq,Qr,Bool.not_eq_true'] at h1
 obtain ⟨⟨⟨h2,h3⟩,h4⟩,h5⟩:=h1
 refine ⟨⟨h2,fun n=>?_⟩,h4,h5⟩
 rw [W1] at h3
 rw [Qa]
 cases e:(qN9 k)[n]? with
 | none=>exact ⟨by decide,by decide⟩
 | some x=>
  have:=h3 x (Qe e)
  simpa [Tri] using this
theorem Xxa:((List.range 24).all fun k=>(trB (clB k)).all dOk&&(List.range 3).all fun i=>(List.range 3).all fun j=>decide ((bm3 (trB (clB k))).at i j=dO (rbN k j i) 0)&&decide (rbN k i 0*rbN k j 0+rbN k i 1*rbN k j 1+rbN k i 2*rbN k j 2=rbN 0 i j))=true:=by kernel_rfl
theorem Xo9{k:Nat}(hk:k<24) : mulBI (clB k) (trB (clB k))=some (clB 0):=by
 have h1:=W1.1 Xxa k (W2.2 hk)
 simp only [Qd,W1,W2,Qr] at h1
 obtain ⟨h2,h3⟩:=h1;have hv:=X5z hk
 have ht:BV (trB (clB k)) 0 (fun i j=>zI (rbN k j i)):=⟨X97 _,h2,fun i j hi hj=>by rw [(h3 i hi j hj).1];exact X7l rfl rfl⟩
 have hz:∀ a b:Int,zI a*zI b=zI (a*b):=fun a b=>by apply X0m<;>simp [X2k,X2w,X33,X35,zI]
 have hz2:∀ a b:Int,zI a+zI b=zI (a+b):=fun a b=>rfl
 have ho:∀ i j,i<3→j<3→∃ x,dotI (bm3 (clB k)) (bm3 (trB (clB k))) i j 3=some x:=fun i j hi hj=>X8i hv ht (by decide) (R:=16) (by decide) hi hj fun n hn=>by
  have hs:=(Xho hk).1.tri
  have t1:Tri (rbN k i n):=hs _
  have t2:Tri (rbN k j n):=hs _
  have t3:=X7u t1 t2
  show qN (zI _*zI _)≤16
  rw [hz]
  unfold Tri at t3
  have h5:rbN k i n*rbN k j n = -1∨rbN k i n*rbN k j n=0∨rbN k i n*rbN k j n=1:=by omega
  rcases h5 with e|e|e<;>rw [e]<;>decide
 obtain ⟨r,hr⟩ : ∃ r,mulBI (clB k) (trB (clB k))=some r:=X6c 9 fun n hn=>ho (n/3) (n % 3) (by omega) (by omega)
 rw [hr]
 have hb:=Xd6 hr hv ht
 rw [Xjr hb (X5z (show 0<24 by decide)) fun i j hi hj=>?_]
 show s2^0*(zI _*zI _+zI _*zI _+zI _*zI _)=s2^(0+0)*zI _
 rw [hz,hz,hz,hz2,hz2,(h3 i hi j hj).2]
theorem Xwk:((List.range 9).all fun n=>decide ((clB 0)[n]? = some (dO (if n % 4=0 then 1 else 0) 0)))=true:=by kernel_rfl
theorem Xu6{n:Nat}(hn:n<9) : (clB 0)[n]? = some (dO (if n % 4=0 then 1 else 0) 0):=by
 have h1:=W1.1 Xwk n (W2.2 hn)
 simpa using h1
theorem Xsx{n:Nat}(hn:n<9) : dO (if n % 4=0 then 1 else 0) 0=(⟨⟨if ((n:Int).tmod 4==0)=true then 1 else 0,0,0,0⟩,0⟩ : Dy):=by
 have h:n=0∨n=1∨n=2∨n=3∨n=4∨n=5∨n=6∨n=7∨n=8:=by omega
 rcases h with rfl|rfl|rfl|rfl|rfl|rfl|rfl|rfl|rfl<;>rfl
theorem Xxn(w0:World)(x:Rg)(y:Rg) : Ret Tryz.prog 189 [.agg #[vi x.a,vi x.b,vi x.c,vi x.d],.agg #[vi y.a,vi y.b,vi y.c,vi y.d]] w0 (fun v w=>v=.tuple #[rV (rIf1 (rSub x y) [x,y]),.bool (rIf2 (rSub x y) [x,y])]∧Below w0.heap.size w0 w):=by
 refine enter Tryz.func189 rfl 33 rfl rfl ?_;intro a hf
 have i:=bz w0
 refine Zs hf fun _ aH=>?_;refine Zf (X09 (zs:=[vi x.a,vi x.b,vi x.c,vi x.d]) rfl rfl) ?_;rintro _ w1 ⟨b2,rfl,aI,j,e⟩;have aN:=Q0 i.size aI;have i:=btr i j;refine Zf (X09 (zs:=[vi y.a,vi y.b,vi y.c,vi y.d]) rfl rfl) ?_;rintro _ w2 ⟨b3,rfl,aJ,j,f⟩
 have aB:b2≠b3:=by have:=e.lt;omega
 have aO:=Q0 i.size aJ;have e:=e.below j;have i:=btr i j;refine Zf (X4 (zs:=[vi 0,vi 0,vi 0,vi 0]) X1y rfl) ?_;rintro _ w3 ⟨b4,rfl,aK,j,g⟩
 have aC:b2≠b4:=by have:=e.lt;omega
 have aD:b3≠b4:=by have:=f.lt;omega
 have a9:=Q0 i.size aK;have e:=e.below j;have f:=f.below j;have i:=btr i j;refine Za rfl<|Zx aH fun a hf _ aL=>?_;refine Ze (Vd rfl X0d 0)<|Ze (X0 rfl X8 (e.at 0))<|Ze (Vd rfl X0d 0)<|Ze (X0 rfl X8 (f.at 0))<|Ze (X48 rfl rfl)<|Ze (Vd rfl X0g 1)<|Ze (X0 rfl X8 (e.at 1))<|Ze (Vd rfl X0g 1)<|Ze (X0 rfl X8 (f.at 1))<|Ze (X48 rfl rfl) ?_;refine Ze (Vd rfl X0e 2)<|Ze (X0 rfl X8 (e.at 2))<|Ze (Vd rfl X0e 2)<|Ze (X0 rfl X8 (f.at 2))<|Ze (X48 rfl rfl)<|Ze (Vd rfl X0f 3)<|Ze (X0 rfl X8 (e.at 3))<|Ze (Vd rfl X0f 3)<|Ze (X0 rfl X8 (f.at 3))<|Ze (X48 rfl rfl) ?_;refine Ze (Xg (ps:=[(0,vi (wr (x.a-y.a))),(1,vi (wr (x.b-y.b))),(2,vi (wr (x.c-y.c))),(3,vi (wr (x.d-y.d)))]) (cs:=[vi (wr (x.a-y.a)),vi (wr (x.b-y.b)),vi (wr (x.c-y.c)),vi (wr (x.d-y.d))]) rfl (fun _=>by first|rfl|kernel_rfl))<|Ze (Vn X00 e)<|Ze (Vn X00 f)<|Zf (Xd (k:=2) (vs:=[.agg #[vi x.a,vi x.b,vi x.c,vi x.d],.agg #[vi y.a,vi y.b,vi y.c,vi y.d]]) (zs:=[vi x.a,vi x.b,vi x.c,vi x.d,vi y.a,vi y.b,vi y.c,vi y.d]) rfl X4m X4h rfl rfl) ?_;rintro _ w4 ⟨b6,rfl,aM,j,aA⟩
 have aE:b2≠b6:=by have:=e.lt;omega
 have aF:b3≠b6:=by have:=f.lt;omega
 have aG:b4≠b6:=by have:=g.lt;omega
 have aP:=Q0 i.size aM;have g:=g.below j;have i:=btr i j;refine Zf (Vc (Xip _ (⟨wr (x.a-y.a),wr (x.b-y.b),wr (x.c-y.c),wr (x.d-y.d)⟩ : Rg) (some ⟨b6,0,none⟩) 2 ([x,y]) (Rd.of_blk aA rfl _ aA.lt) rfl (by simp) (by simp)) X7z) ?_;rintro _ w5 ⟨rfl,j⟩;have g:=g.below j;have i:=btr i j;refine Ze (X2 (vs:=[.agg #[vi ((rIf1 (⟨wr (x.a-y.a),wr (x.b-y.b),wr (x.c-y.c),wr (x.d-y.d)⟩ : Rg) ([x,y])).a),vi ((rIf1 (⟨wr (x.a-y.a),wr (x.b-y.b),wr (x.c-y.c),wr (x.d-y.d)⟩ : Rg) ([x,y])).b),vi ((rIf1 (⟨wr (x.a-y.a),wr (x.b-y.b),wr (x.c-y.c),wr (x.d-y.d)⟩ : Rg) ([x,y])).c),vi ((rIf1 (⟨wr (x.a-y.a),wr (x.b-y.b),wr (x.c-y.c),wr (x.d-y.d)⟩ : Rg) ([x,y])).d)],.bool (rIf2 (⟨wr (x.a-y.a),wr (x.b-y.b),wr (x.c-y.c),wr (x.d-y.d)⟩ : Rg) ([x,y]))]) rfl rfl)<|Ze (X2 (vs:=[.agg #[vi ((rIf1 (⟨wr (x.a-y.a),wr (x.b-y.b),wr (x.c-y.c),wr (x.d-y.d)⟩ : Rg) ([x,y])).a),vi ((rIf1 (⟨wr (x.a-y.a),wr (x.b-y.b),wr (x.c-y.c),wr (x.d-y.d)⟩ : Rg) ([x,y])).b),vi ((rIf1 (⟨wr (x.a-y.a),wr (x.b-y.b),wr (x.c-y.c),wr (x.d-y.d)⟩ : Rg) ([x,y])).c),vi ((rIf1 (⟨wr (x.a-y.a),wr (x.b-y.b),wr (x.c-y.c),wr (x.d-y.d)⟩ : Rg) ([x,y])).d)],.bool (rIf2 (⟨wr (x.a-y.a),wr (x.b-y.b),wr (x.c-y.c),wr (x.d-y.d)⟩ : Rg) ([x,y]))]) rfl rfl)<|Zo (Vw [vi ((rIf1 (⟨wr (x.a-y.a),wr (x.b-y.b),wr (x.c-y.c),wr (x.d-y.d)⟩ : Rg) ([x,y])).a),vi ((rIf1 (⟨wr (x.a-y.a),wr (x.b-y.b),wr (x.c-y.c),wr (x.d-y.d)⟩ : Rg) ([x,y])).b),vi ((rIf1 (⟨wr (x.a-y.a),wr (x.b-y.b),wr (x.c-y.c),wr (x.d-y.d)⟩ : Rg) ([x,y])).c),vi ((rIf1 (⟨wr (x.a-y.a),wr (x.b-y.b),wr (x.c-y.c),wr (x.d-y.d)⟩ : Rg) ([x,y])).d)] X10 g) ?_;rintro _ w6 ⟨ho,hb⟩;have aQ:=g;have i:=Below.only i ho a9;have g:=hb;refine Za rfl<|Zt aL fun a hf=>?_
 refine Q6 (X3 hf (X0r hf rfl (ResV.cellN (l:=[vi ((rIf1 (⟨wr (x.a-y.a),wr (x.b-y.b),wr (x.c-y.c),wr (x.d-y.d)⟩ : Rg) ([x,y])).a),vi ((rIf1 (⟨wr (x.a-y.a),wr (x.b-y.b),wr (x.c-y.c),wr (x.d-y.d)⟩ : Rg) ([x,y])).b),vi ((rIf1 (⟨wr (x.a-y.a),wr (x.b-y.b),wr (x.c-y.c),wr (x.d-y.d)⟩ : Rg) ([x,y])).c),vi ((rIf1 (⟨wr (x.a-y.a),wr (x.b-y.b),wr (x.c-y.c),wr (x.d-y.d)⟩ : Rg) ([x,y])).d)]) rfl X00 (g.at 0) rfl) rfl) ?_)
 exact ⟨rfl,i⟩
theorem Xyh(w0:World)(x:Dy)(y:Dy) : Ret Tryz.prog 168 [.agg #[vi x.num.a,vi x.num.b,vi x.num.c,vi x.num.d,vi x.exp],.agg #[vi y.num.a,vi y.num.b,vi y.num.c,vi y.num.d,vi y.exp],.func (.func 189) #[] #[]] w0 (fun v w=>v=.tuple #[dV ((dSubI x y).getD dZ),.bool ((dSubI x y).isSome)]∧Below w0.heap.size w0 w):=by
 refine enter Tryz.func168 rfl 64 rfl rfl ?_;intro a k
 have f:=bz w0
 refine Zs k fun _ aX=>?_;refine Zf (X09 (zs:=[vi x.num.a,vi x.num.b,vi x.num.c,vi x.num.d,vi x.exp]) rfl rfl) ?_;rintro _ w1 ⟨b2,rfl,aY,g,q⟩;have bC:=Q0 f.size aY;have f:=btr f g;refine Zf (X09 (zs:=[vi y.num.a,vi y.num.b,vi y.num.c,vi y.num.d,vi y.exp]) rfl rfl) ?_;rintro _ w2 ⟨b3,rfl,aZ,g,m⟩
 have aT:b2≠b3:=by have:=q.lt;omega
 have bD:=Q0 f.size aZ;have q:=q.below g;have f:=btr f g;refine Zf (X4 (zs:=[vi 0,vi 0,vi 0,vi 0,vi 0]) X0l rfl) ?_;rintro _ w3 ⟨b4,rfl,b0,g,e⟩
 have aU:b2≠b4:=by have:=q.lt;omega
 have aW:b3≠b4:=by have:=m.lt;omega
 have C:=Q0 f.size b0;have q:=q.below g;have m:=m.below g;have f:=btr f g;refine Za rfl<|ZX aX fun a k _ b1=>?_;refine Q5 fun _ b5=>?_;refine X0a (fun a w=>Fr a 64 [(2,.func (.func 189) #[] #[]),(3,.pointer (some ⟨b2,0,none⟩)),(4,.pointer (some ⟨b3,0,none⟩)),(6,.pointer (some ⟨b4,0,none⟩)),(22,.bool ((!(dOk x))||(!(dOk y))))]∧Below w3.heap.size w3 w) ?_ ?_
 ·have B:Below w3.heap.size w3 w3:=Below.refl _ _
  refine Zr k<|Ze (Vn X6 q)<|Zf (Vc (Xaq _ x) X4q) ?_;rintro _ w4 ⟨rfl,g⟩;have m:=m.below g;have f:=btr f g;have B:=btr B g;refine Ze (X0o rfl)<|Zm rfl ?_
  refine Zg 18 rfl (fun p=>?_) (fun p=>?_)
  ·refine Zp (gP p) ?_;refine Zp (gP p) ?_;refine Zp (gP p) ?_;refine Ze (Xh rfl p rfl) ?_;refine Zn fun a k=>?_
   have a9:Below w3.heap.size w3 w4:=B
   exact ⟨k.sub ⟨rfl,rfl,rfl,rfl,X1 rfl (by first|rfl|(simp only [p,bs];done)|simp [p]),trivial⟩,a9⟩
  refine Zv (gW p) (Vn X6 m) ?_;refine Zk (gW p) (Vc (Xaq _ y) X4q) ?_;rintro _ w5 ⟨rfl,g⟩;have f:=btr f g;have B:=btr B g;refine Zv (gW p) (X0o rfl) ?_;refine Ze (Xf rfl p rfl) ?_;refine Zn fun a k=>?_
  have a9:Below w3.heap.size w3 w5:=B
  exact ⟨k.sub ⟨rfl,rfl,rfl,rfl,X1 rfl (by first|rfl|(simp only [p,bs];done)|simp [p]),trivial⟩,a9⟩
 rintro a w6 ⟨k,g⟩;have q:=q.below g;have m:=m.below g;have e:=e.below g;have f:=btr f g;refine b5 _ _ ?_
 refine Xl k rfl (fun D=>?_) (fun D=>?_)
 ·have t:=D
  have hn:(dOk x&&dOk y)=false:=by revert D;cases dOk x<;>cases dOk y<;>simp
  refine Zs k fun _ b6=>?_;refine Ze (Xg (ps:=[]) (cs:=[vi 0,vi 0,vi 0,vi 0,vi 0]) rfl (fun _=>by first|rfl|kernel_rfl))<|Zo (Vw [vi 0,vi 0,vi 0,vi 0,vi 0] Xa e) ?_;rintro _ w7 ⟨h,E⟩;have o:=e;have f:=Below.only f h C;have e:=E;refine Za rfl<|Zt b6 fun a k=>?_;refine Q6<|X7<|X3 k (X0r k rfl (ResV.cellN (l:=[vi 0,vi 0,vi 0,vi 0,vi 0]) rfl X6 (e.at 0) rfl) rfl) ?_;exact ⟨by rw [dSubI,hn];rfl,f⟩
 have t:=D
 have hy:(dOk x&&dOk y)=true:=by revert D;cases dOk x<;>cases dOk y<;>simp
 have hx:=X1r (Qd _ _▸hy:dOk x=true∧dOk y=true).1;have hz:=X1r (Qd _ _▸hy:dOk x=true∧dOk y=true).2;refine Q7<|b1 _ _<|Zs k fun _ aH=>?_;refine Ze (Vd rfl X0y 4)<|Ze (X0 rfl X8 (q.at 4))<|Ze (Vd rfl X0y 4)<|Ze (X0 rfl X8 (m.at 4))<|Ze (Xtc rfl rfl)<|Za rfl<|Zx aH fun a k _ aI=>?_;refine Ze (Vn X6 q)<|Zm rfl<|Zf (Vc (Xof _ x (max x.exp y.exp) (by omega) (by omega) (by omega)) Xcv) ?_;rintro _ w8 ⟨rfl,g⟩;have m:=m.below g;have e:=e.below g;have f:=btr f g;refine Zm rfl<|Ze (X2 (vs:=[.agg #[vi (((dRaise x (max x.exp y.exp)).1).a),vi (((dRaise x (max x.exp y.exp)).1).b),vi (((dRaise x (max x.exp y.exp)).1).c),vi (((dRaise x (max x.exp y.exp)).1).d)],.bool ((dRaise x (max x.exp y.exp)).2)]) rfl rfl)<|Ze (X2 (vs:=[.agg #[vi (((dRaise x (max x.exp y.exp)).1).a),vi (((dRaise x (max x.exp y.exp)).1).b),vi (((dRaise x (max x.exp y.exp)).1).c),vi (((dRaise x (max x.exp y.exp)).1).d)],.bool ((dRaise x (max x.exp y.exp)).2)]) rfl rfl)<|Zf (X4 (zs:=[vi 0,vi 0,vi 0,vi 0]) X1y rfl) ?_;rintro _ w9 ⟨aJ,rfl,aK,g,i⟩;have aA:=Q0 f.size aK;have m:=m.below g;have e:=e.below g;have f:=btr f g;refine Zo (Vw [vi (((dRaise x (max x.exp y.exp)).1).a),vi (((dRaise x (max x.exp y.exp)).1).b),vi (((dRaise x (max x.exp y.exp)).1).c),vi (((dRaise x (max x.exp y.exp)).1).d)] X10 i) ?_;rintro _ bE ⟨h,E⟩;have o:=i;have m:=m.only h (Blk.ne m o rfl);have e:=e.only h (Blk.ne e o rfl);have f:=Below.only f h aA;have i:=E;refine Za rfl<|Zx aI fun a k _ aL=>?_;refine Ze (Vn X6 m)<|Zm rfl<|Zf (Vc (Xof _ y (max x.exp y.exp) (by omega) (by omega) (by omega)) Xcv) ?_;rintro _ bF ⟨rfl,g⟩
 have e:=e.below g;have i:=i.below g;have f:=btr f g;refine Zm rfl<|Ze (X2 (vs:=[.agg #[vi (((dRaise y (max x.exp y.exp)).1).a),vi (((dRaise y (max x.exp y.exp)).1).b),vi (((dRaise y (max x.exp y.exp)).1).c),vi (((dRaise y (max x.exp y.exp)).1).d)],.bool ((dRaise y (max x.exp y.exp)).2)]) rfl rfl)<|Ze (X2 (vs:=[.agg #[vi (((dRaise y (max x.exp y.exp)).1).a),vi (((dRaise y (max x.exp y.exp)).1).b),vi (((dRaise y (max x.exp y.exp)).1).c),vi (((dRaise y (max x.exp y.exp)).1).d)],.bool ((dRaise y (max x.exp y.exp)).2)]) rfl rfl)<|Zf (X4 (zs:=[vi 0,vi 0,vi 0,vi 0]) X1y rfl) ?_;rintro _ bG ⟨b14,rfl,aM,g,u⟩
 have aE:aJ≠b14:=by have:=i.lt;omega
 have aB:=Q0 f.size aM;have e:=e.below g;have i:=i.below g;have f:=btr f g;refine Zo (Vw [vi (((dRaise y (max x.exp y.exp)).1).a),vi (((dRaise y (max x.exp y.exp)).1).b),vi (((dRaise y (max x.exp y.exp)).1).c),vi (((dRaise y (max x.exp y.exp)).1).d)] X10 u) ?_;rintro _ bH ⟨h,E⟩;have o:=u;have e:=e.only h (Blk.ne e o rfl);have i:=i.only h (by omega);have f:=Below.only f h aB;have u:=E;refine Za rfl<|Zx aL fun a k _ aN=>?_;refine Zm rfl<|Ze (Vn X00 i)<|Ze (Vn X00 u)<|Zf (X67 (cs:=[]) (vs:=[.agg #[vi (((dRaise x (max x.exp y.exp)).1).a),vi (((dRaise x (max x.exp y.exp)).1).b),vi (((dRaise x (max x.exp y.exp)).1).c),vi (((dRaise x (max x.exp y.exp)).1).d)],.agg #[vi (((dRaise y (max x.exp y.exp)).1).a),vi (((dRaise y (max x.exp y.exp)).1).b),vi (((dRaise y (max x.exp y.exp)).1).c),vi (((dRaise y (max x.exp y.exp)).1).d)]]) rfl rfl Xqd (Xxn _ ((dRaise x (max x.exp y.exp)).1) ((dRaise y (max x.exp y.exp)).1))) ?_;rintro _ bI ⟨rfl,g⟩;have e:=e.below g;have i:=i.below g;have u:=u.below g;have f:=btr f g;refine Zm rfl<|Ze (X2 (vs:=[.agg #[vi ((rIf1 (rSub ((dRaise x (max x.exp y.exp)).1) ((dRaise y (max x.exp y.exp)).1)) [((dRaise x (max x.exp y.exp)).1),((dRaise y (max x.exp y.exp)).1)]).a),vi ((rIf1 (rSub ((dRaise x (max x.exp y.exp)).1) ((dRaise y (max x.exp y.exp)).1)) [((dRaise x (max x.exp y.exp)).1),((dRaise y (max x.exp y.exp)).1)]).b),vi ((rIf1 (rSub ((dRaise x (max x.exp y.exp)).1) ((dRaise y (max x.exp y.exp)).1)) [((dRaise x (max x.exp y.exp)).1),((dRaise y (max x.exp y.exp)).1)]).c),vi ((rIf1 (rSub ((dRaise x (max x.exp y.exp)).1) ((dRaise y (max x.exp y.exp)).1)) [((dRaise x (max x.exp y.exp)).1),((dRaise y (max x.exp y.exp)).1)]).d)],.bool (rIf2 (rSub ((dRaise x (max x.exp y.exp)).1) ((dRaise y (max x.exp y.exp)).1)) [((dRaise x (max x.exp y.exp)).1),((dRaise y (max x.exp y.exp)).1)])]) rfl rfl)<|Ze (X2 (vs:=[.agg #[vi ((rIf1 (rSub ((dRaise x (max x.exp y.exp)).1) ((dRaise y (max x.exp y.exp)).1)) [((dRaise x (max x.exp y.exp)).1),((dRaise y (max x.exp y.exp)).1)]).a),vi ((rIf1 (rSub ((dRaise x (max x.exp y.exp)).1) ((dRaise y (max x.exp y.exp)).1)) [((dRaise x (max x.exp y.exp)).1),((dRaise y (max x.exp y.exp)).1)]).b),vi ((rIf1 (rSub ((dRaise x (max x.exp y.exp)).1) ((dRaise y (max x.exp y.exp)).1)) [((dRaise x (max x.exp y.exp)).1),((dRaise y (max x.exp y.exp)).1)]).c),vi ((rIf1 (rSub ((dRaise x (max x.exp y.exp)).1) ((dRaise y (max x.exp y.exp)).1)) [((dRaise x (max x.exp y.exp)).1),((dRaise y (max x.exp y.exp)).1)]).d)],.bool (rIf2 (rSub ((dRaise x (max x.exp y.exp)).1) ((dRaise y (max x.exp y.exp)).1)) [((dRaise x (max x.exp y.exp)).1),((dRaise y (max x.exp y.exp)).1)])]) rfl rfl)<|Zf (X4 (zs:=[vi 0,vi 0,vi 0,vi 0]) X1y rfl) ?_;rintro _ bJ ⟨b16,rfl,aO,g,A⟩
 have aF:aJ≠b16:=by have:=i.lt;omega
 have aG:b14≠b16:=by have:=u.lt;omega
 have aC:=Q0 f.size aO;have e:=e.below g;have f:=btr f g;refine Zo (Vw [vi ((rIf1 (rSub ((dRaise x (max x.exp y.exp)).1) ((dRaise y (max x.exp y.exp)).1)) [((dRaise x (max x.exp y.exp)).1),((dRaise y (max x.exp y.exp)).1)]).a),vi ((rIf1 (rSub ((dRaise x (max x.exp y.exp)).1) ((dRaise y (max x.exp y.exp)).1)) [((dRaise x (max x.exp y.exp)).1),((dRaise y (max x.exp y.exp)).1)]).b),vi ((rIf1 (rSub ((dRaise x (max x.exp y.exp)).1) ((dRaise y (max x.exp y.exp)).1)) [((dRaise x (max x.exp y.exp)).1),((dRaise y (max x.exp y.exp)).1)]).c),vi ((rIf1 (rSub ((dRaise x (max x.exp y.exp)).1) ((dRaise y (max x.exp y.exp)).1)) [((dRaise x (max x.exp y.exp)).1),((dRaise y (max x.exp y.exp)).1)]).d)] X10 A) ?_;rintro _ b7 ⟨h,E⟩;have o:=A;have e:=e.only h (Blk.ne e o rfl);have f:=Below.only f h aC;have A:=E;refine Za rfl<|ZX aN fun a k _ aP=>?_;refine Q5 fun _ aQ=>?_;refine X0a (fun a w=>Fr a 64 [(6,.pointer (some ⟨b4,0,none⟩)),(8,vi (max x.exp y.exp)),(13,.pointer (some ⟨b16,0,none⟩)),(57,.bool (((!((dRaise x (max x.exp y.exp)).2))||(!((dRaise y (max x.exp y.exp)).2)))||(!(rIf2 (rSub ((dRaise x (max x.exp y.exp)).1) ((dRaise y (max x.exp y.exp)).1)) [((dRaise x (max x.exp y.exp)).1),((dRaise y (max x.exp y.exp)).1)]))))]∧b7=w) ?_ ?_
 ·refine Zr k<|Zm rfl<|Ze (X0o rfl)<|Zm rfl ?_
  refine Zg 50 rfl (fun j=>?_) (fun j=>?_)
  ·refine Zp (gP j) ?_;refine Zp (gP j) ?_;refine Ze (Xh rfl j rfl)<|Zm rfl<|Zp (gP rfl) ?_;refine Zp (gP rfl) ?_;refine Ze (Xh rfl rfl rfl) ?_;refine Zn fun a k=>?_;exact ⟨k.sub ⟨rfl,rfl,rfl,X1 rfl (by first|rfl|(simp only [t,j,bs];done)|simp [t,j]),trivial⟩,rfl⟩
  refine Zv (gW j) (Xb rfl) ?_;refine Zv (gW j) (X0o rfl) ?_;refine Ze (Xf rfl j rfl)<|Zm rfl ?_
  refine Zg 54 rfl (fun n=>?_) (fun n=>?_)
  ·refine Zp (gP n) ?_;refine Zp (gP n) ?_;refine Ze (Xh rfl n rfl) ?_;refine Zn fun a k=>?_;exact ⟨k.sub ⟨rfl,rfl,rfl,X1 rfl (by first|rfl|(simp only [t,j,n,bs];done)|simp [t,j,n]),trivial⟩,rfl⟩
  refine Zv (gW n) (Xb rfl) ?_;refine Zv (gW n) (X0o rfl) ?_;refine Ze (Xf rfl n rfl) ?_;refine Zn fun a k=>?_;exact ⟨k.sub ⟨rfl,rfl,rfl,X1 rfl (by first|rfl|(simp only [t,j,n,bs];done)|simp [t,j,n]),trivial⟩,rfl⟩
 rintro a _ ⟨k,rfl⟩;refine aQ _ _ ?_
 refine Xl k rfl (fun z=>?_) (fun z=>?_)
 ·have aD:=z;have b8:=X8c z;refine Zs k fun _ aR=>?_;refine Ze (Xg (ps:=[]) (cs:=[vi 0,vi 0,vi 0,vi 0,vi 0]) rfl (fun _=>by first|rfl|kernel_rfl))<|Zo (Vw [vi 0,vi 0,vi 0,vi 0,vi 0] Xa e) ?_;rintro _ bK ⟨h,E⟩;have o:=e;have f:=Below.only f h C;have e:=E;refine Za rfl<|Zt aR fun a k=>?_;refine Q6<|X7<|X3 k (X0r k rfl (ResV.cellN (l:=[vi 0,vi 0,vi 0,vi 0,vi 0]) rfl X6 (e.at 0) rfl) rfl) ?_;exact ⟨by rw [dSubI,Q4 hy,b8];rfl,f⟩
 have aD:=z;have b9:=Xaa z;refine Q7<|aP _ _<|Zs k fun _ aS=>?_;refine Ze (Vn X00 A)<|Zm rfl<|Zf (Vc (Xv6 _ (rIf1 (rSub ((dRaise x (max x.exp y.exp)).1) ((dRaise y (max x.exp y.exp)).1)) [((dRaise x (max x.exp y.exp)).1),((dRaise y (max x.exp y.exp)).1)]) (max x.exp y.exp)) Xfr) ?_;rintro _ bL ⟨rfl,g⟩;have e:=e.below g;have f:=btr f g;refine Ze (X2 (vs:=[.agg #[vi (((dOf (rIf1 (rSub ((dRaise x (max x.exp y.exp)).1) ((dRaise y (max x.exp y.exp)).1)) [((dRaise x (max x.exp y.exp)).1),((dRaise y (max x.exp y.exp)).1)]) (max x.exp y.exp)).getD dZ).num.a),vi (((dOf (rIf1 (rSub ((dRaise x (max x.exp y.exp)).1) ((dRaise y (max x.exp y.exp)).1)) [((dRaise x (max x.exp y.exp)).1),((dRaise y (max x.exp y.exp)).1)]) (max x.exp y.exp)).getD dZ).num.b),vi (((dOf (rIf1 (rSub ((dRaise x (max x.exp y.exp)).1) ((dRaise y (max x.exp y.exp)).1)) [((dRaise x (max x.exp y.exp)).1),((dRaise y (max x.exp y.exp)).1)]) (max x.exp y.exp)).getD dZ).num.c),vi (((dOf (rIf1 (rSub ((dRaise x (max x.exp y.exp)).1) ((dRaise y (max x.exp y.exp)).1)) [((dRaise x (max x.exp y.exp)).1),((dRaise y (max x.exp y.exp)).1)]) (max x.exp y.exp)).getD dZ).num.d),vi (((dOf (rIf1 (rSub ((dRaise x (max x.exp y.exp)).1) ((dRaise y (max x.exp y.exp)).1)) [((dRaise x (max x.exp y.exp)).1),((dRaise y (max x.exp y.exp)).1)]) (max x.exp y.exp)).getD dZ).exp)],.bool ((dOf (rIf1 (rSub ((dRaise x (max x.exp y.exp)).1) ((dRaise y (max x.exp y.exp)).1)) [((dRaise x (max x.exp y.exp)).1),((dRaise y (max x.exp y.exp)).1)]) (max x.exp y.exp)).isSome)]) rfl rfl)<|Ze (X2 (vs:=[.agg #[vi (((dOf (rIf1 (rSub ((dRaise x (max x.exp y.exp)).1) ((dRaise y (max x.exp y.exp)).1)) [((dRaise x (max x.exp y.exp)).1),((dRaise y (max x.exp y.exp)).1)]) (max x.exp y.exp)).getD dZ).num.a),vi (((dOf (rIf1 (rSub ((dRaise x (max x.exp y.exp)).1) ((dRaise y (max x.exp y.exp)).1)) [((dRaise x (max x.exp y.exp)).1),((dRaise y (max x.exp y.exp)).1)]) (max x.exp y.exp)).getD dZ).num.b),vi (((dOf (rIf1 (rSub ((dRaise x (max x.exp y.exp)).1) ((dRaise y (max x.exp y.exp)).1)) [((dRaise x (max x.exp y.exp)).1),((dRaise y (max x.exp y.exp)).1)]) (max x.exp y.exp)).getD dZ).num.c),vi (((dOf (rIf1 (rSub ((dRaise x (max x.exp y.exp)).1) ((dRaise y (max x.exp y.exp)).1)) [((dRaise x (max x.exp y.exp)).1),((dRaise y (max x.exp y.exp)).1)]) (max x.exp y.exp)).getD dZ).num.d),vi (((dOf (rIf1 (rSub ((dRaise x (max x.exp y.exp)).1) ((dRaise y (max x.exp y.exp)).1)) [((dRaise x (max x.exp y.exp)).1),((dRaise y (max x.exp y.exp)).1)]) (max x.exp y.exp)).getD dZ).exp)],.bool ((dOf (rIf1 (rSub ((dRaise x (max x.exp y.exp)).1) ((dRaise y (max x.exp y.exp)).1)) [((dRaise x (max x.exp y.exp)).1),((dRaise y (max x.exp y.exp)).1)]) (max x.exp y.exp)).isSome)]) rfl rfl)<|Zo (Vw [vi (((dOf (rIf1 (rSub ((dRaise x (max x.exp y.exp)).1) ((dRaise y (max x.exp y.exp)).1)) [((dRaise x (max x.exp y.exp)).1),((dRaise y (max x.exp y.exp)).1)]) (max x.exp y.exp)).getD dZ).num.a),vi (((dOf (rIf1 (rSub ((dRaise x (max x.exp y.exp)).1) ((dRaise y (max x.exp y.exp)).1)) [((dRaise x (max x.exp y.exp)).1),((dRaise y (max x.exp y.exp)).1)]) (max x.exp y.exp)).getD dZ).num.b),vi (((dOf (rIf1 (rSub ((dRaise x (max x.exp y.exp)).1) ((dRaise y (max x.exp y.exp)).1)) [((dRaise x (max x.exp y.exp)).1),((dRaise y (max x.exp y.exp)).1)]) (max x.exp y.exp)).getD dZ).num.c),vi (((dOf (rIf1 (rSub ((dRaise x (max x.exp y.exp)).1) ((dRaise y (max x.exp y.exp)).1)) [((dRaise x (max x.exp y.exp)).1),((dRaise y (max x.exp y.exp)).1)]) (max x.exp y.exp)).getD dZ).num.d),vi (((dOf (rIf1 (rSub ((dRaise x (max x.exp y.exp)).1) ((dRaise y (max x.exp y.exp)).1)) [((dRaise x (max x.exp y.exp)).1),((dRaise y (max x.exp y.exp)).1)]) (max x.exp y.exp)).getD dZ).exp)] Xa e) ?_;rintro _ bM ⟨h,E⟩
 have o:=e;have f:=Below.only f h C;have e:=E;refine Za rfl<|Zt aS fun a k=>?_
 refine Q6 (X3 k (X0r k rfl (ResV.cellN (l:=[vi (((dOf (rIf1 (rSub ((dRaise x (max x.exp y.exp)).1) ((dRaise y (max x.exp y.exp)).1)) [((dRaise x (max x.exp y.exp)).1),((dRaise y (max x.exp y.exp)).1)]) (max x.exp y.exp)).getD dZ).num.a),vi (((dOf (rIf1 (rSub ((dRaise x (max x.exp y.exp)).1) ((dRaise y (max x.exp y.exp)).1)) [((dRaise x (max x.exp y.exp)).1),((dRaise y (max x.exp y.exp)).1)]) (max x.exp y.exp)).getD dZ).num.b),vi (((dOf (rIf1 (rSub ((dRaise x (max x.exp y.exp)).1) ((dRaise y (max x.exp y.exp)).1)) [((dRaise x (max x.exp y.exp)).1),((dRaise y (max x.exp y.exp)).1)]) (max x.exp y.exp)).getD dZ).num.c),vi (((dOf (rIf1 (rSub ((dRaise x (max x.exp y.exp)).1) ((dRaise y (max x.exp y.exp)).1)) [((dRaise x (max x.exp y.exp)).1),((dRaise y (max x.exp y.exp)).1)]) (max x.exp y.exp)).getD dZ).num.d),vi (((dOf (rIf1 (rSub ((dRaise x (max x.exp y.exp)).1) ((dRaise y (max x.exp y.exp)).1)) [((dRaise x (max x.exp y.exp)).1),((dRaise y (max x.exp y.exp)).1)]) (max x.exp y.exp)).getD dZ).exp)]) rfl X6 (e.at 0) rfl) rfl) ?_)
 exact ⟨by rw [dSubI,Q4 hy,b9];rfl,f⟩
theorem Xrb(w0:World)(x:Dy)(y:Dy) : Ret Tryz.prog 172 [.agg #[vi x.num.a,vi x.num.b,vi x.num.c,vi x.num.d,vi x.exp],.agg #[vi y.num.a,vi y.num.b,vi y.num.c,vi y.num.d,vi y.exp]] w0 (fun v w=>v=.tuple #[dV ((dSubI x y).getD dZ),.bool ((dSubI x y).isSome)]∧Below w0.heap.size w0 w):=by
 refine enter Tryz.func172 rfl 11 rfl rfl ?_;intro a hf
 have f:=bz w0
 refine Zs hf fun _ aD=>?_;refine Zf (X09 (zs:=[vi x.num.a,vi x.num.b,vi x.num.c,vi x.num.d,vi x.exp]) rfl rfl) ?_;rintro _ w1 ⟨b2,rfl,aE,i,e⟩;have aI:=Q0 f.size aE;have f:=btr f i;refine Zf (X09 (zs:=[vi y.num.a,vi y.num.b,vi y.num.c,vi y.num.d,vi y.exp]) rfl rfl) ?_;rintro _ w2 ⟨b3,rfl,aF,i,j⟩
 have aA:b2≠b3:=by have:=e.lt;omega
 have aJ:=Q0 f.size aF;have e:=e.below i;have f:=btr f i;refine Zf (X4 (zs:=[vi 0,vi 0,vi 0,vi 0,vi 0]) X0l rfl) ?_;rintro _ w3 ⟨b4,rfl,aG,i,g⟩
 have aB:b2≠b4:=by have:=e.lt;omega
 have aC:b3≠b4:=by have:=j.lt;omega
 have a9:=Q0 f.size aG;have e:=e.below i;have j:=j.below i;have f:=btr f i;refine Za rfl<|Zx aD fun a hf _ aH=>?_;refine Ze (Vn X6 e)<|Ze (Vn X6 j)<|Zf (X1j (vs:=[.agg #[vi x.num.a,vi x.num.b,vi x.num.c,vi x.num.d,vi x.exp],.agg #[vi y.num.a,vi y.num.b,vi y.num.c,vi y.num.d,vi y.exp],.func (.func 189) #[] #[]]) rfl Xl7 (Xyh _ x y)) ?_;rintro _ w4 ⟨rfl,i⟩;have g:=g.below i;have f:=btr f i;refine Ze (X2 (vs:=[.agg #[vi (((dSubI x y).getD dZ).num.a),vi (((dSubI x y).getD dZ).num.b),vi (((dSubI x y).getD dZ).num.c),vi (((dSubI x y).getD dZ).num.d),vi (((dSubI x y).getD dZ).exp)],.bool ((dSubI x y).isSome)]) rfl rfl)<|Ze (X2 (vs:=[.agg #[vi (((dSubI x y).getD dZ).num.a),vi (((dSubI x y).getD dZ).num.b),vi (((dSubI x y).getD dZ).num.c),vi (((dSubI x y).getD dZ).num.d),vi (((dSubI x y).getD dZ).exp)],.bool ((dSubI x y).isSome)]) rfl rfl)<|Zo (Vw [vi (((dSubI x y).getD dZ).num.a),vi (((dSubI x y).getD dZ).num.b),vi (((dSubI x y).getD dZ).num.c),vi (((dSubI x y).getD dZ).num.d),vi (((dSubI x y).getD dZ).exp)] Xa g) ?_;rintro _ w5 ⟨ho,hb⟩;have aK:=g;have f:=Below.only f ho a9;have g:=hb;refine Za rfl<|Zt aH fun a hf=>?_
 refine Q6 (X3 hf (X0r hf rfl (ResV.cellN (l:=[vi (((dSubI x y).getD dZ).num.a),vi (((dSubI x y).getD dZ).num.b),vi (((dSubI x y).getD dZ).num.c),vi (((dSubI x y).getD dZ).num.d),vi (((dSubI x y).getD dZ).exp)]) rfl X6 (g.at 0) rfl) rfl) ?_)
 exact ⟨rfl,f⟩
theorem Xqr(w0:World)(p q r t:Int)(aC:Tri p)(aD:Tri q)(aE:Tri r)(aF:Tri t) : Ret Tryz.prog 171 [.agg #[vi ((dO p 0).num.a),vi ((dO p 0).num.b),vi ((dO p 0).num.c),vi ((dO p 0).num.d),vi ((dO p 0).exp)],.agg #[vi ((dO q 0).num.a),vi ((dO q 0).num.b),vi ((dO q 0).num.c),vi ((dO q 0).num.d),vi ((dO q 0).exp)],.agg #[vi ((dO r 0).num.a),vi ((dO r 0).num.b),vi ((dO r 0).num.c),vi ((dO r 0).num.d),vi ((dO r 0).exp)],.agg #[vi ((dO t 0).num.a),vi ((dO t 0).num.b),vi ((dO t 0).num.c),vi ((dO t 0).num.d),vi ((dO t 0).exp)]] w0 (fun v w=>v=.tuple #[dV (dO (p*t-q*r) 0),.bool true]∧Below w0.heap.size w0 w):=by
 refine enter Tryz.func171 rfl 42 rfl rfl ?_;intro a y
 have g:=bz w0
 refine Zs y fun _ bG=>?_;refine Zf (X09 (zs:=[vi ((dO p 0).num.a),vi ((dO p 0).num.b),vi ((dO p 0).num.c),vi ((dO p 0).num.d),vi ((dO p 0).exp)]) rfl rfl) ?_;rintro _ w1 ⟨b2,rfl,bH,f,k⟩;have bQ:=Q0 g.size bH;have g:=btr g f;refine Zf (X09 (zs:=[vi ((dO q 0).num.a),vi ((dO q 0).num.b),vi ((dO q 0).num.c),vi ((dO q 0).num.d),vi ((dO q 0).exp)]) rfl rfl) ?_;rintro _ w2 ⟨b3,rfl,bI,f,i⟩
 have aS:b2≠b3:=by have:=k.lt;omega
 have bR:=Q0 g.size bI;have k:=k.below f;have g:=btr g f;refine Zf (X09 (zs:=[vi ((dO r 0).num.a),vi ((dO r 0).num.b),vi ((dO r 0).num.c),vi ((dO r 0).num.d),vi ((dO r 0).exp)]) rfl rfl) ?_;rintro _ w3 ⟨b4,rfl,bJ,f,j⟩
 have aT:b2≠b4:=by have:=k.lt;omega
 have aU:b3≠b4:=by have:=i.lt;omega
 have bS:=Q0 g.size bJ;have k:=k.below f;have i:=i.below f;have g:=btr g f;refine Zf (X09 (zs:=[vi ((dO t 0).num.a),vi ((dO t 0).num.b),vi ((dO t 0).num.c),vi ((dO t 0).num.d),vi ((dO t 0).exp)]) rfl rfl) ?_;rintro _ w4 ⟨b5,rfl,bK,f,u⟩
 have aW:b2≠b5:=by have:=k.lt;omega
 have aX:b3≠b5:=by have:=i.lt;omega
 have aY:b4≠b5:=by have:=j.lt;omega
 have bU:=Q0 g.size bK;have k:=k.below f;have i:=i.below f;have j:=j.below f;have g:=btr g f;refine Zf (X4 (zs:=[vi 0,vi 0,vi 0,vi 0,vi 0]) X0l rfl) ?_;rintro _ w5 ⟨b6,rfl,bL,f,e⟩
 have aZ:b2≠b6:=by have:=k.lt;omega
 have b0:b3≠b6:=by have:=i.lt;omega
 have b1:b4≠b6:=by have:=j.lt;omega
 have b7:b5≠b6:=by have:=u.lt;omega
 have aG:=Q0 g.size bL;have k:=k.below f;have i:=i.below f;have j:=j.below f;have u:=u.below f;have g:=btr g f;refine Za rfl<|Zx bG fun a y _ bM=>?_;refine Ze (Vn X6 k)<|Ze (Vn X6 u)<|Zf (X1j (vs:=[.agg #[vi ((dO p 0).num.a),vi ((dO p 0).num.b),vi ((dO p 0).num.c),vi ((dO p 0).num.d),vi ((dO p 0).exp)],.agg #[vi ((dO t 0).num.a),vi ((dO t 0).num.b),vi ((dO t 0).num.c),vi ((dO t 0).num.d),vi ((dO t 0).exp)]]) rfl X4n (by have h:=Xas w5 (dO p 0) (dO t 0);rw [Xhc aC aF,Qq,Option.isSome_some] at h;exact h)) ?_;rintro _ w6 ⟨rfl,f⟩;have k:=k.below f;have i:=i.below f;have j:=j.below f;have u:=u.below f;have e:=e.below f;have g:=btr g f;refine Zm rfl<|Ze (X2 (vs:=[.agg #[vi ((dO (p*t) 0).num.a),vi ((dO (p*t) 0).num.b),vi ((dO (p*t) 0).num.c),vi ((dO (p*t) 0).num.d),vi ((dO (p*t) 0).exp)],.bool true]) rfl rfl)<|Ze (X2 (vs:=[.agg #[vi ((dO (p*t) 0).num.a),vi ((dO (p*t) 0).num.b),vi ((dO (p*t) 0).num.c),vi ((dO (p*t) 0).num.d),vi ((dO (p*t) 0).exp)],.bool true]) rfl rfl)<|Zf (X4 (zs:=[vi 0,vi 0,vi 0,vi 0,vi 0]) X0l rfl) ?_;rintro _ w7 ⟨b8,rfl,bN,f,m⟩
 have b9:b2≠b8:=by have:=k.lt;omega
 have bC:b3≠b8:=by have:=i.lt;omega
 have bD:b4≠b8:=by have:=j.lt;omega
 have bE:b5≠b8:=by have:=u.lt;omega
 have bF:b6≠b8:=by have:=e.lt;omega
 have aH:=Q0 g.size bN;have i:=i.below f;have j:=j.below f;have e:=e.below f;have g:=btr g f;refine Zo (Vw [vi ((dO (p*t) 0).num.a),vi ((dO (p*t) 0).num.b),vi ((dO (p*t) 0).num.c),vi ((dO (p*t) 0).num.d),vi ((dO (p*t) 0).exp)] Xa m) ?_;rintro _ w8 ⟨x,hb⟩;have z:=m;have i:=i.only x (by omega);have j:=j.only x (by omega);have e:=e.only x (by omega);have g:=Below.only g x aH;have m:=hb;refine Za rfl<|Zx bM fun a y _ bO=>?_;refine Ze (Vn X6 i)<|Ze (Vn X6 j)<|Zf (X1j (vs:=[.agg #[vi ((dO q 0).num.a),vi ((dO q 0).num.b),vi ((dO q 0).num.c),vi ((dO q 0).num.d),vi ((dO q 0).exp)],.agg #[vi ((dO r 0).num.a),vi ((dO r 0).num.b),vi ((dO r 0).num.c),vi ((dO r 0).num.d),vi ((dO r 0).exp)]]) rfl X4n (by have h:=Xas w8 (dO q 0) (dO r 0);rw [Xhc aD aE,Qq,Option.isSome_some] at h;exact h)) ?_;rintro _ w9 ⟨rfl,f⟩;have i:=i.below f;have j:=j.below f;have e:=e.below f;have m:=m.below f;have g:=btr g f;refine Zm rfl<|Ze (X2 (vs:=[.agg #[vi ((dO (q*r) 0).num.a),vi ((dO (q*r) 0).num.b),vi ((dO (q*r) 0).num.c),vi ((dO (q*r) 0).num.d),vi ((dO (q*r) 0).exp)],.bool true]) rfl rfl)<|Ze (X2 (vs:=[.agg #[vi ((dO (q*r) 0).num.a),vi ((dO (q*r) 0).num.b),vi ((dO (q*r) 0).num.c),vi ((dO (q*r) 0).num.d),vi ((dO (q*r) 0).exp)],.bool true]) rfl rfl)<|Zf (X4 (zs:=[vi 0,vi 0,vi 0,vi 0,vi 0]) X0l rfl) ?_;rintro _ bW ⟨b10,rfl,aI,f,o⟩
 have aJ:b3≠b10:=by have:=i.lt;omega
 have aK:b4≠b10:=by have:=j.lt;omega
 have aL:b6≠b10:=by have:=e.lt;omega
 have aM:b8≠b10:=by have:=m.lt;omega
 have a9:=Q0 g.size aI;have e:=e.below f;have m:=m.below f;have g:=btr g f;refine Zo (Vw [vi ((dO (q*r) 0).num.a),vi ((dO (q*r) 0).num.b),vi ((dO (q*r) 0).num.c),vi ((dO (q*r) 0).num.d),vi ((dO (q*r) 0).exp)] Xa o) ?_;rintro _ bP ⟨x,hb⟩;have z:=o;have e:=e.only x (by omega);have m:=m.only x (by omega);have g:=Below.only g x a9;have o:=hb;refine Za rfl<|Zx bO fun a y _ aN=>?_;refine Ze (Vn X6 m)<|Ze (Vn X6 o)<|Zf (X1j (vs:=[.agg #[vi ((dO (p*t) 0).num.a),vi ((dO (p*t) 0).num.b),vi ((dO (p*t) 0).num.c),vi ((dO (p*t) 0).num.d),vi ((dO (p*t) 0).exp)],.agg #[vi ((dO (q*r) 0).num.a),vi ((dO (q*r) 0).num.b),vi ((dO (q*r) 0).num.c),vi ((dO (q*r) 0).num.d),vi ((dO (q*r) 0).exp)]]) rfl Xh3 (by have h:=Xrb bP (dO (p*t) 0) (dO (q*r) 0);rw [Xmz aC aF aD aE,Qq,Option.isSome_some] at h;exact h)) ?_;rintro _ bZ ⟨rfl,f⟩;have e:=e.below f;have m:=m.below f;have o:=o.below f;have g:=btr g f;refine Zm rfl<|Ze (X2 (vs:=[.agg #[vi ((dO (p*t-q*r) 0).num.a),vi ((dO (p*t-q*r) 0).num.b),vi ((dO (p*t-q*r) 0).num.c),vi ((dO (p*t-q*r) 0).num.d),vi ((dO (p*t-q*r) 0).exp)],.bool true]) rfl rfl)<|Ze (X2 (vs:=[.agg #[vi ((dO (p*t-q*r) 0).num.a),vi ((dO (p*t-q*r) 0).num.b),vi ((dO (p*t-q*r) 0).num.c),vi ((dO (p*t-q*r) 0).num.d),vi ((dO (p*t-q*r) 0).exp)],.bool true]) rfl rfl)<|Zf (X4 (zs:=[vi 0,vi 0,vi 0,vi 0,vi 0]) X0l rfl) ?_;rintro _ cA ⟨b12,rfl,aO,f,n⟩
 have aP:b6≠b12:=by have:=e.lt;omega
 have aQ:b8≠b12:=by have:=m.lt;omega
 have aB:b10≠b12:=by have:=o.lt;omega
 have aA:=Q0 g.size aO;have e:=e.below f;have g:=btr g f;refine Zo (Vw [vi ((dO (p*t-q*r) 0).num.a),vi ((dO (p*t-q*r) 0).num.b),vi ((dO (p*t-q*r) 0).num.c),vi ((dO (p*t-q*r) 0).num.d),vi ((dO (p*t-q*r) 0).exp)] Xa n) ?_;rintro _ cB ⟨x,hb⟩;have z:=n;have e:=e.only x (by omega);have g:=Below.only g x aA;have n:=hb;refine Za rfl<|ZX aN fun a y _ aR=>?_;refine X0a (fun a w=>Fr a 42 [(8,.pointer (some ⟨b6,0,none⟩)),(9,.bool true)]∧Blk w b6 86 [vi ((dO (p*t-q*r) 0).num.a),vi ((dO (p*t-q*r) 0).num.b),vi ((dO (p*t-q*r) 0).num.c),vi ((dO (p*t-q*r) 0).num.d),vi ((dO (p*t-q*r) 0).exp)]∧Blk w b12 86 [vi ((dO (p*t-q*r) 0).num.a),vi ((dO (p*t-q*r) 0).num.b),vi ((dO (p*t-q*r) 0).num.c),vi ((dO (p*t-q*r) 0).num.d),vi ((dO (p*t-q*r) 0).exp)]∧Below w0.heap.size w0 w) ?_ ?_
 ·refine Zr y<|Ze (Vn X6 n)<|Zm rfl<|Zm rfl<|Zv (gW rfl) (Xb rfl) ?_;refine Ze (Xh rfl rfl rfl)<|Zm rfl<|Zv (gW rfl) (Xb rfl) ?_;refine Ze (Xh rfl rfl rfl)<|Zo (Vw [vi ((dO (p*t-q*r) 0).num.a),vi ((dO (p*t-q*r) 0).num.b),vi ((dO (p*t-q*r) 0).num.c),vi ((dO (p*t-q*r) 0).num.d),vi ((dO (p*t-q*r) 0).exp)] Xa e) ?_;rintro _ cC ⟨x,hb⟩;have z:=e;have n:=n.only x (by omega);have g:=Below.only g x aG;have e:=hb;refine Za rfl ?_;refine Zn fun a y=>?_;exact ⟨y.sb,e,n,g⟩
 rintro a cD ⟨y,e,n,g⟩;refine aR _ _ ?_
 refine Q6 (X3 y (X0r y rfl (ResV.cellN (l:=[vi ((dO (p*t-q*r) 0).num.a),vi ((dO (p*t-q*r) 0).num.b),vi ((dO (p*t-q*r) 0).num.c),vi ((dO (p*t-q*r) 0).num.d),vi ((dO (p*t-q*r) 0).exp)]) rfl X6 (e.at 0) rfl) rfl) ?_)
 exact ⟨rfl,g⟩
theorem Xxj(N:World)(Al:Option Addr)(cl:Nat)(l:List Dy)(y:Rd N N.heap.size 86 encD Al l)(q:List Int)(L:SmB q)(bE:l=intB q) : Ret Tryz.prog 127 [.slice Al l.length cl] N (fun v w=>v=.tuple #[dV (dO (dtN q 3) 0),.bool true]∧Below N.heap.size N w):=by
 have fN:l.length=9:=by rw [bE];exact L.blen
 refine enter Tryz.func127 rfl 88 rfl rfl ?_;intro a m
 have i:=bz N
 refine Zs m fun _ fA=>?_;refine Zf (X4 (zs:=[vi 0,vi 0,vi 0,vi 0,vi 0]) X0l rfl) ?_;rintro _ w1 ⟨G,rfl,dF,g,e⟩;have dG:=Q0 i.size dF;have f7:=(y.below' i).away dF;have i:=btr i g;refine Za rfl<|Zx fA fun a m _ fB=>?_;refine Ze (Xg (ps:=[]) (cs:=[vi 0,vi 0,vi 0,vi 0,vi 0]) rfl (fun _=>by first|rfl|kernel_rfl))<|Zf (X4 (zs:=[vi 0,vi 0,vi 0,vi 0,vi 0]) X0l rfl) ?_;rintro _ w2 ⟨b5,rfl,dH,g,f⟩
 have f8:G≠b5:=by have:=e.lt;omega
 have aQ:=Q0 i.size dH;have f9:=(y.below' i).away dH;have e:=e.below g;have i:=btr i g;refine Zo (Vw [vi 0,vi 0,vi 0,vi 0,vi 0] Xa f) ?_;rintro _ w3 ⟨E,hb⟩;have H:=f;have e:=e.only E (by omega);have i:=Below.only i E aQ;have f:=hb;refine ZX fB fun a m _ fC=>?_;refine Zs m fun _ fD=>?_;refine Zm rfl<|Zt fD fun a m=>?_;refine Q8<|X03 (σ:=Nat) (fun (k:Nat) (a:Act) (w:World)=>Fr a 88 [(0,.slice Al l.length cl),(2,.pointer (some ⟨G,0,none⟩)),(4,.pointer (some ⟨b5,0,none⟩)),(16,vi (k:Int))]∧(k≤3)∧Blk w G 86 [vi 0,vi 0,vi 0,vi 0,vi 0]∧Blk w b5 86 [vi ((dO (dtN q k) 0).num.a),vi ((dO (dtN q k) 0).num.b),vi ((dO (dtN q k) 0).num.c),vi ((dO (dtN q k) 0).num.d),vi ((dO (dtN q k) 0).exp)]∧Below N.heap.size N w) (fun (k:Nat)=>3-k) 0 ?_ ?_
 ·exact ⟨m.sb,(by omega),e,f,i⟩
 rintro k a w4 ⟨m,hk,e,f,i⟩;refine Zs m fun _ fE=>?_;refine Ze (X14 rfl rfl)<|ZX fE fun a m _ fF=>?_
 refine Xl m rfl (fun C=>?_) (fun C=>?_)
 ·have bQ:=C;have C:=Q2 C
  have A:k<3:=by have:=C;omega
  refine Q7<|fF _ _<|Q5 fun _ bH=>?_;refine Q8<|Zs m fun _ dI=>?_;refine Zm rfl<|Za rfl<|Zx dI fun a m _ dJ=>?_;refine Zf (Xd (k:=0) (vs:=[]) (zs:=[]) rfl Xv X0x rfl rfl) ?_;rintro _ w5 ⟨b14,rfl,bI,g,dK⟩
  have dL:G≠b14:=by have:=e.lt;omega
  have dM:b5≠b14:=by have:=f.lt;omega
  have bR:=Q0 i.size bI;have dN:=(y.below' i).away bI;have e:=e.below g;have f:=f.below g;have i:=btr i g;refine Za rfl<|ZX dJ fun a m _ dP=>?_;refine Zs m fun _ dQ=>?_;refine Zm rfl<|Zt dQ fun a m=>?_;refine Q8<|X03 (σ:=Nat×(List Dy)) (fun (s:Nat×(List Dy)) (a:Act) (w:World)=>match s with|(j,r)=>∃ aE bF,Fr a 88 [(0,.slice Al l.length cl),(2,.pointer (some ⟨G,0,none⟩)),(4,.pointer (some ⟨b5,0,none⟩)),(5,vi (k:Int)),(6,.slice aE r.length bF),(16,vi (k:Int)),(20,vi (j:Int))]∧(j≤3)∧(r=intB (rstN q k j))∧Blk w G 86 [vi 0,vi 0,vi 0,vi 0,vi 0]∧Blk w b5 86 [vi ((dO (dtN q k) 0).num.a),vi ((dO (dtN q k) 0).num.b),vi ((dO (dtN q k) 0).num.c),vi ((dO (dtN q k) 0).num.d),vi ((dO (dtN q k) 0).exp)]∧Own w N.heap.size 86 5 encD aE bF r∧Away aE G∧Away aE b5∧Below N.heap.size N w) (fun (s:Nat×(List Dy))=>match s with|(j,r)=>3-j) (0,[]) ?_ ?_
  ·exact ⟨some ⟨b14,0,none⟩,0,m.sb,(by omega),rfl,e,f,(Own.empty dK bR),(Away.ne (by omega)),(Away.ne (by omega)),i⟩
  rintro ⟨j,r⟩ a w6 ⟨aE,bF,m,hj,hr,e,f,p,I,J,i⟩;refine Zs m fun _ dR=>?_;refine Ze (X14 rfl rfl)<|ZX dR fun a m _ dS=>?_
  refine Xl m rfl (fun D=>?_) (fun D=>?_)
  ·have bS:=D;have D:=Q2 D
   have dT:j<3:=by have:=D;omega
   refine Q7<|dS _ _<|Q5 fun _ bJ=>?_;refine Q8<|Zs m fun _ dU=>?_;refine Zm rfl<|Za rfl<|Zx dU fun a m _ dW=>?_;refine Zm rfl<|Zm rfl<|Ze (X2m rfl rfl)<|Zt dW fun a m=>?_
   refine Xl m rfl (fun Q=>?_) (fun Q=>?_)
   ·have bU:=Q
    have bW:j≠k:=by have h9:=Q;simp at h9;omega
    have dX:=Xs4 q k j
    rw [← hr] at dX
    have fM:r.length≤6:=by have:r.length=(intB (rstN q k j)).length:=(by rw [hr]);omega
    refine X07 none (fun j=>[12].contains j) mixed ?_;intro w7 g;have e:=e.below g;have f:=f.below g;have p:=p.below g;have i:=btr i g;refine Yb m<|Yo 0 rfl (fun _=>Xb rfl)<|Yo 1 rfl (fun _=>Xb rfl)<|Yo 2 rfl (fun _=>Xb rfl)<|Yo 3 rfl (fun _=>X01 rfl rfl (by omega) (by omega))<|Yi (k:=(3+j)) (u:=(dO (q.getD (3+j) 0) 0)) (enc:=encD) (l:=l) 4 rfl trivial rfl rfl Xv Xa Xz (y.below' i) (by rw [bE];exact L.get (by omega)) (by omega) ?_;intro fO bZ;refine Ye 5 rfl (Xy (l:=[vi ((dO (q.getD (3+j) 0) 0).num.a),vi ((dO (q.getD (3+j) 0) 0).num.b),vi ((dO (q.getD (3+j) 0) 0).num.c),vi ((dO (q.getD (3+j) 0) 0).num.d),vi ((dO (q.getD (3+j) 0) 0).exp)]) rfl X6 bZ rfl)<|Yo 6 rfl (fun _=>Xb rfl)<|Yo 7 rfl (fun _=>Xb rfl)<|Yo 8 rfl (fun _=>X01 rfl rfl (by omega) (by omega))<|Yi (k:=(6+j)) (u:=(dO (q.getD (6+j) 0) 0)) (enc:=encD) (l:=l) 9 rfl trivial rfl rfl Xv Xa Xz (y.below' i) (by rw [bE];exact L.get (by omega)) (by omega) ?_;intro fP cA;refine Ye 10 rfl (Xy (l:=[vi ((dO (q.getD (6+j) 0) 0).num.a),vi ((dO (q.getD (6+j) 0) 0).num.b),vi ((dO (q.getD (6+j) 0) 0).num.c),vi ((dO (q.getD (6+j) 0) 0).num.d),vi ((dO (q.getD (6+j) 0) 0).exp)]) rfl X6 cA rfl)<|Y1 11 ?_;refine Yk rfl trivial (Xd (k:=2) (vs:=[.agg #[vi ((dO (q.getD (3+j) 0) 0).num.a),vi ((dO (q.getD (3+j) 0) 0).num.b),vi ((dO (q.getD (3+j) 0) 0).num.c),vi ((dO (q.getD (3+j) 0) 0).num.d),vi ((dO (q.getD (3+j) 0) 0).exp)],.agg #[vi ((dO (q.getD (6+j) 0) 0).num.a),vi ((dO (q.getD (6+j) 0) 0).num.b),vi ((dO (q.getD (6+j) 0) 0).num.c),vi ((dO (q.getD (6+j) 0) 0).num.d),vi ((dO (q.getD (6+j) 0) 0).exp)]]) (zs:=[vi ((dO (q.getD (3+j) 0) 0).num.a),vi ((dO (q.getD (3+j) 0) 0).num.b),vi ((dO (q.getD (3+j) 0) 0).num.c),vi ((dO (q.getD (3+j) 0) 0).num.d),vi ((dO (q.getD (3+j) 0) 0).exp),vi ((dO (q.getD (6+j) 0) 0).num.a),vi ((dO (q.getD (6+j) 0) 0).num.b),vi ((dO (q.getD (6+j) 0) 0).num.c),vi ((dO (q.getD (6+j) 0) 0).num.d),vi ((dO (q.getD (6+j) 0) 0).exp)]) rfl Xv X0x rfl rfl) (fun _ _ ⟨_,_,_,h,_⟩=>h) ?_;rintro _ w8 ⟨b30,rfl,aR,g,aS⟩
    have dY:G≠b30:=by have:=e.lt;omega
    have e8:b5≠b30:=by have:=f.lt;omega
    have fG:=Q0 i.size aR;have aL:=p.away aR;have eA:=(y.below' i).away aR;have e:=e.below g;have f:=f.below g;have p:=p.below g;have i:=btr i g;refine Y1 12<|Yt rfl trivial rfl (X0n (enc:=encD) (l:=(r)) (l2:=([(dO (q.getD (3+j) 0) 0),(dO (q.getD (6+j) 0) 0)])) (B0:=N.heap.size) rfl rfl Xv X0x Xz X28 p (Rd.of_blk aS rfl _ aS.lt) (by simp only [maxLen];simp;omega) (by simp;omega) i.size) ?_;rintro _ w9 ⟨fH,fI,rfl,eB,hg,bG⟩
    have bK:Own _ N.heap.size 86 5 encD _ _ (r):=p
    have aT:=bG _ e.lt I;have aU:=bG _ f.lt J;have dB:=bG _ aS.lt aL;clear bG;have e:=e.appA hg I;have f:=f.appA hg J;have i:=Below.app i bK hg (Qb _) i.size;clear bK hg;refine Yo 13 rfl (fun _=>X0p rfl) ?_;refine Yd fun a m=>?_;refine Xn<|bJ _ _<|Zr m<|Ze (X01 rfl rfl (by omega) (by omega))<|Zm rfl ?_;refine Zn fun a m=>?_;refine Xm ?_;exact ⟨(j+1,r++([(dO (q.getD (3+j) 0) 0),(dO (q.getD (6+j) 0) 0)])),⟨fH,fI,m.sb,(by omega),(by rw [hr];exact Xla bW),e,f,eB,aT,aU,i⟩,(by first|omega|(dsimp only;omega))⟩
   have bU:=Q
   have bW:j=k:=by have h9:=Q;simp at h9;omega
   refine Q7<|Xn<|bJ _ _<|Zr m ?_;refine Ze (X01 rfl rfl (by omega) (by omega))<|Zm rfl ?_;refine Zn fun a m=>?_;refine Xm ?_;exact ⟨(j+1,r),⟨aE,bF,m.sb,(by omega),(by rw [hr];exact Xmo bW),e,f,p,I,J,i⟩,(by first|omega|(dsimp only;omega))⟩
  have bS:=D;have D:=Q1 D
  have dT:j=3:=by have:=D;omega
  subst dT
  have fQ:r.length=4:=by rw [hr,Xgc A]
  refine Q9<|Xk<|Xk<|X05 ?_;refine dP _ _<|Q5 fun _ eC=>?_;refine X0a (fun a w=>∃ t,Fr a 88 [(0,.slice Al l.length cl),(2,.pointer (some ⟨G,0,none⟩)),(4,.pointer (some ⟨b5,0,none⟩)),(5,vi (k:Int)),(8,.pointer (some ⟨t,0,none⟩)),(9,.bool true),(16,vi (k:Int))]∧N.heap.size≤t∧Blk w t 86 [vi ((dO ((eN q k 0)*(eN q k 3)-(eN q k 2)*(eN q k 1)) 0).num.a),vi ((dO ((eN q k 0)*(eN q k 3)-(eN q k 2)*(eN q k 1)) 0).num.b),vi ((dO ((eN q k 0)*(eN q k 3)-(eN q k 2)*(eN q k 1)) 0).num.c),vi ((dO ((eN q k 0)*(eN q k 3)-(eN q k 2)*(eN q k 1)) 0).num.d),vi ((dO ((eN q k 0)*(eN q k 3)-(eN q k 2)*(eN q k 1)) 0).exp)]∧G≠t∧b5≠t∧Below w6.heap.size w6 w) ?_ ?_
  ·have n:Below w6.heap.size w6 w6:=Below.refl _ _
   refine X07 none (fun j=>[17].contains j) mixed ?_;intro w10 g;have e:=e.below g;have f:=f.below g;have p:=p.below g;have i:=btr i g;have n:=btr n g;refine Yb m<|Yo 0 rfl (fun _=>Xb rfl)<|Yi (k:=0) (u:=(dO (eN q k 0) 0)) (enc:=encD) (l:=r) 1 rfl trivial rfl rfl Xv Xa Xz p.rd (by rw [hr];exact (X9i L A (by decide))) rfl ?_;intro fR cB;refine Ye 2 rfl (Xy (l:=[vi ((dO (eN q k 0) 0).num.a),vi ((dO (eN q k 0) 0).num.b),vi ((dO (eN q k 0) 0).num.c),vi ((dO (eN q k 0) 0).num.d),vi ((dO (eN q k 0) 0).exp)]) rfl X6 cB rfl)<|Yo 3 rfl (fun _=>Xb rfl)<|Yi (k:=2) (u:=(dO (eN q k 2) 0)) (enc:=encD) (l:=r) 4 rfl trivial rfl rfl Xv Xa Xz p.rd (by rw [hr];exact (X9i L A (by decide))) rfl ?_;intro fS cC;refine Ye 5 rfl (Xy (l:=[vi ((dO (eN q k 2) 0).num.a),vi ((dO (eN q k 2) 0).num.b),vi ((dO (eN q k 2) 0).num.c),vi ((dO (eN q k 2) 0).num.d),vi ((dO (eN q k 2) 0).exp)]) rfl X6 cC rfl)<|Yo 6 rfl (fun _=>Xb rfl)<|Yi (k:=1) (u:=(dO (eN q k 1) 0)) (enc:=encD) (l:=r) 7 rfl trivial rfl rfl Xv Xa Xz p.rd (by rw [hr];exact (X9i L A (by decide))) rfl ?_;intro fT cD;refine Ye 8 rfl (Xy (l:=[vi ((dO (eN q k 1) 0).num.a),vi ((dO (eN q k 1) 0).num.b),vi ((dO (eN q k 1) 0).num.c),vi ((dO (eN q k 1) 0).num.d),vi ((dO (eN q k 1) 0).exp)]) rfl X6 cD rfl)<|Yo 9 rfl (fun _=>Xb rfl)<|Yi (k:=3) (u:=(dO (eN q k 3) 0)) (enc:=encD) (l:=r) 10 rfl trivial rfl rfl Xv Xa Xz p.rd (by rw [hr];exact (X9i L A (by decide))) rfl ?_;intro fU cE;refine Ye 11 rfl (Xy (l:=[vi ((dO (eN q k 3) 0).num.a),vi ((dO (eN q k 3) 0).num.b),vi ((dO (eN q k 3) 0).num.c),vi ((dO (eN q k 3) 0).num.d),vi ((dO (eN q k 3) 0).exp)]) rfl X6 cE rfl) ?_
   have o:Below w10.heap.size w10 w10:=Below.refl _ _
   refine Yc [0,1,2,3,4,5,6,7,8,9,10,11,12,13,14,15,16] 2 (fun a w=>∃ t,Fr a 88 [(0,.slice Al l.length cl),(2,.pointer (some ⟨G,0,none⟩)),(4,.pointer (some ⟨b5,0,none⟩)),(5,vi (k:Int)),(8,.pointer (some ⟨t,0,none⟩)),(16,vi (k:Int)),(54,.agg #[vi ((dO ((eN q k 0)*(eN q k 3)-(eN q k 2)*(eN q k 1)) 0).num.a),vi ((dO ((eN q k 0)*(eN q k 3)-(eN q k 2)*(eN q k 1)) 0).num.b),vi ((dO ((eN q k 0)*(eN q k 3)-(eN q k 2)*(eN q k 1)) 0).num.c),vi ((dO ((eN q k 0)*(eN q k 3)-(eN q k 2)*(eN q k 1)) 0).num.d),vi ((dO ((eN q k 0)*(eN q k 3)-(eN q k 2)*(eN q k 1)) 0).exp)]),(55,.bool true)]∧N.heap.size≤t∧Blk w t 86 [vi 0,vi 0,vi 0,vi 0,vi 0]∧G≠t∧b5≠t∧w10.heap.size≤t∧w6.heap.size≤t∧Away aE t∧AwayR l Al t∧Below w10.heap.size w10 w) ?_ ?_
   ·rintro a fV ⟨t,m,aF,B,U,W,cF,cG,dC,eD,g⟩;clear o;have o:=g;have i:=btr i g;have n:=btr n g;refine Yb m<|Y1 17<|Yh rfl trivial rfl (Vw [vi ((dO ((eN q k 0)*(eN q k 3)-(eN q k 2)*(eN q k 1)) 0).num.a),vi ((dO ((eN q k 0)*(eN q k 3)-(eN q k 2)*(eN q k 1)) 0).num.b),vi ((dO ((eN q k 0)*(eN q k 3)-(eN q k 2)*(eN q k 1)) 0).num.c),vi ((dO ((eN q k 0)*(eN q k 3)-(eN q k 2)*(eN q k 1)) 0).num.d),vi ((dO ((eN q k 0)*(eN q k 3)-(eN q k 2)*(eN q k 1)) 0).exp)] Xa B) ?_;rintro _ w12 ⟨E,hb⟩;have H:=B;have n:=Below.only n E cG;have o:=Below.only o E cF;have i:=Below.only i E aF;have B:=hb;refine Yo 18 rfl (fun _=>X0p rfl) ?_;refine Yd fun a m=>?_
    have cH:Below w6.heap.size w6 w12:=n
    exact ⟨t,m.sb,aF,B,U,W,cH⟩
   intro bL;refine Y2 12 16 ?_ ?_
   ·refine Yk rfl trivial (Vc (Xqr _ (eN q k 0) (eN q k 2) (eN q k 1) (eN q k 3) (X3r L A (by decide)) (X3r L A (by decide)) (X3r L A (by decide)) (X3r L A (by decide))) Xgv) (fun _ _ ⟨_,g⟩=>g) ?_;rintro _ fW ⟨rfl,g⟩;have e:=e.below g;have f:=f.below g;have p:=p.below g;have i:=btr i g;have n:=btr n g;have o:=btr o g;refine Yo 13 rfl (fun _=>Xb rfl)<|Yo 14 rfl (fun _=>X2 (vs:=[.agg #[vi ((dO ((eN q k 0)*(eN q k 3)-(eN q k 2)*(eN q k 1)) 0).num.a),vi ((dO ((eN q k 0)*(eN q k 3)-(eN q k 2)*(eN q k 1)) 0).num.b),vi ((dO ((eN q k 0)*(eN q k 3)-(eN q k 2)*(eN q k 1)) 0).num.c),vi ((dO ((eN q k 0)*(eN q k 3)-(eN q k 2)*(eN q k 1)) 0).num.d),vi ((dO ((eN q k 0)*(eN q k 3)-(eN q k 2)*(eN q k 1)) 0).exp)],.bool true]) rfl rfl)<|Yo 15 rfl (fun _=>X2 (vs:=[.agg #[vi ((dO ((eN q k 0)*(eN q k 3)-(eN q k 2)*(eN q k 1)) 0).num.a),vi ((dO ((eN q k 0)*(eN q k 3)-(eN q k 2)*(eN q k 1)) 0).num.b),vi ((dO ((eN q k 0)*(eN q k 3)-(eN q k 2)*(eN q k 1)) 0).num.c),vi ((dO ((eN q k 0)*(eN q k 3)-(eN q k 2)*(eN q k 1)) 0).num.d),vi ((dO ((eN q k 0)*(eN q k 3)-(eN q k 2)*(eN q k 1)) 0).exp)],.bool true]) rfl rfl)<|Y1 16 ?_;refine Yk rfl trivial (X4 (zs:=[vi 0,vi 0,vi 0,vi 0,vi 0]) X0l rfl) (fun _ _ ⟨_,_,_,h,_⟩=>h) ?_;rintro _ fX ⟨b44,rfl,a9,g,eE⟩
    have aW:G≠b44:=by have:=e.lt;omega
    have aX:b5≠b44:=by have:=f.lt;omega
    have cJ:=Q0 i.size a9;have cK:=Q0 n.size a9;have cM:=Q0 o.size a9;have aM:=p.away a9;have aY:=(y.below' i).away a9;have i:=btr i g;have n:=btr n g;have o:=btr o g;exact fun a m=>bL _ a _ rfl ⟨b44,m.sb,cJ,eE,aW,aX,cM,cK,aM,aY,o⟩
   refine Yk rfl trivial (X4 (zs:=[vi 0,vi 0,vi 0,vi 0,vi 0]) X0l rfl) (fun _ _ ⟨_,_,_,h,_⟩=>h) ?_;rintro _ fY ⟨b45,rfl,aA,g,aZ⟩
   have b0:G≠b45:=by have:=e.lt;omega
   have b1:b5≠b45:=by have:=f.lt;omega
   have cO:=Q0 i.size aA;have cP:=Q0 n.size aA;have cQ:=Q0 o.size aA;have aN:=p.away aA;have b2:=(y.below' i).away aA;have i:=btr i g;have n:=btr n g;have o:=btr o g;refine Y1 12<|Yk rfl trivial (Vc (Xqr _ (eN q k 0) (eN q k 2) (eN q k 1) (eN q k 3) (X3r L A (by decide)) (X3r L A (by decide)) (X3r L A (by decide)) (X3r L A (by decide))) Xgv) (fun _ _ ⟨_,g⟩=>g) ?_;rintro _ fZ ⟨rfl,g⟩;have aZ:=aZ.below g;have i:=btr i g;have n:=btr n g;have o:=btr o g;refine Yo 13 rfl (fun _=>Xb rfl)<|Yo 14 rfl (fun _=>X2 (vs:=[.agg #[vi ((dO ((eN q k 0)*(eN q k 3)-(eN q k 2)*(eN q k 1)) 0).num.a),vi ((dO ((eN q k 0)*(eN q k 3)-(eN q k 2)*(eN q k 1)) 0).num.b),vi ((dO ((eN q k 0)*(eN q k 3)-(eN q k 2)*(eN q k 1)) 0).num.c),vi ((dO ((eN q k 0)*(eN q k 3)-(eN q k 2)*(eN q k 1)) 0).num.d),vi ((dO ((eN q k 0)*(eN q k 3)-(eN q k 2)*(eN q k 1)) 0).exp)],.bool true]) rfl rfl)<|Yo 15 rfl (fun _=>X2 (vs:=[.agg #[vi ((dO ((eN q k 0)*(eN q k 3)-(eN q k 2)*(eN q k 1)) 0).num.a),vi ((dO ((eN q k 0)*(eN q k 3)-(eN q k 2)*(eN q k 1)) 0).num.b),vi ((dO ((eN q k 0)*(eN q k 3)-(eN q k 2)*(eN q k 1)) 0).num.c),vi ((dO ((eN q k 0)*(eN q k 3)-(eN q k 2)*(eN q k 1)) 0).num.d),vi ((dO ((eN q k 0)*(eN q k 3)-(eN q k 2)*(eN q k 1)) 0).exp)],.bool true]) rfl rfl) ?_;exact fun a m=>bL _ a _ rfl ⟨b45,m.sb,cO,aZ,b0,b1,cQ,cP,aN,b2,o⟩
  rintro a w17 ⟨t,m,aF,B,U,W,g⟩;have e:=e.below g;have f:=f.below g;have i:=btr i g;refine eC _ _<|Q5 fun _ eF=>?_;refine X0a (fun a w=>∃ x,Fr a 88 [(0,.slice Al l.length cl),(2,.pointer (some ⟨G,0,none⟩)),(4,.pointer (some ⟨b5,0,none⟩)),(5,vi (k:Int)),(9,.bool true),(10,.pointer (some ⟨x,0,none⟩)),(11,.bool true),(16,vi (k:Int))]∧N.heap.size≤x∧Blk w x 86 [vi ((dO (q.getD k 0*mnN q k) 0).num.a),vi ((dO (q.getD k 0*mnN q k) 0).num.b),vi ((dO (q.getD k 0*mnN q k) 0).num.c),vi ((dO (q.getD k 0*mnN q k) 0).num.d),vi ((dO (q.getD k 0*mnN q k) 0).exp)]∧G≠x∧b5≠x∧t≠x∧Below w17.heap.size w17 w) ?_ ?_
  ·have n:Below w17.heap.size w17 w17:=Below.refl _ _
   refine X07 none (fun j=>[10].contains j) mixed ?_;intro w18 g;have e:=e.below g;have f:=f.below g;have B:=B.below g;have i:=btr i g;have n:=btr n g;refine Yb m<|Yo 0 rfl (fun _=>Xb rfl)<|Yo 1 rfl (fun _=>Xb rfl)<|Yi (k:=k) (u:=(dO (q.getD k 0) 0)) (enc:=encD) (l:=l) 2 rfl trivial rfl rfl Xv Xa Xz (y.below' i) (by rw [bE];exact L.get (by omega)) rfl ?_;intro g7 cR;refine Ye 3 rfl (Xy (l:=[vi ((dO (q.getD k 0) 0).num.a),vi ((dO (q.getD k 0) 0).num.b),vi ((dO (q.getD k 0) 0).num.c),vi ((dO (q.getD k 0) 0).num.d),vi ((dO (q.getD k 0) 0).exp)]) rfl X6 cR rfl)<|Ye 4 rfl (Vn X6 B) ?_
   have o:Below w18.heap.size w18 w18:=Below.refl _ _
   refine Yc [0,1,2,3,4,5,6,7,8,9] 2 (fun a w=>∃ x,Fr a 88 [(0,.slice Al l.length cl),(2,.pointer (some ⟨G,0,none⟩)),(4,.pointer (some ⟨b5,0,none⟩)),(5,vi (k:Int)),(9,.bool true),(10,.pointer (some ⟨x,0,none⟩)),(16,vi (k:Int)),(63,.agg #[vi ((dO (q.getD k 0*mnN q k) 0).num.a),vi ((dO (q.getD k 0*mnN q k) 0).num.b),vi ((dO (q.getD k 0*mnN q k) 0).num.c),vi ((dO (q.getD k 0*mnN q k) 0).num.d),vi ((dO (q.getD k 0*mnN q k) 0).exp)]),(64,.bool true)]∧N.heap.size≤x∧Blk w x 86 [vi 0,vi 0,vi 0,vi 0,vi 0]∧G≠x∧b5≠x∧t≠x∧w18.heap.size≤x∧w17.heap.size≤x∧AwayR l Al x∧Below w18.heap.size w18 w) ?_ ?_
   ·rintro a g8 ⟨x,m,aG,z,aB,aC,M,cS,cT,eH,g⟩;clear o;have o:=g;have i:=btr i g;have n:=btr n g;refine Yb m<|Y1 10<|Yh rfl trivial rfl (Vw [vi ((dO (q.getD k 0*mnN q k) 0).num.a),vi ((dO (q.getD k 0*mnN q k) 0).num.b),vi ((dO (q.getD k 0*mnN q k) 0).num.c),vi ((dO (q.getD k 0*mnN q k) 0).num.d),vi ((dO (q.getD k 0*mnN q k) 0).exp)] Xa z) ?_;rintro _ w20 ⟨E,hb⟩;have H:=z;have n:=Below.only n E cT;have o:=Below.only o E cS;have i:=Below.only i E aG;have z:=hb;refine Yo 11 rfl (fun _=>X0p rfl) ?_;refine Yd fun a m=>?_
    have cH:Below w17.heap.size w17 w20:=n
    exact ⟨x,m.sb,aG,z,aB,aC,M,cH⟩
   intro bM;refine Y2 5 9 ?_ ?_
   ·refine Yf rfl trivial (EfW.mono (X1j (vs:=[.agg #[vi ((dO (q.getD k 0) 0).num.a),vi ((dO (q.getD k 0) 0).num.b),vi ((dO (q.getD k 0) 0).num.c),vi ((dO (q.getD k 0) 0).num.d),vi ((dO (q.getD k 0) 0).exp)],.agg #[vi ((dO ((eN q k 0)*(eN q k 3)-(eN q k 2)*(eN q k 1)) 0).num.a),vi ((dO ((eN q k 0)*(eN q k 3)-(eN q k 2)*(eN q k 1)) 0).num.b),vi ((dO ((eN q k 0)*(eN q k 3)-(eN q k 2)*(eN q k 1)) 0).num.c),vi ((dO ((eN q k 0)*(eN q k 3)-(eN q k 2)*(eN q k 1)) 0).num.d),vi ((dO ((eN q k 0)*(eN q k 3)-(eN q k 2)*(eN q k 1)) 0).exp)]]) rfl X4n (by have hq:=Xas w18 (dO (q.getD k 0) 0) (dO ((eN q k 0)*(eN q k 3)-(eN q k 2)*(eN q k 1)) 0);rw [Xhp L A,Qq,Option.isSome_some] at hq;exact hq)) (fun _ _ h=>⟨fun _=>by obtain ⟨rfl,g⟩:=h;exact g,h⟩)) ?_;rintro _ g9 ⟨rfl,g⟩;have e:=e.below g;have f:=f.below g;have B:=B.below g;have i:=btr i g;have n:=btr n g;have o:=btr o g;refine Yo 6 rfl (fun _=>Xb rfl)<|Yo 7 rfl (fun _=>X2 (vs:=[.agg #[vi ((dO (q.getD k 0*mnN q k) 0).num.a),vi ((dO (q.getD k 0*mnN q k) 0).num.b),vi ((dO (q.getD k 0*mnN q k) 0).num.c),vi ((dO (q.getD k 0*mnN q k) 0).num.d),vi ((dO (q.getD k 0*mnN q k) 0).exp)],.bool true]) rfl rfl)<|Yo 8 rfl (fun _=>X2 (vs:=[.agg #[vi ((dO (q.getD k 0*mnN q k) 0).num.a),vi ((dO (q.getD k 0*mnN q k) 0).num.b),vi ((dO (q.getD k 0*mnN q k) 0).num.c),vi ((dO (q.getD k 0*mnN q k) 0).num.d),vi ((dO (q.getD k 0*mnN q k) 0).exp)],.bool true]) rfl rfl)<|Y1 9 ?_;refine Yk rfl trivial (X4 (zs:=[vi 0,vi 0,vi 0,vi 0,vi 0]) X0l rfl) (fun _ _ ⟨_,_,_,h,_⟩=>h) ?_;rintro _ gA ⟨b51,rfl,aH,g,eI⟩
    have b4:G≠b51:=by have:=e.lt;omega
    have b6:b5≠b51:=by have:=f.lt;omega
    have aO:t≠b51:=by have:=B.lt;omega
    have cU:=Q0 i.size aH;have cV:=Q0 n.size aH;have cW:=Q0 o.size aH;have b7:=(y.below' i).away aH;have i:=btr i g;have n:=btr n g;have o:=btr o g;exact fun a m=>bM _ a _ rfl ⟨b51,m.sb,cU,eI,b4,b6,aO,cW,cV,b7,o⟩
   refine Yk rfl trivial (X4 (zs:=[vi 0,vi 0,vi 0,vi 0,vi 0]) X0l rfl) (fun _ _ ⟨_,_,_,h,_⟩=>h) ?_;rintro _ fJ ⟨b52,rfl,aI,g,b8⟩
   have b9:G≠b52:=by have:=e.lt;omega
   have bC:b5≠b52:=by have:=f.lt;omega
   have aP:t≠b52:=by have:=B.lt;omega
   have cX:=Q0 i.size aI;have d5:=Q0 n.size aI;have d6:=Q0 o.size aI;have bD:=(y.below' i).away aI;have i:=btr i g;have n:=btr n g;have o:=btr o g;refine Y1 5<|Yf rfl trivial (EfW.mono (X1j (vs:=[.agg #[vi ((dO (q.getD k 0) 0).num.a),vi ((dO (q.getD k 0) 0).num.b),vi ((dO (q.getD k 0) 0).num.c),vi ((dO (q.getD k 0) 0).num.d),vi ((dO (q.getD k 0) 0).exp)],.agg #[vi ((dO ((eN q k 0)*(eN q k 3)-(eN q k 2)*(eN q k 1)) 0).num.a),vi ((dO ((eN q k 0)*(eN q k 3)-(eN q k 2)*(eN q k 1)) 0).num.b),vi ((dO ((eN q k 0)*(eN q k 3)-(eN q k 2)*(eN q k 1)) 0).num.c),vi ((dO ((eN q k 0)*(eN q k 3)-(eN q k 2)*(eN q k 1)) 0).num.d),vi ((dO ((eN q k 0)*(eN q k 3)-(eN q k 2)*(eN q k 1)) 0).exp)]]) rfl X4n (by have hq:=Xas fJ (dO (q.getD k 0) 0) (dO ((eN q k 0)*(eN q k 3)-(eN q k 2)*(eN q k 1)) 0);rw [Xhp L A,Qq,Option.isSome_some] at hq;exact hq)) (fun _ _ h=>⟨fun _=>by obtain ⟨rfl,g⟩:=h;exact g,h⟩)) ?_;rintro _ gB ⟨rfl,g⟩;have b8:=b8.below g;have i:=btr i g;have n:=btr n g;have o:=btr o g;refine Yo 6 rfl (fun _=>Xb rfl)<|Yo 7 rfl (fun _=>X2 (vs:=[.agg #[vi ((dO (q.getD k 0*mnN q k) 0).num.a),vi ((dO (q.getD k 0*mnN q k) 0).num.b),vi ((dO (q.getD k 0*mnN q k) 0).num.c),vi ((dO (q.getD k 0*mnN q k) 0).num.d),vi ((dO (q.getD k 0*mnN q k) 0).exp)],.bool true]) rfl rfl)<|Yo 8 rfl (fun _=>X2 (vs:=[.agg #[vi ((dO (q.getD k 0*mnN q k) 0).num.a),vi ((dO (q.getD k 0*mnN q k) 0).num.b),vi ((dO (q.getD k 0*mnN q k) 0).num.c),vi ((dO (q.getD k 0*mnN q k) 0).num.d),vi ((dO (q.getD k 0*mnN q k) 0).exp)],.bool true]) rfl rfl) ?_;exact fun a m=>bM _ a _ rfl ⟨b52,m.sb,cX,b8,b9,bC,aP,d6,d5,bD,o⟩
  rintro a eJ ⟨x,m,aG,z,aB,aC,M,g⟩;have e:=e.below g;have f:=f.below g;have i:=btr i g;refine eF _ _<|Zs m fun _ eK=>?_;refine Za rfl<|ZX eK fun a m _ bN=>?_;refine Zs m fun _ eL=>?_;refine Zm rfl<|Ze (X1d rfl rfl)<|Zt eL fun a m=>?_
  refine Xl m rfl (fun aD=>?_) (fun aD=>?_)
  ·have d7:=aD
   have d8:k=1:=by have h9:=aD;simp at h9;omega
   refine Zr m<|Za rfl<|Zx bN fun a m _ eM=>?_;refine Zm rfl<|Ze (Vn X6 f)<|Ze (Vn X6 z)<|Zf (X67 (cs:=[]) (vs:=[.agg #[vi ((dO (dtN q k) 0).num.a),vi ((dO (dtN q k) 0).num.b),vi ((dO (dtN q k) 0).num.c),vi ((dO (dtN q k) 0).num.d),vi ((dO (dtN q k) 0).exp)],.agg #[vi ((dO (q.getD k 0*mnN q k) 0).num.a),vi ((dO (q.getD k 0*mnN q k) 0).num.b),vi ((dO (q.getD k 0*mnN q k) 0).num.c),vi ((dO (q.getD k 0*mnN q k) 0).num.d),vi ((dO (q.getD k 0*mnN q k) 0).exp)]]) rfl rfl Xh3 (by have hq:=Xrb eJ (dO (dtN q k) 0) (dO (q.getD k 0*mnN q k) 0);rw [Xoc L A d8,Qq,Option.isSome_some] at hq;exact hq)) ?_;rintro _ gC ⟨rfl,g⟩;have e:=e.below g;have f:=f.below g;have z:=z.below g;have i:=btr i g;refine Zm rfl<|Ze (X2 (vs:=[.agg #[vi ((dO (dtN q (k+1)) 0).num.a),vi ((dO (dtN q (k+1)) 0).num.b),vi ((dO (dtN q (k+1)) 0).num.c),vi ((dO (dtN q (k+1)) 0).num.d),vi ((dO (dtN q (k+1)) 0).exp)],.bool true]) rfl rfl)<|Ze (X2 (vs:=[.agg #[vi ((dO (dtN q (k+1)) 0).num.a),vi ((dO (dtN q (k+1)) 0).num.b),vi ((dO (dtN q (k+1)) 0).num.c),vi ((dO (dtN q (k+1)) 0).num.d),vi ((dO (dtN q (k+1)) 0).exp)],.bool true]) rfl rfl)<|Zf (X4 (zs:=[vi 0,vi 0,vi 0,vi 0,vi 0]) X0l rfl) ?_;rintro _ gD ⟨b58,rfl,bO,g,aJ⟩
   have eO:G≠b58:=by have:=e.lt;omega
   have eP:b5≠b58:=by have:=f.lt;omega
   have dD:x≠b58:=by have:=z.lt;omega
   have d9:=Q0 i.size bO;have eQ:=(y.below' i).away bO;have e:=e.below g;have f:=f.below g;have i:=btr i g;refine Zo (Vw [vi ((dO (dtN q (k+1)) 0).num.a),vi ((dO (dtN q (k+1)) 0).num.b),vi ((dO (dtN q (k+1)) 0).num.c),vi ((dO (dtN q (k+1)) 0).num.d),vi ((dO (dtN q (k+1)) 0).exp)] Xa aJ) ?_;rintro _ fK ⟨E,hb⟩;have H:=aJ;have e:=e.only E (by omega);have f:=f.only E (by omega);have i:=Below.only i E d9;have aJ:=hb;refine Za rfl<|ZX eM fun a m _ eR=>?_;refine Q5 fun _ eS=>?_;refine X0a (fun a w=>Fr a 88 [(0,.slice Al l.length cl),(2,.pointer (some ⟨G,0,none⟩)),(4,.pointer (some ⟨b5,0,none⟩)),(13,.pointer (some ⟨b58,0,none⟩)),(16,vi (k:Int)),(83,.bool false)]∧fK=w) ?_ ?_
   ·refine Zr m<|Zm rfl<|Ze (X0o rfl)<|Zm rfl<|Zv (gW rfl) (Xb rfl) ?_;refine Zv (gW rfl) (X0o rfl) ?_;refine Ze (Xf rfl rfl rfl)<|Zm rfl<|Zv (gW rfl) (Xb rfl) ?_;refine Zv (gW rfl) (X0o rfl) ?_;refine Ze (Xf rfl rfl rfl) ?_;refine Zn fun a m=>?_;exact ⟨m.sb,rfl⟩
   rintro a _ ⟨m,rfl⟩;refine eS _ _<|X3c m rfl ?_;refine Q7<|eR _ _<|Zr m<|Ze (Vn X6 aJ)<|Zo (Vw [vi ((dO (dtN q (k+1)) 0).num.a),vi ((dO (dtN q (k+1)) 0).num.b),vi ((dO (dtN q (k+1)) 0).num.c),vi ((dO (dtN q (k+1)) 0).num.d),vi ((dO (dtN q (k+1)) 0).exp)] Xa f) ?_;rintro _ gE ⟨E,hb⟩;have H:=f;have e:=e.only E (by omega);have i:=Below.only i E aQ;have f:=hb;refine Zn fun a m=>?_;refine Xn<|bH _ _<|Zr m<|Ze (X01 rfl rfl (by omega) (by omega))<|Zm rfl ?_;refine Zn fun a m=>?_;refine Xm ?_;exact ⟨k+1,⟨m.sb,(by omega),e,f,i⟩,(by omega)⟩
  have d7:=aD
  have d8:k≠1:=by have h9:=aD;simp at h9;omega
  refine Q7<|bN _ _<|Zs m fun _ eT=>?_;refine Zm rfl<|Ze (Vn X6 f)<|Ze (Vn X6 z)<|Zf (X67 (cs:=[]) (vs:=[.agg #[vi ((dO (dtN q k) 0).num.a),vi ((dO (dtN q k) 0).num.b),vi ((dO (dtN q k) 0).num.c),vi ((dO (dtN q k) 0).num.d),vi ((dO (dtN q k) 0).exp)],.agg #[vi ((dO (q.getD k 0*mnN q k) 0).num.a),vi ((dO (q.getD k 0*mnN q k) 0).num.b),vi ((dO (q.getD k 0*mnN q k) 0).num.c),vi ((dO (q.getD k 0*mnN q k) 0).num.d),vi ((dO (q.getD k 0*mnN q k) 0).exp)]]) rfl rfl Xcx (by have hq:=Xot eJ (dO (dtN q k) 0) (dO (q.getD k 0*mnN q k) 0);rw [Xpx L A d8,Qq,Option.isSome_some] at hq;exact hq)) ?_;rintro _ gF ⟨rfl,g⟩;have e:=e.below g;have f:=f.below g;have z:=z.below g;have i:=btr i g;refine Zm rfl<|Ze (X2 (vs:=[.agg #[vi ((dO (dtN q (k+1)) 0).num.a),vi ((dO (dtN q (k+1)) 0).num.b),vi ((dO (dtN q (k+1)) 0).num.c),vi ((dO (dtN q (k+1)) 0).num.d),vi ((dO (dtN q (k+1)) 0).exp)],.bool true]) rfl rfl)<|Ze (X2 (vs:=[.agg #[vi ((dO (dtN q (k+1)) 0).num.a),vi ((dO (dtN q (k+1)) 0).num.b),vi ((dO (dtN q (k+1)) 0).num.c),vi ((dO (dtN q (k+1)) 0).num.d),vi ((dO (dtN q (k+1)) 0).exp)],.bool true]) rfl rfl)<|Zf (X4 (zs:=[vi 0,vi 0,vi 0,vi 0,vi 0]) X0l rfl) ?_;rintro _ gG ⟨b62,rfl,bP,g,aK⟩
  have eU:G≠b62:=by have:=e.lt;omega
  have eV:b5≠b62:=by have:=f.lt;omega
  have dE:x≠b62:=by have:=z.lt;omega
  have dA:=Q0 i.size bP;have eW:=(y.below' i).away bP;have e:=e.below g;have f:=f.below g;have i:=btr i g;refine Zo (Vw [vi ((dO (dtN q (k+1)) 0).num.a),vi ((dO (dtN q (k+1)) 0).num.b),vi ((dO (dtN q (k+1)) 0).num.c),vi ((dO (dtN q (k+1)) 0).num.d),vi ((dO (dtN q (k+1)) 0).exp)] Xa aK) ?_;rintro _ fL ⟨E,hb⟩;have H:=aK;have e:=e.only E (by omega);have f:=f.only E (by omega);have i:=Below.only i E dA;have aK:=hb;refine Za rfl<|ZX eT fun a m _ eX=>?_;refine Q5 fun _ eY=>?_;refine X0a (fun a w=>Fr a 88 [(0,.slice Al l.length cl),(2,.pointer (some ⟨G,0,none⟩)),(4,.pointer (some ⟨b5,0,none⟩)),(13,.pointer (some ⟨b62,0,none⟩)),(16,vi (k:Int)),(83,.bool false)]∧fL=w) ?_ ?_
  ·refine Zr m<|Zm rfl<|Ze (X0o rfl)<|Zm rfl<|Zv (gW rfl) (Xb rfl) ?_;refine Zv (gW rfl) (X0o rfl) ?_;refine Ze (Xf rfl rfl rfl)<|Zm rfl<|Zv (gW rfl) (Xb rfl) ?_;refine Zv (gW rfl) (X0o rfl) ?_;refine Ze (Xf rfl rfl rfl) ?_;refine Zn fun a m=>?_;exact ⟨m.sb,rfl⟩
  rintro a _ ⟨m,rfl⟩;refine eY _ _<|X3c m rfl ?_;refine Q7<|eX _ _<|Zr m<|Ze (Vn X6 aK)<|Zo (Vw [vi ((dO (dtN q (k+1)) 0).num.a),vi ((dO (dtN q (k+1)) 0).num.b),vi ((dO (dtN q (k+1)) 0).num.c),vi ((dO (dtN q (k+1)) 0).num.d),vi ((dO (dtN q (k+1)) 0).exp)] Xa f) ?_;rintro _ gI ⟨E,hb⟩;have H:=f;have e:=e.only E (by omega);have i:=Below.only i E aQ;have f:=hb;refine Zn fun a m=>?_;refine Xn<|bH _ _<|Zr m<|Ze (X01 rfl rfl (by omega) (by omega))<|Zm rfl ?_;refine Zn fun a m=>?_;refine Xm ?_;exact ⟨k+1,⟨m.sb,(by omega),e,f,i⟩,(by omega)⟩
 have bQ:=C;have C:=Q1 C
 have A:k=3:=by have:=C;omega
 refine Q9<|Xk<|Xk<|X05 ?_;refine fC _ _<|Zs m fun _ eZ=>?_;refine Ze (Vn X6 f)<|Zo (Vw [vi ((dO (dtN q k) 0).num.a),vi ((dO (dtN q k) 0).num.b),vi ((dO (dtN q k) 0).num.c),vi ((dO (dtN q k) 0).num.d),vi ((dO (dtN q k) 0).exp)] Xa e) ?_;rintro _ gJ ⟨E,hb⟩;have H:=e;have i:=Below.only i E dG;have e:=hb;refine Za rfl<|Zt eZ fun a m=>?_
 refine Q6 (X3 m (X0r m rfl (ResV.cellN (l:=[vi ((dO (dtN q k) 0).num.a),vi ((dO (dtN q k) 0).num.b),vi ((dO (dtN q k) 0).num.c),vi ((dO (dtN q k) 0).num.d),vi ((dO (dtN q k) 0).exp)]) rfl X6 (e.at 0) rfl) rfl) ?_)
 subst A
 exact ⟨rfl,i⟩
theorem Xxm(L:World)(Al:Option Addr)(cl:Nat)(l:List Dy)(q:Rd L L.heap.size 86 encD Al l)(k:Nat)(hk:k<24)(M:l=clB k) : Ret Tryz.prog 76 [.agg #[.slice Al l.length cl]] L (fun v w=>v=.bool true∧Below L.heap.size L w):=by
 obtain ⟨hS,aW,aX⟩:=Xho hk
 have N:l.length=9:=by rw [M];exact hS.blen
 have aY:mulBI l (trB l)=some (clB 0):=by rw [M];exact Xo9 hk
 have b8:(clB 0).length=9:=rfl
 refine enter Tryz.func76 rfl 59 rfl rfl ?_;intro a i
 have g:=bz L
 refine Zs i fun _ aZ=>?_;refine Zf (X09 (zs:=[.slice Al l.length cl]) rfl rfl) ?_;rintro _ w1 ⟨b3,rfl,b0,f,j⟩;have b6:=Q0 g.size b0;have g:=btr g f;refine Za rfl<|ZX aZ fun a i _ b1=>?_;refine Q5 fun _ b2=>?_;refine X0a (fun a w=>Fr a 59 [(1,.pointer (some ⟨b3,0,none⟩)),(17,.bool (((l.length:Int) != 9)||(l.any (fun x=>!reaB x))))]∧Below w1.heap.size w1 w) ?_ ?_
 ·have p:Below w1.heap.size w1 w1:=Below.refl _ _
  refine Zr i<|Ze (Vd rfl X0t 0)<|Ze (X0 rfl X0j (j.at 0))<|Ze (X23 rfl Xv)<|Ze (X2m rfl rfl)<|Zm rfl ?_
  refine Zg 13 rfl (fun m=>?_) (fun m=>?_)
  ·refine Zp (gP m) ?_;refine Zp (gP m) ?_;refine Zp (gP m) ?_;refine Ze (Xh rfl m rfl) ?_;refine Zn fun a i=>?_
   have G:Below w1.heap.size w1 w1:=p
   exact ⟨i.sub ⟨rfl,X1 rfl (by first|rfl|(simp only [m,bs];done)|simp [m]),trivial⟩,G⟩
  refine Zv (gW m) (Vd rfl X0t 0) ?_;refine Zv (gW m) (X0 rfl X0j (j.at 0)) ?_;refine Zk (gW m) (Vc (Xwe _ Al cl l (q.below' g).top 125 [] Xmy (fun x=>!reaB x) (fun x w1 b9=>Xxy w1 x) (by rw [N];decide)) Xm3) ?_;rintro _ w2 ⟨rfl,f⟩;have g:=btr g f;have p:=btr p f;refine Ze (Xf rfl m rfl) ?_;refine Zn fun a i=>?_
  have G:Below w1.heap.size w1 w2:=p
  exact ⟨i.sub ⟨rfl,X1 rfl (by first|rfl|(simp only [m,bs];done)|simp [m]),trivial⟩,G⟩
 rintro a w3 ⟨i,f⟩;have j:=j.below f;have g:=btr g f;refine b2 _ _ ?_
 refine Xl i rfl (fun H=>?_) (fun H=>?_)
 ·have aF:=H
  rw [N,M,aX] at H;simp at H
 have aF:=H;refine Q7<|b1 _ _<|Q5 fun _ b4=>?_;refine X07 none (fun _=>false) mixed ?_;intro w4 f;have j:=j.below f;have g:=btr g f;refine Yb i<|Yo 0 rfl (fun _=>Vd rfl X0t 0)<|Ye 1 rfl (X0 rfl X0j (j.at 0))<|Yo 2 rfl (fun _=>Vd rfl X0t 0)<|Ye 3 rfl (X0 rfl X0j (j.at 0))<|Y1 4 ?_;refine Yk rfl trivial (Vc (Xre _ Al cl l (q.below' g).top N) Xhq) (fun _ _ ⟨A9,c9,_,Q,f⟩=>f) ?_;rintro _ w5 ⟨A9,c9,rfl,Q,f⟩;have Q:=Q.lower g.size;have j:=j.below f;have g:=btr g f;refine Y1 5<|Yf rfl trivial (EfW.mono (X1j (vs:=[.slice Al l.length cl,.slice A9 (trB l).length c9]) rfl Xd9 (by have hq:=Xl8 w5 Al cl l (q.below' g).top A9 c9 (trB l) Q.rd.top N (X97 l);rw [aY,Qq,Option.isSome_some] at hq;exact hq)) (fun _ _ h=>⟨fun _=>by obtain ⟨B,C,rfl,e,f⟩:=h;exact f,h⟩)) ?_;rintro _ w6 ⟨B,C,rfl,e,f⟩;have e:=e.lower g.size;have j:=j.below f;have g:=btr g f;refine Yo 6 rfl (fun _=>Xb rfl)<|Yo 7 rfl (fun _=>X2 (vs:=[.slice B (clB 0).length C,.bool true]) rfl rfl)<|Yo 8 rfl (fun _=>X2 (vs:=[.slice B (clB 0).length C,.bool true]) rfl rfl)<|Yo 9 rfl (fun _=>X0p rfl)<|Yo 10 rfl (fun _=>X0p rfl) ?_;refine Yd fun a i=>?_;refine b4 _ _<|Zs i fun _ aG=>?_;refine Ze (Vd rfl X0t 0)<|Ze (X0 rfl X0j (j.at 0))<|Zf (Vc (Xxj _ Al cl l (q.below' g).top (qN9 k) hS (by rw [M];rfl)) Xnn) ?_;rintro _ w7 ⟨rfl,f⟩;have e:=e.below f;have g:=btr g f;refine Zm rfl<|Ze (X2 (vs:=[.agg #[vi ((dO (dtN (qN9 k) 3) 0).num.a),vi ((dO (dtN (qN9 k) 3) 0).num.b),vi ((dO (dtN (qN9 k) 3) 0).num.c),vi ((dO (dtN (qN9 k) 3) 0).num.d),vi ((dO (dtN (qN9 k) 3) 0).exp)],.bool true]) rfl rfl)<|Ze (X2 (vs:=[.agg #[vi ((dO (dtN (qN9 k) 3) 0).num.a),vi ((dO (dtN (qN9 k) 3) 0).num.b),vi ((dO (dtN (qN9 k) 3) 0).num.c),vi ((dO (dtN (qN9 k) 3) 0).num.d),vi ((dO (dtN (qN9 k) 3) 0).exp)],.bool true]) rfl rfl)<|Zf (X4 (zs:=[vi 0,vi 0,vi 0,vi 0,vi 0]) X0l rfl) ?_;rintro _ w8 ⟨bC,rfl,I,f,t⟩
 have a9:=Q0 g.size I;have aH:=(q.below' g).away I;have D:=e.away I;have e:=e.below f;have g:=btr g f;refine Zo (Vw [vi ((dO (dtN (qN9 k) 3) 0).num.a),vi ((dO (dtN (qN9 k) 3) 0).num.b),vi ((dO (dtN (qN9 k) 3) 0).num.c),vi ((dO (dtN (qN9 k) 3) 0).num.d),vi ((dO (dtN (qN9 k) 3) 0).exp)] Xa t) ?_;rintro _ w9 ⟨ho,hb⟩;have aI:=t;have e:=e.onlyA ho D;have g:=Below.only g ho a9;have t:=hb;refine Za rfl<|ZX aG fun a i _ aJ=>?_;refine Q5 fun _ aK=>?_;refine X0a (fun a w=>Fr a 59 [(3,.slice B (clB 0).length C),(43,.bool (!decide ((dO (dtN (qN9 k) 3) 0)=(⟨⟨1,0,0,0⟩,0⟩ : Dy))))]∧Below w9.heap.size w9 w) ?_ ?_
 ·have p:Below w9.heap.size w9 w9:=Below.refl _ _
  refine X07 none (fun _=>false) mixed ?_;intro bD f;have t:=t.below f;have g:=btr g f;have p:=btr p f;refine Yb i<|Yo 0 rfl (fun _=>Xb rfl)<|Yo 1 rfl (fun _=>X0o rfl)<|Yo 2 rfl (fun _=>Xb rfl)<|Yu 3 rfl (gW rfl) (fun _=>Xb rfl) ?_;refine Yu 4 rfl (gW rfl) (fun _=>X0o rfl) ?_;refine Yo 5 rfl (fun _=>Xf rfl rfl rfl)<|Yo 6 rfl (fun _=>Xb rfl)<|Yv 7 rfl (gW rfl) (Vn X6 t) ?_;refine Y1 8<|Yk rfl ⟨_,_,rfl,rfl,rfl⟩ (Vc (Xil _ 1) X8f) (fun _ _ ⟨_,f⟩=>f) ?_;rintro _ w11 ⟨rfl,f⟩;have g:=btr g f;have p:=btr p f;refine Yu 9 rfl (gW rfl) (fun _=>Xb7 rfl rfl X86 (fun w=>eqD 9997 (dO (dtN (qN9 k) 3) 0) (⟨⟨1,0,0,0⟩,0⟩ : Dy) w)) ?_;refine Yo 10 rfl (fun _=>Xf rfl rfl rfl) ?_;refine Yd fun a i=>?_
  have G:Below w9.heap.size w9 w11:=p
  exact ⟨i.sb,G⟩
 rintro a bE ⟨i,f⟩;have e:=e.below f;have g:=btr g f;refine aK _ _ ?_
 refine Xl i rfl (fun z=>?_) (fun z=>?_)
 ·have aA:=z;have h9:=z;rw [aW] at h9;simp [dO] at h9
 have aA:=z;refine Q7<|aJ _ _<|Q5 fun _ aL=>?_;refine Zs i fun _ aM=>?_;refine Zm rfl<|Ze (X23 rfl Xv)<|Zm rfl<|Zt aM fun a i=>?_;refine Q8<|X03 (σ:=Nat) (fun (n:Nat) (a:Act) (w:World)=>Fr a 59 [(44,.slice B (clB 0).length C),(45,vi ((clB 0).length:Int)),(46,vi (n:Int))]∧(n≤9)∧Own w L.heap.size 86 5 encD B C (clB 0)∧Below L.heap.size L w) (fun (n:Nat)=>9-n) 0 ?_ ?_
 ·exact ⟨i.sb,(by omega),e,g⟩
 rintro n a bF ⟨i,hn,e,g⟩;refine Zs i fun _ aN=>?_;refine Ze (X14 rfl rfl)<|ZX aN fun a i _ aO=>?_
 refine Xl i rfl (fun o=>?_) (fun o=>?_)
 ·have aB:=o;have o:=Q2 o
  obtain ⟨bG,b7⟩:=Xq (l:=(clB 0)) (k:=n) (by omega)
  have aP:n<9:=by have:=o;omega
  have b5:=Xu6 aP;refine Q7<|aO _ _<|Q5 fun _ aQ=>?_;refine Q8<|Zs i fun _ aR=>?_;refine Zm rfl<|Zi (k:=n) (u:=(dO (if n % 4=0 then 1 else 0) 0)) (enc:=encD) (l:=(clB 0)) trivial rfl rfl Xv Xa Xz e.rd b5 rfl ?_;intro bH aC;refine Ze (Xy (l:=[vi ((dO (if n % 4=0 then 1 else 0) 0).num.a),vi ((dO (if n % 4=0 then 1 else 0) 0).num.b),vi ((dO (if n % 4=0 then 1 else 0) 0).num.c),vi ((dO (if n % 4=0 then 1 else 0) 0).num.d),vi ((dO (if n % 4=0 then 1 else 0) 0).exp)]) rfl X6 aC rfl)<|Zf (X4 (zs:=[vi 0,vi 0,vi 0,vi 0,vi 0]) X0l rfl) ?_;rintro _ bI ⟨bJ,rfl,J,f,y⟩;have aD:=Q0 g.size J;have aS:=(q.below' g).away J;have E:=e.away J;have e:=e.below f;have g:=btr g f;refine Za rfl<|Zo (Vw [vi ((dO (if n % 4=0 then 1 else 0) 0).num.a),vi ((dO (if n % 4=0 then 1 else 0) 0).num.b),vi ((dO (if n % 4=0 then 1 else 0) 0).num.c),vi ((dO (if n % 4=0 then 1 else 0) 0).num.d),vi ((dO (if n % 4=0 then 1 else 0) 0).exp)] Xa y) ?_;rintro _ bK ⟨ho,hb⟩;have aI:=y;have e:=e.onlyA ho E;have g:=Below.only g ho aD;have y:=hb;refine ZX aR fun a i _ aT=>?_;refine X07 none (fun _=>false) mixed ?_;intro bL f;have y:=y.below f;have e:=e.below f;have g:=btr g f;refine Yb i<|Ye 0 rfl (Vn X6 y)<|Yo 1 rfl (fun _=>Xb rfl)<|Yo 2 rfl (fun _=>X9o rfl rfl rfl)<|Yo 3 rfl (fun _=>X1d rfl rfl)<|Y1 4 ?_;refine Yz rfl trivial (Vc (F59 _ (((n:Int).tmod 4)==0)) Xed) ?_;refine Y1 5<|Yk rfl trivial (Vc (Xil _ (if (((n:Int).tmod 4)==0)=true then 1 else 0)) X8f) (fun _ _ ⟨_,f⟩=>f) ?_;rintro _ bM ⟨rfl,f⟩;have e:=e.below f;have g:=btr g f
  refine Yo 6 rfl (fun _=>Xb7 rfl rfl X86 (fun w=>eqD 9997 (dO (if n % 4=0 then 1 else 0) 0) (⟨⟨(if (((n:Int).tmod 4)==0)=true then 1 else 0),0,0,0⟩,0⟩ : Dy) w)) ?_;refine Yd fun a i=>?_;refine aT _ _ ?_
  refine Xl i rfl (fun A=>?_) (fun A=>?_)
  ·have aE:=A;have h9:=A;revert h9;rw [Xsx aP];simp
  have aE:=A;refine Q7<|Xn<|aQ _ _<|Zr i ?_;refine Ze (X01 rfl rfl (by omega) (by omega))<|Zm rfl ?_;refine Zn fun a i=>?_;refine Xm ?_;exact ⟨n+1,⟨i.sb,(by omega),e,g⟩,(by omega)⟩
 have aB:=o;have o:=Q1 o;refine Q9<|Xk<|Xk<|X05 ?_;refine aL _ _<|Zs i fun _ aU=>?_;refine Za rfl<|Zt aU fun a i=>?_
 refine Q6 (X3 i (Xt i rfl rfl) ?_)
 exact ⟨rfl,g⟩
theorem Xl9(x:Rg) : rOk (sRing x)=true:=by
 unfold sRing
 split
 ·assumption
 ·rfl
theorem Xkm:∀ (n:Nat) (f:Bool) (x:Dy),(sRaiseN n f x).2.exp=x.exp+n:=X5g
theorem Xnz{f:Bool}{x y:Dy}(hx:0≤x.exp∧x.exp≤60)(hy:0≤y.exp∧y.exp≤60) : dOk (sAdd f x y).2=true:=by
 unfold sAdd
 have:=Xkm (y.exp-x.exp).toNat f x
 exact X72 (Xl9 _) (by omega) (by omega)
theorem Xhl{a b:Mx}(ha:AllOk a)(hb:AllOk b)(f:Bool)(i j:Nat) : ∀ n,dOk (dotS f a b i j n).2=true
 | 0=>X7d
 | n+1=>by
  rw [dotS]
  split
  ·exact Xhl ha hb f i j n
  ·exact Xnz (X7e ha hb f i j n) (Xak (X1r (Mx.at_ok ha i n)) (X1r (Mx.at_ok hb n j)))
theorem Xbl{a b:Mx}(ha:AllOk a)(hb:AllOk b)(f:Bool) : ∀ n,∀ x ∈ (timesL f a b n).2,dOk x=true
 | 0,x,hx=>by cases hx
 | n+1,x,hx=>by
  rcases Qu.1 hx with hx|hx
  ·exact Xbl ha hb f n x hx
  ·rw [Qm.1 hx];exact Xhl ha hb _ _ _ _
theorem X6g{a b:Mx}(ha:mOk a=true)(hb:mOk b=true)(f:Bool) : mOk (timesS f a b).2=true∧(timesS f a b).2.rows=a.rows∧(timesS f a b).2.cols=b.cols:=by
 refine ⟨X7y (X1q ha).1 (X1q hb).2 (X6w f a b _) fun x hx=>Xbl (X18 ha) (X18 hb) f _ x hx,rfl,rfl⟩
theorem X32(a b:Mx) : (timesS true a b).1=true:=by
 have h:∀ n,(timesL true a b n).1=true:=fun n=>by
  induction n with
  | zero=>rfl
  | succ n ih=>show (dotS (timesL true a b n).1 a b _ _ _).1=true;rw [ih,Xay]
 exact h _
theorem X61(x y:Dy) : (sMul true x y).1=true:=by unfold sMul;split<;>rfl
def celX(f:Bool)(m:Mx)(i j:Nat) : Bool×Mx:=timesS (timesS (timesS f (pauM i) m).1 (timesS f (pauM i) m).2 (pauM j)).1 (timesS (timesS f (pauM i) m).1 (timesS f (pauM i) m).2 (pauM j)).2 (adjS m)
def celA(f:Bool)(m:Mx)(i j:Nat) : Bool×Dy:=sAdd (celX f m i j).1 ((celX f m i j).2.cells.getD 0 dZ) ((celX f m i j).2.cells.getD 3 dZ)
def celS(f:Bool)(m:Mx)(i j:Nat) : Bool×Dy:=sMul (celA f m i j).1 (celA f m i j).2 dHf
theorem Xi8(m:Mx)(i j:Nat) : (celS true m i j).1=true:=by
 have h1:(celX true m i j).1=true:=by unfold celX;rw [X32,X32,X32]
 have h2:(celA true m i j).1=true:=by unfold celA;rw [h1];exact X5x _ _
 unfold celS;rw [h2];exact X61 _ _
theorem Xgf{m:Mx}(hm:mOk m=true)(hr:m.rows=2)(hc:m.cols=2)(f:Bool){i j:Nat}(hi:i<3)(hj:j<3) :
  mOk (timesS f (pauM i) m).2=true∧(timesS f (pauM i) m).2.cols=(pauM j).rows∧mOk (timesS (timesS f (pauM i) m).1 (timesS f (pauM i) m).2 (pauM j)).2=true∧(timesS (timesS f (pauM i) m).1 (timesS f (pauM i) m).2 (pauM j)).2.cols=(adjS m).rows∧(pauM i).cols=m.rows∧(celX f m i j).2.cells.length=4∧mOk (celX f m i j).2=true:=by
 obtain ⟨a1,a2,a3⟩:=X6g (X3s hi) hm f;obtain ⟨b1,b2,bm3⟩:=X6g a1 (X3s hj) (timesS f (pauM i) m).1;obtain ⟨c1,c2,c3⟩:=X6g b1 (X2o hm) (timesS (timesS f (pauM i) m).1 (timesS f (pauM i) m).2 (pauM j)).1
 refine ⟨a1,by rw [a3,hc,(X2p hj).r],b1,by rw [bm3,(X2p hj).c];exact hc.symm,by rw [(X2p hi).c,hr],?_,c1⟩
 have h1:=(X2h c1).2.2
 have hr2:(celX f m i j).2.rows=2:=by show (timesS _ _ _).2.rows=2;rw [c2,b2,a2,(X2p hi).r]
 have hc2:(celX f m i j).2.cols=2:=by show (timesS _ _ _).2.cols=2;rw [c3];exact hr
 unfold celX at hr2 hc2 ⊢
 rw [h1,hr2,hc2];rfl
theorem Xij{m:Mx}(hm:mOk m=true)(hr:m.rows=2)(hc:m.cols=2){i j:Nat}(hi:i<3)(hj:j<3) :
  (∀ z,celB m i j=some z→celS false m i j=(false,z))∧(celB m i j=none→(celS false m i j).1=true):=by
 obtain ⟨a1,a2,b1,b2,d1,c1,c2⟩:=Xgf hm hr hc false hi hj
 have pi:=X2p hi
 have pj:=X2p hj
 have m1:=X27 (X3s hi) hm d1
 unfold celB
 cases h1:mulI (pauM i) m with
 | none=>
  have f1:=m1.2 h1
  refine ⟨fun z h=>(by cases h),fun _=>?_⟩
  have h1':(celX false m i j).1=true:=by unfold celX;rw [f1,X32,X32]
  have h2:(celA false m i j).1=true:=by unfold celA;rw [h1'];exact X5x _ _
  unfold celS;rw [h2];exact X61 _ _
 | some x=>
  have f1:=(m1.1 x h1).1
  rw [f1] at a1 a2 b1 b2
  simp only [Qz]
  have m2:=X27 a1 (X3s hj) a2
  cases h2:mulI x (pauM j) with
  | none=>
   have f2:=m2.2 h2
   refine ⟨fun z h=>(by cases h),fun _=>?_⟩
   have h1':(celX false m i j).1=true:=by unfold celX;rw [f1];dsimp only;rw [f2,X32]
   have h2:(celA false m i j).1=true:=by unfold celA;rw [h1'];exact X5x _ _
   unfold celS;rw [h2];exact X61 _ _
  | some y=>
   have f2:=(m2.1 y h2).1
   rw [f2] at b1 b2
   simp only [Qz]
   have m3:=X27 b1 (X2o hm) b2
   have hX:celX false m i j=timesS false y (adjS m):=by unfold celX;rw [f1];dsimp only;rw [f2]
   cases h3:mulI y (adjS m) with
   | none=>
    have f3:=m3.2 h3
    refine ⟨fun z h=>(by cases h),fun _=>?_⟩
    have h2:(celA false m i j).1=true:=by unfold celA;rw [hX,f3];exact X5x _ _
    unfold celS;rw [h2];exact X61 _ _
   | some z=>
    have f3:=(m3.1 z h3).1
    obtain ⟨z1,z2,z3⟩:=Xb2 h3 (by have:=(Xb2 h2 (by have:=(Xb2 h1 pi.r hc).2.1;exact this) pj.c).2.1;exact this) (show (adjS m).cols=2 from hr)
    simp only [Qz]
    have e0:z.cells.getD 0 dZ=z.at 0 0:=by show _=z.cells.getD (0*z.cols.toNat+0) dZ;rw [z3];rfl
    have e3:z.cells.getD 3 dZ=z.at 1 1:=by show _=z.cells.getD (1*z.cols.toNat+1) dZ;rw [z3];rfl
    have hA:celA false m i j=sAdd false (z.at 0 0) (z.at 1 1):=by unfold celA;rw [hX,f3,e0,e3]
    have ag:=X54 (Mx.at_ok (X18 z1) 0 0) (Mx.at_ok (X18 z1) 1 1)
    cases h4:dAddI (z.at 0 0) (z.at 1 1) with
    | none=>
     refine ⟨fun z h=>(by cases h),fun _=>?_⟩
     unfold celS;rw [hA,ag.2 h4];exact X61 _ _
    | some t=>
     obtain ⟨g1,g2⟩:=ag.1 t h4
     have am:=X52 g2 (show dOk dHf=true by decide)
     simp only [Qz]
     have hS:celS false m i j=sMul false t dHf:=by unfold celS;rw [hA,g1]
     rw [hS]
     exact ⟨fun z h=>(am.1 z h).1,am.2⟩
def BlS(m:Mx)(n:Nat)(f:Bool)(l:List Dy) : Prop:=(f=false→seqO (gridG (celB m) 3) n=some l)∧(f=true→seqO (gridG (celB m) 3) n=none)∧l.length=n
theorem Xl1{m:Mx}(hm:mOk m=true)(hr:m.rows=2)(hc:m.cols=2){i j:Nat}(hi:i<3)(hj:j<3){f:Bool}{l:List Dy}(h:BlS m (i*3+j) f l) : BlS m (i*3+(j+1)) (celS f m i j).1 (l++[(celS f m i j).2]):=by
 obtain ⟨h1,h2,h3⟩:=h
 have hg:gridG (celB m) 3 (i*3+j)=celB m i j:=X2l hj
 have hag:=Xij hm hr hc hi hj
 refine ⟨fun hf=>?_,fun hf=>?_,by simp [h3];omega⟩
 ·cases f with
  | true=>rw [Xi8] at hf;cases hf
  | false=>
   cases e:celB m i j with
   | none=>rw [hag.2 e] at hf;cases hf
   | some z=>rw [hag.1 z e];exact X42 (n:=i*3+j) (h1 rfl) (hg.trans e)
 ·cases f with
  | true=>
   show seqO _ (i*3+j+1)=none
   rw [seqO,h2 rfl]
  | false=>
   cases e:celB m i j with
   | none=>exact X4z (n:=i*3+j) (by rw [hg,e]) _ (by omega)
   | some z=>rw [hag.1 z e] at hf;cases hf
theorem Xni{m:Mx}(h1:oneQ m=true){f:Bool}{l:List Dy}(h:BlS m 9 f l) : (f=true→blochI m=none)∧(f=false→blochI m=some l):=by
 unfold blochI
 rw [Q4 h1]
 exact ⟨h.2.1,h.1⟩
theorem Xen{l:List Dy}(h:l.length=4){k:Nat}(hk:k<4) : l[k]? = some (l.getD k dZ):=by
 rw [Qa,Qc (by omega)];rfl
theorem X55{m:Mx}(h:mOk m=true)(k:Nat) : 0≤(m.cells.getD k dZ).exp∧(m.cells.getD k dZ).exp≤60:=by
 rw [Qa]
 cases e:m.cells[k]? with
 | none=>decide
 | some x=>exact X1r (X18 h x (Qe e))
theorem Xrt{p q r:List Dy}(h:mulBI p q=some r)(hp:∀ x ∈ p,dOk x=true)(hq:∀ x ∈ q,dOk x=true){i j k:Nat}(hi:i<3)(hj:j<3)(hk:k<3){s:Dy}(hs:dotI (bm3 p) (bm3 q) i j k=some s) :
  ∃ z t,sMul false ((bm3 p).at i k) ((bm3 q).at k j)=(false,z)∧sAdd false s z=(false,t)∧dotI (bm3 p) (bm3 q) i j (k+1)=some t∧(0≤z.exp∧z.exp≤60)∧(0≤s.exp∧s.exp≤60)∧dOk s=true:=by
 have h3:=X9d h (i*3+j) (by omega)
 rw [X2l hj] at h3
 have hso:∀ n s,dotI (bm3 p) (bm3 q) i j n=some s→dOk s=true:=fun n=>by
  induction n with
  | zero=>intro s h;injection h with h;rw [← h];exact X7d
  | succ n ih=>
   intro s h
   simp only [dotI,Option.bind_eq_some_iff] at h
   obtain ⟨u,h1,x,h2,h4⟩:=h
   have o1:=((X52 (Mx.at_ok (m:=bm3 p) hp i n) (Mx.at_ok (m:=bm3 q) hq n j)).1 x h2).2
   exact ((X54 (ih u h1) o1).1 s h4).2
 have hne:∃ t,dotI (bm3 p) (bm3 q) i j (k+1)=some t:=by
  cases e:dotI (bm3 p) (bm3 q) i j (k+1) with
  | none=>rw [X6i e 3 (by omega)] at h3;cases h3
  | some t=>exact ⟨t,rfl⟩
 obtain ⟨t,ht⟩:=hne;have ht2:=ht
 rw [dotI,hs,Qz] at ht2
 simp only [Option.bind_eq_some_iff] at ht2
 obtain ⟨z,hz,hz2⟩:=ht2
 have a1:=(X52 (Mx.at_ok (m:=bm3 p) hp i k) (Mx.at_ok (m:=bm3 q) hq k j)).1 z hz
 have os:=hso k s hs
 have a2:=(X54 os a1.2).1 t hz2
 exact ⟨z,t,a1.1,a2.1,ht,X1r a1.2,X1r os,os⟩
theorem Xmh{p q r:List Dy}(h:mulBI p q=some r){i j:Nat}(hj:j<3)(hi:i<3){l:List Dy}(hl:seqO (gridG (fun i j=>dotI (bm3 p) (bm3 q) i j 3) 3) (i*3+j)=some l){s:Dy}(hs:dotI (bm3 p) (bm3 q) i j 3=some s) : seqO (gridG (fun i j=>dotI (bm3 p) (bm3 q) i j 3) 3) (i*3+(j+1))=some (l++[s]):=X42 (n:=i*3+j) hl ((X2l (f:=fun i j=>dotI (bm3 p) (bm3 q) i j 3) hj).trans hs)
def sylT(s:Nat) : UInt8:=([84,72,83] : List UInt8).getD s 84
theorem Xvd{s:Nat}{u:UInt8}(hs:s<3)(hu:u=sylT s)(h:((u.toNat:Int)==72)=true) : s=1:=by
 subst hu;rcases lt3 hs with rfl|rfl|rfl<;>revert h<;>decide
theorem Xrp{s:Nat}{u:UInt8}(hs:s<3)(hu:u=sylT s)(h:((u.toNat:Int)==83)=true) : s=2:=by
 subst hu;rcases lt3 hs with rfl|rfl|rfl<;>revert h<;>decide
theorem Xw8{s:Nat}{u:UInt8}(hs:s<3)(hu:u=sylT s)(h:((u.toNat:Int)==72)=false)(h2:((u.toNat:Int)==83)=false) : s=0:=by
 subst hu;rcases lt3 hs with rfl|rfl|rfl<;>revert h h2<;>decide
theorem Xty{s:Nat}{u:UInt8}(hs:s<3)(hu:u=sylT s) : ((u.toNat:Int) != 84)=true∧s≠0∨((u.toNat:Int) != 84)=false∧s=0:=by
 subst hu;rcases lt3 hs with rfl|rfl|rfl<;>decide
theorem Xu5{s:Nat}{u:UInt8}(hs:s<3)(hu:u=sylT s)(h0:s≠0)(h:((u.toNat:Int)==83)=false) : s=1:=by
 subst hu;rcases lt3 hs with rfl|rfl|rfl
 ·exact absurd rfl h0
 ·rfl
 ·revert h;decide
theorem Xrx{s:Nat}{u:UInt8}(hs:s<3)(hu:u=sylT s)(h:((u.toNat:Int) != 84)=false) : s=0∧((u.toNat:Int)==83)=false:=by
 subst hu;rcases lt3 hs with rfl|rfl|rfl<;>revert h<;>decide
theorem Xol{i:Nat}(hi:i<3) : (([84,72,83] : List UInt8).drop i).take (i+1-i)=[sylT i]:=by rcases lt3 hi with rfl|rfl|rfl<;>rfl
theorem Xei{l r:List Dy}{i:Nat}(hi:i<3)(hno:∀ j,j<i→∀ r,mulBI (bkC j) l=some r→bexp r≠bexp l-1)(h:mulBI (bkC i) l=some r)(he:bexp r=bexp l-1) : stripI l=some (i,r):=by
 unfold stripI
 have hn:∀ j,j<i→((mulBI (bkC j) l).bind fun r=>if bexp r=bexp l-1 then some (j,r) else none)=none:=fun j hj=>by
  cases e:mulBI (bkC j) l with
  | none=>rfl
  | some q=>rw [Qz,Q3 (hno j hj q e)]
 have hy:((mulBI (bkC i) l).bind fun r=>if bexp r=bexp l-1 then some (i,r) else none)=some (i,r):=by rw [h,Qz,Q4 he]
 rcases lt3 hi with rfl|rfl|rfl
 ·simp only [List.findSome?];rw [hy]
 ·simp only [List.findSome?];rw [hn 0 (by decide),hy]
 ·simp only [List.findSome?];rw [hn 0 (by decide),hn 1 (by decide),hy]
theorem Xcs{s:Nat}(hs:s<3) : (bkC s).length=9∧∀ x ∈ bkC s,dOk x=true:=⟨(Xdk hs).len,(Xdk hs).ok⟩
theorem Gd.nine{l:List Dy}(h:Gd l) : l.length=9∧∀ x ∈ l,dOk x=true:=by obtain ⟨Z,h1,_⟩:=h;exact ⟨h1.len,h1.ok⟩
def letK(i:Nat) : Int:=if i=0 then 1 else 5
def letR(i:Nat) : Nat:=if i=0 then 1 else 2
theorem Xlr{i:Nat}(hi:i<2) : gateI 1 ⟨letK i,0,0⟩=some (gateS 1 ⟨letK i,0,0⟩)∧blochI (gateS 1 ⟨letK i,0,0⟩)=some (clB (letR i)):=by
 have key:∀ (g:Gt) (k:Nat),g ∈ G4→k<24→cw k=[if g.k=5 then 83 else 72]→wdG (cw k)=[g]→gateI 1 g=some (gateS 1 g)∧blochI (gateS 1 g)=some (clB k):=fun g k hg hk hw hw2=>by
  obtain ⟨v,ok⟩:=Xkv hg;obtain ⟨u,_⟩:=Xr1 hg
  refine ⟨(X4i ok).1,?_⟩
  have hN1:hN g≤1:=by unfold hN;split<;>omega
  refine X6k v u (by omega) (X5z hk) fun i j hi hj=>?_
  have:=X8x k hk i j hi hj
  rw [X2v,Xe]
  rw [pW,hw2] at this
  have e1:prodG [g] i2=g1 g.k:=by show g1 g.k*i2=_;exact Xa9 _
  have e2:hs [g]=hN g:=by show hN g+0=hN g;rfl
  rw [e1,e2] at this
  exact this
 have h2:i=0∨i=1:=by omega
 rcases h2 with rfl|rfl
 ·exact key ⟨1,0,0⟩ 1 (by decide) (by decide) rfl rfl
 ·exact key ⟨5,0,0⟩ 2 (by decide) (by decide) rfl rfl
theorem Xn0{i:Nat}(hi:i<3) : pauM i=⟨2,2,oneL (2+(i:Int))⟩:=by
 rcases lt3 hi with rfl|rfl|rfl<;>kernel_rfl
theorem Xny{m:Mx}(hm:mOk m=true)(hrc:m.rows=m.cols)(h:(timesS false m (adjS m)).1=true) : uniI m=(false,false):=by
 rw [Xah hm hrc]
 have ha:=X27 hm (X2o hm) (show m.cols=(adjS m).rows from rfl)
 cases e:mulI m (adjS m) with
 | none=>rfl
 | some p=>rw [(ha.1 p e).1] at h;cases h
theorem Xjf{m:Mx}(hm:mOk m=true)(hrc:m.rows=m.cols)(h:(timesS false m (adjS m)).1=false) : uniI m=(eqM (timesS false m (adjS m)).2 (unitS m.rows.toNat),true):=by
 rw [Xah hm hrc]
 have ha:=X27 hm (X2o hm) (show m.cols=(adjS m).rows from rfl)
 cases e:mulI m (adjS m) with
 | none=>rw [ha.2 e] at h;cases h
 | some p=>rw [(ha.1 p e).1];rfl
theorem Xxl(w0:World)(x:Rg) : Ret Tryz.prog 185 [.agg #[vi x.a,vi x.b,vi x.c,vi x.d]] w0 (fun v w=>v=rV (rCj x)∧Below w0.heap.size w0 w):=by
 refine enter Tryz.func185 rfl 15 rfl rfl ?_;intro a hf
 have f:=bz w0
 refine Zs hf fun _ aB=>?_;refine Zf (X09 (zs:=[vi x.a,vi x.b,vi x.c,vi x.d]) rfl rfl) ?_;rintro _ w1 ⟨b2,rfl,aC,hE,e⟩;have aF:=Q0 f.size aC;have f:=btr f hE;refine Zf (X4 (zs:=[vi 0,vi 0,vi 0,vi 0]) X1y rfl) ?_;rintro _ w2 ⟨b3,rfl,aD,hE,g⟩
 have aA:b2≠b3:=by have:=e.lt;omega
 have a9:=Q0 f.size aD;have e:=e.below hE;have f:=btr f hE;refine Zx aB fun a hf _ aE=>?_;refine Ze (Vd rfl X0d 0)<|Ze (X0 rfl X8 (e.at 0))<|Ze (Vd rfl X0f 3)<|Ze (X0 rfl X8 (e.at 3))<|Ze (X80 rfl)<|Ze (Vd rfl X0e 2)<|Ze (X0 rfl X8 (e.at 2))<|Ze (X80 rfl)<|Ze (Vd rfl X0g 1)<|Ze (X0 rfl X8 (e.at 1)) ?_;refine Ze (X80 rfl)<|Ze (Xg (ps:=[(0,vi x.a),(1,vi (wr (-x.d))),(2,vi (wr (-x.c))),(3,vi (wr (-x.b)))]) (cs:=[vi x.a,vi (wr (-x.d)),vi (wr (-x.c)),vi (wr (-x.b))]) rfl (fun _=>by first|rfl|kernel_rfl))<|Zo (Vw [vi x.a,vi (wr (-x.d)),vi (wr (-x.c)),vi (wr (-x.b))] X10 g) ?_;rintro _ w3 ⟨ho,hb⟩;have aG:=g;have f:=Below.only f ho a9;have g:=hb;refine Zt aE fun a hf=>?_
 refine Q6 (X3 hf (Xt hf rfl (ResV.cellN (l:=[vi x.a,vi (wr (-x.d)),vi (wr (-x.c)),vi (wr (-x.b))]) rfl X00 (g.at 0) rfl)) ?_)
 exact ⟨rfl,f⟩
theorem Xx6(w0:World)(x:Dy) : Ret Tryz.prog 153 [.agg #[vi x.num.a,vi x.num.b,vi x.num.c,vi x.num.d,vi x.exp]] w0 (fun v w=>v=dV (dCj x)∧Below w0.heap.size w0 w):=by
 refine enter Tryz.func153 rfl 9 rfl rfl ?_;intro a hf
 have g:=bz w0
 refine Zs hf fun _ aB=>?_;refine Zf (X09 (zs:=[vi x.num.a,vi x.num.b,vi x.num.c,vi x.num.d,vi x.exp]) rfl rfl) ?_;rintro _ w1 ⟨b2,rfl,aC,i,f⟩;have aF:=Q0 g.size aC;have g:=btr g i;refine Zf (X4 (zs:=[vi 0,vi 0,vi 0,vi 0,vi 0]) X0l rfl) ?_;rintro _ w2 ⟨b3,rfl,aD,i,e⟩
 have aA:b2≠b3:=by have:=f.lt;omega
 have a9:=Q0 g.size aD;have f:=f.below i;have g:=btr g i;refine ZX aB fun a hf _ aE=>?_;refine X07 none (fun j=>[6].contains j) mixed ?_;intro w3 i;have f:=f.below i;have e:=e.below i;have g:=btr g i;refine Yb hf<|Yo 0 rfl (fun _=>Vd rfl X19 0)<|Ye 1 rfl (Xy (l:=[vi x.num.a,vi x.num.b,vi x.num.c,vi x.num.d]) rfl X00 ((f.at 0).take 4) rfl)<|Yo 3 rfl (fun _=>Vd rfl X0y 4)<|Ye 4 rfl (X0 rfl X8 (f.at 4))<|Y1 2 ?_;refine Yk rfl trivial (Vc (Xxl _ x.num) Xnq) (fun _ _ ⟨_,i⟩=>i) ?_;rintro _ w4 ⟨rfl,i⟩;have e:=e.below i;have g:=btr g i;refine Yo 5 rfl (fun _=>Xg (ps:=[(0,.agg #[vi ((rCj x.num).a),vi ((rCj x.num).b),vi ((rCj x.num).c),vi ((rCj x.num).d)]),(1,vi x.exp)]) (cs:=[vi ((rCj x.num).a),vi ((rCj x.num).b),vi ((rCj x.num).c),vi ((rCj x.num).d),vi x.exp]) rfl (fun _=>by first|rfl|kernel_rfl))<|Y1 6 ?_;refine Yh rfl trivial rfl (Vw [vi ((rCj x.num).a),vi ((rCj x.num).b),vi ((rCj x.num).c),vi ((rCj x.num).d),vi x.exp] Xa e) ?_;rintro _ w5 ⟨ho,hb⟩;have aG:=e;have g:=Below.only g ho a9;have e:=hb;refine Yd fun a hf=>?_;refine aE _ _ ?_
 refine Q6 (X3 hf (Xt hf rfl (ResV.cellN (l:=[vi ((rCj x.num).a),vi ((rCj x.num).b),vi ((rCj x.num).c),vi ((rCj x.num).d),vi x.exp]) rfl X6 (e.at 0) rfl)) ?_)
 exact ⟨rfl,g⟩
theorem X8l(y:World)(m:Mx)(Am:Option Addr)(cm:Nat)(Q:Rd y y.heap.size 86 encD Am m.cells)(b0:mOk m=true) : Ret Tryz.prog 107 [.agg #[vi m.rows,vi m.cols,.slice Am m.cells.length cm]] y (fun v w=>∃ A c,v=mV A c (adjS m)∧Own w y.heap.size 86 5 encD A c (adjS m).cells∧Below y.heap.size y w):=by
 have b1:=X2h b0
 have b2:m.cols=(m.cols.toNat:Int):=by omega
 have b4:m.rows=(m.rows.toNat:Int):=by omega
 suffices hgoal:Ret Tryz.prog 107 [.agg #[vi (m.rows.toNat:Int),vi (m.cols.toNat:Int),.slice Am m.cells.length cm]] y (fun v w=>∃ A c,v=.agg #[vi (m.cols.toNat:Int),vi (m.rows.toNat:Int),.slice A (adjS m).cells.length c]∧Own w y.heap.size 86 5 encD A c (adjS m).cells∧Below y.heap.size y w) by rw [← b2,← b4] at hgoal;exact hgoal
 refine enter Tryz.func107 rfl 40 rfl rfl ?_;intro a p
 have n:=bz y
 refine Zs p fun _ b6=>?_;refine Zf (X09 (zs:=[vi (m.rows.toNat:Int),vi (m.cols.toNat:Int),.slice Am m.cells.length cm]) rfl rfl) ?_;rintro _ w1 ⟨b3,rfl,b7,x,e⟩;have bF:=Q0 n.size b7;have n:=btr n x;refine Zf (X4 (zs:=[vi 0,vi 0,.slice none 0 0]) X12 rfl) ?_;rintro _ w2 ⟨b5,rfl,b8,x,f⟩
 have aX:b3≠b5:=by have:=e.lt;omega
 have aH:=Q0 n.size b8;have e:=e.below x;have n:=btr n x;refine Zx b6 fun a p _ bC=>?_;refine Ze (Vd rfl X0w 1)<|Ze (X0 rfl X8 (e.at 1))<|Ze (Vd rfl X11 0)<|Ze (X0 rfl X8 (e.at 0))<|Ze (Xg (ps:=[(0,vi (m.cols.toNat:Int)),(1,vi (m.rows.toNat:Int))]) (cs:=[vi (m.cols.toNat:Int),vi (m.rows.toNat:Int),.slice none 0 0]) rfl (fun _=>by first|rfl|kernel_rfl))<|Zf (X4 (zs:=[vi 0,vi 0,.slice none 0 0]) X12 rfl) ?_;rintro _ w3 ⟨b9,rfl,bD,x,g⟩
 have aY:b3≠b9:=by have:=e.lt;omega
 have aZ:b5≠b9:=by have:=f.lt;omega
 have U:=Q0 n.size bD;have e:=e.below x;have f:=f.below x;have n:=btr n x;refine Zo (Vw [vi (m.cols.toNat:Int),vi (m.rows.toNat:Int),.slice none 0 0] X0c g) ?_;rintro _ w4 ⟨H,hb⟩;have D:=g;have e:=e.only H (by omega);have f:=f.only H (by omega);have n:=Below.only n H U;have g:=hb;refine ZX bC fun a p _ aI=>?_;refine Zs p fun _ aJ=>?_;refine Za rfl<|Zt aJ fun a p=>?_;refine Q8<|X03 (σ:=Nat×(List Dy)) (fun (s:Nat×(List Dy)) (a:Act) (w:World)=>match s with|(j,l)=>∃ B C,Fr a 40 [(1,.pointer (some ⟨b3,0,none⟩)),(2,.pointer (some ⟨b5,0,none⟩)),(3,.pointer (some ⟨b9,0,none⟩)),(4,vi (j:Int))]∧(j≤m.cols.toNat)∧(gridL (fun j i=>dCj (m.at i j)) m.rows.toNat (j*m.rows.toNat)=l)∧Blk w b3 32 [vi (m.rows.toNat:Int),vi (m.cols.toNat:Int),.slice Am m.cells.length cm]∧Blk w b5 32 [vi 0,vi 0,.slice none 0 0]∧Blk w b9 32 [vi (m.cols.toNat:Int),vi (m.rows.toNat:Int),.slice B l.length C]∧Own w y.heap.size 86 5 encD B C l∧Below y.heap.size y w) (fun (s:Nat×(List Dy))=>match s with|(j,l)=>m.cols.toNat-j) (0,[]) ?_ ?_
 ·exact ⟨none,0,p.sb,(Qf _),(by rw [Nat.zero_mul];rfl),e,f,g,(Own.nil _ _ _ _ _),n⟩
 rintro ⟨j,l⟩ a w5 ⟨B,C,p,hj,hl,e,f,g,E,n⟩;refine Q5 fun _ aK=>?_;refine Zs p fun _ aL=>?_;refine Zm rfl<|Ze (Vd rfl X0w 1)<|Ze (X0 rfl X8 (e.at 1))<|Ze (X14 rfl rfl)<|Zt aL fun a p=>?_
 refine Xl p rfl (fun q=>?_) (fun q=>?_)
 ·have a9:=q;have q:=Q2 q
  have aM:j<m.cols.toNat:=by have:=q;omega
  refine Q7<|aK _ _<|Q5 fun _ aN=>?_;refine Q8<|Zs p fun _ aO=>?_;refine Za rfl<|Zt aO fun a p=>?_;refine Q8<|X03 (σ:=Nat×(List Dy)) (fun (s:Nat×(List Dy)) (a:Act) (w:World)=>match s with|(i,l2)=>∃ M N,Fr a 40 [(1,.pointer (some ⟨b3,0,none⟩)),(2,.pointer (some ⟨b5,0,none⟩)),(3,.pointer (some ⟨b9,0,none⟩)),(4,vi (j:Int)),(5,vi (i:Int))]∧(i≤m.rows.toNat)∧(gridL (fun j i=>dCj (m.at i j)) m.rows.toNat (j*m.rows.toNat+i)=l2)∧Blk w b3 32 [vi (m.rows.toNat:Int),vi (m.cols.toNat:Int),.slice Am m.cells.length cm]∧Blk w b5 32 [vi 0,vi 0,.slice none 0 0]∧Blk w b9 32 [vi (m.cols.toNat:Int),vi (m.rows.toNat:Int),.slice M l2.length N]∧Own w y.heap.size 86 5 encD M N l2∧Below y.heap.size y w) (fun (s:Nat×(List Dy))=>match s with|(i,l2)=>m.rows.toNat-i) (0,l) ?_ ?_
  ·exact ⟨B,C,p.sb,(Qf _),hl,e,f,g,E,n⟩
  rintro ⟨i,l2⟩ a w6 ⟨M,N,p,hi,aA,e,f,g,o,n⟩;refine Q5 fun _ aP=>?_;refine Zs p fun _ aQ=>?_;refine Zm rfl<|Ze (Vd rfl X11 0)<|Ze (X0 rfl X8 (e.at 0))<|Ze (X14 rfl rfl)<|Zt aQ fun a p=>?_
  refine Xl p rfl (fun t=>?_) (fun t=>?_)
  ·have aB:=t;have t:=Q2 t
   have aC:i<m.rows.toNat:=by have:=t;omega
   have bG:l2.length=j*m.rows.toNat+i:=by rw [← aA,X2f]
   have bI:=X2s (show j≤32 by omega) (show m.rows.toNat≤32 by omega)
   have bH:=X2s (show i≤32 by omega) (show m.cols.toNat≤32 by omega)
   refine Q7<|aP _ _<|Q5 fun _ aR=>?_;refine Q8<|X07 none (fun j=>[14,16].contains j) mixed ?_;intro w7 x;have e:=e.below x;have f:=f.below x;have g:=g.below x;have o:=o.below x;have n:=btr n x;refine Yb p<|Yo 0 rfl (fun _=>Vd rfl X0v 2)<|Ye 1 rfl (X0 rfl X0j (g.at 2))<|Yo 2 rfl (fun _=>Vd rfl X0v 2)<|Ye 3 rfl (X0 rfl X0j (e.at 2))<|Yo 4 rfl (fun _=>Xb rfl)<|Yo 5 rfl (fun _=>Vd rfl X0w 1)<|Ye 6 rfl (X0 rfl X8 (e.at 1))<|Yo 7 rfl (fun _=>Xav (m:=i) (k:=m.cols.toNat) rfl rfl (by have:=X2s (show i≤32 by omega) (show m.cols.toNat≤32 by omega);omega))<|Yo 8 rfl (fun _=>Xb rfl)<|Yo 9 rfl (fun _=>X01 rfl rfl (by omega) (by omega)) ?_;refine Yi (k:=(i*m.cols.toNat+j)) (u:=(m.at i j)) (enc:=encD) (l:=m.cells) 10 rfl trivial rfl rfl Xv Xa Xz (Q.below' n) (Mx.at_get (by rw [b1.2.2];exact X3z (by omega) (by omega))) (by omega) ?_;intro bJ aD;refine Ye 11 rfl (Xy (l:=[vi ((m.at i j).num.a),vi ((m.at i j).num.b),vi ((m.at i j).num.c),vi ((m.at i j).num.d),vi ((m.at i j).exp)]) rfl X6 aD rfl)<|Y1 12 ?_;refine Yk rfl trivial (Vc (Xx6 _ (m.at i j)) Xne) (fun _ _ ⟨_,x⟩=>x) ?_;rintro _ w8 ⟨rfl,x⟩;have e:=e.below x;have f:=f.below x;have g:=g.below x;have o:=o.below x;have n:=btr n x;refine Y1 13<|Yk rfl trivial (Xd (k:=1) (vs:=[.agg #[vi ((dCj (m.at i j)).num.a),vi ((dCj (m.at i j)).num.b),vi ((dCj (m.at i j)).num.c),vi ((dCj (m.at i j)).num.d),vi ((dCj (m.at i j)).exp)]]) (zs:=[vi ((dCj (m.at i j)).num.a),vi ((dCj (m.at i j)).num.b),vi ((dCj (m.at i j)).num.c),vi ((dCj (m.at i j)).num.d),vi ((dCj (m.at i j)).exp)]) rfl Xv X0x rfl rfl) (fun _ _ ⟨_,_,_,h,_⟩=>h) ?_;rintro _ w9 ⟨bK,rfl,I,x,J⟩
   have bE:=Q0 n.size I;have aS:=(Q.below' n).away I;have G:=o.away I;have e:=e.below x;have f:=f.below x;have g:=g.below x;have o:=o.below x;have n:=btr n x;refine Y1 14<|Yt rfl trivial rfl (X0n (enc:=encD) (l:=(l2)) (l2:=([(dCj (m.at i j))])) (B0:=y.heap.size) rfl rfl Xv X0x Xz X28 o (Rd.of_blk J rfl _ J.lt) (by simp only [maxLen];simp;omega) (by simp;omega) n.size) ?_;rintro _ bL ⟨aE,aF,rfl,L,hg,aT⟩
   have z:Own _ y.heap.size 86 5 encD _ _ (l2):=o
   have aG:=aT _ J.lt G;clear aT;have e:=e.appT z hg rfl;have f:=f.appT z hg rfl;have g:=g.appT z hg rfl;have n:=Below.app n z hg (Qb _) n.size;clear z hg;refine Yo 15 rfl (fun _=>Vd rfl X0v 2)<|Y1 16 ?_;refine Yh rfl trivial rfl (Vu (vs:=[.slice aE (l2++([(dCj (m.at i j))])).length aF]) (l':=[vi (m.cols.toNat:Int),vi (m.rows.toNat:Int),.slice aE (l2++([(dCj (m.at i j))])).length aF]) rfl rfl X3g g) ?_;rintro _ bM ⟨H,hb⟩;have D:=g;have e:=e.only H (by omega);have f:=f.only H (by omega);have L:=L.onlyT H D rfl;have n:=Below.only n H U;have g:=hb;refine Yd fun a p=>?_;refine Xn<|aR _ _<|Zr p<|Zm rfl<|Ze (X01 rfl rfl (by omega) (by omega))<|Za rfl ?_;refine Zn fun a p=>?_;refine Xm ?_;exact ⟨(i+1,l2++[dCj (m.at i j)]),⟨aE,aF,p.sb,(by omega),(by rw [X70 aC,aA]),e,f,g,L,n⟩,(by first|omega|(dsimp only;omega))⟩
  have aB:=t;have t:=Q1 t
  have aC:i=m.rows.toNat:=by have:=t;omega
  refine Q9<|Xk<|Xk<|X05 ?_;refine Xn<|aN _ _<|Zr p<|Zm rfl<|Ze (X01 rfl rfl (by omega) (by omega))<|Za rfl ?_;refine Zn fun a p=>?_;refine Xm ?_;exact ⟨(j+1,l2),⟨M,N,p.sb,(by omega),(by rw [Wb,Nat.one_mul,← aA,aC]),e,f,g,o,n⟩,(by first|omega|(dsimp only;omega))⟩
 have a9:=q;have q:=Q1 q
 have aM:j=m.cols.toNat:=by have:=q;omega
 refine Q9<|Xk<|Xk<|X05 ?_;refine aI _ _<|Zs p fun _ aU=>?_;refine Ze (Vn Xp g)<|Zo (Vw [vi (m.cols.toNat:Int),vi (m.rows.toNat:Int),.slice B l.length C] X0c f) ?_;rintro _ bN ⟨H,hb⟩;have D:=f;have E:=E.onlyT H D rfl;have n:=Below.only n H aH;have f:=hb;refine Zt aU fun a p=>?_
 refine Q6 (X3 p (Xt p rfl (ResV.cellN (l:=[vi (m.cols.toNat:Int),vi (m.rows.toNat:Int),.slice B l.length C]) rfl Xp (f.at 0) rfl)) ?_)
 have aW:(adjS m).cells=l:=by rw [← hl,aM];rfl
 rw [aW]
 exact ⟨B,C,rfl,E,n⟩
theorem Xbf(w0:World)(i:Nat)(aB:i<3) : Ret Tryz.prog 108 [vi (i:Int)] w0 (fun v w=>∃ A c,v=mV A c (pauM i)∧Own w w0.heap.size 86 5 encD A c (pauM i).cells∧Below w0.heap.size w0 w):=by
 refine enter Tryz.func108 rfl 7 rfl rfl ?_;intro a hf
 have e:=bz w0
 refine Zs hf fun _ aC=>?_;refine Zf (X4 (zs:=[vi 0,vi 0,.slice none 0 0]) X12 rfl) ?_;rintro _ w1 ⟨b3,rfl,aD,hE,b⟩;have a9:=Q0 e.size aD;have e:=btr e hE;refine Zx aC fun a hf _ aE=>?_;refine Zm rfl<|Ze (X01 rfl rfl (by omega) (by omega))<|Zf (Vc (Xxs _ (2+(i:Int)) (by omega)) Xmc) ?_;rintro _ w2 ⟨A5,c5,rfl,d,hE⟩;have d:=d.lower e.size;have b:=b.below hE;have e:=btr e hE;refine Ze (Xg (ps:=[(0,vi 2),(1,vi 2),(2,.slice A5 (oneL (2+(i:Int))).length c5)]) (cs:=[vi 2,vi 2,.slice A5 (oneL (2+(i:Int))).length c5]) rfl (fun _=>by first|rfl|kernel_rfl))<|Zo (Vw [vi 2,vi 2,.slice A5 (oneL (2+(i:Int))).length c5] X0c b) ?_;rintro _ w3 ⟨ho,hb⟩;have aA:=b;have d:=d.onlyT ho aA rfl;have e:=Below.only e ho a9;have b:=hb;refine Zt aE fun a hf=>?_
 refine Q6 (X3 hf (Xt hf rfl (ResV.cellN (l:=[vi 2,vi 2,.slice A5 (oneL (2+(i:Int))).length c5]) rfl Xp (b.at 0) rfl)) ?_)
 have aF:pauM i=⟨2,2,oneL (2+(i:Int))⟩:=Xn0 aB
 rw [aF]
 exact ⟨A5,c5,rfl,d,e⟩
theorem Xvp(w0:World)(m:Mx)(Am:Option Addr)(cm:Nat)(x:Rd w0 w0.heap.size 86 encD Am m.cells)(b2:m.cells.length≤2305843009213693951) : Ret Tryz.prog 60 [.agg #[vi m.rows,vi m.cols,.slice Am m.cells.length cm]] w0 (fun v w=>v=.tuple #[.bool ((uniI m).1),.bool ((uniI m).2)]∧Below w0.heap.size w0 w):=by
 refine enter Tryz.func60 rfl 32 rfl rfl ?_;intro a n
 have e:=bz w0
 refine Zs n fun _ b4=>?_;refine Zf (X09 (zs:=[vi m.rows,vi m.cols,.slice Am m.cells.length cm]) rfl rfl) ?_;rintro _ w1 ⟨b3,rfl,b5,d,b⟩;have bD:=Q0 e.size b5;have e:=btr e d;refine Za rfl<|Za rfl<|ZX b4 fun a n _ b6=>?_;refine Q5 fun _ b7=>?_;refine X0a (fun a w=>Fr a 32 [(1,.pointer (some ⟨b3,0,none⟩)),(15,.bool ((!(mOk m))||(m.rows != m.cols)))]∧Below w1.heap.size w1 w) ?_ ?_
 ·have aE:Below w1.heap.size w1 w1:=Below.refl _ _
  refine Zr n<|Ze (Vn Xp b)<|Zf (Vc (Xxp _ m Am cm (x.below' e).top b2) Xpb) ?_;rintro _ w2 ⟨rfl,d⟩;have b:=b.below d;have e:=btr e d;have aE:=btr aE d;refine Ze (X0o rfl)<|Zm rfl ?_
  refine Zg 9 rfl (fun i=>?_) (fun i=>?_)
  ·refine Zp (gP i) ?_;refine Zp (gP i) ?_;refine Zp (gP i) ?_;refine Zp (gP i) ?_;refine Zp (gP i) ?_;refine Ze (Xh rfl i rfl) ?_;refine Zn fun a n=>?_
   have aF:Below w1.heap.size w1 w2:=aE
   exact ⟨n.sub ⟨rfl,X1 rfl (by first|rfl|(simp only [i,bs];done)|simp [i]),trivial⟩,aF⟩
  refine Zv (gW i) (Vd rfl X11 0) ?_;refine Zv (gW i) (X0 rfl X8 (b.at 0)) ?_;refine Zv (gW i) (Vd rfl X0w 1) ?_;refine Zv (gW i) (X0 rfl X8 (b.at 1)) ?_;refine Zv (gW i) (X2m rfl rfl) ?_;refine Ze (Xf rfl i rfl) ?_;refine Zn fun a n=>?_
  have aF:Below w1.heap.size w1 w2:=aE
  exact ⟨n.sub ⟨rfl,X1 rfl (by first|rfl|(simp only [i,bs];done)|simp [i]),trivial⟩,aF⟩
 rintro a w3 ⟨n,d⟩;have b:=b.below d;have e:=btr e d;refine b7 _ _ ?_
 refine Xl n rfl (fun W=>?_) (fun W=>?_)
 ·have a9:=W
  have A:=Xgx (by simpa using W:mOk m=false∨m.rows≠m.cols)
  refine Zs n fun _ b8=>?_;refine Za rfl<|Za rfl<|Zt b8 fun a n=>?_;refine Q6<|X7<|X3 n (X0r n rfl rfl rfl) ?_;exact ⟨by rw [A],e⟩
 have a9:=W
 have b9:mOk m=true∧m.rows=m.cols:=by have h9:=W;revert h9;cases mOk m<;>simp
 obtain ⟨p,aN⟩:=b9;have bE:=X21 (X1q p).1;refine Q7<|b6 _ _<|Zs n fun _ bC=>?_;refine Ze (Xg (ps:=[]) (cs:=[.bool false]) rfl (fun _=>by first|rfl|kernel_rfl))<|Zf (X09 (zs:=[.bool false]) rfl rfl) ?_;rintro _ w4 ⟨Q,rfl,aO,d,c⟩;have H:=Q0 e.size aO;have b:=b.below d;have e:=btr e d;refine Za rfl<|ZX bC fun a n _ aP=>?_;refine X0a (fun a w=>∃ b15 B C,Fr a 32 [(1,.pointer (some ⟨b3,0,none⟩)),(4,.pointer (some ⟨Q,0,none⟩)),(5,.pointer (some ⟨b15,0,none⟩))]∧w0.heap.size≤b15∧Blk w b15 32 [vi (((timesS false m (adjS m)).2).rows),vi (((timesS false m (adjS m)).2).cols),.slice B (((timesS false m (adjS m)).2).cells).length C]∧b3≠b15∧Own w w0.heap.size 86 5 encD B C (((timesS false m (adjS m)).2).cells)∧Blk w b3 32 [vi m.rows,vi m.cols,.slice Am m.cells.length cm]∧Blk w Q 95 [.bool ((timesS false m (adjS m)).1)]∧Below w0.heap.size w0 w) ?_ ?_
 ·refine X07 (some Q) (fun j=>[6].contains j) mixed ?_;intro w5 d;have b:=b.below d;have c:=c.below d;have e:=btr e d;refine Yb n<|Yo 0 rfl (fun _=>Xb rfl) ?_;refine Yw 1 rfl trivial (fun w1 h1=>Xy (l:=[vi m.rows,vi m.cols,.slice Am m.cells.length cm]) rfl Xp ((b.only h1 (Blk.ne b c rfl)).at 0) rfl) ?_;refine Yw 2 rfl trivial (fun w1 h1=>Xy (l:=[vi m.rows,vi m.cols,.slice Am m.cells.length cm]) rfl Xp ((b.only h1 (Blk.ne b c rfl)).at 0) rfl) ?_;refine Y2 3 5 ?_ ?_
  ·refine Yf rfl trivial (EfW.mono (Vc (X8l _ m Am cm (x.below' e).top p) X4j) (fun _ _ h=>⟨fun _=>by obtain ⟨aG,aH,rfl,t,d⟩:=h;exact Keep.of_below d,h⟩)) ?_;rintro _ w6 ⟨aG,aH,rfl,t,d⟩;have t:=t.lower e.size;have b:=b.below d;have c:=c.below d;have e:=btr e d;refine Y2 4 5 ?_ ?_
   ·refine Yf rfl trivial (EfW.mono (Vc (X5k _ Q false c m Am cm (x.below' e).top (adjS m) aG aH t.rd.top p (X2o p) rfl) X2a) (fun _ _ h=>⟨fun _=>by obtain ⟨B,C,rfl,g,J,u⟩:=h;exact J.keep,h⟩)) ?_;rintro _ w7 ⟨B,C,rfl,g,J,u⟩;have D:=e.size;obtain ⟨wm,U,hm,d⟩:=J.mid;clear hm;have f:=c;have b:=b.only U (Blk.ne b f rfl);have e:=Below.only e U H;have b:=b.below d;have e:=btr e d
    clear f d U J;have c:=u;clear u
    have g:=g.lower D;clear D;refine Y1 5<|Yf rfl trivial (EfW.mono (X4 (zs:=[vi 0,vi 0,.slice none 0 0]) X12 rfl) (fun _ _ h=>⟨fun _=>by obtain ⟨_,_,_,d,_⟩:=h;exact Keep.of_below d,h⟩)) ?_;rintro _ w8 ⟨b15,rfl,aQ,d,q⟩
    have E:b3≠b15:=by have:=b.lt;omega
    have I:=Q0 e.size aQ;have b:=b.below d;have c:=c.below d;have g:=g.below d;have e:=btr e d;refine Y1 6<|Yh rfl trivial rfl (Vw [vi (((timesS false m (adjS m)).2).rows),vi (((timesS false m (adjS m)).2).cols),.slice B (((timesS false m (adjS m)).2).cells).length C] X0c q) ?_;rintro _ w9 ⟨L,hb⟩;have f:=q;have b:=b.only L (by omega);have c:=c.only L (Blk.ne c f rfl);have g:=g.onlyT L f rfl;have e:=Below.only e L I;have q:=hb;refine Yd fun a n=>?_;exact ⟨b15,B,C,n.sb,I,q,E,g,b,c,e⟩
   refine Yf rfl trivial (EfW.mono (X4 (zs:=[vi 0,vi 0,.slice none 0 0]) X12 rfl) (fun _ _ h=>⟨fun _=>by obtain ⟨_,_,_,d,_⟩:=h;exact Keep.of_below d,h⟩)) ?_;rintro _ bF ⟨b17,rfl,aR,d,o⟩
   have aA:b3≠b17:=by have:=b.lt;omega
   have aB:=Q0 e.size aR;have b:=b.below d;have c:=c.below d;have t:=t.below d;have e:=btr e d;refine Y1 4<|Yf rfl trivial (EfW.mono (Vc (X5k _ Q false c m Am cm (x.below' e).top (adjS m) aG aH t.rd.top p (X2o p) rfl) X2a) (fun _ _ h=>⟨fun _=>by obtain ⟨aI,aJ,rfl,y,J,u⟩:=h;exact J.keep,h⟩)) ?_;rintro _ bG ⟨aI,aJ,rfl,y,J,u⟩;have D:=e.size;obtain ⟨wm,U,hm,d⟩:=J.mid;clear hm;have f:=c;have b:=b.only U (Blk.ne b f rfl);have o:=o.only U (Blk.ne o f rfl);have e:=Below.only e U H;have b:=b.below d;have o:=o.below d;have e:=btr e d
   clear f d U J;have c:=u;clear u
   have y:=y.lower D;clear D;refine Y1 6<|Yh rfl trivial rfl (Vw [vi (((timesS false m (adjS m)).2).rows),vi (((timesS false m (adjS m)).2).cols),.slice aI (((timesS false m (adjS m)).2).cells).length aJ] X0c o) ?_;rintro _ bH ⟨L,hb⟩;have f:=o;have b:=b.only L (by omega);have c:=c.only L (Blk.ne c f rfl);have y:=y.onlyT L f rfl;have e:=Below.only e L aB;have o:=hb;refine Yd fun a n=>?_;exact ⟨b17,aI,aJ,n.sub ⟨rfl,rfl,(by first|rfl|(simp [look,a9])),trivial⟩,aB,o,aA,y,b,c,e⟩
  refine Yf rfl trivial (EfW.mono (X4 (zs:=[vi 0,vi 0,.slice none 0 0]) X12 rfl) (fun _ _ h=>⟨fun _=>by obtain ⟨_,_,_,d,_⟩:=h;exact Keep.of_below d,h⟩)) ?_;rintro _ bI ⟨b20,rfl,aS,d,k⟩
  have aC:b3≠b20:=by have:=b.lt;omega
  have aD:=Q0 e.size aS;have b:=b.below d;have c:=c.below d;have e:=btr e d;refine Y1 3<|Yf rfl trivial (EfW.mono (Vc (X8l _ m Am cm (x.below' e).top p) X4j) (fun _ _ h=>⟨fun _=>by obtain ⟨aT,aU,rfl,M,d⟩:=h;exact Keep.of_below d,h⟩)) ?_;rintro _ bJ ⟨aT,aU,rfl,M,d⟩;have M:=M.lower e.size;have b:=b.below d;have c:=c.below d;have k:=k.below d;have e:=btr e d;refine Y1 4<|Yf rfl trivial (EfW.mono (Vc (X5k _ Q false c m Am cm (x.below' e).top (adjS m) aT aU M.rd.top p (X2o p) rfl) X2a) (fun _ _ h=>⟨fun _=>by obtain ⟨aK,aL,rfl,z,J,u⟩:=h;exact J.keep,h⟩)) ?_;rintro _ bK ⟨aK,aL,rfl,z,J,u⟩;have D:=e.size;obtain ⟨wm,U,hm,d⟩:=J.mid;clear hm;have f:=c;have b:=b.only U (Blk.ne b f rfl);have k:=k.only U (Blk.ne k f rfl);have e:=Below.only e U H;have b:=b.below d;have k:=k.below d;have e:=btr e d
  clear f d U J;have c:=u;clear u
  have z:=z.lower D;clear D;refine Y1 6<|Yh rfl trivial rfl (Vw [vi (((timesS false m (adjS m)).2).rows),vi (((timesS false m (adjS m)).2).cols),.slice aK (((timesS false m (adjS m)).2).cells).length aL] X0c k) ?_;rintro _ bL ⟨L,hb⟩;have f:=k;have b:=b.only L (by omega);have c:=c.only L (Blk.ne c f rfl);have z:=z.onlyT L f rfl;have e:=Below.only e L aD;have k:=hb;refine Yd fun a n=>?_;exact ⟨b20,aK,aL,n.sub ⟨rfl,rfl,(by first|rfl|(simp [look,a9])),trivial⟩,aD,k,aC,z,b,c,e⟩
 rintro a bM ⟨b15,B,C,n,I,q,E,g,b,c,e⟩;refine aP _ _<|Q5 fun _ aW=>?_;refine Zs n fun _ aX=>?_;refine Zm rfl<|Ze (Xf0 rfl)<|Ze (Vd rfl X45 0)<|Ze (X0 rfl Xm8 (c.at 0))<|Zt aX fun a n=>?_
 refine Xl n rfl (fun G=>?_) (fun G=>?_)
 ·have aM:=G;have A:=Xny p aN G;refine Zs n fun _ aY=>?_;refine Za rfl<|Za rfl<|Zt aY fun a n=>?_;refine Q6<|X7<|X3 n (X0r n rfl rfl rfl) ?_;exact ⟨by rw [A],e⟩
 have aM:=G;have A:=Xjf p aN G;refine Q7<|aW _ _<|Q5 fun _ aZ=>?_;refine X07 none (fun _=>false) mixed ?_;intro bN d;have b:=b.below d;have q:=q.below d;have g:=g.below d;have e:=btr e d;refine Yb n<|Ye 0 rfl (Vn Xp q)<|Yo 1 rfl (fun _=>Vd rfl X11 0)<|Ye 2 rfl (Vx (X0 rfl X8 (b.at 0)) (show _=((m.rows.toNat:Nat) : Int) from (by omega)))<|Y1 3 ?_;refine Yk rfl trivial (Vc (Xux _ (m.rows.toNat:Nat) (by omega)) Xfm) (fun _ _ ⟨b0,b1,_,N,d⟩=>d) ?_;rintro _ bO ⟨b0,b1,rfl,N,d⟩;have N:=N.lower e.size;have g:=g.below d;have e:=btr e d;refine Y1 4<|Yk rfl trivial (Vc (Xzd _ ((timesS false m (adjS m)).2) B C g.rd.top (unitS (m.rows.toNat:Nat)) b0 b1 N.rd.top (X95 (X6g p (X2o p) false).1)) Xu0) (fun _ _ ⟨_,d⟩=>d) ?_;rintro _ bP ⟨rfl,d⟩;have e:=btr e d;refine Yo 5 rfl (fun _=>X0p rfl)<|Yo 6 rfl (fun _=>X0p rfl) ?_;refine Yd fun a n=>?_;refine aZ _ _ ?_
 refine Q6 (X3 n (X0r n rfl rfl rfl) ?_)
 exact ⟨by rw [A];rfl,e⟩
theorem Xwl(w0:World)(m:Mx)(Am:Option Addr)(cm:Nat)(a9:Rd w0 w0.heap.size 86 encD Am m.cells)(aA:m.cells.length≤2305843009213693951) : Ret Tryz.prog 30 [.agg #[vi m.rows,vi m.cols,.slice Am m.cells.length cm]] w0 (fun v w=>v=.bool (oneQ m)∧Below w0.heap.size w0 w):=by
 refine enter Tryz.func30 rfl 19 rfl rfl ?_;intro a d
 have hW:=bz w0
 refine Zs d fun _ aB=>?_;refine Zf (X09 (zs:=[vi m.rows,vi m.cols,.slice Am m.cells.length cm]) rfl rfl) ?_;rintro _ w1 ⟨b3,rfl,aC,hE,e⟩;have aF:=Q0 hW.size aC;have hW:=btr hW hE;refine Za rfl<|Zx aB fun a d _ aD=>?_;refine Ze (Vn Xp e)<|Zf (Vc (Xvp _ m Am cm (a9.below' hW).top aA) Xqh) ?_;rintro _ w2 ⟨rfl,hE⟩;have e:=e.below hE;have hW:=btr hW hE;refine Zm rfl<|Ze (X2 (vs:=[.bool ((uniI m).1),.bool ((uniI m).2)]) rfl rfl)<|Ze (X2 (vs:=[.bool ((uniI m).1),.bool ((uniI m).2)]) rfl rfl)<|Za rfl<|Za rfl<|ZX aD fun a d _ aE=>?_;refine X0a (fun a w=>Fr a 19 [(2,.bool ((((uniI m).2)&&((uniI m).1))&&(m.rows==2)))]∧w2=w) ?_ ?_
 ·refine Zr d<|Zm rfl<|Zm rfl ?_
  refine Zg 11 rfl (fun c=>?_) (fun c=>?_)
  ·refine Zv (gW c) (Xb rfl) ?_;refine Ze (Xh rfl c rfl)<|Zm rfl ?_
   refine Zg 14 rfl (fun b=>?_) (fun b=>?_)
   ·refine Zv (gW b) (Vd rfl X11 0) ?_;refine Zv (gW b) (X0 rfl X8 (e.at 0)) ?_;refine Zv (gW b) (X1d rfl rfl) ?_;refine Ze (Xh rfl b rfl)<|Za rfl ?_;refine Zn fun a d=>?_;exact ⟨d.sub ⟨X1 rfl (by first|rfl|(simp only [c,b,bs];done)|simp [c,b]),trivial⟩,rfl⟩
   refine Zp (gP b) ?_;refine Zp (gP b) ?_;refine Zp (gP b) ?_;refine Ze (Xf rfl b rfl)<|Za rfl ?_;refine Zn fun a d=>?_;exact ⟨d.sub ⟨X1 rfl (by first|rfl|(simp only [c,b,bs];done)|simp [c,b]),trivial⟩,rfl⟩
  refine Zp (gP c) ?_;refine Ze (Xf rfl c rfl)<|Zm rfl<|Zp (gP rfl) ?_;refine Zp (gP rfl) ?_;refine Zp (gP rfl) ?_;refine Ze (Xf rfl rfl rfl)<|Za rfl ?_;refine Zn fun a d=>?_;exact ⟨d.sub ⟨X1 rfl (by first|rfl|(simp only [c,bs];done)|simp [c]),trivial⟩,rfl⟩
 rintro a _ ⟨d,rfl⟩;refine aE _ _ ?_
 refine Q6 (X3 d (Xt d rfl rfl) ?_)
 exact ⟨by simp [oneQ, *],hW⟩
end Go.Proofs.YtnmabjfoiakapaaGreatDoor
