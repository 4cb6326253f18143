/-
  For every drawn normal form, the code and the reference have one matrix for it, the normal form of that matrix, where there is one, is the form again, and its text is read back; forms at two places differ, and a form at a place is valid and has its length.
-/
import Derived.Test.YtckoekhjglafjaaGreatDoorY4
import Derived.Test.YtckoekhjglafjaaGreatDoorY2
import Derived.Lib.SplitLaws
import Derived.Lib.IndexBytes
import Derived.Lib.Atoi
import Derived.Lib.ItoaNum
import Derived.ChangeKeysEq
import Derived.Laws.StructEq
import Derived.Test.YtckoekhjglafjaaGreatDoorY3
import Derived.Test.YtckoekhjglafjaaGreatDoorRows
import Derived.Lib.LaidU8
import Derived.ChangeVars
import Derived.MakeChecks
import Derived.Test.YtckoekhjglafjaaGreatDoorY1
import Derived.Shelf.Strconv.Atoi
import Derived.Shelf.LaysM
import Derived.Ground.NamesProg
import Derived.Shelf.Strconv.Itoa3
import Derived.Shelf.Strings.Split
import Derived.Test.YtckoekhjglafjaaGreatDoorProg
import Derived.Lib.AtoiErrMem
import Derived.Handed
import Derived.HandedShaped
import Derived.Shelf.Vars
import Derived.Test.YtckoekhjglafjaaGreatDoorCards
import Derived.Test.YtckoekhjglafjaaGreatDoorTie
import Derived.Lay
set_option linter.unusedVariables false
set_option linter.unusedSimpArgs false
set_option maxHeartbeats 1000000
set_option maxRecDepth 4000
set_option linter.unusedSectionVars false
namespace Go.Proofs.YtckoekhjglafjaaGreatDoor
open Go.RowKit
theorem X9p(k:Nat) : fmG k []=wdG (cw k):=by simp [fmG,synG]
theorem X4p(k s:Nat)(ss:List Nat) : fmG k (s::ss)=fmG k ss++sylG s:=by unfold fmG;rw [X8f,Qx]
theorem X9h{k:Nat}(hk:k<24){ss:List Nat}(h:ss.length≤40) : (fmG k ss).length≤126:=by
 have h1:=(Xc6 ss).2;have h2:=(X6t hk).2
 unfold fmG wdG
 rw [Qh,Qo]
 omega
theorem Xj8{sl:List Nat}{j:Nat}(hj:j<sl.length) : ∃ s,sl[sl.length-1-j]? = some s∧s ∈ sl∧sl.drop (sl.length-(j+1))=s::sl.drop (sl.length-j):=by
 have h1:sl.length-1-j<sl.length:=by omega
 refine ⟨sl[sl.length-1-j],Qc h1,List.getElem_mem h1,?_⟩
 rw [show sl.length-(j+1)=sl.length-1-j from by omega,Qy h1,show sl.length-1-j+1=sl.length-j from by omega]
theorem Xvi{j k:Nat}(hj:j<24)(hk:k<24)(h:clB j=clB k) : j=k:=by rw [← Xaj hj,h,Xaj hk]
theorem Xzb(l:List Dy) : l.map (dTurn ((0:Nat) : Int))=l:=by
 induction l with
 | nil=>rfl
 | cons x t ih=>rw [List.map_cons,ih];rfl
theorem Xlm{tb:List UInt8}{sl:List Nat}(h:tb=sl.map sylT){k s:Nat}(hs:sl[k]? = some s) : tb[k]? = some (sylT s):=by rw [h,List.getElem?_map,hs];rfl
def nfM(m:Mx) : Option (List Nat×Nat×Nat):=(blochI m).bind fun l=>if bexp l≤40 then some (nfS l,clX (nfL l),nfP m l) else none
def nfs(m:Mx) : List UInt8:=match nfM m with|some p=>p.1.map sylT|none=>[]
def nfk(m:Mx) : Nat:=match nfM m with|some p=>p.2.1|none=>0
def nfp(m:Mx) : Nat:=match nfM m with|some p=>p.2.2|none=>0
structure NfN (m:Mx) : Prop where
 s:nfs m=[]
 k:nfk m=0
 p:nfp m=0
 n:(nfM m).isSome=false
theorem nfN{m:Mx}(h:(!(blochI m).isSome||decide (40<bexp ((blochI m).getD [])))=true) : NfN m:=by
 have e:nfM m=none:=by
  unfold nfM
  cases hb:blochI m with
  | none=>rfl
  | some l=>
   rw [hb] at h
   have:¬ bexp l≤40:=by simp at h;omega
   rw [Qz,Q3 this]
 exact ⟨by unfold nfs;rw [e],by unfold nfk;rw [e],by unfold nfp;rw [e],by rw [e];rfl⟩
structure NfY (m:Mx) (l:List Dy) : Prop where
 s:nfs m=(nfS l).map sylT
 k:nfk m=clX (nfL l)
 p:nfp m=nfP m l
 n:(nfM m).isSome=true
theorem nfY{m:Mx}{l:List Dy}(h:blochI m=some l)(hb:bexp l≤40) : NfY m l:=by
 have e:nfM m=some (nfS l,clX (nfL l),nfP m l):=by unfold nfM;rw [h,Qz,Q4 hb]
 exact ⟨by unfold nfs;rw [e],by unfold nfk;rw [e],by unfold nfp;rw [e],by rw [e];rfl⟩
theorem Xuz{m:Mx}(h:(!(blochI m).isSome||decide (40<bexp ((blochI m).getD [])))=false) : blochI m=some ((blochI m).getD [])∧bexp ((blochI m).getD [])≤40:=by
 cases hb:blochI m with
 | none=>rw [hb] at h;cases h
 | some l=>rw [hb] at h;simp at h;exact ⟨rfl,h⟩
theorem Xwc{m:Mx}{l:List Dy}(h:NfR m l) : (mOk m&&mOk (nfW l)&&eqPh m (nfW l))=true∧(mOk m&&mOk (nfW l))=true:=by
 have h1:=h.one.1;have h2:=h.vm.1
 have h3:eqPh m (nfW l)=true:=by
  rw [Xmq h2]
  obtain ⟨k,hk,ht⟩:=h.ph;exact List.any_eq_true.2 ⟨k,W2.2 hk,ht⟩
 rw [h1,h2,h3]
 exact ⟨rfl,rfl⟩
theorem Xxx{m:Mx}{l:List Dy}(h:NfR m l){i:Int}(hi:∃ k:Nat,k<8∧i=(k:Int)∧eqPhT m (nfW l) k=true) : i=(nfP m l:Int)∧nfP m l<8:=by
 obtain ⟨k,hk,e1,e2⟩:=hi
 have h3:turnedS m (nfW l) (k:Int)=true:=by rw [← e2,eqPhT,X5a h.vm.1 hk];rfl
 rw [Xjl h hk h3]
 exact ⟨e1,hk⟩
theorem Xtm(m:Mx) : ((blochI m).getD []).length≤9:=by
 cases hb:blochI m with
 | none=>decide
 | some l=>
  unfold blochI at hb
  split at hb
  ·rw [Qq,X35 hb];exact Qb _
  ·cases hb
section
variable {P : Program} {a : Act} {w : World} {n : Nat} {e : Env} {ty : TypeId} {pos : String} {af : Array Edge} {g : Option (Nat × Bool)} {d : Option Tmp} {t t' : TypeId}
theorem Xow{x y:Operand}{s:List UInt8}(hf:Fr a n e)(hx:ev e x=some (.string (tx s)))(hy:ev e y=some (.string (tx s))) : Ev P ⟨d,.binOp .neq t x y t',ty,pos,af,g⟩ a w (.bool false):=fun w' _=>by
 simp [execOp,hf.ev hx,hf.ev hy,eqGuard,binOp,Op.stringOp]
theorem Xwt{x y:Operand}{s:List UInt8}(hx:ev e x=some (.string (tx s)))(hy:ev e y=some (.string (tx s))) : EvW P ⟨d,.binOp .neq t x y t',ty,pos,af,g⟩ n e w (.bool false):=fun _ hf=>Xow hf hx hy
end
theorem Xpt{i:Nat}(hi:i<3) : ([84,72,83] : List UInt8)[i]? = some (sylT i):=by rcases lt3 hi with rfl|rfl|rfl<;>rfl
def fmW(k:Nat)(ss:List Nat)(p:Nat) : List Gt:=fmG k ss++List.replicate p ⟨12,0,0⟩
theorem Xmw(k:Nat)(ss:List Nat) : fmW k ss 0=fmG k ss:=by unfold fmW;rw [List.replicate_zero,List.append_nil]
theorem Xmu(k:Nat)(ss:List Nat)(p:Nat) : fmW k ss (p+1)=fmW k ss p++[⟨12,0,0⟩]:=by unfold fmW;rw [List.replicate_succ',Qx]
theorem Xge{k:Nat}(hk:k<24){ss:List Nat}(h:ss.length≤40)(p:Nat) : (fmW k ss p).length≤126+p:=by
 have:=X9h hk h
 unfold fmW
 rw [Qh,List.length_replicate]
 omega
def nfl(m:Mx) : List Nat:=match nfM m with|some p=>p.1|none=>[]
structure NfA (m:Mx) : Prop where
 s:nfs m=(nfl m).map sylT
 k:nfk m<24
 p:nfp m<8
 l:(nfl m).length≤40
 t:∀ s ∈ nfl m,s<3
 f:FrmOk (nfs m)
def rdC(c:Cx) : Option Cx:=if ((opI c).isSome&&c.n==1&&(nfM ((opI c).getD mZ)).isSome)=true then some ⟨1,fmW (nfk ((opI c).getD mZ)) (nfl ((opI c).getD mZ)) (nfp ((opI c).getD mZ))⟩ else none
def g1a(k:Int) : M2:=if k=1 then gH else if k=2 then pl 0 else if k=3 then pl 1 else if k=4 then pl 2 else if k=5 then gS else if k=6 then dg gS else if k=7 then gT else if k=8 then dg gT else sm om i2
def tN(g:Gt) : Nat:=if inR g.k 7 8=true then 1 else 0
def cT:List Gt→Nat
 | []=>0
 | g::l=>tN g+cT l
def G9:List Gt:=[⟨1,0,0⟩,⟨2,0,0⟩,⟨3,0,0⟩,⟨4,0,0⟩,⟨5,0,0⟩,⟨6,0,0⟩,⟨7,0,0⟩,⟨8,0,0⟩,⟨12,0,0⟩]
def rotL:List (Rg×Rg×Rg):=[(0:Rg),1,-1].flatMap fun a=>[(0:Rg),1,-1].flatMap fun b=>[(0:Rg),1,-1,s2].map fun c=>(a,b,c)
def rotM(r:Rg×Rg×Rg) : M2:=⟨r.1*(pl 0).a+r.2.1*(pl 1).a+r.2.2*(pl 2).a,r.1*(pl 0).b+r.2.1*(pl 1).b+r.2.2*(pl 2).b,r.1*(pl 0).c+r.2.1*(pl 1).c+r.2.2*(pl 2).c,r.1*(pl 0).d+r.2.1*(pl 1).d+r.2.2*(pl 2).d⟩
def rotOk(g:Gt)(i:Nat)(r:Rg×Rg×Rg) : Bool:=decide (sm (s2^tN g) (dg (g1a g.k)*pl i*g1a g.k)=sm (s2^hN g*s2^hN g) (rotM r))
theorem Xbh:∀ (p:Nat) (X:M2),prodG (List.replicate p ⟨12,0,0⟩) X=sm (om^p) X
 | 0,X=>by apply X2y<;>simp only [List.replicate,prodG,sm]<;>exact (Xa _).symm
 | p+1,X=>by
  rw [List.replicate_succ,prodG,show g1 (12:Int)=sm om i2 from rfl,X2g,Xes,Xbh p,X6u]
  rfl
theorem Xtc(p:Nat) : hs (List.replicate p ⟨12,0,0⟩)=0:=by
 induction p with
 | zero=>rfl
 | succ p ih=>rw [List.replicate_succ,hs,ih];rfl
def K9(l:List Int) : Prop:=∀ k ∈ l,(⟨k,0,0⟩ : Gt) ∈ G9
def SyOk:List Nat→Prop
 | []=>True
 | s::ss=>s<3∧(ss.head?≠some 0)∧SyOk ss
theorem SyOk.lt:∀ {ss:List Nat},SyOk ss→∀ s ∈ ss,s<3
 | [],_,s,h=>by cases h
 | t::ss,h,s,hs=>by
  rcases Qv.1 hs with rfl|h1
  ·exact h.1
  ·exact h.2.2.lt s h1
def tU(Z:Nat→Nat→Rg) : Nat→Nat→Rg:=fun i j=>match i with
 | 0=>Z 0 j + -Z 1 j
 | 1=>Z 0 j+Z 1 j
 | _=>s2*Z 2 j
theorem Xy3(Z:Nat→Nat→Rg)(i j:Nat) : tT (tU Z) i j=s2*(s2*(if i=0 then Z 0 j else if i=1 then Z 1 j else Z 2 j)):=by
 rcases i with _|_|i
 ·show Z 0 j + -Z 1 j+(Z 0 j+Z 1 j)=_
  rw [Q4 rfl,X8j]
  apply X0l<;>simp only [X1n,X22,X2b,X2f,X20,X39,X3d,X3c]<;>omega
 ·show Z 0 j+Z 1 j + -(Z 0 j + -Z 1 j)=_
  rw [Q3 (by decide),Q4 rfl,X8j]
  apply X0l<;>simp only [X1n,X22,X2b,X2f,X20,X39,X3d,X3c]<;>omega
 ·show s2*(s2*Z 2 j)=_
  rw [Q3 (by omega),Q3 (by omega)]
def pmB:Nat→(Nat→Nat→Rg)→Nat→Nat→Rg
 | 0,Z=>Z
 | 1,Z=>fun i j=>match i with
  | 0=>Z 2 j
  | 1=>-Z 1 j
  | _=>Z 0 j
 | _,Z=>fun i j=>match i with
  | 0=>Z 1 j
  | 1=>Z 2 j
  | _=>Z 0 j
theorem Xap(s:Nat)(Z:Nat→Nat→Rg){i:Nat}(hi:i<3)(j:Nat) : pm s (pmB s Z) i j=Z i j:=by
 rcases s with _|_|s
 ·rfl
 ·rcases lt3 hi with rfl|rfl|rfl
  ·rfl
  ·show - -Z 1 j=_
   rw [rgn.2.2.1]
  ·rfl
 ·rcases lt3 hi with rfl|rfl|rfl<;>rfl
def evR:Nat→Nat
 | 0=>2
 | 1=>0
 | _=>1
structure Lv (n:Nat) (e:Nat) (Y:M2) (Z:Nat→Nat→Rg) : Prop where
 rel:∀ i j,i<3→j<3→s2^n*tV Y i j=s2^(2*e+2)*Z i j
theorem Xq7(n:Nat){x y:Rg}(h:s2^n*x=s2^n*y) : x=y:=X1j n h
theorem Lv.real{n e:Nat}{Y:M2}{Z:Nat→Nat→Rg}(h:Lv n e Y Z){i j:Nat}(hi:i<3)(hj:j<3) : cj (Z i j)=Z i j:=by
 have h1:=h.rel i j hi hj;have h2:=congrArg cj h1
 rw [X38,X38,X89,X89,Xhy,h1] at h2
 exact (Xq7 _ h2).symm
theorem Y01{z:Rg}(h:cj z=z) : (s2*z).a % 2=0:=by
 have hr:cj (s2*z)=s2*z:=by rw [X38,Xi2,h]
 exact X5d hr rfl
theorem Lv.step{n e s:Nat}{Y:M2}{Z:Nat→Nat→Rg}(h:Lv n e Y Z) : Lv (n+1) (e+hY s) (gY s*Y) (pmB s (tU Z)):=by
 refine ⟨fun i j hi hj=>?_⟩
 have hk:∀ i,i<3→tT (pm s fun i j=>s2^(n+1)*tV (gY s*Y) i j) i j=tT (pm s fun i j=>s2^(2*(e+hY s)+2)*pmB s (tU Z) i j) i j:=fun i hi=>by
  rw [X7v,X7v,Xsl]
  have e1:tT (pm s (pmB s (tU Z))) i j=tT (tU Z) i j:=by
   rcases lt3 hi with rfl|rfl|rfl
   ·show pm s _ 0 j+pm s _ 1 j=tU Z 0 j+tU Z 1 j
    rw [Xap s _ (by decide),Xap s _ (by decide)]
   ·show pm s _ 1 j + -pm s _ 0 j=tU Z 1 j + -tU Z 0 j
    rw [Xap s _ (by decide),Xap s _ (by decide)]
   ·show s2*pm s _ 2 j=s2*tU Z 2 j
    rw [Xap s _ (by decide)]
  have e2:(if i=0 then Z 0 j else if i=1 then Z 1 j else Z 2 j)=Z i j:=by rcases lt3 hi with rfl|rfl|rfl<;>rfl
  rw [e1,Xy3,e2]
  have e3:s2^(2*(e+hY s)+2)=s2^hY s*s2^hY s*s2^(2*e+2):=by rw [← X0k,← X0k,show 2*(e+hY s)+2=hY s+hY s+(2*e+2) by omega]
  have e4:s2^(n+1)=s2^n*s2:=rfl
  rw [e3,e4]
  have hr:=h.rel i j hi hj
  rw [show s2^n*s2*(s2^hY s*s2^hY s*(s2*tV Y i j))=s2*(s2*(s2^hY s*(s2^hY s*(s2^n*tV Y i j)))) by simp only [rgs],hr]
  simp only [rgs]
 exact Xm3 (fun i hi=>Xm0 (fun i hi=>hk i hi) i hi) i hi
def Mixed(Z:Nat→Nat→Rg) : Prop:=∃ j,j<3∧(Z 0 j).a % 2≠(Z 1 j).a % 2
structure OddR (s:Nat) (Z:Nat→Nat→Rg) : Prop where
 ex:∃ j,j<3∧(Z (evR s) j).a % 2=0∧∀ i,i<3→i≠evR s→(Z i j).a % 2=1
theorem OddR.mixed{s:Nat}{Z:Nat→Nat→Rg}(h:OddR s Z)(hs:s≠0) : Mixed Z:=by
 obtain ⟨j,hj,h1,h2⟩:=h.ex
 rcases s with _|_|s
 ·exact absurd rfl hs
 ·refine ⟨j,hj,?_⟩
  have a0:(Z 0 j).a % 2=0:=h1
  have a1:=h2 1 (by decide) (by decide)
  omega
 ·refine ⟨j,hj,?_⟩
  have a0:(Z 1 j).a % 2=0:=h1
  have a1:=h2 0 (by decide) (by decide:(0:Nat)≠1)
  omega
theorem Xk1{s:Nat}(hs:s<3){Z:Nat→Nat→Rg}(hm:Mixed Z)(hr:∀ j,j<3→cj (Z 2 j)=Z 2 j) : OddR s (pmB s (tU Z)):=by
 obtain ⟨j,hj,h⟩:=hm
 have h0:(tU Z 0 j).a % 2=1:=by show (Z 0 j + -Z 1 j).a % 2=1;rw [X1n,X20];omega
 have h1:(tU Z 1 j).a % 2=1:=by show (Z 0 j+Z 1 j).a % 2=1;rw [X1n];omega
 have h2:(tU Z 2 j).a % 2=0:=Y01 (hr j hj)
 have hn:∀ z:Rg,(-z).a % 2=z.a % 2:=fun z=>by rw [X20];omega
 refine ⟨j,hj,?_⟩
 rcases lt3 hs with rfl|rfl|rfl
 ·exact ⟨h2,fun i hi hne=>by rcases lt3 hi with rfl|rfl|rfl;exact h0;exact h1;exact absurd rfl hne⟩
 ·refine ⟨h2,fun i hi hne=>?_⟩
  rcases lt3 hi with rfl|rfl|rfl
  ·exact absurd rfl hne
  ·show (-tU Z 1 j).a % 2=1
   rw [hn];exact h1
  ·exact h0
 ·refine ⟨h2,fun i hi hne=>?_⟩
  rcases lt3 hi with rfl|rfl|rfl
  ·exact h1
  ·exact absurd rfl hne
  ·exact h0
structure FmLv (k:Nat) (ss:List Nat) (Z:Nat→Nat→Rg) : Prop where
 lv:Lv ss.length (hs (fmG k ss)) (prodG (fmG k ss) i2) Z
 odd:∀ s,ss.head? = some s→OddR s Z
 mix:ss.head?≠some 0→Mixed Z
theorem Xu9:((List.range 24).all fun k=>(List.range 3).any fun j=>decide (rbN k 0 j % 2≠rbN k 1 j % 2))=true:=by kernel_rfl
theorem Xr2{k:Nat}(hk:k<24) : ∀ {ss:List Nat},SyOk ss→∃ Z,FmLv k ss Z
 | [],_=>by
  refine ⟨fun i j=>zI (rbN k i j),⟨fun i j hi hj=>?_⟩,fun s h=>(by cases h),fun _=>?_⟩
  ·show s2^0*tV (prodG (fmG k []) i2) i j=_
   rw [X2c,Xa,X9p]
   exact X6k k hk i j hi hj
  ·obtain ⟨j,hj,h⟩:=List.any_eq_true.1 (W1.1 Xu9 k (W2.2 hk));exact ⟨j,W2.1 hj,Q2 h⟩
 | s::ss,h=>by
  obtain ⟨Z,hz⟩:=Xr2 hk h.2.2;have hlv:=hz.lv.step (s:=s)
  have e1:prodG (fmG k (s::ss)) i2=gY s*prodG (fmG k ss) i2:=by rw [X4p,X4r,Xgm]
  have e2:hs (fmG k (s::ss))=hs (fmG k ss)+hY s:=by rw [X4p,X9v,X75]
  have ho:=Xk1 h.1 (hz.mix h.2.1) fun j hj=>hz.lv.real (by decide) hj
  refine ⟨pmB s (tU Z),by rw [e1,e2];exact hlv,fun t ht=>?_,fun hne=>?_⟩
  ·injection ht with ht
   subst ht
   exact ho
  ·exact ho.mixed fun h0=>hne (by rw [h0];rfl)
def FmB(k:Nat)(ss:List Nat)(l:List Dy) : Prop:=BV l (2*hs (fmG k ss)+2) (tV (prodG (fmG k ss) i2))
theorem FmB.at{k:Nat}{ss:List Nat}{l:List Dy}(h:FmB k ss l){Z:Nat→Nat→Rg}(hz:FmLv k ss Z) : BV l ss.length Z:=
 ⟨h.len,h.ok,fun i j hi hj=>Xcr (h.at_ok i j) (h.v i j hi hj) (hz.lv.rel i j hi hj)⟩
theorem FmB.exp{k:Nat}(hk:k<24){ss:List Nat}(ho:SyOk ss){l:List Dy}(h:FmB k ss l) : bexp l=(ss.length:Int):=by
 obtain ⟨Z,hz⟩:=Xr2 hk ho;have hb:=h.at hz;have h1:=hb.exps;have h0:=X2d l
 cases ss with
 | nil=>have:bexp l≤0:=h1;show bexp l=0;omega
 | cons s ss=>
  obtain ⟨j,hj,_,h3⟩:=(hz.odd s rfl).ex
  obtain ⟨i,hi,hne⟩ : ∃ i,i<3∧i≠evR s:=by
   rcases s with _|_|s
   ·exact ⟨0,by decide,by decide⟩
   ·exact ⟨1,by decide,by decide⟩
   ·exact ⟨0,by decide,by show (0:Nat)≠1;decide⟩
  have ha:=h3 i hi hne;have hv:=hb.v i j hi hj;have hge:=X7i (Xa9 hb.len hi hj)
  have hlen:(s::ss).length=ss.length+1:=rfl
  rw [hlen] at hv h1 ⊢
  rcases Int.lt_or_le ((bm3 l).at i j).exp ((ss.length+1:Nat) : Int) with h4|h4
  ·exfalso
   obtain ⟨y,hy⟩:=Xqt (m:=ss.length) (n:=1) hv (by omega)
   have:=X5d (hz.lv.real hi hj) (by rw [hy,show s2^1=s2 from by decide])
   omega
  ·omega
theorem Xiq{l r q:List Dy}(h:Gd l)(h0:0<bexp l){s t:Nat}(hs:s<3)(ht:t<3)(h1:mulBI (bkC s) l=some r)(h2:bexp r=bexp l-1)(h3:mulBI (bkC t) l=some q)(h4:bexp q=bexp l-1) : s=t:=by
 obtain ⟨Z,v1,o1⟩:=h
 obtain ⟨k,hk⟩ : ∃ k:Nat,bexp l=((k+1:Nat) : Int):=⟨(bexp l).toNat-1,by omega⟩
 have hk1:(bexp l).toNat=k+1:=by omega
 rw [hk1] at v1 o1
 obtain ⟨i,j,hi,hj,hodd⟩:=Xf5 v1 o1 hk (by omega)
 have par:∀ {s:Nat} {r:List Dy},s<3→mulBI (bkC s) l=some r→bexp r=bexp l-1→(pm s Z 2 j).a % 2=0∧((pm s Z 0 j).a+(pm s Z 1 j).a) % 2=0:=fun {s r} hs h1 h2=>by
  have v3:=X5z hs h1 v1
  have hz:∀ i,i<3→∃ y,tT (pm s Z) i j=s2*(s2*y):=fun i hi=>by
   have hv:=v3.v i j hi hj
   obtain ⟨y,hy⟩:=Xqt (m:=k) (n:=2) hv (by have:=X7i (Xa9 v3.len hi hj);omega)
   exact ⟨y,by rw [hy,show s2^2=s2*s2 from by decide,X8]⟩
  obtain ⟨y0,f0⟩:=hz 0 (by decide)
  obtain ⟨y2,f2⟩:=hz 2 (by decide)
  have f2':s2*pm s Z 2 j=s2*(s2*y2):=f2
  refine ⟨X5d ((X8h o1 s).real 2 j) (X1f f2'),?_⟩
  have f0':pm s Z 0 j+pm s Z 1 j=s2*(s2*y0):=f0
  rw [X8j] at f0'
  have:=congrArg Rg.a f0'
  rw [X1n,X1n] at this
  omega
 obtain ⟨p1,p2⟩:=par hs h1 h2;obtain ⟨p3,p4⟩:=par ht h3 h4
 have hn:∀ z:Rg,(-z).a % 2=z.a % 2:=fun z=>by rw [X20];omega
 rcases Nat.decEq s t with hne|he
 ·exfalso
  have hall:∀ i,i<3→(Z i j).a % 2=0:=by
   rcases lt3 hs with rfl|rfl|rfl<;>rcases lt3 ht with rfl|rfl|rfl<;>first
    | exact absurd rfl hne
    | (simp only [pm,X20] at p1 p2 p3 p4;intro i hi;rcases lt3 hi with rfl|rfl|rfl<;>omega)
  have:=hall i hi
  omega
 ·exact he
theorem FmB.gd{k:Nat}(hk:k<24){ss:List Nat}(hl:ss.length≤40){l:List Dy}(h:FmB k ss l) : Gd l:=
 Xky h (by
  have e:=Xjv ((Xhw hk hl).2.2.back (X98 _))
  rwa [show (2:Rg)*(s2^hs (fmG k ss)*s2^hs (fmG k ss))=s2^(2*hs (fmG k ss)+2) from by rw [← X0k,← Xc5,← X0k,show 2+(hs (fmG k ss)+hs (fmG k ss))=2*hs (fmG k ss)+2 by omega]] at e)
theorem FmB.strip{k:Nat}(hk:k<24){s:Nat}{ss:List Nat}(ho:SyOk (s::ss))(hl:(s::ss).length≤40){l:List Dy}(h:FmB k (s::ss) l) : ∃ r,stripI l=some (s,r)∧FmB k ss r:=by
 have hg:=h.gd hk hl;have hx:=h.exp hk ho
 have hlen:(s::ss).length=ss.length+1:=rfl
 have h40:bexp l≤40:=by omega
 obtain ⟨r,hr,_⟩:=X9b hg h40 ho.1
 have hrv:FmB k ss r:=by
  have hv:=X5z ho.1 hr h
  refine ⟨hv.len,hv.ok,fun i j hi hj=>Xcr (hv.at_ok i j) (hv.v i j hi hj) ?_⟩
  have e1:prodG (fmG k (s::ss)) i2=gY s*prodG (fmG k ss) i2:=by rw [X4p,X4r,Xgm]
  have e2:hs (fmG k (s::ss))=hs (fmG k ss)+hY s:=by rw [X4p,X9v,X75]
  rw [e1,e2,Xsl]
  have e3:s2^(2*(hs (fmG k ss)+hY s)+2+1)=s2^hY s*s2^hY s*s2*s2^(2*hs (fmG k ss)+2):=by
   have e4:s2^(hY s+hY s+(2*hs (fmG k ss)+2)+1)=s2^(hY s+hY s+(2*hs (fmG k ss)+2))*s2:=rfl
   rw [show 2*(hs (fmG k ss)+hY s)+2+1=hY s+hY s+(2*hs (fmG k ss)+2)+1 by omega,e4,X0k,X0k s2 (hY s)]
   simp only [rgs]
  rw [e3]
  simp only [rgs]
 have hrx:=hrv.exp hk ho.2.2
 obtain ⟨t,q,hst⟩:=X8r hg (by omega) h40
 obtain ⟨t1,t2,t3⟩:=X42 hst
 have hst':s=t:=Xiq hg (by omega) ho.1 t1 hr (by omega) t2 t3
 subst hst'
 rw [hr] at t2
 injection t2 with t2
 subst t2
 exact ⟨r,hst,hrv⟩
theorem Xby{l r:List Dy}{s:Nat}(h:stripI l=some (s,r)) : ∀ n,stN l (n+1)=(s::(stN r n).1,(stN r n).2)
 | 0=>by rw [X37 (n:=0) (p:=(s,r)) h];rfl
 | n+1=>by
  have ih:=Xby h n
  cases e:stripI (stN r n).2 with
  | none=>
   have e1:stN r (n+1)=stN r n:=by simp only [stN,e]
   have e2:stN l (n+2)=stN l (n+1):=by
    show (match stripI (stN l (n+1)).2 with|some p=>((stN l (n+1)).1++[p.1],p.2)|none=>stN l (n+1))=_
    rw [ih]
    dsimp only
    rw [e]
   rw [e1,e2,ih]
  | some p=>
   have e2:stripI (stN l (n+1)).2=some p:=by rw [ih];exact e
   rw [X37 e2,X37 e,ih]
   rfl
theorem FmB.stN{k:Nat}(hk:k<24) : ∀ {ss:List Nat},SyOk ss→ss.length≤40→∀ {l:List Dy},FmB k ss l→stN l ss.length=(ss,clB k)
 | [],_,_,l,h=>by
  have hv:=X5i hk
  have e:l=clB k:=Xgq h hv fun i j hi hj=>by
   rw [X2c,Xa,X9p]
   exact X6k k hk i j hi hj
  rw [e]
  rfl
 | s::ss,ho,hl,l,h=>by
  obtain ⟨r,h1,h2⟩:=h.strip hk ho hl
  have ih:=FmB.stN hk ho.2.2 (by have:(s::ss).length=ss.length+1:=rfl;omega) h2
  rw [show (s::ss).length=ss.length+1 from rfl,Xby h1,ih]
theorem Xnd{u:Rg}(hu:u*cj u=1)(Y:M2)(i j:Nat) : tV (sm u Y) i j=tV Y i j:=by
 unfold tV
 rw [Xyr,X3p,X3p,X2g,X2g,X6u,X5j,Xk (cj u),hu,Xa]
theorem Xhz:∀ p:Nat,om^p*cj (om^p)=1
 | 0=>by decide
 | p+1=>by
  have ih:=Xhz p
  have e:om^(p+1)=om^p*om:=rfl
  rw [e,X38,show om^p*om*(cj (om^p)*cj om)=om^p*cj (om^p)*(om*cj om) by simp only [rgs],ih]
  decide
def fmM(k:Nat)(ss:List Nat)(p:Nat) : Mx:=⟨(opM (fmG k ss)).rows,(opM (fmG k ss)).cols,(opM (fmG k ss)).cells.map (dTurn (p:Int))⟩
theorem Xjb{k:Nat}(hk:k<24){ss:List Nat}(hl:ss.length≤40){p:Nat}(hp:p<8) : VM (fmM k ss p) (hs (fmG k ss)) (sm (om^p) (prodG (fmG k ss) i2)):=by
 obtain ⟨_,o2,_⟩:=Xhw hk hl
 have lW:=(X2q o2.ok).2.2
 rw [o2.r,o2.c] at lW
 have hW4:(opM (fmG k ss)).cells.length=4:=lW
 have hok:mOk (fmM k ss p)=true:=by
  unfold fmM
  rw [o2.r,o2.c]
  refine X6x (show isDimB 2=true by decide) (show isDimB 2=true by decide) (by simp [hW4]) fun x hx=>?_;obtain ⟨y,hy,rfl⟩:=W6.1 hx;exact Xam (X0s o2.ok y hy) _
 refine ⟨hok,o2.r,o2.c,fun i j hi hj=>?_⟩
 have ea:(fmM k ss p).at i j=dTurn (p:Int) ((opM (fmG k ss)).at i j):=by
  have:=Xdf hW4 o2.c (p:Int) hi hj
  rw [← this]
  unfold fmM
  rw [o2.r,o2.c]
 have e9:(sm (om^p) (prodG (fmG k ss) i2)).at i j=om^p*(prodG (fmG k ss) i2).at i j:=by
  rcases lt2 hi with rfl|rfl<;>rcases lt2 hj with rfl|rfl<;>rfl
 rw [ea,e9]
 exact Xd0 (Mx.at_ok (X0s o2.ok) i j) (o2.v i j hi hj) hp
theorem Xza{A B:Mx}{e:Nat}{X:M2}(hA:VM A e X)(hB:VM B e X) : A=B:=by
 have e1:=Xf1 hA.ok hB.ok hA.r hA.c hB.r hB.c fun i j hi hj=>Xoc (Mx.at_ok (X0s hA.ok) i j) (Mx.at_ok (X0s hB.ok) i j) (hA.v i j hi hj) (hB.v i j hi hj) rfl
 obtain ⟨r,c,cs⟩:=A
 have hr:r=B.rows:=hA.r.trans hB.r.symm
 have hc:c=B.cols:=hA.c.trans hB.c.symm
 have e1:cs=B.cells:=e1
 rw [hr,hc,e1]
theorem Xjt{k:Nat}(hk:k<24){ss:List Nat}(hl:ss.length≤40){p:Nat}(hp:p<8) : opI ⟨1,fmW k ss p⟩=some (fmM k ss p):=by
 have hmem:∀ g ∈ fmW k ss p,g ∈ G4:=fun g hg=>by
  rcases Qu.1 hg with h1|h1
  ·exact Xgd _ _ g h1
  ·rw [List.eq_of_mem_replicate h1];decide
 have hsW:hs (fmW k ss p)=hs (fmG k ss):=by unfold fmW;rw [X9v,Xtc];rfl
 have hs50:hs (fmG k ss)≤50:=by
  have a1:=(X6t hk).1
  have a2:=(Xc6 ss).1
  unfold fmG
  rw [X9v]
  omega
 obtain ⟨M,hM,vM,_⟩:=Xak hmem (Q0 (Xge hk hl _) (by omega)) (by rw [hsW];exact hs50)
 rw [hsW,show fmW k ss p=fmG k ss++List.replicate p ⟨12,0,0⟩ from rfl,X4r,Xbh] at vM
 rw [hM,Xza vM (Xjb hk hl hp)]
structure FmUq (k:Nat) (ss:List Nat) (p:Nat) : Prop where
 es:nfs (fmM k ss p)=ss.map sylT
 ek:nfk (fmM k ss p)=k
 ep:nfp (fmM k ss p)=p
theorem Xwy{k:Nat}(hk:k<24){ss:List Nat}(ho:SyOk ss)(hl:ss.length≤40){p:Nat}(hp:p<8)(h:(nfM (fmM k ss p)).isSome=true) : FmUq k ss p:=by
 have hV:=Xjb hk hl hp
 cases hb:blochI (fmM k ss p) with
 | none=>unfold nfM at h;rw [hb] at h;cases h
 | some l=>
  by_cases h40:bexp l≤40
  ·have hY:=nfY hb h40;have hR:=nfR hb h40;obtain ⟨_,vX⟩:=X9w hb hV
   have hB:FmB k ss l:=⟨vX.len,vX.ok,fun i j hi hj=>by
    have:=vX.v i j hi hj
    rwa [Xnd (Xhz p)] at this⟩
   have hx:=hB.exp hk ho;have hst:=hB.stN hk ho hl
   have hN:(bexp l).toNat=ss.length:=by omega
   have eS:nfS l=ss:=by unfold nfS;rw [hN,hst]
   have eL:nfL l=clB k:=by unfold nfL;rw [hN,hst]
   have eW:nfW l=opM (fmG k ss):=by unfold nfW nfC;rw [eL,eS,Xaj hk]
   refine ⟨by rw [hY.s,eS],by rw [hY.k,eL,Xaj hk],?_⟩
   rw [hY.p]
   refine Xjl hR hp ?_
   rw [eW]
   unfold turnedS fmM
   simp
  ·unfold nfM at h
   rw [hb,Qz,Q3 h40] at h
   cases h
def badF(i:Nat)(u:UInt8) : Bool:=((u.toNat:Int) != 72&&(u.toNat:Int) != 83&&((u.toNat:Int) != 84||decide (0<(i:Int))))
theorem Xpk{i:Nat}{u:UInt8}(h:badF i u=false) : u=72∨u=83∨(u=84∧i=0):=by
 unfold badF at h
 have e:∀ n:Nat,((u.toNat:Int) != (n:Int))=false→u.toNat=n:=fun n hn=>by
  have:=Q2 (p:=(u.toNat:Int)=(n:Int)) (by
   cases hd:decide ((u.toNat:Int)=(n:Int)) with
   | true=>rfl
   | false=>have:=Q1 hd;simp [bne,this] at hn)
  omega
 cases h72:((u.toNat:Int) != 72) with
 | false=>exact .inl (UInt8.toNat.inj (e 72 h72))
 | true=>
  cases h83:((u.toNat:Int) != 83) with
  | false=>exact .inr (.inl (UInt8.toNat.inj (e 83 h83)))
  | true=>
   rw [h72,h83,Qw,Qw,Bool.or_eq_false_iff] at h
   refine .inr (.inr ⟨UInt8.toNat.inj (e 84 h.1),?_⟩)
   have:=Q1 h.2
   omega
def frmB(tb:List UInt8)(fc fp:Int) : Bool:=((List.range tb.length).all fun j=>!badF j (tb.getD j 0))&&(decide ((tb.length:Int)≤40)&&inR fc 0 23&&inR fp 0 7)
theorem Xh0{tb:List UInt8}{fc fp:Int}{i:Nat}{u:UInt8}(hu:tb[i]? = some u)(hb:badF i u=true) : frmB tb fc fp=false:=by
 unfold frmB
 have hlt:=(Qg.1 hu).1
 rw [Bool.and_eq_false_iff]
 left
 rw [List.all_eq_false]
 exact ⟨i,W2.2 hlt,by rw [Qa,hu,Qq,hb];decide⟩
theorem Xa6{tb:List UInt8}{fc fp:Int}(h:∀ j:Nat,j<tb.length→∀ u,tb[j]? = some u→badF j u=false) : frmB tb fc fp=(decide ((tb.length:Int)≤40)&&inR fc 0 23&&inR fp 0 7):=by
 unfold frmB
 have:((List.range tb.length).all fun j=>!badF j (tb.getD j 0))=true:=W1.2 fun j hj=>by
  have hlt:=W2.1 hj;have hg:=Qc hlt
  rw [Qa,hg,Qq,h j hlt _ hg]
  rfl
 rw [this,Qw]
theorem Xhk{tb:List UInt8}{i:Nat}{u:UInt8}(h:∀ j:Nat,j<i→∀ v,tb[j]? = some v→badF j v=false)(hu:tb[i]? = some u)(hb:badF i u=false) : ∀ j:Nat,j<i+1→∀ v,tb[j]? = some v→badF j v=false:=fun j hj v hv=>by
 by_cases h1:j=i
 ·subst h1
  rw [hu] at hv
  injection hv with hv
  rw [← hv]
  exact hb
 ·exact h j (by omega) v hv
def byS(u:UInt8) : Nat:=if u=84 then 0 else if u=72 then 1 else 2
theorem Xmk:∀ {l:List UInt8},(∀ u ∈ l,u=72∨u=83)→SyOk (l.map byS)
 | [],_=>trivial
 | u::l,h=>by
  have hu:=h u (by simp)
  refine ⟨by rcases hu with rfl|rfl<;>decide,?_,Xmk fun v hv=>h v (by simp [hv])⟩
  cases l with
  | nil=>simp
  | cons v l=>
   have hv:=h v (by simp)
   rcases hv with rfl|rfl<;>simp [byS]<;>decide
structure FrmY (tb:List UInt8) (fc fp:Int) : Prop where
 e:tb=(tb.map byS).map sylT
 o:SyOk (tb.map byS)
 l:(tb.map byS).length≤40
 k:fc=(fc.toNat:Int)∧fc.toNat<24
 p:fp=(fp.toNat:Int)∧fp.toNat<8
 f:FrmOk tb
theorem X68{tb:List UInt8}{fc fp:Int}(h:frmB tb fc fp=true) : FrmY tb fc fp:=by
 unfold frmB at h
 simp only [Qd,Qr] at h
 obtain ⟨h1,⟨h2,h3⟩,h4⟩:=h;have h3:=X0g.1 h3;have h4:=X0g.1 h4
 have ha:∀ (j:Nat) (u:UInt8),tb[j]? = some u→u=72∨u=83∨(u=84∧j=0):=fun j u hu=>by
  have hlt:=(Qg.1 hu).1
  have:=W1.1 h1 j (W2.2 hlt)
  rw [Qa,hu,Qq] at this
  exact Xpk (by simpa using this)
 refine ⟨?_,?_,by rw [Qo];omega,⟨by omega,by omega⟩,⟨by omega,by omega⟩,⟨ha,by omega⟩⟩
 ·rw [List.map_map]
  have hid:∀ u ∈ tb,(sylT ∘ byS) u=u:=fun u hu=>by
   obtain ⟨j,hj⟩:=List.mem_iff_getElem?.1 hu
   rcases ha j u hj with rfl|rfl|⟨rfl,_⟩<;>decide
  exact (List.map_congr_left (g:=id) hid▸(List.map_id tb)).symm
 ·cases tb with
  | nil=>trivial
  | cons u l=>
   have hl:∀ v ∈ l,v=72∨v=83:=fun v hv=>by
    obtain ⟨j,hj⟩:=List.mem_iff_getElem?.1 hv
    rcases ha (j+1) v (by simpa using hj) with h5|h5|⟨_,h5⟩
    ·exact .inl h5
    ·exact .inr h5
    ·cases h5
   refine ⟨?_,?_,Xmk hl⟩
   ·rcases ha 0 u rfl with rfl|rfl|⟨rfl,_⟩<;>decide
   ·cases l with
    | nil=>simp
    | cons v l=>
     have hv:=hl v (by simp)
     rcases hv with rfl|rfl<;>simp [byS]<;>decide
theorem X7r:∀ (a r:List UInt8) {c:UInt8},c ∉ a→Lib.indexByte (a++c::r) c=a.length
 | [],r,c,_=>by
  show (if c==c then (0:Int) else _)=_
  rw [Q4 (by simp)]
  rfl
 | b::a,r,c,h=>by
  have hb:¬ (b==c)=true:=fun h9=>h (by rw [← beq_iff_eq.1 h9];simp)
  have ih:=X7r a r (c:=c) fun h9=>h (by simp [h9])
  show (if b==c then (0:Int) else if Lib.indexByte (a++c::r) c == -1 then -1 else Lib.indexByte (a++c::r) c+1)=_
  rw [Q3 hb,ih,Q3 (by rw [beq_iff_eq];omega),Qs]
  omega
theorem X7s:∀ (a:List UInt8) {c:UInt8},c ∉ a→Lib.indexByte a c = -1
 | [],c,_=>rfl
 | b::a,c,h=>by
  have hb:¬ (b==c)=true:=fun h9=>h (by rw [← beq_iff_eq.1 h9];simp)
  have ih:=X7s a (c:=c) fun h9=>h (by simp [h9])
  show (if b==c then (0:Int) else if Lib.indexByte a c == -1 then -1 else Lib.indexByte a c+1)=_
  rw [Q3 hb,ih]
  rfl
theorem X81(a r:List UInt8){c:UInt8}(h:c ∉ a) : Lib.index (a++c::r) [c]=a.length:=by rw [Lib.index_one];exact X7r a r h
theorem Xl2(a:List UInt8){c:UInt8}(h:c ∉ a) : Lib.index a [c] = -1:=by rw [Lib.index_one];exact X7s a h
theorem X7z(a r:List UInt8)(c:UInt8) : (a++c::r).drop (a.length+1)=r:=by
 rw [List.drop_append]
 simp
theorem Xdz{a b d:List UInt8}{c:UInt8}(ha:c ∉ a)(hb:c ∉ b)(hd:c ∉ d) : Lib.count (a++c::(b++c::d)) [c]=2:=by
 rw [Lib.count_hit (by simp) (X81 a _ ha),List.length_singleton,X7z,Lib.count_hit (by simp) (X81 b _ hb),List.length_singleton,X7z,Lib.count_miss (Xl2 d hd)]
theorem Xds{a b d:List UInt8}{c:UInt8}(ha:c ∉ a)(hb:c ∉ b) : Lib.splitK [c] 0 2 (a++c::(b++c::d))=[a,b,d]:=by
 have e1:=X81 a (b++c::d) ha
 have e2:=X81 b d hb
 unfold Lib.splitK
 rw [e1,Q3 (by rw [beq_iff_eq];omega)]
 unfold Lib.splitK
 rw [show ((a.length:Int).toNat+[c].length)=a.length+1 from rfl,X7z,e2,Q3 (by rw [beq_iff_eq];omega)]
 unfold Lib.splitK
 rw [show ((b.length:Int).toNat+[c].length)=b.length+1 from rfl,X7z]
 simp
def fmT(tb:List UInt8)(k p:Nat) : List UInt8:=(if tb=[] then [45] else tb)++32::(Lib.itoa (k:Int)++32::Lib.itoa (p:Int))
theorem Xmp:((List.range 24).all fun n=>!(Lib.itoa (n:Int)).contains 32&&decide (Lib.atoi (Lib.itoa (n:Int))=some (n:Int))&&decide ((Lib.itoa (n:Int)).length≤2))=true:=by decide +kernel
theorem X3x{n:Nat}(h:n<24) : (32:UInt8) ∉ Lib.itoa (n:Int)∧Lib.atoi (Lib.itoa (n:Int))=some (n:Int)∧(Lib.itoa (n:Int)).length≤2:=by
 have:=W1.1 Xmp n (W2.2 h)
 simp only [Qd,Qr,Bool.not_eq_true'] at this
 refine ⟨fun h9=>?_,this.1.2,this.2⟩
 have h1:=this.1.1
 rw [List.contains_iff_mem.2 h9] at h1
 cases h1
theorem Xgp{tb:List UInt8}(h:FrmOk tb) : (32:UInt8) ∉ (if tb=[] then [45] else tb):=by
 split
 ·decide
 ·intro h9;obtain ⟨j,hj⟩:=List.mem_iff_getElem?.1 h9
  rcases h.at' j 32 hj with h1|h1|⟨h1,_⟩<;>exact absurd h1 (by decide)
theorem Xba{tb:List UInt8}(h:FrmOk tb){k p:Nat}(hk:k<24)(hp:p<8) : Lib.count (fmT tb k p) [32]=2∧Lib.splitK [32] 0 2 (fmT tb k p)=[if tb=[] then [45] else tb,Lib.itoa (k:Int),Lib.itoa (p:Int)]:=
 ⟨Xdz (Xgp h) (X3x hk).1 (X3x (Nat.lt_trans hp (by decide))).1,Xds (Xgp h) (X3x hk).1⟩
def hsL(b:Nat) : UInt8:=([72,83] : List UInt8).getD b 72
def atL:Nat→Nat→List UInt8
 | 0,_=>[]
 | j+1,q=>hsL ((q/2^j) % 2)::atL j q
def atF(n q:Nat) : List UInt8:=if n=0 then [] else sylT (q/2^(n-1))::atL (n-1) q
theorem Xv1{b:Nat}(h:b<2) : hsL b=72∨hsL b=83:=by rcases lt2 h with rfl|rfl;exact .inl rfl;exact .inr rfl
theorem X6c(q:Nat) : ∀ j,(atL j q).length=j
 | 0=>rfl
 | j+1=>by rw [atL,Qs,X6c q j]
theorem Xh7(q:Nat) : ∀ j,∀ u ∈ atL j q,u=72∨u=83
 | 0,u,h=>by cases h
 | j+1,u,h=>by
  rw [atL] at h
  rcases Qv.1 h with h1|h1
  ·rw [h1];exact Xv1 (Nat.mod_lt _ (by decide))
  ·exact Xh7 q j u h1
theorem Xch(n q:Nat) : (atF n q).length=n:=by
 unfold atF
 by_cases h:n=0
 ·rw [Q4 h,h];rfl
 ·rw [Q3 h,Qs,X6c];omega
def cntF(n:Nat) : Nat:=if n=0 then 24 else 72*2^(n-1)
theorem Xph:((List.range 20).all fun m=>decide (wr (72*2^m)=((cntF (m+1) : Nat) : Int)))=true:=by decide +kernel
theorem Xhm{n:Int}(h1:1≤n)(h2:n≤20) : wr (72*2^(n-1).toNat)=((cntF n.toNat:Nat) : Int):=by
 have h:=W1.1 Xph (n-1).toNat (W2.2 (by omega))
 have h:=Q2 h
 rw [h,show (n-1).toNat+1=n.toNat by omega]
theorem Xfx{n k:Nat}(hn:n≠0)(h:k<cntF n) : k/24/2^(n-1)<3:=by
 unfold cntF at h
 rw [Q3 hn] at h
 have hp:0<2^(n-1):=Nat.pow_pos (by decide)
 rw [Nat.div_lt_iff_lt_mul hp,Nat.div_lt_iff_lt_mul (by decide)]
 omega
theorem Xvq{n k:Nat}(hn:n≤20)(h:k<cntF n) : FrmOk (atF n (k/24)):=by
 refine ⟨fun i u hu=>?_,by rw [Xch];omega⟩
 unfold atF at hu
 by_cases h0:n=0
 ·rw [Q4 h0] at hu;simp at hu
 ·rw [Q3 h0] at hu
  cases i with
  | zero=>
   simp at hu
   have:=Xfx h0 h
   rcases lt3 this with e|e|e<;>rw [e] at hu<;>subst hu
   ·exact .inr (.inr ⟨rfl,rfl⟩)
   ·exact .inl rfl
   ·exact .inr (.inl rfl)
  | succ i=>
   simp at hu
   rcases Xh7 _ _ u (Qe hu) with h1|h1
   ·exact .inl h1
   ·exact .inr (.inl h1)
theorem Xv4(q j:Nat) : q/2^j/2=q/2^(j+1):=by rw [Nat.div_div_eq_div_mul,Nat.pow_succ]
theorem Xsq{b:Nat}(h:b<2) : (([72,83] : List UInt8).drop b).take (b+1-b)=[hsL b]:=by rcases lt2 h with rfl|rfl<;>rfl
theorem Xcc{tb:List UInt8}(h:FrmOk tb){k p:Nat}(hk:k<24)(hp:p<8) : frmB tb (k:Int) (p:Int)=true:=by
 rw [Xa6 (tb:=tb) fun j _ u hu=>by
  rcases h.at' j u hu with h1|h1|⟨h1,h2⟩
  ·rw [h1];unfold badF;simp
  ·rw [h1];unfold badF;simp
  ·rw [h1,h2];decide]
 exact Xgj h.len ⟨by omega,by omega⟩ ⟨by omega,by omega⟩
theorem Xco(s:List UInt8) : (tx s).toList=s:=by rw [ByteArray.toList_eq];rfl
theorem Xdi {P : Program} {w : World} {d : Nat} {xs ys : Array Value} {f : Field} {fs : List Field} {s s' : List UInt8} (hn : f.name ≠ "_") (hT : OneT P f.type) (hu : P.underlying f.type = some .string) (hx : xs[f.offset]? = some (.string (tx s))) (hy : ys[f.offset]? = some (.string (tx s')))
  {r:Bool} (h:s=s'→(Op.eqFields (d+1) xs ys fs).run P w=.ok r w) : (Op.eqFields (d+1) xs ys (f::fs)).run P w=.ok (decide (s=s')&&r) w:=by
 simp only [Op.eqFields,hn,ne_eq,not_false_eq_true,if_true,Sem.run_bind,X3y hT hx,X3y hT hy,Result.andThen_ok,run_equalIn_string _ _ _ _ _ hu,Xco]
 by_cases hs:s=s'
 ·subst hs
  simp [h rfl]
 ·simp [hs]
set_option maxRecDepth 4000 in
theorem Xjc(d:Nat)(s s':List UInt8)(k k' p p':Int)(w:World) : (Op.equalIn (d+2) 25 (.agg #[.string (tx s),.int .i64 k,.int .i64 p]) (.agg #[.string (tx s'),.int .i64 k',.int .i64 p'])).run Tryz.prog w=.ok (decide (s=s')&&(decide (k=k')&&(decide (p=p')&&true))) w:=by
 have hf:=X6l Tryz.underlying25;refine (run_equalIn_struct w (d+1) 25 _ _ (by rw [hf];exact Tryz.underlying25) (by kernel_rfl)).trans ?_
 rw [hf]
 refine Xdi (by decide) X2j Tryz.underlying9 rfl rfl fun _=>?_;refine X1o (by decide) X9 Tryz.underlying3 rfl rfl fun _=>?_;exact X1o (by decide) X9 Tryz.underlying3 rfl rfl fun _=>rfl
theorem X9d:Tryz.prog.eqGuardType Tryz.prog.depth 25=false:=by kernel_rfl
theorem Xdr {P : Program} {w : World} {d : Nat} {xs ys : Array Value} {f : Field} {fs : List Field} {s : List UInt8} (hn : f.name ≠ "_") (hT : OneT P f.type) (hu : P.underlying f.type = some .string) (hx : xs[f.offset]? = some (.string (tx s))) (hy : ys[f.offset]? = some (.string (tx s)))
  {r:Bool} (h:(Op.eqFields (d+1) xs ys fs).run P w=.ok r w) : (Op.eqFields (d+1) xs ys (f::fs)).run P w=.ok r w:=by
 simp only [Op.eqFields,hn,ne_eq,not_false_eq_true,if_true,Sem.run_bind,X3y hT hx,X3y hT hy,Result.andThen_ok,run_equalIn_string _ _ _ _ _ hu]
 simp [h]
theorem Xzu(d:Nat)(s:List UInt8)(k p:Int)(w:World) : (Op.equalIn (d+2) 25 (.agg #[.string (tx s),.int .i64 k,.int .i64 p]) (.agg #[.string (tx s),.int .i64 k,.int .i64 p])).run Tryz.prog w=.ok true w:=by
 have hf:=X6l Tryz.underlying25;refine (run_equalIn_struct w (d+1) 25 _ _ (by rw [hf];exact Tryz.underlying25) (by kernel_rfl)).trans ?_
 rw [hf]
 refine (show _=Result.ok (decide (k=k)&&(decide (p=p)&&true)) w from ?_).trans (by simp)
 refine Xdr (by decide) X2j Tryz.underlying9 rfl rfl ?_;refine X1o (by decide) X9 Tryz.underlying3 rfl rfl fun _=>?_;exact X1o (by decide) X9 Tryz.underlying3 rfl rfl fun _=>rfl
structure NfL (m:Mx) : Prop where
 a:NfA m
 b:(blochI m).isSome=true
 r:(opM (fmG (nfk m) (nfl m))).rows=m.rows
 c:(opM (fmG (nfk m) (nfl m))).cols=m.cols
 cs:(opM (fmG (nfk m) (nfl m))).cells.map (dTurn (nfp m:Int))=m.cells
 len:bexp ((blochI m).getD [])=((nfs m).length:Int)
 ll:bexp ((blochI m).getD [])=((nfl m).length:Int)
 op:opI ⟨1,fmW (nfk m) (nfl m) (nfp m)⟩=some m
structure RdL (c d:Cx) (M:Mx) : Prop where
 c1:cOk c=true
 c2:cOk d=true
 o1:opS c=some M
 o2:opS d=some M
 t:cT d.gs≤cT c.gs
 m:M.cells.length≤2305843009213693951
theorem Xz3(b:World)(Al:Option Addr)(cl:Nat)(l:List Dy)(aA:Rd b b.heap.size 53 encD Al l)(aD:l.length≤2305843009213693951)(bm:Nat)(Am:Option Addr)(cm:Nat)(m:List Dy)(aB:Rd b b.heap.size 53 encD Am m)(aC:Blk b bm 27 [.slice Am m.length cm]) : Ret Tryz.prog 103 [.slice Al l.length cl,.pointer (some ⟨bm,0,none⟩)] b (fun v w=>v=.bool (decide (l=m))∧Below b.heap.size b w):=by
 have aE:=aC.lt;refine enter Tryz.func103 rfl 7 rfl rfl ?_;intro a hf
 have hW:=bz b
 refine Zs hf fun _ aF=>?_;refine Za rfl<|Zx aF fun a hf _ aG=>?_;refine Zm rfl<|Ze (X0 rfl X0p (aC.at 0))<|Zf (Vc (Xvn _ Al cl l (aA.below' hW).top Am cm m (aB.below' hW).top aD) Xfn) ?_;rintro _ w1 ⟨rfl,hE⟩;have hW:=btr hW hE;refine Za rfl<|Zt aG fun a hf=>?_
 refine Q6 (X4 hf (Xx hf rfl rfl) ?_)
 exact ⟨rfl,hW⟩
theorem Xxp(f:World)(AL:Option Addr)(cL:Nat)(L:List Sd)(aD:Rd f f.heap.size 27 encSd AL L)(aK:DeepD f f.heap.size L)(aS:L.length≤1000)(k:FuncId)(p:List Value)(F:FuncF Tryz.prog k)(q:List Dy→Bool)(hq:∀ (s:Sd) (w:World),s ∈ L→Below f.heap.size f w→Rd w w.heap.size 53 encD s.A s.l→Ret Tryz.prog k ([.slice s.A s.l.length s.c]++p) w (fun v w'=>v=.bool (q s.l)∧Below w.heap.size w w')) : Ret Tryz.prog 134 [.slice AL L.length cL,.func (.func k) #[] p.toArray] f (fun v w=>∃ i:Int,v=vi i∧decide (0≤i)=L.any (fun s=>q s.l)∧Below f.heap.size f w):=by
 refine enter Tryz.func134 rfl 19 rfl rfl ?_;intro a b
 have m:=bz f
 refine Zs b fun _ aL=>?_;refine Za rfl<|ZX aL fun a b _ aM=>?_;refine Zs b fun _ aN=>?_;refine Zm rfl<|Ze (X2k rfl X1k)<|Zm rfl<|Zt aN fun a b=>?_;refine Q8<|X07 (σ:=Nat) (fun (j:Nat) (a:Act) (w:World)=>Fr a 19 [(0,.slice AL L.length cL),(1,.func (.func k) #[] p.toArray),(7,vi (L.length:Int)),(8,vi (j:Int))]∧(j≤L.length)∧((L.take j).all (fun s=>!q s.l)=true)∧Below f.heap.size f w) (fun (j:Nat)=>L.length-j) 0 ?_ ?_
 ·exact ⟨b.sb,(Qf _),(by simp),m⟩
 rintro j a w1 ⟨b,hj,o,m⟩;refine Zs b fun _ aO=>?_;refine Ze (X1h rfl rfl)<|ZX aO fun a b _ aP=>?_
 refine Xl b rfl (fun e=>?_) (fun e=>?_)
 ·have aE:=e;have e:=Q2 e
  obtain ⟨n,g⟩:=Xw (l:=L) (k:=j) (by omega)
  refine Q7<|aP _ _<|Q5 fun _ aQ=>?_;refine Q8<|Zs b fun _ aF=>?_;refine Zm rfl<|Za rfl<|Zx aF fun a b _ aG=>?_;refine Zm rfl<|Zm rfl<|Zm rfl<|Zi (k:=j) (u:=n) (enc:=encSd) (l:=L) trivial rfl rfl X1k X4a X1q (aD.below' m) g rfl ?_;intro aT aA
  have aH:Rd w1 f.heap.size 53 encD n.A n.l:=(aK n (Qe g)).below' m
  refine Ze (X0 rfl X0p aA)<|Zf (X64 (cs:=p) (vs:=[.slice n.A n.l.length n.c]) rfl rfl F (hq n _ (Qe g) m aH.top)) ?_;rintro _ w2 ⟨rfl,hE⟩;have m:=btr m hE;refine Zt aG fun a b=>?_
  refine Xl b rfl (fun d=>?_) (fun d=>?_)
  ·have aB:=d
   have aC:L.any (fun s=>q s.l)=true:=Xab g d
   refine Zs b fun _ aI=>?_;refine Zm rfl<|Za rfl<|Zt aI fun a b=>?_;refine Q6<|X05<|Xf<|Xf ?_;refine X05<|Xf<|X4 b (Xx b rfl rfl) ?_;exact ⟨_,rfl,by rw [aC];simp,m⟩
  have aB:=d
  have aR:(fun s:Sd=>!q s.l) n=true:=by show (!q n.l)=true;rw [d];rfl
  refine Q7<|Xn<|aQ _ _<|Zr b ?_;refine Ze (X03 rfl rfl (by omega) (by omega))<|Zm rfl ?_;refine Zn fun a b=>?_;refine Xo ?_;exact ⟨j+1,⟨b.sb,(by omega),(X66 o g aR),m⟩,(by omega)⟩
 have aE:=e;have e:=Q1 e;refine Q9<|Xm<|Xm<|X08 ?_;refine aM _ _<|Zs b fun _ aJ=>?_;refine Za rfl<|Zt aJ fun a b=>?_
 refine Q6 (X4 b (Xx b rfl rfl) ?_)
 have aC:L.any (fun s=>q s.l)=false:=X8e (X4m o (by omega))
 exact ⟨_,rfl,by rw [aC];rfl,m⟩
theorem Xxg(b:World)(AL:Option Addr)(cL:Nat)(L:List Sd)(aA:Rd b b.heap.size 27 encSd AL L)(aB:DeepD b b.heap.size L)(aC:L.length≤1000)(k:FuncId)(p:List Value)(F:FuncF Tryz.prog k)(q:List Dy→Bool)(hq:∀ (s:Sd) (w:World),s ∈ L→Below b.heap.size b w→Rd w w.heap.size 53 encD s.A s.l→Ret Tryz.prog k ([.slice s.A s.l.length s.c]++p) w (fun v w'=>v=.bool (q s.l)∧Below w.heap.size w w')) : Ret Tryz.prog 102 [.slice AL L.length cL,.func (.func k) #[] p.toArray] b (fun v w=>v=.bool (L.any (fun s=>q s.l))∧Below b.heap.size b w):=by
 refine enter Tryz.func102 rfl 9 rfl rfl ?_;intro a hf
 have hW:=bz b
 refine Zs hf fun _ aD=>?_;refine Za rfl<|Zx aD fun a hf _ aE=>?_;refine Zm rfl<|Zm rfl<|Zf (Vc (Xxp _ AL cL L (aA.below' hW).top (aB.below hW).top aC k p F q (fun u w1 hu aF aG=>hq u w1 hu (hW.trans (aF.mono hW.size)) aG)) Xpj) ?_;rintro _ w1 ⟨ix,rfl,aH,hE⟩;have hW:=btr hW hE;refine Ze (Xdd rfl rfl)<|Za rfl<|Zt aE fun a hf=>?_
 refine Q6 (X4 hf (Xx hf rfl rfl) ?_)
 exact ⟨by rw [← aH],hW⟩
theorem Xrb(M:World)(eZ:HalfT M) : Ret Tryz.prog 62 [] M (fun v w=>∃ (A:Option Addr) (c:Nat) (Bq:Option Addr) (d:Nat) (L:List Sd),v=.tuple #[.slice A (wsN 24).length c,.slice Bq L.length d]∧Own w M.heap.size 9 1 encTx A c (wsN 24)∧Own w M.heap.size 27 1 encSd Bq d L∧L.map Sd.l=lsN 24∧DeepD w w.heap.size L∧Below M.heap.size M w):=by
 refine enter Tryz.func62 rfl 80 rfl rfl ?_;intro a J
 have z:=bz M
 refine Zs J fun _ gD=>?_;refine Za rfl<|Za rfl<|Zx gD fun a J _ gE=>?_;refine Zf (Xb (k:=0) (vs:=[]) (zs:=[]) rfl X01 X13 rfl rfl) ?_;rintro _ w1 ⟨b5,rfl,gF,y,gG⟩;have f7:=Q0 z.size gF;have z:=btr z y;refine Za rfl<|ZX gE fun a J _ gI=>?_;refine Zs J fun _ gJ=>?_;refine Zm rfl<|Zt gJ fun a J=>?_;refine Q8<|X07 (σ:=Nat×(List Dy)) (fun (s:Nat×(List Dy)) (a:Act) (w:World)=>match s with|(k,l)=>∃ A9 c9,Fr a 80 [(2,.slice A9 l.length c9),(14,vi (k:Int))]∧(k≤9)∧(l=(List.range k).map uD)∧(l.length=k)∧Own w M.heap.size 53 5 encD A9 c9 l∧Below M.heap.size M w) (fun (s:Nat×(List Dy))=>match s with|(k,l)=>9-k) (0,[]) ?_ ?_
 ·exact ⟨some ⟨b5,0,none⟩,0,J.sb,(by omega),rfl,rfl,(Own.empty gG f7),z⟩
 rintro ⟨k,l⟩ a w2 ⟨A9,c9,J,hk,hl,gK,aG,z⟩;refine Zs J fun _ f8=>?_;refine Ze (X1h rfl rfl)<|ZX f8 fun a J _ f9=>?_
 refine Xl J rfl (fun aH=>?_) (fun aH=>?_)
 ·have Q:=aH;have aH:=Q2 aH
  have fA:k<9:=by have:=aH;omega
  refine Q7<|f9 _ _<|Q5 fun _ fB=>?_;refine Q8<|Zs J fun _ fC=>?_;refine Zm rfl<|Za rfl<|Zt fC fun a J=>?_;refine Zr J<|Zm rfl<|Zm rfl<|Ze (X67 rfl rfl rfl)<|Ze (X1b rfl rfl)<|Zf (Vc (F59 _ (((k:Int).tmod 4)==0)) Xdt) ?_;rintro _ _ ⟨rfl,rfl⟩;refine Zf (Vc (Xik _ (if (((k:Int).tmod 4)==0)=true then 1 else 0)) X87) ?_;rintro _ w3 ⟨rfl,y⟩;have aG:=aG.below y;have z:=btr z y;refine Zf (Xb (k:=1) (vs:=[.agg #[vi ((⟨⟨(if (((k:Int).tmod 4)==0)=true then 1 else 0),0,0,0⟩,0⟩ : Dy).num.a),vi ((⟨⟨(if (((k:Int).tmod 4)==0)=true then 1 else 0),0,0,0⟩,0⟩ : Dy).num.b),vi ((⟨⟨(if (((k:Int).tmod 4)==0)=true then 1 else 0),0,0,0⟩,0⟩ : Dy).num.c),vi ((⟨⟨(if (((k:Int).tmod 4)==0)=true then 1 else 0),0,0,0⟩,0⟩ : Dy).num.d),vi ((⟨⟨(if (((k:Int).tmod 4)==0)=true then 1 else 0),0,0,0⟩,0⟩ : Dy).exp)]]) (zs:=[vi ((⟨⟨(if (((k:Int).tmod 4)==0)=true then 1 else 0),0,0,0⟩,0⟩ : Dy).num.a),vi ((⟨⟨(if (((k:Int).tmod 4)==0)=true then 1 else 0),0,0,0⟩,0⟩ : Dy).num.b),vi ((⟨⟨(if (((k:Int).tmod 4)==0)=true then 1 else 0),0,0,0⟩,0⟩ : Dy).num.c),vi ((⟨⟨(if (((k:Int).tmod 4)==0)=true then 1 else 0),0,0,0⟩,0⟩ : Dy).num.d),vi ((⟨⟨(if (((k:Int).tmod 4)==0)=true then 1 else 0),0,0,0⟩,0⟩ : Dy).exp)]) rfl X01 X13 rfl rfl) ?_;rintro _ w4 ⟨j0,rfl,cX,y,cB⟩;have gL:=Q0 z.size cX;have cC:=aG.away cX;have aG:=aG.below y;have z:=btr z y;refine Zf (X0q (enc:=encD) (l:=(l)) (l2:=([(⟨⟨(if (((k:Int).tmod 4)==0)=true then 1 else 0),0,0,0⟩,0⟩ : Dy)])) (B0:=M.heap.size) rfl rfl X01 X13 X06 X2h aG (Rd.of_blk cB rfl _ cB.lt) (by simp only [maxLen];simp;omega) (by simp;omega) z.size) ?_;rintro _ w5 ⟨gM,gN,rfl,fD,B,D⟩
  have e:Own _ M.heap.size 53 5 encD _ _ (l):=aG
  have dU:=D _ cB.lt cC;clear D;have z:=Below.app z e B (Qb _) z.size;clear e B;refine Za rfl ?_;refine Zn fun a J=>?_;refine Xn<|fB _ _<|Zr J<|Ze (X03 rfl rfl (by omega) (by omega))<|Zm rfl ?_;refine Zn fun a J=>?_;refine Xo ?_;exact ⟨(k+1,l++[uD k]),⟨gM,gN,J.sb,(by omega),(by rw [hl];exact Xo5 k),(by simp;exact gK),fD,z⟩,(by first|omega|(dsimp only;omega))⟩
 have Q:=aH;have aH:=Q1 aH
 have fA:k=9:=by have:=aH;omega
 have gO:l=clB 0:=by rw [hl,fA];exact Xp4
 refine Q9<|Xm<|Xm<|X08 ?_;refine gI _ _<|Zs J fun _ fE=>?_;refine Zf (Xb (k:=1) (vs:=[.string (tx [])]) (zs:=[.string (tx [])]) rfl X0t X3q rfl rfl) ?_;rintro _ w6 ⟨gQ,rfl,fF,y,aO⟩;have dJ:=Q0 z.size fF;have aG:=aG.below y;have z:=btr z y;refine Zm rfl<|Zf (Xb (k:=1) (vs:=[.slice A9 l.length c9]) (zs:=[.slice A9 l.length c9]) rfl X1k X2a rfl rfl) ?_;rintro _ w7 ⟨gR,rfl,fG,y,aU⟩;have dK:=Q0 z.size fG;have aO:=aO.below y;have aG:=aG.below y;have z:=btr z y;refine Za rfl<|Za rfl<|Zx fE fun a J _ fH=>?_;refine Zf (Vc (Xr3 _ 1 0 (by decide) rfl (eZ.of z)) Xhr) ?_;rintro _ w8 ⟨aB,aC,rfl,g,y⟩;have g:=g.lower z.size;have aO:=aO.below y;have aU:=aU.below y;have aG:=aG.below y;have z:=btr z y;refine Ze (Xi6 (vs:=[.slice aB (clB (letR 0)).length aC]) rfl ⟨_,_,Tryz.underlying58,rfl,rfl,X0p⟩ rfl)<|Zf (Vc (Xr3 _ 5 1 (by decide) rfl (eZ.of z)) Xhr) ?_;rintro _ w9 ⟨aD,aE,rfl,p,y⟩;have p:=p.lower z.size;have aO:=aO.below y;have aU:=aU.below y;have aG:=aG.below y;have g:=g.below y;have z:=btr z y;refine Ze (Xi6 (vs:=[.slice aD (clB (letR 1)).length aE]) rfl ⟨_,_,Tryz.underlying58,rfl,rfl,X0p⟩ rfl)<|Za rfl<|Za rfl<|ZX fH fun a J _ fI=>?_;refine Zs J fun _ fJ=>?_;refine Za rfl<|Zt fJ fun a J=>?_;refine Q8 ?_
 have x:DeepD w9 w9.heap.size [(⟨A9,c9,l⟩ : Sd)]:=DeepD.snoc (DeepD.nil _ _) (s:=(⟨A9,c9,l⟩ : Sd)) aG.rd.top
 refine X07 (σ:=Nat×(List ByteArray)×(List Sd)) (fun (s:Nat×(List ByteArray)×(List Sd)) (a:Act) (w:World)=>match s with|(n,ws,L)=>∃ cD cE cF cG,Fr a 80 [(4,.slice cD ws.length cE),(5,.slice cF L.length cG),(6,.slice aB (clB (letR 0)).length aC),(7,.slice aD (clB (letR 1)).length aE),(8,vi (n:Int))]∧(n≤24)∧(ws=wsN (ctI n 0))∧(L.map Sd.l=lsN (ctI n 0))∧Own w M.heap.size 9 1 encTx cD cE ws∧Own w M.heap.size 27 1 encSd cF cG L∧Own w M.heap.size 53 5 encD aB aC (clB (letR 0))∧Own w M.heap.size 53 5 encD aD aE (clB (letR 1))∧DeepD w w.heap.size L∧Below M.heap.size M w) (fun (s:Nat×(List ByteArray)×(List Sd))=>match s with|(n,ws,L)=>24-n) (0,[tx []],[(⟨A9,c9,l⟩ : Sd)]) ?_ ?_
 ·exact ⟨some ⟨gQ,0,none⟩,1,some ⟨gR,0,none⟩,1,J.sb,(by omega),rfl,(by show [l]=[clB 0];rw [gO]),(Own.of_blkL X10 aO dJ rfl rfl (by decide)),(Own.of_blkL X1q aU dK rfl rfl (by decide)),g,p,x,z⟩
 rintro ⟨n,ws,L⟩ a j1 ⟨cD,cE,cF,cG,J,hn,hw,hL,aW,aX,g,p,x,z⟩;refine Q5 fun _ fK=>?_;refine Zs J fun _ fL=>?_;refine Zm rfl<|Zm rfl<|Ze (X2k rfl X0t)<|Ze (X1h rfl rfl)<|Zt fL fun a J=>?_
 refine Xl J rfl (fun aI=>?_) (fun aI=>?_)
 ·have U:=aI;have aI:=Q2 aI
  obtain ⟨j4,iW⟩:=Xw (l:=ws) (k:=n) (by omega)
  have aY:n<24:=by
   have h9:=aI
   rw [hw,X4f] at h9
   by_cases e9:n=24
   ·exfalso;rw [e9] at h9;exact absurd h9 (by decide)
   ·omega
  refine Q7<|fK _ _<|Q5 fun _ fM=>?_;refine Q8<|Zs J fun _ fN=>?_;refine Zm rfl<|Zm rfl<|Zf (Xb (k:=2) (vs:=[.slice aB (clB (letR 0)).length aC,.slice aD (clB (letR 1)).length aE]) (zs:=[.slice aB (clB (letR 0)).length aC,.slice aD (clB (letR 1)).length aE]) rfl X1k X2a rfl rfl) ?_;rintro _ j5 ⟨aK,rfl,d5,y,f⟩;have gU:=Q0 z.size d5;have b8:=aX.away d5;have aW:=aW.below y;have aX:=aX.below y;have g:=g.below y;have p:=p.below y;have x:=(x.below y).top;have z:=btr z y;refine Ze (X2k rfl X1k)<|Zm rfl<|Zt fN fun a J=>?_;refine Q8<|X07 (σ:=Nat×(List ByteArray)×(List Sd)) (fun (s:Nat×(List ByteArray)×(List Sd)) (a:Act) (w:World)=>match s with|(i,N,L2)=>∃ cH cJ b7 b9,Fr a 80 [(4,.slice cH N.length cJ),(5,.slice b7 L2.length b9),(6,.slice aB (clB (letR 0)).length aC),(7,.slice aD (clB (letR 1)).length aE),(8,vi (n:Int)),(41,.slice (some ⟨aK,0,none⟩) ([(⟨aB,aC,(clB (letR 0))⟩ : Sd),(⟨aD,aE,(clB (letR 1))⟩ : Sd)]).length 2),(42,vi (([(⟨aB,aC,(clB (letR 0))⟩ : Sd),(⟨aD,aE,(clB (letR 1))⟩ : Sd)]).length:Int)),(43,vi (i:Int))]∧(i≤2)∧(N=wsN (ctI n i))∧(L2.map Sd.l=lsN (ctI n i))∧Blk w aK 27 [.slice aB (clB (letR 0)).length aC,.slice aD (clB (letR 1)).length aE]∧Own w M.heap.size 9 1 encTx cH cJ N∧Own w M.heap.size 27 1 encSd b7 b9 L2∧Own w M.heap.size 53 5 encD aB aC (clB (letR 0))∧Own w M.heap.size 53 5 encD aD aE (clB (letR 1))∧DeepD w w.heap.size L2∧Away b7 aK∧Below M.heap.size M w) (fun (s:Nat×(List ByteArray)×(List Sd))=>match s with|(i,N,L2)=>2-i) (0,ws,L) ?_ ?_
  ·exact ⟨cD,cE,cF,cG,J.sb,(by omega),hw,hL,f,aW,aX,g,p,x,b8,z⟩
  rintro ⟨i,N,L2⟩ a gX ⟨cH,cJ,b7,b9,J,hi,cK,aT,f,C,t,g,p,x,E,z⟩;refine Zs J fun _ fO=>?_;refine Ze (X1h rfl rfl)<|ZX fO fun a J _ fP=>?_
  refine Xl J rfl (fun aJ=>?_) (fun aJ=>?_)
  ·have W:=aJ;have aJ:=Q2 aJ
   obtain ⟨j6,iX⟩:=Xw (l:=([(⟨aB,aC,(clB (letR 0))⟩ : Sd),(⟨aD,aE,(clB (letR 1))⟩ : Sd)])) (k:=i) (by omega)
   have cM:i<2:=by have h9:=aJ;simp at h9;omega
   obtain ⟨u6,dL⟩:=Xw (l:=[(⟨aB,aC,(clB (letR 0))⟩ : Sd),(⟨aD,aE,(clB (letR 1))⟩ : Sd)]) (k:=i) (by simp;omega)
   have d6:=Xwk dL rfl rfl;have bC:=Xys aY cM
   obtain ⟨u5,dM⟩:=Xw (l:=L2) (k:=n) (by rw [X7g aT];exact bC.lt)
   have d7:=Xi1 aT dM
   have hH:mulBI u6.l u5.l=some (clB (nx n (letC i))):=by rw [d6,d7];exact Xof aY cM
   have fQ:=(Xmi aY).lt (letC i);have dN:=bC.le;have fR:=X7g aT
   have iY:N.length=ctI n i:=by rw [cK,X4f]
   refine Q7<|fP _ _<|Q5 fun _ d8=>?_;refine Q8<|Zs J fun _ fS=>?_;refine Zm rfl<|Zi (k:=i) (u:=u6) (enc:=encSd) (l:=[(⟨aB,aC,(clB (letR 0))⟩ : Sd),(⟨aD,aE,(clB (letR 1))⟩ : Sd)]) trivial rfl rfl X1k X4a X1q (Rd.of_blk f rfl _ f.lt) dL rfl ?_;intro j7 dP;have fT:=Xvw dL g.rd.top p.rd.top;refine Ze (X0 rfl X0p dP)<|Za rfl<|Za rfl<|Zx fS fun a J _ fU=>?_;refine Zm rfl<|Zm rfl<|Zm rfl<|Zi (k:=n) (u:=u5) (enc:=encSd) (l:=L2) trivial rfl rfl X1k X4a X1q t.rd dM rfl ?_;intro j8 dQ;have fV:=(x u5 (Qe dM)).top;refine Ze (X0 rfl X0p dQ)<|Zf (X1d (vs:=[.slice u6.A u6.l.length u6.c,.slice u5.A u5.l.length u5.c]) rfl Xcb (by have hq:=Xja gX u6.A u6.c u6.l fT.top u5.A u5.c u5.l fV.top (by rw [d6];exact X6e (Xpu i)) (by rw [d7];exact X6e aY);rw [hH,Qq,Option.isSome_some] at hq;exact hq)) ?_;rintro _ j9 ⟨H,I,rfl,q,y⟩;have q:=q.lower z.size;have f:=f.below y;have C:=C.below y;have t:=t.below y;have g:=g.below y;have p:=p.below y;have x:=(x.below y).top;have z:=btr z y;refine Zm rfl<|Ze (X1 (vs:=[.slice H (clB (nx n (letC i))).length I,.bool true]) rfl rfl)<|Ze (X1 (vs:=[.slice H (clB (nx n (letC i))).length I,.bool true]) rfl rfl)<|Zf (X3 (zs:=[.slice none 0 0]) Xyn rfl) ?_;rintro _ jA ⟨b55,rfl,d9,y,o⟩
   have dW:aK≠b55:=by have:=f.lt;omega
   have dR:=Q0 z.size d9;have G:=t.away d9;have f:=f.below y;have C:=C.below y;have t:=t.below y;have g:=g.below y;have p:=p.below y;have q:=q.below y;have x:=(x.below y).top;have z:=btr z y;refine Zo (Vw [.slice H (clB (nx n (letC i))).length I] X4a o) ?_;rintro _ jB ⟨ho,hb⟩;have aZ:=o;have f:=f.only ho (by omega);have C:=C.onlyT ho aZ rfl;have t:=t.onlyA ho G;have g:=g.onlyT ho aZ rfl;have p:=p.onlyT ho aZ rfl;have q:=q.onlyT ho aZ rfl;have x:=(x.onlyT ho aZ rfl).top;have z:=Below.only z ho dR;have o:=hb;refine Za rfl<|Zx fU fun a J _ fW=>?_;refine Zm rfl<|Ze (X3z (vs:=[.pointer (some ⟨b55,0,none⟩)]) rfl)<|Zf (Vc (Xxg _ b7 b9 L2 t.rd.top x.top (by rw [fR];omega) 103 [.pointer (some ⟨b55,0,none⟩)] Xpx (fun l=>decide (l=(clB (nx n (letC i))))) (fun u w1 hu fX hJ=>Xz3 w1 u.A u.c u.l hJ (Xu1 aT dN hu) b55 H I (clB (nx n (letC i))) ((q.rd.top).below fX).top (o.below fX))) Xqd) ?_;rintro _ jC ⟨rfl,y⟩;have f:=f.below y;have o:=o.below y;have C:=C.below y;have t:=t.below y;have g:=g.below y;have p:=p.below y;have q:=q.below y;have x:=(x.below y).top;have z:=btr z y;refine Ze (X0o rfl)<|Zt fW fun a J=>?_
   refine Xl J rfl (fun b0=>?_) (fun b0=>?_)
   ·have aA:=b0
    have fY:nx n (letC i)=ctI n i:=by have h9:=b0;rw [Xfy aT dN fQ] at h9;have:=bC.nx;simp at h9;omega
    have dS:=bC.new fY
    have iZ:ctI n i<24:=by omega
    refine X02 (fun a w=>∃ bD bE b1 bF,Fr a 80 [(4,.slice bD (N++([tx ((cw n)++([letC i]))])).length bE),(5,.slice b1 (L2++([(⟨H,I,(clB (nx n (letC i)))⟩ : Sd)])).length bF),(6,.slice aB (clB (letR 0)).length aC),(7,.slice aD (clB (letR 1)).length aE),(8,vi (n:Int)),(41,.slice (some ⟨aK,0,none⟩) ([(⟨aB,aC,(clB (letR 0))⟩ : Sd),(⟨aD,aE,(clB (letR 1))⟩ : Sd)]).length 2),(42,vi (([(⟨aB,aC,(clB (letR 0))⟩ : Sd),(⟨aD,aE,(clB (letR 1))⟩ : Sd)]).length:Int)),(43,vi (i:Int))]∧Own w M.heap.size 9 1 encTx bD bE (N++([tx ((cw n)++([letC i]))]))∧Own w M.heap.size 27 1 encSd b1 bF (L2++([(⟨H,I,(clB (nx n (letC i)))⟩ : Sd)]))∧Away b1 aK∧Away b1 b55∧Blk w aK 27 [.slice aB (clB (letR 0)).length aC,.slice aD (clB (letR 1)).length aE]∧Blk w b55 27 [.slice H (clB (nx n (letC i))).length I]∧Own w M.heap.size 53 5 encD aB aC (clB (letR 0))∧Own w M.heap.size 53 5 encD aD aE (clB (letR 1))∧Own w M.heap.size 53 5 encD H I (clB (nx n (letC i)))∧DeepD w w.heap.size (L2++([(⟨H,I,(clB (nx n (letC i)))⟩ : Sd)]))∧Below M.heap.size M w) ?_ ?_
    ·refine Xz none (fun j=>[11,15].contains j) mixed ?_;intro jD y;have f:=f.below y;have o:=o.below y;have C:=C.below y;have t:=t.below y;have g:=g.below y;have p:=p.below y;have q:=q.below y;have x:=(x.below y).top;have z:=btr z y;refine Yb J<|Yo 0 rfl (fun _=>X7 rfl)<|Yo 1 rfl (fun _=>X7 rfl)<|Yo 2 rfl (fun _=>X7 rfl)<|Yi (k:=n) (u:=tx (cw n)) (enc:=encTx) (l:=N) 3 rfl trivial rfl rfl X0t X5l X10 C.rd (by rw [cK];exact Xdl bC.lt) rfl ?_;intro jE dT;refine Ye 4 rfl (X0 rfl X2j dT)<|Yo 5 rfl (fun _=>X7 rfl)<|Yo 6 rfl (fun _=>X7 rfl)<|Yo 7 rfl (fun _=>X03 rfl rfl (by omega) (by omega))<|Yo 8 rfl (fun _=>Xh6 (s:=[72,83]) (r:=[letC i]) (k:=i) (m:=(i+1)) rfl rfl rfl Tryz.underlying9 rfl rfl (Nat.le_succ _) (by simp;omega) (Xnz cM))<|Yo 9 rfl (fun _=>X3m (s:=(cw n)) (r:=([letC i])) rfl rfl (by have:=(X6t aY).2;simp;omega))<|Yo 12 rfl (fun _=>X7 rfl) ?_;refine Y2 10 13 ?_ ?_
     ·refine Yk rfl trivial (Xb (k:=1) (vs:=[.string (tx ((cw n)++([letC i])))]) (zs:=[.string (tx ((cw n)++([letC i])))]) rfl X0t X3q rfl rfl) (fun _ _ ⟨_,_,_,h,_⟩=>h) ?_;rintro _ jF ⟨jG,rfl,dA,y,aF⟩;have hP:=Q0 z.size dA;have aL:=C.away dA;have f:=f.below y;have o:=o.below y;have C:=C.below y;have t:=t.below y;have g:=g.below y;have p:=p.below y;have q:=q.below y;have x:=(x.below y).top;have z:=btr z y;refine Y2 11 13 ?_ ?_
      ·refine Yt rfl trivial rfl (X0q (enc:=encTx) (l:=(N)) (l2:=([tx ((cw n)++([letC i]))])) (B0:=M.heap.size) rfl rfl X0t X3q X10 X2z C (Rd.of_blk aF rfl _ aF.lt) (by simp only [maxLen];simp;omega) (by simp;omega) z.size) ?_;rintro _ jH ⟨bD,bE,rfl,aP,B,D⟩
       have e:Own _ M.heap.size 9 1 encTx _ _ (N):=C
       have dX:=D _ aF.lt aL;clear D;have f:=f.appT e B rfl;have o:=o.appT e B rfl;have t:=t.appT e B rfl;have g:=g.appT e B rfl;have p:=p.appT e B rfl;have q:=q.appT e B rfl;have x:=(x.appT e B rfl).top;have z:=Below.app z e B (Qb _) z.size;clear e B;refine Y1 13<|Yz rfl trivial (Uev (X0 rfl X0p (o.at 0))) ?_;refine Y1 14<|Yk rfl trivial (Xb (k:=1) (vs:=[.slice H (clB (nx n (letC i))).length I]) (zs:=[.slice H (clB (nx n (letC i))).length I]) rfl X1k X2a rfl rfl) (fun _ _ ⟨_,_,_,h,_⟩=>h) ?_;rintro _ jI ⟨b63,rfl,dB,y,cO⟩
       have dY:aK≠b63:=by have:=f.lt;omega
       have e7:b55≠b63:=by have:=o.lt;omega
       have i0:=Q0 z.size dB;have bG:=t.away dB;have f:=f.below y;have o:=o.below y;have t:=t.below y;have g:=g.below y;have p:=p.below y;have q:=q.below y;have aP:=aP.below y;have x:=(x.below y).top;have z:=btr z y;refine Y1 15<|Yt rfl trivial rfl (X0q (enc:=encSd) (l:=(L2)) (l2:=([(⟨H,I,(clB (nx n (letC i)))⟩ : Sd)])) (B0:=M.heap.size) rfl rfl X1k X2a X1q X3h t (Rd.of_blk cO rfl _ cO.lt) (by simp only [maxLen];simp;omega) (by simp;omega) z.size) ?_;rintro _ jJ ⟨b1,bF,rfl,cP,B,D⟩
       have e:Own _ M.heap.size 27 1 encSd _ _ (L2):=t
       have aM:=D _ f.lt E;have aR:=D _ o.lt G;have e8:=D _ cO.lt bG;clear D;have f:=f.appA B E;have o:=o.appA B G;have g:=g.appT e B rfl;have p:=p.appT e B rfl;have q:=q.appT e B rfl;have aP:=aP.appT e B rfl;have x:=(x.appT e B rfl).top;have z:=Below.app z e B (Qb _) z.size;clear e B
       have x:=DeepD.snoc (s:=(⟨H,I,(clB (nx n (letC i)))⟩ : Sd)) x.top q.rd.top
       refine Yo 16 rfl (fun _=>X0i rfl)<|Yo 17 rfl (fun _=>X0i rfl) ?_;refine Yd fun a J=>?_;exact ⟨bD,bE,b1,bF,J.sb,aP,cP,aM,aR,f,o,g,p,q,x,z⟩
      refine Yz rfl trivial (Uev (X0 rfl X0p (o.at 0))) ?_;refine Y2 11 14 ?_ ?_
      ·refine Yt rfl trivial rfl (X0q (enc:=encTx) (l:=(N)) (l2:=([tx ((cw n)++([letC i]))])) (B0:=M.heap.size) rfl rfl X0t X3q X10 X2z C (Rd.of_blk aF rfl _ aF.lt) (by simp only [maxLen];simp;omega) (by simp;omega) z.size) ?_;rintro _ jK ⟨i1,i3,rfl,b2,B,D⟩
       have e:Own _ M.heap.size 9 1 encTx _ _ (N):=C
       have eA:=D _ aF.lt aL;clear D;have f:=f.appT e B rfl;have o:=o.appT e B rfl;have t:=t.appT e B rfl;have g:=g.appT e B rfl;have p:=p.appT e B rfl;have q:=q.appT e B rfl;have x:=(x.appT e B rfl).top;have z:=Below.app z e B (Qb _) z.size;clear e B;refine Y1 14<|Yk rfl trivial (Xb (k:=1) (vs:=[.slice H (clB (nx n (letC i))).length I]) (zs:=[.slice H (clB (nx n (letC i))).length I]) rfl X1k X2a rfl rfl) (fun _ _ ⟨_,_,_,h,_⟩=>h) ?_;rintro _ jL ⟨b67,rfl,dC,y,cQ⟩
       have eB:aK≠b67:=by have:=f.lt;omega
       have eC:b55≠b67:=by have:=o.lt;omega
       have i4:=Q0 z.size dC;have bH:=t.away dC;have f:=f.below y;have o:=o.below y;have t:=t.below y;have g:=g.below y;have p:=p.below y;have q:=q.below y;have b2:=b2.below y;have x:=(x.below y).top;have z:=btr z y;refine Y1 15<|Yt rfl trivial rfl (X0q (enc:=encSd) (l:=(L2)) (l2:=([(⟨H,I,(clB (nx n (letC i)))⟩ : Sd)])) (B0:=M.heap.size) rfl rfl X1k X2a X1q X3h t (Rd.of_blk cQ rfl _ cQ.lt) (by simp only [maxLen];simp;omega) (by simp;omega) z.size) ?_;rintro _ jM ⟨i5,i6,rfl,fZ,B,D⟩
       have e:Own _ M.heap.size 27 1 encSd _ _ (L2):=t
       have bI:=D _ f.lt E;have bJ:=D _ o.lt G;have eD:=D _ cQ.lt bH;clear D;have f:=f.appA B E;have o:=o.appA B G;have g:=g.appT e B rfl;have p:=p.appT e B rfl;have q:=q.appT e B rfl;have b2:=b2.appT e B rfl;have x:=(x.appT e B rfl).top;have z:=Below.app z e B (Qb _) z.size;clear e B
       have x:=DeepD.snoc (s:=(⟨H,I,(clB (nx n (letC i)))⟩ : Sd)) x.top q.rd.top
       refine Yo 16 rfl (fun _=>X0i rfl)<|Yo 17 rfl (fun _=>X0i rfl) ?_;refine Yd fun a J=>?_;exact ⟨i1,i3,i5,i6,J.sub ⟨(by first|rfl|(simp [look,Q,U,W,aA])),(by first|rfl|(simp [look,Q,U,W,aA])),rfl,rfl,rfl,rfl,rfl,rfl,trivial⟩,b2,fZ,bI,bJ,f,o,g,p,q,x,z⟩
      refine Yk rfl trivial (Xb (k:=1) (vs:=[.slice H (clB (nx n (letC i))).length I]) (zs:=[.slice H (clB (nx n (letC i))).length I]) rfl X1k X2a rfl rfl) (fun _ _ ⟨_,_,_,h,_⟩=>h) ?_;rintro _ jN ⟨b70,rfl,dD,y,b3⟩
      have eE:aK≠b70:=by have:=f.lt;omega
      have eF:b55≠b70:=by have:=o.lt;omega
      have i7:=Q0 z.size dD;have bK:=t.away dD;have f:=f.below y;have o:=o.below y;have aF:=aF.below y;have C:=C.below y;have t:=t.below y;have g:=g.below y;have p:=p.below y;have q:=q.below y;have x:=(x.below y).top;have z:=btr z y;refine Y1 11<|Yt rfl trivial rfl (X0q (enc:=encTx) (l:=(N)) (l2:=([tx ((cw n)++([letC i]))])) (B0:=M.heap.size) rfl rfl X0t X3q X10 X2z C (Rd.of_blk aF rfl _ aF.lt) (by simp only [maxLen];simp;omega) (by simp;omega) z.size) ?_;rintro _ jO ⟨i8,i9,rfl,cR,B,D⟩
      have e:Own _ M.heap.size 9 1 encTx _ _ (N):=C
      have eH:=D _ aF.lt aL;clear D;have f:=f.appT e B rfl;have o:=o.appT e B rfl;have b3:=b3.appT e B rfl;have t:=t.appT e B rfl;have g:=g.appT e B rfl;have p:=p.appT e B rfl;have q:=q.appT e B rfl;have x:=(x.appT e B rfl).top;have z:=Below.app z e B (Qb _) z.size;clear e B;refine Y1 15<|Yt rfl trivial rfl (X0q (enc:=encSd) (l:=(L2)) (l2:=([(⟨H,I,(clB (nx n (letC i)))⟩ : Sd)])) (B0:=M.heap.size) rfl rfl X1k X2a X1q X3h t (Rd.of_blk b3 rfl _ b3.lt) (by simp only [maxLen];simp;omega) (by simp;omega) z.size) ?_;rintro _ jP ⟨iA,iB,rfl,g7,B,D⟩
      have e:Own _ M.heap.size 27 1 encSd _ _ (L2):=t
      have bL:=D _ f.lt E;have bM:=D _ o.lt G;have eI:=D _ b3.lt bK;clear D;have f:=f.appA B E;have o:=o.appA B G;have g:=g.appT e B rfl;have p:=p.appT e B rfl;have q:=q.appT e B rfl;have cR:=cR.appT e B rfl;have x:=(x.appT e B rfl).top;have z:=Below.app z e B (Qb _) z.size;clear e B
      have x:=DeepD.snoc (s:=(⟨H,I,(clB (nx n (letC i)))⟩ : Sd)) x.top q.rd.top
      refine Yo 16 rfl (fun _=>X0i rfl)<|Yo 17 rfl (fun _=>X0i rfl) ?_;refine Yd fun a J=>?_;exact ⟨i8,i9,iA,iB,J.sub ⟨(by first|rfl|(simp [look,Q,U,W,aA])),(by first|rfl|(simp [look,Q,U,W,aA])),rfl,rfl,rfl,rfl,rfl,rfl,trivial⟩,cR,g7,bL,bM,f,o,g,p,q,x,z⟩
     refine Yz rfl trivial (Uev (X0 rfl X0p (o.at 0))) ?_;refine Y2 10 14 ?_ ?_
     ·refine Yk rfl trivial (Xb (k:=1) (vs:=[.string (tx ((cw n)++([letC i])))]) (zs:=[.string (tx ((cw n)++([letC i])))]) rfl X0t X3q rfl rfl) (fun _ _ ⟨_,_,_,h,_⟩=>h) ?_;rintro _ jQ ⟨jR,rfl,dE,y,aN⟩;have iC:=Q0 z.size dE;have aS:=C.away dE;have f:=f.below y;have o:=o.below y;have C:=C.below y;have t:=t.below y;have g:=g.below y;have p:=p.below y;have q:=q.below y;have x:=(x.below y).top;have z:=btr z y;refine Y2 11 14 ?_ ?_
      ·refine Yt rfl trivial rfl (X0q (enc:=encTx) (l:=(N)) (l2:=([tx ((cw n)++([letC i]))])) (B0:=M.heap.size) rfl rfl X0t X3q X10 X2z C (Rd.of_blk aN rfl _ aN.lt) (by simp only [maxLen];simp;omega) (by simp;omega) z.size) ?_;rintro _ jS ⟨iD,iE,rfl,b4,B,D⟩
       have e:Own _ M.heap.size 9 1 encTx _ _ (N):=C
       have eJ:=D _ aN.lt aS;clear D;have f:=f.appT e B rfl;have o:=o.appT e B rfl;have t:=t.appT e B rfl;have g:=g.appT e B rfl;have p:=p.appT e B rfl;have q:=q.appT e B rfl;have x:=(x.appT e B rfl).top;have z:=Below.app z e B (Qb _) z.size;clear e B;refine Y1 14<|Yk rfl trivial (Xb (k:=1) (vs:=[.slice H (clB (nx n (letC i))).length I]) (zs:=[.slice H (clB (nx n (letC i))).length I]) rfl X1k X2a rfl rfl) (fun _ _ ⟨_,_,_,h,_⟩=>h) ?_;rintro _ jT ⟨b77,rfl,dF,y,cS⟩
       have eK:aK≠b77:=by have:=f.lt;omega
       have eM:b55≠b77:=by have:=o.lt;omega
       have iF:=Q0 z.size dF;have bN:=t.away dF;have f:=f.below y;have o:=o.below y;have t:=t.below y;have g:=g.below y;have p:=p.below y;have q:=q.below y;have b4:=b4.below y;have x:=(x.below y).top;have z:=btr z y;refine Y1 15<|Yt rfl trivial rfl (X0q (enc:=encSd) (l:=(L2)) (l2:=([(⟨H,I,(clB (nx n (letC i)))⟩ : Sd)])) (B0:=M.heap.size) rfl rfl X1k X2a X1q X3h t (Rd.of_blk cS rfl _ cS.lt) (by simp only [maxLen];simp;omega) (by simp;omega) z.size) ?_;rintro _ jU ⟨iG,iH,rfl,g8,B,D⟩
       have e:Own _ M.heap.size 27 1 encSd _ _ (L2):=t
       have bO:=D _ f.lt E;have bP:=D _ o.lt G;have eO:=D _ cS.lt bN;clear D;have f:=f.appA B E;have o:=o.appA B G;have g:=g.appT e B rfl;have p:=p.appT e B rfl;have q:=q.appT e B rfl;have b4:=b4.appT e B rfl;have x:=(x.appT e B rfl).top;have z:=Below.app z e B (Qb _) z.size;clear e B
       have x:=DeepD.snoc (s:=(⟨H,I,(clB (nx n (letC i)))⟩ : Sd)) x.top q.rd.top
       refine Yo 16 rfl (fun _=>X0i rfl)<|Yo 17 rfl (fun _=>X0i rfl) ?_;refine Yd fun a J=>?_;exact ⟨iD,iE,iG,iH,J.sub ⟨(by first|rfl|(simp [look,Q,U,W,aA])),(by first|rfl|(simp [look,Q,U,W,aA])),rfl,rfl,rfl,rfl,rfl,rfl,trivial⟩,b4,g8,bO,bP,f,o,g,p,q,x,z⟩
      refine Yk rfl trivial (Xb (k:=1) (vs:=[.slice H (clB (nx n (letC i))).length I]) (zs:=[.slice H (clB (nx n (letC i))).length I]) rfl X1k X2a rfl rfl) (fun _ _ ⟨_,_,_,h,_⟩=>h) ?_;rintro _ jV ⟨b80,rfl,dG,y,b6⟩
      have eP:aK≠b80:=by have:=f.lt;omega
      have eQ:b55≠b80:=by have:=o.lt;omega
      have iI:=Q0 z.size dG;have bQ:=t.away dG;have f:=f.below y;have o:=o.below y;have aN:=aN.below y;have C:=C.below y;have t:=t.below y;have g:=g.below y;have p:=p.below y;have q:=q.below y;have x:=(x.below y).top;have z:=btr z y;refine Y1 11<|Yt rfl trivial rfl (X0q (enc:=encTx) (l:=(N)) (l2:=([tx ((cw n)++([letC i]))])) (B0:=M.heap.size) rfl rfl X0t X3q X10 X2z C (Rd.of_blk aN rfl _ aN.lt) (by simp only [maxLen];simp;omega) (by simp;omega) z.size) ?_;rintro _ jW ⟨iJ,iK,rfl,cU,B,D⟩
      have e:Own _ M.heap.size 9 1 encTx _ _ (N):=C
      have eR:=D _ aN.lt aS;clear D;have f:=f.appT e B rfl;have o:=o.appT e B rfl;have b6:=b6.appT e B rfl;have t:=t.appT e B rfl;have g:=g.appT e B rfl;have p:=p.appT e B rfl;have q:=q.appT e B rfl;have x:=(x.appT e B rfl).top;have z:=Below.app z e B (Qb _) z.size;clear e B;refine Y1 15<|Yt rfl trivial rfl (X0q (enc:=encSd) (l:=(L2)) (l2:=([(⟨H,I,(clB (nx n (letC i)))⟩ : Sd)])) (B0:=M.heap.size) rfl rfl X1k X2a X1q X3h t (Rd.of_blk b6 rfl _ b6.lt) (by simp only [maxLen];simp;omega) (by simp;omega) z.size) ?_;rintro _ jX ⟨iM,iN,rfl,g9,B,D⟩
      have e:Own _ M.heap.size 27 1 encSd _ _ (L2):=t
      have bR:=D _ f.lt E;have bS:=D _ o.lt G;have eT:=D _ b6.lt bQ;clear D;have f:=f.appA B E;have o:=o.appA B G;have g:=g.appT e B rfl;have p:=p.appT e B rfl;have q:=q.appT e B rfl;have cU:=cU.appT e B rfl;have x:=(x.appT e B rfl).top;have z:=Below.app z e B (Qb _) z.size;clear e B
      have x:=DeepD.snoc (s:=(⟨H,I,(clB (nx n (letC i)))⟩ : Sd)) x.top q.rd.top
      refine Yo 16 rfl (fun _=>X0i rfl)<|Yo 17 rfl (fun _=>X0i rfl) ?_;refine Yd fun a J=>?_;exact ⟨iJ,iK,iM,iN,J.sub ⟨(by first|rfl|(simp [look,Q,U,W,aA])),(by first|rfl|(simp [look,Q,U,W,aA])),rfl,rfl,rfl,rfl,rfl,rfl,trivial⟩,cU,g9,bR,bS,f,o,g,p,q,x,z⟩
     refine Yk rfl trivial (Xb (k:=1) (vs:=[.slice H (clB (nx n (letC i))).length I]) (zs:=[.slice H (clB (nx n (letC i))).length I]) rfl X1k X2a rfl rfl) (fun _ _ ⟨_,_,_,h,_⟩=>h) ?_;rintro _ jY ⟨b84,rfl,dH,y,aQ⟩
     have eU:aK≠b84:=by have:=f.lt;omega
     have eV:b55≠b84:=by have:=o.lt;omega
     have iO:=Q0 z.size dH;have bU:=t.away dH;have f:=f.below y;have o:=o.below y;have C:=C.below y;have t:=t.below y;have g:=g.below y;have p:=p.below y;have q:=q.below y;have x:=(x.below y).top;have z:=btr z y;refine Y1 10<|Yk rfl trivial (Xb (k:=1) (vs:=[.string (tx ((cw n)++([letC i])))]) (zs:=[.string (tx ((cw n)++([letC i])))]) rfl X0t X3q rfl rfl) (fun _ _ ⟨_,_,_,h,_⟩=>h) ?_;rintro _ jZ ⟨k5,rfl,dI,y,cV⟩;have iP:=Q0 z.size dI;have bW:=C.away dI;have f:=f.below y;have o:=o.below y;have aQ:=aQ.below y;have C:=C.below y;have t:=t.below y;have g:=g.below y;have p:=p.below y;have q:=q.below y;have x:=(x.below y).top;have z:=btr z y;refine Y1 11<|Yt rfl trivial rfl (X0q (enc:=encTx) (l:=(N)) (l2:=([tx ((cw n)++([letC i]))])) (B0:=M.heap.size) rfl rfl X0t X3q X10 X2z C (Rd.of_blk cV rfl _ cV.lt) (by simp only [maxLen];simp;omega) (by simp;omega) z.size) ?_;rintro _ k6 ⟨iQ,iS,rfl,cW,B,D⟩
     have e:Own _ M.heap.size 9 1 encTx _ _ (N):=C
     have eX:=D _ cV.lt bW;clear D;have f:=f.appT e B rfl;have o:=o.appT e B rfl;have aQ:=aQ.appT e B rfl;have t:=t.appT e B rfl;have g:=g.appT e B rfl;have p:=p.appT e B rfl;have q:=q.appT e B rfl;have x:=(x.appT e B rfl).top;have z:=Below.app z e B (Qb _) z.size;clear e B;refine Y1 15<|Yt rfl trivial rfl (X0q (enc:=encSd) (l:=(L2)) (l2:=([(⟨H,I,(clB (nx n (letC i)))⟩ : Sd)])) (B0:=M.heap.size) rfl rfl X1k X2a X1q X3h t (Rd.of_blk aQ rfl _ aQ.lt) (by simp only [maxLen];simp;omega) (by simp;omega) z.size) ?_;rintro _ k7 ⟨iT,iU,rfl,gA,B,D⟩
     have e:Own _ M.heap.size 27 1 encSd _ _ (L2):=t
     have bZ:=D _ f.lt E;have cA:=D _ o.lt G;have eY:=D _ aQ.lt bU;clear D;have f:=f.appA B E;have o:=o.appA B G;have g:=g.appT e B rfl;have p:=p.appT e B rfl;have q:=q.appT e B rfl;have cW:=cW.appT e B rfl;have x:=(x.appT e B rfl).top;have z:=Below.app z e B (Qb _) z.size;clear e B
     have x:=DeepD.snoc (s:=(⟨H,I,(clB (nx n (letC i)))⟩ : Sd)) x.top q.rd.top
     refine Yo 16 rfl (fun _=>X0i rfl)<|Yo 17 rfl (fun _=>X0i rfl) ?_;refine Yd fun a J=>?_;exact ⟨iQ,iS,iT,iU,J.sub ⟨(by first|rfl|(simp [look,Q,U,W,aA])),(by first|rfl|(simp [look,Q,U,W,aA])),rfl,rfl,rfl,rfl,rfl,rfl,trivial⟩,cW,gA,bZ,cA,f,o,g,p,q,x,z⟩
    rintro a k8 ⟨bD,bE,b1,bF,J,aP,cP,aM,aR,f,o,g,p,q,x,z⟩;refine Xn<|d8 _ _<|Zr J<|Ze (X03 rfl rfl (by omega) (by omega))<|Zm rfl ?_;refine Zn fun a J=>?_;refine Xo ?_;exact ⟨(i+1,N++([tx ((cw n)++([letC i]))]),L2++([(⟨H,I,(clB (nx n (letC i)))⟩ : Sd)])),⟨bD,bE,b1,bF,J.sb,(by omega),(by rw [dS.1,Xee,← cK,dS.2]),(by rw [List.map_append,aT,dS.1,Xe3,← fY];rfl),f,aP,cP,g,p,x,aM,z⟩,(by first|omega|(dsimp only;omega))⟩
   have aA:=b0
   have gB:=bC.old (by have h9:=b0;rw [Xfy aT dN fQ] at h9;simp at h9;omega)
   refine Q7<|Xn<|d8 _ _<|Zr J ?_;refine Ze (X03 rfl rfl (by omega) (by omega))<|Zm rfl ?_;refine Zn fun a J=>?_;refine Xo ?_;exact ⟨(i+1,N,L2),⟨cH,cJ,b7,b9,J.sb,(by omega),(by rw [gB,cK]),(by rw [gB,aT]),f,C,t,g,p,x,E,z⟩,(by first|omega|(dsimp only;omega))⟩
  have W:=aJ;have aJ:=Q1 aJ
  have cM:i=2:=by have h9:=aJ;simp at h9;omega
  subst cM
  refine Q9<|Xm<|Xm<|X08 ?_;refine Xn<|fM _ _<|Zr J<|Zm rfl<|Ze (X03 rfl rfl (by omega) (by omega))<|Za rfl ?_;refine Zn fun a J=>?_;refine Xo ?_;exact ⟨(n+1,N,L2),⟨cH,cJ,b7,b9,J.sb,(by omega),cK,aT,C,t,g,p,x,z⟩,(by first|omega|(dsimp only;omega))⟩
 have U:=aI;have aI:=Q1 aI
 have iV:n=24:=by have h9:=aI;rw [hw,X4f] at h9;by_cases e9:n<24;(have:=Xoe e9;omega);omega
 refine Q9<|Xm<|Xm<|X08 ?_;refine fI _ _<|Zs J fun _ gC=>?_;refine Zm rfl<|Zm rfl<|Za rfl<|Za rfl<|Zt gC fun a J=>?_
 refine Q6 (X4 J (X0r J rfl rfl rfl) ?_)
 rw [iV] at hw hL
 rw [hw]
 rw [hw] at aW
 exact ⟨cD,cE,cF,cG,L,rfl,aW,aX,hL,x.top,z⟩
theorem Xy8(E:World) : Ret Tryz.prog 53 [] E (fun v w=>∃ (A:Option Addr) (c:Nat),v=.slice A (wsN 24).length c∧Own w E.heap.size 9 1 encTx A c (wsN 24)∧Below E.heap.size E w):=by
 refine enter Tryz.func53 rfl 61 rfl rfl ?_;intro a n
 have y:=bz E
 refine Zs n fun _ dS=>?_;refine Za rfl<|Zx dS fun a n _ dT=>?_;refine Za rfl<|Zx dT fun a n _ dU=>?_;refine Za rfl<|Zx dU fun a n _ dW=>?_;refine Zf (Xb (k:=1) (vs:=[.string (tx [])]) (zs:=[.string (tx [])]) rfl X0t X3q rfl rfl) ?_;rintro _ w1 ⟨b8,rfl,dX,j,dY⟩;have cP:=Q0 y.size dX;have y:=btr y j;refine Za rfl<|ZX dW fun a n _ cQ=>?_;refine Q8 ?_
 have f:DeepD w1 w1.heap.size []:=DeepD.nil _ _
 refine X07 (σ:=Nat×(List ByteArray)×(List Sd)×(List ByteArray)) (fun (s:Nat×(List ByteArray)×(List Sd)×(List ByteArray)) (a:Act) (w:World)=>match s with|(T,ws,L,vv)=>∃ aW b5 bG bH J aK,Fr a 61 [(1,.slice aW ws.length b5),(2,.slice bG L.length bH),(3,.slice J vv.length aK)]∧(T<49)∧(ctC T≤24)∧(ws=wsN (ctC T))∧(L.map Sd.l=lsN (ctC T))∧(vv=cdL T (1+2*ctC T))∧Own w E.heap.size 9 1 encTx aW b5 ws∧Own w E.heap.size 58 1 encSd bG bH L∧Own w E.heap.size 9 1 encTx J aK vv∧DeepD w w.heap.size L∧Apart aW J∧Below E.heap.size E w) (fun (s:Nat×(List ByteArray)×(List Sd)×(List ByteArray))=>match s with|(T,ws,L,vv)=>50-T) (0,[],[],[tx []]) ?_ ?_
 ·exact ⟨none,0,none,0,some ⟨b8,0,none⟩,1,n.sb,(by omega),(by decide),rfl,rfl,rfl,(Own.nil _ _ _ _ _),(Own.nil _ _ _ _ _),(Own.of_blkL X10 dY cP rfl rfl (by decide)),f,(Apart.nl _),y⟩
 rintro ⟨T,ws,L,vv⟩ a w2 ⟨aW,b5,bG,bH,J,aK,n,hT,e7,hw,hL,hv,bL,cR,b,f,aX,y⟩;refine Q5 fun _ cS=>?_;refine Zs n fun _ cU=>?_;refine Zm rfl<|Ze (X2k rfl X0t)<|Ze (X1h rfl rfl)<|Zt cU fun a n=>?_
 refine Xl n rfl (fun G=>?_) (fun G=>?_)
 ·have aB:=G;have G:=Q2 G
  have b6:ctC T<24:=by have h9:=G;rw [hw,X4f] at h9;omega
  have eU:=Xwu hT b6;refine Q7<|cS _ _<|Q8<|Zs n fun _ cV=>?_;refine Za rfl<|ZX cV fun a n _ cW=>?_;refine Zs n fun _ cX=>?_;refine Zm rfl<|Ze (X2k rfl X0t)<|Zm rfl<|Zt cX fun a n=>?_;refine Q8<|X07 (σ:=Nat×(List ByteArray)×(List Sd)×(List ByteArray)) (fun (s:Nat×(List ByteArray)×(List Sd)×(List ByteArray)) (a:Act) (w:World)=>match s with|(q,H,L2,x2)=>∃ U aL aG aH W aM,Fr a 61 [(1,.slice U H.length aL),(2,.slice aG L2.length aH),(4,.slice W x2.length aM),(16,.slice J vv.length aK),(17,vi (vv.length:Int)),(18,vi (q:Int))]∧(q≤1+2*ctC T-T)∧(H=wsN (ctC (T+q)))∧(L2.map Sd.l=lsN (ctC (T+q)))∧(x2=cdL (1+2*ctC T) (1+2*ctC (T+q)))∧(ctC (T+q)≤24)∧(ctC T≤ctC (T+q))∧Own w E.heap.size 9 1 encTx U aL H∧Own w E.heap.size 58 1 encSd aG aH L2∧Own w E.heap.size 9 1 encTx W aM x2∧Own w E.heap.size 9 1 encTx J aK vv∧DeepD w w.heap.size L2∧Apart J U∧Apart J W∧Apart U W∧Below E.heap.size E w) (fun (s:Nat×(List ByteArray)×(List Sd)×(List ByteArray))=>match s with|(q,H,L2,x2)=>1+2*ctC T-T-q) (0,ws,L,[]) ?_ ?_
  ·exact ⟨aW,b5,bG,bH,none,0,n.sb,(Qf _),hw,hL,(by show []=cdL (1+2*ctC T) (1+2*ctC T);unfold cdL;rw [Nat.sub_self];rfl),e7,(Qb _),bL,cR,(Own.nil _ _ _ _ _),b,f,aX.symm,(Apart.nr _),(Apart.nr _),y⟩
  rintro ⟨q,H,L2,x2⟩ a w3 ⟨U,aL,aG,aH,W,aM,n,hq,bI,aR,b7,e8,eO,i,e,d,b,f,z,h,x,y⟩;refine Zs n fun _ d5=>?_;refine Ze (X1h rfl rfl)<|ZX d5 fun a n _ d6=>?_
  refine Xl n rfl (fun I=>?_) (fun I=>?_)
  ·have aC:=I;have I:=Q2 I
   obtain ⟨eV,eP⟩:=Xw (l:=vv) (k:=q) (by omega)
   have eA:q<1+2*ctC T-T:=by have h9:=I;rw [hv,Xc7] at h9;omega
   have aA:=Xor (t:=(T+q)) (by omega)
   have d7:=Xjo (t:=(T+q)) (by omega)
   have eQ:H.length=ctC (T+q):=by rw [bI,X4f]
   have eR:=X7g aR
   have eT:x2.length≤100:=by rw [b7,Xc7];have:=aA.le;omega
   have eB:=aA.le;refine Q7<|d6 _ _<|Q5 fun _ bM=>?_;refine Q8<|Zs n fun _ d8=>?_;refine Zi (k:=q) (u:=tx (cdW (T+q))) (enc:=encTx) (l:=vv) trivial rfl rfl X0t X5l X10 b.rd (by rw [hv];exact Xp8 (by omega)) rfl ?_;intro eX bR;refine Ze (X0 rfl X2j bR)<|Za rfl<|Zx d8 fun a n _ d9=>?_;refine Zm rfl<|Zf (Vc (Xyx _ (cdW (T+q)) aA.len) Xqb) ?_;rintro _ w4 ⟨dA,dB,rfl,dC,j⟩;have i:=i.below j;have e:=e.below j;have d:=d.below j;have b:=b.below j;have f:=(f.below j).top;have y:=btr y j;refine Zf (X1d (vs:=[.agg #[vi ((opM (wdG (cdW (T+q)))).rows),vi ((opM (wdG (cdW (T+q)))).cols),.slice dA ((opM (wdG (cdW (T+q)))).cells).length dB]]) rfl Xnt (by have hq:=Xyl w4 (opM (wdG (cdW (T+q)))) dA dB dC.top (Xit aA.bl);rw [aA.bl,Qq,Option.isSome_some] at hq;exact hq)) ?_;rintro _ w5 ⟨aD,aE,rfl,g,j⟩;have g:=g.lower y.size;have i:=i.below j;have e:=e.below j;have d:=d.below j;have b:=b.below j;have f:=(f.below j).top;have y:=btr y j;refine Zm rfl<|Ze (X1 (vs:=[.agg #[.slice aD (clB (cdB (T+q))).length aE],.bool true]) rfl rfl)<|Ze (X1 (vs:=[.agg #[.slice aD (clB (cdB (T+q))).length aE],.bool true]) rfl rfl)<|Zf (X3 (zs:=[.slice none 0 0]) X4k rfl) ?_;rintro _ w6 ⟨b9,rfl,bN,j,m⟩;have bS:=Q0 y.size bN;have aI:=e.away bN;have i:=i.below j;have e:=e.below j;have d:=d.below j;have b:=b.below j;have g:=g.below j;have f:=(f.below j).top;have y:=btr y j;refine Zo (Vw [.slice aD (clB (cdB (T+q))).length aE] X2s m) ?_;rintro _ w7 ⟨ho,hb⟩
   have C:=m;have i:=i.onlyT ho C rfl;have e:=e.onlyA ho aI;have d:=d.onlyT ho C rfl;have b:=b.onlyT ho C rfl;have g:=g.onlyT ho C rfl;have f:=(f.onlyT ho C rfl).top;have y:=Below.only y ho bS;have m:=hb;refine Za rfl<|Zx d9 fun a n _ dD=>?_;refine Za rfl<|ZX dD fun a n _ dE=>?_;refine Zs n fun _ dF=>?_;refine Zm rfl<|Ze (X2k rfl X99)<|Zm rfl<|Zt dF fun a n=>?_;refine Q8<|X07 (σ:=Nat×Bool) (fun (s:Nat×Bool) (a:Act) (w:World)=>match s with|(p,kn)=>Fr a 61 [(1,.slice U H.length aL),(2,.slice aG L2.length aH),(4,.slice W x2.length aM),(6,.string (tx (cdW (T+q)))),(7,.pointer (some ⟨b9,0,none⟩)),(9,.bool kn),(16,.slice J vv.length aK),(17,vi (vv.length:Int)),(18,vi (q:Int)),(28,.slice aG L2.length aH),(29,vi (L2.length:Int)),(30,vi (p:Int))]∧(p≤L2.length)∧(kn=(L2.take p).any (fun s=>decide (s.l=clB (cdB (T+q)))))∧Blk w b9 58 [.slice aD (clB (cdB (T+q))).length aE]∧Own w E.heap.size 9 1 encTx U aL H∧Own w E.heap.size 58 1 encSd aG aH L2∧Own w E.heap.size 9 1 encTx W aM x2∧Own w E.heap.size 9 1 encTx J aK vv∧Own w E.heap.size 53 5 encD aD aE (clB (cdB (T+q)))∧DeepD w w.heap.size L2∧Apart J U∧Apart J W∧Apart U W∧Below E.heap.size E w) (fun (s:Nat×Bool)=>match s with|(p,kn)=>L2.length-p) (0,false) ?_ ?_
   ·exact ⟨n.sb,(Qf _),rfl,m,i,e,d,b,g,f,z,h,x,y⟩
   rintro ⟨p,kn⟩ a w8 ⟨n,hp,dG,m,i,e,d,b,g,f,z,h,x,y⟩;refine Zs n fun _ dH=>?_;refine Ze (X1h rfl rfl)<|ZX dH fun a n _ dI=>?_
   refine Xl n rfl (fun Q=>?_) (fun Q=>?_)
   ·have aF:=Q;have Q:=Q2 Q
    obtain ⟨M,aN⟩:=Xw (l:=L2) (k:=p) (by omega)
    have eY:p<ctC (T+q):=by have h9:=Q;omega
    refine Q7<|dI _ _<|Q5 fun _ dJ=>?_;refine Q8<|Zs n fun _ dK=>?_;refine Zi (k:=p) (u:=M) (enc:=encSd) (l:=L2) trivial rfl rfl X99 X2s X1q e.rd aN rfl ?_;intro eZ bU;have aO:=(f M (Qe aN)).top;refine Ze (X09 (l:=[.slice M.A M.l.length M.c]) rfl X23 bU rfl)<|Zf (X3 (zs:=[.slice none 0 0]) X4k rfl) ?_;rintro _ w9 ⟨b50,rfl,bO,j,aS⟩
    have cC:b9≠b50:=by have:=m.lt;omega
    have bW:=Q0 y.size bO;have aY:=e.away bO;have m:=m.below j;have i:=i.below j;have e:=e.below j;have d:=d.below j;have b:=b.below j;have g:=g.below j;have aO:=aO.below j;have f:=(f.below j).top;have y:=btr y j;refine Zo (Vw [.slice M.A M.l.length M.c] X2s aS) ?_;rintro _ w10 ⟨ho,hb⟩;have C:=aS;have m:=m.only ho (by omega);have i:=i.onlyT ho C rfl;have e:=e.onlyA ho aY;have d:=d.onlyT ho C rfl;have b:=b.onlyT ho C rfl;have g:=g.onlyT ho C rfl;have aO:=aO.onlyT ho C rfl;have f:=(f.onlyT ho C rfl).top;have y:=Below.only y ho bW;have aS:=hb;refine Zt dK fun a n=>?_;refine X02 (fun a w=>Fr a 61 [(1,.slice U H.length aL),(2,.slice aG L2.length aH),(4,.slice W x2.length aM),(6,.string (tx (cdW (T+q)))),(7,.pointer (some ⟨b9,0,none⟩)),(9,.bool (kn||(decide (M.l=(clB (cdB (T+q))))))),(16,.slice J vv.length aK),(17,vi (vv.length:Int)),(18,vi (q:Int)),(28,.slice aG L2.length aH),(29,vi (L2.length:Int)),(30,vi (p:Int))]∧Below w10.heap.size w10 w) ?_ ?_
    ·have bJ:Below w10.heap.size w10 w10:=Below.refl _ _
     refine Zr n<|Zm rfl<|Zm rfl ?_
     refine Zg 35 rfl (fun B=>?_) (fun B=>?_)
     ·refine Zp (gP B) ?_;refine Zp (gP B) ?_;refine Zp (gP B) ?_;refine Ze (Xe rfl B rfl)<|Za rfl ?_;refine Zn fun a n=>?_
      have bZ:Below w10.heap.size w10 w10:=bJ
      exact ⟨n.sub ⟨rfl,rfl,rfl,rfl,rfl,X2 rfl (by first|rfl|(simp only [aB,aC,aF,B,bs];done)|simp [aB,aC,aF,B]),rfl,rfl,rfl,rfl,rfl,rfl,trivial⟩,bZ⟩
     refine Zv (gW B) (Vn X23 aS) ?_;refine Zv (gW B) (Vn X23 m) ?_;refine Zk (gW B) (Vc (Xy9 _ M.A M.c M.l aO.top aD aE (clB (cdB (T+q))) g.rd.top (by rw [Xi1 aR aN,X6e (by omega),X6e aA.lt]) (by rw [Xi1 aR aN,X6e (by omega)];decide)) Xqz) ?_;rintro _ w11 ⟨rfl,j⟩;have f:=(f.below j).top;have y:=btr y j;have bJ:=btr bJ j;refine Ze (Xc rfl B rfl)<|Za rfl ?_;refine Zn fun a n=>?_
     have bZ:Below w10.heap.size w10 w11:=bJ
     exact ⟨n.sub ⟨rfl,rfl,rfl,rfl,rfl,X2 rfl (by first|rfl|(simp only [aB,aC,aF,B,bs];done)|simp [aB,aC,aF,B]),rfl,rfl,rfl,rfl,rfl,rfl,trivial⟩,bZ⟩
    rintro a f7 ⟨n,j⟩;have m:=m.below j;have i:=i.below j;have e:=e.below j;have d:=d.below j;have b:=b.below j;have g:=g.below j;have f:=(f.below j).top;have y:=btr y j;refine Xn<|dJ _ _<|Zr n<|Ze (X03 rfl rfl (by omega) (by omega))<|Zm rfl ?_;refine Zn fun a n=>?_;refine Xo ?_;exact ⟨(p+1,kn||(decide (M.l=(clB (cdB (T+q)))))),⟨n.sb,(by omega),(by rw [dG,Xux aN]),m,i,e,d,b,g,f,z,h,x,y⟩,(by first|omega|(dsimp only;omega))⟩
   have aF:=Q;have Q:=Q1 Q
   have bP:kn=decide (cdB (T+q)<ctC (T+q)):=by rw [dG,Qi (by omega),Xfy aR eB aA.lt]
   refine Q9<|Xm<|Xm<|X08 ?_;refine dE _ _<|Zs n fun _ dL=>?_;refine Zm rfl<|Ze (X0o rfl)<|Zt dL fun a n=>?_
   refine Xl n rfl (fun aP=>?_) (fun aP=>?_)
   ·have cA:=aP
    have dM:cdB (T+q)=ctC (T+q):=by have h9:=aP;rw [bP] at h9;have:=aA.nx;simp at h9;omega
    have bC:=aA.new dM;refine Zs n fun _ dN=>?_;refine Zm rfl<|Zm rfl<|Zf (Xb (k:=1) (vs:=[.string (tx (cdW (T+q)))]) (zs:=[.string (tx (cdW (T+q)))]) rfl X0t X3q rfl rfl) ?_;rintro _ f8 ⟨f9,rfl,aT,j,bD⟩;have eC:=Q0 y.size aT;have aZ:=i.away aT;have cD:=d.away aT;have cE:=b.away aT;have m:=m.below j;have i:=i.below j;have e:=e.below j;have d:=d.below j;have b:=b.below j;have g:=g.below j;have f:=(f.below j).top;have y:=btr y j;refine Zf (X0q (enc:=encTx) (l:=(H)) (l2:=([tx (cdW (T+q))])) (B0:=E.heap.size) rfl rfl X0t X3q X10 X2z i (Rd.of_blk bD rfl _ bD.lt) (by simp only [maxLen];simp;omega) (by simp;omega) y.size) ?_;rintro _ fA ⟨eD,eE,rfl,D,hg,N⟩
    have o:Own _ E.heap.size 9 1 encTx _ _ (H):=i
    have cF:=N _ bD.lt aZ;have b0:=Apart.app b z N;have aJ:=Apart.app d x.symm N;clear N;have m:=m.appT o hg rfl;have e:=e.appT o hg rfl;have d:=d.appP hg x.symm;have b:=b.appP hg z;have g:=g.appT o hg rfl;have f:=(f.appT o hg rfl).top;have y:=Below.app y o hg (Qb _) y.size;clear o hg;refine Za rfl<|Zx dN fun a n _ dP=>?_;refine Zm rfl<|Ze (Vn X23 m)<|Zf (Xb (k:=1) (vs:=[.agg #[.slice aD (clB (cdB (T+q))).length aE]]) (zs:=[.slice aD (clB (cdB (T+q))).length aE]) rfl X99 Xe6 rfl rfl) ?_;rintro _ fB ⟨b59,rfl,bQ,j,bE⟩
    have cG:b9≠b59:=by have:=m.lt;omega
    have eF:=Q0 y.size bQ;have b1:=e.away bQ;have m:=m.below j;have e:=e.below j;have d:=d.below j;have b:=b.below j;have g:=g.below j;have D:=D.below j;have f:=(f.below j).top;have y:=btr y j;refine Zf (X0q (enc:=encSd) (l:=(L2)) (l2:=([(⟨aD,aE,(clB (cdB (T+q)))⟩ : Sd)])) (B0:=E.heap.size) rfl rfl X99 Xe6 X1q X3h e (Rd.of_blk bE rfl _ bE.lt) (by simp only [maxLen];simp;omega) (by simp;omega) y.size) ?_;rintro _ fC ⟨eH,eI,rfl,aQ,hg,N⟩
    have o:Own _ E.heap.size 58 1 encSd _ _ (L2):=e
    have cH:=N _ m.lt aI;have cJ:=N _ bE.lt b1;clear N;have d:=d.appT o hg rfl;have b:=b.appT o hg rfl;have g:=g.appT o hg rfl;have D:=D.appT o hg rfl;have f:=(f.appT o hg rfl).top;have y:=Below.app y o hg (Qb _) y.size;clear o hg
    have f:=DeepD.snoc (s:=(⟨aD,aE,(clB (cdB (T+q)))⟩ : Sd)) f.top g.rd.top
    refine Za rfl<|Zt dP fun a n=>?_;refine Zr n<|Zm rfl<|Zm rfl<|Ze (X3m (s:=(cdW (T+q))) (r:=[72]) rfl rfl (by have:=aA.len;simp;omega))<|Zm rfl<|Ze (X3m (s:=(cdW (T+q))) (r:=[83]) rfl rfl (by have:=aA.len;simp;omega))<|Zf (Xb (k:=2) (vs:=[.string (tx ((cdW (T+q))++[72])),.string (tx ((cdW (T+q))++[83]))]) (zs:=[.string (tx ((cdW (T+q))++[72])),.string (tx ((cdW (T+q))++[83]))]) rfl X0t X3q rfl rfl) ?_;rintro _ fD ⟨fE,rfl,aU,j,bF⟩;have eJ:=Q0 y.size aU;have b2:=d.away aU;have cK:=b.away aU;have cM:=D.away aU;have d:=d.below j;have b:=b.below j;have D:=D.below j;have aQ:=aQ.below j;have f:=(f.below j).top;have y:=btr y j;refine Zf (X0q (enc:=encTx) (l:=(x2)) (l2:=([tx ((cdW (T+q))++[72]),tx ((cdW (T+q))++[83])])) (B0:=E.heap.size) rfl rfl X0t X3q X10 X2z d (Rd.of_blk bF rfl _ bF.lt) (by simp only [maxLen];simp;omega) (by simp;omega) y.size) ?_;rintro _ fF ⟨eK,eM,rfl,dQ,hg,N⟩
    have o:Own _ E.heap.size 9 1 encTx _ _ (x2):=d
    have cO:=N _ bF.lt b2;have b3:=Apart.app b h N;have b4:=Apart.app D aJ.symm N;clear N;have b:=b.appP hg h;have D:=D.appP hg aJ.symm;have aQ:=aQ.appT o hg rfl;have f:=(f.appT o hg rfl).top;have y:=Below.app y o hg (Qb _) y.size;clear o hg;refine Za rfl ?_;refine Zn fun a n=>?_;refine Xn<|bM _ _<|Zr n<|Ze (X03 rfl rfl (by omega) (by omega))<|Zm rfl ?_;refine Zn fun a n=>?_;refine Xo ?_;exact ⟨(q+1,H++([tx (cdW (T+q))]),L2++([(⟨aD,aE,(clB (cdB (T+q)))⟩ : Sd)]),x2++([tx ((cdW (T+q))++[72]),tx ((cdW (T+q))++[83])])),⟨eD,eE,eH,eI,eK,eM,n.sb,(by omega),(by show _=wsN (ctC (T+q+1));rw [bC.1,Xee,← bI,bC.2]),(by show _=lsN (ctC (T+q+1));rw [List.map_append,aR,bC.1,Xe3,← dM];rfl),(by show _=cdL _ (1+2*ctC (T+q+1));rw [bC.1,b7];exact Xod (by omega) bC.2),(Xor (t:=T+q+1) (by omega)).le,(by have h9:ctC (T+q)≤ctC (T+q+1):=d7;show ctC T≤ctC (T+q+1);omega),D,aQ,dQ,b,f,b0,b3,b4,y⟩,(by first|omega|(dsimp only;omega))⟩
   have cA:=aP
   have cB:=aA.old (by have h9:=aP;rw [bP] at h9;simp at h9;omega)
   refine Q7<|Xn<|bM _ _<|Zr n ?_;refine Ze (X03 rfl rfl (by omega) (by omega))<|Zm rfl ?_;refine Zn fun a n=>?_;refine Xo ?_;exact ⟨(q+1,H,L2,x2),⟨U,aL,aG,aH,W,aM,n.sb,(by omega),(by show _=wsN (ctC (T+q+1));rw [cB,bI]),(by show _=lsN (ctC (T+q+1));rw [cB,aR]),(by show _=cdL _ (1+2*ctC (T+q+1));rw [cB,b7]),(Xor (t:=T+q+1) (by omega)).le,(by have h9:ctC (T+q)≤ctC (T+q+1):=d7;show ctC T≤ctC (T+q+1);omega),i,e,d,b,f,z,h,x,y⟩,(by first|omega|(dsimp only;omega))⟩
  have aC:=I;have I:=Q1 I
  have eA:q=1+2*ctC T-T:=by have h9:=I;rw [hv,Xc7] at h9;omega
  have bK:(T+q)=1+2*ctC T:=by omega
  refine Q9<|Xm<|Xm<|X08 ?_;refine cW _ _<|Zr n<|Zm rfl<|Za rfl ?_;refine Zn fun a n=>?_;refine Xn<|Xo ?_;exact ⟨(1+2*ctC T,H,L2,x2),⟨U,aL,aG,aH,W,aM,n.sb,(by omega),(by rw [← bK];exact e8),(by rw [← bK];exact bI),(by rw [← bK];exact aR),(by rw [← bK] at b7 ⊢;exact b7),i,e,d,f,x,y⟩,(by first|omega|(dsimp only;omega))⟩
 have aB:=G;have G:=Q1 G
 have b6:ctC T=24:=by have h9:=G;rw [hw,X4f] at h9;omega
 refine Q9<|Xm<|Xm<|X08 ?_;refine cQ _ _<|Zs n fun _ dR=>?_;refine Zm rfl<|Za rfl<|Zt dR fun a n=>?_
 refine Q6 (X4 n (Xx n rfl rfl) ?_)
 rw [b6] at hw
 subst hw
 exact ⟨aW,b5,rfl,bL,y⟩
theorem Xwn(w0:World)(k:Nat)(aB:k<24)(aF:HalfT w0) : Ret Tryz.prog 78 [vi (k:Int)] w0 (fun v w=>v=.tuple #[.string (tx (cw k)),.bool true]∧Below w0.heap.size w0 w):=by
 have aL:(wsN 24).length=24:=X4f 24
 refine enter Tryz.func78 rfl 20 rfl rfl ?_;intro a b
 have hW:=bz w0
 refine Zs b fun _ aG=>?_;refine Za rfl<|Za rfl<|Zx aG fun a b _ aH=>?_;refine Zf (Vc (Xrb _ (aF.of hW)) Xi5) ?_;rintro _ w1 ⟨A3,c3,A4,c4,L9,rfl,aA,aC,aM,aN,hE⟩;have aA:=aA.lower hW.size;have aC:=aC.lower hW.size;have hW:=btr hW hE;refine Zm rfl<|Ze (X1 (vs:=[.slice A3 (wsN 24).length c3,.slice A4 L9.length c4]) rfl rfl)<|Ze (X1 (vs:=[.slice A3 (wsN 24).length c3,.slice A4 L9.length c4]) rfl rfl)<|Za rfl<|Za rfl<|ZX aH fun a b _ aI=>?_;refine Zs b fun _ aJ=>?_;refine Zm rfl<|Zm rfl<|Ze (X2k rfl X0t)<|Ze (X1m rfl rfl (by omega) (by omega))<|Zf (Vc (F91 _ (k:Int) 0 (((wsN 24).length:Int)-1)) X36) ?_;rintro _ _ ⟨rfl,rfl⟩;refine Ze (X0o rfl)<|Zt aJ fun a b=>?_
 refine Xl b rfl (fun c=>?_) (fun c=>?_)
 ·have aD:=c
  have h9:=c;rw [X0g.2 ⟨by omega,by omega⟩] at h9;simp at h9
 have aD:=c;refine Q7<|aI _ _<|Zs b fun _ aK=>?_;refine Zm rfl<|Zm rfl<|Zi (k:=k) (u:=tx (cw k)) (enc:=encTx) (l:=(wsN 24)) trivial rfl rfl X0t X5l X10 aA.rd (Xdl aB) rfl ?_;intro aO aE;refine Ze (X0 rfl X2j aE)<|Za rfl<|Za rfl<|Zt aK fun a b=>?_
 refine Q6 (X4 b (X0r b rfl rfl rfl) ?_)
 exact ⟨rfl,hW⟩
theorem Xxl(m:World)(k:Nat)(z:k<24)(aQ:HalfT m) : Ret Tryz.prog 41 [vi (k:Int)] m (fun v w=>∃ A c,v=.slice A (wdG (cw k)).length c∧Own w m.heap.size 103 3 encG A c (wdG (cw k))∧Below m.heap.size m w):=by
 have b6:=(X6t z).2;refine enter Tryz.func41 rfl 30 rfl rfl ?_;intro a b
 have e:=bz m
 refine Zs b fun _ aR=>?_;refine Za rfl<|Zx aR fun a b _ aS=>?_;refine Zf (Xb (k:=0) (vs:=[]) (zs:=[]) rfl X1p X18 rfl rfl) ?_;rintro _ w1 ⟨b4,rfl,aT,x,aA⟩;have aH:=Q0 e.size aT;have e:=btr e x;refine Za rfl<|Zx aS fun a b _ aU=>?_;refine Zm rfl<|Zf (Vc (Xwn _ k z (aQ.of e)) Xpb) ?_;rintro _ w2 ⟨rfl,x⟩;have aA:=aA.below x;have e:=btr e x;refine Zm rfl<|Ze (X1 (vs:=[.string (tx (cw k)),.bool true]) rfl rfl)<|Ze (X1 (vs:=[.string (tx (cw k)),.bool true]) rfl rfl)<|Za rfl<|Za rfl<|ZX aU fun a b _ aW=>?_;refine Zs b fun _ aX=>?_;refine Za rfl<|Zt aX fun a b=>?_;refine Q8<|X07 (σ:=Nat×(List Gt)) (fun (s:Nat×(List Gt)) (a:Act) (w:World)=>match s with|(j,gs)=>∃ A9 c9,Fr a 30 [(3,.slice A9 gs.length c9),(4,.string (tx (cw k))),(6,vi (j:Int))]∧(j≤(cw k).length)∧(gs=wdG ((cw k).take j))∧Own w m.heap.size 103 3 encG A9 c9 gs∧Below m.heap.size m w) (fun (s:Nat×(List Gt))=>match s with|(j,gs)=>(cw k).length-j) (0,[]) ?_ ?_
 ·exact ⟨some ⟨b4,0,none⟩,0,b.sb,(Qf _),rfl,(Own.empty aA aH),e⟩
 rintro ⟨j,gs⟩ a w3 ⟨A9,c9,b,hj,y,f,e⟩
 have b7:gs.length≤9:=by rw [y];simp [wdG];omega
 refine Q5 fun _ aI=>?_;refine Zs b fun _ aJ=>?_;refine Zm rfl<|Zm rfl<|Ze (X4y (s:=(cw k)) rfl Tryz.underlying9)<|Ze (X1h rfl rfl)<|Zt aJ fun a b=>?_
 refine Xl b rfl (fun d=>?_) (fun d=>?_)
 ·have aB:=d;have d:=Q2 d
  obtain ⟨b8,b5⟩:=Xw (l:=(cw k)) (k:=j) (by omega)
  obtain ⟨u7,aC⟩:=Xw (l:=cw k) (k:=j) (by have:=d;omega)
  refine Q7<|aI _ _<|Q5 fun _ h=>?_;refine Q8<|Zs b fun _ aK=>?_;refine Za rfl<|ZX aK fun a b _ B=>?_;refine Zs b fun _ aL=>?_;refine Zm rfl<|Zm rfl<|Ze (X63 (s:=(cw k)) (k:=j) (u:=u7) rfl rfl Tryz.underlying9 rfl aC)<|Ze (X9r rfl rfl)<|Zt aL fun a b=>?_
  refine Xl b rfl (fun g=>?_) (fun g=>?_)
  ·have aD:=g;have aE:=Xfq g;refine Zr b<|Za rfl<|Zt B fun a b=>?_;refine Zr b<|Zm rfl<|Zm rfl<|Ze (Xg (ps:=[(0,vi 5)]) (cs:=[vi 5,vi 0,vi 0]) rfl (fun _=>by first|rfl|kernel_rfl))<|Zf (Xb (k:=1) (vs:=[.agg #[vi 5,vi 0,vi 0]]) (zs:=[vi 5,vi 0,vi 0]) rfl X1p X18 rfl rfl) ?_;rintro _ w4 ⟨b9,rfl,C,x,n⟩;have aY:=Q0 e.size C;have o:=f.away C;have f:=f.below x;have e:=btr e x;refine Zf (X0q (enc:=encG) (l:=(gs)) (l2:=([(⟨5,0,0⟩ : Gt)])) (B0:=m.heap.size) rfl rfl X1p X18 X1a X2l f (Rd.of_blk n rfl _ n.lt) (by simp only [maxLen];simp;omega) (by simp;omega) e.size) ?_;rintro _ w5 ⟨aZ,b0,rfl,aM,y,p⟩
   have i:Own _ m.heap.size 103 3 encG _ _ (gs):=f
   have aF:=p _ n.lt o;clear p;have e:=Below.app e i y (Qb _) e.size;clear i y;refine Za rfl ?_;refine Zn fun a b=>?_;refine Xn<|h _ _<|Zr b<|Zm rfl<|Ze (X03 rfl rfl (by omega) (by omega))<|Za rfl ?_;refine Zn fun a b=>?_;refine Xo ?_;exact ⟨(j+1,gs++([(⟨5,0,0⟩ : Gt)])),⟨aZ,b0,b.sb,(by omega),(by rw [y,X6g aC,aE]),aM,e⟩,(by first|omega|(dsimp only;omega))⟩
  have aD:=g;have aE:=Xfm g;refine Q7<|B _ _<|Zr b<|Zm rfl<|Zm rfl<|Ze (Xg (ps:=[(0,vi 1)]) (cs:=[vi 1,vi 0,vi 0]) rfl (fun _=>by first|rfl|kernel_rfl))<|Zf (Xb (k:=1) (vs:=[.agg #[vi 1,vi 0,vi 0]]) (zs:=[vi 1,vi 0,vi 0]) rfl X1p X18 rfl rfl) ?_;rintro _ w6 ⟨bC,rfl,D,x,q⟩;have b1:=Q0 e.size D;have t:=f.away D;have f:=f.below x;have e:=btr e x;refine Zf (X0q (enc:=encG) (l:=(gs)) (l2:=([(⟨1,0,0⟩ : Gt)])) (B0:=m.heap.size) rfl rfl X1p X18 X1a X2l f (Rd.of_blk q rfl _ q.lt) (by simp only [maxLen];simp;omega) (by simp;omega) e.size) ?_;rintro _ w7 ⟨b2,b3,rfl,aN,y,p⟩
  have i:Own _ m.heap.size 103 3 encG _ _ (gs):=f
  have aG:=p _ q.lt t;clear p;have e:=Below.app e i y (Qb _) e.size;clear i y;refine Za rfl ?_;refine Zn fun a b=>?_;refine Xn<|h _ _<|Zr b<|Zm rfl<|Ze (X03 rfl rfl (by omega) (by omega))<|Za rfl ?_;refine Zn fun a b=>?_;refine Xo ?_;exact ⟨(j+1,gs++([(⟨1,0,0⟩ : Gt)])),⟨b2,b3,b.sb,(by omega),(by rw [y,X6g aC,aE]),aN,e⟩,(by first|omega|(dsimp only;omega))⟩
 have aB:=d;have d:=Q1 d
 have aO:gs=wdG (cw k):=by rw [y,Qi (by omega)]
 refine Q9<|Xm<|Xm<|X08 ?_;refine aW _ _<|Zs b fun _ aP=>?_;refine Zm rfl<|Za rfl<|Zt aP fun a b=>?_
 refine Q6 (X4 b (Xx b rfl rfl) ?_)
 subst aO
 exact ⟨A9,c9,rfl,f,e⟩
theorem Xxc(g:World)(tb:List UInt8)(sl:List Nat)(k p:Nat)(m:k<24)(aC:tb=sl.map sylT)(aI:∀ s ∈ sl,s<3)(aY:sl.length≤40)(aJ:HalfT g) : Ret Tryz.prog 18 [.agg #[.string (tx tb),vi (k:Int),vi (p:Int)]] g (fun v w=>∃ A c,v=.slice A (fmG k sl).length c∧Own w g.heap.size 103 3 encG A c (fmG k sl)∧Below g.heap.size g w):=by
 have b0:=(X6t m).2
 have b1:tb.length=sl.length:=by rw [aC,Qo]
 refine enter Tryz.func18 rfl 24 rfl rfl ?_;intro a e
 have f:=bz g
 refine Zs e fun _ aK=>?_;refine Zf (X0j (zs:=[.string (tx tb),vi (k:Int),vi (p:Int)]) rfl rfl) ?_;rintro _ w1 ⟨b2,rfl,aL,t,d⟩;have aZ:=Q0 f.size aL;have f:=btr f t;refine Za rfl<|Zx aK fun a e _ aM=>?_;refine Ze (Vd rfl X21 1)<|Ze (X0 rfl X9 (d.at 1))<|Zf (Vc (Xxl _ k m (aJ.of f)) Xo2) ?_;rintro _ w2 ⟨A5,c5,rfl,aA,t⟩;have aA:=aA.lower f.size;have d:=d.below t;have f:=btr f t;refine Za rfl<|ZX aM fun a e _ aN=>?_;refine Zs e fun _ aO=>?_;refine Ze (Vd rfl X0m 0)<|Ze (X0 rfl X2j (d.at 0))<|Ze (X4y (s:=tb) rfl Tryz.underlying9)<|Ze (X1m rfl rfl (by omega) (by omega))<|Za rfl<|Zt aO fun a e=>?_;refine Q8<|X07 (σ:=Nat×Int×(List Gt)) (fun (s:Nat×Int×(List Gt)) (a:Act) (w:World)=>match s with|(j,i,gs)=>∃ A8 c8,Fr a 24 [(1,.pointer (some ⟨b2,0,none⟩)),(3,.slice A8 gs.length c8),(4,vi i)]∧(j≤sl.length)∧(i=(sl.length:Int)-1-(j:Int))∧(gs=fmG k (sl.drop (sl.length-j)))∧Blk w b2 25 [.string (tx tb),vi (k:Int),vi (p:Int)]∧Own w g.heap.size 103 3 encG A8 c8 gs∧Below g.heap.size g w) (fun (s:Nat×Int×(List Gt))=>match s with|(j,i,gs)=>sl.length-j) (0,((tb.length:Int)-1),(wdG (cw k))) ?_ ?_
 ·exact ⟨A5,c5,e.sb,(Qf _),(by omega),(by rw [Nat.sub_zero,List.drop_length,X9p]),d,aA,f⟩
 rintro ⟨j,i,gs⟩ a w3 ⟨A8,c8,e,hj,hi,hg,d,n,f⟩
 have b3:gs.length≤126:=by rw [hg];exact X9h m (by rw [List.length_drop];omega)
 refine Q5 fun _ aP=>?_;refine Zs e fun _ aD=>?_;refine Zm rfl<|Ze (Xdd rfl rfl)<|Zt aD fun a e=>?_
 refine Xl e rfl (fun b=>?_) (fun b=>?_)
 ·have aB:=b;have b:=Q2 b
  obtain ⟨s,aQ,aR,aS⟩:=Xj8 (sl:=sl) (j:=j) (by have:=b;omega)
  have aT:=Xlm aC aQ;have b4:=X57 s;refine Q7<|aP _ _<|Q5 fun _ aE=>?_;refine Q8<|Zr e<|Zm rfl<|Ze (Vd rfl X0m 0)<|Ze (X0 rfl X2j (d.at 0))<|Zm rfl<|Ze (X63 (s:=tb) (k:=(sl.length-1-j)) (u:=(sylT s)) rfl rfl Tryz.underlying9 (by omega) aT)<|Zf (Vc (Xrq _ (sylT s) s (aI s aR) rfl) Xh8) ?_;rintro _ w4 ⟨b5,b6,rfl,o,t⟩;have o:=o.lower f.size;have d:=d.below t;have n:=n.below t;have f:=btr f t;refine Zf (X0q (enc:=encG) (l:=(gs)) (l2:=((sylG s))) (B0:=g.heap.size) rfl rfl X1p X18 X1a X2l n o.rd (by simp only [maxLen];omega) (by omega) f.size) ?_;rintro _ w5 ⟨aU,aW,rfl,aF,hg,aX⟩
  have q:Own _ g.heap.size 103 3 encG _ _ (gs):=n
  clear aX;have d:=d.appT q hg rfl;have f:=Below.app f q hg (Qb _) f.size;clear q hg;refine Za rfl ?_;refine Zn fun a e=>?_;refine Xn<|aE _ _<|Zr e<|Zm rfl<|Ze (X1m rfl rfl (by omega) (by omega))<|Za rfl ?_;refine Zn fun a e=>?_;refine Xo ?_;exact ⟨(j+1,(i-1),gs++(sylG s)),⟨aU,aW,e.sb,(by omega),(by omega),(by rw [hg,aS,X4p]),d,aF,f⟩,(by first|omega|(dsimp only;omega))⟩
 have aB:=b;have b:=Q1 b
 have aG:gs=fmG k sl:=by rw [hg,show sl.length-j=0 from by have:=b;omega,List.drop_zero]
 refine Q9<|Xm<|Xm<|X08 ?_;refine aN _ _<|Zs e fun _ aH=>?_;refine Zm rfl<|Za rfl<|Zt aH fun a e=>?_
 refine Q6 (X4 e (Xx e rfl rfl) ?_)
 subst aG
 exact ⟨A8,c8,rfl,n,f⟩
theorem Xrd(w0:World)(tb:List UInt8)(sl:List Nat)(k p:Nat)(y:k<24)(aJ:tb=sl.map sylT)(aK:∀ s ∈ sl,s<3)(z:sl.length≤40)(aL:p<8)(hF:FrmOk tb)(aM:HalfT w0) : Ret Tryz.prog 6 [.agg #[.string (tx tb),vi (k:Int),vi (p:Int)]] w0 (fun v w=>∃ A c,v=.tuple #[mV A c ⟨(opM (fmG k sl)).rows,(opM (fmG k sl)).cols,((opM (fmG k sl)).cells.map (dTurn (p:Int)))⟩,.bool true]∧Own w w0.heap.size 53 5 encD A c ((opM (fmG k sl)).cells.map (dTurn (p:Int)))∧Below w0.heap.size w0 w):=by
 obtain ⟨aC,_,_⟩:=Xhw y z;have aN:=Xl0 aC;have aW:=X9h y z;refine enter Tryz.func6 rfl 27 rfl rfl ?_;intro a q
 have i:=bz w0
 refine Zs q fun _ aO=>?_;refine Zf (X0j (zs:=[.string (tx tb),vi (k:Int),vi (p:Int)]) rfl rfl) ?_;rintro _ w1 ⟨b2,rfl,aP,f,g⟩;have aU:=Q0 i.size aP;have i:=btr i f;refine Zf (X3 (zs:=[vi 0,vi 0,.slice none 0 0]) X0y rfl) ?_;rintro _ w2 ⟨b4,rfl,aQ,f,e⟩;have aD:=Q0 i.size aQ;have g:=g.below f;have i:=btr i f;refine Za rfl<|ZX aO fun a q _ aR=>?_;refine Zs q fun _ aS=>?_;refine Ze (Vn X04 g)<|Zf (Vc (Xrl _ tb (k:Int) (p:Int) hF ⟨by omega,by omega⟩ ⟨by omega,by omega⟩) X6d) ?_;rintro _ w3 ⟨rfl,f⟩;have g:=g.below f;have e:=e.below f;have i:=btr i f;refine Ze (X0o rfl)<|Zt aS fun a q=>?_;refine X3i q rfl ?_;refine Q7<|aR _ _<|Zs q fun _ aT=>?_;refine Ze (Vn X04 g)<|Zf (Vc (Xxc _ tb sl k p  y aJ aK z (aM.of i)) Xqm) ?_;rintro _ w4 ⟨A8,c8,rfl,aA,f⟩;have aA:=aA.lower i.size;have g:=g.below f;have e:=e.below f;have i:=btr i f;refine Ze (Xg (ps:=[(0,vi 1),(1,.slice A8 (fmG k sl).length c8)]) (cs:=[vi 1,.slice A8 (fmG k sl).length c8]) rfl (fun _=>by first|rfl|kernel_rfl))<|Zf (X1d (vs:=[.agg #[vi 1,.slice A8 (fmG k sl).length c8]]) rfl Xr7 (by have hq:=F97 w4 (⟨1,(fmG k sl)⟩ : Cx) A8 c8 aA.rd.top (by show (fmG k sl).length≤_;omega);rw [aC,Qq,Option.isSome_some] at hq;exact hq)) ?_;rintro _ w5 ⟨B,C,rfl,m,f⟩;have g:=g.below f;have e:=e.below f;have i:=btr i f;refine Zm rfl<|Ze (X1 (vs:=[.agg #[vi ((opM (fmG k sl)).rows),vi ((opM (fmG k sl)).cols),.slice B ((opM (fmG k sl)).cells).length C],.bool true]) rfl rfl)<|Ze (X1 (vs:=[.agg #[vi ((opM (fmG k sl)).rows),vi ((opM (fmG k sl)).cols),.slice B ((opM (fmG k sl)).cells).length C],.bool true]) rfl rfl)<|Zf (X3 (zs:=[vi 0,vi 0,.slice none 0 0]) X0y rfl) ?_;rintro _ w6 ⟨b12,rfl,aE,f,n⟩
 have aF:b4≠b12:=by have:=e.lt;omega
 have aB:=Q0 i.size aE;have g:=g.below f;have e:=e.below f;have m:=m.below f;have i:=btr i f;refine Zo (Vw [vi ((opM (fmG k sl)).rows),vi ((opM (fmG k sl)).cols),.slice B ((opM (fmG k sl)).cells).length C] X0b n) ?_;rintro _ w7 ⟨ho,hb⟩;have t:=n;have g:=g.only ho (Blk.ne g t rfl);have e:=e.only ho (by omega);have m:=m.onlyT ho t rfl;have i:=Below.only i ho aB;have n:=hb;refine Za rfl<|ZX aT fun a q _ aG=>?_;refine Zs q fun _ aH=>?_;refine Zm rfl<|Ze (X0o rfl)<|Zt aH fun a q=>?_;refine X3i q rfl ?_;refine Q7<|aG _ _<|Q5 fun _ aI=>?_;refine Xz none (fun j=>[7].contains j) mixed ?_;intro w8 f;have g:=g.below f;have e:=e.below f;have n:=n.below f;have m:=m.below f;have i:=btr i f;refine Yb q<|Ye 0 rfl (Vn Xr n)<|Yo 1 rfl (fun _=>Vd rfl X1u 2)<|Ye 2 rfl (X0 rfl X9 (g.at 2))<|Y1 3 ?_;refine Yk rfl trivial (Vc (Xc2 _ (p:Int) (X0g.2 ⟨by omega,by omega⟩)) X53) (fun _ _ ⟨_,f⟩=>f) ?_;rintro _ w9 ⟨rfl,f⟩;have e:=e.below f;have m:=m.below f;have i:=btr i f;refine Y1 4<|Yf rfl trivial (EfW.mono (X1d (vs:=[.agg #[vi ((opM (fmG k sl)).rows),vi ((opM (fmG k sl)).cols),.slice B ((opM (fmG k sl)).cells).length C],.agg #[vi ((dPow (p:Int)).num.a),vi ((dPow (p:Int)).num.b),vi ((dPow (p:Int)).num.c),vi ((dPow (p:Int)).num.d),vi ((dPow (p:Int)).exp)]]) rfl Xfr (by have hq:=Xu5 w9 (opM (fmG k sl)) B C m.top (dPow (p:Int)) (Xfa ⟨1,fmG k sl⟩);rw [X5a aN aL,Qq,Option.isSome_some] at hq;exact hq)) (fun _ _ h=>⟨fun _=>by obtain ⟨u,x,rfl,o,f⟩:=h;exact f,h⟩)) ?_;rintro _ aX ⟨u,x,rfl,o,f⟩
 have o:=o.lower i.size;have e:=e.below f;have i:=btr i f;refine Yo 5 rfl (fun _=>X1 (vs:=[.agg #[vi ((opM (fmG k sl)).rows),vi ((opM (fmG k sl)).cols),.slice u ((opM (fmG k sl)).cells.map (dTurn (p:Int))).length x],.bool true]) rfl rfl)<|Yo 6 rfl (fun _=>X1 (vs:=[.agg #[vi ((opM (fmG k sl)).rows),vi ((opM (fmG k sl)).cols),.slice u ((opM (fmG k sl)).cells.map (dTurn (p:Int))).length x],.bool true]) rfl rfl)<|Y1 7 ?_;refine Yh rfl trivial rfl (Vw [vi ((opM (fmG k sl)).rows),vi ((opM (fmG k sl)).cols),.slice u ((opM (fmG k sl)).cells.map (dTurn (p:Int))).length x] X0b e) ?_;rintro _ aY ⟨ho,hb⟩;have t:=e;have o:=o.onlyT ho t rfl;have i:=Below.only i ho aD;have e:=hb;refine Yo 8 rfl (fun _=>X0i rfl) ?_;refine Yd fun a q=>?_;refine aI _ _ ?_
 refine Q6 (X4 q (X0r q rfl (ResV.cellN (l:=[vi ((opM (fmG k sl)).rows),vi ((opM (fmG k sl)).cols),.slice u ((opM (fmG k sl)).cells.map (dTurn (p:Int))).length x]) rfl Xr (e.at 0) rfl) rfl) ?_)
 exact ⟨u,x,rfl,o,i⟩
theorem Xwh(p:World)(Al:Option Addr)(cl:Nat)(l:List Dy)(t:Rd p p.heap.size 53 encD Al l)(k:Nat)(x:k<24)(aA:l=clB k)(aQ:HalfT p) : Ret Tryz.prog 27 [.agg #[.slice Al l.length cl]] p (fun v w=>v=.tuple #[vi (k:Int),.bool true]∧Below p.heap.size p w):=by
 refine enter Tryz.func27 rfl 28 rfl rfl ?_;intro a e
 have g:=bz p
 refine Zs e fun _ aR=>?_;refine Zf (X0j (zs:=[.slice Al l.length cl]) rfl rfl) ?_;rintro _ w1 ⟨b3,rfl,aS,n,f⟩;have aZ:=Q0 g.size aS;have g:=btr g n;refine Za rfl<|Za rfl<|ZX aR fun a e _ aT=>?_;refine Zs e fun _ aU=>?_;refine Ze (Vn X23 f)<|Zf (Vc (Xvz _ Al cl l (t.below' g).top k x aA) Xnu) ?_;rintro _ w2 ⟨rfl,n⟩;have f:=f.below n;have g:=btr g n;refine Ze (X0o rfl)<|Zt aU fun a e=>?_;refine X3i e rfl ?_;refine Q7<|aT _ _<|Zs e fun _ aW=>?_;refine Zf (Vc (Xrb _ (aQ.of g)) Xi5) ?_;rintro _ w3 ⟨A7,c7,A8,c8,q,rfl,aG,i,aB,m,n⟩;have aG:=aG.lower g.size;have i:=i.lower g.size;have f:=f.below n;have g:=btr g n;refine Zm rfl<|Ze (X1 (vs:=[.slice A7 (wsN 24).length c7,.slice A8 q.length c8]) rfl rfl)<|Ze (X1 (vs:=[.slice A7 (wsN 24).length c7,.slice A8 q.length c8]) rfl rfl)<|Za rfl<|Za rfl<|ZX aW fun a e _ b1=>?_;refine Zs e fun _ aH=>?_;refine Zm rfl<|Ze (X2k rfl X1k)<|Zm rfl<|Zt aH fun a e=>?_;refine Q8<|X07 (σ:=Nat) (fun (j:Nat) (a:Act) (w:World)=>Fr a 28 [(1,.pointer (some ⟨b3,0,none⟩)),(15,.slice A8 q.length c8),(16,vi (q.length:Int)),(17,vi (j:Int))]∧(j≤k)∧Blk w b3 58 [.slice Al l.length cl]∧Own w p.heap.size 27 1 encSd A8 c8 q∧DeepD w w.heap.size q∧Below p.heap.size p w) (fun (j:Nat)=>24-j) 0 ?_ ?_
 ·exact ⟨e.sb,(Qf _),f,i,m,g⟩
 rintro j a w4 ⟨e,hj,f,i,m,g⟩;refine Zs e fun _ aI=>?_;refine Ze (X1h rfl rfl)<|ZX aI fun a e _ aJ=>?_
 refine Xl e rfl (fun d=>?_) (fun d=>?_)
 ·have aC:=d;have d:=Q2 d
  obtain ⟨b2,b0⟩:=Xw (l:=q) (k:=j) (by omega)
  have aX:=X7g aB
  have y:j<24:=by have:=d;omega
  obtain ⟨u5,aD⟩:=Xw (l:=q) (k:=j) (by omega)
  have o:=Xi1 aB aD
  have aY:u5.l.length=9:=by rw [o,X6e y]
  refine Q7<|aJ _ _<|Q5 fun _ aK=>?_;refine Q8<|Zs e fun _ aL=>?_;refine Zm rfl<|Zi (k:=j) (u:=u5) (enc:=encSd) (l:=q) trivial rfl rfl X1k X4a X1q i.rd aD rfl ?_;intro b4 aE;have aM:=(m u5 (Qe aD)).top;refine Ze (X0 rfl X0p aE)<|Za rfl<|Za rfl<|Zx aL fun a e _ aN=>?_;refine Zm rfl<|Ze (Vd rfl X1e 0)<|Ze (X0 rfl X0p (f.at 0))<|Zf (Vc (Xvn _ u5.A u5.c u5.l aM.top Al cl l (t.below' g).top (by rw [aY];decide)) Xfn) ?_;rintro _ w5 ⟨rfl,n⟩;have f:=f.below n;have i:=i.below n;have m:=(m.below n).top;have g:=btr g n;refine Zt aN fun a e=>?_
  refine Xl e rfl (fun b=>?_) (fun b=>?_)
  ·have aF:=b;have b:=Q2 b
   have aO:j=k:=Xvi y x (by rw [← o,← aA];exact b)
   refine Zs e fun _ aP=>?_;refine Zm rfl<|Za rfl<|Za rfl<|Zt aP fun a e=>?_;refine Q6<|X05<|Xf<|Xf ?_;refine X05<|Xf<|X4 e (X0r e rfl rfl rfl) ?_;exact ⟨by rw [aO],g⟩
  have aF:=b;have b:=Q1 b
  have aO:j≠k:=fun h8=>b (by rw [o,aA,h8])
  refine Q7<|Xn<|aK _ _<|Zr e ?_;refine Ze (X03 rfl rfl (by omega) (by omega))<|Zm rfl ?_;refine Zn fun a e=>?_;refine Xo ?_;exact ⟨j+1,⟨e.sb,(by omega),f,i,m,g⟩,(by omega)⟩
 have aC:=d;have d:=Q1 d;have aX:=X7g aB
 omega
theorem Xyw(w0:World)(Am:Option Addr)(cm:Nat)(m:Mx)(aR:Rd w0 w0.heap.size 53 encD Am m.cells)(b6:m.cells.length≤2305843009213693951)(aO:HalfT w0) : Ret Tryz.prog 9 [.agg #[vi m.rows,vi m.cols,.slice Am m.cells.length cm]] w0 (fun v w=>v=.tuple #[.agg #[.string (tx (nfs m)),vi (nfk m:Int),vi (nfp m:Int)],.bool (nfM m).isSome]∧Below w0.heap.size w0 w):=by
 have b7:=Xtm m;refine enter Tryz.func9 rfl 93 rfl rfl ?_;intro a i
 have e:=bz w0
 refine Zs i fun _ cK=>?_;refine Zf (X0j (zs:=[vi m.rows,vi m.cols,.slice Am m.cells.length cm]) rfl rfl) ?_;rintro _ w1 ⟨b3,rfl,cM,d,f⟩;have d9:=Q0 e.size cM;have e:=btr e d;refine Zf (X3 (zs:=[.string (tx []),vi 0,vi 0]) X1s rfl) ?_;rintro _ w2 ⟨b4,rfl,cO,d,c⟩;have aS:=Q0 e.size cO;have f:=f.below d;have e:=btr e d;refine Za rfl<|Zx cK fun a i _ cP=>?_;refine Ze (Vn Xr f)<|Zf (Vc (Xml _ m Am cm (aR.below' e).top b6 (aO.of e)) Xci) ?_;rintro _ w3 ⟨A6,c6,rfl,B,d⟩;have B:=B.lower e.size;have f:=f.below d;have c:=c.below d;have e:=btr e d;refine Zm rfl<|Ze (X1 (vs:=[.agg #[.slice A6 ((blochI m).getD []).length c6],.bool ((blochI m).isSome)]) rfl rfl)<|Ze (X1 (vs:=[.agg #[.slice A6 ((blochI m).getD []).length c6],.bool ((blochI m).isSome)]) rfl rfl)<|Zf (X3 (zs:=[.slice none 0 0]) X4k rfl) ?_;rintro _ w4 ⟨b8,rfl,cQ,d,x⟩;have b9:=Q0 e.size cQ;have f:=f.below d;have c:=c.below d;have B:=B.below d;have e:=btr e d;refine Zo (Vw [.slice A6 ((blochI m).getD []).length c6] X2s x) ?_;rintro _ w5 ⟨t,I⟩;have g:=x;have f:=f.only t (Blk.ne f g rfl);have c:=c.only t (Blk.ne c g rfl);have B:=B.onlyT t g rfl;have e:=Below.only e t b9;have x:=I;refine Za rfl<|ZX cP fun a i _ cR=>?_;refine Q5 fun _ bC=>?_;refine X02 (fun a w=>Fr a 93 [(1,.pointer (some ⟨b3,0,none⟩)),(2,.pointer (some ⟨b4,0,none⟩)),(4,.pointer (some ⟨b8,0,none⟩)),(27,.bool ((!((blochI m).isSome))||(decide (40<(bexp ((blochI m).getD []))))))]∧Below w5.heap.size w5 w) ?_ ?_
 ·have o:Below w5.heap.size w5 w5:=Below.refl _ _
  refine Zr i<|Zm rfl<|Ze (X0o rfl)<|Zm rfl ?_
  refine Zg 23 rfl (fun q=>?_) (fun q=>?_)
  ·refine Zp (gP q) ?_;refine Zp (gP q) ?_;refine Zp (gP q) ?_;refine Ze (Xe rfl q rfl) ?_;refine Zn fun a i=>?_
   have H:Below w5.heap.size w5 w5:=o
   exact ⟨i.sub ⟨rfl,rfl,rfl,X2 rfl (by first|rfl|(simp only [q,bs];done)|simp [q]),trivial⟩,H⟩
  refine Zv (gW q) (Vn X23 x) ?_;refine Zk (gW q) (Vc (Xh5 _ A6 c6 ((blochI m).getD []) B.rd.top b7) X9j) ?_;rintro _ w6 ⟨rfl,d⟩;have e:=btr e d;have o:=btr o d;refine Zv (gW q) (X72 rfl rfl) ?_;refine Ze (Xc rfl q rfl) ?_;refine Zn fun a i=>?_
  have H:Below w5.heap.size w5 w6:=o
  exact ⟨i.sub ⟨rfl,rfl,rfl,X2 rfl (by first|rfl|(simp only [q,bs];done)|simp [q]),trivial⟩,H⟩
 rintro a w7 ⟨i,d⟩;have f:=f.below d;have c:=c.below d;have x:=x.below d;have B:=B.below d;have e:=btr e d;refine bC _ _ ?_
 refine Xl i rfl (fun J=>?_) (fun J=>?_)
 ·have aD:=J;have hN:=nfN J;refine Zs i fun _ bD=>?_;refine Ze (Xg (ps:=[]) (cs:=[.string (tx []),vi 0,vi 0]) rfl (fun _=>by first|rfl|kernel_rfl))<|Zo (Vw [.string (tx []),vi 0,vi 0] X0z c) ?_;rintro _ w8 ⟨t,I⟩;have g:=c;have e:=Below.only e t aS;have c:=I;refine Za rfl<|Zt bD fun a i=>?_;refine Q6<|Xf<|X4 i (X0r i rfl (ResV.cellN (l:=[.string (tx []),vi 0,vi 0]) rfl X04 (c.at 0) rfl) rfl) ?_;exact ⟨by rw [hN.s,hN.k,hN.p,hN.n];rfl,e⟩
 have aD:=J;obtain ⟨bE,W⟩:=Xuz J;have hR:=nfR bE W;have hY:=nfY bE W;have dA:=X2d ((blochI m).getD []);refine Q7<|cR _ _<|Q5 fun _ bF=>?_;refine X02 (fun a w=>∃ u,Fr a 93 [(1,.pointer (some ⟨b3,0,none⟩)),(2,.pointer (some ⟨b4,0,none⟩)),(6,.pointer (some ⟨u,0,none⟩)),(7,.slice A6 ((blochI m).getD []).length c6)]∧w0.heap.size≤u∧Blk w u 25 [.string (tx []),vi 0,vi 0]∧b4≠u∧Below w7.heap.size w7 w) ?_ ?_
 ·have o:Below w7.heap.size w7 w7:=Below.refl _ _
  refine Xz none (fun j=>[4].contains j) mixed ?_;intro w9 d;have c:=c.below d;have x:=x.below d;have e:=btr e d;have o:=btr o d;refine Yb i<|Yo 0 rfl (fun _=>Xg (ps:=[]) (cs:=[.string (tx []),vi 0,vi 0]) rfl (fun _=>by first|rfl|kernel_rfl))<|Yo 1 rfl (fun _=>Vd rfl X1e 0) ?_
  have y:Below w9.heap.size w9 w9:=Below.refl _ _
  refine Yc [0,1,2,3] 2 (fun a w=>∃ u,Fr a 93 [(1,.pointer (some ⟨b3,0,none⟩)),(2,.pointer (some ⟨b4,0,none⟩)),(6,.pointer (some ⟨u,0,none⟩)),(29,.agg #[.string (tx []),vi 0,vi 0]),(31,.slice A6 ((blochI m).getD []).length c6)]∧w0.heap.size≤u∧Blk w u 25 [.string (tx []),vi 0,vi 0]∧b4≠u∧w9.heap.size≤u∧w7.heap.size≤u∧Below w9.heap.size w9 w) ?_ ?_
  ·rintro a dB ⟨u,i,A,b,L,aU,aW,d⟩;clear y;have y:=d;have e:=btr e d;have o:=btr o d;refine Yb i<|Y1 4<|Yh rfl trivial rfl (Vw [.string (tx []),vi 0,vi 0] X0z b) ?_;rintro _ w11 ⟨t,I⟩;have g:=b;have o:=Below.only o t aW;have y:=Below.only y t aU;have e:=Below.only e t A;have b:=I;refine Yo 5 rfl (fun _=>X0i rfl) ?_;refine Yd fun a i=>?_
   have H:Below w7.heap.size w7 w11:=o
   exact ⟨u,i.sb,A,b,L,H⟩
  intro aT;refine Y2 2 3 ?_ ?_
  ·refine Yz rfl trivial (Uev (X0 rfl X0p (x.at 0))) ?_;refine Y1 3<|Yk rfl trivial (X3 (zs:=[.string (tx []),vi 0,vi 0]) X1s rfl) (fun _ _ ⟨_,_,_,h,_⟩=>h) ?_;rintro _ dC ⟨b17,rfl,aE,d,bG⟩
   have aF:b4≠b17:=by have:=c.lt;omega
   have aX:=Q0 e.size aE;have aY:=Q0 o.size aE;have aZ:=Q0 y.size aE;have e:=btr e d;have o:=btr o d;have y:=btr y d;exact fun a i=>aT _ a _ rfl ⟨b17,i.sb,aX,bG,aF,aZ,aY,y⟩
  refine Yk rfl trivial (X3 (zs:=[.string (tx []),vi 0,vi 0]) X1s rfl) (fun _ _ ⟨_,_,_,h,_⟩=>h) ?_;rintro _ dD ⟨b18,rfl,aG,d,M⟩
  have N:b4≠b18:=by have:=c.lt;omega
  have aA:=Q0 e.size aG;have aH:=Q0 o.size aG;have aI:=Q0 y.size aG;have x:=x.below d;have e:=btr e d;have o:=btr o d;have y:=btr y d;refine Y2 2 4 ?_ ?_
  ·refine Yz rfl trivial (Uev (X0 rfl X0p (x.at 0))) ?_;exact fun a i=>aT _ a _ rfl ⟨b18,i.sb,aA,M,N,aI,aH,y⟩
  refine Yh rfl trivial rfl (Vw [.string (tx []),vi 0,vi 0] X0z M) ?_;rintro _ w14 ⟨t,I⟩;have g:=M;have x:=x.only t (Blk.ne x g rfl);have o:=Below.only o t aH;have y:=Below.only y t aI;have e:=Below.only e t aA;have M:=I;refine Y1 2<|Yz rfl trivial (Uev (X0 rfl X0p (x.at 0))) ?_;refine Yo 5 rfl (fun _=>X0i rfl) ?_;refine Yd fun a i=>?_
  have H:Below w7.heap.size w7 w14:=o
  exact ⟨b18,i.sub ⟨rfl,rfl,(by first|rfl|(simp [look,aD])),rfl,trivial⟩,aA,M,N,H⟩
 rintro a dE ⟨u,i,A,b,L,d⟩;have f:=f.below d;have c:=c.below d;have B:=B.below d;have e:=btr e d;refine bF _ _<|Q5 fun _ bH=>?_;refine Q8<|X07 (σ:=Nat×(List Dy)×(List UInt8)) (fun (s:Nat×(List Dy)×(List UInt8)) (a:Act) (w:World)=>match s with|(n,lc,tb)=>∃ E G,Fr a 93 [(1,.pointer (some ⟨b3,0,none⟩)),(2,.pointer (some ⟨b4,0,none⟩)),(6,.pointer (some ⟨u,0,none⟩)),(7,.slice E lc.length G)]∧((n:Int)≤bexp ((blochI m).getD []))∧(lc=(stN ((blochI m).getD []) n).2)∧(tb=(stN ((blochI m).getD []) n).1.map sylT)∧Blk w b3 29 [vi m.rows,vi m.cols,.slice Am m.cells.length cm]∧Blk w b4 25 [.string (tx []),vi 0,vi 0]∧Blk w u 25 [.string (tx tb),vi 0,vi 0]∧Own w w0.heap.size 53 5 encD E G lc∧Below w0.heap.size w0 w) (fun (s:Nat×(List Dy)×(List UInt8))=>match s with|(n,lc,tb)=>(bexp ((blochI m).getD [])).toNat-n) (0,((blochI m).getD []),[]) ?_ ?_
 ·exact ⟨A6,c6,i.sb,(by omega),rfl,rfl,f,c,b,B,e⟩
 rintro ⟨n,lc,tb⟩ a dF ⟨E,G,i,hn,aJ,b0,f,c,b,Q,e⟩;obtain ⟨cS,cU,cV,dG⟩:=X5b hR.gd W n hn
 have bI:Gd lc:=by rw [aJ];exact cS
 have dH:bexp lc=bexp ((blochI m).getD [])-(n:Int):=by rw [aJ];exact cU
 have dI:tb.length=n:=by rw [b0,Qo];exact cV
 refine Q5 fun _ bJ=>?_;refine Zs i fun _ bK=>?_;refine Zm rfl<|Ze (Xg (ps:=[(0,.slice E lc.length G)]) (cs:=[.slice E lc.length G]) rfl (fun _=>by first|rfl|kernel_rfl))<|Zf (Vc (Xh5 _ E G lc Q.rd.top (Nat.le_of_eq bI.nine.1)) X9j) ?_;rintro _ dJ ⟨rfl,d⟩;have f:=f.below d;have c:=c.below d;have b:=b.below d;have Q:=Q.below d;have e:=btr e d;refine Ze (X72 rfl rfl)<|Zt bK fun a i=>?_
 refine Xl i rfl (fun z=>?_) (fun z=>?_)
 ·have b1:=z;have z:=Q2 z
  have cW:0<bexp lc:=z
  obtain ⟨p9,dK⟩:=X85 hR.gd W (n:=n) (by omega)
  refine Q7<|bJ _ _<|Q8<|Zs i fun _ bL=>?_;refine Zm rfl<|Zf (Vc (Xw3 _ E G lc Q.rd.top bI cW (by omega) (aO.of e)) Xq3) ?_;rintro _ dL ⟨C,aB,aP,aQ,aK,rfl,U,d⟩;have U:=U.lower e.size;have f:=f.below d;have c:=c.below d;have b:=b.below d;have e:=btr e d;refine Zm rfl<|Ze (X1 (vs:=[.string (tx [sylT C]),.slice aP aB.length aQ,.bool true]) rfl rfl)<|Ze (X1 (vs:=[.string (tx [sylT C]),.slice aP aB.length aQ,.bool true]) rfl rfl)<|Ze (X1 (vs:=[.string (tx [sylT C]),.slice aP aB.length aQ,.bool true]) rfl rfl)<|Za rfl<|Za rfl<|Za rfl<|ZX bL fun a i _ bM=>?_;refine Zs i fun _ bN=>?_;refine Zm rfl<|Ze (X0o rfl)<|Zt bN fun a i=>?_;refine X3i i rfl ?_;refine Q7<|bM _ _<|Zs i fun _ bO=>?_;refine Ze (Vd rfl X0m 0)<|Ze (X0 rfl X2j (b.at 0))<|Zm rfl<|Ze (X3m (s:=tb) (r:=[sylT C]) rfl rfl (by simp;omega))<|Ze (Vd rfl X0m 0)<|Zo (Vu (vs:=[.string (tx (tb++[sylT C]))]) (l':=[.string (tx (tb++[sylT C])),vi 0,vi 0]) rfl rfl X5l b) ?_;rintro _ dM ⟨t,I⟩;have g:=b;have f:=f.only t (Blk.ne f g rfl);have c:=c.only t (by omega);have U:=U.onlyT t g rfl;have e:=Below.only e t A;have b:=I;refine Zt bO fun a i=>?_;refine Zr i<|Zm rfl<|Za rfl ?_;refine Zn fun a i=>?_;refine Xn<|Xo ?_;exact ⟨(n+1,aB,(tb++[sylT C])),⟨aP,aQ,i.sb,(by omega),(by rw [X37 (by rw [← aJ];exact aK)]),(by rw [X37 (by rw [← aJ];exact aK),List.map_append,b0];rfl),f,c,b,U,e⟩,(by first|omega|(dsimp only;omega))⟩
 have b1:=z;have z:=Q1 z
 have bP:n=(bexp ((blochI m).getD [])).toNat:=by have:=z;omega
 have bQ:lc=nfL ((blochI m).getD []):=by rw [aJ,bP];rfl
 have aL:tb=(nfS ((blochI m).getD [])).map sylT:=by rw [b0,bP];rfl
 obtain ⟨bR,bS⟩:=Xg3 hR.gd W
 have cX:lc=clB (clX (nfL ((blochI m).getD []))):=bQ.trans bS
 obtain ⟨dN,bU⟩:=Xd6 hR.gd W
 have b2:(nfS ((blochI m).getD [])).length≤40:=by omega
 have bW:FrmOk tb:=by rw [aL];exact Xn6 hR.gd W
 have bZ:=Xwc hR;refine Q9<|Xm<|Xm<|X08 ?_;refine bH _ _<|Zs i fun _ cA=>?_;refine Zm rfl<|Ze (Xg (ps:=[(0,.slice E lc.length G)]) (cs:=[.slice E lc.length G]) rfl (fun _=>by first|rfl|kernel_rfl))<|Zf (Vc (Xwh _ E G lc Q.rd.top (clX (nfL ((blochI m).getD []))) bR cX (aO.of e)) Xqp) ?_;rintro _ dP ⟨rfl,d⟩;have f:=f.below d;have c:=c.below d;have b:=b.below d;have e:=btr e d;refine Zm rfl<|Ze (X1 (vs:=[vi ((clX (nfL ((blochI m).getD []))) : Int),.bool true]) rfl rfl)<|Ze (X1 (vs:=[vi ((clX (nfL ((blochI m).getD []))) : Int),.bool true]) rfl rfl)<|Ze (Vd rfl X21 1)<|Zo (Vu (vs:=[vi ((clX (nfL ((blochI m).getD []))) : Int)]) (l':=[.string (tx tb),vi ((clX (nfL ((blochI m).getD []))) : Int),vi 0]) rfl rfl X65 b) ?_;rintro _ d5 ⟨t,I⟩;have g:=b;have f:=f.only t (Blk.ne f g rfl);have c:=c.only t (by omega);have e:=Below.only e t A;have b:=I;refine Za rfl<|Zx cA fun a i _ cB=>?_;refine Ze (Vn X04 b)<|Zf (X1d (vs:=[.agg #[.string (tx tb),vi ((clX (nfL ((blochI m).getD []))) : Int),vi 0]]) rfl Xgh (by have hq:=Xrd d5 tb (nfS ((blochI m).getD [])) (clX (nfL ((blochI m).getD []))) 0 bR aL bU b2 (by decide) bW (aO.of e);rw [Xzb] at hq;exact hq)) ?_;rintro _ dQ ⟨aM,aN,rfl,D,d⟩;have D:=D.lower e.size;have f:=f.below d;have c:=c.below d;have b:=b.below d;have e:=btr e d;refine Zm rfl<|Ze (X1 (vs:=[.agg #[vi ((nfW ((blochI m).getD [])).rows),vi ((nfW ((blochI m).getD [])).cols),.slice aM ((nfW ((blochI m).getD [])).cells).length aN],.bool true]) rfl rfl)<|Ze (X1 (vs:=[.agg #[vi ((nfW ((blochI m).getD [])).rows),vi ((nfW ((blochI m).getD [])).cols),.slice aM ((nfW ((blochI m).getD [])).cells).length aN],.bool true]) rfl rfl)<|Zf (X3 (zs:=[vi 0,vi 0,.slice none 0 0]) X0y rfl) ?_;rintro _ dR ⟨b35,rfl,cC,d,aC⟩
 have cD:b3≠b35:=by have:=f.lt;omega
 have b5:=Q0 e.size cC;have f:=f.below d;have c:=c.below d;have b:=b.below d;have D:=D.below d;have e:=btr e d;refine Zo (Vw [vi ((nfW ((blochI m).getD [])).rows),vi ((nfW ((blochI m).getD [])).cols),.slice aM ((nfW ((blochI m).getD [])).cells).length aN] X0b aC) ?_;rintro _ d6 ⟨t,I⟩;have g:=aC;have f:=f.only t (by omega);have c:=c.only t (Blk.ne c g rfl);have b:=b.only t (Blk.ne b g rfl);have D:=D.onlyT t g rfl;have e:=Below.only e t b5;have aC:=I;refine Za rfl<|Zx cB fun a i _ cE=>?_;refine Ze (Vn Xr f)<|Ze (Vn Xr aC)<|Zf (X1d (vs:=[.agg #[vi m.rows,vi m.cols,.slice Am m.cells.length cm],.agg #[vi ((nfW ((blochI m).getD [])).rows),vi ((nfW ((blochI m).getD [])).cols),.slice aM ((nfW ((blochI m).getD [])).cells).length aN]]) rfl Xy5 (by have hq:=G98 d6 m Am cm (aR.below' e).top (nfW ((blochI m).getD [])) aM aN D.rd.top b6 (Xfa _);rw [bZ.1,bZ.2] at hq;exact hq)) ?_;rintro _ dS ⟨ix,rfl,d7,d⟩;have c:=c.below d;have b:=b.below d;have e:=btr e d;obtain ⟨d8,dT⟩:=Xxx hR (d7 rfl);refine Zm rfl<|Ze (X1 (vs:=[vi ix,.bool true,.bool true]) rfl rfl)<|Ze (X1 (vs:=[vi ix,.bool true,.bool true]) rfl rfl)<|Ze (X1 (vs:=[vi ix,.bool true,.bool true]) rfl rfl)<|Za rfl<|Za rfl<|Za rfl<|Zx cE fun a i _ cF=>?_;refine Zm rfl<|Ze (Vd rfl X1u 2)<|Zo (Vu (vs:=[vi ix]) (l':=[.string (tx tb),vi ((clX (nfL ((blochI m).getD []))) : Int),vi ix]) rfl rfl X65 b) ?_;rintro _ w26 ⟨t,I⟩;have g:=b;have c:=c.only t (by omega);have e:=Below.only e t A;have b:=I;refine ZX cF fun a i _ cG=>?_;refine Q5 fun _ cH=>?_
 refine X02 (fun a w=>Fr a 93 [(2,.pointer (some ⟨b4,0,none⟩)),(6,.pointer (some ⟨u,0,none⟩)),(90,.bool false)]∧Below w26.heap.size w26 w) ?_ ?_
 ·have o:Below w26.heap.size w26 w26:=Below.refl _ _
  refine Zr i<|Zm rfl<|Ze (X0o rfl)<|Zm rfl<|Zv (gW rfl) (X7 rfl) ?_;refine Zv (gW rfl) (X0o rfl) ?_;refine Ze (Xc rfl rfl rfl)<|Zm rfl<|Zv (gW rfl) (X7 rfl) ?_;refine Zv (gW rfl) (X0o rfl) ?_;refine Ze (Xc rfl rfl rfl)<|Zm rfl<|Zv (gW rfl) (X7 rfl) ?_;refine Zv (gW rfl) (X0o rfl) ?_;refine Ze (Xc rfl rfl rfl)<|Zm rfl<|Zv (gW rfl) (Vn X04 b) ?_;refine Zk (gW rfl) (Vc (Xrl _ tb ((clX (nfL ((blochI m).getD []))) : Int) ix bW ⟨by omega,by omega⟩ ⟨by omega,by omega⟩) X6d) ?_;rintro _ w27 ⟨rfl,d⟩;have e:=btr e d;have o:=btr o d;refine Zv (gW rfl) (X0o rfl) ?_;refine Ze (Xc rfl rfl rfl) ?_;refine Zn fun a i=>?_
  have H:Below w26.heap.size w26 w27:=o
  exact ⟨i.sb,H⟩
 rintro a dU ⟨i,d⟩;have c:=c.below d;have b:=b.below d;have e:=btr e d;refine cH _ _<|X3i i rfl ?_;refine Q7<|cG _ _<|Zs i fun _ cJ=>?_;refine Ze (Vn X04 b)<|Zo (Vw [.string (tx tb),vi ((clX (nfL ((blochI m).getD []))) : Int),vi ix] X0z c) ?_;rintro _ dW ⟨t,I⟩;have g:=c;have e:=Below.only e t aS;have c:=I;refine Za rfl<|Zt cJ fun a i=>?_
 refine Q6 (X4 i (X0r i rfl (ResV.cellN (l:=[.string (tx tb),vi ((clX (nfL ((blochI m).getD []))) : Int),vi ix]) rfl X04 (c.at 0) rfl) rfl) ?_)
 exact ⟨by rw [hY.s,hY.k,hY.p,hY.n,← aL,← d8],e⟩
theorem Xw8(G:World)(tb:List UInt8)(sl:List Nat)(k p:Nat)(L:k<24)(bK:tb=sl.map sylT)(cM:∀ s ∈ sl,s<3)(bL:sl.length≤40)(dG:p<8) : Ret Tryz.prog 23 [.agg #[.string (tx tb),vi (k:Int),vi (p:Int)]] G (fun v w=>∃ A c,v=.agg #[vi 1,.slice A (fmW k sl p).length c]∧Own w G.heap.size 103 3 encG A c (fmW k sl p)∧Below G.heap.size G w):=by
 have dH:(wsN 24).length=24:=X4f 24
 have dI:=(X6t L).2
 have dJ:tb.length=sl.length:=by rw [bK,Qo]
 refine enter Tryz.func23 rfl 62 rfl rfl ?_;intro a m
 have g:=bz G
 refine Zs m fun _ cO=>?_;refine Zf (X0j (zs:=[.string (tx tb),vi (k:Int),vi (p:Int)]) rfl rfl) ?_;rintro _ w1 ⟨b2,rfl,cP,n,b⟩;have dC:=Q0 g.size cP;have g:=btr g n;refine Zf (X3 (zs:=[vi 0,.slice none 0 0]) Xvm rfl) ?_;rintro _ w2 ⟨b4,rfl,cQ,n,e⟩;have bM:=Q0 g.size cQ;have b:=b.below n;have g:=btr g n;refine Zx cO fun a m _ cR=>?_;refine Ze (Xg (ps:=[(0,vi 1)]) (cs:=[vi 1,.slice none 0 0]) rfl (fun _=>by first|rfl|kernel_rfl))<|Zf (X3 (zs:=[vi 0,.slice none 0 0]) Xvm rfl) ?_;rintro _ w3 ⟨b8,rfl,cS,n,d⟩
 have cK:b4≠b8:=by have:=e.lt;omega
 have I:=Q0 g.size cS;have b:=b.below n;have e:=e.below n;have g:=btr g n;refine Zo (Vw [vi 1,.slice none 0 0] Xkt d) ?_;rintro _ w4 ⟨h,hb⟩;have o:=d;have b:=b.only h (Blk.ne b o rfl);have e:=e.only h (by omega);have g:=Below.only g h I;have d:=hb;refine ZX cR fun a m _ cU=>?_;refine Xz none (fun _=>false) mixed ?_;intro w5 n;have b:=b.below n;have e:=e.below n;have d:=d.below n;have g:=btr g n;refine Yb m<|Yo 1 rfl (fun _=>Vd rfl X21 1)<|Ye 2 rfl (X0 rfl X9 (b.at 1))<|Y1 0 ?_;refine Yk rfl trivial (Vc (Xy8 _) Xpm) (fun _ _ ⟨cV,cW,_,M,n⟩=>n) ?_;rintro _ w6 ⟨cV,cW,rfl,M,n⟩;have M:=M.lower g.size;have b:=b.below n;have e:=e.below n;have d:=d.below n;have g:=btr g n;refine Yi (k:=k) (u:=tx (cw k)) (enc:=encTx) (l:=(wsN 24)) 3 rfl trivial rfl rfl X0t X5l X10 M.rd (Xdl L) rfl ?_;intro dK aT;refine Ye 4 rfl (X0 rfl X2j aT)<|Yo 5 rfl (fun _=>X0i rfl) ?_;refine Yd fun a m=>?_;refine cU _ _<|Q5 fun _ bN=>?_;refine Zs m fun _ bO=>?_;refine Za rfl<|Zt bO fun a m=>?_;refine Q8<|X07 (σ:=Nat×(List Gt)) (fun (s:Nat×(List Gt)) (a:Act) (w:World)=>match s with|(j,gs)=>∃ aK aL,Fr a 62 [(1,.pointer (some ⟨b2,0,none⟩)),(2,.pointer (some ⟨b4,0,none⟩)),(3,.pointer (some ⟨b8,0,none⟩)),(4,.string (tx (cw k))),(5,vi (j:Int))]∧(j≤(cw k).length)∧(gs=wdG ((cw k).take j))∧Blk w b2 25 [.string (tx tb),vi (k:Int),vi (p:Int)]∧Blk w b4 48 [vi 0,.slice none 0 0]∧Blk w b8 48 [vi 1,.slice aK gs.length aL]∧Own w G.heap.size 103 3 encG aK aL gs∧Below G.heap.size G w) (fun (s:Nat×(List Gt))=>match s with|(j,gs)=>(cw k).length-j) (0,[]) ?_ ?_
 ·exact ⟨none,0,m.sb,(Qf _),rfl,b,e,d,(Own.nil _ _ _ _ _),g⟩
 rintro ⟨j,gs⟩ a w7 ⟨aK,aL,m,hj,y,b,e,d,q,g⟩
 have dL:gs.length≤9:=by rw [y];simp [wdG];omega
 refine Q5 fun _ bP=>?_;refine Zs m fun _ bQ=>?_;refine Zm rfl<|Zm rfl<|Ze (X4y (s:=(cw k)) rfl Tryz.underlying9)<|Ze (X1h rfl rfl)<|Zt bQ fun a m=>?_
 refine Xl m rfl (fun B=>?_) (fun B=>?_)
 ·have aU:=B;have B:=Q2 B
  obtain ⟨dM,dD⟩:=Xw (l:=(cw k)) (k:=j) (by omega)
  obtain ⟨u7,aC⟩:=Xw (l:=cw k) (k:=j) (by have:=B;omega)
  refine Q7<|bP _ _<|Q5 fun _ aO=>?_;refine Q8<|Zs m fun _ bR=>?_;refine Za rfl<|ZX bR fun a m _ aP=>?_;refine Zs m fun _ bS=>?_;refine Zm rfl<|Zm rfl<|Ze (X63 (s:=(cw k)) (k:=j) (u:=u7) rfl rfl Tryz.underlying9 rfl aC)<|Ze (X9r rfl rfl)<|Zt bS fun a m=>?_
  refine Xl m rfl (fun J=>?_) (fun J=>?_)
  ·have aW:=J;have aX:=Xfq J;refine Zr m<|Za rfl<|Zt aP fun a m=>?_;refine Zr m<|Ze (Vd rfl X1x 1)<|Ze (X0 rfl X6b (d.at 1))<|Zm rfl<|Ze (Xg (ps:=[(0,vi 5)]) (cs:=[vi 5,vi 0,vi 0]) rfl (fun _=>by first|rfl|kernel_rfl))<|Zf (Xb (k:=1) (vs:=[.agg #[vi 5,vi 0,vi 0]]) (zs:=[vi 5,vi 0,vi 0]) rfl X1p X18 rfl rfl) ?_;rintro _ w8 ⟨dN,rfl,aQ,n,aD⟩;have cX:=Q0 g.size aQ;have Q:=q.away aQ;have b:=b.below n;have e:=e.below n;have d:=d.below n;have q:=q.below n;have g:=btr g n;refine Zf (X0q (enc:=encG) (l:=(gs)) (l2:=([(⟨5,0,0⟩ : Gt)])) (B0:=G.heap.size) rfl rfl X1p X18 X1a X2l q (Rd.of_blk aD rfl _ aD.lt) (by simp only [maxLen];simp;omega) (by simp;omega) g.size) ?_;rintro _ w9 ⟨aY,aZ,rfl,aE,y,H⟩
   have f:Own _ G.heap.size 103 3 encG _ _ (gs):=q
   have bH:=H _ aD.lt Q;clear H;have b:=b.appT f y rfl;have e:=e.appT f y rfl;have d:=d.appT f y rfl;have g:=Below.app g f y (Qb _) g.size;clear f y;refine Ze (Vd rfl X1x 1)<|Zo (Vu (vs:=[.slice aY (gs++([(⟨5,0,0⟩ : Gt)])).length aZ]) (l':=[vi 1,.slice aY (gs++([(⟨5,0,0⟩ : Gt)])).length aZ]) rfl rfl Xbs d) ?_;rintro _ dP ⟨h,hb⟩;have o:=d;have b:=b.only h (Blk.ne b o rfl);have e:=e.only h (by omega);have aE:=aE.onlyT h o rfl;have g:=Below.only g h I;have d:=hb;refine Zn fun a m=>?_;refine Xn<|aO _ _<|Zr m<|Zm rfl<|Ze (X03 rfl rfl (by omega) (by omega))<|Za rfl ?_;refine Zn fun a m=>?_;refine Xo ?_;exact ⟨(j+1,gs++([(⟨5,0,0⟩ : Gt)])),⟨aY,aZ,m.sb,(by omega),(by rw [y,X6g aC,aX]),b,e,d,aE,g⟩,(by first|omega|(dsimp only;omega))⟩
  have aW:=J;have aX:=Xfm J;refine Q7<|aP _ _<|Zr m<|Ze (Vd rfl X1x 1)<|Ze (X0 rfl X6b (d.at 1))<|Zm rfl<|Ze (Xg (ps:=[(0,vi 1)]) (cs:=[vi 1,vi 0,vi 0]) rfl (fun _=>by first|rfl|kernel_rfl))<|Zf (Xb (k:=1) (vs:=[.agg #[vi 1,vi 0,vi 0]]) (zs:=[vi 1,vi 0,vi 0]) rfl X1p X18 rfl rfl) ?_;rintro _ dQ ⟨dR,rfl,aR,n,aF⟩;have d5:=Q0 g.size aR;have U:=q.away aR;have b:=b.below n;have e:=e.below n;have d:=d.below n;have q:=q.below n;have g:=btr g n;refine Zf (X0q (enc:=encG) (l:=(gs)) (l2:=([(⟨1,0,0⟩ : Gt)])) (B0:=G.heap.size) rfl rfl X1p X18 X1a X2l q (Rd.of_blk aF rfl _ aF.lt) (by simp only [maxLen];simp;omega) (by simp;omega) g.size) ?_;rintro _ dS ⟨b0,b1,rfl,aG,y,H⟩
  have f:Own _ G.heap.size 103 3 encG _ _ (gs):=q
  have bI:=H _ aF.lt U;clear H;have b:=b.appT f y rfl;have e:=e.appT f y rfl;have d:=d.appT f y rfl;have g:=Below.app g f y (Qb _) g.size;clear f y;refine Ze (Vd rfl X1x 1)<|Zo (Vu (vs:=[.slice b0 (gs++([(⟨1,0,0⟩ : Gt)])).length b1]) (l':=[vi 1,.slice b0 (gs++([(⟨1,0,0⟩ : Gt)])).length b1]) rfl rfl Xbs d) ?_;rintro _ dT ⟨h,hb⟩;have o:=d;have b:=b.only h (Blk.ne b o rfl);have e:=e.only h (by omega);have aG:=aG.onlyT h o rfl;have g:=Below.only g h I;have d:=hb;refine Zn fun a m=>?_;refine Xn<|aO _ _<|Zr m<|Zm rfl<|Ze (X03 rfl rfl (by omega) (by omega))<|Za rfl ?_;refine Zn fun a m=>?_;refine Xo ?_;exact ⟨(j+1,gs++([(⟨1,0,0⟩ : Gt)])),⟨b0,b1,m.sb,(by omega),(by rw [y,X6g aC,aX]),b,e,d,aG,g⟩,(by first|omega|(dsimp only;omega))⟩
 have aU:=B;have B:=Q1 B
 have bU:gs=wdG (cw k):=by rw [y,Qi (by omega)]
 refine Q9<|Xm<|Xm<|X08 ?_;refine bN _ _<|Q5 fun _ bW=>?_;refine Zs m fun _ bZ=>?_;refine Ze (Vd rfl X0m 0)<|Ze (X0 rfl X2j (b.at 0))<|Ze (X4y (s:=tb) rfl Tryz.underlying9)<|Ze (X1m rfl rfl (by omega) (by omega))<|Za rfl<|Zt bZ fun a m=>?_;refine Q8<|X07 (σ:=Nat×Int×(List Gt)) (fun (s:Nat×Int×(List Gt)) (a:Act) (w:World)=>match s with|(j2,i,z)=>∃ aM aN,Fr a 62 [(1,.pointer (some ⟨b2,0,none⟩)),(2,.pointer (some ⟨b4,0,none⟩)),(3,.pointer (some ⟨b8,0,none⟩)),(7,vi i)]∧(j2≤sl.length)∧(i=(sl.length:Int)-1-(j2:Int))∧(z=fmG k (sl.drop (sl.length-j2)))∧Blk w b2 25 [.string (tx tb),vi (k:Int),vi (p:Int)]∧Blk w b4 48 [vi 0,.slice none 0 0]∧Blk w b8 48 [vi 1,.slice aM z.length aN]∧Own w G.heap.size 103 3 encG aM aN z∧Below G.heap.size G w) (fun (s:Nat×Int×(List Gt))=>match s with|(j2,i,z)=>sl.length-j2) (0,((tb.length:Int)-1),gs) ?_ ?_
 ·exact ⟨aK,aL,m.sb,(Qf _),(by omega),(by rw [bU,Nat.sub_zero,List.drop_length,X9p]),b,e,d,q,g⟩
 rintro ⟨j2,i,z⟩ a dU ⟨aM,aN,m,dW,hi,b3,b,e,d,E,g⟩
 have dE:z.length≤126:=by rw [b3];exact X9h L (by rw [List.length_drop];omega)
 refine Q5 fun _ cA=>?_;refine Zs m fun _ cB=>?_;refine Zm rfl<|Ze (Xdd rfl rfl)<|Zt cB fun a m=>?_
 refine Xl m rfl (fun t=>?_) (fun t=>?_)
 ·have b5:=t;have t:=Q2 t
  obtain ⟨s,d6,d7,d8⟩:=Xj8 (sl:=sl) (j:=j2) (by have:=t;omega)
  have aC:=Xlm bK d6;have dX:=X57 s;refine Q7<|cA _ _<|Q5 fun _ cC=>?_;refine Q8<|Xz none (fun j=>[7,9].contains j) mixed ?_;intro dY n;have b:=b.below n;have e:=e.below n;have d:=d.below n;have E:=E.below n;have g:=btr g n;refine Yb m<|Yo 0 rfl (fun _=>Vd rfl X1x 1)<|Ye 1 rfl (X0 rfl X6b (d.at 1))<|Yo 2 rfl (fun _=>Vd rfl X0m 0)<|Ye 3 rfl (X0 rfl X2j (b.at 0))<|Yo 4 rfl (fun _=>X7 rfl)<|Yo 5 rfl (fun _=>X63 (s:=tb) (k:=(sl.length-1-j2)) (u:=(sylT s)) rfl rfl Tryz.underlying9 (by omega) aC)<|Y1 6 ?_;refine Yk rfl trivial (Vc (Xxw _ (sylT s) s (cM s d7) rfl) Xq8) (fun _ _ ⟨d9,dA,_,N,n⟩=>n) ?_;rintro _ e7 ⟨d9,dA,rfl,N,n⟩;have N:=N.lower g.size;have b:=b.below n;have e:=e.below n;have d:=d.below n;have E:=E.below n;have g:=btr g n;refine Y1 7<|Yt rfl trivial rfl (X0q (enc:=encG) (l:=(z)) (l2:=((sylG s))) (B0:=G.heap.size) rfl rfl X1p X18 X1a X2l E N.rd (by simp only [maxLen];omega) (by omega) g.size) ?_;rintro _ e8 ⟨b6,b7,rfl,aH,y,H⟩
  have f:Own _ G.heap.size 103 3 encG _ _ (z):=E
  clear H;have b:=b.appT f y rfl;have e:=e.appT f y rfl;have d:=d.appT f y rfl;have g:=Below.app g f y (Qb _) g.size;clear f y;refine Yo 8 rfl (fun _=>Vd rfl X1x 1)<|Y1 9 ?_;refine Yh rfl trivial rfl (Vu (vs:=[.slice b6 (z++(sylG s)).length b7]) (l':=[vi 1,.slice b6 (z++(sylG s)).length b7]) rfl rfl Xbs d) ?_;rintro _ eA ⟨h,hb⟩;have o:=d;have b:=b.only h (Blk.ne b o rfl);have e:=e.only h (by omega);have aH:=aH.onlyT h o rfl;have g:=Below.only g h I;have d:=hb;refine Yd fun a m=>?_;refine Xn<|cC _ _<|Zr m<|Zm rfl<|Ze (X1m rfl rfl (by omega) (by omega))<|Za rfl ?_;refine Zn fun a m=>?_;refine Xo ?_;exact ⟨(j2+1,(i-1),z++(sylG s)),⟨b6,b7,m.sb,(by omega),(by omega),(by rw [b3,d8,X4p]),b,e,d,aH,g⟩,(by first|omega|(dsimp only;omega))⟩
 have b5:=t;have t:=Q1 t
 have b9:z=fmG k sl:=by rw [b3,show sl.length-j2=0 from by have:=t;omega,List.drop_zero]
 refine Q9<|Xm<|Xm<|X08 ?_;refine bW _ _<|Q5 fun _ cD=>?_;refine Zs m fun _ cE=>?_;refine Za rfl<|Zt cE fun a m=>?_;refine Q8<|X07 (σ:=Nat×(List Gt)) (fun (s:Nat×(List Gt)) (a:Act) (w:World)=>match s with|(j3,x)=>∃ W aA,Fr a 62 [(1,.pointer (some ⟨b2,0,none⟩)),(2,.pointer (some ⟨b4,0,none⟩)),(3,.pointer (some ⟨b8,0,none⟩)),(8,vi (j3:Int))]∧(j3≤p)∧(x=fmW k sl j3)∧Blk w b2 25 [.string (tx tb),vi (k:Int),vi (p:Int)]∧Blk w b4 48 [vi 0,.slice none 0 0]∧Blk w b8 48 [vi 1,.slice W x.length aA]∧Own w G.heap.size 103 3 encG W aA x∧Below G.heap.size G w) (fun (s:Nat×(List Gt))=>match s with|(j3,x)=>p-j3) (0,z) ?_ ?_
 ·exact ⟨aM,aN,m.sb,(Qf _),(by rw [Xmw,b9]),b,e,d,E,g⟩
 rintro ⟨j3,x⟩ a eB ⟨W,aA,m,eC,bC,b,e,d,C,g⟩
 have dF:x.length≤126+j3:=by rw [bC];exact Xge L bL j3
 refine Q5 fun _ cF=>?_;refine Zs m fun _ cG=>?_;refine Zm rfl<|Ze (Vd rfl X1u 2)<|Ze (X0 rfl X9 (b.at 2))<|Ze (X1h rfl rfl)<|Zt cG fun a m=>?_
 refine Xl m rfl (fun D=>?_) (fun D=>?_)
 ·have bD:=D;have D:=Q2 D;refine Q7<|cF _ _<|Q5 fun _ cH=>?_;refine Q8<|Zr m<|Ze (Vd rfl X1x 1)<|Ze (X0 rfl X6b (d.at 1))<|Ze (Xg (ps:=[(0,vi 12)]) (cs:=[vi 12,vi 0,vi 0]) rfl (fun _=>by first|rfl|kernel_rfl))<|Zf (Xb (k:=1) (vs:=[.agg #[vi 12,vi 0,vi 0]]) (zs:=[vi 12,vi 0,vi 0]) rfl X1p X18 rfl rfl) ?_;rintro _ eD ⟨eE,rfl,aS,n,aI⟩;have dB:=Q0 g.size aS;have aB:=C.away aS;have b:=b.below n;have e:=e.below n;have d:=d.below n;have C:=C.below n;have g:=btr g n;refine Zf (X0q (enc:=encG) (l:=(x)) (l2:=([(⟨12,0,0⟩ : Gt)])) (B0:=G.heap.size) rfl rfl X1p X18 X1a X2l C (Rd.of_blk aI rfl _ aI.lt) (by simp only [maxLen];simp;omega) (by simp;omega) g.size) ?_;rintro _ eF ⟨bE,bF,rfl,aJ,y,H⟩
  have f:Own _ G.heap.size 103 3 encG _ _ (x):=C
  have bJ:=H _ aI.lt aB;clear H;have b:=b.appT f y rfl;have e:=e.appT f y rfl;have d:=d.appT f y rfl;have g:=Below.app g f y (Qb _) g.size;clear f y;refine Ze (Vd rfl X1x 1)<|Zo (Vu (vs:=[.slice bE (x++([(⟨12,0,0⟩ : Gt)])).length bF]) (l':=[vi 1,.slice bE (x++([(⟨12,0,0⟩ : Gt)])).length bF]) rfl rfl Xbs d) ?_;rintro _ eH ⟨h,hb⟩;have o:=d;have b:=b.only h (Blk.ne b o rfl);have e:=e.only h (by omega);have aJ:=aJ.onlyT h o rfl;have g:=Below.only g h I;have d:=hb;refine Zn fun a m=>?_;refine Xn<|cH _ _<|Zr m<|Zm rfl<|Ze (X03 rfl rfl (by omega) (by omega))<|Za rfl ?_;refine Zn fun a m=>?_;refine Xo ?_;exact ⟨(j3+1,x++([(⟨12,0,0⟩ : Gt)])),⟨bE,bF,m.sb,(by omega),(by rw [bC,Xmu]),b,e,d,aJ,g⟩,(by first|omega|(dsimp only;omega))⟩
 have bD:=D;have D:=Q1 D
 have bG:x=fmW k sl p:=by rw [bC,show j3=p from by have:=D;omega]
 refine Q9<|Xm<|Xm<|X08 ?_;refine cD _ _<|Zs m fun _ cJ=>?_;refine Ze (Vn Xbq d)<|Zo (Vw [vi 1,.slice W x.length aA] Xkt e) ?_;rintro _ eI ⟨h,hb⟩;have o:=e;have C:=C.onlyT h o rfl;have g:=Below.only g h bM;have e:=hb;refine Zt cJ fun a m=>?_
 refine Q6 (X4 m (Xx m rfl (ResV.cellN (l:=[vi 1,.slice W x.length aA]) rfl Xbq (e.at 0) rfl)) ?_)
 subst bG
 exact ⟨W,aA,rfl,C,g⟩
theorem Xxh(d:World){aA aB:TypeId}(Ap:Option Addr)(cp:Nat)(p:List Int)(aE:Rd d d.heap.size aA encU Ap p)(Aq:Option Addr)(cq:Nat)(q:List Int)(aF:Rd d d.heap.size aB encU Aq q) : Ret Tryz.prog 4 [.slice Ap p.length cp,.slice Aq q.length cq] d (fun v w=>v=.bool (decide (1048576<(p.length:Int))||decide (wr (1048576-(p.length:Int))<(q.length:Int)))∧Below d.heap.size d w):=by
 refine enter Tryz.func4 rfl 16 rfl rfl ?_;intro a c
 have hW:=bz d
 refine Zs c fun _ aC=>?_;refine Za rfl<|ZX aC fun a c _ aD=>?_;refine X02 (fun a w=>Fr a 16 [(4,.bool ((decide (1048576<(p.length:Int)))||(decide ((wr (1048576-(p.length:Int)))<(q.length:Int)))))]∧d=w) ?_ ?_
 ·refine Zr c<|Zm rfl<|Ze (X2k rfl X3v)<|Ze (X72 rfl rfl)<|Zm rfl ?_
  refine Zg 8 rfl (fun b=>?_) (fun b=>?_)
  ·refine Zp (gP b) ?_;refine Zp (gP b) ?_;refine Zp (gP b) ?_;refine Zp (gP b) ?_;refine Zp (gP b) ?_;refine Zp (gP b) ?_;refine Ze (Xe rfl b rfl)<|Za rfl ?_;refine Zn fun a c=>?_;exact ⟨c.sub ⟨X2 rfl (by first|rfl|(simp only [b,bs];done)|simp [b]),trivial⟩,rfl⟩
  refine Zv (gW b) (X7 rfl) ?_;refine Zv (gW b) (X2k rfl X3v) ?_;refine Zv (gW b) (X7 rfl) ?_;refine Zv (gW b) (X2k rfl X3v) ?_;refine Zv (gW b) (X3t rfl rfl) ?_;refine Zv (gW b) (X72 rfl rfl) ?_;refine Ze (Xc rfl b rfl)<|Za rfl ?_;refine Zn fun a c=>?_;exact ⟨c.sub ⟨X2 rfl (by first|rfl|(simp only [b,bs];done)|simp [b]),trivial⟩,rfl⟩
 rintro a _ ⟨c,rfl⟩;refine aD _ _ ?_
 refine Q6 (X4 c (Xx c rfl rfl) ?_)
 exact ⟨rfl,hW⟩
end Go.Proofs.YtckoekhjglafjaaGreatDoor
namespace Go.Proofs.YtckoekhjglafjaaGreatDoor
open Go.ChangeShapes Go.WideShapes Go.ChangeAt Go.RowKit Go.Deep Go.Joins
set_option linter.unusedVariables false
theorem Xgs : Tryz.prog.globalNamed "loop.example/g00864/impl.half" = some 0 := by kernel_rfl
theorem Xs1:(Tryz.prog.globals[0]?).map (·.type)=some (53:TypeId):=by kernel_rfl
theorem Xdv:Tryz.prog.cellsOf 51=4:=by kernel_rfl
theorem Xmc:Tryz.prog.cellsOf 53=5:=by kernel_rfl
section
variable {H : Type} {enc : TypeId × Value → H} {w : World} {base fuel : Nat} {spare : Nat → Bool} {held : Bool}
set_option maxRecDepth 100000 in
theorem Xqy{cs:List Value}{a b c d:Int}{p:List MemPlace}(h:DataW.trod enc Tryz.prog w base spare held fuel 51 cs=some (.agg [.lit (.int .i64 a),.lit (.int .i64 b),.lit (.int .i64 c),.lit (.int .i64 d)],p)) : cs=encR ⟨a,b,c,d⟩:=by
 obtain ⟨y0,y1,y2,y3,n,hx,hl,h0,h1,h2,h3⟩:=trod_struct4 Tryz.underlying51 h
 rw [Xdv] at hl
 match cs,hl with
 | [c0,c1,c2,c3],_=>
  simp only [Xl6] at h0 h1 h2 h3
  obtain ⟨a',e0,rfl,_⟩:=DataW.trod_int Tryz.underlying3 h0;obtain ⟨b',e1,rfl,_⟩:=DataW.trod_int Tryz.underlying3 h1;obtain ⟨c',e2,rfl,_⟩:=DataW.trod_int Tryz.underlying3 h2;obtain ⟨d',e3,rfl,_⟩:=DataW.trod_int Tryz.underlying3 h3
  simp at e0 e1 e2 e3 hx
  obtain ⟨⟨rfl,rfl,rfl,rfl⟩,_⟩:=hx
  rw [e0,e1,e2,e3]
  rfl
set_option maxRecDepth 100000 in
theorem Xqa{cs:List Value}{p:List MemPlace}(h:DataW.trod enc Tryz.prog w base spare held fuel 53 cs=some (Rows.laid_loop_example_g00864_impl_half,p)) : cs=encD dHf:=by
 obtain ⟨y0,y1,n,hx,hl,h0,h1⟩:=trod_struct2 Tryz.underlying53 h
 rw [Xmc] at hl
 match cs,hl with
 | [c0,c1,c2,c3,c4],_=>
  simp only [Xdv] at h0
  simp only [Xl6] at h1
  obtain ⟨z,e1,rfl,_⟩:=DataW.trod_int Tryz.underlying3 h1
  unfold Rows.laid_loop_example_g00864_impl_half at hx
  obtain ⟨y,py⟩:=y0
  simp at e1 hx
  obtain ⟨⟨rfl,rfl⟩,_⟩:=hx
  have e0:=Xqy h0
  simp [encR] at e0
  obtain ⟨g0,g1,g2,g3⟩:=e0
  rw [g0,g1,g2,g3,e1]
  rfl
end
theorem Xfs {H : Type} {enc : TypeId × Value → H} {W W' : World} {gs : List (DataW H)} {q : List MemPlace} (h : DataW.TrodVars enc Tryz.prog W (fun _ => true) ["loop.example/g00864/impl.half"] gs q) (hlt : ∀ x ∈ q, x.block < W.heap.size) (hb : Below W.heap.size W W') {sp : Nat → Bool} (hs : ∀ x ∈ q, sp x.block = true) : DataW.TrodVars enc Tryz.prog W' sp ["loop.example/g00864/impl.half"] gs q := by
 obtain ⟨g,t,cs,fuel,d,p,rfl,h1,h2,h3,h4,rfl⟩:=trodVars_one h
 have h1':=h1
 have h2':=h2
 rw [Xgs] at h1'
 obtain rfl:=Option.some.inj h1'
 rw [Xs1] at h2'
 obtain rfl:=Option.some.inj h2'
 have h3' : W'.var? Tryz.prog "loop.example/g00864/impl.half" = some cs := by
  unfold World.var? at h3 ⊢
  rw [Xgs,Qz] at h3 ⊢
  cases hh:W.heap[0]? with
  | none=>rw [hh] at h3;cases h3
  | some r=>rw [hb.block 0 (Qp.1 hh).1];exact h3
 exact trodVars_mk1 (fuel:=fuel) h1 h2 h3' (DataW.trod_stays (kids_book Xd1 (by kernel_rfl)) (book_sized (by kernel_rfl)) (fun h=>by cases h) ⟨Q2 (by kernel_rfl),book_self _⟩ h4 (fun x hx=>hb.same (hlt x (Qu.2 (.inr hx)))) (fun x hx=>hs x (Qu.2 (.inr hx))))
end Go.Proofs.YtckoekhjglafjaaGreatDoor
namespace Go.Proofs.YtckoekhjglafjaaGreatDoor
open Go.RowKit
theorem Xhf(w0:World)(ss:List UInt8)(fc fp:Int)(aR:ss.length≤1000000000) : Ret Tryz.prog 15 [.agg #[.string (tx ss),vi fc,vi fp]] w0 (fun v w=>v=.bool (frmB ss fc fp)∧Below w0.heap.size w0 w):=by
 skip
 refine enter Tryz.func15 rfl 44 rfl rfl ?_;intro a g
 have q:=bz w0
 refine Zs g fun _ aH=>?_;refine Zf (X0j (zs:=[.string (tx ss),vi fc,vi fp]) rfl rfl) ?_;rintro _ w1 ⟨b2,rfl,aI,hE,o⟩;have aQ:=Q0 q.size aI;have q:=btr q hE;refine Za rfl<|ZX aH fun a g _ aJ=>?_;refine Zs g fun _ aK=>?_;refine Za rfl<|Zt aK fun a g=>?_;refine Q8<|X07 (σ:=Nat) (fun (i:Nat) (a:Act) (w:World)=>Fr a 44 [(1,.pointer (some ⟨b2,0,none⟩)),(3,vi (i:Int))]∧(i≤ss.length)∧(∀ j:Nat,j<i→∀ u,ss[j]? = some u→badF j u=false)∧Blk w b2 25 [.string (tx ss),vi fc,vi fp]∧Below w0.heap.size w0 w) (fun (i:Nat)=>ss.length-i) 0 ?_ ?_
 ·exact ⟨g.sb,(Qf _),(fun j hj=>by omega),o,q⟩
 rintro i a w2 ⟨g,hi,t,o,q⟩;refine Q5 fun _ aL=>?_;refine Zs g fun _ aM=>?_;refine Zm rfl<|Ze (Vd rfl X0m 0)<|Ze (X0 rfl X2j (o.at 0))<|Ze (X4y (s:=ss) rfl Tryz.underlying9)<|Ze (X1h rfl rfl)<|Zt aM fun a g=>?_
 refine Xl g rfl (fun n=>?_) (fun n=>?_)
 ·have c:=n;have n:=Q2 n
  obtain ⟨u8,aS⟩:=Xw (l:=ss) (k:=i) (by omega)
  obtain ⟨u7,aA⟩:=Xw (l:=ss) (k:=i) (by have:=n;omega)
  refine Q7<|aL _ _<|Q5 fun _ aN=>?_;refine Q8<|Zs g fun _ aC=>?_;refine Ze (Vd rfl X0m 0)<|Ze (X0 rfl X2j (o.at 0))<|Zm rfl<|Ze (X63 (s:=ss) (k:=i) (u:=u7) rfl rfl Tryz.underlying9 rfl aA)<|Za rfl<|ZX aC fun a g _ aD=>?_;refine X02 (fun a w=>Fr a 44 [(1,.pointer (some ⟨b2,0,none⟩)),(3,vi (i:Int)),(29,.bool ((((u7.toNat:Int) != 72)&&((u7.toNat:Int) != 83))&&(((u7.toNat:Int) != 84)||(decide (0<(i:Int))))))]∧w2=w) ?_ ?_
  ·refine Zr g<|Zm rfl<|Ze (X6s rfl rfl)<|Zm rfl ?_
   refine Zg 18 rfl (fun d=>?_) (fun d=>?_)
   ·refine Zv (gW d) (X7 rfl) ?_;refine Zv (gW d) (X6s rfl rfl) ?_;refine Ze (Xe rfl d rfl)<|Zm rfl ?_
    refine Zg 22 rfl (fun b=>?_) (fun b=>?_)
    ·refine Zv (gW b) (X7 rfl) ?_;refine Zv (gW b) (X6s rfl rfl) ?_;refine Zv (gW b) (X7 rfl) ?_
     refine Zg 25 rfl (fun m=>?_) (fun m=>?_)
     ·refine Zp (gP m) ?_;refine Zp (gP m) ?_;refine Zv (gW b) (Xe rfl m rfl) ?_;refine Ze (Xe rfl b rfl) ?_;refine Zn fun a g=>?_;exact ⟨g.sub ⟨rfl,rfl,X2 rfl (by first|rfl|(simp only [c,d,b,m,bs];done)|simp [c,d,b,m]),trivial⟩,rfl⟩
     refine Zv (gW m) (X7 rfl) ?_;refine Zv (gW m) (X72 rfl rfl) ?_;refine Zv (gW b) (Xc rfl m rfl) ?_;refine Ze (Xe rfl b rfl) ?_;refine Zn fun a g=>?_;exact ⟨g.sub ⟨rfl,rfl,X2 rfl (by first|rfl|(simp only [c,d,b,m,bs];done)|simp [c,d,b,m]),trivial⟩,rfl⟩
    refine Zp (gP b) ?_;refine Zp (gP b) ?_;refine Zp (gP b) ?_;refine Zp (gP trivial) ?_;refine Zp (gP trivial) ?_;refine Zp (gP b) ?_;refine Ze (Xc rfl b rfl) ?_;refine Zn fun a g=>?_;exact ⟨g.sub ⟨rfl,rfl,X2 rfl (by first|rfl|(simp only [c,d,b,bs];done)|simp [c,d,b]),trivial⟩,rfl⟩
   refine Zp (gP d) ?_;refine Zp (gP d) ?_;refine Ze (Xc rfl d rfl)<|Zm rfl<|Zp (gP rfl) ?_;refine Zp (gP rfl) ?_;refine Zp (gP rfl) ?_;refine Zp (gP trivial) ?_;refine Zp (gP trivial) ?_;refine Zp (gP rfl) ?_;refine Ze (Xc rfl rfl rfl) ?_;refine Zn fun a g=>?_;exact ⟨g.sub ⟨rfl,rfl,X2 rfl (by first|rfl|(simp only [c,d,bs];done)|simp [c,d]),trivial⟩,rfl⟩
  rintro a _ ⟨g,rfl⟩;refine aD _ _ ?_
  refine Xl g rfl (fun p=>?_) (fun p=>?_)
  ·have aB:=p;have aO:=Xh0 (fc:=fc) (fp:=fp) aA (show badF i u7=true from p);refine Zs g fun _ aE=>?_;refine Za rfl<|Zt aE fun a g=>?_;refine Q6<|X05<|Xf<|Xf ?_;refine X05<|Xf<|X4 g (Xx g rfl rfl) ?_;exact ⟨by rw [aO],q⟩
  have aB:=p
  have aP:badF i u7=false:=p
  refine Q7<|Xn<|aN _ _<|Zr g ?_;refine Zm rfl<|Ze (X03 rfl rfl (by omega) (by omega))<|Za rfl ?_;refine Zn fun a g=>?_;refine Xo ?_;exact ⟨i+1,⟨g.sb,(by omega),(Xhk t aA aP),o,q⟩,(by omega)⟩
 have c:=n;have n:=Q1 n
 have aF:=Xa6 (fc:=fc) (fp:=fp) (tb:=ss) (fun j hj u hu=>t j (by have:=n;omega) u hu)
 refine Q9<|Xm<|Xm<|X08 ?_;refine aJ _ _<|Q5 fun _ aG=>?_;refine X02 (fun a w=>Fr a 44 [(2,.bool (((decide ((ss.length:Int)≤40))&&(inR fc 0 23))&&(inR fp 0 7)))]∧w2=w) ?_ ?_
 ·refine Zr g<|Ze (Vd rfl X0m 0)<|Ze (X0 rfl X2j (o.at 0))<|Ze (X4y (s:=ss) rfl Tryz.underlying9)<|Ze (Xat rfl rfl)<|Zm rfl ?_
  refine Zg 34 rfl (fun e=>?_) (fun e=>?_)
  ·refine Zv (gW e) (Vd rfl X21 1) ?_;refine Zv (gW e) (X0 rfl X9 (o.at 1)) ?_;refine Zk (gW e) (Vc (F91 _ fc 0 23) X36) ?_;rintro _ _ ⟨rfl,rfl⟩;refine Ze (Xe rfl e rfl)<|Zm rfl ?_
   refine Zg 39 rfl (fun f=>?_) (fun f=>?_)
   ·refine Zv (gW f) (Vd rfl X1u 2) ?_;refine Zv (gW f) (X0 rfl X9 (o.at 2)) ?_;refine Zk (gW f) (Vc (F91 _ fp 0 7) X36) ?_;rintro _ _ ⟨rfl,rfl⟩;refine Ze (Xe rfl f rfl)<|Za rfl ?_;refine Zn fun a g=>?_;exact ⟨g.sub ⟨X2 rfl (by first|rfl|(simp only [c,e,f,bs];done)|simp [c,e,f]),trivial⟩,rfl⟩
   refine Zp (gP f) ?_;refine Zp (gP f) ?_;refine Zp (gP f) ?_;refine Ze (Xc rfl f rfl)<|Za rfl ?_;refine Zn fun a g=>?_;exact ⟨g.sub ⟨X2 rfl (by first|rfl|(simp only [c,e,f,bs];done)|simp [c,e,f]),trivial⟩,rfl⟩
  refine Zp (gP e) ?_;refine Zp (gP e) ?_;refine Zp (gP e) ?_;refine Ze (Xc rfl e rfl)<|Zm rfl<|Zp (gP rfl) ?_;refine Zp (gP rfl) ?_;refine Zp (gP rfl) ?_;refine Ze (Xc rfl rfl rfl)<|Za rfl ?_;refine Zn fun a g=>?_;exact ⟨g.sub ⟨X2 rfl (by first|rfl|(simp only [c,e,bs];done)|simp [c,e]),trivial⟩,rfl⟩
 rintro a _ ⟨g,rfl⟩;refine aG _ _ ?_
 refine Q6 (X4 g (Xx g rfl rfl) ?_)
 exact ⟨by rw [aF],q⟩
theorem Xwf(w0:World)(tb:List UInt8)(fc fp:Int)(aC:tb.length≤1000000000)(aD:frmB tb fc fp=false) : Ret Tryz.prog 6 [.agg #[.string (tx tb),vi fc,vi fp]] w0 (fun v w=>∃ A c,v=.tuple #[mV A c mZ,.bool false]∧Own w w0.heap.size 53 5 encD A c mZ.cells∧Below w0.heap.size w0 w):=by
 refine enter Tryz.func6 rfl 27 rfl rfl ?_;intro a e
 have d:=bz w0
 refine Zs e fun _ aE=>?_;refine Zf (X0j (zs:=[.string (tx tb),vi fc,vi fp]) rfl rfl) ?_;rintro _ w1 ⟨b2,rfl,aF,hE,aA⟩;have aJ:=Q0 d.size aF;have d:=btr d hE;refine Zf (X3 (zs:=[vi 0,vi 0,.slice none 0 0]) X0y rfl) ?_;rintro _ w2 ⟨b4,rfl,aG,hE,b⟩;have aB:=Q0 d.size aG;have aA:=aA.below hE;have d:=btr d hE;refine Za rfl<|ZX aE fun a e _ aL=>?_;refine Zs e fun _ aH=>?_;refine Ze (Vn X04 aA)<|Zf (X1d (vs:=[.agg #[.string (tx tb),vi fc,vi fp]]) rfl X6d (by have hq:=Xhf w2 tb fc fp aC;rw [aD] at hq;exact hq)) ?_;rintro _ w3 ⟨rfl,hE⟩;have b:=b.below hE;have d:=btr d hE;refine Ze (X0o rfl)<|Zt aH fun a e=>?_;refine Xjx e rfl ?_;refine Zs e fun _ aI=>?_;refine Ze (Xg (ps:=[]) (cs:=[vi 0,vi 0,.slice none 0 0]) rfl (fun _=>by first|rfl|kernel_rfl))<|Zo (Vw [vi 0,vi 0,.slice none 0 0] X0b b) ?_;rintro _ w4 ⟨ho,hb⟩;have aK:=b;have d:=Below.only d ho aB;have b:=hb;refine Za rfl<|Zt aI fun a e=>?_;refine Q6<|Xf<|X4 e (X0r e rfl (ResV.cellN (l:=[vi 0,vi 0,.slice none 0 0]) rfl Xr (b.at 0) rfl) rfl) ?_;exact ⟨none,0,rfl,(Own.nil _ _ _ _ _),d⟩
theorem Xro(w0:World)(ss:List UInt8)(fc fp:Int)(aR:ss.length≤1000000000) : Ret Tryz.prog 21 [.agg #[.string (tx ss),vi fc,vi fp]] w0 (fun v w=>v=.bool (frmB ss fc fp)∧Below w0.heap.size w0 w):=by
 skip
 refine enter Tryz.func21 rfl 44 rfl rfl ?_;intro a g
 have q:=bz w0
 refine Zs g fun _ aH=>?_;refine Zf (X0j (zs:=[.string (tx ss),vi fc,vi fp]) rfl rfl) ?_;rintro _ w1 ⟨b2,rfl,aI,hE,o⟩;have aQ:=Q0 q.size aI;have q:=btr q hE;refine Za rfl<|ZX aH fun a g _ aJ=>?_;refine Zs g fun _ aK=>?_;refine Za rfl<|Zt aK fun a g=>?_;refine Q8<|X07 (σ:=Nat) (fun (i:Nat) (a:Act) (w:World)=>Fr a 44 [(1,.pointer (some ⟨b2,0,none⟩)),(3,vi (i:Int))]∧(i≤ss.length)∧(∀ j:Nat,j<i→∀ u,ss[j]? = some u→badF j u=false)∧Blk w b2 25 [.string (tx ss),vi fc,vi fp]∧Below w0.heap.size w0 w) (fun (i:Nat)=>ss.length-i) 0 ?_ ?_
 ·exact ⟨g.sb,(Qf _),(fun j hj=>by omega),o,q⟩
 rintro i a w2 ⟨g,hi,t,o,q⟩;refine Q5 fun _ aL=>?_;refine Zs g fun _ aM=>?_;refine Zm rfl<|Ze (Vd rfl X0m 0)<|Ze (X0 rfl X2j (o.at 0))<|Ze (X4y (s:=ss) rfl Tryz.underlying9)<|Ze (X1h rfl rfl)<|Zt aM fun a g=>?_
 refine Xl g rfl (fun n=>?_) (fun n=>?_)
 ·have c:=n;have n:=Q2 n
  obtain ⟨u8,aS⟩:=Xw (l:=ss) (k:=i) (by omega)
  obtain ⟨u7,aA⟩:=Xw (l:=ss) (k:=i) (by have:=n;omega)
  refine Q7<|aL _ _<|Q5 fun _ aN=>?_;refine Q8<|Zs g fun _ aC=>?_;refine Ze (Vd rfl X0m 0)<|Ze (X0 rfl X2j (o.at 0))<|Zm rfl<|Ze (X63 (s:=ss) (k:=i) (u:=u7) rfl rfl Tryz.underlying9 rfl aA)<|Za rfl<|ZX aC fun a g _ aD=>?_;refine X02 (fun a w=>Fr a 44 [(1,.pointer (some ⟨b2,0,none⟩)),(3,vi (i:Int)),(29,.bool ((((u7.toNat:Int) != 72)&&((u7.toNat:Int) != 83))&&(((u7.toNat:Int) != 84)||(decide (0<(i:Int))))))]∧w2=w) ?_ ?_
  ·refine Zr g<|Zm rfl<|Ze (X6s rfl rfl)<|Zm rfl ?_
   refine Zg 18 rfl (fun d=>?_) (fun d=>?_)
   ·refine Zv (gW d) (X7 rfl) ?_;refine Zv (gW d) (X6s rfl rfl) ?_;refine Ze (Xe rfl d rfl)<|Zm rfl ?_
    refine Zg 22 rfl (fun b=>?_) (fun b=>?_)
    ·refine Zv (gW b) (X7 rfl) ?_;refine Zv (gW b) (X6s rfl rfl) ?_;refine Zv (gW b) (X7 rfl) ?_
     refine Zg 25 rfl (fun m=>?_) (fun m=>?_)
     ·refine Zp (gP m) ?_;refine Zp (gP m) ?_;refine Zv (gW b) (Xe rfl m rfl) ?_;refine Ze (Xe rfl b rfl) ?_;refine Zn fun a g=>?_;exact ⟨g.sub ⟨rfl,rfl,X2 rfl (by first|rfl|(simp only [c,d,b,m,bs];done)|simp [c,d,b,m]),trivial⟩,rfl⟩
     refine Zv (gW m) (X7 rfl) ?_;refine Zv (gW m) (X72 rfl rfl) ?_;refine Zv (gW b) (Xc rfl m rfl) ?_;refine Ze (Xe rfl b rfl) ?_;refine Zn fun a g=>?_;exact ⟨g.sub ⟨rfl,rfl,X2 rfl (by first|rfl|(simp only [c,d,b,m,bs];done)|simp [c,d,b,m]),trivial⟩,rfl⟩
    refine Zp (gP b) ?_;refine Zp (gP b) ?_;refine Zp (gP b) ?_;refine Zp (gP trivial) ?_;refine Zp (gP trivial) ?_;refine Zp (gP b) ?_;refine Ze (Xc rfl b rfl) ?_;refine Zn fun a g=>?_;exact ⟨g.sub ⟨rfl,rfl,X2 rfl (by first|rfl|(simp only [c,d,b,bs];done)|simp [c,d,b]),trivial⟩,rfl⟩
   refine Zp (gP d) ?_;refine Zp (gP d) ?_;refine Ze (Xc rfl d rfl)<|Zm rfl<|Zp (gP rfl) ?_;refine Zp (gP rfl) ?_;refine Zp (gP rfl) ?_;refine Zp (gP trivial) ?_;refine Zp (gP trivial) ?_;refine Zp (gP rfl) ?_;refine Ze (Xc rfl rfl rfl) ?_;refine Zn fun a g=>?_;exact ⟨g.sub ⟨rfl,rfl,X2 rfl (by first|rfl|(simp only [c,d,bs];done)|simp [c,d]),trivial⟩,rfl⟩
  rintro a _ ⟨g,rfl⟩;refine aD _ _ ?_
  refine Xl g rfl (fun p=>?_) (fun p=>?_)
  ·have aB:=p;have aO:=Xh0 (fc:=fc) (fp:=fp) aA (show badF i u7=true from p);refine Zs g fun _ aE=>?_;refine Za rfl<|Zt aE fun a g=>?_;refine Q6<|X05<|Xf<|Xf ?_;refine X05<|Xf<|X4 g (Xx g rfl rfl) ?_;exact ⟨by rw [aO],q⟩
  have aB:=p
  have aP:badF i u7=false:=p
  refine Q7<|Xn<|aN _ _<|Zr g ?_;refine Zm rfl<|Ze (X03 rfl rfl (by omega) (by omega))<|Za rfl ?_;refine Zn fun a g=>?_;refine Xo ?_;exact ⟨i+1,⟨g.sb,(by omega),(Xhk t aA aP),o,q⟩,(by omega)⟩
 have c:=n;have n:=Q1 n
 have aF:=Xa6 (fc:=fc) (fp:=fp) (tb:=ss) (fun j hj u hu=>t j (by have:=n;omega) u hu)
 refine Q9<|Xm<|Xm<|X08 ?_;refine aJ _ _<|Q5 fun _ aG=>?_;refine X02 (fun a w=>Fr a 44 [(2,.bool (((decide ((ss.length:Int)≤40))&&(inR fc 0 23))&&(inR fp 0 7)))]∧w2=w) ?_ ?_
 ·refine Zr g<|Ze (Vd rfl X0m 0)<|Ze (X0 rfl X2j (o.at 0))<|Ze (X4y (s:=ss) rfl Tryz.underlying9)<|Ze (Xat rfl rfl)<|Zm rfl ?_
  refine Zg 34 rfl (fun e=>?_) (fun e=>?_)
  ·refine Zv (gW e) (Vd rfl X21 1) ?_;refine Zv (gW e) (X0 rfl X9 (o.at 1)) ?_;refine Zk (gW e) (Vc (F85 _ fc 0 23) Xjh) ?_;rintro _ _ ⟨rfl,rfl⟩;refine Ze (Xe rfl e rfl)<|Zm rfl ?_
   refine Zg 39 rfl (fun f=>?_) (fun f=>?_)
   ·refine Zv (gW f) (Vd rfl X1u 2) ?_;refine Zv (gW f) (X0 rfl X9 (o.at 2)) ?_;refine Zk (gW f) (Vc (F85 _ fp 0 7) Xjh) ?_;rintro _ _ ⟨rfl,rfl⟩;refine Ze (Xe rfl f rfl)<|Za rfl ?_;refine Zn fun a g=>?_;exact ⟨g.sub ⟨X2 rfl (by first|rfl|(simp only [c,e,f,bs];done)|simp [c,e,f]),trivial⟩,rfl⟩
   refine Zp (gP f) ?_;refine Zp (gP f) ?_;refine Zp (gP f) ?_;refine Ze (Xc rfl f rfl)<|Za rfl ?_;refine Zn fun a g=>?_;exact ⟨g.sub ⟨X2 rfl (by first|rfl|(simp only [c,e,f,bs];done)|simp [c,e,f]),trivial⟩,rfl⟩
  refine Zp (gP e) ?_;refine Zp (gP e) ?_;refine Zp (gP e) ?_;refine Ze (Xc rfl e rfl)<|Zm rfl<|Zp (gP rfl) ?_;refine Zp (gP rfl) ?_;refine Zp (gP rfl) ?_;refine Ze (Xc rfl rfl rfl)<|Za rfl ?_;refine Zn fun a g=>?_;exact ⟨g.sub ⟨X2 rfl (by first|rfl|(simp only [c,e,bs];done)|simp [c,e]),trivial⟩,rfl⟩
 rintro a _ ⟨g,rfl⟩;refine aG _ _ ?_
 refine Q6 (X4 g (Xx g rfl rfl) ?_)
 exact ⟨by rw [aF],q⟩
theorem Xz5(w0:World)(tb:List UInt8)(fc fp:Int)(aC:tb.length≤1000000000)(aD:frmB tb fc fp=false) : Ret Tryz.prog 7 [.agg #[.string (tx tb),vi fc,vi fp]] w0 (fun v w=>∃ A c,v=.tuple #[mV A c mZ,.bool false]∧Rd w w.heap.size 53 encD A mZ.cells∧Below w0.heap.size w0 w):=by
 refine enter Tryz.func7 rfl 11 rfl rfl ?_;intro a e
 have d:=bz w0
 refine Zs e fun _ aE=>?_;refine Zf (X0j (zs:=[.string (tx tb),vi fc,vi fp]) rfl rfl) ?_;rintro _ w1 ⟨b2,rfl,aF,hE,aA⟩;have aJ:=Q0 d.size aF;have d:=btr d hE;refine Zf (X3 (zs:=[vi 0,vi 0,.slice none 0 0]) X0y rfl) ?_;rintro _ w2 ⟨b4,rfl,aG,hE,b⟩;have aB:=Q0 d.size aG;have aA:=aA.below hE;have d:=btr d hE;refine Za rfl<|ZX aE fun a e _ aL=>?_;refine Zs e fun _ aH=>?_;refine Ze (Vn X04 aA)<|Zf (X1d (vs:=[.agg #[.string (tx tb),vi fc,vi fp]]) rfl Xhe (by have hq:=Xro w2 tb fc fp aC;rw [aD] at hq;exact hq)) ?_;rintro _ w3 ⟨rfl,hE⟩;have b:=b.below hE;have d:=btr d hE;refine Ze (X0o rfl)<|Zt aH fun a e=>?_;refine Xjx e rfl ?_;refine Zs e fun _ aI=>?_;refine Ze (Xg (ps:=[]) (cs:=[vi 0,vi 0,.slice none 0 0]) rfl (fun _=>by first|rfl|kernel_rfl))<|Zo (Vw [vi 0,vi 0,.slice none 0 0] X0b b) ?_;rintro _ w4 ⟨ho,hb⟩;have aK:=b;have d:=Below.only d ho aB;have b:=hb;refine Za rfl<|Zt aI fun a e=>?_;refine Q6<|Xf<|X4 e (X0r e rfl (ResV.cellN (l:=[vi 0,vi 0,.slice none 0 0]) rfl Xr (b.at 0) rfl) rfl) ?_;exact ⟨none,0,rfl,Rd.top (Own.rd (B0:=w0.heap.size) (sz:=5) (c:=0) (Own.nil _ _ _ _ _)),d⟩
theorem Xyv(w0:World)(tb:List UInt8)(sl:List Nat)(k p:Nat)(g:k<24)(aG:tb=sl.map sylT)(aH:∀ s ∈ sl,s<3)(j:sl.length≤40)(aA:p<8)(hF:FrmOk tb)(aI:tb.length≤1000000000) : Ret Tryz.prog 7 [.agg #[.string (tx tb),vi (k:Int),vi (p:Int)]] w0 (fun v w=>∃ A c,v=.tuple #[mV A c (fmM k sl p),.bool true]∧Rd w w.heap.size 53 encD A (fmM k sl p).cells∧Below w0.heap.size w0 w):=by
 have aB:=Xjt g j aA;refine enter Tryz.func7 rfl 11 rfl rfl ?_;intro a i
 have d:=bz w0
 refine Zs i fun _ aJ=>?_;refine Zf (X0j (zs:=[.string (tx tb),vi (k:Int),vi (p:Int)]) rfl rfl) ?_;rintro _ w1 ⟨b2,rfl,aK,e,f⟩;have aP:=Q0 d.size aK;have d:=btr d e;refine Zf (X3 (zs:=[vi 0,vi 0,.slice none 0 0]) X0y rfl) ?_;rintro _ w2 ⟨b4,rfl,aL,e,b⟩;have aE:=Q0 d.size aL;have f:=f.below e;have d:=btr d e;refine Za rfl<|ZX aJ fun a i _ aM=>?_;refine Zs i fun _ aN=>?_;refine Ze (Vn X04 f)<|Zf (X1d (vs:=[.agg #[.string (tx tb),vi (k:Int),vi (p:Int)]]) rfl Xhe (by have hq:=Xro w2 tb (k:Int) (p:Int) aI;rw [Xcc hF g aA] at hq;exact hq)) ?_;rintro _ w3 ⟨rfl,e⟩;have f:=f.below e;have b:=b.below e;have d:=btr d e;refine Ze (X0o rfl)<|Zt aN fun a i=>?_;refine X3i i rfl ?_;refine Q7<|aM _ _<|Zs i fun _ aO=>?_;refine Ze (Vn X04 f)<|Zf (Vc (Xw8 w3 tb sl k p g aG aH j aA) Xo4) ?_;rintro _ w4 ⟨A8,c8,rfl,aC,e⟩;have aC:=aC.lower d.size;have b:=b.below e;have d:=btr d e;refine Zf (X1d (vs:=[.agg #[vi 1,.slice A8 (fmW k sl p).length c8]]) rfl Xgo (by have hq:=Xre w4 (⟨1,(fmW k sl p)⟩ : Cx) A8 c8 aC.rd.top (Xmt aB) (fmM k sl p) aB;rw [show opI _=some (fmM k sl p) from aB,Qq] at hq;exact hq)) ?_;rintro _ w5 ⟨A9,c9,rfl,aD,e⟩;have b:=b.below e;have d:=btr d e;refine Zo (Vw [vi ((fmM k sl p).rows),vi ((fmM k sl p).cols),.slice A9 ((fmM k sl p).cells).length c9] X0b b) ?_;rintro _ w6 ⟨ho,hb⟩;have aF:=b;have aD:=aD.onlyT ho aF rfl;have d:=Below.only d ho aE;have b:=hb;refine Za rfl<|Zt aO fun a i=>?_
 refine Q6 (X4 i (X0r i rfl (ResV.cellN (l:=[vi ((fmM k sl p).rows),vi ((fmM k sl p).cols),.slice A9 ((fmM k sl p).cells).length c9]) rfl Xr (b.at 0) rfl) rfl) ?_)
 exact ⟨A9,c9,rfl,aD.top,d⟩
theorem Xm9(w0:World)(n:Int) : Ret Tryz.prog 14 [vi n] w0 (fun v w=>v=.tuple #[vi (if inR n 0 20=true then ((cntF n.toNat:Nat) : Int) else 0),.bool (inR n 0 20)]∧Below w0.heap.size w0 w):=by
 refine enter Tryz.func14 rfl 14 rfl rfl ?_;intro a b
 have hW:=bz w0
 refine Zs b fun _ aD=>?_;refine Za rfl<|Za rfl<|ZX aD fun a b _ aE=>?_;refine Q8<|Zs b fun _ aF=>?_;refine Zm rfl<|Zf (Vc (F91 _ n 0 20) X36) ?_;rintro _ _ ⟨rfl,rfl⟩;refine Ze (X0o rfl)<|Za rfl<|Zt aF fun a b=>?_
 refine Xl b rfl (fun c=>?_) (fun c=>?_)
 ·have aB:=c
  have aG:inR n 0 20=false:=by have h9:=c;simpa using h9
  refine Zs b fun _ aH=>?_;refine Za rfl<|Za rfl<|Zt aH fun a b=>?_;refine Q6<|X05<|Xf<|X4 b (X0r b rfl rfl rfl) ?_;exact ⟨by rw [aG];rfl,hW⟩
 have aB:=c
 have aA:inR n 0 20=true:=by have h9:=c;simpa using h9
 obtain ⟨aN,aI⟩:=X0g.1 aA;refine Zs b fun _ aJ=>?_;refine Zm rfl<|Ze (X1b rfl rfl)<|Za rfl<|Zt aJ fun a b=>?_
 refine Xl b rfl (fun d=>?_) (fun d=>?_)
 ·have aC:=d
  have hz:n=0:=by have h9:=d;simpa using h9
  refine Zs b fun _ aK=>?_;refine Za rfl<|Za rfl<|Zt aK fun a b=>?_;refine Q6<|X05<|Xf<|X4 b (X0r b rfl rfl rfl) ?_;exact ⟨by rw [aA,hz];rfl,hW⟩
 have aC:=d
 have hz:n≠0:=by have h9:=d;simpa using h9
 have aL:=Xhm (n:=n) (by omega) aI
 refine Q7<|Xn<|aE _ _<|Zs b fun _ aM=>?_;refine Zm rfl<|Ze (X1m rfl rfl (by omega) (by omega))<|Ze (Xfw (m:=(n-1).toNat) rfl rfl (by omega) (by omega))<|Za rfl<|Za rfl<|Zt aM fun a b=>?_
 refine Q6 (X4 b (X0r b rfl rfl rfl) ?_)
 exact ⟨by rw [aA,Q4 rfl,← aL],hW⟩
def fmO(tb:List UInt8)(fc fp:Int) : Mx:=if frmB tb fc fp=true then fmM fc.toNat (tb.map byS) fp.toNat else mZ
theorem Xwi(w0:World)(tb:List UInt8)(fc fp:Int)(hsl:tb.length≤1000000000)(hHf:HalfT w0) : Ret Tryz.prog 6 [.agg #[.string (tx tb),vi fc,vi fp]] w0 (fun v w=>∃ A c,v=.tuple #[mV A c (fmO tb fc fp),.bool (frmB tb fc fp)]∧Own w w0.heap.size 53 5 encD A c (fmO tb fc fp).cells∧Below w0.heap.size w0 w):=by
 cases h:frmB tb fc fp with
 | false=>
  have e:fmO tb fc fp=mZ:=by unfold fmO;rw [h];rfl
  rw [e]
  exact Xwf w0 tb fc fp hsl h
 | true=>
  have hy:=X68 h
  have e:fmO tb fc fp=fmM fc.toNat (tb.map byS) fp.toNat:=by unfold fmO;rw [Q4 h]
  have hq:=Xrd w0 tb (tb.map byS) fc.toNat fp.toNat hy.k.2 hy.e hy.o.lt hy.l hy.p.2 hy.f hHf
  rw [← hy.k.1,← hy.p.1] at hq
  have e2:fmM fc.toNat (tb.map byS) fp.toNat=⟨(opM (fmG fc.toNat (tb.map byS))).rows,(opM (fmG fc.toNat (tb.map byS))).cols,(opM (fmG fc.toNat (tb.map byS))).cells.map (dTurn fp)⟩:=by unfold fmM;rw [← hy.p.1]
  rw [e,e2]
  exact hq
theorem Xu0(x:Nat) : ((x:Int)).tmod 2=((x % 2:Nat) : Int):=rfl
theorem Xyi(k:Int)(h:0≤k) : k.tmod 24=((k.toNat % 24:Nat) : Int):=by
 obtain ⟨n,rfl⟩:=Int.eq_ofNat_of_zero_le h
 rfl
theorem Xeo{x:Int}(h1:0≤x)(h2:x≤9223372036854775807) : wr x=x:=X0h (by omega) h2
theorem Xxs(k:Int)(h:0≤k)(h2:k≤9223372036854775807) : wr (k.tdiv 24)=((k.toNat/24/2^0:Nat) : Int):=by
 obtain ⟨n,rfl⟩:=Int.eq_ofNat_of_zero_le h
 have e:((n:Int)).tdiv 24=((n/24:Nat) : Int):=rfl
 rw [e,Xeo (by omega) (by omega),Qj,Nat.pow_zero,Nat.div_one]
theorem Xbd(q j:Nat)(h:q≤9223372036854775807) : wr (((q/2^j:Nat) : Int).tdiv 2)=((q/2^(j+1) : Nat) : Int):=by
 have h1:q/2^j≤q:=Nat.div_le_self _ _
 rw [← Xv4]
 generalize q/2^j=x at h1
 have e:((x:Int)).tdiv 2=((x/2:Nat) : Int):=rfl
 rw [e,Xeo (by omega) (by omega)]
theorem Xsz{b:Nat}(h:b<2) : ([72,83] : List UInt8)[b]? = some (hsL b):=by rcases lt2 h with rfl|rfl<;>rfl
theorem Xi9{n j q:Nat}(h:n=j+1) : atF n q=sylT (q/2^j)::atL j q:=by
 subst h
 unfold atF
 rw [Q3 (by omega)]
 rfl
theorem Xed{n q:Nat}(h:n=0) : atF n q=[]:=by unfold atF;rw [Q4 h]
theorem X9x{n:Nat}(h:n≤20) : 24≤cntF n∧cntF n≤37748736:=by
 have h9:=W1.1 (show ((List.range 21).all fun n=>decide (24≤cntF n∧cntF n≤37748736))=true by decide +kernel) n (W2.2 (by omega))
 exact Q2 h9
theorem Xei{α:Type}{l:List α}{k:Nat}{d:α}(h:k<l.length) : l[k]? = some (l.getD k d):=by
 rw [Qa,Qc h]
 rfl
theorem of3{a b c:ByteArray}(ha:a.size≤100)(hb:b.size≤100)(hc:c.size≤100) : ∀ y ∈ [a,b,c],y.size≤100:=fun y hy=>by
 rcases Qv.1 hy with rfl|hy
 ·exact ha
 rcases Qv.1 hy with rfl|hy
 ·exact hb
 rcases Qv.1 hy with rfl|hy
 ·exact hc
 ·cases hy
theorem Y02{x:Int}(h:x ∈ ([0,1,2,3,4,6,9] : List Int)) : 0≤x∧x≤20:=by
 simp at h
 omega
theorem Xx9(n:Int) : 0≤(if inR n 0 20=true then ((cntF n.toNat:Nat) : Int) else 0)∧(if inR n 0 20=true then ((cntF n.toNat:Nat) : Int) else 0)≤37748736:=by
 split
 ·rename_i h
  have h:=X0g.1 h
  have:=X9x (n:=n.toNat) (by omega)
  omega
 ·omega
def faB(n k:Int) : Bool:=inR n 0 20&&inR k 0 ((if inR n 0 20=true then ((cntF n.toNat:Nat) : Int) else 0)-1)
def faT(n k:Int) : List UInt8:=if faB n k=true then atF n.toNat (k.toNat/24) else []
def faK(n k:Int) : Int:=if faB n k=true then ((k.toNat % 24:Nat) : Int) else 0
theorem Xlv{n k:Int}(h:faB n k=false) : faT n k=[]∧faK n k=0:=by unfold faT faK;rw [h];exact ⟨rfl,rfl⟩
structure FaY (n k:Int) : Prop where
 hn:0≤n∧n≤20
 hk:0≤k∧k.toNat<cntF n.toNat
 t:faT n k=atF n.toNat (k.toNat/24)
 c:faK n k=((k.toNat % 24:Nat) : Int)
theorem X76{n k:Int}(h:faB n k=true) : FaY n k:=by
 have h1:=h
 unfold faB at h1
 rw [Qd] at h1
 obtain ⟨h2,h3⟩:=h1
 rw [Q4 h2] at h3
 have h2:=X0g.1 h2;have h3:=X0g.1 h3
 refine ⟨h2,⟨h3.1,by omega⟩,?_,?_⟩
 ·unfold faT;rw [Q4 h]
 ·unfold faK;rw [Q4 h]
theorem Xzc{n k:Int}(h:faB n k=true) : frmB (faT n k) (faK n k) 0=true:=by
 have hy:=X76 h
 rw [hy.t,hy.c]
 exact Xcc (Xvq (by have:=hy.hn;omega) hy.hk.2) (Nat.mod_lt _ (by decide)) (p:=0) (by decide)
theorem Xmx{n k:Int}(h:faB n k=true) : ((faT n k).length:Int)=n:=by
 have hy:=X76 h
 rw [hy.t,Xch]
 have:=hy.hn
 omega
theorem Xs5(n k:Int) : (faT n k).length≤1000000000:=by
 cases h:faB n k with
 | false=>rw [(Xlv h).1];decide
 | true=>have:=Xmx h;have:=(X76 h).hn;omega
theorem Xyh{n k:Int}(h:faB n k=true)(h':faB n (k+1)=true) : faK n k≠faK n (k+1):=by
 have hy:=X76 h;have hz:=X76 h'
 rw [hy.c,hz.c]
 have:=hy.hk.1
 omega
theorem Xrt(w0:World)(n:Int)(aB:0≤n∧n≤20) : Ret Tryz.prog 35 [vi n] w0 (fun v w=>v=vi ((cntF n.toNat:Nat) : Int)∧Below w0.heap.size w0 w):=by
 refine enter Tryz.func35 rfl 9 rfl rfl ?_;intro a b
 have hW:=bz w0
 refine Zs b fun _ aC=>?_;refine Za rfl<|ZX aC fun a b _ aD=>?_;refine Zs b fun _ aE=>?_;refine Zm rfl<|Ze (X1b rfl rfl)<|Zt aE fun a b=>?_
 refine Xl b rfl (fun c=>?_) (fun c=>?_)
 ·have aA:=c
  have hz:n=0:=by have h9:=c;simpa using h9
  refine Zs b fun _ aF=>?_;refine Za rfl<|Zt aF fun a b=>?_;refine Q6<|Xf<|X4 b (Xx b rfl rfl) ?_;exact ⟨by rw [hz];rfl,hW⟩
 have aA:=c
 have hz:n≠0:=by have h9:=c;simpa using h9
 have aG:=Xhm (n:=n) (by omega) aB.2
 refine Q7<|aD _ _<|Zs b fun _ aH=>?_;refine Zm rfl<|Ze (X1m rfl rfl (by omega) (by omega))<|Ze (Xea (m:=(n-1).toNat) Tryz.underlying3 Tryz.underlying100 rfl (by omega) (by omega))<|Ze (Xfw (m:=(n-1).toNat) rfl rfl rfl (by omega))<|Za rfl<|Zt aH fun a b=>?_
 refine Q6 (X4 b (Xx b rfl rfl) ?_)
 exact ⟨by rw [← aG],hW⟩
theorem Xwl(w0:World)(n:Int)(k:Int)(b1:0≤n∧n≤20)(hk:0≤k∧k.toNat<cntF n.toNat) : Ret Tryz.prog 110 [vi n,vi k] w0 (fun v w=>v=.agg #[.string (tx (atF n.toNat (k.toNat/24))),vi ((k.toNat % 24:Nat) : Int),vi 0]∧Below w0.heap.size w0 w):=by
 have b3:=(X9x (n:=n.toNat) (by omega)).2
 refine enter Tryz.func110 rfl 40 rfl rfl ?_;intro a d
 have e:=bz w0
 refine Zs d fun _ aN=>?_;refine Zf (X3 (zs:=[.string (tx []),vi 0,vi 0]) X1s rfl) ?_;rintro _ w1 ⟨b2,rfl,aO,i,b⟩;have t:=Q0 e.size aO;have e:=btr e i;refine Zx aN fun a d _ aP=>?_;refine Zm rfl<|Ze (Vx (X67 rfl rfl rfl) (Xyi k hk.1))<|Ze (Xg (ps:=[(1,vi ((k.toNat % 24:Nat) : Int))]) (cs:=[.string (tx []),vi ((k.toNat % 24:Nat) : Int),vi 0]) rfl (fun _=>by first|rfl|kernel_rfl))<|Zf (X3 (zs:=[.string (tx []),vi 0,vi 0]) X1s rfl) ?_;rintro _ w2 ⟨b4,rfl,aQ,i,c⟩
 have aM:b2≠b4:=by have:=b.lt;omega
 have p:=Q0 e.size aQ;have b:=b.below i;have e:=btr e i;refine Zo (Vw [.string (tx []),vi ((k.toNat % 24:Nat) : Int),vi 0] X0z c) ?_;rintro _ w3 ⟨o,q⟩;have m:=c;have b:=b.only o (by omega);have e:=Below.only e o p;have c:=q;refine Zx aP fun a d _ aR=>?_;refine Zm rfl<|Ze (Vx (X95 rfl rfl rfl) (Xxs k hk.1 (by omega)))<|Za rfl<|ZX aR fun a d _ aS=>?_;refine Zs d fun _ aT=>?_;refine Zm rfl<|Ze (Vx (X0i rfl) (show _=(n-((0:Nat) : Int)) from (by simp)))<|Zt aT fun a d=>?_;refine Q8<|X07 (σ:=Nat) (fun (j:Nat) (a:Act) (w:World)=>Fr a 40 [(0,vi n),(4,.pointer (some ⟨b2,0,none⟩)),(5,.pointer (some ⟨b4,0,none⟩)),(6,vi (((k.toNat/24)/2^j:Nat) : Int)),(7,vi (n-(j:Int)))]∧((j:Int)+1≤n∨j=0)∧Blk w b2 25 [.string (tx []),vi 0,vi 0]∧Blk w b4 25 [.string (tx (atL j (k.toNat/24))),vi ((k.toNat % 24:Nat) : Int),vi 0]∧Below w0.heap.size w0 w) (fun (j:Nat)=>n.toNat-j) 0 ?_ ?_
 ·exact ⟨d.sb,(.inr rfl),b,c,e⟩
 rintro j a w4 ⟨d,hj,b,c,e⟩;refine Q5 fun _ aU=>?_;refine Zs d fun _ aW=>?_;refine Zm rfl<|Ze (X72 rfl rfl)<|Zt aW fun a d=>?_
 refine Xl d rfl (fun f=>?_) (fun f=>?_)
 ·have aA:=f;have f:=Q2 f
  have b5:(j:Int)+1<n:=by have h9:=f;omega
  refine Q7<|aU _ _<|Q5 fun _ aC=>?_;refine Q8<|Q5 fun _ aD=>?_;refine Xz none (fun j=>[9].contains j) mixed ?_;intro w5 i;have b:=b.below i;have c:=c.below i;have e:=btr e i;refine Yb d<|Yo 0 rfl (fun _=>X7 rfl)<|Yo 1 rfl (fun _=>Vx (X67 rfl rfl rfl) (Xu0 _))<|Yo 2 rfl (fun _=>X63 (s:=[72,83]) (k:=(((k.toNat/24)/2^j) % 2)) (u:=(hsL (((k.toNat/24)/2^j) % 2))) rfl rfl Tryz.underlying9 rfl (Xsz (Nat.mod_lt _ (by decide))))<|Yo 5 rfl (fun _=>Vd rfl X0m 0)<|Ye 6 rfl (X0 rfl X2j (c.at 0))<|Y1 3 ?_;refine Yk rfl trivial (Xb (k:=1) (vs:=[.int .u8 ((hsL (((k.toNat/24)/2^j) % 2)).toNat:Int)]) (zs:=[.int .u8 ((hsL (((k.toNat/24)/2^j) % 2)).toNat:Int)]) rfl X3v Xrx rfl rfl) (fun _ _ ⟨_,_,_,h,_⟩=>h) ?_;rintro _ w6 ⟨b6,rfl,aE,i,aF⟩;have aX:=Q0 e.size aE;have b:=b.below i;have c:=c.below i;have e:=btr e i;refine Ye 4 rfl (Xjd (u:=(hsL (((k.toNat/24)/2^j) % 2))) rfl Tryz.underlying22 Tryz.underlying5 Tryz.underlying9 aF)<|Yo 7 rfl (fun _=>X3m (s:=[(hsL (((k.toNat/24)/2^j) % 2))]) (r:=(atL j (k.toNat/24))) rfl rfl (by rw [X6c];simp;omega))<|Yo 8 rfl (fun _=>Vd rfl X0m 0)<|Y1 9 ?_;refine Yh rfl trivial rfl (Vu (vs:=[.string (tx ([(hsL (((k.toNat/24)/2^j) % 2))]++(atL j (k.toNat/24))))]) (l':=[.string (tx ([(hsL (((k.toNat/24)/2^j) % 2))]++(atL j (k.toNat/24)))),vi ((k.toNat % 24:Nat) : Int),vi 0]) rfl rfl X5l c) ?_;rintro _ w7 ⟨o,q⟩;have m:=c;have b:=b.only o (by omega);have e:=Below.only e o p;have c:=q;refine Yd fun a d=>?_;refine aD _ _<|Zr d<|Zm rfl<|Ze (Vx (X95 rfl rfl rfl) (Xbd _ _ (by omega)))<|Za rfl ?_;refine Zn fun a d=>?_
  refine Xn<|aC _ _<|Zr d<|Zm rfl<|Ze (Vx (X1m rfl rfl (by omega) (by omega)) (show _=(n-((j+1:Nat) : Int)) from (by omega)))<|Ze (Vx (X0i rfl) (rfl:_=(n-((j+1:Nat) : Int)))) ?_;refine Zn fun a d=>?_;refine Xo ?_;exact ⟨j+1,⟨d.sb,(by omega),b,c,e⟩,(by omega)⟩
 have aA:=f;have f:=Q1 f
 have b7:n≤(j:Int)+1:=by have h9:=f;omega
 refine Q9<|Xm<|Xm<|X08 ?_;refine aS _ _<|Q5 fun _ x=>?_;refine Zs d fun _ aG=>?_;refine Zm rfl<|Ze (X72 rfl rfl)<|Zt aG fun a d=>?_
 refine Xl d rfl (fun g=>?_) (fun g=>?_)
 ·have aB:=g;have g:=Q2 g
  have aH:n.toNat=j+1:=by have h9:=g;omega
  have y:k.toNat/24/2^j<3:=by have h9:=Xfx (n:=n.toNat) (k:=k.toNat) (by omega) hk.2;rw [aH] at h9;exact h9
  have b8:(0:Int)≤((k.toNat/24/2^j:Nat) : Int)∧((k.toNat/24/2^j:Nat) : Int)<3:=⟨Int.natCast_nonneg _,Int.ofNat_lt.2 y⟩
  refine Xz none (fun j=>[8].contains j) mixed ?_;intro w8 i;have b:=b.below i;have c:=c.below i;have e:=btr e i;refine Yb d<|Yo 0 rfl (fun _=>X7 rfl)<|Yo 1 rfl (fun _=>X63 (s:=[84,72,83]) (k:=((k.toNat/24)/2^j)) (u:=(sylT ((k.toNat/24)/2^j))) rfl rfl Tryz.underlying9 rfl (Xpt y))<|Yo 4 rfl (fun _=>Vd rfl X0m 0)<|Ye 5 rfl (X0 rfl X2j (c.at 0))<|Y1 2 ?_;refine Yk rfl trivial (Xb (k:=1) (vs:=[.int .u8 ((sylT ((k.toNat/24)/2^j)).toNat:Int)]) (zs:=[.int .u8 ((sylT ((k.toNat/24)/2^j)).toNat:Int)]) rfl X3v Xrx rfl rfl) (fun _ _ ⟨_,_,_,h,_⟩=>h) ?_;rintro _ w9 ⟨b9,rfl,aI,i,aJ⟩;have aY:=Q0 e.size aI;have b:=b.below i;have c:=c.below i;have e:=btr e i;refine Ye 3 rfl (Xjd (u:=(sylT ((k.toNat/24)/2^j))) rfl Tryz.underlying22 Tryz.underlying5 Tryz.underlying9 aJ)<|Yo 6 rfl (fun _=>X3m (s:=[(sylT ((k.toNat/24)/2^j))]) (r:=(atL j (k.toNat/24))) rfl rfl (by rw [X6c];simp;omega))<|Yo 7 rfl (fun _=>Vd rfl X0m 0)<|Y1 8 ?_;refine Yh rfl trivial rfl (Vu (vs:=[.string (tx ([(sylT ((k.toNat/24)/2^j))]++(atL j (k.toNat/24))))]) (l':=[.string (tx ([(sylT ((k.toNat/24)/2^j))]++(atL j (k.toNat/24)))),vi ((k.toNat % 24:Nat) : Int),vi 0]) rfl rfl X5l c) ?_;rintro _ bC ⟨o,q⟩;have m:=c;have b:=b.only o (by omega);have e:=Below.only e o p;have c:=q;refine Yd fun a d=>?_;refine x _ _<|Zs d fun _ aK=>?_;refine Ze (Vn X04 c)<|Zo (Vw [.string (tx ([(sylT ((k.toNat/24)/2^j))]++(atL j (k.toNat/24)))),vi ((k.toNat % 24:Nat) : Int),vi 0] X0z b) ?_;rintro _ bD ⟨o,q⟩;have m:=b;have e:=Below.only e o t;have b:=q;refine Zt aK fun a d=>?_
  refine Q6 (X4 d (Xx d rfl (ResV.cellN (l:=[.string (tx ([(sylT ((k.toNat/24)/2^j))]++(atL j (k.toNat/24)))),vi ((k.toNat % 24:Nat) : Int),vi 0]) rfl X04 (b.at 0) rfl)) ?_)
  exact ⟨by rw [Xi9 aH];rfl,e⟩
 have aB:=g;have g:=Q1 g
 have aZ:n.toNat=0:=by have h9:=g;omega
 have b0:j=0:=by omega
 refine Q7<|x _ _<|Zs d fun _ aL=>?_;refine Ze (Vn X04 c)<|Zo (Vw [.string (tx (atL j (k.toNat/24))),vi ((k.toNat % 24:Nat) : Int),vi 0] X0z b) ?_;rintro _ bE ⟨o,q⟩;have m:=b;have e:=Below.only e o t;have b:=q;refine Zt aL fun a d=>?_
 refine Q6 (X4 d (Xx d rfl (ResV.cellN (l:=[.string (tx (atL j (k.toNat/24))),vi ((k.toNat % 24:Nat) : Int),vi 0]) rfl X04 (b.at 0) rfl)) ?_)
 exact ⟨by rw [Xed aZ,b0];rfl,e⟩
theorem Xh9(w0:World)(n:Int)(k:Int) : Ret Tryz.prog 13 [vi n,vi k] w0 (fun v w=>v=.tuple #[.agg #[.string (tx (faT n k)),vi (faK n k),vi 0],.bool (faB n k)]∧Below w0.heap.size w0 w):=by
 have b0:=Xx9 n;refine enter Tryz.func13 rfl 60 rfl rfl ?_;intro a e
 have g:=bz w0
 refine Zs e fun _ aQ=>?_;refine Zf (X3 (zs:=[.string (tx []),vi 0,vi 0]) X1s rfl) ?_;rintro _ w1 ⟨b2,rfl,aR,q,d⟩;have z:=Q0 g.size aR;have g:=btr g q;refine Za rfl<|Zx aQ fun a e _ aS=>?_;refine Zm rfl<|Zf (Vc (Xm9 _ n) Xdk) ?_;rintro _ w2 ⟨rfl,q⟩;have d:=d.below q;have g:=btr g q;refine Zm rfl<|Ze (X1 (vs:=[vi (if inR n 0 20=true then ((cntF n.toNat:Nat) : Int) else 0),.bool (inR n 0 20)]) rfl rfl)<|Ze (X1 (vs:=[vi (if inR n 0 20=true then ((cntF n.toNat:Nat) : Int) else 0),.bool (inR n 0 20)]) rfl rfl)<|Za rfl<|Za rfl<|ZX aS fun a e _ aT=>?_;refine Q5 fun _ aU=>?_;refine X02 (fun a w=>Fr a 60 [(0,vi n),(1,vi k),(4,.pointer (some ⟨b2,0,none⟩)),(24,.bool ((!(inR n 0 20))||(!(inR k 0 ((if inR n 0 20=true then ((cntF n.toNat:Nat) : Int) else 0)-1)))))]∧w2=w) ?_ ?_
 ·refine Zr e<|Zm rfl<|Ze (X0o rfl)<|Zm rfl ?_
  refine Zg 18 rfl (fun f=>?_) (fun f=>?_)
  ·refine Zp (gP f) ?_;refine Zp (gP f) ?_;refine Zp (gP f) ?_;refine Zp (gP f) ?_;refine Zp (gP f) ?_;refine Ze (Xe rfl f rfl) ?_;refine Zn fun a e=>?_;exact ⟨e.sub ⟨rfl,rfl,rfl,X2 rfl (by first|rfl|(simp only [f,bs];done)|simp [f]),trivial⟩,rfl⟩
  refine Zv (gW f) (X7 rfl) ?_;refine Zv (gW f) (X7 rfl) ?_;refine Zv (gW f) (X1m rfl rfl (by omega) (by omega)) ?_;refine Zk (gW f) (Vc (F91 _ k 0 ((if inR n 0 20=true then ((cntF n.toNat:Nat) : Int) else 0)-1)) X36) ?_;rintro _ _ ⟨rfl,rfl⟩;refine Zv (gW f) (X0o rfl) ?_;refine Ze (Xc rfl f rfl) ?_;refine Zn fun a e=>?_;exact ⟨e.sub ⟨rfl,rfl,rfl,X2 rfl (by first|rfl|(simp only [f,bs];done)|simp [f]),trivial⟩,rfl⟩
 rintro a _ ⟨e,rfl⟩;refine aU _ _ ?_
 refine Xl e rfl (fun h=>?_) (fun h=>?_)
 ·have aD:=h
  have aA:faB n k=false:=by have y:=h;unfold faB;rw [← Bool.not_and,Bool.not_eq_true'] at y;exact y
  refine Zs e fun _ aW=>?_;refine Ze (Xg (ps:=[]) (cs:=[.string (tx []),vi 0,vi 0]) rfl (fun _=>by first|rfl|kernel_rfl))<|Zo (Vw [.string (tx []),vi 0,vi 0] X0z d) ?_;rintro _ w3 ⟨x,A⟩;have p:=d;have g:=Below.only g x z;have d:=A;refine Za rfl<|Zt aW fun a e=>?_;refine Q6<|Xf<|X4 e (X0r e rfl (ResV.cellN (l:=[.string (tx []),vi 0,vi 0]) rfl X04 (d.at 0) rfl) rfl) ?_;exact ⟨by rw [aA,(Xlv aA).1,(Xlv aA).2],g⟩
 have aD:=h
 have B:faB n k=true:=by have y:=h;unfold faB;rw [← Bool.not_and,Bool.not_eq_false'] at y;exact y
 have hY:=X76 B;obtain ⟨b1,hk⟩:=(⟨hY.hn,hY.hk⟩ : (0≤n∧n≤20)∧(0≤k∧k.toNat<cntF n.toNat))
 have b3:=(X9x (n:=n.toNat) (by omega)).2
 refine Q7<|aT _ _<|Zs e fun _ aX=>?_;refine Zm rfl<|Ze (Vx (X67 rfl rfl rfl) (Xyi k hk.1))<|Ze (Xg (ps:=[(1,vi ((k.toNat % 24:Nat) : Int))]) (cs:=[.string (tx []),vi ((k.toNat % 24:Nat) : Int),vi 0]) rfl (fun _=>by first|rfl|kernel_rfl))<|Zm rfl<|Ze (Vx (X95 rfl rfl rfl) (Xxs k hk.1 (by omega)))<|Zf (X3 (zs:=[.string (tx []),vi 0,vi 0]) X1s rfl) ?_;rintro _ w4 ⟨b10,rfl,aE,q,b⟩
 have aF:b2≠b10:=by have:=d.lt;omega
 have u:=Q0 g.size aE;have d:=d.below q;have g:=btr g q;refine Zo (Vw [.string (tx []),vi ((k.toNat % 24:Nat) : Int),vi 0] X0z b) ?_;rintro _ w5 ⟨x,A⟩;have p:=b;have d:=d.only x (by omega);have g:=Below.only g x u;have b:=A;refine Za rfl<|ZX aX fun a e _ aG=>?_;refine Zs e fun _ aH=>?_;refine Zm rfl<|Ze (X1m rfl rfl (by omega) (by omega))<|Ze (Vx (X0i rfl) (show _=(n-1-((0:Nat) : Int)) from (by simp)))<|Zt aH fun a e=>?_;refine Q8<|X07 (σ:=Nat) (fun (j:Nat) (a:Act) (w:World)=>Fr a 60 [(0,vi n),(4,.pointer (some ⟨b2,0,none⟩)),(8,.pointer (some ⟨b10,0,none⟩)),(9,vi (((k.toNat/24)/2^j:Nat) : Int)),(10,vi (n-1-(j:Int)))]∧((j:Int)+1≤n∨j=0)∧Blk w b2 25 [.string (tx []),vi 0,vi 0]∧Blk w b10 25 [.string (tx (atL j (k.toNat/24))),vi ((k.toNat % 24:Nat) : Int),vi 0]∧Below w0.heap.size w0 w) (fun (j:Nat)=>n.toNat-j) 0 ?_ ?_
 ·exact ⟨e.sb,(.inr rfl),d,b,g⟩
 rintro j a w6 ⟨e,hj,d,b,g⟩;refine Q5 fun _ aI=>?_;refine Zs e fun _ aJ=>?_;refine Zm rfl<|Ze (Xdd rfl rfl)<|Zt aJ fun a e=>?_
 refine Xl e rfl (fun i=>?_) (fun i=>?_)
 ·have aB:=i;have i:=Q2 i
  have b4:(j:Int)+1<n:=by have y:=i;omega
  refine Q7<|aI _ _<|Q5 fun _ aK=>?_;refine Q8<|Q5 fun _ aL=>?_;refine Xz none (fun j=>[10].contains j) mixed ?_;intro w7 q;have d:=d.below q;have b:=b.below q;have g:=btr g q;refine Yb e<|Yo 0 rfl (fun _=>X7 rfl)<|Yo 1 rfl (fun _=>Vx (X67 rfl rfl rfl) (Xu0 _))<|Yo 2 rfl (fun _=>X7 rfl)<|Yo 3 rfl (fun _=>Vx (X67 rfl rfl rfl) (Xu0 _))<|Yo 4 rfl (fun _=>X03 rfl rfl (by omega) (by omega))<|Yo 5 rfl (fun _=>Xh6 (s:=[72,83]) (r:=[hsL (((k.toNat/24)/2^j) % 2)]) (k:=(((k.toNat/24)/2^j) % 2)) (m:=(((k.toNat/24)/2^j) % 2+1)) rfl rfl rfl Tryz.underlying9 rfl rfl (Nat.le_succ _) (by have:=Nat.mod_lt ((k.toNat/24)/2^j) (show 0<2 by decide);simp;omega) (Xsq (Nat.mod_lt _ (by decide))))<|Yo 6 rfl (fun _=>Vd rfl X0m 0)<|Ye 7 rfl (X0 rfl X2j (b.at 0))<|Yo 8 rfl (fun _=>X3m (s:=([hsL (((k.toNat/24)/2^j) % 2)])) (r:=(atL j (k.toNat/24))) rfl rfl (by rw [X6c];simp;omega))<|Yo 9 rfl (fun _=>Vd rfl X0m 0) ?_;refine Y1 10<|Yh rfl trivial rfl (Vu (vs:=[.string (tx (([hsL (((k.toNat/24)/2^j) % 2)])++(atL j (k.toNat/24))))]) (l':=[.string (tx (([hsL (((k.toNat/24)/2^j) % 2)])++(atL j (k.toNat/24)))),vi ((k.toNat % 24:Nat) : Int),vi 0]) rfl rfl X5l b) ?_;rintro _ w8 ⟨x,A⟩;have p:=b;have d:=d.only x (by omega);have g:=Below.only g x u;have b:=A;refine Yd fun a e=>?_;refine aL _ _<|Zr e<|Zm rfl<|Ze (Vx (X95 rfl rfl rfl) (Xbd _ _ (by omega)))<|Za rfl ?_;refine Zn fun a e=>?_;refine Xn<|aK _ _<|Zr e<|Zm rfl<|Ze (Vx (X1m rfl rfl (by omega) (by omega)) (show _=(n-1-((j+1:Nat) : Int)) from (by omega)))<|Ze (Vx (X0i rfl) (rfl:_=(n-1-((j+1:Nat) : Int)))) ?_
  refine Zn fun a e=>?_;refine Xo ?_;exact ⟨j+1,⟨e.sb,(by omega),d,b,g⟩,(by omega)⟩
 have aB:=i;have i:=Q1 i
 have b5:n≤(j:Int)+1:=by have y:=i;omega
 refine Q9<|Xm<|Xm<|X08 ?_;refine aG _ _<|Q5 fun _ C=>?_;refine Zs e fun _ aM=>?_;refine Zm rfl<|Ze (X72 rfl rfl)<|Zt aM fun a e=>?_
 refine Xl e rfl (fun o=>?_) (fun o=>?_)
 ·have aC:=o;have o:=Q2 o
  have aN:n.toNat=j+1:=by have y:=o;omega
  have D:k.toNat/24/2^j<3:=by have y:=Xfx (n:=n.toNat) (k:=k.toNat) (by omega) hk.2;rw [aN] at y;exact y
  have b6:(0:Int)≤((k.toNat/24/2^j:Nat) : Int)∧((k.toNat/24/2^j:Nat) : Int)<3:=⟨Int.natCast_nonneg _,Int.ofNat_lt.2 D⟩
  refine Xz none (fun j=>[8].contains j) mixed ?_;intro w9 q;have d:=d.below q;have b:=b.below q;have g:=btr g q;refine Yb e<|Yo 0 rfl (fun _=>X7 rfl)<|Yo 1 rfl (fun _=>X7 rfl)<|Yo 2 rfl (fun _=>X03 rfl rfl (by omega) (by omega))<|Yo 3 rfl (fun _=>Xh6 (s:=[84,72,83]) (r:=[sylT ((k.toNat/24)/2^j)]) (k:=((k.toNat/24)/2^j)) (m:=(((k.toNat/24)/2^j)+1)) rfl rfl rfl Tryz.underlying9 rfl rfl (Nat.le_succ _) (by simp;omega) (Xhc D))<|Yo 4 rfl (fun _=>Vd rfl X0m 0)<|Ye 5 rfl (X0 rfl X2j (b.at 0))<|Yo 6 rfl (fun _=>X3m (s:=([sylT ((k.toNat/24)/2^j)])) (r:=(atL j (k.toNat/24))) rfl rfl (by rw [X6c];simp;omega))<|Yo 7 rfl (fun _=>Vd rfl X0m 0)<|Y1 8 ?_;refine Yh rfl trivial rfl (Vu (vs:=[.string (tx (([sylT ((k.toNat/24)/2^j)])++(atL j (k.toNat/24))))]) (l':=[.string (tx (([sylT ((k.toNat/24)/2^j)])++(atL j (k.toNat/24)))),vi ((k.toNat % 24:Nat) : Int),vi 0]) rfl rfl X5l b) ?_;rintro _ b7 ⟨x,A⟩;have p:=b;have d:=d.only x (by omega);have g:=Below.only g x u;have b:=A;refine Yd fun a e=>?_;refine C _ _<|Zs e fun _ aO=>?_;refine Ze (Vn X04 b)<|Zo (Vw [.string (tx (([sylT ((k.toNat/24)/2^j)])++(atL j (k.toNat/24)))),vi ((k.toNat % 24:Nat) : Int),vi 0] X0z d) ?_;rintro _ b8 ⟨x,A⟩;have p:=d;have g:=Below.only g x z;have d:=A;refine Za rfl<|Zt aO fun a e=>?_
  refine Q6 (X4 e (X0r e rfl (ResV.cellN (l:=[.string (tx (([sylT ((k.toNat/24)/2^j)])++(atL j (k.toNat/24)))),vi ((k.toNat % 24:Nat) : Int),vi 0]) rfl X04 (d.at 0) rfl) rfl) ?_)
  exact ⟨by rw [B,hY.t,hY.c,Xi9 aN];rfl,g⟩
 have aC:=o;have o:=Q1 o
 have aY:n.toNat=0:=by have y:=o;omega
 have aZ:j=0:=by omega
 refine Q7<|C _ _<|Zs e fun _ aP=>?_;refine Ze (Vn X04 b)<|Zo (Vw [.string (tx (atL j (k.toNat/24))),vi ((k.toNat % 24:Nat) : Int),vi 0] X0z d) ?_;rintro _ b9 ⟨x,A⟩;have p:=d;have g:=Below.only g x z;have d:=A;refine Za rfl<|Zt aP fun a e=>?_
 refine Q6 (X4 e (X0r e rfl (ResV.cellN (l:=[.string (tx (atL j (k.toNat/24))),vi ((k.toNat % 24:Nat) : Int),vi 0]) rfl X04 (d.at 0) rfl) rfl) ?_)
 exact ⟨by rw [B,hY.t,hY.c,Xed aY,aZ];rfl,g⟩
theorem Xxq(w0:World)(bV:Nat){aD:TypeId}(e:Option Addr)(aA:Nat)(b:List Int)(f:Rd w0 w0.heap.size aD encU e b)(aE:∀ x ∈ b,0≤x∧x≤255)(aF:AwayR b e bV)(t:Nat)(sd:Int)(g:Blk w0 bV 74 [.slice e b.length aA,vi (t:Int),.int .u64 sd])(Al:Option Addr)(cl:Nat)(l:List ByteArray)(c:Rd w0 w0.heap.size 9 encTx Al l)(aM:0<l.length)(aN:l.length≤1000)(aG:∀ y ∈ l,y.size≤100)(ht:t+2≤100000000) : Ret Tryz.prog 70 [.pointer (some ⟨bV,0,none⟩),.slice Al l.length cl] w0 (fun v w=>∃ (x:List UInt8) (t1:Nat) (s1:Int),v=.string (tx x)∧(x.length≤100)∧(t≤t1∧t1≤t+2)∧Kept bV w0.heap.size w0 w∧Blk w bV 74 [.slice e b.length aA,vi (t1:Int),.int .u64 s1]):=by
 have aJ:=g.lt;refine enter Tryz.func70 rfl 12 rfl rfl ?_;intro a hf
 have hW:Kept bV w0.heap.size w0 w0:=Kept.refl _ _ _
 refine Zs hf fun _ aH=>?_;refine Za rfl<|Zx aH fun a hf _ aI=>?_;refine Zm rfl<|Zm rfl<|Zm rfl<|Ze (X2k rfl X0t)<|Zf (Vc (X7h _ bV e aA b f.top aE aF t sd g (l.length:Int) (by omega)) X3s) ?_;rintro _ w1 ⟨i,aO,aP,rfl,aK,aL,hK,aB⟩;obtain ⟨wm,hO,hm,hE⟩:=hK.mid;clear hm;have j:=g;have c:=c.onlyT hO j rfl;have hW:=hW.self hO;have c:=c.below hE;have hW:=ktr hW hE
 clear j hE hO hK;have g:=aB;clear aB;refine Zi (k:=i.toNat) (u:=(l.getD i.toNat ByteArray.empty)) (enc:=encTx) (l:=l) trivial rfl rfl X0t X5l X10 c (Xei (by omega)) (by omega) ?_;intro p6 aC;refine Ze (X0 rfl X2j aC)<|Za rfl<|Zt aI fun a hf=>?_
 refine Q6 (X4 hf (Xx hf rfl rfl) ?_)
 exact ⟨(l.getD i.toNat ByteArray.empty).data.toList,_,_,by rw [Xmy],aG _ (Qe (Xei (d:=ByteArray.empty) (by omega:i.toNat<l.length))),⟨by omega,by omega⟩,hW,g⟩
theorem Xz0(w0:World)(bV:Nat){aQ:TypeId}(u:Option Addr)(h:Nat)(j:List Int)(b:Rd w0 w0.heap.size aQ encU u j)(aA:∀ x ∈ j,0≤x∧x≤255)(A:AwayR j u bV)(t:Nat)(sd:Int)(d:Blk w0 bV 74 [.slice u j.length h,vi (t:Int),.int .u64 sd])(ht:t+6≤100000000) : Ret Tryz.prog 69 [.pointer (some ⟨bV,0,none⟩)] w0 (fun v w=>∃ (tb:List UInt8) (k:Int) (p:Int) (t1:Nat) (s1:Int),v=.agg #[.string (tx tb),vi k,vi p]∧(tb.length≤20)∧(t≤t1∧t1≤t+6)∧Kept bV w0.heap.size w0 w∧Blk w bV 74 [.slice u j.length h,vi (t1:Int),.int .u64 s1]):=by
 have b2:=d.lt;refine enter Tryz.func69 rfl 18 rfl rfl ?_;intro a D
 have g:Kept bV w0.heap.size w0 w0:=Kept.refl _ _ _
 refine Zs D fun _ aR=>?_;refine Zf (X3 (zs:=[.string (tx []),vi 0,vi 0]) X1s rfl) ?_;rintro _ w1 ⟨b3,rfl,aB,f,c⟩;have aC:=Q0 g.size aB;have aM:=b.away aB;have d:=d.below f;have b:=b.below f;have g:=ktr g f;refine Zx aR fun a D _ aS=>?_;refine Zm rfl<|Zf (Xb (k:=7) (vs:=[vi 0,vi 1,vi 2,vi 3,vi 4,vi 6,vi 9]) (zs:=[vi 0,vi 1,vi 2,vi 3,vi 4,vi 6,vi 9]) rfl X6a Xbc rfl rfl) ?_;rintro _ w2 ⟨b5,rfl,aD,f,aE⟩;have b4:=Q0 g.size aD;have aN:=b.away aD;have d:=d.below f;have c:=c.below f;have b:=b.below f;have g:=ktr g f;refine Zf (Vc (Xhj _ bV u h j b.top aA A t sd d (some ⟨b5,0,none⟩) 7 ([0,1,2,3,4,6,9]) (Rd.of_blk aE rfl _ aE.lt) (by simp) (by simp) (by omega)) X9n) ?_;rintro _ w3 ⟨o,aT,aU,rfl,aF,b6,E,q⟩;obtain ⟨wm,y,hm,f⟩:=E.mid;clear hm;have e:=d;have c:=c.only y (Blk.ne c e rfl);have b:=b.onlyA y A;have g:=g.self y;have c:=c.below f;have b:=b.below f;have g:=ktr g f
 clear e f y E;have d:=q;clear q;have aG:=Y02 aF;refine Za rfl<|Zx aS fun a D _ aW=>?_;refine Zm rfl<|Zm rfl<|Zm rfl<|Zf (Vc (Xrt _ o aG) Xgz) ?_;rintro _ w4 ⟨rfl,f⟩;have d:=d.below f;have c:=c.below f;have b:=b.below f;have g:=ktr g f;refine Zf (Vc (X7h _ bV u h j b.top aA A aT aU d ((cntF o.toNat:Nat) : Int) (by omega)) X3s) ?_;rintro _ w5 ⟨i,aH,aI,rfl,aX,aY,E,q⟩;obtain ⟨wm,y,hm,f⟩:=E.mid;clear hm;have e:=d;have c:=c.only y (Blk.ne c e rfl);have b:=b.onlyA y A;have g:=g.self y;have c:=c.below f;have b:=b.below f;have g:=ktr g f
 clear e f y E;have d:=q;clear q
 have aJ:i.toNat<cntF o.toNat:=by have:=(X9x (n:=o.toNat) (by omega)).1;omega
 refine Zf (Vc (Xwl _ o i aG ⟨by omega,aJ⟩) Xn4) ?_;rintro _ w6 ⟨rfl,f⟩;have d:=d.below f;have c:=c.below f;have b:=b.below f;have g:=ktr g f;refine Zf (X3 (zs:=[.string (tx []),vi 0,vi 0]) X1s rfl) ?_;rintro _ w7 ⟨b8,rfl,aK,f,m⟩
 have aO:b3≠b8:=by have:=c.lt;omega
 have B:=Q0 g.size aK;have aP:=b.away aK;have d:=d.below f;have c:=c.below f;have b:=b.below f;have g:=ktr g f;refine Zo (Vw [.string (tx (atF o.toNat (i.toNat/24))),vi ((i.toNat % 24:Nat) : Int),vi 0] X0z m) ?_;rintro _ w8 ⟨C,hb⟩;have e:=m;have d:=d.only C (Blk.ne d e rfl);have c:=c.only C (by omega);have b:=b.only C B;have g:=Kept.only g C B;have m:=hb;refine Zx aW fun a D _ aZ=>?_;refine Zm rfl<|Zf (Vc (X7h _ bV u h j b.top aA A aH aI d 8 (by omega)) X3s) ?_;rintro _ w9 ⟨z,b7,b9,rfl,b0,b1,E,q⟩;obtain ⟨wm,y,hm,f⟩:=E.mid;clear hm;have e:=d;have c:=c.only y (Blk.ne c e rfl);have m:=m.only y (Blk.ne m e rfl);have g:=g.self y;have c:=c.below f;have m:=m.below f;have g:=ktr g f
 clear e f y E;have d:=q;clear q;refine Ze (Vd rfl X1u 2)<|Zo (Vu (vs:=[vi z]) (l':=[.string (tx (atF o.toNat (i.toNat/24))),vi ((i.toNat % 24:Nat) : Int),vi z]) rfl rfl X65 m) ?_;rintro _ bC ⟨C,hb⟩;have e:=m;have d:=d.only C (Blk.ne d e rfl);have c:=c.only C (by omega);have g:=Kept.only g C B;have m:=hb;refine Zx aZ fun a D _ aL=>?_;refine Ze (Vn X04 m)<|Zo (Vw [.string (tx (atF o.toNat (i.toNat/24))),vi ((i.toNat % 24:Nat) : Int),vi z] X0z c) ?_;rintro _ bD ⟨C,hb⟩;have e:=c;have d:=d.only C (Blk.ne d e rfl);have g:=Kept.only g C aC;have c:=hb;refine Zt aL fun a D=>?_
 refine Q6 (X4 D (Xx D rfl (ResV.cellN (l:=[.string (tx (atF o.toNat (i.toNat/24))),vi ((i.toNat % 24:Nat) : Int),vi z]) rfl X04 (c.at 0) rfl)) ?_)
 exact ⟨_,_,_,_,_,rfl,(by rw [Xch];omega),⟨by omega,by omega⟩,g,d⟩
theorem Xyo(w0:World)(bV:Nat){b8:TypeId}(A:Option Addr)(G:Nat)(o:List Int)(b:Rd w0 w0.heap.size b8 encU A o)(N:∀ x ∈ o,0≤x∧x≤255)(H:AwayR o A bV)(t:Nat)(sd:Int)(d:Blk w0 bV 74 [.slice A o.length G,vi (t:Int),.int .u64 sd])(ht:t+10≤100000000) : Ret Tryz.prog 37 [.pointer (some ⟨bV,0,none⟩)] w0 (fun v w=>∃ (tb:List UInt8) (k:Int) (p:Int) (t1:Nat) (s1:Int),v=.agg #[.string (tx tb),vi k,vi p]∧(tb.length≤200)∧(t≤t1∧t1≤t+10)∧Kept bV w0.heap.size w0 w∧Blk w bV 74 [.slice A o.length G,vi (t1:Int),.int .u64 s1]):=by
 have bR:=d.lt;refine enter Tryz.func37 rfl 30 rfl rfl ?_;intro a n
 have i:Kept bV w0.heap.size w0 w0:=Kept.refl _ _ _
 refine Zs n fun _ b9=>?_;refine Zf (X3 (zs:=[.string (tx []),vi 0,vi 0]) X1s rfl) ?_;rintro _ w1 ⟨b3,rfl,aO,g,c⟩;have J:=Q0 i.size aO;have b4:=b.away aO;have d:=d.below g;have b:=b.below g;have i:=ktr i g;refine Zx b9 fun a n _ bC=>?_;refine Zm rfl<|Zf (Vc (Xz0 _ bV A G o b.top N H t sd d (by omega)) Xos) ?_;rintro _ w2 ⟨m,B,C,bD,bE,rfl,bS,bU,E,q⟩;obtain ⟨wm,y,W,g⟩:=E.mid;clear W;have e:=d;have c:=c.only y (Blk.ne c e rfl);have b:=b.onlyA y H;have i:=i.self y;have c:=c.below g;have b:=b.below g;have i:=ktr i g
 clear e g y E;have d:=q;clear q;refine Zf (X3 (zs:=[.string (tx []),vi 0,vi 0]) X1s rfl) ?_;rintro _ w3 ⟨b5,rfl,aP,g,f⟩
 have b6:b3≠b5:=by have:=c.lt;omega
 have D:=Q0 i.size aP;have b7:=b.away aP;have d:=d.below g;have c:=c.below g;have b:=b.below g;have i:=ktr i g;refine Zo (Vw [.string (tx m),vi B,vi C] X0z f) ?_;rintro _ w4 ⟨u,I⟩;have e:=f;have d:=d.only u (Blk.ne d e rfl);have c:=c.only u (by omega);have b:=b.only u D;have i:=Kept.only i u D;have f:=I;refine ZX bC fun a n _ aA=>?_;refine Zs n fun _ bF=>?_;refine Zm rfl<|Zf (Vc (X7h _ bV A G o b.top N H bD bE d 16 (by omega)) X3s) ?_;rintro _ w5 ⟨cE,aH,aI,rfl,bW,bZ,E,q⟩;obtain ⟨wm,y,W,g⟩:=E.mid;clear W;have e:=d;have c:=c.only y (Blk.ne c e rfl);have f:=f.only y (Blk.ne f e rfl);have b:=b.onlyA y H;have i:=i.self y;have c:=c.below g;have f:=f.below g;have b:=b.below g;have i:=ktr i g
 clear e g y E;have d:=q;clear q;refine Zt bF fun a n=>?_;refine Q8<|Zs n fun _ bG=>?_;refine Ze (X1b rfl rfl)<|Za rfl<|Zt bG fun a n=>?_
 refine Xl n rfl (fun aJ=>?_) (fun aJ=>?_)
 ·have aQ:=aJ;refine Xz (some bV) (fun j=>[7].contains j) mixed ?_;intro w6 g;have d:=d.below g;have c:=c.below g;have f:=f.below g;have b:=b.below g;have i:=ktr i g;refine Yb n<|Yo 0 rfl (fun _=>Vd rfl X0m 0) ?_;refine Yw 1 rfl trivial (fun w1 h1=>X0 rfl X2j ((f.only h1 (Blk.ne f d rfl)).at 0)) ?_;refine Yo 2 rfl (fun _=>X7 rfl)<|Y1 3 ?_;refine Yf rfl trivial (EfW.mono (Xb (k:=3) (vs:=[.string (tx [84]),.string (tx [104]),.string (tx [72,83,83,72,72,83,83,83,72,72,72,83,83,72,83,72,72,83,72,83,72,83,72,83,72,72,72,83,83,83,72,72,83,83,72,72,83,83,72])]) (zs:=[.string (tx [84]),.string (tx [104]),.string (tx [72,83,83,72,72,83,83,83,72,72,72,83,83,72,83,72,72,83,72,83,72,83,72,83,72,72,72,83,83,83,72,72,83,83,72,72,83,83,72])]) rfl X0t X3q rfl rfl) (fun _ _ h=>⟨fun _=>by obtain ⟨_,_,_,g,_⟩:=h;exact Keep.of_below g,h⟩)) ?_;rintro _ w7 ⟨bH,rfl,aB,g,aC⟩;have bI:=Q0 i.size aB;have aR:=b.away aB;have d:=d.below g;have c:=c.below g;have f:=f.below g;have b:=b.below g;have i:=ktr i g;refine Y1 4<|Yf rfl trivial (EfW.mono (Vc (Xxq _ bV A G o b.top N H aH aI d (some ⟨bH,0,none⟩) 3 ([tx [84],tx [104],tx [72,83,83,72,72,83,83,83,72,72,72,83,83,72,83,72,72,83,72,83,72,83,72,83,72,72,72,83,83,83,72,72,83,83,72,72,83,83,72]]) (Rd.of_blk aC rfl _ aC.lt) (by simp) (by simp) (of3 (by decide) (by decide) (by decide)) (by omega)) Xqw) (fun _ _ h=>⟨fun _=>by obtain ⟨z,aS,aT,rfl,aK,aL,E,q⟩:=h;exact E.keep,h⟩)) ?_;rintro _ w8 ⟨z,aS,aT,rfl,aK,aL,E,q⟩;obtain ⟨wm,y,W,g⟩:=E.mid;clear W;have e:=d
  have c:=c.only y (Blk.ne c e rfl);have f:=f.only y (Blk.ne f e rfl);have i:=i.self y;have c:=c.below g;have f:=f.below g;have i:=ktr i g
  clear e g y E;have d:=q;clear q;refine Yo 5 rfl (fun _=>X3m (s:=m) (r:=z) rfl rfl (by omega))<|Yo 6 rfl (fun _=>Vd rfl X0m 0)<|Y1 7 ?_;refine Yh rfl trivial rfl (Vu (vs:=[.string (tx (m++z))]) (l':=[.string (tx (m++z)),vi B,vi C]) rfl rfl X5l f) ?_;rintro _ w9 ⟨u,I⟩;have e:=f;have d:=d.only u (Blk.ne d e rfl);have c:=c.only u (by omega);have i:=Kept.only i u D;have f:=I;refine Yd fun a n=>?_;refine Xn<|aA _ _<|Zs n fun _ aU=>?_;refine Ze (Vn X04 f)<|Zo (Vw [.string (tx (m++z)),vi B,vi C] X0z c) ?_;rintro _ cF ⟨u,I⟩;have e:=c;have d:=d.only u (Blk.ne d e rfl);have i:=Kept.only i u J;have c:=I;refine Zt aU fun a n=>?_
  refine Q6 (X4 n (Xx n rfl (ResV.cellN (l:=[.string (tx (m++z)),vi B,vi C]) rfl X04 (c.at 0) rfl)) ?_)
  exact ⟨_,_,_,_,_,rfl,(by rw [Qh];omega),⟨by omega,by omega⟩,i,d⟩
 have aQ:=aJ;refine Zs n fun _ aW=>?_;refine Ze (X1b rfl rfl)<|Za rfl<|Zt aW fun a n=>?_
 refine Xl n rfl (fun Q=>?_) (fun Q=>?_)
 ·have aM:=Q;refine Zr n<|Zm rfl<|Zf (Xb (k:=2) (vs:=[vi 24,vi (-1)]) (zs:=[vi 24,vi (-1)]) rfl X6a Xbc rfl rfl) ?_;rintro _ cG ⟨bJ,rfl,aD,g,aE⟩;have bK:=Q0 i.size aD;have aX:=b.away aD;have d:=d.below g;have c:=c.below g;have f:=f.below g;have b:=b.below g;have i:=ktr i g;refine Zf (Vc (Xhj _ bV A G o b.top N H aH aI d (some ⟨bJ,0,none⟩) 2 ([24,-1]) (Rd.of_blk aE rfl _ aE.lt) (by simp) (by simp) (by omega)) X9n) ?_;rintro _ cH ⟨L,cA,cB,rfl,bL,bM,E,q⟩;obtain ⟨wm,y,W,g⟩:=E.mid;clear W;have e:=d;have c:=c.only y (Blk.ne c e rfl);have f:=f.only y (Blk.ne f e rfl);have i:=i.self y;have c:=c.below g;have f:=f.below g;have i:=ktr i g
  clear e g y E;have d:=q;clear q;refine Ze (Vd rfl X21 1)<|Zo (Vu (vs:=[vi L]) (l':=[.string (tx m),vi L,vi C]) rfl rfl X65 f) ?_;rintro _ cJ ⟨u,I⟩;have e:=f;have d:=d.only u (Blk.ne d e rfl);have c:=c.only u (by omega);have i:=Kept.only i u D;have f:=I;refine Zn fun a n=>?_;refine Xn<|aA _ _<|Zs n fun _ aY=>?_;refine Ze (Vn X04 f)<|Zo (Vw [.string (tx m),vi L,vi C] X0z c) ?_;rintro _ cK ⟨u,I⟩;have e:=c;have d:=d.only u (Blk.ne d e rfl);have i:=Kept.only i u J;have c:=I;refine Zt aY fun a n=>?_
  refine Q6 (X4 n (Xx n rfl (ResV.cellN (l:=[.string (tx m),vi L,vi C]) rfl X04 (c.at 0) rfl)) ?_)
  exact ⟨_,_,_,_,_,rfl,(by omega),⟨by omega,by omega⟩,i,d⟩
 have aM:=Q;refine Zs n fun _ aZ=>?_;refine Ze (X1b rfl rfl)<|Za rfl<|Zt aZ fun a n=>?_
 refine Xl n rfl (fun U=>?_) (fun U=>?_)
 ·have aN:=U;refine Zr n<|Zm rfl<|Zf (Xb (k:=2) (vs:=[vi 8,vi (-1)]) (zs:=[vi 8,vi (-1)]) rfl X6a Xbc rfl rfl) ?_;rintro _ cM ⟨bN,rfl,aF,g,aG⟩;have bO:=Q0 i.size aF;have b0:=b.away aF;have d:=d.below g;have c:=c.below g;have f:=f.below g;have b:=b.below g;have i:=ktr i g;refine Zf (Vc (Xhj _ bV A G o b.top N H aH aI d (some ⟨bN,0,none⟩) 2 ([8,-1]) (Rd.of_blk aG rfl _ aG.lt) (by simp) (by simp) (by omega)) X9n) ?_;rintro _ cO ⟨M,cC,cD,rfl,bP,bQ,E,q⟩;obtain ⟨wm,y,W,g⟩:=E.mid;clear W;have e:=d;have c:=c.only y (Blk.ne c e rfl);have f:=f.only y (Blk.ne f e rfl);have i:=i.self y;have c:=c.below g;have f:=f.below g;have i:=ktr i g
  clear e g y E;have d:=q;clear q;refine Ze (Vd rfl X1u 2)<|Zo (Vu (vs:=[vi M]) (l':=[.string (tx m),vi B,vi M]) rfl rfl X65 f) ?_;rintro _ cP ⟨u,I⟩;have e:=f;have d:=d.only u (Blk.ne d e rfl);have c:=c.only u (by omega);have i:=Kept.only i u D;have f:=I;refine Zn fun a n=>?_;refine Xn<|aA _ _<|Zs n fun _ b1=>?_;refine Ze (Vn X04 f)<|Zo (Vw [.string (tx m),vi B,vi M] X0z c) ?_;rintro _ cQ ⟨u,I⟩;have e:=c;have d:=d.only u (Blk.ne d e rfl);have i:=Kept.only i u J;have c:=I;refine Zt b1 fun a n=>?_
  refine Q6 (X4 n (Xx n rfl (ResV.cellN (l:=[.string (tx m),vi B,vi M]) rfl X04 (c.at 0) rfl)) ?_)
  exact ⟨_,_,_,_,_,rfl,(by omega),⟨by omega,by omega⟩,i,d⟩
 have aN:=U;refine Q7<|Xn<|aA _ _<|Zs n fun _ b2=>?_;refine Ze (Vn X04 f)<|Zo (Vw [.string (tx m),vi B,vi C] X0z c) ?_;rintro _ cR ⟨u,I⟩;have e:=c;have d:=d.only u (Blk.ne d e rfl);have i:=Kept.only i u J;have c:=I;refine Zt b2 fun a n=>?_
 refine Q6 (X4 n (Xx n rfl (ResV.cellN (l:=[.string (tx m),vi B,vi C]) rfl X04 (c.at 0) rfl)) ?_)
 exact ⟨_,_,_,_,_,rfl,(by omega),⟨by omega,by omega⟩,i,d⟩
theorem Xx1(w0:World){aK:TypeId}(f:Option Addr)(g:Nat)(b:List Int)(c:Rd w0 w0.heap.size aK encU f b)(aL:∀ x ∈ b,0≤x∧x≤255) : Ret Tryz.prog 16 [.slice f b.length g] w0 (fun v w=>∃ (tb:List UInt8) (k p:Int),v=.agg #[.string (tx tb),vi k,vi p]∧tb.length≤200∧Below w0.heap.size w0 w):=by
 refine enter Tryz.func16 rfl 9 rfl rfl ?_;intro a hf
 have e:=bz w0
 refine Zs hf fun _ aM=>?_;refine Zf (X3 (zs:=[.string (tx []),vi 0,vi 0]) X1s rfl) ?_;rintro _ w1 ⟨b3,rfl,aB,m,d⟩;have aC:=Q0 e.size aB;have aJ:=(c.below' e).away aB;have e:=btr e m;refine Zx aM fun a hf _ aN=>?_;refine Zm rfl<|Ze (Xg (ps:=[(0,.slice f b.length g)]) (cs:=[.slice f b.length g,vi 0,.int .u64 0]) rfl (fun _=>by first|rfl|kernel_rfl))<|Zf (X0j (zs:=[.slice f b.length g,vi 0,.int .u64 0]) rfl rfl) ?_;rintro _ w2 ⟨b6,rfl,aD,m,aA⟩;have aE:=Q0 e.size aD;have j:=(c.below' e).away aD;have d:=d.below m;have e:=btr e m;refine Za rfl<|Zx aN fun a hf _ aO=>?_;refine Zm rfl<|Zf (Vc (Xyo _ b6 f g b (c.below' e).top aL j 0 0 aA (by omega)) Xo3) ?_;rintro _ w3 ⟨n,aF,aG,aQ,aR,rfl,aH,aP,hK,aI⟩;obtain ⟨wm,hO,hm,m⟩:=hK.mid;clear hm;have i:=aA;have d:=d.only hO (Blk.ne d i rfl);have e:=Below.only e hO aE;have d:=d.below m;have e:=btr e m
 clear i m hO hK;have aA:=aI;clear aI;refine Zo (Vw [.string (tx n),vi aF,vi aG] X0z d) ?_;rintro _ w4 ⟨ho,hb⟩;have i:=d;have e:=Below.only e ho aC;have d:=hb;refine Zt aO fun a hf=>?_
 refine Q6 (X4 hf (Xx hf rfl (ResV.cellN (l:=[.string (tx n),vi aF,vi aG]) rfl X04 (d.at 0) rfl)) ?_)
 exact ⟨_,_,_,rfl,aH,e⟩
theorem Xz9(w0:World){aI:TypeId}(aA:Option Addr)(aB:Nat)(c:List Int)(b:Rd w0 w0.heap.size aI encU aA c)(aJ:∀ x ∈ c,0≤x∧x≤255) : Ret Tryz.prog 5 [.slice aA c.length aB] w0 (fun v w=>∃ (tb:List UInt8) (k p:Int),v=.agg #[.string (tx tb),vi k,vi p]∧tb.length≤200∧Below w0.heap.size w0 w):=by
 refine enter Tryz.func5 rfl 5 rfl rfl ?_;intro a hf
 have e:=bz w0
 refine Zs hf fun _ aK=>?_;refine Zf (X3 (zs:=[.string (tx []),vi 0,vi 0]) X1s rfl) ?_;rintro _ w1 ⟨b3,rfl,aC,hE,d⟩;have aD:=Q0 e.size aC;have aH:=(b.below' e).away aC;have e:=btr e hE;refine Zx aK fun a hf _ aL=>?_;refine Zm rfl<|Zf (Vc (Xx1 _ aA aB c (b.below' e).top aJ) Xpf) ?_;rintro _ w2 ⟨f,aE,aF,rfl,aG,hE⟩;have d:=d.below hE;have e:=btr e hE;refine Zo (Vw [.string (tx f),vi aE,vi aF] X0z d) ?_;rintro _ w3 ⟨ho,hb⟩;have aM:=d;have e:=Below.only e ho aD;have d:=hb;refine Zt aL fun a hf=>?_
 refine Q6 (X4 hf (Xx hf rfl (ResV.cellN (l:=[.string (tx f),vi aE,vi aF]) rfl X04 (d.at 0) rfl)) ?_)
 exact ⟨_,_,_,rfl,aG,e⟩
theorem Xrc(w0:World){aL:TypeId}(l:Option Addr)(m:Nat)(e:List Int)(b:Rd w0 w0.heap.size aL encU l e)(u:∀ x ∈ e,0≤x∧x≤255) : Ret Tryz.prog 12 [.slice l e.length m] w0 (fun v w=>∃ (n k:Int),v=.tuple #[vi n,vi k]∧(-1≤n∧n≤21∧-1≤k∧k≤100000000)∧Below w0.heap.size w0 w):=by
 refine enter Tryz.func12 rfl 25 rfl rfl ?_;intro a p
 have d:=bz w0
 refine Zs p fun _ aM=>?_;refine Za rfl<|Za rfl<|Zx aM fun a p _ aN=>?_;refine Zm rfl<|Ze (Xg (ps:=[(0,.slice l e.length m)]) (cs:=[.slice l e.length m,vi 0,.int .u64 0]) rfl (fun _=>by first|rfl|kernel_rfl))<|Zf (X0j (zs:=[.slice l e.length m,vi 0,.int .u64 0]) rfl rfl) ?_;rintro _ w1 ⟨b5,rfl,aC,j,c⟩;have o:=Q0 d.size aC;have f:=(b.below' d).away aC;have d:=btr d j;refine Za rfl<|Zx aN fun a p _ aO=>?_;refine Zm rfl<|Zf (Vc (X7h _ b5 l m e (b.below' d).top u f 0 0 c 8 (by omega)) X3s) ?_;rintro _ w2 ⟨y,aD,aE,rfl,aP,aQ,q,g⟩;obtain ⟨wm,t,z,j⟩:=q.mid;clear z;have i:=c;have d:=Below.only d t o;have d:=btr d j
 clear i j t q;have c:=g;clear g
 have b3:=X9x (n:=y.toNat) (by omega)
 refine Za rfl<|ZX aO fun a p _ aR=>?_;refine Zs p fun _ aS=>?_;refine Zm rfl<|Zf (Vc (Xwv _ b5 l m e (b.below' d).top u f aD aE c 8 (by omega)) Xpd) ?_;rintro _ w3 ⟨b4,h,A,rfl,aT,aU,q,g⟩;obtain ⟨wm,t,z,j⟩:=q.mid;clear z;have i:=c;have d:=Below.only d t o;have d:=btr d j
 clear i j t q;have c:=g;clear g;refine Zt aS fun a p=>?_
 refine Xl p rfl (fun aA=>?_) (fun aA=>?_)
 ·have aF:=aA;refine Zs p fun _ aG=>?_;refine Zm rfl<|Zf (Xb (k:=3) (vs:=[vi (-1),vi 21,vi 20]) (zs:=[vi (-1),vi 21,vi 20]) rfl X6a Xbc rfl rfl) ?_;rintro _ w4 ⟨aW,rfl,B,j,C⟩;have aX:=Q0 d.size B;have aH:=(b.below' d).away B;have c:=c.below j;have d:=btr d j;refine Zf (Vc (Xhj _ b5 l m e (b.below' d).top u f h A c (some ⟨aW,0,none⟩) 3 ([-1,21,20]) (Rd.of_blk C rfl _ C.lt) (by simp) (by simp) (by omega)) X9n) ?_;rintro _ w5 ⟨D,aI,aJ,rfl,aB,aY,q,g⟩;obtain ⟨wm,t,z,j⟩:=q.mid;clear z;have i:=c;have d:=Below.only d t o;have d:=btr d j
  clear i j t q;have c:=g;clear g
  have b6:-1≤D∧D≤21:=by have h9:=aB;simp at h9;omega
  refine Zm rfl<|Zf (Vc (X7h _ b5 l m e (b.below' d).top u f aI aJ c 90 (by omega)) X3s) ?_;rintro _ w6 ⟨b7,b8,b9,rfl,aZ,b0,q,g⟩;obtain ⟨wm,t,z,j⟩:=q.mid;clear z;have i:=c;have d:=Below.only d t o;have d:=btr d j
  clear i j t q;have c:=g;clear g;refine Za rfl<|Za rfl<|Zt aG fun a p=>?_;refine Q6<|Xf<|X4 p (X0r p rfl rfl rfl) ?_;exact ⟨_,_,rfl,(by omega),d⟩
 have aF:=aA;refine Q7<|aR _ _<|Zs p fun _ aK=>?_;refine Zm rfl<|Zm rfl<|Zm rfl<|Zf (Vc (Xrt _ y ⟨by omega,by omega⟩) Xgz) ?_;rintro _ w7 ⟨rfl,j⟩;have c:=c.below j;have d:=btr d j;refine Ze (X03 rfl rfl (by omega) (by omega))<|Zf (Vc (X7h _ b5 l m e (b.below' d).top u f h A c (((cntF y.toNat:Nat) : Int)+2) (by omega)) X3s) ?_;rintro _ w8 ⟨bC,bD,bE,rfl,b1,b2,q,g⟩;obtain ⟨wm,t,z,j⟩:=q.mid;clear z;have i:=c;have d:=Below.only d t o;have d:=btr d j
 clear i j t q;have c:=g;clear g;refine Ze (X1m rfl rfl (by omega) (by omega))<|Za rfl<|Za rfl<|Zt aK fun a p=>?_
 refine Q6 (X4 p (X0r p rfl rfl rfl) ?_)
 exact ⟨_,_,rfl,(by omega),d⟩
end Go.Proofs.YtckoekhjglafjaaGreatDoor
namespace Go.Proofs
open Go.Shelf
def Tryz.lays172_ren:Go.Shelf.Ren:=⟨fun|172=>67|244=>108|245=>109|247=>143|279=>144|280=>145|281=>146|282=>147|287=>168|316=>169|171=>29|205=>170|321=>181|322=>182|243=>65|246=>104|283=>135|284=>136|285=>137|286=>138|129=>159|317=>158|318=>160|319=>161|320=>162|337=>177|338=>178|n=>n,fun|9=>9|3=>3|75=>117|76=>118|4=>4|5=>5|167=>175|37=>22|0=>0|85=>176|2=>2|168=>178|53=>72|175=>193|46=>100|210=>197|127=>208|145=>211|143=>209|21=>21|171=>166|173=>169|212=>189|51=>190|20=>20|213=>191|232=>213|233=>214|80=>215|n=>n,fun|15=>3|16=>4|17=>1|18=>7|19=>8|n=>n⟩
theorem Tryz.lays172:Go.Proofs.Lays.n172 Tryz.prog Tryz.lays172_ren:={
  mixed:=by kernel_rfl
  f129:=Tryz.func159.trans (congrArg some (by kernel_rfl))
  f171:=Tryz.func29.trans (congrArg some (by kernel_rfl))
  f172:=Tryz.func67.trans (congrArg some (by kernel_rfl))
  f205:=Tryz.func170.trans (congrArg some (by kernel_rfl))
  f243:=Tryz.func65.trans (congrArg some (by kernel_rfl))
  f244:=Tryz.func108.trans (congrArg some (by kernel_rfl))
  f245:=Tryz.func109.trans (congrArg some (by kernel_rfl))
  f246:=Tryz.func104.trans (congrArg some (by kernel_rfl))
  f247:=Tryz.func143.trans (congrArg some (by kernel_rfl))
  f279:=Tryz.func144.trans (congrArg some (by kernel_rfl))
  f280:=Tryz.func145.trans (congrArg some (by kernel_rfl))
  f281:=Tryz.func146.trans (congrArg some (by kernel_rfl))
  f282:=Tryz.func147.trans (congrArg some (by kernel_rfl))
  f283:=Tryz.func135.trans (congrArg some (by kernel_rfl))
  f284:=Tryz.func136.trans (congrArg some (by kernel_rfl))
  f285:=Tryz.func137.trans (congrArg some (by kernel_rfl))
  f286:=Tryz.func138.trans (congrArg some (by kernel_rfl))
  f287:=Tryz.func168.trans (congrArg some (by kernel_rfl))
  f316:=Tryz.func169.trans (congrArg some (by kernel_rfl))
  f317:=Tryz.func158.trans (congrArg some (by kernel_rfl))
  f318:=Tryz.func160.trans (congrArg some (by kernel_rfl))
  f319:=Tryz.func161.trans (congrArg some (by kernel_rfl))
  f320:=Tryz.func162.trans (congrArg some (by kernel_rfl))
  f321:=Tryz.func181.trans (congrArg some (by kernel_rfl))
  f322:=Tryz.func182.trans (congrArg some (by kernel_rfl))
  f337:=Tryz.func177.trans (congrArg some (by kernel_rfl))
  f338:=Tryz.func178.trans (congrArg some (by kernel_rfl))
  t0:=Tryz.underlying0
  a0:=Tryz.isAgg0
  z0:=Tryz.sizeOf0
  v0:=Tryz.zeroValue0
  t2:=Tryz.underlying2
  a2:=Tryz.isAgg2
  z2:=Tryz.sizeOf2
  v2:=Tryz.zeroValue2
  t3:=Tryz.underlying3
  a3:=Tryz.isAgg3
  z3:=Tryz.sizeOf3
  v3:=Tryz.zeroValue3
  t4:=Tryz.underlying4
  a4:=Tryz.isAgg4
  z4:=Tryz.sizeOf4
  v4:=Tryz.zeroValue4
  t5:=Tryz.underlying5
  a5:=Tryz.isAgg5
  z5:=Tryz.sizeOf5
  v5:=Tryz.zeroValue5
  t9:=Tryz.underlying9
  a9:=Tryz.isAgg9
  z9:=Tryz.sizeOf9
  v9:=Tryz.zeroValue9
  t20:=Tryz.underlying20
  a20:=Tryz.isAgg20
  z20:=Tryz.sizeOf20
  v20:=Tryz.zeroValue20
  t21:=Tryz.underlying21
  a21:=Tryz.isAgg21
  z21:=Tryz.sizeOf21
  v21:=Tryz.zeroValue21
  t37:=Tryz.underlying22
  a37:=Tryz.isAgg22
  z37:=Tryz.sizeOf22
  v37:=Tryz.zeroValue22
  t46:=Tryz.underlying100
  a46:=Tryz.isAgg100
  z46:=Tryz.sizeOf100
  v46:=Tryz.zeroValue100
  t51:=Tryz.underlying190
  a51:=Tryz.isAgg190
  z51:=Tryz.sizeOf190
  v51:=Tryz.zeroValue190
  t53:=Tryz.underlying72
  a53:=Tryz.isAgg72
  z53:=Tryz.sizeOf72
  v53:=Tryz.zeroValue72
  t75:=Tryz.underlying117
  a75:=Tryz.isAgg117
  z75:=Tryz.sizeOf117
  v75:=Tryz.zeroValue117
  t76:=Tryz.underlying118
  a76:=Tryz.isAgg118
  z76:=Tryz.sizeOf118
  v76:=Tryz.zeroValue118
  t85:=Tryz.underlying176
  a85:=Tryz.isAgg176
  z85:=Tryz.sizeOf176
  v85:=Tryz.zeroValue176
  t127:=Tryz.underlying208
  a127:=Tryz.isAgg208
  z127:=Tryz.sizeOf208
  v127:=Tryz.zeroValue208
  t143:=Tryz.underlying209
  a143:=Tryz.isAgg209
  z143:=Tryz.sizeOf209
  v143:=Tryz.zeroValue209
  t145:=Tryz.underlying211
  a145:=Tryz.isAgg211
  z145:=Tryz.sizeOf211
  v145:=Tryz.zeroValue211
  t167:=Tryz.underlying175
  a167:=Tryz.isAgg175
  z167:=Tryz.sizeOf175
  v167:=Tryz.zeroValue175
  t168:=Tryz.underlying178
  a168:=Tryz.isAgg178
  z168:=Tryz.sizeOf178
  v168:=Tryz.zeroValue178
  t171:=Tryz.underlying166
  a171:=Tryz.isAgg166
  z171:=Tryz.sizeOf166
  v171:=Tryz.zeroValue166
  t173:=Tryz.underlying169
  a173:=Tryz.isAgg169
  z173:=Tryz.sizeOf169
  v173:=Tryz.zeroValue169
  t175:=Tryz.underlying193
  a175:=Tryz.isAgg193
  z175:=Tryz.sizeOf193
  v175:=Tryz.zeroValue193
  t210:=Tryz.underlying197
  a210:=Tryz.isAgg197
  z210:=Tryz.sizeOf197
  v210:=Tryz.zeroValue197
  t212:=Tryz.underlying189
  a212:=Tryz.isAgg189
  z212:=Tryz.sizeOf189
  v212:=Tryz.zeroValue189
  t213:=Tryz.underlying191
  a213:=Tryz.isAgg191
  z213:=Tryz.sizeOf191
  t232:=Tryz.underlying213
  a232:=Tryz.isAgg213
  z232:=Tryz.sizeOf213
  v232:=Tryz.zeroValue213
  t233:=Tryz.underlying214
  a233:=Tryz.isAgg214
  z233:=Tryz.sizeOf214
  v233:=Tryz.zeroValue214
  g15:=by kernel_rfl
  g16:=by kernel_rfl
  g17:=by kernel_rfl
  g18:=by kernel_rfl
  g19:=by kernel_rfl }
open Go.RowKit in
theorem Tryz.strconv_Atoi(s:ByteArray)(n:Int)(hl:s.size≤18)(h:Lib.atoi s.data.toList=some n)(w:World) :
    Calls Tryz.prog 67 #[.string s] w fun e w'=>e=.returned (.tuple #[.int .i64 n,.nilIface])∧∃ t,w'=Lib.bytesWorld w 5 t:=Any.strconv_Atoi Tryz.lays172 s n hl h w
def Tryz.lays171_ren:Go.Shelf.Ren:=⟨fun|171=>29|243=>65|246=>104|283=>135|284=>136|285=>137|286=>138|129=>159|317=>158|318=>160|319=>161|320=>162|337=>177|338=>178|n=>n,fun|3=>3|9=>9|2=>2|4=>4|171=>166|0=>0|53=>72|37=>22|5=>5|173=>169|212=>189|51=>190|20=>20|213=>191|46=>100|232=>213|233=>214|n=>n,fun|17=>1|18=>7|19=>8|n=>n⟩
theorem Tryz.lays171:Go.Proofs.Lays.n171 Tryz.prog Tryz.lays171_ren:={
  mixed:=by kernel_rfl
  f129:=Tryz.func159.trans (congrArg some (by kernel_rfl))
  f171:=Tryz.func29.trans (congrArg some (by kernel_rfl))
  f243:=Tryz.func65.trans (congrArg some (by kernel_rfl))
  f246:=Tryz.func104.trans (congrArg some (by kernel_rfl))
  f283:=Tryz.func135.trans (congrArg some (by kernel_rfl))
  f284:=Tryz.func136.trans (congrArg some (by kernel_rfl))
  f285:=Tryz.func137.trans (congrArg some (by kernel_rfl))
  f286:=Tryz.func138.trans (congrArg some (by kernel_rfl))
  f317:=Tryz.func158.trans (congrArg some (by kernel_rfl))
  f318:=Tryz.func160.trans (congrArg some (by kernel_rfl))
  f319:=Tryz.func161.trans (congrArg some (by kernel_rfl))
  f320:=Tryz.func162.trans (congrArg some (by kernel_rfl))
  f337:=Tryz.func177.trans (congrArg some (by kernel_rfl))
  f338:=Tryz.func178.trans (congrArg some (by kernel_rfl))
  t0:=Tryz.underlying0
  a0:=Tryz.isAgg0
  z0:=Tryz.sizeOf0
  v0:=Tryz.zeroValue0
  t2:=Tryz.underlying2
  a2:=Tryz.isAgg2
  z2:=Tryz.sizeOf2
  v2:=Tryz.zeroValue2
  t3:=Tryz.underlying3
  a3:=Tryz.isAgg3
  z3:=Tryz.sizeOf3
  v3:=Tryz.zeroValue3
  t4:=Tryz.underlying4
  a4:=Tryz.isAgg4
  z4:=Tryz.sizeOf4
  v4:=Tryz.zeroValue4
  t5:=Tryz.underlying5
  a5:=Tryz.isAgg5
  z5:=Tryz.sizeOf5
  v5:=Tryz.zeroValue5
  t9:=Tryz.underlying9
  a9:=Tryz.isAgg9
  z9:=Tryz.sizeOf9
  v9:=Tryz.zeroValue9
  t20:=Tryz.underlying20
  a20:=Tryz.isAgg20
  z20:=Tryz.sizeOf20
  v20:=Tryz.zeroValue20
  t37:=Tryz.underlying22
  a37:=Tryz.isAgg22
  z37:=Tryz.sizeOf22
  v37:=Tryz.zeroValue22
  t46:=Tryz.underlying100
  a46:=Tryz.isAgg100
  z46:=Tryz.sizeOf100
  v46:=Tryz.zeroValue100
  t51:=Tryz.underlying190
  a51:=Tryz.isAgg190
  z51:=Tryz.sizeOf190
  v51:=Tryz.zeroValue190
  t53:=Tryz.underlying72
  a53:=Tryz.isAgg72
  z53:=Tryz.sizeOf72
  v53:=Tryz.zeroValue72
  t171:=Tryz.underlying166
  a171:=Tryz.isAgg166
  z171:=Tryz.sizeOf166
  v171:=Tryz.zeroValue166
  t173:=Tryz.underlying169
  a173:=Tryz.isAgg169
  z173:=Tryz.sizeOf169
  v173:=Tryz.zeroValue169
  t212:=Tryz.underlying189
  a212:=Tryz.isAgg189
  z212:=Tryz.sizeOf189
  v212:=Tryz.zeroValue189
  t213:=Tryz.underlying191
  a213:=Tryz.isAgg191
  z213:=Tryz.sizeOf191
  t232:=Tryz.underlying213
  a232:=Tryz.isAgg213
  z232:=Tryz.sizeOf213
  v232:=Tryz.zeroValue213
  t233:=Tryz.underlying214
  a233:=Tryz.isAgg214
  z233:=Tryz.sizeOf214
  v233:=Tryz.zeroValue214
  g17:=by kernel_rfl
  g18:=by kernel_rfl
  g19:=by kernel_rfl }
open Go.RowKit Go.Sort Go.Lib in
theorem Tryz.strconv_Itoa_small(i:Nat)(hi:i<100)(w:World) :
    Calls Tryz.prog 29 #[.int .i64 i] w fun e w'=>e=.returned (.string ⟨(Lib.decDigits i).toArray⟩)∧w'=w:=Any.strconv_Itoa_small Tryz.lays171 i hi w
def Tryz.lays146_ren:Go.Shelf.Ren:=⟨fun|146=>30|221=>66|268=>105|138=>106|143=>107|195=>139|197=>140|218=>141|219=>142|260=>163|217=>164|225=>165|224=>166|267=>167|266=>179|314=>180|n=>n,fun|9=>9|31=>68|3=>3|4=>4|0=>0|105=>172|21=>21|5=>5|46=>100|119=>200|139=>203|138=>202|146=>204|51=>190|n=>n,fun|1=>2|3=>5|4=>6|n=>n⟩
theorem Tryz.lays146:Go.Proofs.Lays.n146 Tryz.prog Tryz.lays146_ren:={
  mixed:=by kernel_rfl
  f138:=Tryz.func106.trans (congrArg some (by kernel_rfl))
  f143:=Tryz.func107.trans (congrArg some (by kernel_rfl))
  f146:=Tryz.func30.trans (congrArg some (by kernel_rfl))
  f195:=Tryz.func139.trans (congrArg some (by kernel_rfl))
  f197:=Tryz.func140.trans (congrArg some (by kernel_rfl))
  f217:=Tryz.func164.trans (congrArg some (by kernel_rfl))
  f218:=Tryz.func141.trans (congrArg some (by kernel_rfl))
  f219:=Tryz.func142.trans (congrArg some (by kernel_rfl))
  f221:=Tryz.func66.trans (congrArg some (by kernel_rfl))
  f224:=Tryz.func166.trans (congrArg some (by kernel_rfl))
  f225:=Tryz.func165.trans (congrArg some (by kernel_rfl))
  f260:=Tryz.func163.trans (congrArg some (by kernel_rfl))
  f266:=Tryz.func179.trans (congrArg some (by kernel_rfl))
  f267:=Tryz.func167.trans (congrArg some (by kernel_rfl))
  f268:=Tryz.func105.trans (congrArg some (by kernel_rfl))
  f314:=Tryz.func180.trans (congrArg some (by kernel_rfl))
  t0:=Tryz.underlying0
  a0:=Tryz.isAgg0
  z0:=Tryz.sizeOf0
  v0:=Tryz.zeroValue0
  t3:=Tryz.underlying3
  a3:=Tryz.isAgg3
  z3:=Tryz.sizeOf3
  v3:=Tryz.zeroValue3
  t4:=Tryz.underlying4
  a4:=Tryz.isAgg4
  z4:=Tryz.sizeOf4
  v4:=Tryz.zeroValue4
  t5:=Tryz.underlying5
  a5:=Tryz.isAgg5
  z5:=Tryz.sizeOf5
  v5:=Tryz.zeroValue5
  t9:=Tryz.underlying9
  a9:=Tryz.isAgg9
  z9:=Tryz.sizeOf9
  v9:=Tryz.zeroValue9
  t21:=Tryz.underlying21
  a21:=Tryz.isAgg21
  z21:=Tryz.sizeOf21
  v21:=Tryz.zeroValue21
  t31:=Tryz.underlying68
  a31:=Tryz.isAgg68
  z31:=Tryz.sizeOf68
  v31:=Tryz.zeroValue68
  t46:=Tryz.underlying100
  a46:=Tryz.isAgg100
  z46:=Tryz.sizeOf100
  v46:=Tryz.zeroValue100
  t51:=Tryz.underlying190
  a51:=Tryz.isAgg190
  z51:=Tryz.sizeOf190
  v51:=Tryz.zeroValue190
  t105:=Tryz.underlying172
  a105:=Tryz.isAgg172
  z105:=Tryz.sizeOf172
  v105:=Tryz.zeroValue172
  t119:=Tryz.underlying200
  a119:=Tryz.isAgg200
  z119:=Tryz.sizeOf200
  t138:=Tryz.underlying202
  a138:=Tryz.isAgg202
  z138:=Tryz.sizeOf202
  v138:=Tryz.zeroValue202
  t139:=Tryz.underlying203
  a139:=Tryz.isAgg203
  z139:=Tryz.sizeOf203
  v139:=Tryz.zeroValue203
  t146:=Tryz.underlying204
  a146:=Tryz.isAgg204
  z146:=Tryz.sizeOf204
  v146:=Tryz.zeroValue204
  g1:=by kernel_rfl
  g3:=by kernel_rfl
  g4:=by kernel_rfl }
open Go.RowKit Go.Lib in
theorem Tryz.strings_Split(s sep:ByteArray)(m:Int)(w:World)(hs:s.size<4294967281)(hm:w.cell? ⟨2,0,none⟩=some (.int .i64 m))(h1:1≤sep.size) :
    Calls Tryz.prog 30 #[.string s,.string sep] w fun e w'=>
      e=.returned (.slice (some ⟨w.heap.size,0,none⟩) (Lib.countB s sep+1) (Lib.countB s sep+1))∧w'=w.alloc (.cells ((Lib.splitB sep 0 (Lib.countB s sep) s).map Value.string).toArray 9):=Any.strings_Split Tryz.lays146 (by kernel_rfl) s sep m w hs hm h1
end Go.Proofs
namespace Go.Proofs.YtckoekhjglafjaaGreatDoor
open Go.RowKit
section
variable {P : Program} {a : Act} {w : World} {n : Nat} {e : Env} {ty : TypeId} {pos : String} {af : Array Edge} {g : Option (Nat × Bool)} {d : Option Tmp} {t t' : TypeId}
theorem Xnv{x y:Operand}{s:List UInt8}(hf:Fr a n e)(hx:ev e x=some (.string (tx s)))(hy:ev e y=some (.string (tx s))) : Ev P ⟨d,.binOp .eql t x y t',ty,pos,af,g⟩ a w (.bool true):=fun w' _=>by
 simp [execOp,hf.ev hx,hf.ev hy,eqGuard,binOp,Op.stringOp]
theorem Xw4{x y:Operand}{s:List UInt8}(hx:ev e x=some (.string (tx s)))(hy:ev e y=some (.string (tx s))) : EvW P ⟨d,.binOp .eql t x y t',ty,pos,af,g⟩ n e w (.bool true):=fun _ hf=>Xnv hf hx hy
theorem Xlc(s r:List UInt8) : decide ((tx s).toList=(tx r).toList)=decide (s=r):=by rw [Xco,Xco]
theorem Xjg{x y:Operand}{s r:List UInt8}(hf:Fr a n e)(hx:ev e x=some (.string (tx s)))(hy:ev e y=some (.string (tx r))) : Ev P ⟨d,.binOp .eql t x y t',ty,pos,af,g⟩ a w (.bool (decide (s=r))):=fun w' _=>by
 rw [← Xlc]
 simp [execOp,hf.ev hx,hf.ev hy,eqGuard,binOp,Op.stringOp]
 exact Bool.eq_iff_iff.2 (by simp)
theorem Xte{x y:Operand}{s r:List UInt8}(hx:ev e x=some (.string (tx s)))(hy:ev e y=some (.string (tx r))) : EvW P ⟨d,.binOp .eql t x y t',ty,pos,af,g⟩ n e w (.bool (decide (s=r))):=fun _ hf=>Xjg hf hx hy
theorem Xle{x y:Operand}{s r:List UInt8}(hf:Fr a n e)(hx:ev e x=some (.string (tx s)))(hy:ev e y=some (.string (tx r))) : Ev P ⟨d,.binOp .neq t x y t',ty,pos,af,g⟩ a w (.bool (!decide (s=r))):=fun w' _=>by
 rw [← Xlc]
 simp [execOp,hf.ev hx,hf.ev hy,eqGuard,binOp,Op.stringOp]
 exact Bool.eq_iff_iff.2 (by simp)
theorem Xlr{x y:Operand}{s r:List UInt8}(hx:ev e x=some (.string (tx s)))(hy:ev e y=some (.string (tx r))) : EvW P ⟨d,.binOp .neq t x y t',ty,pos,af,g⟩ n e w (.bool (!decide (s=r))):=fun _ hf=>Xle hf hx hy
theorem Xiw{x:Operand}(hf:Fr a n e)(hx:ev e x=some .nilIface)(hT:P.underlying t=some (.interface (P.methodsAt t))) : Ev P ⟨d,.binOp .eql t x (.const .nilIface) t',ty,pos,af,g⟩ a w (.bool true):=fun w' _=>by
 have hc:a.eval (.const .nilIface)=.nilIface:=rfl
 simp [execOp,hf.ev hx,hc,eqGuard,binOp,run_equal_nil_nil w' t hT]
theorem Xp9{x:Operand}(hx:ev e x=some .nilIface)(hT:P.underlying t=some (.interface (P.methodsAt t))) : EvW P ⟨d,.binOp .eql t x (.const .nilIface) t',ty,pos,af,g⟩ n e w (.bool true):=fun _ hf=>Xiw hf hx hT
end
theorem Xo8:Tryz.prog.underlying (117:TypeId)=some (.interface (Tryz.prog.methodsAt (117:TypeId))):=by kernel_rfl
theorem Xe8(w:World)(n:Nat)(h:n<100) : Ret Tryz.prog 29 [.int .i64 (n:Int)] w (fun v w'=>v=.string (tx (Lib.itoa (n:Int)))∧w=w'):=
 Calls.mono (Tryz.strconv_Itoa_small n h w) fun _ _ ⟨he,hw⟩=>⟨_,he,by unfold Lib.itoa;rw [Q3 (by omega)];rfl,hw.symm⟩
theorem Xyk(w:World)(n:Nat)(h:n<24) : Ret Tryz.prog 67 [.string (tx (Lib.itoa (n:Int)))] w (fun v w'=>v=.tuple #[.int .i64 (n:Int),.nilIface]∧Below w.heap.size w w'):=
 Calls.mono (Tryz.strconv_Atoi (tx (Lib.itoa (n:Int))) n (by rw [X3w];have:=(X3x h).2.2;omega) (by rw [Xdh];exact (X3x h).2.1) w) fun _ _ ⟨he,t,hw⟩=>⟨_,he,rfl,by subst hw;exact Lib.bytesWorld_below _ _ _⟩
def MaxT(w:World) : Prop:=∃ m:Int,w.cell? ⟨2,0,none⟩=some (.int .i64 m)
theorem MaxT.of{w0 w:World}(h:MaxT w0)(hW:Below w0.heap.size w0 w) : MaxT w:=by
 obtain ⟨m,hm⟩:=h;have hb:=World.block_lt_of_cell? _ _ hm
 refine ⟨m,?_⟩
 rw [← hm]
 unfold World.cell?
 rw [hW.block _ hb]
theorem Xz1(w:World)(s a b d:List UInt8)(hc:Lib.count s [32]=2)(hs:Lib.splitK [32] 0 2 s=[a,b,d])(hl:s.length≤1000)(hm:MaxT w) : Ret Tryz.prog 30 [.string (tx s),.string (tx [32])] w (fun v w'=>∃ A c,v=.slice A 3 c∧Rd w' w'.heap.size 9 encTx A [tx a,tx b,tx d]∧Below w.heap.size w w'):=by
 obtain ⟨m,hm⟩:=hm
 have e1:Lib.countB (tx s) (tx [32])=2:=hc
 have e2:Lib.splitB (tx [32]) 0 2 (tx s)=[tx a,tx b,tx d]:=by
  have h:=Lib.splitB_data (tx [32]) 0 2 (tx s)
  rw [Xdh,Xdh,hs] at h
  have h2:=congrArg (List.map tx) h
  rw [List.map_map] at h2
  have h3:∀ l:List ByteArray,l.map (tx ∘ fun x=>x.data.toList)=l:=fun l=>by
   induction l with
   | nil=>rfl
   | cons x l ih=>rw [List.map_cons,ih];simp [Xmy]
  rw [h3] at h2
  exact h2
 refine Calls.mono (Tryz.strings_Split (tx s) (tx [32]) m w (by rw [X3w];omega) hm (by decide)) fun _ w' ⟨he,hw⟩=>⟨_,he,?_⟩
 rw [e1,e2] at hw
 rw [e1]
 subst hw
 exact ⟨_,_,rfl,Rd.of_blk (X4q w 9 [.string (tx a),.string (tx b),.string (tx d)]) rfl _ (X4q w 9 _).lt,(Below.refl _ _).alloc (Qb _) _⟩
theorem Xqk{tb:List UInt8}(h:FrmOk tb) : (if tb=[] then [45] else tb)=[45]→tb=[]:=fun h9=>by
 by_cases hz:tb=[]
 ·exact hz
 ·rw [Q3 hz] at h9
  rcases h.at' 0 45 (by rw [h9];rfl) with h1|h1|⟨h1,_⟩<;>exact absurd h1 (by decide)
theorem Xjz{tb:List UInt8}(h:(!decide ((if tb=[] then [45] else tb)=[45]))=true) : (if tb=[] then [45] else tb)=tb:=by
 by_cases hz:tb=[]
 ·rw [Q4 hz] at h;simp at h
 ·exact Q3 hz
theorem Xru{tb w:List UInt8}(h:w=if tb=[] then [45] else tb)(k p:Nat) : (((w++[32])++Lib.itoa (k:Int))++[32])++Lib.itoa (p:Int)=fmT tb k p:=by
 rw [h]
 unfold fmT
 simp
theorem Xn5{tb:List UInt8}(h:FrmOk tb){k p:Nat}(hk:k<24)(hp:p<8) : (fmT tb k p).length≤1000:=by
 have h1:=(X3x hk).2.2
 have h2:=(X3x (Nat.lt_trans hp (by decide:8<24))).2.2
 have h3:=h.len
 unfold fmT
 simp only [Qh,Qs]
 split<;>simp<;>omega
theorem Xgt(w0:World)(n:Nat)(aA:n<24) : Ret Tryz.prog 31 [.string (tx (Lib.itoa (n:Int)))] w0 (fun v w=>v=.tuple #[vi (n:Int),.bool true]∧Below w0.heap.size w0 w):=by
 refine enter Tryz.func31 rfl 20 rfl rfl ?_;intro a b
 have hW:=bz w0
 refine Zs b fun _ aB=>?_;refine Za rfl<|Za rfl<|Zx aB fun a b _ aC=>?_;refine Zm rfl<|Zf (Vc (Xyk _ n aA) Xnw) ?_;rintro _ w1 ⟨rfl,hE⟩;have hW:=btr hW hE;refine Zm rfl<|Ze (X1 (vs:=[vi (n:Int),.nilIface]) rfl rfl)<|Ze (X1 (vs:=[vi (n:Int),.nilIface]) rfl rfl)<|Za rfl<|Za rfl<|ZX aC fun a b _ aD=>?_;refine X02 (fun a w=>Fr a 20 [(2,vi (n:Int)),(3,.bool true)]∧w1=w) ?_ ?_
 ·refine Zr b<|Zm rfl<|Zm rfl<|Ze (Xp9 rfl Xo8)<|Zm rfl<|Zv (gW rfl) (X7 rfl) ?_;refine Zk (gW rfl) (Vc (Xe8 _ n (by omega)) X80) ?_;rintro _ _ ⟨rfl,rfl⟩;refine Zv (gW rfl) (X7 rfl) ?_;refine Zv (gW rfl) (Xw4 rfl rfl) ?_;refine Ze (Xe rfl rfl rfl)<|Za rfl<|Za rfl ?_;refine Zn fun a b=>?_;exact ⟨b.sb,rfl⟩
 rintro a _ ⟨b,rfl⟩;refine aD _ _ ?_
 refine Q6 (X4 b (X0r b rfl rfl rfl) ?_)
 exact ⟨rfl,hW⟩
theorem Xmo(w0:World)(tb:List UInt8)(k p:Nat)(hF:FrmOk tb)(g:k<24)(aA:p<8) : Ret Tryz.prog 10 [.agg #[.string (tx tb),vi (k:Int),vi (p:Int)]] w0 (fun v w=>v=.tuple #[.string (tx (fmT tb k p)),.bool true]∧Below w0.heap.size w0 w):=by
 have aM:=(X3x g).2.2
 have aN:=(X3x (Nat.lt_trans aA (by decide:8<24))).2.2
 have aO:=hF.len;refine enter Tryz.func10 rfl 23 rfl rfl ?_;intro a c
 have e:=bz w0
 refine Zs c fun _ aE=>?_;refine Zf (X0j (zs:=[.string (tx tb),vi (k:Int),vi (p:Int)]) rfl rfl) ?_;rintro _ w1 ⟨b2,rfl,aF,f,b⟩;have aL:=Q0 e.size aF;have e:=btr e f;refine Za rfl<|Za rfl<|ZX aE fun a c _ aG=>?_;refine Zs c fun _ aH=>?_;refine Ze (Vn X04 b)<|Zf (X1d (vs:=[.agg #[.string (tx tb),vi (k:Int),vi (p:Int)]]) rfl X6d (by have hq:=Xhf w1 tb (k:Int) (p:Int) (by have:=hF.len;omega);rw [Xcc hF g aA] at hq;exact hq)) ?_;rintro _ w2 ⟨rfl,f⟩;have b:=b.below f;have e:=btr e f;refine Ze (X0o rfl)<|Zt aH fun a c=>?_;refine X3i c rfl ?_;refine Q7<|aG _ _<|Zs c fun _ aI=>?_;refine Ze (Vd rfl X0m 0)<|Ze (X0 rfl X2j (b.at 0))<|Za rfl<|ZX aI fun a c _ aB=>?_;refine Zs c fun _ aJ=>?_;refine Zm rfl<|Ze (Xte (s:=tb) (r:=[]) rfl rfl)<|Zt aJ fun a c=>?_
 refine Xl c rfl (fun d=>?_) (fun d=>?_)
 ·have aC:=d;have d:=Q2 d
  have hw:([45] : List UInt8)=if tb=[] then [45] else tb:=by have h9:=d;rw [Q4 (by simpa using h9)]
  refine Zr c<|Za rfl<|ZX aB fun a c _ aK=>?_;refine Xz none (fun _=>false) mixed ?_;intro w3 f;have b:=b.below f;have e:=btr e f;refine Yb c<|Yo 0 rfl (fun _=>X7 rfl)<|Yo 1 rfl (fun _=>X3m (s:=[45]) (r:=[32]) rfl rfl (by simp only [Qh,Qs,List.length_nil];omega))<|Yo 2 rfl (fun _=>Vd rfl X21 1)<|Ye 3 rfl (X0 rfl X9 (b.at 1))<|Yo 7 rfl (fun _=>Vd rfl X1u 2)<|Ye 8 rfl (X0 rfl X9 (b.at 2))<|Y1 4 ?_;refine Yz rfl trivial (Vc (Xe8 _ k (by omega)) X80) ?_;refine Yo 5 rfl (fun _=>X3m (s:=([45]++[32])) (r:=(Lib.itoa (k:Int))) rfl rfl (by simp only [Qh,Qs,List.length_nil];omega))<|Yo 6 rfl (fun _=>X3m (s:=(([45]++[32])++(Lib.itoa (k:Int)))) (r:=[32]) rfl rfl (by simp only [Qh,Qs,List.length_nil];omega))<|Y1 9 ?_;refine Yz rfl trivial (Vc (Xe8 _ p (by omega)) X80) ?_;refine Yo 10 rfl (fun _=>X3m (s:=((([45]++[32])++(Lib.itoa (k:Int)))++[32])) (r:=(Lib.itoa (p:Int))) rfl rfl (by simp only [Qh,Qs,List.length_nil];omega))<|Yo 11 rfl (fun _=>X0i rfl)<|Yo 12 rfl (fun _=>X0i rfl) ?_;refine Yd fun a c=>?_;refine aK _ _ ?_
  refine Q6 (X4 c (X0r c rfl rfl rfl) ?_)
  exact ⟨by rw [Xru hw],e⟩
 have aC:=d;have d:=Q1 d
 have hw:tb=if tb=[] then [45] else tb:=by have h9:=d;rw [Q3 (by simpa using h9)]
 refine Q7<|aB _ _<|Q5 fun _ aD=>?_;refine Xz none (fun _=>false) mixed ?_;intro w4 f;have b:=b.below f;have e:=btr e f;refine Yb c<|Yo 0 rfl (fun _=>X7 rfl)<|Yo 1 rfl (fun _=>X3m (s:=tb) (r:=[32]) rfl rfl (by simp only [Qh,Qs,List.length_nil];omega))<|Yo 2 rfl (fun _=>Vd rfl X21 1)<|Ye 3 rfl (X0 rfl X9 (b.at 1))<|Yo 7 rfl (fun _=>Vd rfl X1u 2)<|Ye 8 rfl (X0 rfl X9 (b.at 2))<|Y1 4 ?_;refine Yz rfl trivial (Vc (Xe8 _ k (by omega)) X80) ?_;refine Yo 5 rfl (fun _=>X3m (s:=(tb++[32])) (r:=(Lib.itoa (k:Int))) rfl rfl (by simp only [Qh,Qs,List.length_nil];omega))<|Yo 6 rfl (fun _=>X3m (s:=((tb++[32])++(Lib.itoa (k:Int)))) (r:=[32]) rfl rfl (by simp only [Qh,Qs,List.length_nil];omega))<|Y1 9 ?_;refine Yz rfl trivial (Vc (Xe8 _ p (by omega)) X80) ?_;refine Yo 10 rfl (fun _=>X3m (s:=(((tb++[32])++(Lib.itoa (k:Int)))++[32])) (r:=(Lib.itoa (p:Int))) rfl rfl (by simp only [Qh,Qs,List.length_nil];omega))<|Yo 11 rfl (fun _=>X0i rfl)<|Yo 12 rfl (fun _=>X0i rfl) ?_;refine Yd fun a c=>?_;refine aD _ _ ?_
 refine Q6 (X4 c (X0r c rfl rfl rfl) ?_)
 exact ⟨by rw [Xru hw],e⟩
theorem Xx3(w0:World)(tb:List UInt8)(k p:Nat)(hF:FrmOk tb)(m:k<24)(x:p<8)(aY:MaxT w0) : Ret Tryz.prog 11 [.string (tx (fmT tb k p))] w0 (fun v w=>v=.tuple #[.agg #[.string (tx tb),vi (k:Int),vi (p:Int)],.bool true]∧Below w0.heap.size w0 w):=by
 refine enter Tryz.func11 rfl 53 rfl rfl ?_;intro a f
 have d:=bz w0
 refine Zs f fun _ aZ=>?_;refine Zf (X3 (zs:=[.string (tx []),vi 0,vi 0]) X1s rfl) ?_;rintro _ w1 ⟨b2,rfl,b0,i,b⟩;have z:=Q0 d.size b0;have d:=btr d i;refine Za rfl<|Zx aZ fun a f _ b1=>?_;refine Zm rfl<|Zf (Vc (Xz1 _ _ _ _ _ (Xba hF m x).1 (Xba hF m x).2 (Xn5 hF m x) (aY.of d)) Xnx) ?_;rintro _ w2 ⟨A4,c4,rfl,e,i⟩;have b:=b.below i;have d:=btr d i;refine Za rfl<|ZX b1 fun a f _ b3=>?_;refine Zs f fun _ b4=>?_;refine Zm rfl<|Ze (X2k rfl X0t)<|Ze (X4h rfl rfl)<|Zt b4 fun a f=>?_
 refine Xl f rfl (fun y=>?_) (fun y=>?_)
 ·have aI:=y
  simp at y
 have aI:=y;refine Q7<|b3 _ _<|Zs f fun _ b5=>?_;refine Ze (Xg (ps:=[]) (cs:=[.string (tx []),vi 0,vi 0]) rfl (fun _=>by first|rfl|kernel_rfl))<|Zf (X3 (zs:=[.string (tx []),vi 0,vi 0]) X1s rfl) ?_;rintro _ w3 ⟨b9,rfl,b6,i,c⟩
 have aX:b2≠b9:=by have:=b.lt;omega
 have n:=Q0 d.size b6;have b:=b.below i;have e:=e.below i;have d:=btr d i;refine Zo (Vw [.string (tx []),vi 0,vi 0] X0z c) ?_;rintro _ w4 ⟨j,q⟩;have g:=c;have b:=b.only j (by omega);have e:=e.onlyT j g rfl;have d:=Below.only d j n;have c:=q;refine ZX b5 fun a f _ h=>?_;refine Zs f fun _ aJ=>?_;refine Zm rfl<|Zj (k:=0) (u:=tx (if tb=[] then [45] else tb)) (enc:=encTx) (l:=[tx (if tb=[] then [45] else tb),tx (Lib.itoa (k:Int)),tx (Lib.itoa (p:Int))]) trivial rfl rfl rfl X0t X5l X10 e rfl rfl ?_;intro bD aA;refine Ze (X0 rfl X2j aA)<|Ze (Xlr (s:=(if tb=[] then [45] else tb)) (r:=[45]) rfl rfl)<|Zt aJ fun a f=>?_
 refine Xl f rfl (fun o=>?_) (fun o=>?_)
 ·have aB:=o;have hw:=Xjz o;refine Zr f<|Zm rfl<|Zj (k:=0) (u:=tx tb) (enc:=encTx) (l:=[tx (if tb=[] then [45] else tb),tx (Lib.itoa (k:Int)),tx (Lib.itoa (p:Int))]) trivial rfl rfl rfl X0t X5l X10 e (by rw [hw];rfl) rfl ?_;intro bE aC;refine Ze (X0 rfl X2j aC)<|Ze (Vd rfl X0m 0)<|Zo (Vu (vs:=[.string (tx tb)]) (l':=[.string (tx tb),vi 0,vi 0]) rfl rfl X5l c) ?_;rintro _ w5 ⟨j,q⟩;have g:=c;have b:=b.only j (by omega);have e:=e.onlyT j g rfl;have d:=Below.only d j n;have c:=q;refine Zx h fun a f _ aK=>?_;refine Zm rfl<|Zj (k:=1) (u:=tx (Lib.itoa (k:Int))) (enc:=encTx) (l:=[tx (if tb=[] then [45] else tb),tx (Lib.itoa (k:Int)),tx (Lib.itoa (p:Int))]) trivial rfl rfl rfl X0t X5l X10 e rfl rfl ?_;intro bF aD;refine Ze (X0 rfl X2j aD)<|Zf (Vc (Xgt _ k m) X9l) ?_;rintro _ w6 ⟨rfl,i⟩;have b:=b.below i;have c:=c.below i;have e:=e.below i;have d:=btr d i;refine Zm rfl<|Ze (X1 (vs:=[vi (k:Int),.bool true]) rfl rfl)<|Ze (X1 (vs:=[vi (k:Int),.bool true]) rfl rfl)<|Ze (Vd rfl X21 1)<|Zo (Vu (vs:=[vi (k:Int)]) (l':=[.string (tx tb),vi (k:Int),vi 0]) rfl rfl X65 c) ?_;rintro _ w7 ⟨j,q⟩;have g:=c;have b:=b.only j (by omega);have e:=e.onlyT j g rfl;have d:=Below.only d j n;have c:=q;refine Zx aK fun a f _ aL=>?_;refine Zm rfl<|Zj (k:=2) (u:=tx (Lib.itoa (p:Int))) (enc:=encTx) (l:=[tx (if tb=[] then [45] else tb),tx (Lib.itoa (k:Int)),tx (Lib.itoa (p:Int))]) trivial rfl rfl rfl X0t X5l X10 e rfl rfl ?_;intro bG aE;refine Ze (X0 rfl X2j aE)<|Zf (Vc (Xgt _ p (by omega)) X9l) ?_;rintro _ w8 ⟨rfl,i⟩
  have b:=b.below i;have c:=c.below i;have d:=btr d i;refine Zm rfl<|Ze (X1 (vs:=[vi (p:Int),.bool true]) rfl rfl)<|Ze (X1 (vs:=[vi (p:Int),.bool true]) rfl rfl)<|Ze (Vd rfl X1u 2)<|Zo (Vu (vs:=[vi (p:Int)]) (l':=[.string (tx tb),vi (k:Int),vi (p:Int)]) rfl rfl X65 c) ?_;rintro _ w9 ⟨j,q⟩;have g:=c;have b:=b.only j (by omega);have d:=Below.only d j n;have c:=q;refine ZX aL fun a f _ aM=>?_;refine Zs f fun _ aN=>?_;refine Ze (Vn X04 c)<|Zf (Vc (Xmo _ tb k p hF m x) Xde) ?_;rintro _ b7 ⟨rfl,i⟩;have b:=b.below i;have c:=c.below i;have d:=btr d i;refine Zm rfl<|Ze (X1 (vs:=[.string (tx (fmT tb k p)),.bool true]) rfl rfl)<|Ze (X1 (vs:=[.string (tx (fmT tb k p)),.bool true]) rfl rfl)<|Za rfl<|Za rfl<|ZX aN fun a f _ aO=>?_;refine X02 (fun a w=>Fr a 53 [(2,.pointer (some ⟨b2,0,none⟩)),(5,.pointer (some ⟨b9,0,none⟩)),(50,.bool false)]∧b7=w) ?_ ?_
  ·refine Zr f<|Zm rfl<|Ze (X0o rfl)<|Zm rfl<|Zv (gW rfl) (X7 rfl) ?_;refine Zv (gW rfl) (X7 rfl) ?_;refine Zv (gW rfl) (Xwt rfl rfl) ?_;refine Ze (Xc rfl rfl rfl) ?_;refine Zn fun a f=>?_;exact ⟨f.sb,rfl⟩
  rintro a _ ⟨f,rfl⟩;refine aO _ _<|X3i f rfl ?_;refine Q7<|aM _ _<|Zs f fun _ aP=>?_;refine Ze (Vn X04 c)<|Zo (Vw [.string (tx tb),vi (k:Int),vi (p:Int)] X0z b) ?_;rintro _ bH ⟨j,q⟩;have g:=b;have d:=Below.only d j z;have b:=q;refine Za rfl<|Zt aP fun a f=>?_
  refine Q6 (X4 f (X0r f rfl (ResV.cellN (l:=[.string (tx tb),vi (k:Int),vi (p:Int)]) rfl X04 (b.at 0) rfl) rfl) ?_)
  first|exact ⟨rfl,d⟩|exact ⟨by rw [hz],d⟩
 have aB:=o
 have hz:tb=[]:=Xqk hF (by have h9:=o;simpa using h9)
 refine Q7<|h _ _<|Zs f fun _ aQ=>?_;refine Zm rfl<|Zj (k:=1) (u:=tx (Lib.itoa (k:Int))) (enc:=encTx) (l:=[tx (if tb=[] then [45] else tb),tx (Lib.itoa (k:Int)),tx (Lib.itoa (p:Int))]) trivial rfl rfl rfl X0t X5l X10 e rfl rfl ?_;intro bI aF;refine Ze (X0 rfl X2j aF)<|Zf (Vc (Xgt _ k m) X9l) ?_;rintro _ bJ ⟨rfl,i⟩;have b:=b.below i;have c:=c.below i;have e:=e.below i;have d:=btr d i;refine Zm rfl<|Ze (X1 (vs:=[vi (k:Int),.bool true]) rfl rfl)<|Ze (X1 (vs:=[vi (k:Int),.bool true]) rfl rfl)<|Ze (Vd rfl X21 1)<|Zo (Vu (vs:=[vi (k:Int)]) (l':=[.string (tx []),vi (k:Int),vi 0]) rfl rfl X65 c) ?_;rintro _ bK ⟨j,q⟩;have g:=c;have b:=b.only j (by omega);have e:=e.onlyT j g rfl;have d:=Below.only d j n;have c:=q;refine Zx aQ fun a f _ aR=>?_;refine Zm rfl<|Zj (k:=2) (u:=tx (Lib.itoa (p:Int))) (enc:=encTx) (l:=[tx (if tb=[] then [45] else tb),tx (Lib.itoa (k:Int)),tx (Lib.itoa (p:Int))]) trivial rfl rfl rfl X0t X5l X10 e rfl rfl ?_;intro bL aG;refine Ze (X0 rfl X2j aG)<|Zf (Vc (Xgt _ p (by omega)) X9l) ?_;rintro _ bM ⟨rfl,i⟩;have b:=b.below i;have c:=c.below i;have d:=btr d i;refine Zm rfl<|Ze (X1 (vs:=[vi (p:Int),.bool true]) rfl rfl)<|Ze (X1 (vs:=[vi (p:Int),.bool true]) rfl rfl)<|Ze (Vd rfl X1u 2)<|Zo (Vu (vs:=[vi (p:Int)]) (l':=[.string (tx []),vi (k:Int),vi (p:Int)]) rfl rfl X65 c) ?_;rintro _ b8 ⟨j,q⟩;have g:=c;have b:=b.only j (by omega);have d:=Below.only d j n;have c:=q;refine ZX aR fun a f _ aS=>?_;refine Zs f fun _ aT=>?_;refine Ze (Vn X04 c)<|Zf (X1d (vs:=[.agg #[.string (tx []),vi (k:Int),vi (p:Int)]]) rfl Xde (by have hq:=Xmo b8 tb k p hF m x;rw [hz] at hq;exact hq)) ?_;rintro _ bC ⟨rfl,i⟩
 have b:=b.below i;have c:=c.below i;have d:=btr d i;refine Zm rfl<|Ze (X1 (vs:=[.string (tx (fmT [] k p)),.bool true]) rfl rfl)<|Ze (X1 (vs:=[.string (tx (fmT [] k p)),.bool true]) rfl rfl)<|Za rfl<|Za rfl<|ZX aT fun a f _ aU=>?_;refine X02 (fun a w=>Fr a 53 [(2,.pointer (some ⟨b2,0,none⟩)),(5,.pointer (some ⟨b9,0,none⟩)),(50,.bool (!decide ((fmT [] k p)=(fmT tb k p))))]∧bC=w) ?_ ?_
 ·refine Zr f<|Zm rfl<|Ze (X0o rfl)<|Zm rfl<|Zv (gW rfl) (X7 rfl) ?_;refine Zv (gW rfl) (X7 rfl) ?_;refine Zv (gW rfl) (Xlr (s:=(fmT [] k p)) (r:=(fmT tb k p)) rfl rfl) ?_;refine Ze (Xc rfl rfl rfl) ?_;refine Zn fun a f=>?_;exact ⟨f.sb,rfl⟩
 rintro a _ ⟨f,rfl⟩;refine aU _ _ ?_
 refine Xl f rfl (fun t=>?_) (fun t=>?_)
 ·have aH:=t
  simp [hz] at t
 have aH:=t;refine Q7<|aS _ _<|Zs f fun _ aW=>?_;refine Ze (Vn X04 c)<|Zo (Vw [.string (tx []),vi (k:Int),vi (p:Int)] X0z b) ?_;rintro _ bN ⟨j,q⟩;have g:=b;have d:=Below.only d j z;have b:=q;refine Za rfl<|Zt aW fun a f=>?_
 refine Q6 (X4 f (X0r f rfl (ResV.cellN (l:=[.string (tx []),vi (k:Int),vi (p:Int)]) rfl X04 (b.at 0) rfl) rfl) ?_)
 first|exact ⟨rfl,d⟩|exact ⟨by rw [hz],d⟩
theorem Xd2{tb:List UInt8}{fc fp:Int}(h:frmB tb fc fp=true) : fmO tb fc fp=fmM fc.toNat (tb.map byS) fp.toNat:=by unfold fmO;rw [Q4 h]
theorem Xxj(w0:World)(tb:List UInt8)(fc fp:Int)(hsl:tb.length≤1000000000) : Ret Tryz.prog 7 [.agg #[.string (tx tb),vi fc,vi fp]] w0 (fun v w=>∃ A c,v=.tuple #[mV A c (fmO tb fc fp),.bool (frmB tb fc fp)]∧Rd w w.heap.size 53 encD A (fmO tb fc fp).cells∧Below w0.heap.size w0 w):=by
 cases h:frmB tb fc fp with
 | false=>
  have e:fmO tb fc fp=mZ:=by unfold fmO;rw [h];rfl
  rw [e]
  exact Xz5 w0 tb fc fp hsl h
 | true=>
  have hy:=X68 h
  rw [Xd2 h]
  have hq:=Xyv w0 tb (tb.map byS) fc.toNat fp.toNat hy.k.2 hy.e hy.o.lt hy.l hy.p.2 hy.f hsl
  rw [← hy.k.1,← hy.p.1] at hq
  exact hq
theorem Xyf{tb:List UInt8}{fc fp:Int}(h:frmB tb fc fp=true)(h9:((nfM (fmO tb fc fp)).isSome&&!(decide (nfs (fmO tb fc fp)=tb)&&(decide ((nfk (fmO tb fc fp) : Int)=fc)&&(decide ((nfp (fmO tb fc fp) : Int)=fp)&&true))))=true) : False:=by
 have hy:=X68 h
 rw [Qd] at h9
 obtain ⟨h1,h2⟩:=h9
 rw [Xd2 h] at h1 h2
 have hU:=Xwy hy.k.2 hy.o hy.l hy.p.2 h1
 rw [hU.es,hU.ek,hU.ep,← hy.e,← hy.k.1,← hy.p.1] at h2
 simp at h2
theorem Xgf(tb:List UInt8)(fc fp:Int) : (fmO tb fc fp).cells.length≤2305843009213693951:=by
 cases h:frmB tb fc fp with
 | false=>
  have e:fmO tb fc fp=mZ:=by unfold fmO;rw [h];rfl
  rw [e]
  decide
 | true=>
  have hy:=X68 h
  rw [Xd2 h]
  have:=Xfa (⟨1,fmW fc.toNat (tb.map byS) fp.toNat⟩ : Cx)
  rw [Xjt hy.k.2 hy.l hy.p.2,Qq] at this
  exact this
theorem Xgi{n k:Int}(h:(faB n k&&(!(frmB (faT n k) (faK n k) 0)||((faT n k).length:Int) != n||!(inR n 0 20)||decide ((if inR n 0 20=true then ((cntF n.toNat:Nat) : Int) else 0)≤k)))=true) : False:=by
 rw [Qd] at h
 obtain ⟨h1,h2⟩:=h;have hy:=X76 h1
 rw [Xzc h1,Xmx h1,X0g.2 hy.hn,Q4 rfl] at h2
 have:=hy.hk
 simp at h2
 omega
theorem Xf7(n k:Int) : (!(faB n k)||!(faB n (k+1))||!(decide (faT n k=faT n (k+1))&&(decide (faK n k=faK n (k+1))&&(decide ((0:Int)=0)&&true))))=true:=by
 cases h1:faB n k with
 | false=>rfl
 | true=>
  cases h2:faB n (k+1) with
  | false=>rfl
  | true=>simp [Xyh h1 h2]
theorem Xyq(w0:World){e7:TypeId}(b7:Option Addr)(bE:Nat)(aL:List Int)(z:Rd w0 w0.heap.size e7 encU b7 aL)(e8:∀ x ∈ aL,0≤x∧x≤255){eA:TypeId}(aM:Option Addr)(aO:Nat)(more:List Int)(y:Rd w0 w0.heap.size eA encU aM more)(bU:∀ x ∈ more,0≤x∧x≤255)(bW:HalfT w0)(eB:MaxT w0) : Ret Tryz.prog 3 [.slice b7 aL.length bE,.slice aM more.length aO] w0 (fun v w=>v=.bool true∧Below w0.heap.size w0 w):=by
 refine enter Tryz.func3 rfl 137 rfl rfl ?_;intro a q
 have o:=bz w0
 refine Zs q fun _ eC=>?_;refine Za rfl<|ZX eC fun a q _ eD=>?_;refine Zs q fun _ eE=>?_;refine Zm rfl<|Zm rfl<|Zf (Vc (Xxh _ b7 bE aL (z.below' o).top aM aO more (y.below' o).top) Xoq) ?_;rintro _ w1 ⟨rfl,t⟩;have o:=btr o t;refine Zt eE fun a q=>?_
 refine Xl q rfl (fun bF=>?_) (fun bF=>?_)
 ·have n:=bF;refine Zs q fun _ eF=>?_;refine Za rfl<|Zt eF fun a q=>?_;refine Q6<|Xf<|X4 q (Xx q rfl rfl) ?_
  first|exact ⟨rfl,o⟩|exact ⟨congrArg Value.bool (Xf7 _ _),o⟩
 have n:=bF;refine Q7<|eD _ _<|Zs q fun _ eH=>?_;refine Zm rfl<|Zf (Vc (Xz9 _ b7 bE aL (z.below' o).top e8) Xnp) ?_;rintro _ w2 ⟨c,e,g,rfl,eI,t⟩;have o:=btr o t;refine Zf (X3 (zs:=[.string (tx []),vi 0,vi 0]) X1s rfl) ?_;rintro _ w3 ⟨b9,rfl,bG,t,u⟩;have bZ:=Q0 o.size bG;have dX:=(z.below' o).away bG;have dY:=(y.below' o).away bG;have o:=btr o t;refine Zo (Vw [.string (tx c),vi e,vi g] X0z u) ?_;rintro _ w4 ⟨ho,hb⟩;have aB:=u;have o:=Below.only o ho bZ;have u:=hb;refine Zx eH fun a q _ cA=>?_;refine Ze (Vn X04 u)<|Zf (X1d (vs:=[.agg #[.string (tx c),vi e,vi g]]) rfl Xgh (Xwi _ c e g (by omega) (bW.of o))) ?_;rintro _ w5 ⟨b8,bC,rfl,aC,t⟩;have aC:=aC.lower o.size;have u:=u.below t;have o:=btr o t;refine Zm rfl<|Ze (X1 (vs:=[.agg #[vi ((fmO c e g).rows),vi ((fmO c e g).cols),.slice b8 ((fmO c e g).cells).length bC],.bool (frmB c e g)]) rfl rfl)<|Ze (X1 (vs:=[.agg #[vi ((fmO c e g).rows),vi ((fmO c e g).cols),.slice b8 ((fmO c e g).cells).length bC],.bool (frmB c e g)]) rfl rfl)<|Zf (X3 (zs:=[vi 0,vi 0,.slice none 0 0]) X0y rfl) ?_;rintro _ w6 ⟨eJ,rfl,aX,t,aE⟩;have bH:=Q0 o.size aX;have cB:=(z.below' o).away aX;have cC:=(y.below' o).away aX;have u:=u.below t;have aC:=aC.below t;have o:=btr o t;refine Zo (Vw [vi ((fmO c e g).rows),vi ((fmO c e g).cols),.slice b8 ((fmO c e g).cells).length bC] X0b aE) ?_;rintro _ w7 ⟨ho,hb⟩;have aB:=aE;have u:=u.only ho (Blk.ne u aB rfl)
 have aC:=aC.onlyT ho aB rfl;have o:=Below.only o ho bH;have aE:=hb;refine Za rfl<|Zx cA fun a q _ cD=>?_;refine Ze (Vn X04 u)<|Zf (X1d (vs:=[.agg #[.string (tx c),vi e,vi g]]) rfl Xn8 (Xxj _ c e g (by omega))) ?_;rintro _ w8 ⟨aY,aZ,rfl,aH,t⟩;have u:=u.below t;have aE:=aE.below t;have aC:=aC.below t;have o:=btr o t;refine Zm rfl<|Ze (X1 (vs:=[.agg #[vi ((fmO c e g).rows),vi ((fmO c e g).cols),.slice aY ((fmO c e g).cells).length aZ],.bool (frmB c e g)]) rfl rfl)<|Ze (X1 (vs:=[.agg #[vi ((fmO c e g).rows),vi ((fmO c e g).cols),.slice aY ((fmO c e g).cells).length aZ],.bool (frmB c e g)]) rfl rfl)<|Zf (X3 (zs:=[vi 0,vi 0,.slice none 0 0]) X0y rfl) ?_;rintro _ w9 ⟨b17,rfl,b0,t,aK⟩
 have bQ:eJ≠b17:=by have:=aE.lt;omega
 have bI:=Q0 o.size b0;have cE:=(z.below' o).away b0;have cF:=(y.below' o).away b0;have u:=u.below t;have aE:=aE.below t;have aC:=aC.below t;have aH:=aH.below t;have o:=btr o t;refine Zo (Vw [vi ((fmO c e g).rows),vi ((fmO c e g).cols),.slice aY ((fmO c e g).cells).length aZ] X0b aK) ?_;rintro _ w10 ⟨ho,hb⟩;have aB:=aK;have u:=u.only ho (Blk.ne u aB rfl);have aE:=aE.only ho (by omega);have aC:=aC.onlyT ho aB rfl;have aH:=aH.onlyT ho aB rfl;have o:=Below.only o ho bI;have aK:=hb;refine Za rfl<|ZX cD fun a q _ cG=>?_;refine Q5 fun _ cH=>?_;refine X02 (fun a w=>Fr a 137 [(1,.slice aM more.length aO),(5,.pointer (some ⟨b9,0,none⟩)),(7,.bool (frmB c e g)),(8,.pointer (some ⟨b17,0,none⟩)),(47,.bool (((frmB c e g) != (frmB c e g))||(!(decide ((fmO c e g).rows=(fmO c e g).rows)&&decide ((fmO c e g).cols=(fmO c e g).cols)&&decide ((fmO c e g).cells=(fmO c e g).cells)))))]∧Below w10.heap.size w10 w) ?_ ?_
 ·have aD:Below w10.heap.size w10 w10:=Below.refl _ _
  refine Zr q<|Zm rfl<|Zm rfl<|Ze (Xx6 Tryz.underlying4 rfl rfl)<|Zm rfl ?_
  refine Zg 42 rfl (fun G=>?_) (fun G=>?_)
  ·refine Zp (gP G) ?_;refine Zp (gP G) ?_;refine Zp (gP G) ?_;refine Zp (gP G) ?_;refine Ze (Xe rfl G rfl) ?_;refine Zn fun a q=>?_
   have H:Below w10.heap.size w10 w10:=aD
   exact ⟨q.sub ⟨rfl,rfl,rfl,rfl,X2 rfl (by first|rfl|(simp only [n,G,Qw,Bool.false_and,Bool.true_or,Bool.false_or];done)|(simp [n,G];done)|(exfalso;revert G;simp)),trivial⟩,H⟩
  refine Zv (gW G) (Vn Xr aE) ?_;refine Zv (gW G) (Vn Xr aK) ?_;refine Zk (gW G) (Vc (Xzp _ (fmO c e g) b8 bC aC.rd.top (fmO c e g) aY aZ aH.top (Xgf c e g)) Xts) ?_;rintro _ w11 ⟨rfl,t⟩;have o:=btr o t;have aD:=btr aD t;refine Zv (gW G) (X0o rfl) ?_;refine Ze (Xc rfl G rfl) ?_;refine Zn fun a q=>?_
  have H:Below w10.heap.size w10 w11:=aD
  exact ⟨q.sub ⟨rfl,rfl,rfl,rfl,X2 rfl (by first|rfl|(simp only [n,G,Qw,Bool.false_and,Bool.true_or,Bool.false_or];done)|(simp [n,G];done)|(exfalso;revert G;simp)),trivial⟩,H⟩
 rintro a eR ⟨q,t⟩;have u:=u.below t;have aK:=aK.below t;have aH:=aH.below t;have o:=btr o t;refine cH _ _ ?_
 refine Xl q rfl (fun aP=>?_) (fun aP=>?_)
 ·have i:=aP
  simp [eqM] at aP
 have i:=aP;refine Q7<|cG _ _<|Q5 fun _ bD=>?_;refine Zs q fun _ cJ=>?_;refine Zm rfl<|Zt cJ fun a q=>?_
 refine Xl q rfl (fun aN=>?_) (fun aN=>?_)
 ·have j:=aN;have hy:=X68 aN;have eK:=aN;refine Zs q fun _ cK=>?_;refine Ze (Vn Xr aK)<|Zf (Vc (Xyw _ aY aZ (fmO c e g) aH.top (Xgf c e g) (bW.of o)) Xnf) ?_;rintro _ eT ⟨rfl,t⟩;have u:=u.below t;have o:=btr o t;refine Zm rfl<|Ze (X1 (vs:=[.agg #[.string (tx (nfs (fmO c e g))),vi (nfk (fmO c e g) : Int),vi (nfp (fmO c e g) : Int)],.bool ((nfM (fmO c e g)).isSome)]) rfl rfl)<|Ze (X1 (vs:=[.agg #[.string (tx (nfs (fmO c e g))),vi (nfk (fmO c e g) : Int),vi (nfp (fmO c e g) : Int)],.bool ((nfM (fmO c e g)).isSome)]) rfl rfl)<|Zf (X3 (zs:=[.string (tx []),vi 0,vi 0]) X1s rfl) ?_;rintro _ eU ⟨b26,rfl,b1,t,aQ⟩
  have cM:b9≠b26:=by have:=u.lt;omega
  have bJ:=Q0 o.size b1;have cO:=(z.below' o).away b1;have cP:=(y.below' o).away b1;have u:=u.below t;have o:=btr o t;refine Zo (Vw [.string (tx (nfs (fmO c e g))),vi (nfk (fmO c e g) : Int),vi (nfp (fmO c e g) : Int)] X0z aQ) ?_;rintro _ cQ ⟨ho,hb⟩;have aB:=aQ;have u:=u.only ho (by omega);have o:=Below.only o ho bJ;have aQ:=hb;refine Za rfl<|ZX cK fun a q _ cR=>?_;refine Q5 fun _ cS=>?_;refine X02 (fun a w=>Fr a 137 [(1,.slice aM more.length aO),(5,.pointer (some ⟨b9,0,none⟩)),(59,.bool (((nfM (fmO c e g)).isSome)&&(!(decide ((nfs (fmO c e g))=c)&&(decide ((nfk (fmO c e g) : Int)=e)&&(decide ((nfp (fmO c e g) : Int)=g)&&true))))))]∧cQ=w) ?_ ?_
  ·refine Zr q<|Zm rfl<|Zm rfl ?_
   refine Zg 55 rfl (fun I=>?_) (fun I=>?_)
   ·refine Zv (gW I) (Vn X04 aQ) ?_;refine Zv (gW I) (Vn X04 u) ?_;refine Zv (gW I) (X7w rfl rfl X9d (fun w=>Xjc 9998 (nfs (fmO c e g)) c (nfk (fmO c e g) : Int) e (nfp (fmO c e g) : Int) g w)) ?_;refine Ze (Xe rfl I rfl) ?_;refine Zn fun a q=>?_;exact ⟨q.sub ⟨rfl,rfl,X2 rfl (by first|rfl|(simp only [n,i,j,I,Qw,Bool.false_and,Bool.true_or,Bool.false_or];done)|(simp [n,i,j,I];done)|(exfalso;revert I;simp)),trivial⟩,rfl⟩
   refine Zp (gP I) ?_;refine Zp (gP I) ?_;refine Zp (gP I) ?_;refine Ze (Xc rfl I rfl) ?_;refine Zn fun a q=>?_;exact ⟨q.sub ⟨rfl,rfl,X2 rfl (by first|rfl|(simp only [n,i,j,I,Qw,Bool.false_and,Bool.true_or,Bool.false_or];done)|(simp [n,i,j,I];done)|(exfalso;revert I;simp)),trivial⟩,rfl⟩
  rintro a _ ⟨q,rfl⟩;refine cS _ _ ?_
  refine Xl q rfl (fun aR=>?_) (fun aR=>?_)
  ·have h:=aR;exact (Xyf eK aR).elim
  have h:=aR;refine Q7<|cR _ _<|Zs q fun _ cU=>?_;refine Ze (Vn X04 u)<|Zf (X1d (vs:=[.agg #[.string (tx c),vi e,vi g]]) rfl Xde (by have hq:=Xmo cQ c e.toNat g.toNat hy.f hy.k.2 hy.p.2;rw [← hy.k.1,← hy.p.1] at hq;exact hq)) ?_;rintro _ eM ⟨rfl,t⟩;have u:=u.below t;have o:=btr o t;refine Zm rfl<|Ze (X1 (vs:=[.string (tx (fmT c e.toNat g.toNat)),.bool true]) rfl rfl)<|Ze (X1 (vs:=[.string (tx (fmT c e.toNat g.toNat)),.bool true]) rfl rfl)<|Za rfl<|Za rfl<|Zx cU fun a q _ cV=>?_;refine Zm rfl<|Zf (X1d (vs:=[.string (tx (fmT c e.toNat g.toNat))]) rfl Xnn (by have hq:=Xx3 eM c e.toNat g.toNat hy.f hy.k.2 hy.p.2 (eB.of o);rw [← hy.k.1,← hy.p.1] at hq;exact hq)) ?_;rintro _ eV ⟨rfl,t⟩;have u:=u.below t;have o:=btr o t;refine Zm rfl<|Ze (X1 (vs:=[.agg #[.string (tx c),vi e,vi g],.bool true]) rfl rfl)<|Ze (X1 (vs:=[.agg #[.string (tx c),vi e,vi g],.bool true]) rfl rfl)<|Zf (X3 (zs:=[.string (tx []),vi 0,vi 0]) X1s rfl) ?_;rintro _ eX ⟨b33,rfl,b2,t,aS⟩
  have cW:b9≠b33:=by have:=u.lt;omega
  have bK:=Q0 o.size b2;have cX:=(z.below' o).away b2;have d5:=(y.below' o).away b2;have u:=u.below t;have o:=btr o t;refine Zo (Vw [.string (tx c),vi e,vi g] X0z aS) ?_;rintro _ eO ⟨ho,hb⟩;have aB:=aS;have u:=u.only ho (by omega);have o:=Below.only o ho bK;have aS:=hb;refine Za rfl<|ZX cV fun a q _ d6=>?_;refine X02 (fun a w=>Fr a 137 [(1,.slice aM more.length aO),(80,.bool (!true))]∧eO=w) ?_ ?_
  ·refine Zr q<|Zm rfl<|Ze (X0o rfl)<|Zm rfl<|Zv (gW rfl) (X7 rfl) ?_;refine Zv (gW rfl) (X0o rfl) ?_;refine Ze (Xc rfl rfl rfl)<|Zm rfl<|Zv (gW rfl) (Vn X04 aS) ?_;refine Zv (gW rfl) (Vn X04 u) ?_;refine Zv (gW rfl) (X7w rfl rfl X9d (fun w=>Xzu 9998 c e g w)) ?_;refine Ze (Xc rfl rfl rfl) ?_;refine Zn fun a q=>?_;exact ⟨q.sb,rfl⟩
  rintro a _ ⟨q,rfl⟩;refine d6 _ _ ?_
  refine Xl q rfl (fun aT=>?_) (fun aT=>?_)
  ·have A:=aT
   simp at aT
  have A:=aT;refine Q7<|bD _ _<|Zs q fun _ d7=>?_;refine Zm rfl<|Zf (Vc (Xrc _ aM aO more (y.below' o).top bU) Xhg) ?_;rintro _ eY ⟨b,d,rfl,bL,t⟩;have o:=btr o t;refine Zm rfl<|Ze (X1 (vs:=[vi b,vi d]) rfl rfl)<|Ze (X1 (vs:=[vi b,vi d]) rfl rfl)<|Za rfl<|Za rfl<|Zx d7 fun a q _ d8=>?_;refine Zm rfl<|Zm rfl<|Zf (Vc (Xh9 _ b d) X9c) ?_;rintro _ eZ ⟨rfl,t⟩;have o:=btr o t;refine Zm rfl<|Ze (X1 (vs:=[.agg #[.string (tx (faT b d)),vi (faK b d),vi 0],.bool (faB b d)]) rfl rfl)<|Ze (X1 (vs:=[.agg #[.string (tx (faT b d)),vi (faK b d),vi 0],.bool (faB b d)]) rfl rfl)<|Zf (X3 (zs:=[.string (tx []),vi 0,vi 0]) X1s rfl) ?_;rintro _ f7 ⟨d9,rfl,b3,t,D⟩;have bM:=Q0 o.size b3;have dA:=(z.below' o).away b3;have dB:=(y.below' o).away b3;have o:=btr o t;refine Zo (Vw [.string (tx (faT b d)),vi (faK b d),vi 0] X0z D) ?_;rintro _ f8 ⟨ho,hb⟩;have aB:=D;have o:=Below.only o ho bM;have D:=hb;refine Za rfl<|Zx d8 fun a q _ dC=>?_;refine Zm rfl<|Zm rfl<|Ze (X03 rfl rfl (by omega) (by omega))<|Zf (Vc (Xh9 _ b (d+1)) X9c) ?_;rintro _ f9 ⟨rfl,t⟩;have D:=D.below t;have o:=btr o t;refine Zm rfl<|Ze (X1 (vs:=[.agg #[.string (tx (faT b (d+1))),vi (faK b (d+1)),vi 0],.bool (faB b (d+1))]) rfl rfl)<|Ze (X1 (vs:=[.agg #[.string (tx (faT b (d+1))),vi (faK b (d+1)),vi 0],.bool (faB b (d+1))]) rfl rfl)<|Zf (X3 (zs:=[.string (tx []),vi 0,vi 0]) X1s rfl) ?_;rintro _ fA ⟨b40,rfl,b4,t,aI⟩
  have bR:d9≠b40:=by have:=D.lt;omega
  have bN:=Q0 o.size b4;have dD:=(z.below' o).away b4;have dE:=(y.below' o).away b4;have D:=D.below t;have o:=btr o t;refine Zo (Vw [.string (tx (faT b (d+1))),vi (faK b (d+1)),vi 0] X0z aI) ?_;rintro _ fB ⟨ho,hb⟩;have aB:=aI;have D:=D.only ho (by omega);have o:=Below.only o ho bN;have aI:=hb;refine Za rfl<|Zx dC fun a q _ dF=>?_;refine Zm rfl<|Zf (Vc (Xm9 _ b) Xdk) ?_;rintro _ w27 ⟨rfl,t⟩;have D:=D.below t;have aI:=aI.below t;have o:=btr o t;refine Zm rfl<|Ze (X1 (vs:=[vi (if inR b 0 20=true then ((cntF b.toNat:Nat) : Int) else 0),.bool (inR b 0 20)]) rfl rfl)<|Ze (X1 (vs:=[vi (if inR b 0 20=true then ((cntF b.toNat:Nat) : Int) else 0),.bool (inR b 0 20)]) rfl rfl)<|Za rfl<|Za rfl<|ZX dF fun a q _ dG=>?_;refine Q5 fun _ dH=>?_;refine X02 (fun a w=>Fr a 137 [(18,.pointer (some ⟨d9,0,none⟩)),(19,.bool (faB b d)),(20,.pointer (some ⟨b40,0,none⟩)),(21,.bool (faB b (d+1))),(125,.bool ((faB b d)&&((((!(frmB (faT b d) (faK b d) 0))||(((faT b d).length:Int) != b))||(!(inR b 0 20)))||(decide ((if inR b 0 20=true then ((cntF b.toNat:Nat) : Int) else 0)≤d)))))]∧Below w27.heap.size w27 w) ?_ ?_
  ·have aD:Below w27.heap.size w27 w27:=Below.refl _ _
   refine Zr q<|Zm rfl<|Zm rfl ?_
   refine Zg 105 rfl (fun l=>?_) (fun l=>?_)
   ·refine Zv (gW l) (Vn X04 D) ?_;refine Zk (gW l) (X1d (vs:=[.agg #[.string (tx (faT b d)),vi (faK b d),vi 0]]) rfl X6d (Xhf _ (faT b d) (faK b d) 0 (Xs5 _ _))) ?_;rintro _ w28 ⟨rfl,t⟩;have D:=D.below t;have o:=btr o t;have aD:=btr aD t;refine Zv (gW l) (X0o rfl) ?_;refine Zv (gW l) (X7 rfl) ?_
    refine Zg 109 rfl (fun B=>?_) (fun B=>?_)
    ·refine Zp (gP B) ?_;refine Zp (gP B) ?_;refine Zp (gP B) ?_;refine Zp (gP B) ?_;refine Zp (gP B) ?_;refine Zv (gW l) (Xe rfl B rfl) ?_;refine Zv (gW l) (X7 rfl) ?_;refine Zp (gP rfl) ?_;refine Zp (gP rfl) ?_;refine Zv (gW l) (Xe rfl rfl rfl) ?_;refine Zv (gW l) (X7 rfl) ?_;refine Zp (gP rfl) ?_;refine Zp (gP rfl) ?_;refine Zp (gP rfl) ?_;refine Zv (gW l) (Xe rfl rfl rfl) ?_;refine Ze (Xe rfl l rfl) ?_;refine Zn fun a q=>?_
     have H:Below w27.heap.size w27 w28:=aD
     exact ⟨q.sub ⟨rfl,rfl,rfl,rfl,X2 rfl (by first|rfl|(simp only [n,i,j,h,A,l,B,Qw,Bool.false_and,Bool.true_or,Bool.false_or];done)|(simp [n,i,j,h,A,l,B];done)|(exfalso;revert B;simp)),trivial⟩,H⟩
    refine Zv (gW B) (Vd rfl X0m 0) ?_;refine Zv (gW B) (X0 rfl X2j (D.at 0)) ?_;refine Zv (gW B) (X4y (s:=(faT b d)) rfl Tryz.underlying9) ?_;refine Zv (gW B) (X7 rfl) ?_;refine Zv (gW B) (X4h rfl rfl) ?_;refine Zv (gW l) (Xc rfl B rfl) ?_;refine Zv (gW l) (X7 rfl) ?_
    refine Zg 116 rfl (fun Q=>?_) (fun Q=>?_)
    ·refine Zp (gP Q) ?_;refine Zp (gP Q) ?_;refine Zv (gW l) (Xe rfl Q rfl) ?_;refine Zv (gW l) (X7 rfl) ?_;refine Zp (gP rfl) ?_;refine Zp (gP rfl) ?_;refine Zp (gP rfl) ?_;refine Zv (gW l) (Xe rfl rfl rfl) ?_;refine Ze (Xe rfl l rfl) ?_;refine Zn fun a q=>?_
     have H:Below w27.heap.size w27 w28:=aD
     exact ⟨q.sub ⟨rfl,rfl,rfl,rfl,X2 rfl (by first|rfl|(simp only [n,i,j,h,A,l,B,Q,Qw,Bool.false_and,Bool.true_or,Bool.false_or];done)|(simp [n,i,j,h,A,l,B,Q];done)|(exfalso;revert Q;simp)),trivial⟩,H⟩
    refine Zv (gW Q) (X7 rfl) ?_;refine Zv (gW Q) (X0o rfl) ?_;refine Zv (gW l) (Xc rfl Q rfl) ?_;refine Zv (gW l) (X7 rfl) ?_
    refine Zg 120 rfl (fun J=>?_) (fun J=>?_)
    ·refine Zp (gP J) ?_;refine Zp (gP J) ?_;refine Zp (gP J) ?_;refine Zv (gW l) (Xe rfl J rfl) ?_;refine Ze (Xe rfl l rfl) ?_;refine Zn fun a q=>?_
     have H:Below w27.heap.size w27 w28:=aD
     exact ⟨q.sub ⟨rfl,rfl,rfl,rfl,X2 rfl (by first|rfl|(simp only [n,i,j,h,A,l,B,Q,J,Qw,Bool.false_and,Bool.true_or,Bool.false_or];done)|(simp [n,i,j,h,A,l,B,Q,J];done)|(exfalso;revert J;simp)),trivial⟩,H⟩
    refine Zv (gW J) (X7 rfl) ?_;refine Zv (gW J) (X7 rfl) ?_;refine Zv (gW J) (Xdd rfl rfl) ?_;refine Zv (gW l) (Xc rfl J rfl) ?_;refine Ze (Xe rfl l rfl) ?_;refine Zn fun a q=>?_
    have H:Below w27.heap.size w27 w28:=aD
    exact ⟨q.sub ⟨rfl,rfl,rfl,rfl,X2 rfl (by first|rfl|(simp only [n,i,j,h,A,l,B,Q,J,Qw,Bool.false_and,Bool.true_or,Bool.false_or];done)|(simp [n,i,j,h,A,l,B,Q,J];done)|(exfalso;revert J;simp)),trivial⟩,H⟩
   refine Zp (gP l) ?_;refine Zp (gP l) ?_;refine Zp (gP l) ?_;refine Zp (gP l) ?_;refine Zp (gP trivial) ?_;refine Zp (gP trivial) ?_;refine Zp (gP trivial) ?_;refine Zp (gP trivial) ?_;refine Zp (gP trivial) ?_;refine Zp (gP l) ?_;refine Zp (gP l) ?_;refine Zp (gP trivial) ?_;refine Zp (gP trivial) ?_;refine Zp (gP l) ?_;refine Zp (gP l) ?_;refine Zp (gP trivial) ?_;refine Zp (gP trivial) ?_;refine Zp (gP trivial) ?_;refine Zp (gP l) ?_;refine Ze (Xc rfl l rfl) ?_;refine Zn fun a q=>?_
   have H:Below w27.heap.size w27 w27:=aD
   exact ⟨q.sub ⟨rfl,rfl,rfl,rfl,X2 rfl (by first|rfl|(simp only [n,i,j,h,A,l,Qw,Bool.false_and,Bool.true_or,Bool.false_or];done)|(simp [n,i,j,h,A,l];done)|(exfalso;revert l;simp)),trivial⟩,H⟩
  rintro a eP ⟨q,t⟩;have D:=D.below t;have aI:=aI.below t;have o:=btr o t;refine dH _ _ ?_
  refine Xl q rfl (fun aU=>?_) (fun aU=>?_)
  ·have aF:=aU;exact (Xgi aU).elim
  have aF:=aU;refine Q7<|dG _ _<|Q5 fun _ dI=>?_;refine X02 (fun a w=>Fr a 137 [(4,.bool (((!(faB b d))||(!(faB b (d+1))))||(!(decide ((faT b d)=(faT b (d+1)))&&(decide ((faK b d)=(faK b (d+1)))&&(decide (0=0)&&true))))))]∧eP=w) ?_ ?_
  ·refine Zr q<|Zm rfl<|Ze (X0o rfl)<|Zm rfl ?_
   refine Zg 128 rfl (fun U=>?_) (fun U=>?_)
   ·refine Zp (gP U) ?_;refine Zp (gP U) ?_;refine Ze (Xe rfl U rfl)<|Zm rfl<|Zp (gP rfl) ?_;refine Zp (gP rfl) ?_;refine Zp (gP rfl) ?_;refine Ze (Xe rfl rfl rfl)<|Za rfl ?_;refine Zn fun a q=>?_;exact ⟨q.sub ⟨X2 rfl (by first|rfl|(simp only [n,i,j,h,A,aF,U,Qw,Bool.false_and,Bool.true_or,Bool.false_or];done)|(simp [n,i,j,h,A,aF,U];done)|(exfalso;revert U;simp)),trivial⟩,rfl⟩
   refine Zv (gW U) (X7 rfl) ?_;refine Zv (gW U) (X0o rfl) ?_;refine Ze (Xc rfl U rfl)<|Zm rfl ?_
   refine Zg 132 rfl (fun L=>?_) (fun L=>?_)
   ·refine Zp (gP L) ?_;refine Zp (gP L) ?_;refine Zp (gP L) ?_;refine Ze (Xe rfl L rfl)<|Za rfl ?_;refine Zn fun a q=>?_;exact ⟨q.sub ⟨X2 rfl (by first|rfl|(simp only [n,i,j,h,A,aF,U,L,Qw,Bool.false_and,Bool.true_or,Bool.false_or];done)|(simp [n,i,j,h,A,aF,U,L];done)|(exfalso;revert L;simp)),trivial⟩,rfl⟩
   refine Zv (gW L) (Vn X04 D) ?_;refine Zv (gW L) (Vn X04 aI) ?_;refine Zv (gW L) (X7w rfl rfl X9d (fun w=>Xjc 9998 (faT b d) (faT b (d+1)) (faK b d) (faK b (d+1)) 0 0 w)) ?_;refine Ze (Xc rfl L rfl)<|Za rfl ?_;refine Zn fun a q=>?_;exact ⟨q.sub ⟨X2 rfl (by first|rfl|(simp only [n,i,j,h,A,aF,U,L,Qw,Bool.false_and,Bool.true_or,Bool.false_or];done)|(simp [n,i,j,h,A,aF,U,L];done)|(exfalso;revert L;simp)),trivial⟩,rfl⟩
  rintro a _ ⟨q,rfl⟩;refine dI _ _ ?_
  refine Q6 (X4 q (Xx q rfl rfl) ?_)
  first|exact ⟨rfl,o⟩|exact ⟨congrArg Value.bool (Xf7 _ _),o⟩
 have j:=aN;refine Q7<|bD _ _<|Zs q fun _ dJ=>?_;refine Zm rfl<|Zf (Vc (Xrc _ aM aO more (y.below' o).top bU) Xhg) ?_;rintro _ fC ⟨b,d,rfl,bL,t⟩;have o:=btr o t;refine Zm rfl<|Ze (X1 (vs:=[vi b,vi d]) rfl rfl)<|Ze (X1 (vs:=[vi b,vi d]) rfl rfl)<|Za rfl<|Za rfl<|Zx dJ fun a q _ dK=>?_;refine Zm rfl<|Zm rfl<|Zf (Vc (Xh9 _ b d) X9c) ?_;rintro _ fD ⟨rfl,t⟩;have o:=btr o t;refine Zm rfl<|Ze (X1 (vs:=[.agg #[.string (tx (faT b d)),vi (faK b d),vi 0],.bool (faB b d)]) rfl rfl)<|Ze (X1 (vs:=[.agg #[.string (tx (faT b d)),vi (faK b d),vi 0],.bool (faB b d)]) rfl rfl)<|Zf (X3 (zs:=[.string (tx []),vi 0,vi 0]) X1s rfl) ?_;rintro _ fE ⟨dL,rfl,b5,t,E⟩;have bO:=Q0 o.size b5;have dM:=(z.below' o).away b5;have dN:=(y.below' o).away b5;have o:=btr o t;refine Zo (Vw [.string (tx (faT b d)),vi (faK b d),vi 0] X0z E) ?_;rintro _ fF ⟨ho,hb⟩;have aB:=E;have o:=Below.only o ho bO;have E:=hb;refine Za rfl<|Zx dK fun a q _ dP=>?_;refine Zm rfl<|Zm rfl<|Ze (X03 rfl rfl (by omega) (by omega))<|Zf (Vc (Xh9 _ b (d+1)) X9c) ?_;rintro _ fG ⟨rfl,t⟩;have E:=E.below t;have o:=btr o t;refine Zm rfl<|Ze (X1 (vs:=[.agg #[.string (tx (faT b (d+1))),vi (faK b (d+1)),vi 0],.bool (faB b (d+1))]) rfl rfl)<|Ze (X1 (vs:=[.agg #[.string (tx (faT b (d+1))),vi (faK b (d+1)),vi 0],.bool (faB b (d+1))]) rfl rfl)<|Zf (X3 (zs:=[.string (tx []),vi 0,vi 0]) X1s rfl) ?_;rintro _ fH ⟨b56,rfl,b6,t,aJ⟩
 have bS:dL≠b56:=by have:=E.lt;omega
 have bP:=Q0 o.size b6;have dQ:=(z.below' o).away b6;have dR:=(y.below' o).away b6;have E:=E.below t;have o:=btr o t;refine Zo (Vw [.string (tx (faT b (d+1))),vi (faK b (d+1)),vi 0] X0z aJ) ?_;rintro _ fI ⟨ho,hb⟩;have aB:=aJ;have E:=E.only ho (by omega);have o:=Below.only o ho bP;have aJ:=hb;refine Za rfl<|Zx dP fun a q _ dS=>?_;refine Zm rfl<|Zf (Vc (Xm9 _ b) Xdk) ?_;rintro _ w37 ⟨rfl,t⟩;have E:=E.below t;have aJ:=aJ.below t;have o:=btr o t;refine Zm rfl<|Ze (X1 (vs:=[vi (if inR b 0 20=true then ((cntF b.toNat:Nat) : Int) else 0),.bool (inR b 0 20)]) rfl rfl)<|Ze (X1 (vs:=[vi (if inR b 0 20=true then ((cntF b.toNat:Nat) : Int) else 0),.bool (inR b 0 20)]) rfl rfl)<|Za rfl<|Za rfl<|ZX dS fun a q _ dT=>?_;refine Q5 fun _ dU=>?_;refine X02 (fun a w=>Fr a 137 [(18,.pointer (some ⟨dL,0,none⟩)),(19,.bool (faB b d)),(20,.pointer (some ⟨b56,0,none⟩)),(21,.bool (faB b (d+1))),(125,.bool ((faB b d)&&((((!(frmB (faT b d) (faK b d) 0))||(((faT b d).length:Int) != b))||(!(inR b 0 20)))||(decide ((if inR b 0 20=true then ((cntF b.toNat:Nat) : Int) else 0)≤d)))))]∧Below w37.heap.size w37 w) ?_ ?_
 ·have aD:Below w37.heap.size w37 w37:=Below.refl _ _
  refine Zr q<|Zm rfl<|Zm rfl ?_
  refine Zg 105 rfl (fun m=>?_) (fun m=>?_)
  ·refine Zv (gW m) (Vn X04 E) ?_;refine Zk (gW m) (X1d (vs:=[.agg #[.string (tx (faT b d)),vi (faK b d),vi 0]]) rfl X6d (Xhf _ (faT b d) (faK b d) 0 (Xs5 _ _))) ?_;rintro _ w38 ⟨rfl,t⟩;have E:=E.below t;have o:=btr o t;have aD:=btr aD t;refine Zv (gW m) (X0o rfl) ?_;refine Zv (gW m) (X7 rfl) ?_
   refine Zg 109 rfl (fun C=>?_) (fun C=>?_)
   ·refine Zp (gP C) ?_;refine Zp (gP C) ?_;refine Zp (gP C) ?_;refine Zp (gP C) ?_;refine Zp (gP C) ?_;refine Zv (gW m) (Xe rfl C rfl) ?_;refine Zv (gW m) (X7 rfl) ?_;refine Zp (gP rfl) ?_;refine Zp (gP rfl) ?_;refine Zv (gW m) (Xe rfl rfl rfl) ?_;refine Zv (gW m) (X7 rfl) ?_;refine Zp (gP rfl) ?_;refine Zp (gP rfl) ?_;refine Zp (gP rfl) ?_;refine Zv (gW m) (Xe rfl rfl rfl) ?_;refine Ze (Xe rfl m rfl) ?_;refine Zn fun a q=>?_
    have H:Below w37.heap.size w37 w38:=aD
    exact ⟨q.sub ⟨rfl,rfl,rfl,rfl,X2 rfl (by first|rfl|(simp only [n,i,j,m,C,Qw,Bool.false_and,Bool.true_or,Bool.false_or];done)|(simp [n,i,j,m,C];done)|(exfalso;revert C;simp)),trivial⟩,H⟩
   refine Zv (gW C) (Vd rfl X0m 0) ?_;refine Zv (gW C) (X0 rfl X2j (E.at 0)) ?_;refine Zv (gW C) (X4y (s:=(faT b d)) rfl Tryz.underlying9) ?_;refine Zv (gW C) (X7 rfl) ?_;refine Zv (gW C) (X4h rfl rfl) ?_;refine Zv (gW m) (Xc rfl C rfl) ?_;refine Zv (gW m) (X7 rfl) ?_
   refine Zg 116 rfl (fun W=>?_) (fun W=>?_)
   ·refine Zp (gP W) ?_;refine Zp (gP W) ?_;refine Zv (gW m) (Xe rfl W rfl) ?_;refine Zv (gW m) (X7 rfl) ?_;refine Zp (gP rfl) ?_;refine Zp (gP rfl) ?_;refine Zp (gP rfl) ?_;refine Zv (gW m) (Xe rfl rfl rfl) ?_;refine Ze (Xe rfl m rfl) ?_;refine Zn fun a q=>?_
    have H:Below w37.heap.size w37 w38:=aD
    exact ⟨q.sub ⟨rfl,rfl,rfl,rfl,X2 rfl (by first|rfl|(simp only [n,i,j,m,C,W,Qw,Bool.false_and,Bool.true_or,Bool.false_or];done)|(simp [n,i,j,m,C,W];done)|(exfalso;revert W;simp)),trivial⟩,H⟩
   refine Zv (gW W) (X7 rfl) ?_;refine Zv (gW W) (X0o rfl) ?_;refine Zv (gW m) (Xc rfl W rfl) ?_;refine Zv (gW m) (X7 rfl) ?_
   refine Zg 120 rfl (fun M=>?_) (fun M=>?_)
   ·refine Zp (gP M) ?_;refine Zp (gP M) ?_;refine Zp (gP M) ?_;refine Zv (gW m) (Xe rfl M rfl) ?_;refine Ze (Xe rfl m rfl) ?_;refine Zn fun a q=>?_
    have H:Below w37.heap.size w37 w38:=aD
    exact ⟨q.sub ⟨rfl,rfl,rfl,rfl,X2 rfl (by first|rfl|(simp only [n,i,j,m,C,W,M,Qw,Bool.false_and,Bool.true_or,Bool.false_or];done)|(simp [n,i,j,m,C,W,M];done)|(exfalso;revert M;simp)),trivial⟩,H⟩
   refine Zv (gW M) (X7 rfl) ?_;refine Zv (gW M) (X7 rfl) ?_;refine Zv (gW M) (Xdd rfl rfl) ?_;refine Zv (gW m) (Xc rfl M rfl) ?_;refine Ze (Xe rfl m rfl) ?_;refine Zn fun a q=>?_
   have H:Below w37.heap.size w37 w38:=aD
   exact ⟨q.sub ⟨rfl,rfl,rfl,rfl,X2 rfl (by first|rfl|(simp only [n,i,j,m,C,W,M,Qw,Bool.false_and,Bool.true_or,Bool.false_or];done)|(simp [n,i,j,m,C,W,M];done)|(exfalso;revert M;simp)),trivial⟩,H⟩
  refine Zp (gP m) ?_;refine Zp (gP m) ?_;refine Zp (gP m) ?_;refine Zp (gP m) ?_;refine Zp (gP trivial) ?_;refine Zp (gP trivial) ?_;refine Zp (gP trivial) ?_;refine Zp (gP trivial) ?_;refine Zp (gP trivial) ?_;refine Zp (gP m) ?_;refine Zp (gP m) ?_;refine Zp (gP trivial) ?_;refine Zp (gP trivial) ?_;refine Zp (gP m) ?_;refine Zp (gP m) ?_;refine Zp (gP trivial) ?_;refine Zp (gP trivial) ?_;refine Zp (gP trivial) ?_;refine Zp (gP m) ?_;refine Ze (Xc rfl m rfl) ?_;refine Zn fun a q=>?_
  have H:Below w37.heap.size w37 w37:=aD
  exact ⟨q.sub ⟨rfl,rfl,rfl,rfl,X2 rfl (by first|rfl|(simp only [n,i,j,m,Qw,Bool.false_and,Bool.true_or,Bool.false_or];done)|(simp [n,i,j,m];done)|(exfalso;revert m;simp)),trivial⟩,H⟩
 rintro a eQ ⟨q,t⟩;have E:=E.below t;have aJ:=aJ.below t;have o:=btr o t;refine dU _ _ ?_
 refine Xl q rfl (fun aW=>?_) (fun aW=>?_)
 ·have aG:=aW;exact (Xgi aW).elim
 have aG:=aW;refine Q7<|dT _ _<|Q5 fun _ dW=>?_;refine X02 (fun a w=>Fr a 137 [(4,.bool (((!(faB b d))||(!(faB b (d+1))))||(!(decide ((faT b d)=(faT b (d+1)))&&(decide ((faK b d)=(faK b (d+1)))&&(decide (0=0)&&true))))))]∧eQ=w) ?_ ?_
 ·refine Zr q<|Zm rfl<|Ze (X0o rfl)<|Zm rfl ?_
  refine Zg 128 rfl (fun aA=>?_) (fun aA=>?_)
  ·refine Zp (gP aA) ?_;refine Zp (gP aA) ?_;refine Ze (Xe rfl aA rfl)<|Zm rfl<|Zp (gP rfl) ?_;refine Zp (gP rfl) ?_;refine Zp (gP rfl) ?_;refine Ze (Xe rfl rfl rfl)<|Za rfl ?_;refine Zn fun a q=>?_;exact ⟨q.sub ⟨X2 rfl (by first|rfl|(simp only [n,i,j,aG,aA,Qw,Bool.false_and,Bool.true_or,Bool.false_or];done)|(simp [n,i,j,aG,aA];done)|(exfalso;revert aA;simp)),trivial⟩,rfl⟩
  refine Zv (gW aA) (X7 rfl) ?_;refine Zv (gW aA) (X0o rfl) ?_;refine Ze (Xc rfl aA rfl)<|Zm rfl ?_
  refine Zg 132 rfl (fun N=>?_) (fun N=>?_)
  ·refine Zp (gP N) ?_;refine Zp (gP N) ?_;refine Zp (gP N) ?_;refine Ze (Xe rfl N rfl)<|Za rfl ?_;refine Zn fun a q=>?_;exact ⟨q.sub ⟨X2 rfl (by first|rfl|(simp only [n,i,j,aG,aA,N,Qw,Bool.false_and,Bool.true_or,Bool.false_or];done)|(simp [n,i,j,aG,aA,N];done)|(exfalso;revert N;simp)),trivial⟩,rfl⟩
  refine Zv (gW N) (Vn X04 E) ?_;refine Zv (gW N) (Vn X04 aJ) ?_;refine Zv (gW N) (X7w rfl rfl X9d (fun w=>Xjc 9998 (faT b d) (faT b (d+1)) (faK b d) (faK b (d+1)) 0 0 w)) ?_;refine Ze (Xc rfl N rfl)<|Za rfl ?_;refine Zn fun a q=>?_;exact ⟨q.sub ⟨X2 rfl (by first|rfl|(simp only [n,i,j,aG,aA,N,Qw,Bool.false_and,Bool.true_or,Bool.false_or];done)|(simp [n,i,j,aG,aA,N];done)|(exfalso;revert N;simp)),trivial⟩,rfl⟩
 rintro a _ ⟨q,rfl⟩;refine dW _ _ ?_
 refine Q6 (X4 q (Xx q rfl rfl) ?_)
 first|exact ⟨rfl,o⟩|exact ⟨congrArg Value.bool (Xf7 _ _),o⟩
end Go.Proofs.YtckoekhjglafjaaGreatDoor
namespace Go.Proofs.YtckoekhjglafjaaGreatDoor
open Go.ChangeShapes Go.WideShapes Go.ChangeAt Go.RowKit Go.Deep Go.Joins
set_option linter.unusedVariables false
theorem Xeh{H:Type}{enc:TypeId×Value→H}{C:Checked}{os:Os}{f:FuncId}{fn:Func}{s:ChangeSpec}{apart fresh handsOn again:Bool}{X:World→Array Value→Prop}
  (hX:∀ (w w':World) (args:Array Value),w.heap=w'.heap→X w args→X w' args)
  (own:ownKnob C.prog.godebug=none) (started:os.Started) (noInit:C.prog.inits.idxOf? f=none) (hfn:C.prog.funcs[f]? = some fn)
  (witness:∃ (w:World) (tape:Tape) (i:Input),w.os=os∧(w.forCall tape i).Shaped C.prog∧i.vars=[]∧Input.okWide C.prog (w.forCall tape i) .any w.heap.size f i∧
   ((s.pre enc C.prog fn [] apart (w.forCall tape i).memory i.args∧X (w.forCall tape i).memory i.args)∧sizedMet enc C.prog fn (OpenSpec.ofChange s) apart (w.forCall tape i).memory i.args)∧({} : Assume).holds C.prog (lone (Frame.enter C.prog f i.args .normal) [] (w.forCall tape i)))
  (contract:∀ (W:World) (base:Nat) (args:Array Value) (ds gs:List (DataW H)) (before:List MemPlace),
   (∀ (j:Nat) t v,fn.params[j]? = some t→args[j]? = some v→Value.okWide C.prog W .any base t v)→
   DataW.Whole enc C.prog fn.params.toList s.vars apart W args.toList ds gs before→W.ShapedOpen C.prog→X W args→
   Calls C.prog f args W fun e W'=>∃ v,e=.returned v∧s.post enc C.prog fn apart fresh handsOn again W args v W') :
  ReturnsInHanded {} C os f .any (fun w args=>(s.pre enc C.prog fn [] apart w args∧X w args)∧sizedMet enc C.prog fn (OpenSpec.ofChange s) apart w args) (s.post enc C.prog fn apart fresh handsOn again):=by
 refine returnsInHanded_of_calls own started noInit witness ?_;intro w tape i _ hsh _ hok hpre hholds;obtain ⟨_,_,_,fn',hfn',_,_,_,_,hval⟩:=hok
 obtain rfl:fn'=fn:=Option.some.inj (hfn'.symm.trans hfn)
 obtain ⟨⟨⟨ds,gs,before,hw,_⟩,hx⟩,_⟩:=hpre;refine (contract (w.forCall tape i) w.heap.size i.args ds gs before hval (hw.of_heap (by rfl)) hsh (hX _ _ _ (by rfl) hx)).mono fun e W' ⟨v,he,hp⟩=>?_
 subst he
 exact ChangeSpec.post_blind hp
theorem Xkm{W:World}(h:laidMetH Tryz.prog Rows.fnUniqueFormRow.laid W) : HalfT W:=by
 rw [MakeChecks.laidMetH_plain _ _ _ (by kernel_rfl)] at h
 obtain ⟨g,t,cs,fuel,p,h1,h2,h3,h4⟩:=Lib.laidMet.reads h (.tail _ (.tail _ (.tail _ (.tail _ (.tail _ (.tail _ (.head _)))))))
 rw [Xgs] at h1
 obtain rfl:=Option.some.inj h1
 rw [Xs1] at h2
 obtain rfl:=Option.some.inj h2
 have hc:=Xqa h4
 unfold World.var? at h3
 rw [Xgs,Qz] at h3
 cases hh:W.heap[0]? with
 | none=>rw [hh] at h3;cases h3
 | some r=>
  rw [hh] at h3
  cases r with
  | cells cs' T F=>
   simp only [Option.some.injEq] at h3
   subst h3
   exact ⟨T,F,by rw [hh,← hc]⟩
  | _=>cases h3
theorem Xve{W:World}(h:W.ShapedOpen Tryz.prog) : MaxT W:=
 cell_of_shapedOpen_int (P:=Tryz.prog) (g:=2) (t:=3) (zero:=#[.int .i64 0]) h (Q2 (by kernel_rfl)) (by kernel_rfl) rfl (by kernel_rfl) (by kernel_rfl) Tryz.underlying3
set_option linter.unusedVariables false
set_option maxRecDepth 100000 in
theorem Xeb(os:Os)(started:os.Started)(H:Type)(enc:TypeId×Value→H) :
  ReturnsInHanded {} Tryz.checked os 3 .any (fun w args=>(Rows.fnUniqueFormSpec.pre enc Tryz.prog Tryz.f3 [] false w args∧laidMetH Tryz.prog Rows.fnUniqueFormRow.laid w)∧sizedMet enc Tryz.prog Tryz.f3 (OpenSpec.ofChange Rows.fnUniqueFormSpec) false w args)
   (Rows.fnUniqueFormSpec.post enc Tryz.prog Tryz.f3 false true false false):=by
 refine Xeh (C:=Tryz.checked) (X:=fun w _=>laidMetH Tryz.prog Rows.fnUniqueFormRow.laid w) (fun _ _ _ hh h=>h.of_heap hh) own started (by kernel_rfl) Tryz.func3
  (ChangeSpec.witness_shaped (enc:=enc) (C:=Tryz.checked) (os:=os) (X:=fun w _=>laidMetH Tryz.prog Rows.fnUniqueFormRow.laid w) false (World.laidAll Tryz.prog os Rows.fnUniqueFormRow.laid) #[.slice none 0 0,.slice none 0 0] 8 (World.laidAll_os _ _ _)
   (World.shaped_of_ZipB (by kernel_rfl) (by kernel_rfl)) (by kernel_rfl) (by kernel_rfl) (by kernel_rfl)
   (by rw [MakeChecks.laidMetH_plain _ _ _ (by kernel_rfl)];exact laidMet_laidAll _ (by kernel_rfl) (by kernel_rfl))) ?_
 intro W base args ds gs before hval0 hW hsh hL
 have hval:∀ (j:Nat) t v,Tryz.f3.params[j]? = some t→args[j]? = some v→Value.okWide Tryz.prog W .any base t v:=hval0
 have hW':=hW
 obtain ⟨p,q,hA0,hV,rfl,hfz,hnd⟩:=hW
 have hA:DataW.TrodAll enc Tryz.prog W 0 (fun _=>true) true Tryz.f3.params.toList args.toList ds p:=hA0
 rw [Tryz.params3] at hA hval
 obtain ⟨v0,v1,d0,d1,p0,p1,rfl,rfl,rfl,h0,h1⟩:=trodAll_two hA
 have hV' : DataW.TrodVars enc Tryz.prog W (fun _ => true) ["loop.example/g00864/impl.half"] gs q := hV
 obtain ⟨_,_,_,_,g1,_,hgs,_⟩:=trodVars_one hV'
 subst hgs
 have h0k:=h0;have h1k:=h1
 obtain ⟨A,c,i,E,rfl,hr0,hc0⟩:=Xaf (hval 0 22 v0 rfl rfl) h0 (fun _=>rfl)
 obtain ⟨B,l,k,F,rfl,hr1,hc1⟩:=Xaf (hval 1 22 v1 rfl rfl) h1 (fun _=>rfl)
 clear hA0 hval0
 have hlt:∀ x ∈ (p0++p1)++q,x.block<W.heap.size:=fun x hx=>hW'.lt x hx
 refine Calls.mono (Xyq W A i c hr0 hc0 B k l hr1 hc1 (Xkm hL) (Xve hsh)) fun r W' ⟨v,he,hv,hb⟩=>?_
 subst hv
 refine ⟨_,he,Xg5 (pa:=p0++p1) (pv:=q) hW' (fun _ _ _=>trodAll_mk1 (shut_bool Tryz.underlying4 true)) (fun sp hsp=>?_) (fun sp hsp=>Xfs hV' (fun x hx=>hlt x (Qu.2 (.inr hx))) hb (fun x hx=>hsp x (Qu.2 (.inr hx)))) rfl hb⟩
 exact trodAll_mk2 (WideElems.Trod_stays Xd1 (by kernel_rfl) (Q2 (by kernel_rfl)) h0k (fun x hx=>hb.same (hlt x (Qu.2 (.inl (Qu.2 (.inl hx)))))) (fun x hx=>hsp x (Qu.2 (.inl (Qu.2 (.inl hx))))))
  (WideElems.Trod_stays Xd1 (by kernel_rfl) (Q2 (by kernel_rfl)) h1k (fun x hx=>hb.same (hlt x (Qu.2 (.inl (Qu.2 (.inr hx)))))) (fun x hx=>hsp x (Qu.2 (.inl (Qu.2 (.inr hx))))))
theorem Xms:Rows.FnUniqueFormSaid:=
 OpenClaim.holds_of_wide 3 Tryz.f3 rfl rfl rfl rfl rfl rfl rfl ⟨rfl,rfl,rfl,rfl,rfl⟩ rfl rfl rfl rfl rfl (by kernel_rfl) Tryz.func3 (by kernel_rfl)
  (Q2 (by kernel_rfl)) (by unfold Func.isWrapper;first|(rw [Q4 (by decide +kernel)];kernel_rfl)|(rw [Q3 (by decide +kernel)];exact ⟨rfl,rfl⟩))
  (fun os started H enc _=>Xeb os started H enc)
theorem Xn7 : Tryz.prog.funcNamed "loop.example/g00864/laws.FnUniqueForm" = some 3 := by kernel_rfl
theorem Xfb:Tryz.prog.wantsStandIn 22=false:=by kernel_rfl
theorem uniq_holds:Rows.FnUniqueFormCardSaid:=
 Claim7.holds_tied_plain_at .later [] [.data, .data, .data, .data, .sentinel, .sentinel, .data, .pinned] true (true, "7bc69b40283fd0a6bc24f522ab5ef90dba658d5dbdf7830a2011fcda9f8e398a") true
  Xms (fun _ h=>by cases h) (by kernel_rfl) (fun _ h=>by cases h) fnUniqueForm_row_tie rfl ⟨rfl,rfl⟩ (by kernel_rfl) rfl
  (fun f fn hf hfn=>by
   obtain rfl:f=3:=Option.some.inj (Xn7.symm.trans hf) |>.symm
   obtain rfl:fn=Tryz.f3:=(Option.some.inj (Tryz.func3.symm.trans hfn)).symm
   exact ⟨by kernel_rfl,fun j t ht=>by
    rw [Tryz.params3] at ht
    have hm:=Array.mem_of_getElem? ht
    simp only [List.mem_toArray,Qv,List.mem_nil_iff,or_false] at hm
    rcases hm with rfl|rfl<;>exact Xfb⟩)
  (by kernel_rfl)
end Go.Proofs.YtckoekhjglafjaaGreatDoor
