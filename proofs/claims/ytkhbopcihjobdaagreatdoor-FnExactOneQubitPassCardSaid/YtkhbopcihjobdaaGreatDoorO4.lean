/-
  For every circuit, the program's OneQubitPass answers as the reference's does, leaves its argument as it was and hands out memory of its own; the argument and the package's variable half read as before. Conditions: none beside the variable's value that the card ties to the program's text.
-/
import Derived.Test.YtkhbopcihjobdaaGreatDoorO3
import Derived.Maps.RangeRun
import Derived.Test.YtkhbopcihjobdaaGreatDoorO2
import Derived.Laws.Strings2
import Derived.Laws.IdiomStrings
import Derived.Test.YtkhbopcihjobdaaGreatDoorO1
import Derived.Lib.ItoaNum
import Derived.Lib.Join
import Derived.Lib.LaidTab
import Derived.Test.YtkhbopcihjobdaaGreatDoorProg
import Derived.Lib.ItoaLen
set_option linter.unusedVariables false
set_option linter.defProp false
set_option linter.unusedSimpArgs false
set_option maxHeartbeats 1000000
set_option maxRecDepth 20000
set_option linter.unusedSectionVars false
namespace Go.Proofs.YtkhbopcihjobdaaGreatDoor
def yl:List (List Int):=[[1,0,0,0,1,0,0,0,1],[0,0,1,0,-1,0,1,0,0],[0,-1,0,1,0,0,0,0,1],[0,1,0,0,0,1,1,0,0],[0,0,1,-1,0,0,0,-1,0],[-1,0,0,0,-1,0,0,0,1],[1,0,0,0,0,-1,0,1,0],[0,0,-1,0,1,0,1,0,0],[1,0,0,0,0,1,0,-1,0],[0,0,1,0,1,0,-1,0,0],[0,1,0,-1,0,0,0,0,1],[0,0,1,1,0,0,0,1,0],[1,0,0,0,-1,0,0,0,-1],[0,-1,0,0,0,-1,1,0,0],[0,0,-1,1,0,0,0,-1,0],[0,-1,0,0,0,1,-1,0,0],[-1,0,0,0,0,1,0,1,0],[0,1,0,1,0,0,0,0,-1],[0,-1,0,-1,0,0,0,0,-1],[-1,0,0,0,0,-1,0,-1,0],[0,0,-1,0,-1,0,-1,0,0],[0,1,0,0,0,-1,-1,0,0],[0,0,-1,-1,0,0,0,1,0],[-1,0,0,0,1,0,0,0,-1]]
def Ld:List (List UInt8):=[[],[72],[83],[72,83],[83,72],[83,83],[72,83,72],[72,83,83],[83,72,83],[83,83,72],[83,83,83],[72,83,72,83],[72,83,83,72],[72,83,83,83],[83,72,83,83],[83,83,72,83],[72,83,72,83,83],[72,83,83,72,83],[83,72,83,83,72],[83,72,83,83,83],[83,83,72,83,83],[72,83,72,83,83,72],[72,83,72,83,83,83],[72,83,83,72,83,83]]
def l_(l:List Int) : List Dy:=l.map fun i=>dO i 0
def ck(k:Nat) : List Dy:=l_ (yl.getD k [])
def cw(k:Nat) : List UInt8:=Ld.getD k []
def mn(c:UInt8) : Gt:=if c=83 then ⟨5,0,0⟩ else ⟨1,0,0⟩
def jn(w:List UInt8) : List Gt:=w.map mn
def gy(gs:List Gt) : Mx:=(eu ⟨1,gs⟩).getD mZ
def u6:List (Int×Int×Int):=[(1,0,0),(-1,0,0),(0,1,0),(0,-1,0),(0,0,1),(0,0,-1)]
def wQ(u v:Int×Int×Int) : Int×Int×Int:=(u.2.1*v.2.2-u.2.2*v.2.1,u.2.2*v.1-u.1*v.2.2,u.1*v.2.1-u.2.1*v.1)
def xj(u v w:Int×Int×Int) : List Int:=[u.1,v.1,w.1,u.2.1,v.2.1,w.2.1,u.2.2,v.2.2,w.2.2]
theorem UI:(u6.all fun u=>u6.all fun v=>!(u.1*v.1+u.2.1*v.2.1+u.2.2*v.2.2==0)||yl.contains (xj u v (wQ u v)))=true:=by kernel_rfl
theorem QG{x y z:Int}(h:x*x+y*y+z*z=1) : (x,y,z) ∈ u6:=by
 have hx:=tN x;have hy:=tN y;have hz:=tN z
 rcases uh (show x*x<=1 by omega) with rfl|rfl|rfl<;>rcases uh (show y*y<=1 by omega) with rfl|rfl|rfl<;>rcases uh (show z*z<=1 by omega) with rfl|rfl|rfl<;>first|(exfalso;revert h;decide)|decide
theorem Cc:∀ {l:List Dy},l.length=9->l=[(au l).at 0 0,(au l).at 0 1,(au l).at 0 2,(au l).at 1 0,(au l).at 1 1,(au l).at 1 2,(au l).at 2 0,(au l).at 2 1,(au l).at 2 2]
 | [a,b,c,d,e,f,g,h,i],_=>rfl
theorem LZ{l:List Dy}(h:Gd l)(h0:az l=0) : ∃ k,k<24/\l=ck k:=by
 obtain ⟨Z,v1,o1⟩:=h
 rw [h0] at v1 o1
 have hz:∀ i j,i<3->j<3->(Z i j).b=0/\Z i j=⟨(Z i j).a,0,0,0⟩/\(au l).at i j=dO (Z i j).a 0:=fun i j hi hj=>by
  have hq:=EI o1 hi hj
  rw [yJ (o1.real i j)] at hq
  have q1:=tN (Z i j).a
  have q2:=tN (Z i j).b
  have hb:(Z i j).b=0:=by
   have h9:(2:Int)^(0:Int).toNat=1:=rfl
   rcases uh (show (Z i j).b*(Z i j).b<=1 by omega) with e|e|e
   ·rw [e] at hq;omega
   ·exact e
   ·rw [e] at hq;omega
  obtain ⟨c1,c2⟩:=tI (o1.real i j)
  have hZ:Z i j=⟨(Z i j).a,0,0,0⟩:=ke O hb c1 (by rw [c2,hb];rfl)
  refine ⟨hb,hZ,?_⟩
  obtain ⟨k0,k,k1,k2⟩:=v1.v i j hi hj
  have hk:k=0:=by have:((0:Int).toNat:Int)=0:=rfl;omega
  subst hk
  rw [pP,Xj] at k2
  have hx:(au l).at i j=⟨((au l).at i j).num,((au l).at i j).exp⟩:=rfl
  rw [hx,<- k2,hZ,show ((au l).at i j).exp=0 by have:((0:Int).toNat:Int)=0:=rfl;omega];rfl
 have hu:∀ j,j<3->((Z 0 j).a,(Z 1 j).a,(Z 2 j).a) ∈ u6:=fun j hj=>by
  obtain ⟨p,_⟩:=o1.eqs hj hj
  rw [Q4 O,(hz 0 j O2 hj).1,(hz 1 j O2 hj).1,(hz 2 j O2 hj).1] at p
  exact QG (by simpa using p)
 obtain ⟨p,_⟩:=o1.eqs (show 0<3 by decide) (show 1<3 by decide)
 rw [Q3 O2,(hz 0 0 O2 O2).1,(hz 1 0 O2 O2).1,(hz 2 0 O2 O2).1] at p
 simp only [Int.zero_mul,Int.add_zero,Int.mul_zero] at p
 have k0:=congrArg Rg.a o1.c0
 have k1:=congrArg Rg.a o1.c1
 have k2:=congrArg Rg.a o1.c2
 rw [show s2^(0:Int).toNat=1 from O,Xj,ov,pS,pe,pe] at k0 k1 k2
 have hd:∀ i j,i<3->j<3->(Z i j).c=0/\(Z i j).d=0:=fun i j hi hj=>by obtain ⟨c1,c2⟩:=tI (o1.real i j);exact ⟨c1,by rw [c2,(hz i j hi hj).1];rfl⟩
 rw [(hz 1 0 O2 O2).1,(hd 1 0 O2 O2).1,(hd 1 0 O2 O2).2,(hz 2 0 O2 O2).1,(hd 2 0 O2 O2).1,(hd 2 0 O2 O2).2] at k0
 rw [(hz 2 0 O2 O2).1,(hd 2 0 O2 O2).1,(hd 2 0 O2 O2).2,(hz 0 0 O2 O2).1,(hd 0 0 O2 O2).1,(hd 0 0 O2 O2).2] at k1
 rw [(hz 0 0 O2 O2).1,(hd 0 0 O2 O2).1,(hd 0 0 O2 O2).2,(hz 1 0 O2 O2).1,(hd 1 0 O2 O2).1,(hd 1 0 O2 O2).2] at k2
 simp only [Int.zero_mul,Int.sub_zero] at k0 k1 k2
 have hc:=UI
 rw [W1] at hc
 have hc1:=hc _ (hu 0 O2)
 rw [W1] at hc1
 have hc2:=hc1 _ (hu 1 O2)
 simp only [wQ,xj] at hc2
 rw [p] at hc2
 rw [show (Z 1 0).a*(Z 2 1).a-(Z 2 0).a*(Z 1 1).a=(Z 0 2).a by omega,show (Z 2 0).a*(Z 0 1).a-(Z 0 0).a*(Z 2 1).a=(Z 1 2).a by omega,show (Z 0 0).a*(Z 1 1).a-(Z 1 0).a*(Z 0 1).a=(Z 2 2).a by omega] at hc2
 simp only [beq_self_eq_true,Bool.not_true,Bool.false_or,List.contains_iff_mem] at hc2
 obtain ⟨k,hk,e⟩:=List.getElem_of_mem hc2
 refine ⟨k,hk,?_⟩
 rw [Cc v1.len,ck,Qa,Qc hk,e]
 simp only [(hz 0 0 O2 O2).2.2,(hz 0 1 O2 O2).2.2,(hz 0 2 O2 O2).2.2,(hz 1 0 O2 O2).2.2,(hz 1 1 O2 O2).2.2,(hz 1 2 O2 O2).2.2,(hz 2 0 O2 O2).2.2,(hz 2 1 O2 O2).2.2,(hz 2 2 O2 O2).2.2]
 rfl
def SS:List (List Nat):=[[1,2],[0,3],[4,5],[6,7],[2,8],[9,10],[3,11],[12,13],[13,14],[5,15],[11,0],[10,16],[7,17],[8,1],[18,19],[19,20],[21,22],[22,23],[14,12],[15,4],[23,21],[16,9],[17,6],[20,18]]
def nx(k:Nat)(c:UInt8) : Nat:=(SS.getD k []).getD (if c=83 then 1 else 0) 0
def zI(i:Int) : Rg:=⟨i,0,0,0⟩
def jm(k i j:Nat) : Int:=(yl.getD k []).getD (i*3+j) 0
theorem LI:((List.range 24).all fun k=>(ck k).length==9&&(ck k).all dt&&(List.range 3).all fun i=>(List.range 3).all fun j=>decide ((au (ck k)).at i j=dO (jm k i j) 0))=true:=by kernel_rfl
theorem sN{k:Nat}(hk:k<24) : BV (ck k) 0 (fun i j=>zI (jm k i j)):=by
 have h1:=W1.1 LI k (W2.2 hk)
 simp only [Qd,beq_iff_eq,W1,W2,Qr] at h1
 obtain ⟨⟨h2,h3⟩,h4⟩:=h1;exact ⟨h2,h3,fun i j hi hj=>by rw [h4 i hi j hj];exact qR rfl rfl⟩
theorem Ee{x y:Dy}{m n:Nat}{z z':Rg}(hx:dt x=true)(hy:dt y=true)(h1:V x m z)(h2:V y n z')(e:s2^n*z=s2^m*z') : x=y:=by
 have h3:=h1.up n;have h4:=h2.up m
 rw [Nat.add_comm n m,<- e] at h4
 exact R_ hx hy h3 h4
theorem Ec{l r:List Dy}{m n:Nat}{Z Y:Nat->Nat->Rg}(h1:BV l m Z)(h2:BV r n Y)(e:∀ i j,i<3->j<3->s2^n*Z i j=s2^m*Y i j) : l=r:=by
 have h:∀ i j,i<3->j<3->(au l).at i j=(au r).at i j:=fun i j hi hj=>Ee (h1.at_ok i j) (h2.at_ok i j) (h1.v i j hi hj) (h2.v i j hi hj) (e i j hi hj)
 rw [Cc h1.len,Cc h2.len,h 0 0 O2 O2,h 0 1 O2 O2,h 0 2 O2 O2,h 1 0 O2 O2,h 1 1 O2 O2,h 1 2 O2 O2,h 2 0 O2 O2,h 2 1 O2 O2,h 2 2 O2 O2]
theorem GG(g:Gt) : ∀ (l:List Gt) (X:M2),jz (l++[g]) X=g1 g.k*jz l X
 | [],_=>rfl
 | _::l,X=>GG g l _
theorem zn(g:Gt) : ∀ (l:List Gt),hs (l++[g])=hs l+hN g
 | []=>by show hN g+0=0+hN g;omega
 | x::l=>by show hN x+hs (l++[g])=hN x+hs l+hN g;rw [zn g l];omega
theorem Ul:((List.range 24).all fun k=>decide (nx k 72<24)&&decide (nx k 83<24)&&(List.range 3).all fun j=>decide (jm (nx k 72) 0 j=jm k 2 j)&&decide (jm (nx k 72) 1 j = -jm k 1 j)&&decide (jm (nx k 72) 2 j=jm k 0 j)&&decide (jm (nx k 83) 0 j = -jm k 1 j)&&decide (jm (nx k 83) 1 j=jm k 0 j)&&decide (jm (nx k 83) 2 j=jm k 2 j))=true:=by kernel_rfl
structure DV (k:Nat) : Prop where
 lt:∀ c,nx k c<24
 h:∀ j,j<3->jm (nx k 72) 0 j=jm k 2 j/\jm (nx k 72) 1 j = -jm k 1 j/\jm (nx k 72) 2 j=jm k 0 j
 s:∀ j,j<3->jm (nx k 83) 0 j = -jm k 1 j/\jm (nx k 83) 1 j=jm k 0 j/\jm (nx k 83) 2 j=jm k 2 j
theorem ES(k:Nat){c:UInt8}(h:c≠83) : nx k c=nx k 72:=by unfold nx;rw [Q3 h];rfl
theorem xP{k:Nat}(hk:k<24) : DV k:=by
 have h1:=W1.1 Ul k (W2.2 hk)
 simp only [Qd,W1,W2,Qr] at h1
 obtain ⟨⟨h2,h3⟩,h4⟩:=h1
 refine ⟨fun c=>?_,fun j hj=>?_,fun j hj=>?_⟩
 ·by_cases h:c=83
  ·rw [h];exact h3
  ·rw [ES k h];exact h2
 ·obtain ⟨⟨⟨⟨⟨a,b⟩,c⟩,_⟩,_⟩,_⟩:=h4 j hj;exact ⟨a,b,c⟩
 ·obtain ⟨⟨⟨⟨⟨_,_⟩,_⟩,a⟩,b⟩,c⟩:=h4 j hj;exact ⟨a,b,c⟩
theorem IM(i:Int) : zI (-i) = -zI i:=rfl
theorem Lw(c:UInt8) : mn c ∈ G4:=by unfold mn;split<;>decide
theorem Gr{k:Nat}(hk:k<24){Y:M2}{h:Nat}(hY:∀ i j,i<3->j<3->tV Y i j=s2^(2*h+2)*zI (jm k i j))(c:UInt8){i j:Nat}(hi:i<3)(hj:j<3) :
  tV (g1 (mn c).k*Y) i j=s2^(2*(h+hN (mn c))+2)*zI (jm (nx k c) i j):=by
 have hn:=xP hk
 by_cases hc:c=83
 ·subst hc
  obtain ⟨a,b,d⟩:=hn.s j hj
  have e:hN (mn 83)=0:=rfl
  have eg:g1 (mn 83).k=gS:=rfl
  obtain ⟨t0,t1,t2⟩:=An Y j
  have e0:h+0=h:=rfl
  rw [e,eg,e0]
  rcases oh hi with rfl|rfl|rfl
  ·rw [t0,a,hY 1 j O2 hj,IM,lj.2.1]
  ·rw [t1,b,hY 0 j O2 hj]
  ·rw [t2,d,hY 2 j O2 hj]
 ·obtain ⟨a,b,d⟩:=hn.h j hj
  have el:mn c=⟨1,0,0⟩:=by unfold mn;rw [Q3 hc]
  have e:hN (mn c)=1:=by rw [el];rfl
  have eg:g1 (mn c).k=gH:=by rw [el];rfl
  obtain ⟨t0,t1,t2⟩:=vk Y j
  have ep:∀ z:Rg,s2^(2*(h+1)+2)*z=2*(s2^(2*h+2)*z):=fun z=>by
   rw [show 2*(h+1)+2=2*h+2+2 by omega,oq,z5];simp only [ja]
  rw [e,eg,ES k hc,ep]
  rcases oh hi with rfl|rfl|rfl
  ·rw [t0,a,hY 2 j O2 hj]
  ·rw [t1,b,hY 1 j O2 hj,IM,lj.2.1,lj.2.1]
  ·rw [t2,d,hY 0 j O2 hj]
def rO:List (Nat×UInt8):=[(0,0),(0,72),(0,83),(1,83),(2,72),(2,83),(3,72),(3,83),(4,83),(5,72),(5,83),(6,83),(7,72),(7,83),(8,83),(9,83),(11,83),(12,83),(14,72),(14,83),(15,83),(16,72),(16,83),(17,83)]
theorem VK:((List.range 24).all fun k=>k==0||(decide ((rO.getD k (0,0)).1<k)&&cw k==cw (rO.getD k (0,0)).1++[(rO.getD k (0,0)).2]&&nx (rO.getD k (0,0)).1 (rO.getD k (0,0)).2==k))=true:=by kernel_rfl
theorem yt(w:List UInt8)(c:UInt8) : jn (w++[c])=jn w++[mn c]:=by simp [jn]
def pW(w:List UInt8) : M2:=jz (jn w) i2
theorem HW(w:List UInt8)(c:UInt8) : pW (w++[c])=g1 (mn c).k*pW w:=by unfold pW;rw [yt,GG]
theorem yP(k:Nat)(hk:k<24) : ∀ i j,i<3->j<3->tV (pW (cw k)) i j=s2^(2*hs (jn (cw k))+2)*zI (jm k i j):=by
 induction k using Nat.strongRecOn with
 | ind k ih=>
  by_cases h0:k=0
  ·subst h0
   intro i j hi hj
   rcases oh hi with rfl|rfl|rfl<;>rcases oh hj with rfl|rfl|rfl<;>decide
  ·have h1:=W1.1 VK k (W2.2 hk)
   simp only [Bool.or_eq_true,Qd,beq_iff_eq,Qr] at h1
   obtain ⟨⟨p1,p2⟩,p3⟩:=h1.resolve_left h0;intro i j hi hj
   have:=Gr O0 (ih _ p1 O0) (rO.getD k (0,0)).2 hi hj
   rw [p3] at this
   rw [p2,HW,yt,zn]
   exact this
theorem Mn{k:Nat}(hk:k<24)(c:UInt8) : ∀ i j,i<3->j<3->tV (pW (cw k++[c])) i j=s2^(2*hs (jn (cw k++[c]))+2)*zI (jm (nx k c) i j):=fun i j hi hj=>by
 rw [HW,yt,zn]
 exact Gr hk (yP k hk) c hi hj
theorem AF{K L:Int}(hK:0<=K)(hL:0<=L){x y:Rg}(hx:Cb K x)(hy:Cb L y) : Cb (4*(K*L)) (x*y):=by
 have hp:∀ {p q:Int},-K<=p/\p<=K->-L<=q/\q<=L->-(K*L)<=p*q/\p*q<=K*L:=fun {p q} h1 h2=>by
  have a1:=Int.mul_nonneg (show 0<=K-p by omega) (show 0<=L-q by omega)
  have a2:=Int.mul_nonneg (show 0<=K+p by omega) (show 0<=L+q by omega)
  have a3:=Int.mul_nonneg (show 0<=K-p by omega) (show 0<=L+q by omega)
  have a4:=Int.mul_nonneg (show 0<=K+p by omega) (show 0<=L-q by omega)
  constructor<;>grind
 obtain ⟨x1,x2,x3,x4⟩:=hx;obtain ⟨y1,y2,y3,y4⟩:=hy
 have a1:=hp x1 y1;have a2:=hp x2 y4;have a3:=hp x3 y3;have a4:=hp x4 y2
 have b1:=hp x1 y2;have b2:=hp x2 y1;have au:=hp x3 y4;have b4:=hp x4 y3
 have c1:=hp x1 y3;have c2:=hp x2 y2;have c3:=hp x3 y1;have c4:=hp x4 y4
 have d1:=hp x1 y4;have d2:=hp x2 y3;have d3:=hp x3 y2;have d4:=hp x4 y1
 refine ⟨?_,?_,?_,?_⟩
 ·rw [pe];omega
 ·rw [pK];omega
 ·rw [pX];omega
 ·rw [pZ];omega
def Cm(K:Int)(X:M2) : Prop:=∀ i j,Cb K (X.at i j)
theorem Fv{K L:Int}(h:K<=L){x:Rg}(hx:Cb K x) : Cb L x:=by obtain ⟨a,b,c,d⟩:=hx;exact ⟨by omega,by omega,by omega,by omega⟩
theorem sG{K:Int}(h0:0<=K)(hK:K<=100000000){x:Rg}(h:Cb K x) : qN x<=BB:=by
 have h1:=Jd h
 have h2:=Int.mul_le_mul hK hK h0 O2
 unfold BB;omega
theorem VM.mul_some{A B:Mx}{e f:Nat}{X Y:M2}(hA:VM A e X)(hB:VM B f Y)(he:e+f<=60){K L:Int}(hK:0<=K)(hL:0<=L)(hX:Cm K X)(hY:Cm L Y)(hb:8*(K*L)<=100000000) :
  ∃ C,bg A B=some C/\VM C (e+f) (X*Y)/\Cm (8*(K*L)) (X*Y):=by
 have hKL:0<=K*L:=Int.mul_nonneg hK hL
 have hcell:∀ i j,i<2->j<2->∃ s,de A B i j 2=some s:=fun i j hi hj=>by
  have v0:=hA.v i 0 hi O2
  have v1:=hA.v i 1 hi O2
  have w0:=hB.v 0 j O2 hj
  have w1:=hB.v 1 j O2 hj
  have oA:=fun k=>Mx.at_ok (oc hA.ok) i k
  have oB:=fun k=>Mx.at_ok (oc hB.ok) k j
  have c0:=AF hK hL (hX i 0) (hY 0 j)
  have c1:=AF hK hL (hX i 1) (hY 1 j)
  obtain ⟨x,hx⟩:=xD v0 w0 (oA 0) (oB 0) he (sG O0 O0 c0)
  have hvx:=v7 hx v0 w0
  obtain ⟨y,hy⟩:=xD v1 w1 (oA 1) (oB 1) he (sG O0 O0 c1)
  have hvy:=v7 hy v1 w1
  obtain ⟨s,hs⟩:=xK (sg (e+f)) hvx.1 tG hvx.2 O2 (sG O0 O0 c0) (by rw [lq];exact sG O0 O0 c0)
  have hvs:=vO hs (sg (e+f)) hvx.1
  rw [lq] at hvs
  obtain ⟨t,ht⟩:=xK hvs.1 hvy.1 hvs.2 hvy.2 (sG O0 O0 c0) (sG O0 O0 c1) (sG (K:=8*(K*L)) O0 O0 (Fv O0 (x_ c0 c1)))
  exact ⟨t,by simp only [de,Qz,hx,hs,hy,ht]⟩
 obtain ⟨C,hC⟩ : ∃ C,bg A B=some C:=by
  unfold bg
  rw [Q4 (by rw [hA.ok,hB.ok,hA.c,hB.r];rfl),hA.c]
  exact Ej (qM hA.ok).1 (qM hB.ok).2 fun i j hi hj=>hcell i j (by rw [hA.r] at hi;exact hi) (by rw [hB.c] at hj;exact hj)
 refine ⟨C,hC,VM.mul hC hA hB,fun i j=>?_⟩
 have hs:∀ p q r t:Rg,Cb K p->Cb L q->Cb K r->Cb L t->Cb (8*(K*L)) (p*q+r*t):=fun p q r t a b c d=>Fv O0 (x_ (AF hK hL a b) (AF hK hL c d))
 have xa:=hX 0 0;have xb:=hX 0 1;have xc:=hX 1 0;have xd:=hX 1 1
 have ya:=hY 0 0;have yb:=hY 0 1;have yc:=hY 1 0;have yd:=hY 1 1
 unfold M2.at
 split<;>split
 ·exact hs _ _ _ _ xa ya xb yc
 ·exact hs _ _ _ _ xa yb xb yd
 ·exact hs _ _ _ _ xc ya xd yc
 ·exact hs _ _ _ _ xc yb xd yd
theorem ED{A B:Mx}(hA:di A=true)(hB:di B=true)(r1:A.rows=2)(c1:A.cols=2)(r2:B.rows=2)(c2:B.cols=2)(h:∀ i j,i<2->j<2->A.at i j=B.at i j) : A.cells=B.cells:=by
 have l1:=(rs hA).2.2
 have l2:=(rs hB).2.2
 rw [r1,c1] at l1;rw [r2,c2] at l2
 have e:∀ {l:List Dy},l.length=4->l=[l.getD 0 dZ,l.getD 1 dZ,l.getD 2 dZ,l.getD 3 dZ]:=fun {l} hl=>by
  match l,hl with
  | [a,b,c,d],_=>rfl
 have g:∀ i j,i<2->j<2->A.cells.getD (i*2+j) dZ=B.cells.getD (i*2+j) dZ:=fun i j hi hj=>by
  have:=h i j hi hj
  simp only [Mx.at,c1,c2] at this
  exact this
 have h0:A.cells.getD 0 dZ=B.cells.getD 0 dZ:=g 0 0 O2 O2
 have h1:A.cells.getD 1 dZ=B.cells.getD 1 dZ:=g 0 1 O2 O2
 have h2:A.cells.getD 2 dZ=B.cells.getD 2 dZ:=g 1 0 O2 O2
 have h3:A.cells.getD 3 dZ=B.cells.getD 3 dZ:=g 1 1 O2 O2
 rw [e l1,e l2,h0,h1,h2,h3]
theorem F_{x:Dy}{m n:Nat}{z z':Rg}(hx:dt x=true)(h:V x m z)(e:s2^n*z=s2^m*z') : V x n z':=by
 obtain ⟨h0,k,h1,h2⟩:=h;obtain ⟨hr,_,hne⟩:=pH.1 hx
 have e2:s2^n*x.num=s2^x.exp.toNat*z':=by
  apply tX k
  rw [show s2^k*(s2^n*x.num)=s2^n*(s2^k*x.num) by simp only [ja],<- h2,e,show m=k+x.exp.toNat by omega,oq];simp only [ja]
 by_cases hc:x.exp<=n
 ·refine ⟨h0,n-x.exp.toNat,by omega,?_⟩
  apply tX x.exp.toNat
  rw [<- e2,<- Xd,<- oq,show x.exp.toNat+(n-x.exp.toNat)=n by omega]
 ·exfalso
  obtain ⟨t,ht⟩ : ∃ t,x.exp.toNat=n+(t+1):=⟨x.exp.toNat-n-1,by omega⟩
  rw [ht,oq,Xd] at e2
  have e3:=tX n e2
  have:=zd (y:=s2^t*z') hr (by rw [e3,rR];simp only [ja])
  rcases hne with hne|hne
  ·omega
  ·rw [this] at hne;cases hne
theorem m_.cm{e:Nat}{X:M2}(h:m_ e X){K:Int}(hK:0<=K)(hb:2^e<=K*K) : Cm K X:=fun i j=>BK hK (Int.le_trans (h.qN i j) hb)
theorem Ft{K:Int}{X:M2}(h:Cm K X) : Cm K (dg X):=fun i j=>by
 have hc:∀ z,Cb K z->Cb K (cj z):=fun z hz=>by obtain ⟨a,b,c,d⟩:=hz;exact ⟨a,by simp only [uO];omega,by simp only [uP];omega,by simp only [vL];omega⟩
 have xa:=hc _ (h 0 0);have xb:=hc _ (h 0 1);have xc:=hc _ (h 1 0);have xd:=hc _ (h 1 1)
 unfold M2.at
 split<;>split
 ·exact xa
 ·exact xc
 ·exact xb
 ·exact xd
theorem He(i:Nat) : Cm 1 (pl i):=by
 have h:∀ X:M2,Cb 1 X.a->Cb 1 X.b->Cb 1 X.c->Cb 1 X.d->Cm 1 X:=fun X a b c d k l=>by unfold M2.at;split<;>split<;>assumption
 rcases i with _|_|i
 ·exact h ⟨0,1,1,0⟩ (by unfold Cb;decide) (by unfold Cb;decide) (by unfold Cb;decide) (by unfold Cb;decide)
 ·exact h ⟨0,-jj,jj,0⟩ (by unfold Cb;decide) (by unfold Cb;decide) (by unfold Cb;decide) (by unfold Cb;decide)
 ·exact h ⟨1,0,0,-1⟩ (by unfold Cb;decide) (by unfold Cb;decide) (by unfold Cb;decide) (by unfold Cb;decide)
theorem Tt{W:Mx}{f:Nat}{Y:M2}(hW:VM W f Y)(hu:m_ f Y)(hf:f<=4) : ∃ l,ak W=some l:=by
 have hp:(2:Int)^f<=2^4:=y5 hf
 have cY:=hu.cm (K:=4) O2 (Int.le_trans hp O2)
 have h1:iz W=(true,true):=by
  obtain ⟨p,e1,e2,_⟩:=VM.mul_some hW hW.adj O0 (K:=4) (L:=4) O2 O2 cY (Ft cY) O2
  have hun:Y*dg Y=sm (s2^(f+f)) i2:=by rw [oq];exact hu
  rw [hun] at e2
  have hu2:VM (ao 2) 0 i2:=vx O4
  have hc:p.cells=(ao 2).cells:=ED e2.ok hu2.ok e2.r e2.c hu2.r hu2.c fun i j hi hj=>by
   refine Ee (Mx.at_ok (oc e2.ok) i j) (Mx.at_ok (oc hu2.ok) i j) (e2.v i j hi hj) (hu2.v i j hi hj) ?_
   rw [pP,Xj]
   rcases rZ hi with rfl|rfl<;>rcases rZ hj with rfl|rfl<;>rfl
  unfold iz
  rw [Q4 (by rw [hW.ok,hW.r,hW.c];rfl),e1,hW.r]
  have:uE p (ao (2:Int).toNat)=true:=by
   simp only [uE,Qd,Qr]
   exact ⟨⟨e2.r,e2.c⟩,hc⟩
  simp only [this]
 unfold ak
 rw [Q4 (by unfold li;rw [h1,hW.r];rfl)]
 refine vB 9 fun n hn=>?_
 show ∃ z,fj W (n/3) (n % 3)=some z
 obtain ⟨i,hi,e⟩ : ∃ i,i<3/\n/3=i:=⟨_,by omega,rfl⟩
 obtain ⟨j,hj,e'⟩ : ∃ j,j<3/\n % 3=j:=⟨_,by omega,rfl⟩
 rw [e,e']
 obtain ⟨x,x1,x2,x3⟩:=VM.mul_some (rI hi) hW O0 (K:=1) (L:=4) O2 O2 (He i) cY O2
 obtain ⟨y,y1,y2,y3⟩:=VM.mul_some x2 (rI hj) O0 (K:=8*(1*4)) (L:=1) O2 O2 x3 (He j) O2
 obtain ⟨z,z1,z2,z3⟩:=VM.mul_some y2 hW.adj O0 (K:=8*(8*(1*4)*1)) (L:=4) O2 O2 y3 (Ft cY) O2
 have o0:=Mx.at_ok (oc z2.ok) 0 0
 have o1:=Mx.at_ok (oc z2.ok) 1 1
 obtain ⟨t,ht⟩:=xK (z2.v 0 0 O2 O2) (z2.v 1 1 O2 O2) o0 o1 (sG O2 O2 (z3 0 0)) (sG O2 O2 (z3 1 1)) (sG O2 O2 (x_ (z3 0 0) (z3 1 1)))
 have hvt:=vO ht (z2.v 0 0 O2 O2) (z2.v 1 1 O2 O2)
 obtain ⟨u,hu'⟩:=xD hvt.1 (show V pC 2 1 from qR O O) hvt.2 O2 O0 (by rw [kc];exact sG O2 O2 (x_ (z3 0 0) (z3 1 1)))
 exact ⟨u,by unfold fj;rw [x1,Qz,y1,Qz,z1,Qz,ht,Qz,hu']⟩
theorem zj{W:Mx}{f:Nat}{Y:M2}(hW:VM W f Y)(hu:m_ f Y)(hf:f<=4){r:List Dy}{n:Nat}{Z:Nat->Nat->Rg}(hr:BV r n Z)(e:∀ i j,i<3->j<3->s2^n*tV Y i j=s2^(2*f+2)*Z i j) : ak W=some r:=by
 obtain ⟨l,hl⟩:=Tt hW hu hf
 rw [hl,Ec (H1 hl hW).2 hr e]
theorem Sx:((List.range 24).all fun k=>decide (hs (jn (cw k))<=3)&&decide ((cw k).length<=6))=true:=by kernel_rfl
theorem sV{k:Nat}(hk:k<24) : hs (jn (cw k))<=3/\(cw k).length<=6:=by
 have:=W1.1 Sx k (W2.2 hk)
 simpa only [Qd,Qr] using this
theorem ym(w:List UInt8) : ∀ g ∈ jn w,g ∈ G4:=fun g hg=>by
 obtain ⟨c,_,rfl⟩:=W6.1 hg;exact Lw c
theorem wo{gs:List Gt}{M:Mx}(h:eu ⟨1,gs⟩=some M) : gy gs=M:=by unfold gy;rw [h];rfl
theorem Te{k:Nat}(hk:k<24)(c:UInt8) : ak (gy (jn (cw k++[c])))=some (ck (nx k c)):=by
 have h1:=sV hk
 have hl:hs (jn (cw k++[c]))<=4:=by rw [yt,zn];have:hN (mn c)<=1:=(by unfold hN;split<;>omega);omega
 obtain ⟨M,a,b,d⟩:=vz (ym (cw k++[c])) (by simp [jn];omega) O0
 rw [wo a]
 refine zj b d hl (sN ((xP hk).lt c)) fun i j hi hj=>?_
 rw [pP,Xj]
 exact Mn hk c i j hi hj
theorem A0{k:Nat}(hk:k<24) : ak (gy (jn (cw k)))=some (ck k):=by
 have h1:=sV hk
 obtain ⟨M,a,b,d⟩:=vz (ym (cw k)) (by simp [jn];omega) O0
 rw [wo a]
 refine zj b d O0 (sN hk) fun i j hi hj=>?_
 rw [pP,Xj]
 exact yP k hk i j hi hj
end Go.Proofs.YtkhbopcihjobdaaGreatDoor
namespace Go.Proofs.YtkhbopcihjobdaaGreatDoor
open Go.Proofs.Tryz
open Go.RowKit Go.Proofs.Tryz
abbrev En:=Int×Int×Nat
section
variable {w w' : World} {b b' : Nat} {f : Int -> Int}
theorem kl.lt{clock:Nat}{l:List En}(h:kl w b l clock):b<w.heap.size:=by
 rcases W4 b w.heap.size with h'|h'
 ·exact h'
 ·simp[kl,We h'] at h
end
section
end
section
end
section
end
section
end
structure Tm where (m c:Int) deriving DecidableEq
structure Af where (m t:Int) deriving DecidableEq
def Ch(f:Int->Int) : Nat->List Tm
 | 0=>[]
 | n+1=>if 0<(n:Int)/\f n≠0 then Ch f n++[⟨n,f n⟩] else Ch f n
@[irreducible] def Wn (f:Int->Int) : List Tm:=Ch f 16777216
def fi(s:ByteArray) : List Value:=[.string s]
def rg:∀ x,(fi x).length=1:=fun _=>rfl
def uw:∀ x,(fi x).all one=true:=fun _=>rfl
def tx(l:List UInt8) : ByteArray:=⟨l.toArray⟩
def uH(l:List UInt8):(tx l).size=l.length:=by simp[tx,ByteArray.size]
def KE(l r:List UInt8):tx l++tx r=tx (l++r):=by
 apply ByteArray.ext;simp[tx]
section
variable {P : Program} {a : Act} {w : World} {n : Nat} {e : kt} {ty : TypeId} {pos : String} {af : Array Edge} {g : Option (Nat × Bool)} {d : Option Tmp} {t t' : TypeId}
theorem TN{x y:Operand}{s r:ByteArray}(hf:Fr a n e)(hx:ev e x=some (.string s))(hy:ev e y=some (.string r))(hb:s.size+r.size<=9223372036854775807):Ev P ⟨d,.binOp .add t x y t',ty,pos,af,g⟩ a w (.string (s++r)):=fun w' _=>by
 have h2:¬ (((s.size+r.size:Nat) : Int)>IntKind.i64.max):=by
  have:IntKind.i64.max=9223372036854775807:=rfl;omega
 simp only[execOp,hf.ev hx,hf.ev hy];simp[eqGuard,binOp,Op.stringOp];simpa using h2
theorem Rs{x y:Operand}{s r:List UInt8}(hf:Fr a n e)(hx:ev e x=some (.string (tx s)))(hy:ev e y=some (.string (tx r)))(hb:s.length+r.length<=9223372036854775807):Ev P ⟨d,.binOp .add t x y t',ty,pos,af,g⟩ a w (.string (tx (s++r))):=by
 rw[<- KE];exact TN hf hx hy (by rw[uH,uH];exact hb)
theorem xA{x y:Operand}{s r:List UInt8}(hx:ev e x=some (.string (tx s)))(hy:ev e y=some (.string (tx r)))(hb:s.length+r.length<=9223372036854775807):iv P ⟨d,.binOp .add t x y t',ty,pos,af,g⟩ n e w (.string (tx (s++r))):=fun _ hf=>Rs hf hx hy hb
theorem Tp{x:Operand}{T:TypeId}{s:List UInt8}(hf:Fr a n e)(hx:ev e x=some (.string (tx s)))(hT:P.underlying T=some .string):Ev P ⟨d,.call ⟨.builtin .len,#[x],#[T]⟩,ty,pos,af,g⟩ a w (.int .i64 (s.length:Int)):=fun w' _=>by
 have h:=run_len_string (P:=P) w' T ty (tx s) hT;rw[uH] at h;simp[execOp,resolve,invoke,builtin,hf.ev hx,h,goInt]
theorem uM{x:Operand}{T:TypeId}{s:List UInt8}(hx:ev e x=some (.string (tx s)))(hT:P.underlying T=some .string):iv P ⟨d,.call ⟨.builtin .len,#[x],#[T]⟩,ty,pos,af,g⟩ n e w (.int .i64 (s.length:Int)):=fun _ hf=>Tp hf hx hT
theorem SN{x y:Operand}{T:TypeId}{s:List UInt8}{i:Int}{k:Nat}{u:UInt8}(hf:Fr a n e)(hx:ev e x=some (.string (tx s)))(hy:ev e y=some (.int .i64 i))(hT:P.underlying T=some .string)(hi:i=(k:Int))(hk:s[k]? = some u):Ev P ⟨d,.index T x y,ty,pos,af,g⟩ a w (.int .u8 (u.toNat:Int)):=fun w' _=>by
 subst hi;have hlt:=(Qg.1 hk).1;have h:=run_index_string (P:=P) w' T (tx s) .i64 (k:Int) hT;rw[dif_pos ⟨by omega,by rw[uH];omega⟩] at h;have e1:((tx s)[(k:Int).toNat]'(by rw[uH];omega))=u:=by
  have:((tx s)[(k:Int).toNat]'(by rw[uH];omega))=s[k]:=rfl;rw[this];exact (Qg.1 hk).2
 rw[e1] at h;simp[execOp,hf.ev hx,hf.ev hy,h]
theorem um{x y:Operand}{T:TypeId}{s:List UInt8}{i:Int}{k:Nat}{u:UInt8}(hx:ev e x=some (.string (tx s)))(hy:ev e y=some (.int .i64 i))(hT:P.underlying T=some .string)(hi:i=(k:Int))(hk:s[k]? = some u):iv P ⟨d,.index T x y,ty,pos,af,g⟩ n e w (.int .u8 (u.toNat:Int)):=fun _ hf=>SN hf hx hy hT hi hk
theorem M7{x y z:Operand}{T:TypeId}{s r:List UInt8}{i j:Int}{k m:Nat}(hf:Fr a n e)(hx:ev e x=some (.string (tx s)))(hy:ev e y=some (.int .i64 i))(hz:ev e z=some (.int .i64 j))(hT:P.underlying T=some .string)(hi:i=(k:Int))(hj:j=(m:Int))(hkm:k<=m)(hm:m<=s.length)(hr:(s.drop k).take (m-k)=r):Ev P ⟨d,.slice T x (some y) (some z) none,ty,pos,af,g⟩ a w (.string (tx r)):=fun w' _=>by
 subst hi hj;have h:=run_slice_string (P:=P) w' T (tx s) .i64 .i64 (k:Int) (m:Int) hT O0 O0 (by rw[uH];omega);have e1:(tx s).extract (k:Int).toNat (m:Int).toNat=tx r:=by
  rw[show (k:Int).toNat=k from O,show (m:Int).toNat=m from rfl];unfold tx;rw[ByteArray.extract_mk,hr]
 rw[e1] at h;simp[execOp,Instr.sliceAt,hf.ev hx,hf.ev hy,hf.ev hz,run_underlying hT,h]
theorem E_{x y z:Operand}{T:TypeId}{s r:List UInt8}{i j:Int}{k m:Nat}(hx:ev e x=some (.string (tx s)))(hy:ev e y=some (.int .i64 i))(hz:ev e z=some (.int .i64 j))(hT:P.underlying T=some .string)(hi:i=(k:Int))(hj:j=(m:Int))(hkm:k<=m)(hm:m<=s.length)(hr:(s.drop k).take (m-k)=r):iv P ⟨d,.slice T x (some y) (some z) none,ty,pos,af,g⟩ n e w (.string (tx r)):=fun _ hf=>M7 hf hx hy hz hT hi hj hkm hm hr
theorem QH{x y:Operand}{i j:Int}(hf:Fr a n e)(hx:ev e x=some (.int .u8 i))(hy:ev e y=some (.int .u8 j)):Ev P ⟨d,.binOp .eql t x y t',ty,pos,af,g⟩ a w (.bool (i==j)):=fun w' _=>by
 simp[execOp,hf.ev hx,hf.ev hy,eqGuard,binOp,Op.intCmp]
theorem vc{x y:Operand}{i j:Int}(hx:ev e x=some (.int .u8 i))(hy:ev e y=some (.int .u8 j)):iv P ⟨d,.binOp .eql t x y t',ty,pos,af,g⟩ n e w (.bool (i==j)):=fun _ hf=>QH hf hx hy
theorem Mj{x y:Operand}{i j:Int}(hf:Fr a n e)(hx:ev e x=some (.int .u8 i))(hy:ev e y=some (.int .u8 j)):Ev P ⟨d,.binOp .neq t x y t',ty,pos,af,g⟩ a w (.bool (i != j)):=fun w' _=>by
 simp[execOp,hf.ev hx,hf.ev hy,eqGuard,binOp,Op.intCmp]
theorem zi{x y:Operand}{i j:Int}(hx:ev e x=some (.int .u8 i))(hy:ev e y=some (.int .u8 j)):iv P ⟨d,.binOp .neq t x y t',ty,pos,af,g⟩ n e w (.bool (i != j)):=fun _ hf=>Mj hf hx hy
theorem Ol{x:Operand}{S D E:TypeId}{b c:Nat}{u:UInt8}(hf:Fr a n e)(hx:ev e x=some (.slice (some ⟨b,0,none⟩) 1 c))(hS:P.underlying S=some (.slice E))(hE:P.underlying E=some (.int .u8))(hD:P.underlying D=some .string)(hB:al w b E [.int .u8 (u.toNat:Int)]):Ev P ⟨d,.convert S D x,ty,pos,af,g⟩ a w (.string (tx [u])):=fun w' hw=>by
 have h:=run_convert_bytes_back (P:=P) w' S D E ⟨b,0,none⟩ c [u] hS hE hD (fun j hj=>by
  have hj0:j=0:=by simp at hj;omega
  subst hj0;have hc:=(hB.bw hw).cell 0;rw[qD];exact hc)
 have h':(convert S D (.slice (some ⟨b,0,none⟩) 1 c)).run P w'=.ok (.string (tx [u])) w':=h;simp[execOp,hf.ev hx,h']
theorem OO{x:Operand}{S D E:TypeId}{b c:Nat}{u:UInt8}(hx:ev e x=some (.slice (some ⟨b,0,none⟩) 1 c))(hS:P.underlying S=some (.slice E))(hE:P.underlying E=some (.int .u8))(hD:P.underlying D=some .string)(hB:al w b E [.int .u8 (u.toNat:Int)]):iv P ⟨d,.convert S D x,ty,pos,af,g⟩ n e w (.string (tx [u])):=fun _ hf=>Ol hf hx hS hE hD hB
end
def Vx{P:Program}{o:Oper}{n:Nat}{e:List (Nat×Value)}{w:World}{k:IntKind}{a b:Int}(h:iv P o n e w (.int k a))(e2:a=b):iv P o n e w (.int k b):=e2▸h
def Sw(I:World)(p:Mx)(Ap:Option Addr)(cp:Nat)(aR:Rw I 147 ai Ap p.cells)(q:Mx)(Aq:Option Addr)(cq:Nat)(Q:Rw I 147 ai Aq q.cells)(bF:p.cells.length<=2305843009213693951)(aW:q.cells.length<=2305843009213693951):RE 103 [.agg #[vi p.rows,vi p.cols,.slice Ap p.cells.length cp],.agg #[vi q.rows,vi q.cols,.slice Aq q.cells.length cq]] I (fun v w=>∃ i:Int,v=.tuple #[vi i,.bool (di p&&di q&&qk p q),.bool (di p&&di q)]/\((di p&&di q&&qk p q)=true->∃ k:Nat,k<8/\i=(k:Int)/\n_ p q k=true)/\Bl I w):=by
 refine enter func103 O 36 O O ?_;intro a g
 have l:=bz I
 refine ZS g fun bW=>Zf (bt (zs:=[vi p.rows,vi p.cols,.slice Ap p.cells.length cp]) O O) ?_;rintro _ w1 ⟨M,rfl,bZ,e,n⟩;have cD:=Q0 l.size bZ;have l:=aa l e;refine Zf (bt (zs:=[vi q.rows,vi q.cols,.slice Aq q.cells.length cq]) O O) ?_;rintro _ w2 ⟨b5,rfl,cA,e,o⟩
 have bU:M≠b5:=by have:=n.lt;omega
 have cE:=Q0 l.size cA;have n:=n.bw e;have l:=aa l e;refine Za O<|Za O<|Za O<|ZX bW fun a g _ cB=>Q5 fun _ cC=>eo (fun a w=>Fr a 36 [(2,(ae M)),(3,(ae b5)),(17,.bool ((!(di p))||(!(di q))))]/\Bl w2 w) ?_ ?_
 ·have f:Bl w2 w2:=Below.refl _ _
  refine Zr g<|Ze (Vn fw n)<|Zf (Vc (tq _ p Ap cp (aR.bx l).top bF) tr) ?_;rintro _ w3 ⟨rfl,e⟩;have ⟨o,l,f⟩:=bh e o l f;refine Ze (dn O)<|Zm O<|Zg 13 O ?_ ?_<;>intro x
  ·(iterate 3 refine Zp (gP x) ?_);exact Ze (Xh O x O)<|Zn fun a g=>⟨g.sub ⟨O,O,X1 O (by simp[x]),trivial⟩,f⟩
  refine Zv (gW x) (Vn fw o) ?_;refine Zk (gW x) (Vc (tq _ q Aq cq (Q.bx l).top aW) tr) ?_;rintro _ w4 ⟨rfl,e⟩;have l:=aa l e;have f:=aa f e;refine Zv (gW x) (dn O) ?_;refine Ze (X9 O x O) ?_;exact Zn fun a g=>⟨g.sub ⟨O,O,X1 O (by first|rfl|(simp only[x,bs];done)|simp[x]),trivial⟩,f⟩
 rintro a w5 ⟨g,e⟩;have ⟨n,o,l⟩:=bh e n o l;refine cC _ _<|Xz g O ?_ ?_<;>intro J
 ·have hn:=xN J;exact ZS g fun bG=>Za O<|Za O<|Za O<|Zt bG fun a g=>Q6<|X3<|X4 g (yo g O O O O)<|⟨_,by rw[hn];rfl,fun h9=>(by rw[hn] at h9;cases h9),l⟩
 have hy:=xE J;refine Q7<|cB _ _<|Q5 fun _ bH=>ZS g fun bI=>Zm O<|Zt bI fun a g=>Q8<|Xw (σ:=Nat) (fun (k:Nat) (a:Act) (w:World)=>Fr a 36 [(2,(ae M)),(3,(ae b5)),(18,vi (k:Int))]/\(k<=8)/\(∀ j<k,n_ p q j=false)/\al w M 91 [vi p.rows,vi p.cols,.slice Ap p.cells.length cp]/\al w b5 91 [vi q.rows,vi q.cols,.slice Aq q.cells.length cq]/\Bl I w) (fun (k:Nat)=>8-k) 0 ?_ ?_
 ·exact ⟨g.sb,O0,(fun j hj=>by omega),n,o,l⟩
 rintro k a w6 ⟨g,hk,U,n,o,l⟩;refine ZS g fun bJ=>Ze (ew O O)<|ZX bJ fun a g _ bK=>eh g O (fun y aS=>?_) (fun y aS=>?_)
 ·have cF:(k:Int)<8:=aS
  refine Q7<|bK _ _<|Q5 fun _ bL=>Q8<|ZS g fun bM=>Zm O<|Za O<|ZX bM fun a g _ bN=>eo (fun a w=>∃ u z A,Fr a 36 [(2,(ae M)),(3,(ae b5)),(7,vi (k:Int)),(8,(ae u)),(9,.bool ((bp q (ac (k:Int))).isSome)),(18,vi (k:Int))]/\I.heap.size<=u/\al w u 91 [vi (((bp q (ac (k:Int))).getD mZ).rows),vi (((bp q (ac (k:Int))).getD mZ).cols),.slice z (((bp q (ac (k:Int))).getD mZ).cells).length A]/\M≠u/\b5≠u/\ah w I.heap.size 147 5 ai z A (((bp q (ac (k:Int))).getD mZ).cells)/\Bl w6 w) ?_ ?_
  ·have f:Bl w6 w6:=Below.refl _ _
   refine gx none (fun j=>[8].contains j) mixed ?_;intro w7 e;have ⟨n,o,l,f⟩:=dk e n o l f;refine Yb g<|Ye 0 O (Vn fw o)<|Yo 1 O (fun _=>X7 O) ?_
   have m:Bl w7 w7:=Below.refl _ _
   refine Yc [0,1,2,3,4,5,6,7] 2 (fun a w=>∃ u z A,Fr a 36 [(2,(ae M)),(3,(ae b5)),(7,vi (k:Int)),(8,(ae u)),(18,vi (k:Int)),(26,.agg #[vi (((bp q (ac (k:Int))).getD mZ).rows),vi (((bp q (ac (k:Int))).getD mZ).cols),.slice z (((bp q (ac (k:Int))).getD mZ).cells).length A]),(27,.bool ((bp q (ac (k:Int))).isSome))]/\I.heap.size<=u/\al w u 91 [vi 0,vi 0,.slice none 0 0]/\M≠u/\b5≠u/\w7.heap.size<=u/\w6.heap.size<=u/\ah w I.heap.size 147 5 ai z A (((bp q (ac (k:Int))).getD mZ).cells)/\Bl w7 w) ?_ ?_
   ·rintro a w8 ⟨u,z,A,g,L,B,E,G,aX,aY,H,e⟩;clear m;have m:=e;have l:=aa l e;have f:=aa f e;refine Yb g<|Y1 8<|Yh O ad O (Vw [vi (((bp q (ac (k:Int))).getD mZ).rows),vi (((bp q (ac (k:Int))).getD mZ).cols),.slice z (((bp q (ac (k:Int))).getD mZ).cells).length A] jg B) ?_;rintro _ w9 ⟨ho,hb⟩;have H:=H.oT ho B O;have f:=Below.oy f ho aY;have m:=Below.oy m ho aX;have l:=Below.oy l ho L;have B:=hb;exact Yo 9 O (fun _=>kk O)<|Yd fun a g=>⟨u,z,A,g.sb,L,B,E,G,H,f⟩
   intro aT;refine Yc [0,1,2,7] 6 (fun a w=>∃ D,Fr a 36 [(2,(ae M)),(3,(ae b5)),(7,vi (k:Int)),(8,(ae D)),(18,vi (k:Int)),(22,.agg #[vi q.rows,vi q.cols,.slice Aq q.cells.length cq]),(24,.agg #[vi ((ac (k:Int)).num.a),vi ((ac (k:Int)).num.b),vi ((ac (k:Int)).num.c),vi ((ac (k:Int)).num.d),vi ((ac (k:Int)).exp)])]/\I.heap.size<=D/\al w D 91 [vi 0,vi 0,.slice none 0 0]/\M≠D/\b5≠D/\w7.heap.size<=D/\w6.heap.size<=D/\Bl w7 w) ?_ ?_
   ·rintro a cG ⟨D,g,aZ,W,aA,aB,b0,b1,e⟩;clear m;have m:=e;have l:=aa l e;have f:=aa f e;refine Yb g<|Y1 3<|Yk O ad (Vc (C5 _ q Aq cq (Q.bx l).top (ac (k:Int)) aW) BR) (fun _ _ ⟨aN,aO,_,N,e⟩=>e) ?_;rintro _ cH ⟨aN,aO,rfl,N,e⟩;have N:=N.lower l.size;have ⟨W,l,f,m⟩:=dk e W l f m;exact Yo 4 O (fun _=>X7 O)<|Yo 5 O (fun _=>X2 (vs:=[.agg #[vi (((bp q (ac (k:Int))).getD mZ).rows),vi (((bp q (ac (k:Int))).getD mZ).cols),.slice aN (((bp q (ac (k:Int))).getD mZ).cells).length aO],.bool ((bp q (ac (k:Int))).isSome)]) O O)<|Yo 6 O (fun _=>X2 (vs:=[.agg #[vi (((bp q (ac (k:Int))).getD mZ).rows),vi (((bp q (ac (k:Int))).getD mZ).cols),.slice aN (((bp q (ac (k:Int))).getD mZ).cells).length aO],.bool ((bp q (ac (k:Int))).isSome)]) O O)<|fun a g=>aT _ a _ O ⟨D,aN,aO,g.sb,aZ,W,aA,aB,b0,b1,N,m⟩
   intro aU;refine Y2 2 7 ?_ ?_
   ·refine Yk O ad (Vc (tS _ (k:Int) (iw.2 ⟨by omega,by omega⟩)) tP) (fun _ _ ⟨_,e⟩=>e) ?_;rintro _ cI ⟨rfl,e⟩;have ⟨n,o,l,f,m⟩:=io e n o l f m;refine Y2 3 7 ?_ ?_
    ·refine Yk O ad (Vc (C5 _ q Aq cq (Q.bx l).top (ac (k:Int)) aW) BR) (fun _ _ ⟨aP,aQ,_,C,e⟩=>e) ?_;rintro _ cJ ⟨aP,aQ,rfl,C,e⟩;have C:=C.lower l.size;have ⟨n,o,l,f,m⟩:=io e n o l f m;refine Yo 4 O (fun _=>X7 O)<|Yo 5 O (fun _=>X2 (vs:=[.agg #[vi (((bp q (ac (k:Int))).getD mZ).rows),vi (((bp q (ac (k:Int))).getD mZ).cols),.slice aP (((bp q (ac (k:Int))).getD mZ).cells).length aQ],.bool ((bp q (ac (k:Int))).isSome)]) O O)<|Yo 6 O (fun _=>X2 (vs:=[.agg #[vi (((bp q (ac (k:Int))).getD mZ).rows),vi (((bp q (ac (k:Int))).getD mZ).cols),.slice aP (((bp q (ac (k:Int))).getD mZ).cells).length aQ],.bool ((bp q (ac (k:Int))).isSome)]) O O)<|Y1 7<|Yk O ad (Xi (zs:=[vi 0,vi 0,.slice none 0 0]) jy O) (fun _ _ ⟨_,_,_,h,_⟩=>h) ?_;rintro _ cK ⟨b26,rfl,aC,e,bO⟩
     have aD:M≠b26:=by have:=n.lt;omega
     have aE:b5≠b26:=by have:=o.lt;omega
     have b2:=Q0 l.size aC;have b3:=Q0 f.size aC;have b6:=Q0 m.size aC;have ⟨C,l,f,m⟩:=dk e C l f m;exact fun a g=>aT _ a _ O ⟨b26,aP,aQ,g.sb,b2,bO,aD,aE,b6,b3,C,m⟩
    refine Yk O ad (Xi (zs:=[vi 0,vi 0,.slice none 0 0]) jy O) (fun _ _ ⟨_,_,_,h,_⟩=>h) ?_;rintro _ cM ⟨b28,rfl,aF,e,bP⟩
    have aG:M≠b28:=by have:=n.lt;omega
    have aH:b5≠b28:=by have:=o.lt;omega
    have b7:=Q0 l.size aF;have b8:=Q0 f.size aF;have b9:=Q0 m.size aF;have ⟨l,f,m⟩:=bh e l f m;exact fun a g=>aU _ a _ O ⟨b28,g.sb,b7,bP,aG,aH,b9,b8,m⟩
   refine Yk O ad (Xi (zs:=[vi 0,vi 0,.slice none 0 0]) jy O) (fun _ _ ⟨_,_,_,h,_⟩=>h) ?_;rintro _ cO ⟨b30,rfl,aI,e,aJ⟩
   have aK:M≠b30:=by have:=n.lt;omega
   have aL:b5≠b30:=by have:=o.lt;omega
   have bC:=Q0 l.size aI;have bD:=Q0 f.size aI;have bE:=Q0 m.size aI;have ⟨l,f,m⟩:=bh e l f m;refine Y1 2<|Yk O ad (Vc (tS _ (k:Int) (iw.2 ⟨by omega,by omega⟩)) tP) (fun _ _ ⟨_,e⟩=>e) ?_;rintro _ cP ⟨rfl,e⟩;have ⟨aJ,l,f,m⟩:=dk e aJ l f m;exact fun a g=>aU _ a _ O ⟨b30,g.sb,bC,aJ,aK,aL,bE,bD,m⟩
  rintro a w18 ⟨u,z,A,g,L,B,E,G,H,e⟩;have ⟨n,o,l⟩:=bh e n o l;refine bN _ _<|Q5 fun _ bQ=>eo (fun a w=>Fr a 36 [(2,(ae M)),(3,(ae b5)),(7,vi (k:Int)),(18,vi (k:Int)),(33,.bool (((bp q (ac (k:Int))).isSome)&&(decide (p.rows=((bp q (ac (k:Int))).getD mZ).rows)&&decide (p.cols=((bp q (ac (k:Int))).getD mZ).cols)&&decide (p.cells=((bp q (ac (k:Int))).getD mZ).cells))))]/\Bl w18 w) ?_ ?_
  ·have f:Bl w18 w18:=Below.refl _ _
   refine Zr g<|Zm O<|Zm O<|Zg 29 O ?_ ?_<;>intro t
   ·refine Zv (gW t) (Vn fw n) ?_;refine Zv (gW t) (Vn fw B) ?_;refine Zk (gW t) (Vc (H3 _ p Ap cp (aR.bx l).top ((bp q (ac (k:Int))).getD mZ) z A H.rd.top bF) HD) ?_;rintro _ cQ ⟨rfl,e⟩;have l:=aa l e;have f:=aa f e;refine Ze (Xh O t O) ?_;exact Zn fun a g=>⟨g.sub ⟨O,O,O,O,X1 O (by simp[J,y,t]),trivial⟩,f⟩
   (iterate 3 refine Zp (gP t) ?_);exact Ze (X9 O t O)<|Zn fun a g=>⟨g.sub ⟨O,O,O,O,X1 O (by simp[J,y,t]),trivial⟩,f⟩
  rintro a cR ⟨g,e⟩;have ⟨n,o,l⟩:=bh e n o l;refine bQ _ _<|Xz g O ?_ ?_<;>intro aM
  ·have hT:n_ p q k=true:=aM
   exact ZS g fun bR=>Zm O<|Za O<|Za O<|Za O<|Zt bR fun a g=>Q6<|Xn<|X3<|X3<|Xn<|X3<|X4 g (yo g O O O O)<|⟨_,by rw[hy,Qw,qk,Cv O0 hT],fun _=>⟨k,by omega,rfl,hT⟩,l⟩
  have hT:n_ p q k=false:=aM
  exact Q7<|Xk<|bL _ _<|Zr g<|Ze (Xs O O O0 O0)<|Zm O<|Zn fun a g=>Xb<|⟨k+1,⟨g.sb,O0,(fun j hj=>by rcases W4 j k with h9|h9;exact U j h9;obtain rfl:j=k:=O0;exact hT),n,o,l⟩,O0⟩
 refine Q9<|Xf<|Xf<|Xv<|bH _ _<|ZS g fun bS=>Za O<|Za O<|Za O<|Zt bS fun a g=>Q6 (X4 g (yo g O O O O) ?_)
 exact ⟨_,by rw[hy,Qw,qk,xH (fun j hj=>U j O0)],fun h9=>(by rw[hy,Qw,qk,xH (fun j hj=>U j O0)] at h9;cases h9),l⟩
end Go.Proofs.YtkhbopcihjobdaaGreatDoor
namespace Go.Proofs.YtkhbopcihjobdaaGreatDoor
open Go.Proofs.Tryz
section
variable {G K : Type} [DecidableEq K]
def nf(gs:List G) : Nat->List (List G)
 | 0=>[[]]
 | k+1=>(nf gs k).flatMap fun u=>gs.map fun g=>u++[g]
def uu(gs:List G)(P:List G->Bool) : Nat->List G->Option (List G)
 | 0,p=>if P p then some p else none
 | k+1,p=>gs.findSome? fun g=>uu gs P k (p++[g])
theorem PX{α β γ:Type}(f:β->Option γ)(h:α->List β)(l:List α) :
  (l.flatMap h).findSome? f=l.findSome? fun a=>(h a).findSome? f:=by
 induction l with
 | nil=>rfl
 | cons a l ih=>simp only[Wc,List.findSome?_append,List.findSome?_cons,ih];cases (h a).findSome? f<;>rfl
theorem TT(gs:List G)(k:Nat):∀ (F:List G->Option (List G)) (j:Nat),
  (nf gs (j+k)).findSome? F=(nf gs j).findSome? fun u=>Nat.rec (motive:=fun _=>List G->Option (List G)) F (fun _ r p=>gs.findSome? fun g=>r (p++[g])) k u:=by
 induction k with
 | zero=>intro F j;rfl
 | succ k ih=>
  intro F j;show (nf gs (j+k+1)).findSome? F=_;rw[nf,PX];have:=ih (fun u=>(gs.map fun g=>u++[g]).findSome? F) j;rw[this];congr 1;funext u;clear this ih
  induction k generalizing u with
  | zero=>simp only[List.findSome?_map,Function.comp_def];rfl
  | succ k ih=>simp only[];congr 1;funext g;exact ih (u++[g])
theorem LC(gs:List G)(P:List G->Bool)(k:Nat)(p:List G) :
  uu gs P k p=Nat.rec (motive:=fun _=>List G->Option (List G)) (fun q=>if P q then some q else none) (fun _ r p=>gs.findSome? fun g=>r (p++[g])) k p:=by
 induction k generalizing p with
 | zero=>rfl
 | succ k ih=>simp only[uu];congr 1;funext g;exact ih _
theorem To{α:Type}(P:α->Bool)(l:List α):l.findSome? (fun q=>if P q then some q else none)=l.find? P:=by
 induction l with
 | nil=>rfl
 | cons a l ih=>simp only[List.findSome?_cons,List.find?_cons];cases P a<;>simp[ih]
theorem OL(gs:List G)(P:List G->Bool)(k:Nat):uu gs P k []=(nf gs k).find? P:=by
 have h:=TT gs k (fun q=>if P q then some q else none) 0;rw[Nat.zero_add] at h;rw[<- To,h,LC];simp[nf]
def u4(gs:List G)(P:List G->Bool) : Nat->Option (List G)
 | 0=>(nf gs 0).find? P
 | k+1=>(u4 gs P k).or ((nf gs (k+1)).find? P)
theorem D3(gs:List G)(k:Nat):∀ w,w ∈ nf gs k->w.length=k:=by
 induction k with
 | zero=>intro w h;simp[nf] at h;simp[h]
 | succ k ih=>
  intro w h;simp only[nf,List.mem_flatMap,W6] at h;obtain ⟨u,hu,g,hg,rfl⟩:=h;simp[ih u hu]
end
def xl(x y:Rg) : Bool:=if x.a≠y.a then decide (x.a<y.a) else if x.b≠y.b then decide (x.b<y.b) else if x.c≠y.c then decide (x.c<y.c) else decide (x.d<y.d)
def sO(x:Rg) : Nat->Nat
 | 0=>0
 | n+1=>if xl (gz (sO x n) x) (gz (n+1) x)=true then n+1 else sO x n
def xz(x:Rg) : Nat:=sO x 7
def IW{x:Dy}(h:dt x=true)(k:Int):dt (f' k x)=true:=by
 have hz:=pH.1 h;have ⟨h1,h2⟩:=yv hz.1 k;exact pH.2 ⟨h1,hz.2.1,by rcases hz.2.2 with h|h;exact .inl h;exact .inr (h2.trans h)⟩
def wS(l:List Dy) : Option Nat:=(l.find? fun x=>decide (x≠dZ)).map fun x=>xz x.num
def so(l:List Dy) : Option (List Dy):=(wS l).map fun (k:Nat)=>l.map (f' (k:Int))
def ff:Nat->List Gt
 | 0=>[⟨7,0,0⟩]
 | 1=>[⟨7,0,0⟩,⟨1,0,0⟩]
 | _=>[⟨7,0,0⟩,⟨1,0,0⟩,⟨5,0,0⟩]
def Hh:∀ (a b:List Gt) (X:M2),jz (a++b) X=jz b (jz a X)
 | [],_,_=>rfl
 | _::a,b,X=>Hh a b _
def Bw(a b:List Gt):hs (a++b)=hs a+hs b:=by
 induction a with
 | nil=>show hs b=0+hs b;omega
 | cons g a ih=>show hN g+hs (a++b)=hN g+hs a+hs b;omega
def IA(s:Nat)(X:M2):jz (ff s) X=gY s*X:=by
 rcases s with _|_|s
 ·rfl
 ·show gH*(gT*X)=gH*gT*X;rw[pI]
 ·show gS*(gH*(gT*X))=gS*(gH*gT)*X;rw[pI,pI]
def xG(s:Nat):hs (ff s)=hY s:=by rcases s with _|_|s<;>rfl
def AW(s:Nat):∀ g ∈ ff s,g ∈ G4:=by
 rcases s with _|_|s
 ·exact (by decide:∀ g ∈ ff 0,g ∈ G4)
 ·exact (by decide:∀ g ∈ ff 1,g ∈ G4)
 ·exact (by decide:∀ g ∈ ff 2,g ∈ G4)
def vh(s:Nat):(ff s).length<=3:=by
 rcases s with _|_|s
 ·exact (by decide:(ff 0).length<=3)
 ·exact (by decide:(ff 1).length<=3)
 ·exact (by decide:(ff 2).length<=3)
def CA(s:Nat):hY s<=1:=by
 rcases s with _|_|s
 ·exact Qf _
 ·exact Qb _
 ·exact Qb _
def Up:((List.range 3).all fun s=>(mi (jh s)).length==9&&(mi (jh s)).all dt&&decide (mi (mi (jh s))=jh s))=true:=by kernel_rfl
def xn{s:Nat}(hs3:s<3):ak (gy (ff s))=some (mi (jh s))/\mi (mi (jh s))=jh s:=by
 have h1:=W1.1 Up s (W2.2 hs3);simp only[Qd,beq_iff_eq,W1,Qr] at h1;have ⟨⟨h2,h3⟩,h4⟩:=h1;refine ⟨?_,h4⟩;have hh:=CA s;have ⟨M,a,b,d⟩:=vz (AW s) (Q0 (vh s) O2) (by rw[xG];omega);rw[wo a];have hb:=xI hs3;have hv:BV (mi (jh s)) 1 (fun i j=>bT s j i):=⟨h2,h3,fun i j hi hj=>by
  have e:(au (mi (jh s))).at i j=(au (jh s)).at j i:=Gw (R:=3) hi hj;rw[e];exact hb.v j i hj hi⟩
 rw[xG,IA,uJ] at b d;refine zj b d O0 hv fun i j hi hj=>?_;rcases oh hs3 with rfl|rfl|rfl<;>rcases oh hi with rfl|rfl|rfl<;>rcases oh hj with rfl|rfl|rfl<;>decide
def F9(s:Nat)(c:Rg)(Z:Nat->Nat->Rg)(i j:Nat):tT (pm s fun i j=>c*Z i j) i j=c*tT (pm s Z) i j:=by
 rcases s with _|_|s<;>rcases i with _|_|i<;>simp only[tT,pm,lj,kd]<;>first|rfl|exact Xo _ _ _
def Oj{s:Nat}(hs3:s<3){l r:List Dy}{k f:Nat}{Z:Nat->Nat->Rg}{Y:M2}(hl:BV l k Z)(h:fm (jh s) l=some r)(hr:BV r (2*f+2) (tV Y)):BV l (2*(f+hY s)+2) (tV (gY s*Y)):=by
 have hv:=vY hs3 h hl;have e1:∀ i j,i<3->j<3->tT (pm s fun i j=>s2^(2*(f+hY s)+2)*Z i j) i j=tT (pm s fun i j=>s2^k*tV (gY s*Y) i j) i j:=fun i j hi hj=>by
  have hc:=(hv.v i j hi hj).cross (hr.v i j hi hj);rw[F9,F9,Tu];rw[show 2*(f+hY s)+2=2*f+2+hY s+hY s by omega,oq,oq];have e2:s2^(k+1)=s2^k*s2:=rfl;rw[e2] at hc;rw[show s2^(2*f+2)*s2^hY s*s2^hY s*tT (pm s Z) i j=s2^hY s*(s2^hY s*(s2^(2*f+2)*tT (pm s Z) i j)) by simp only[ja],hc];simp only[ja]
 refine ⟨hl.len,hl.ok,fun i j hi hj=>?_⟩;have e2:=KG (fun i hi=>Pt (fun i hi=>e1 i j hi hj) i hi) i hi;exact F_ (hl.at_ok i j) (hl.v i j hi hj) e2
def rj(ss:List Nat) : List Gt:=ss.reverse.flatMap ff
def ii(k:Nat)(ss:List Nat) : List Gt:=jn (cw k)++rj ss
def CI(s:Nat)(ss:List Nat):rj (s::ss)=rj ss++ff s:=by simp[rj]
def pB(l:List Dy) : List Nat:=(po l (az l).toNat).1
def nh(l:List Dy) : List Dy:=(po l (az l).toNat).2
def nu(l:List Dy) : Nat:=(List.range 24).findIdx fun k=>decide (ck k=l)
def NE:((List.range 24).all fun k=>nu (ck k)==k)=true:=by kernel_rfl
def BY{k:Nat}(hk:k<24):nu (ck k)=k:=by
 have:=W1.1 NE k (W2.2 hk);exact beq_iff_eq.1 this
def DL(l:List Dy) : List Gt:=ii (nu (nh l)) (pB l)
def od(l:List Dy) : Mx:=gy (DL l)
def tk(m:Mx)(l:List Dy) : Nat:=((List.range 8).find? fun (k:Nat)=>dh m (od l) (k:Int)).getD 0
def xJ{l:List Dy}(h:Gd l)(hb:az l<=40):nu (nh l)<24/\nh l=ck (nu (nh l)):=by
 have hn:=qO l;have ⟨h1,h2,_,_⟩:=uy h hb (az l).toNat O0;have ⟨k,hk,e⟩:=LZ h1 O0;have e':nh l=ck k:=e;rw[e',BY hk];exact ⟨hk,O⟩
def V'(k:Nat)(ss:List Nat):∀ g ∈ ii k ss,g ∈ G4:=fun g hg=>by
 rcases Qu.1 hg with hg|hg
 ·exact ym _ g hg
 ·have ⟨s,_,hg⟩:=List.mem_flatMap.1 hg;exact AW s g hg
def D8:∀ ss:List Nat,hs (rj ss)<=ss.length/\(rj ss).length<=3*ss.length
 | []=>⟨Qb _,Qb _⟩
 | s::ss=>by
  have ⟨h1,h2⟩:=D8 ss;have h3:=vh s;have h4:=CA s;rw[CI,Bw,xG];constructor
  ·simp;omega
  ·simp;omega
def Bd{k:Nat}(hk:k<24){ss:List Nat}(hl:ss.length<=40):eu ⟨1,ii k ss⟩=some (gy (ii k ss))/\VM (gy (ii k ss)) (hs (ii k ss)) (jz (ii k ss) i2)/\m_ (hs (ii k ss)) (jz (ii k ss) i2):=by
 have h1:=sV hk;have h2:=D8 ss;have ⟨M,a,b,d⟩:=vz (V' k ss) (by simp[ii,jn];omega) (by rw[ii,Bw];omega);rw[wo a];exact ⟨a,b,d⟩
def NX{l:List Dy}(h:Gd l)(hb:az l<=40):∀ n:Nat,n<=(az l).toNat->∃ ss,(po l ((az l).toNat-n)).1++ss=pB l/\BV (po l ((az l).toNat-n)).2 (2*hs (ii (nu (nh l)) ss)+2) (tV (jz (ii (nu (nh l)) ss) i2)):=by
 intro n;have hn0:=qO l;have ⟨c1,c2⟩:=xJ h hb
 induction n with
 | zero=>
  intro _;refine ⟨[],List.append_nil _,?_⟩;have e:ii (nu (nh l)) []=jn (cw (nu (nh l))):=List.append_nil _;rw[e,Nat.sub_zero,show (po l (az l).toNat).2=nh l from rfl];have hv:=sN c1;rw[<- c2] at hv;refine ⟨hv.len,hv.ok,fun i j hi hj=>F_ (hv.at_ok i j) (hv.v i j hi hj) ?_⟩;rw[pP,Xj];exact (yP _ c1 i j hi hj).symm
 | succ n ih=>
  intro hn;have ⟨ss,e1,e2⟩:=ih O0;have ⟨p,hp⟩:=yk h hb (n:=(az l).toNat-(n+1)) O0;have ⟨g1,_,_,_⟩:=uy h hb ((az l).toNat-(n+1)) O0;obtain ⟨s1,s2',_⟩:=yj (show jr _=some (p.1,p.2) from hp);have es:(az l).toNat-n=(az l).toNat-(n+1)+1:=by omega
  rw[es,t5 hp] at e1 e2;have ⟨Z,z1,_⟩:=g1;refine ⟨p.1::ss,by rw[<- e1,Qx];rfl,?_⟩;have e3:ii (nu (nh l)) (p.1::ss)=ii (nu (nh l)) ss++ff p.1:=by rw[ii,ii,CI,Qx]
  rw[e3,Hh,IA,Bw,xG];exact Oj s1 z1 s2' e2
def xh{l:List Dy}(h:Gd l)(hb:az l<=40):(pB l).length=(az l).toNat/\∀ s ∈ pB l,s<3:=by
 have hn:=qO l;have ⟨_,_,h3,h4⟩:=uy h hb (az l).toNat O0;exact ⟨h3,h4⟩
def QN{y:Rg}:∀ j:Nat,0<j->j<8->om^j*y=y->y=0:=fun j h0 h8 h=>by
 have e:∀ (k:Nat) (z:Rg),om^(k+1)*z=om^k*(om*z):=fun k z=>by rw[rR,Xd]
 have hj:j=1∨j=2∨j=3∨j=4∨j=5∨j=6∨j=7:=by omega
 rcases hj with rfl|rfl|rfl|rfl|rfl|rfl|rfl<;>simp only[e,pP,Xj,B6,show om^1=om^(0+1) from rfl,show om^2=om^(1+1) from rfl,show om^3=om^(2+1) from rfl,show om^4=om^(3+1) from rfl,show om^5=om^(4+1) from rfl,show om^6=om^(5+1) from rfl,show om^7=om^(6+1) from rfl] at h <;>
  (have h1:=congrArg Rg.a h;have h2:=congrArg Rg.b h;have h3:=congrArg Rg.c h;have h4:=congrArg Rg.d h;simp only at h1 h2 h3 h4;apply ke<;>simp only[yf,Ay,DM,DE]<;>omega)
def DW{W:Mx}(hl:W.cells.length=4)(hc:W.cols=2)(k:Int){i j:Nat}(hi:i<2)(hj:j<2):(⟨2,2,W.cells.map (f' k)⟩ : Mx).at i j=f' k (W.at i j):=by
 show (W.cells.map (f' k)).getD (i*2+j) dZ=f' k (W.cells.getD (i*W.cols.toNat+j) dZ);rw[hc,Qa,Qa,List.getElem?_map,show (2:Int).toNat=2 from O,Qc O0];rfl
structure uF (m:Mx) (l:List Dy) : Prop where
 gd:Gd l
 op:eu ⟨1,DL l⟩=some (od l)
 vm:di (od l)=true/\(od l).rows=2/\(od l).cols=2
 one:di m=true/\m.rows=2/\m.cols=2
 ph:∃ k:Nat,k<8/\dh m (od l) (k:Int)=true
 uq:∀ k k':Nat,k<8->k'<8->dh m (od l) (k:Int)=true->dh m (od l) (k':Int)=true->k=k'
def Ci{m:Mx}{l:List Dy}(h:ak m=some l)(hb:az l<=40):uF m l:=by
 have h1:li m=true:=by unfold ak at h;split at h;assumption;cases h
 have ⟨_,ok,hr,hc⟩:=vE h1;have ⟨X,hX⟩:=So ok hr hc;have ⟨uX,vX⟩:=H1 h hX;have hgd:Gd l:=IV vX (by
  have e:=VN (uX.back (BE 60))
  rwa [show (2:Rg)*(s2^60*s2^60)=s2^(2*60+2) from by rw[<- oq,<- z5,<- oq]] at e)
 have ⟨c1,c2⟩:=xJ hgd hb;have ⟨n1,n2⟩:=xh hgd hb;have hn:=qO l;have ⟨o1,o2,o3⟩:=Bd c1 (ss:=pB l) O0;have ⟨ss,e1,e2⟩:=NX hgd hb (az l).toNat (Qb _);rw[Nat.sub_self] at e1 e2;have e3:ss=pB l:=e1;subst e3;have ⟨Y,hYe⟩ : ∃ Y,Y=jz (ii (nu (nh l)) (pB l)) i2:=⟨_,O⟩;have ⟨f,hfe⟩ : ∃ f,f=hs (ii (nu (nh l)) (pB l)):=⟨_,O⟩;rw[<- hYe,<- hfe] at o2 o3 e2;have e2:BV l (2*f+2) (tV Y):=e2;have o2:VM (od l) f Y:=o2;have lW:=(rs o2.ok).2.2;rw[o2.r,o2.c] at lW;have hW4:(od l).cells.length=4:=lW;have hph:∃ k:Nat,k<8/\dh m (od l) (k:Int)=true:=by
  have ⟨k,hk,ek⟩:=O' uX o3 fun i j hi hj=>by
   have:=(vX.v i j hi hj).cross (e2.v i j hi hj);rw[oq,oq,z5] at this;have h9:∀ (a:Nat) (z:Rg),s2^(2*a)*2*z=2*(s2^a*s2^a*z):=fun a z=>by rw[show 2*a=a+a by omega,oq];simp only[ja]
   rw[h9,h9] at this;exact v5 this
  refine ⟨k,hk,?_⟩;have hok:di (⟨2,2,(od l).cells.map (f' k)⟩ : Mx)=true:=we (show dm 2=true by decide) (show dm 2=true by decide) (by simp[hW4]) fun x hx=>by
   obtain ⟨y,hy,rfl⟩:=W6.1 hx;exact IW (oc o2.ok y hy) _
  have hcell:m.cells=(od l).cells.map (f' k):=ED ok hok hr hc O O fun i j hi hj=>by
   rw[DW hW4 o2.c _ hi hj];have oW:=Mx.at_ok (oc o2.ok) i j;refine Ee (Mx.at_ok (oc ok) i j) (IW oW _) (hX.v i j hi hj) (DZ oW (o2.v i j hi hj) hk) ?_;have ha:=congrArg M2.a ek;have hb':=congrArg M2.b ek;have hc':=congrArg M2.c ek;have hd:=congrArg M2.d ek;rcases rZ hi with rfl|rfl<;>rcases rZ hj with rfl|rfl
   ·exact ha
   ·exact hb'
   ·exact hc'
   ·exact hd
  unfold dh;simp only[Qd,Qr];exact ⟨⟨by rw[hr,o2.r],by rw[hc,o2.c]⟩,hcell⟩
 refine ⟨hgd,o1,⟨o2.ok,o2.r,o2.c⟩,⟨ok,hr,hc⟩,hph,fun k k' hk hk' t1 t2=>?_⟩;unfold dh at t1 t2;simp only[Qd,Qr] at t1 t2;have te:=t1.2.symm.trans t2.2;have hz:∀ i j,i<2->j<2->om^k*Y.at i j=om^k'*Y.at i j:=fun i j hi hj=>by
  have oW:=Mx.at_ok (oc o2.ok) i j;have a1:=DZ oW (o2.v i j hi hj) hk;have a2:=DZ oW (o2.v i j hi hj) hk';have e9:f' (k:Int) ((od l).at i j)=f' (k':Int) ((od l).at i j):=by rw[<- DW hW4 o2.c _ hi hj,<- DW hW4 o2.c _ hi hj,te]
  rw[e9] at a1;exact a1.fun a2
 have hne:∀ p q:Nat,p<q->q<8->(∀ i j,i<2->j<2->om^p*Y.at i j=om^q*Y.at i j)->False:=fun p q hpq hq hh=>by
  have h0:∀ i j,i<2->j<2->Y.at i j=0:=fun i j hi hj=>by
   have:=hh i j hi hj;rw[show q=p+(q-p) by omega,oq,Xd] at this;exact QN (q-p) O0 O0 (LP p this).symm
  have hb1:=o3.bd.1;rw[show Y.a=0 from h0 0 0 O2 O2,show Y.b=0 from h0 0 1 O2 O2] at hb1;have:(1:Int)<=2^f:=x8 f;rw[<- hb1] at this;revert this;decide
 rcases Nat.lt_trichotomy k k' with h9|h9|h9
 ·exact (hne k k' h9 hk' hz).elim
 ·exact h9
 ·exact (hne k' k h9 hk fun i j hi hj=>(hz i j hi hj).symm).elim
def Iz{m:Mx}{l:List Dy}(h:uF m l){k:Nat}(hk:k<8)(ht:dh m (od l) (k:Int)=true):tk m l=k:=by
 unfold tk;cases e:(List.range 8).find? fun (k:Nat)=>dh m (od l) (k:Int) with
 | none=>
  rw[List.find?_eq_none] at e;exact absurd ht (e k (W2.2 hk))
 | some q=>
  have h1:=List.find?_some e;have h2:=List.mem_of_find?_eq_some e;exact h.uq q k (W2.1 h2) hk h1 ht
def P6{z:Rg}(h:(2:Rg)*z=0):z=0:=by
 rw[<- z5] at h;refine tX 2 (h.trans ?_);decide
def J1:∀ (l:List Gt) (v:St),(∀ g ∈ l,sJ g/\1<=g.k/\g.k<=11)->(∀ β,run l v β=0)->∀ β,v β=0
 | [],v,_,h=>h
 | g::l,v,hg,h=>by
  have h1:=J1 l (oM g v) (fun x hx=>hg x (Ql _ hx)) h;intro β;have ⟨g1,g2⟩:=hg g (Qk ..);have h2:=QO g1 g2 v β;have e:oM g v=fun _=>0:=funext h1;rw[e] at h2;have h3:oM (vC g) (fun _=>0) β=0:=congrFun (EG [vC g]) β;rw[h3] at h2;split at h2
  ·exact P6 h2.symm
  ·rw[Xj] at h2;exact h2.symm
def ND{l:List Dy}(h:so l=none):∀ x ∈ l,x=dZ:=by
 unfold so wS at h;cases e:l.find? fun x=>decide (x≠dZ) with
 | some x=>rw[e] at h;cases h
 | none=>
  intro x hx;have:=List.find?_eq_none.1 e x hx;simpa using this
def GX{c:Cx}{N:Nat}{M:Mx}(hn:c.n=N)(h:eu c=some M)(hg:∀ g ∈ c.gs,g.k<=11):so M.cells≠none:=by
 intro e;have hc:=n' (c:=c) (by unfold eu at h;split at h;assumption;cases h);have hz:=ND e;have hat:∀ i j,M.at i j=dZ:=by
  intro i j;unfold Mx.at
  rw[Qa];cases e2:M.cells[i*M.cols.toNat+j]? with
  | none=>rfl
  | some x=>exact hz x (Qe e2)
 have ⟨h1,_,_,_⟩:=C3 hn h;have hN:N<=5:=by have:=hc.1;omega
 have hr:∀ β,run c.gs (fun _=>1) β=0:=by
  intro β;have ⟨i,hi,_,h2⟩:=q0 hN (fun _=>1) β;rw[h2 c.gs fun g hg'=>Mf (by rw[<- hn];exact hc.2.2 g hg')];apply Eb;intro j hj;have h3:=h1 i j hi hj;rw[hat] at h3;rw[h3.fun (sg _)];exact Xq _
 have h4:=J1 c.gs _ (fun g hg'=>by
  have:=G3 (hc.2.2 g hg');exact ⟨this.1,this.2.1,hg g hg'⟩) hr (fun _=>false)
 exact absurd h4 O2
def ks(n:Nat) : List Gt:=if n=2 then [⟨1,0,0⟩,⟨1,1,0⟩,⟨5,0,0⟩,⟨5,1,0⟩,⟨7,0,0⟩,⟨7,1,0⟩,⟨9,0,1⟩,⟨9,1,0⟩] else [⟨1,0,0⟩,⟨5,0,0⟩,⟨7,0,0⟩]
def wh{n:Nat}(hn:n=1∨n=2):∀ g ∈ ks n,gp n g=true/\g.k<=11:=by
 rcases hn with rfl|rfl<;>decide
def Dm{G:Type}(gs:List G)(k:Nat):∀ w,w ∈ nf gs k->∀ g ∈ w,g ∈ gs:=by
 induction k with
 | zero=>intro w h;simp[nf] at h;simp[h]
 | succ k ih=>
  intro w h;simp only[nf,List.mem_flatMap,W6] at h;obtain ⟨u,hu,g,hg,rfl⟩:=h;intro x hx;rcases Qu.1 hx with hx|hx
  ·exact ih u hu x hx
  ·cases Qm.1 hx;exact hg
def ie(n:Nat)(w:List Gt) : Mx:=(eu ⟨n,w⟩).getD mZ
def yQ{n:Nat}(hn:n=1∨n=2){k:Nat}(hk:k<=8){w:List Gt}(hw:w ∈ nf (ks n) k):eu ⟨n,w⟩=some (ie n w):=by
 have hl:=D3 _ _ _ hw;have hm:=Dm _ _ _ hw;have hc:gf ⟨n,w⟩=true:=by
  simp only[gf,Qd,iw,Qr,Bool.not_eq_true',W7];refine ⟨⟨by omega,by omega⟩,fun g hg=>?_⟩;have:=(wh hn g (hm g hg)).1;simp[this]
 have ⟨M,hM⟩:=F7 hc (by have:=yS w;simp only;omega);unfold ie;rw[hM];rfl
def JD(n:Int)(g:Gt):∀ (l:List Gt) (m:Mx),gk n (l++[g]) m=(gk n l m).bind fun x=>bg ((br n g).getD mZ) x
 | [],m=>by simp[gk]
 | h::l,m=>by
  rw[Wa];unfold gk;cases bg ((br n h).getD mZ) m with
  | none=>rfl
  | some x=>exact JD n g l x
def C6{G:Type}{gs:List G}{k:Nat}{w:List G}{g:G}(hw:w ∈ nf gs k)(hg:g ∈ gs):w++[g] ∈ nf gs (k+1):=by grind [nf]
def A_(n:Nat)(hn:n=1∨n=2):ie n []=ao (2^n):=by
 have h:=yQ hn (k:=0) O0 (w:=[]) (by simp[nf]);unfold eu at h;rw[Q4 (by rcases hn with rfl|rfl<;>decide)] at h;have hi:=(s_ (d:=2^n) (tj (n:=(n:Int)) O0)).1;rw[show ((2^(n:Int).toNat:Nat) : Int)=((2^n:Nat) : Int) from O,hi] at h;injection h with h;exact h.symm
def MT{n:Nat}(hn:n=1∨n=2){k:Nat}(hk:k<8){w:List Gt}(hw:w ∈ nf (ks n) k){g:Gt}(hg:g ∈ ks n):bg (bc n g) (ie n w)=some (ie n (w++[g])):=by
 have h1:=yQ hn O0 hw;have h2:=yQ hn O0 (C6 hw hg);have c1:gf ⟨n,w⟩=true:=by unfold eu at h1;split at h1;assumption;cases h1
 have c2:gf ⟨n,w++[g]⟩=true:=by unfold eu at h2;split at h2;assumption;cases h2
 unfold eu at h1 h2;rw[Q4 c1] at h1;rw[Q4 c2] at h2;have ⟨m,hm,h1⟩:=Option.bind_eq_some_iff.1 h1;rw[hm,Qz,JD,h1,Qz,(r_ (wh hn g hg).1).1] at h2;exact h2
def DF{n:Nat}(hn:n=1∨n=2){k:Nat}(hk:k<=8){w:List Gt}(hw:w ∈ nf (ks n) k):di (ie n w)=true/\(ie n w).rows=((2^n:Nat) : Int)/\(ie n w).cols=((2^n:Nat) : Int)/\so (ie n w).cells≠none:=by
 have h1:=yQ hn hk hw;have ⟨_,h2,h3,h4⟩:=C3 (N:=n) O h1;exact ⟨h2,h3,h4,GX (N:=n) O h1 fun g hg=>(wh hn g (Dm _ _ _ hw g hg)).2⟩
def ft(n:Nat)(M:Mx) : Nat->Mx->Option (List Gt)
 | 0,x=>if gi x M=true then some [] else none
 | k+1,x=>(ks n).findSome? fun g=>(ft n M k (ar false (bc n g) x).2).map (g :: ·)
def Ha{n:Nat}(hn:n=1∨n=2){k:Nat}(hk:k<8){w:List Gt}(hw:w ∈ nf (ks n) k){g:Gt}(hg:g ∈ ks n):ar false (bc n g) (ie n w)=(false,ie n (w++[g])):=by
 have ⟨h1,h2,h3,_⟩:=DF hn (Nat.le_of_lt hk) hw;have h4:=MT hn hk hw hg;exact ((r9 (r_ (wh hn g hg).1).2 h1 (by rw[h2];rfl)).1 _ h4).1
def HN{n:Nat}(hn:n=1∨n=2)(M:Mx):∀ (k j:Nat) (w:List Gt),j+k<=8->w ∈ nf (ks n) j->uu (ks n) (fun w=>gi (ie n w) M) k w=(ft n M k (ie n w)).map (w ++ ·)
 | 0,j,w,_,hw=>by
  unfold uu ft;split<;>simp
 | k+1,j,w,hk,hw=>by
  unfold uu ft;have:∀ l:List Gt,(∀ g ∈ l,g ∈ ks n)->l.findSome? (fun g=>uu (ks n) (fun w=>gi (ie n w) M) k (w++[g]))=(l.findSome? fun g=>(ft n M k (ar false (bc n g) (ie n w)).2).map (g :: ·)).map (w ++ ·):=by
   intro l
   induction l with
   | nil=>intro _;rfl
   | cons g l ih=>
    intro hl;have hg:=hl g (Qk ..);rw[List.findSome?_cons,List.findSome?_cons,ih fun x hx=>hl x (Ql _ hx),HN hn M k (j+1) (w++[g]) O0 (C6 hw hg),Ha hn O0 hw hg];cases ft n M k (ie n (w++[g])) with
    | none=>rfl
    | some x=>simp
  exact this _ fun _ h=>h
def By{n:Nat}(hn:n=1∨n=2)(M:Mx){k:Nat}(hk:k<=8):ft n M k (ao (2^n))=(nf (ks n) k).find? fun w=>gi (ie n w) M:=by
 have h:=HN hn M k 0 [] O0 (by simp[nf]);rw[A_ n hn] at h;rw[<- OL,h];cases ft n M k (ao (2^n))<;>simp
end Go.Proofs.YtkhbopcihjobdaaGreatDoor
namespace Go.Proofs.YtkhbopcihjobdaaGreatDoor
open Go.Proofs.Tryz
open Go
end Go.Proofs.YtkhbopcihjobdaaGreatDoor
namespace Go.Proofs.YtkhbopcihjobdaaGreatDoor
open Go.Proofs.Tryz
open Go.RowKit Go.Proofs.Tryz
section
end
section
end
def FS{n:Nat}(hn:n=1∨n=2){M:Mx}(hM:di M=true)(hr:M.rows=((2^n:Nat) : Int))(hc:M.cols=((2^n:Nat) : Int)):M.cells.length=2^n*2^n:=by
 unfold di at hM;simp only[Qd,beq_iff_eq] at hM;have:=hM.1.2;rw[hr,hc] at this;rcases hn with rfl|rfl
 ·rw[show wr (((2^1:Nat) : Int)*((2^1:Nat) : Int))=4 from by decide] at this;omega
 ·rw[show wr (((2^2:Nat) : Int)*((2^2:Nat) : Int))=16 from by decide] at this;omega
def Fl{n:Nat}(hn:n=1∨n=2){k:Nat}(hk:k<=8){w:List Gt}(hw:w ∈ nf (ks n) k):(ie n w).cells.length=2^n*2^n:=by
 have ⟨h1,h2,h3,_⟩:=DF hn hk hw;exact FS hn h1 h2 h3
structure Tw where (A:Option Addr) (c:Nat) (w:List Gt) (m:Mx) (B:Option Addr) (d:Nat)
structure Sq where (A:Option Addr) (c:Nat) (w:List Gt)
abbrev Sq.v(s:Sq) : Value:=.slice s.A s.w.length s.c
section
variable {w w' : World} {B : Nat} {E F : TypeId} {l : List Tw} {f : ByteArray -> Option Sq}
end
end Go.Proofs.YtkhbopcihjobdaaGreatDoor
namespace Go.Proofs.YtkhbopcihjobdaaGreatDoor
open Go.Proofs.Tryz
def CU{G:Type}{gs:List G}{P:List G->Bool}{w:List G}:∀ {k},u4 gs P k=some w->∃ j,j<=k/\w ∈ nf gs j/\P w=true
 | 0,h=>⟨0,Qb _,List.mem_of_find?_eq_some h,List.find?_some h⟩
 | k+1,h=>by
  unfold u4 at h;cases e:u4 gs P k with
  | some x=>
   rw[e] at h;obtain rfl:x=w:=by simpa using h
   have ⟨j,hj,h1⟩:=CU e;exact ⟨j,by omega,h1⟩
  | none=>
   rw[e,Option.none_or] at h;exact ⟨k+1,Qb _,List.mem_of_find?_eq_some h,List.find?_some h⟩
def uW(n:Nat)(M:Mx) : Nat->Option (List Gt)
 | 0=>ft n M 0 (ao (2^n))
 | k+1=>(uW n M k).or (ft n M (k+1) (ao (2^n)))
def Fn{n:Nat}(hn:n=1∨n=2)(M:Mx):∀ k,k<=8->uW n M k=u4 (ks n) (fun w=>gi (ie n w) M) k
 | 0,h=>By hn M h
 | k+1,h=>by unfold uW u4;rw[Fn hn M k O0,By hn M h]
def pr(n:Int) : Bool:=[1,2,4,8,16,32].any fun y=>y==n
def yZ(n:Int):pr n=dm n:=by
 by_cases h:1<=n/\n<=32
 ·obtain ⟨k,rfl⟩:=Int.eq_ofNat_of_zero_le (by omega:0<=n);have hk:k<33:=by omega
  have:∀ j:Nat,j<33->pr (j:Int)=dm (j:Int):=by decide
  exact this k hk
 ·have h1:dm n=false:=by
   unfold dm bq;have:(decide (1<=n)&&decide (n<=32))=false:=by simp;omega
   rw[this];rfl
  rw[h1];simp[pr];omega
end Go.Proofs.YtkhbopcihjobdaaGreatDoor
namespace Go.Proofs.YtkhbopcihjobdaaGreatDoor
open Go.Proofs.Tryz
open Go.RowKit Go.Sort Go.Proofs.Tryz
section
end
end Go.Proofs.YtkhbopcihjobdaaGreatDoor
namespace Go.Proofs.YtkhbopcihjobdaaGreatDoor
open Go.Proofs.Tryz
open Go.RowKit Go.Proofs.Tryz
theorem PS(w0:World)(x:Dy):RE 208 [.agg #[vi x.num.a,vi x.num.b,vi x.num.c,vi x.num.d,vi x.exp]] w0 (fun v w=>v=.bool (dt x)/\Bl w0 w):=by
 refine enter func208 O 22 O O ?_;intro a j
 have m:=bz w0
 refine ZS j fun aA=>Zf (bt (zs:=[vi x.num.a,vi x.num.b,vi x.num.c,vi x.num.d,vi x.exp]) O O) ?_;rintro _ w1 ⟨b2,rfl,aB,n,k⟩;have aD:=Q0 m.size aB;have m:=aa m n;refine Za O<|ZX aA fun a j _ aC=>eo (fun a w=>Fr a 22 [(2,.bool (((fu x.num)&&(bq x.exp 0 60))&&((x.exp==0)||(!(ei x.num)))))]/\Bl w1 w) ?_ ?_
 ·have i:Bl w1 w1:=Below.refl _ _
  refine Zr j<|Ze (Vd O pG 0)<|Ze (Xt (l:=[vi x.num.a,vi x.num.b,vi x.num.c,vi x.num.d]) O g9 ((k.at 0).take 4) O)<|Zf (Vc (IT _ x.num) Gk) ?_;rintro _ w2 ⟨rfl,n⟩;have ⟨k,m,i⟩:=bh n k m i;refine Zm O<|Zg 6 O ?_ ?_<;>intro f
  ·refine Zv (gW f) (Vd O oJ 4) ?_;refine Zv (gW f) (X0 O X8 (k.at 4)) ?_;refine Zk (gW f) (Vc (ru _ x.exp 0 60) rq) ?_;rintro _ _ ⟨rfl,rfl⟩;refine Ze (Xh O f O)<|Zm O ?_
   refine Zg 11 O ?_ ?_<;>intro e
   ·refine Zv (gW e) (Vd O oJ 4) ?_;refine Zv (gW e) (X0 O X8 (k.at 4)) ?_;refine Zv (gW e) (go O O) ?_;refine Zv (gW e) (X7 O) ?_
    refine Zg 15 O ?_ ?_<;>intro g
    ·(iterate 4 refine Zp (gP g) ?_);refine Zv (gW e) (Xh O g O) ?_;refine Ze (Xh O e O)<|Za O ?_;exact Zn fun a j=>⟨j.sub ⟨X1 O (by first|rfl|(simp only[f,e,g,bs];done)|simp[f,e,g]),trivial⟩,i⟩
    refine Zv (gW g) (Vd O pG 0) ?_;refine Zv (gW g) (Xt (l:=[vi x.num.a,vi x.num.b,vi x.num.c,vi x.num.d]) O g9 ((k.at 0).take 4) O) ?_;refine Zk (gW g) (Vc (ID _ x.num) HS) ?_;rintro _ w3 ⟨rfl,n⟩;have m:=aa m n;have i:=aa i n;refine Zv (gW g) (dn O) ?_;refine Zv (gW e) (X9 O g O) ?_;refine Ze (Xh O e O)<|Za O ?_;refine Zn fun a j=>?_;exact ⟨j.sub ⟨X1 O (by first|rfl|(simp only[f,e,g,bs];done)|simp[f,e,g]),trivial⟩,i⟩
   (iterate 4 refine Zp (gP e) ?_);(iterate 4 refine Zp (gP ad) ?_);exact Zp (gP e)<|Ze (X9 O e O)<|Za O<|Zn fun a j=>⟨j.sub ⟨X1 O (by simp[f,e]),trivial⟩,i⟩
  (iterate 3 refine Zp (gP f) ?_);refine Ze (X9 O f O)<|Zm O<|Zp (gP O) ?_;(iterate 3 refine Zp (gP O) ?_);(iterate 4 refine Zp (gP ad) ?_);exact Zp (gP O)<|Ze (X9 O O O)<|Za O<|Zn fun a j=>⟨j.sub ⟨X1 O (by simp[f]),trivial⟩,i⟩
 rintro a w4 ⟨j,n⟩;have m:=aa m n;refine aC _ _<|Q6 (X4 j (Xu j O O) ?_)
 exact ⟨by simp[dt, *],m⟩
def Js(w0:World)(n:Int):RE 207 [vi n] w0 (fun v w=>v=.bool (pr n)/\Bl w0 w):=by
 refine enter func207 O 6 O O ?_;intro a hf;have hW:=bz w0;refine ZS hf fun aB=>Za O<|Zx aB fun a hf _ aC=>Zf (X6 (k:=6) (vs:=[vi 1,vi 2,vi 4,vi 8,vi 16,vi 32]) (zs:=[vi 1,vi 2,vi 4,vi 8,vi 16,vi 32]) O gq pD O O) ?_;rintro _ w1 ⟨b3,rfl,aD,hE,aA⟩;have aE:=Q0 hW.size aD;have hW:=aa hW hE;refine Zm O<|Zf (Vc (Eg _ (some ⟨b3,0,none⟩) 6 ([1,2,4,8,16,32]) (Rd.of_blk aA O _ aA.lt) n O6) Dn) ?_;rintro _ w2 ⟨rfl,hE⟩;have hW:=aa hW hE;refine Za O<|Zt aC fun a hf=>Q6 (X4 hf (Xu hf O O) ?_);exact ⟨by simp[pr],hW⟩
theorem T4(z:World)(m:Mx)(Am:Option Addr)(cm:Nat)(aD:Rw z 147 ai Am m.cells)(b4:m.cells.length<=2305843009213693951):RE 186 [.agg #[vi m.rows,vi m.cols,.slice Am m.cells.length cm]] z (fun v w=>v=.bool (di m)/\Bl z w):=by
 refine enter func186 O 37 O O ?_;intro a f
 have n:=bz z
 refine ZS f fun aT=>Zf (bt (zs:=[vi m.rows,vi m.cols,.slice Am m.cells.length cm]) O O) ?_;rintro _ w1 ⟨b3,rfl,aU,o,j⟩;have b2:=Q0 n.size aU;have n:=aa n o;refine Za O<|ZX aT fun a f _ aW=>Q5 fun _ aX=>eo (fun a w=>Fr a 37 [(1,(ae b3)),(25,.bool (((!(pr m.rows))||(!(pr m.cols)))||((m.cells.length:Int) != (wr (m.rows*m.cols)))))]/\Bl w1 w) ?_ ?_
 ·have p:Bl w1 w1:=Below.refl _ _
  refine Zr f<|Ze (Vd O oe 0)<|Ze (X0 O X8 (j.at 0))<|Zf (Vc (Js _ m.rows) IG) ?_;rintro _ w2 ⟨rfl,o⟩;have ⟨j,n,p⟩:=bh o j n p;refine Ze (dn O)<|Zm O<|Zg 9 O ?_ ?_<;>intro g
  ·(iterate 4 refine Zp (gP g) ?_);refine Ze (Xh O g O)<|Zm O<|Zp (gP O) ?_;(iterate 8 refine Zp (gP O) ?_);exact Ze (Xh O O O)<|Zn fun a f=>⟨f.sub ⟨O,X1 O (by simp[g]),trivial⟩,p⟩
  refine Zv (gW g) (Vd O ou 1) ?_;refine Zv (gW g) (X0 O X8 (j.at 1)) ?_;refine Zk (gW g) (Vc (Js _ m.cols) IG) ?_;rintro _ w3 ⟨rfl,o⟩;have ⟨j,n,p⟩:=bh o j n p;refine Zv (gW g) (dn O) ?_;refine Ze (X9 O g O)<|Zm O<|Zg 15 O ?_ ?_<;>intro e
  ·(iterate 9 refine Zp (gP e) ?_);exact Ze (Xh O e O)<|Zn fun a f=>⟨f.sub ⟨O,X1 O (by simp[g,e]),trivial⟩,p⟩
  refine Zv (gW e) (Vd O og 2) ?_;refine Zv (gW e) (X0 O ju (j.at 2)) ?_;refine Zv (gW e) (fh O gv) ?_;refine Zv (gW e) (Vd O oe 0) ?_;refine Zv (gW e) (X0 O X8 (j.at 0)) ?_;refine Zv (gW e) (Vd O ou 1) ?_;refine Zv (gW e) (X0 O X8 (j.at 1)) ?_;refine Zv (gW e) (mv O O) ?_;refine Zv (gW e) (kz O O) ?_;refine Ze (X9 O e O) ?_;refine Zn fun a f=>?_;exact ⟨f.sub ⟨O,X1 O (by first|rfl|(simp only[g,e,bs];done)|simp[g,e]),trivial⟩,p⟩
 rintro a w4 ⟨f,o⟩;have j:=j.bw o;have n:=aa n o;refine aX _ _<|Xz f O ?_ ?_<;>intro t
 ·have aE:=t
  have aF:di m=false:=by revert t;unfold di;rw[<- yZ,<- yZ];cases pr m.rows<;>cases pr m.cols<;>simp<;>exact fun h8 h9=>absurd h9 h8
  exact ZS f fun aY=>Za O<|Zt aY fun a f=>Q6<|X3<|X4 f (Xu f O O)<|⟨by rw[aF],n⟩
 have aE:=t
 have aG:(dm m.rows&&dm m.cols&&(m.cells.length:Int)==wr (m.rows*m.cols))=true:=by revert t;rw[<- yZ,<- yZ];cases pr m.rows<;>cases pr m.cols<;>simp
 refine Q7<|aW _ _<|Q5 fun _ aH=>ZS f fun aI=>Ze (Vd O og 2)<|Ze (X0 O ju (j.at 2))<|Ze (fh O gv)<|Zm O<|Zt aI fun a f=>Q8<|Xw (σ:=Nat) (fun (k:Nat) (a:Act) (w:World)=>Fr a 37 [(27,.slice Am m.cells.length cm),(28,vi (m.cells.length:Int)),(29,vi (k:Int))]/\(k<=m.cells.length)/\((m.cells.take k).all (fun x=>dt x)=true)/\Bl z w) (fun (k:Nat)=>m.cells.length+1-k) 0 ?_ ?_
 ·exact ⟨f.sb,(Qf _),O6,n⟩
 rintro k a w5 ⟨f,hk,h,n⟩;refine ZS f fun aJ=>Ze (ew O O)<|ZX aJ fun a f _ aK=>eh f O (fun aA aL=>?_) (fun aA aL=>?_)
 ·obtain ⟨i,y⟩:=Xe (l:=m.cells) (k:=k) O0
  refine Q7<|aK _ _<|Q5 fun _ aM=>Q8<|ZS f fun aN=>Zi (k:=k) (u:=i) (enc:=ai) (l:=m.cells) ad O O gv Xm kb (aD.bx n) y O ?_;intro b5 aB;refine Ze (Xt (l:=[vi i.num.a,vi i.num.b,vi i.num.c,vi i.num.d,vi i.exp]) O Xa aB O)<|ZB [vi i.num.a,vi i.num.b,vi i.num.c,vi i.num.d,vi i.exp] iu Xm fun b6 w7 aO o aP=>?_;have aZ:=Q0 n.size aO;have n:=aa n o;refine Zx aN fun a f _ aQ=>Ze (Vn Xa aP)<|Zf (Vc (PS _ i) VF) ?_;rintro _ w8 ⟨rfl,o⟩;have n:=aa n o;refine Ze (dn O)<|Zt aQ fun a f=>Xz f O ?_ ?_<;>intro q
  ·have aC:(m.cells.any fun x=>!dt x)=true:=tO y q
   exact ZS f fun aR=>Za O<|Zt aR fun a f=>Q6<|Xn<|X3<|X3<|Xn<|X3<|X4 f (Xu f O O)<|⟨by rw[di,aG,aC];rfl,n⟩
  have b0:=q
  have b1:dt i=true:=by revert q;cases dt i<;>simp
  exact Q7<|Xk<|aM _ _<|Zr f<|Ze (Xs O O O0 O0)<|Zm O<|Zn fun a f=>Xb<|⟨k+1,⟨f.sb,O0,(sa h y b1),n⟩,O0⟩
 refine Q9<|Xf<|Xf<|Xv<|aH _ _<|ZS f fun aS=>Za O<|Zt aS fun a f=>Q6 (X4 f (Xu f O O) ?_)
 have aC:(m.cells.any fun x=>!dt x)=false:=tJ (by simpa using sF h O0)
 exact ⟨by rw[di,aG,aC];rfl,n⟩
def Nr(w0:World)(n:Int)(hn:n=1∨n=2):RE 108 [vi n] w0 (fun v w=>∃ A c,v=.slice A (ks n.toNat).length c/\ah w w0.heap.size 52 3 ab A c (ks n.toNat)/\Bl w0 w):=by
 refine enter func108 O 18 O O ?_;intro a d;have e:=bz w0;refine ZS d fun aF=>Za O<|ZX aF fun a d _ aG=>ZS d fun aH=>Zm O<|Ze (go O O)<|Zt aH fun a d=>Xz d O ?_ ?_<;>intro aA
 ·have aI:n=1:=by simpa using aA
  refine ZS d fun aJ=>Ze (Xg (ps:=[(0,vi 1)]) (cs:=[vi 1,vi 0,vi 0]) O (fun _=>by first|rfl|kernel_rfl))<|Ze (Xg (ps:=[(0,vi 5)]) (cs:=[vi 5,vi 0,vi 0]) O (fun _=>by first|rfl|kernel_rfl))<|Ze (Xg (ps:=[(0,vi 7)]) (cs:=[vi 7,vi 0,vi 0]) O (fun _=>by first|rfl|kernel_rfl))<|Zf (X6 (k:=3) (vs:=[.agg #[vi 1,vi 0,vi 0],.agg #[vi 5,vi 0,vi 0],.agg #[vi 7,vi 0,vi 0]]) (zs:=[vi 1,vi 0,vi 0,vi 5,vi 0,vi 0,vi 7,vi 0,vi 0]) O Xp Xx O O) ?_;rintro _ w1 ⟨b7,rfl,aK,hE,aL⟩;have aC:=Q0 e.size aK;have e:=aa e hE;refine Za O<|Zt aJ fun a d=>Q6<|X3<|X4 d (Xu d O O) ?_;subst aI;exact ⟨(some ⟨b7,0,none⟩),3,O,((ah.of_blkL Xl aL aC O O O2) : ah _ _ _ _ ab _ _ (ks 1)),e⟩
 have aM:n=2:=by have h9:¬ n=1:=(by simpa using aA);omega
 refine Q7<|aG _ _<|ZS d fun aN=>Ze (Xg (ps:=[(0,vi 1)]) (cs:=[vi 1,vi 0,vi 0]) O (fun _=>by first|rfl|kernel_rfl))<|Ze (Xg (ps:=[(0,vi 1),(1,vi 1)]) (cs:=[vi 1,vi 1,vi 0]) O (fun _=>by first|rfl|kernel_rfl))<|Ze (Xg (ps:=[(0,vi 5)]) (cs:=[vi 5,vi 0,vi 0]) O (fun _=>by first|rfl|kernel_rfl))<|Ze (Xg (ps:=[(0,vi 5),(1,vi 1)]) (cs:=[vi 5,vi 1,vi 0]) O (fun _=>by first|rfl|kernel_rfl))<|Ze (Xg (ps:=[(0,vi 7)]) (cs:=[vi 7,vi 0,vi 0]) O (fun _=>by first|rfl|kernel_rfl))<|Ze (Xg (ps:=[(0,vi 7),(1,vi 1)]) (cs:=[vi 7,vi 1,vi 0]) O (fun _=>by first|rfl|kernel_rfl))<|Ze (Xg (ps:=[(0,vi 9),(2,vi 1)]) (cs:=[vi 9,vi 0,vi 1]) O (fun _=>by first|rfl|kernel_rfl))<|Ze (Xg (ps:=[(0,vi 9),(1,vi 1)]) (cs:=[vi 9,vi 1,vi 0]) O (fun _=>by first|rfl|kernel_rfl))<|Zf (X6 (k:=8) (vs:=[.agg #[vi 1,vi 0,vi 0],.agg #[vi 1,vi 1,vi 0],.agg #[vi 5,vi 0,vi 0],.agg #[vi 5,vi 1,vi 0],.agg #[vi 7,vi 0,vi 0],.agg #[vi 7,vi 1,vi 0],.agg #[vi 9,vi 0,vi 1],.agg #[vi 9,vi 1,vi 0]]) (zs:=[vi 1,vi 0,vi 0,vi 1,vi 1,vi 0,vi 5,vi 0,vi 0,vi 5,vi 1,vi 0,vi 7,vi 0,vi 0,vi 7,vi 1,vi 0,vi 9,vi 0,vi 1,vi 9,vi 1,vi 0]) O Xp Xx O O) ?_;rintro _ w2 ⟨aO,rfl,aD,hE,aE⟩;have aB:=Q0 e.size aD;have e:=aa e hE;refine Za O<|Zt aN fun a d=>Q6 (X4 d (Xu d O O) ?_);subst aM;exact ⟨(some ⟨aO,0,none⟩),8,O,((ah.of_blkL Xl aE aB O O O2) : ah _ _ _ _ ab _ _ (ks 2)),e⟩
def Vy(n:Nat):(ks n).length<=8:=by unfold ks;split<;>decide
def GB(w0:World)(Al:Option Addr)(cl:Nat)(l:List Gt)(f:Rw w0 52 ab Al l)(aM:l.length<=100000000):RE 75 [.slice Al l.length cl] w0 (fun v w=>∃ A c,v=.slice A l.length c/\ah w w0.heap.size 52 3 ab A c l/\Bl w0 w):=by
 refine enter func75 O 8 O O ?_;intro a d;have g:=bz w0;refine ZS d fun aG=>Za O<|ZX aG fun a d _ aH=>ZS d fun aI=>Zm O<|Ze (TA O O Xp)<|Zt aI fun a d=>Xz d O ?_ ?_<;>intro aB
 ·have aC:l=[]:=Rd.nil_of f aB;refine ZS d fun aJ=>Za O<|Zt aJ fun a d=>Q6<|X3<|X4 d (Xu d O O) ?_;subst aC;exact ⟨none,0,O,ah.nil _ _ _ _ _,g⟩
 refine Q7<|aH _ _<|ZS d fun aD=>Zf (X6 (k:=0) (vs:=[]) (zs:=[]) O Xp Xx O O) ?_;rintro _ w1 ⟨aN,rfl,aE,hE,aF⟩;have aA:=Q0 g.size aE;have g:=aa g hE;refine Zm O<|Zf (vW (enc:=ab) (l2:=(l)) O O Xp Xx Xl lk aF (f.bx g) (by simp only[maxLen];omega) O0) ?_;rintro _ w2 ⟨aK,aL,rfl,e,hE⟩;have e:=e.lower aA;have g:=aa g hE;refine Za O<|Zt aD fun a d=>Q6 (X4 d (Xu d O O) ?_);exact ⟨aK,aL,O,e,g⟩
def HL{o:Option (List Gt)}(h:o.isSome=true):o=some (o.getD []):=by
 cases o with
 | none=>cases h
 | some x=>rfl
def G7(n:Nat)(m x:Mx):ft n m 0 x=if gi x m=true then some [] else none:=rfl
def tz(n:Nat)(m x:Mx)(k i:Nat) : Prop:=((ks n).take i).findSome? (fun g=>(ft n m k (ar false (bc n g) x).2).map (g :: ·))=none
def UW(n:Nat)(m x:Mx)(k:Nat):tz n m x k 0:=rfl
def TZ{n:Nat}{m x:Mx}{k i:Nat}{u:Gt}(h:tz n m x k i)(hu:(ks n)[i]? = some u)(hn:(ft n m k (ar false (bc n u) x).2).isSome=false):tz n m x k (i+1):=by
 unfold tz at *;rw[Qt,hu,List.findSome?_append,h];cases e:ft n m k (ar false (bc n u) x).2 with
 | none=>simp[e]
 | some y=>rw[e] at hn;cases hn
def Lf{n:Nat}{m x:Mx}{k i:Nat}(h:tz n m x k i)(hi:(ks n).length<=i):ft n m (k+1) x=none:=by
 unfold tz at h;rw[Qi hi] at h;exact h
def PU{n:Nat}{m x:Mx}{k i:Nat}{u:Gt}(h:tz n m x k i)(hu:(ks n)[i]? = some u)(hn:(ft n m k (ar false (bc n u) x).2).isSome=true):ft n m (k+1) x=some (u::(ft n m k (ar false (bc n u) x).2).getD []):=by
 unfold tz at h;have ⟨h1,h2⟩:=Qg.1 hu;have e:ks n=(ks n).take i++u::(ks n).drop (i+1):=by
  rw[<- h2,<- Qy h1,W9]
 have hd:ft n m (k+1) x=(ks n).findSome? fun g=>(ft n m k (ar false (bc n g) x).2).map (g :: ·):=rfl;rw[hd,e,List.findSome?_append,h,List.findSome?_cons];cases e2:ft n m k (ar false (bc n u) x).2 with
 | none=>rw[e2] at hn;cases hn
 | some y=>rfl
def C0{n:Nat}{m:Mx}:∀ {k:Nat} {x:Mx} {w:List Gt},ft n m k x=some w->w.length=k
 | 0,x,w,h=>by
  rw[G7] at h;split at h
  ·injection h with h;subst h;rfl
  ·cases h
 | k+1,x,w,h=>by
  have hd:ft n m (k+1) x=(ks n).findSome? fun g=>(ft n m k (ar false (bc n g) x).2).map (g :: ·):=rfl;rw[hd] at h;have ⟨g,hg,h2⟩:=List.exists_of_findSome?_eq_some h;obtain ⟨y,hy,rfl⟩:=Option.map_eq_some_iff.1 h2;rw[Qs,C0 hy]
def Jm{n:Nat}{m:Mx}{k:Nat}{x:Mx}:((ft n m k x).getD []).length<=k:=by
 cases e:ft n m k x with
 | none=>simp
 | some w=>simp[C0 e]
def SD{n j k i:Nat}(hn:n=1∨n=2)(hjk:j+(k+1)<=8){w:List Gt}{x:Mx}{u:Gt}(hw:w ∈ nf (ks n) j)(hx:x=ie n w)(hu:(ks n)[i]? = some u) :
  gp (n:Int) u=true/\di (bc n u)=true/\di x=true/\(bc n u).cols=x.rows/\ar false (bc n u) x=(false,ie n (w++[u]))/\w++[u] ∈ nf (ks n) (j+1)/\(ie n (w++[u])).cells.length=2^n*2^n:=by
 have hm:=Qe hu;have hg:=wh hn u hm;have ⟨g1,g2⟩:=r_ hg.1;have ⟨h1,h2,h3,_⟩:=DF hn (by omega:j<=8) hw;have hs:=C6 hw hm;refine ⟨hg.1,g2,by rw[hx];exact h1,?_,by rw[hx];exact Ha hn O0 hw hm,hs,Fl hn O0 hs⟩;rw[hx,h2];rfl
def HR{n:Nat}{m:Mx}{k:Nat}(h:∀ j,j<k->ft n m j (ao (2^n))=none){l:List Gt}(hl:ft n m k (ao (2^n))=some l):∀ K,k<=K->uW n m K=some l
 | 0,hK=>by
  obtain rfl:k=0:=by omega
  exact hl
 | K+1,hK=>by
  unfold uW;by_cases e:k=K+1
  ·subst e;have:∀ j,j<K+1->uW n m j=none:=by
    intro j
    induction j with
    | zero=>intro hj;exact h 0 O0
    | succ j ih=>intro hj;unfold uW;rw[ih O0,h (j+1) hj];rfl
   rw[this K O0,hl];rfl
  ·rw[HR h hl K O0];rfl
def Nx(n:Nat)(m x:Mx):(ft n m 0 x).getD []=[]/\(ft n m 0 x).isSome=gi x m:=by
 rw[G7];cases gi x m<;>exact ⟨rfl,rfl⟩
def F6{n j:Nat}{m x:Mx}(h:∀ i,i<j->ft n m i x=none)(hs:(ft n m j x).isSome=false):∀ i,i<j+1->ft n m i x=none:=fun i hi=>by
 by_cases e:i=j
 ·subst e;cases e2:ft n m i x with
  | none=>rfl
  | some y=>rw[e2] at hs;cases hs
 ·exact h i O0
def UA(t:World)(n:Nat)(x:Mx)(Ax:Option Addr)(cx:Nat)(G:Rw t 147 ai Ax x.cells)(m:Mx)(Am:Option Addr)(cm:Nat)(H:Rw t 147 ai Am m.cells)(k:Nat)(hn:n=1∨n=2)(wd:List Gt)(jj:Nat)(bK:jj+k<=8)(aA:wd ∈ nf (ks n) jj)(hx:x=ie n wd)(N:m.cells.length=2^n*2^n)(IH:∀ (y:Nat),y<k->∀ (t:World) (n:Nat) (x:Mx) (Ax:Option Addr) (cx:Nat) (G:Rw t 147 ai Ax x.cells) (m:Mx) (Am:Option Addr) (cm:Nat) (H:Rw t 147 ai Am m.cells) (hn:n=1∨n=2) (wd:List Gt) (jj:Nat) (bK:jj+y<=8) (aA:wd ∈ nf (ks n) jj) (hx:x=ie n wd) (N:m.cells.length=2^n*2^n),RE 80 [vi (n:Int),mV Ax cx x,mV Am cm m,vi (y:Int)] t (fun v w=>∃ A c1,v=.tuple #[.slice A ((ft n m y x).getD []).length c1,.bool (ft n m y x).isSome]/\ah w t.heap.size 52 3 ab A c1 ((ft n m y x).getD [])/\Bl t w)):RE 80 [vi (n:Int),.agg #[vi x.rows,vi x.cols,.slice Ax x.cells.length cx],.agg #[vi m.rows,vi m.cols,.slice Am m.cells.length cm],vi (k:Int)] t (fun v w=>∃ A c1,v=.tuple #[.slice A ((ft n m k x).getD []).length c1,.bool ((ft n m k x).isSome)]/\ah w t.heap.size 52 3 ab A c1 ((ft n m k x).getD [])/\Bl t w):=by
 have bL:x.cells.length=2^n*2^n:=by rw[hx];exact Fl hn O0 aA
 refine enter func80 O 55 O O ?_;intro a q;have o:=bz t;refine ZS q fun bM=>Zf (bt (zs:=[vi x.rows,vi x.cols,.slice Ax x.cells.length cx]) O O) ?_;rintro _ w1 ⟨b4,rfl,bN,f,j⟩;have cG:=Q0 o.size bN;have o:=aa o f;refine Zf (bt (zs:=[vi m.rows,vi m.cols,.slice Am m.cells.length cm]) O O) ?_;rintro _ w2 ⟨b5,rfl,bO,f,p⟩;have bJ:b4≠b5:=by have:=j.lt;omega
 have cH:=Q0 o.size bO;have j:=j.bw f;have o:=aa o f;refine Za O<|Za O<|ZX bM fun a q _ bP=>ZS q fun bQ=>Zm O<|Ze (go O O)<|Zt bQ fun a q=>Xz q O ?_ ?_<;>intro aB
 ·have bR:k=0:=by have h9:(k:Int)=0:=(by simpa using aB);omega
  refine ZS q fun aR=>Ze (Vn fw j)<|Ze (Vn fw p)<|Zf (Vc (Nw _ x Ax cx (G.bx o).top m Am cm (H.bx o).top (by rw[bL,N]) (by rw[N];rcases hn with rfl|rfl<;>decide)) G2) ?_;rintro _ w3 ⟨ix,rfl,f⟩;have o:=aa o f;refine Zm O<|Ze (X2 (vs:=[vi ix,.bool (gi x m)]) O O)<|Ze (X2 (vs:=[vi ix,.bool (gi x m)]) O O)<|Za O<|Za O<|Zx aR fun a q _ aS=>Zm O<|Za O<|Za O<|Zt aS fun a q=>Q6<|X3<|X4 q (dj q O O O) ?_;subst bR;have ⟨f1,f2⟩:=Nx n m x;rw[f1,f2];exact ⟨none,0,O,(ah.nil _ _ _ _ _),o⟩
 have ⟨y,aT⟩ : ∃ y,k=y+1:=⟨k-1,by have h9:¬ (k:Int)=0:=(by simpa using aB);omega⟩;refine Q7<|bP _ _<|ZS q fun aU=>Ze (Xg (ps:=[]) (cs:=[.bool false]) O (fun _=>by first|rfl|kernel_rfl))<|Zf (bt (zs:=[.bool false]) O O) ?_;rintro _ w4 ⟨I,rfl,aW,f,d⟩;have aC:=Q0 o.size aW;have ⟨j,p,o⟩:=bh f j p o;refine Za O<|ZX aU fun a q _ aX=>ZS q fun aY=>Zm O<|Zf (ki (vs:=[vi (n:Int)]) O NN (by have hq:=Nr w4 (n:Int) O0;rw[Qj] at hq;exact hq)) ?_;rintro _ w5 ⟨aZ,b0,rfl,g,f⟩;have g:=g.lower o.size;have ⟨j,p,d,o⟩:=dk f j p d o;refine Ze (fh O Xp)<|Zm O<|Zt aY fun a q=>Q8<|Xw (σ:=Nat) (fun (i:Nat) (a:Act) (w:World)=>Fr a 55 [(0,vi (n:Int)),(3,vi (k:Int)),(5,(ae b4)),(6,(ae b5)),(12,(ae I)),(29,.slice aZ (ks n).length b0),(30,vi ((ks n).length:Int)),(31,vi (i:Int))]/\(i<=(ks n).length)/\(tz n m x y i)/\al w b4 91 [vi x.rows,vi x.cols,.slice Ax x.cells.length cx]/\al w b5 91 [vi m.rows,vi m.cols,.slice Am m.cells.length cm]/\al w I 137 [.bool false]/\ah w t.heap.size 52 3 ab aZ b0 (ks n)/\Bl t w) (fun (i:Nat)=>(ks n).length-i) 0 ?_ ?_
 ·exact ⟨q.sb,(Qf _),(UW n m x y),j,p,d,g,o⟩
 intro i a w6 ⟨q,hi,aD,j,p,d,g,o⟩;refine ZS q fun b1=>Ze (ew O O)<|ZX b1 fun a q _ b2=>eh q O (fun aE b3=>?_) (fun aE b3=>?_)
 ·have ⟨c,C⟩:=Xe (l:=(ks n)) (k:=i) O0;have ⟨bS,bU,bW,bZ,Q,cA,cI⟩:=SD (k:=y) hn O0 aA hx C;have cJ:=Vy n;refine Q7<|b2 _ _<|Q5 fun _ b6=>Q8<|ZS q fun b7=>Zi (k:=i) (u:=c) (enc:=ab) (l:=(ks n)) ad O O Xp ji Xl g.rd C O ?_;intro cK aF;refine Ze (Xt (l:=[vi c.k,vi c.a,vi c.b]) O jd aF O)<|ZB [vi c.k,vi c.a,vi c.b] ql ji fun cB w8 b8 f e=>?_;have cC:=Q0 o.size b8;have ⟨j,p,d,g,o⟩:=io f j p d g o;refine ZX b7 fun a q _ b9=>gx (some I) (fun _=>false) mixed ?_;intro w9 f;have ⟨j,p,d,e,g,o⟩:=kf f j p d e g o;refine Yb q<|Yo 0 O (fun _=>X7 O)<|Yo 1 O (fun _=>X7 O)<|Yo 2 O (fun _=>X7 O)<|Yw 3 O ad (fun w1 h1=>Xt (l:=[vi c.k,vi c.a,vi c.b]) O jd ((e.oz h1 d O).at 0) O)<|Yw 5 O ad (fun w1 h1=>Xt (l:=[vi x.rows,vi x.cols,.slice Ax x.cells.length cx]) O fw ((j.oz h1 d O).at 0) O)<|Yw 7 O ad (fun w1 h1=>Xt (l:=[vi m.rows,vi m.cols,.slice Am m.cells.length cm]) O fw ((p.oz h1 d O).at 0) O) ?_;refine Yo 8 O (fun _=>X7 O)<|Yo 9 O (fun _=>Vx (ld O O O0 O0) (show _=(y:Int) from O0))<|Y1 4 ?_;refine Yf O ad (fd.mono (Vc (FR _ (n:Int) c bS) F2) (fun _ _ h=>⟨fun _=>by obtain ⟨aG,aH,rfl,D,f⟩:=h;exact dw.of_below f,h⟩)) ?_;rintro _ cD ⟨aG,aH,rfl,D,f⟩;have D:=D.lower o.size;have j:=j.bw f;have p:=p.bw f;have ⟨d,e,g,o⟩:=dk f d e g o;refine Y1 6<|Yf O ad (fd.mono (ki (vs:=[(ae I),.agg #[vi ((bc (n:Int) c).rows),vi ((bc (n:Int) c).cols),.slice aG ((bc (n:Int) c).cells).length aH],.agg #[vi x.rows,vi x.cols,.slice Ax x.cells.length cx]]) O qf (by have hq:=qd cD I false d (bc (n:Int) c) aG aH D.rd.top x Ax cx (G.bx o).top bU bW bZ;rw[Q] at hq;dsimp only at hq;exact hq)) (fun _ _ h=>⟨fun _=>by obtain ⟨aI,aJ,rfl,E,hK,aK⟩:=h;exact hK.keep,h⟩)) ?_;rintro _ cM ⟨aI,aJ,rfl,E,hK,aK⟩;have bC:=o.size;have ⟨wm,hO,hm,f⟩:=hK.mid;clear hm;have B:=d;have j:=j.oz hO B O;have p:=p.oz hO B O;have e:=e.oz hO B O;have g:=g.oT hO B O;have o:=Below.oy o hO aC;have ⟨j,p,e,g,o⟩:=io f j p e g o;clear B f hO hK;have d:=aK;clear aK;have E:=E.lower bC;clear bC;refine Y1 10<|Yf O ad (fd.mono (ki (vs:=[vi (n:Int),.agg #[vi ((ie n (wd++[c])).rows),vi ((ie n (wd++[c])).cols),.slice aI ((ie n (wd++[c])).cells).length aJ],.agg #[vi m.rows,vi m.cols,.slice Am m.cells.length cm],vi (y:Int)]) O Da (IH y O0 _ n (ie n (wd++[c])) aI aJ E.rd.top m Am cm (H.bx o).top hn (wd++[c]) (jj+1) O0 cA O N)) (fun _ _ h=>⟨fun _=>by obtain ⟨aL,aM,rfl,z,f⟩:=h;exact dw.of_below f,h⟩)) ?_;rintro _ cO ⟨aL,aM,rfl,z,f⟩;have z:=z.lower o.size;have ⟨j,p,d,e,g,o⟩:=kf f j p d e g o;refine Yo 11 O (fun _=>X7 O)<|Yo 12 O (fun _=>X2 (vs:=[.slice aL ((ft n m y (ie n (wd++[c]))).getD []).length aM,.bool ((ft n m y (ie n (wd++[c]))).isSome)]) O O)<|Yo 13 O (fun _=>X2 (vs:=[.slice aL ((ft n m y (ie n (wd++[c]))).getD []).length aM,.bool ((ft n m y (ie n (wd++[c]))).isSome)]) O O)<|Yo 14 O (fun _=>kk O)<|Yo 15 O (fun _=>kk O)<|Yd fun a q=>b9 _ _<|ZS q fun bD=>Zm O<|Zt bD fun a q=>Xz q O ?_ ?_<;>intro J
  ·have aN:=J;refine ZS q fun bE=>Ze (Vn jd e)<|Zf (X6 (k:=1) (vs:=[.agg #[vi c.k,vi c.a,vi c.b]]) (zs:=[vi c.k,vi c.a,vi c.b]) O Xp Xx O O) ?_;rintro _ cP ⟨b34,rfl,bF,f,U⟩;have aP:cB≠b34:=by have:=e.lt;omega
   have L:=Q0 o.size bF;have ⟨e,z,o⟩:=bh f e z o;refine Zm O<|Zf (jf (enc:=ab) (l:=([c])) (l2:=(((ft n m y (ie n (wd++[c]))).getD []))) (B0:=t.heap.size) O O Xp Xx Xl lk (ah.of_blkL Xl U L O O (Nat.le_of_ble_eq_true O)) z.rd (by have:=Jm (n:=n) (m:=m) (k:=y) (x:=ie n (wd++[c]));simp only[maxLen];simp;omega) (by have:=Jm (n:=n) (m:=m) (k:=y) (x:=ie n (wd++[c]));simp;omega) o.size) ?_;rintro _ cQ ⟨cE,cF,rfl,bG,hg,bH⟩;have W:ah _ t.heap.size 52 3 ab _ _ ([c]):=(ah.of_blkL Xl U L O O (Nat.le_of_ble_eq_true O));have aQ:=bH _ e.lt (il.ne O0);clear bH;have o:=Below.app o W hg (Qb _) o.size;clear W hg;refine Za O<|Za O<|Zt bE fun a q=>Q6<|Xn<|X3<|X3<|Xn<|X3<|X4 q (dj q O O O) ?_;have M:ft n m k x=some ([c]++(ft n m y (ie n (wd++[c]))).getD []):=by rw[aT,PU aD C (by rw[Q];exact aN),Q];rfl
   rw[M];exact ⟨cE,cF,O,bG,o⟩
  have aN:=J;exact Q7<|Xk<|b6 _ _<|Zr q<|Ze (Xs O O O0 O0)<|Zm O<|Zn fun a q=>Xb<|⟨i+1,⟨q.sb,O0,(TZ aD C (by rw[Q];simpa using aN)),j,p,d,g,o⟩,O0⟩
 refine Q9<|Xf<|Xf<|Xv<|aX _ _<|ZS q fun bI=>Za O<|Za O<|Zt bI fun a q=>Q6 (X4 q (dj q O O O) ?_);have M:ft n m k x=none:=by rw[aT];exact Lf aD O0
 rw[M];exact ⟨none,0,O,(ah.nil _ _ _ _ _),o⟩
def F3(c:World)(n:Nat)(x:Mx)(Ax:Option Addr)(cx:Nat)(d:Rw c 147 ai Ax x.cells)(m:Mx)(Am:Option Addr)(cm:Nat)(e:Rw c 147 ai Am m.cells)(k:Nat)(hn:n=1∨n=2)(wd:List Gt)(jj:Nat)(aA:jj+k<=8)(aB:wd ∈ nf (ks n) jj)(hx:x=ie n wd)(aC:m.cells.length=2^n*2^n):RE 80 [vi (n:Int),mV Ax cx x,mV Am cm m,vi (k:Int)] c (fun v w=>∃ A c1,v=.tuple #[.slice A ((ft n m k x).getD []).length c1,.bool (ft n m k x).isSome]/\ah w c.heap.size 52 3 ab A c1 ((ft n m k x).getD [])/\Bl c w):=by
 induction k using Nat.strongRecOn generalizing c n x Ax cx m Am cm wd jj with
 | ind k ih=>exact UA c n x Ax cx d m Am cm e k hn wd jj aA aB hx aC fun k1 h1 c n x Ax cx d m Am cm e hn wd jj aA aB hx aC=>ih k1 h1 c n x Ax cx d m Am cm e hn wd jj aA aB hx aC
end Go.Proofs.YtkhbopcihjobdaaGreatDoor
namespace Go.Proofs.YtkhbopcihjobdaaGreatDoor
open Go.Proofs.Tryz
open Go.RowKit Go.ChangeShapes Go.WideShapes Go.Deep Go.Joins Go.Proofs.Tryz
section
end
end Go.Proofs.YtkhbopcihjobdaaGreatDoor
namespace Go.Proofs.YtkhbopcihjobdaaGreatDoor
open Go.Proofs.Tryz
open Go.RowKit Go.Proofs.Tryz
def h_(qs:List Int)(q:Int) : Bool:=qs.any fun y=>y==q
def AO(qs:List Int)(q:Int):(qs.any fun y=>q==y)=h_ qs q:=by
 unfold h_;congr 1;funext y;by_cases h:q=y
 ·subst h;rfl
 ·have h2:¬ y=q:=fun e=>h e.symm;rw[beq_eq_false_iff_ne.2 h,beq_eq_false_iff_ne.2 h2]
def Dj{qs:List Int}{q:Int}:h_ qs q=true↔q ∈ qs:=by
 unfold h_;simp
def i_(g:Gt)(qs:List Int) : Bool:=decide (0<((bv g).length:Int))&&!((bv g).any fun q=>!h_ qs q)
def nk(g:Gt)(qs:List Int) : Bool:=(bv g).any (h_ qs)
def qq(g:Gt)(qs:List Int) : Nat:=(bv g).countP (h_ qs)
def pO(g:Gt)(qs:List Int) : Nat:=(bv g).countP fun q=>!h_ qs q
def xt(g:Gt)(qs:List Int):decide (0<(qq g qs:Int))=nk g qs:=by
 unfold qq nk;rw[Bool.eq_iff_iff,Qr,List.any_eq_true];constructor
 ·intro h;have h2:0<(bv g).countP (h_ qs):=by omega
  exact List.countP_pos_iff.1 h2
 ·intro h;have:=List.countP_pos_iff.2 h;omega
def H6(g:Gt)(qs:List Int):decide (0<(pO g qs:Int))=(bv g).any fun q=>!h_ qs q:=by
 unfold pO;rw[Bool.eq_iff_iff,Qr,List.any_eq_true];constructor
 ·intro h;have h2:0<(bv g).countP (fun q=>!h_ qs q):=by omega
  exact List.countP_pos_iff.1 h2
 ·intro h;have:=List.countP_pos_iff.2 h;omega
def xr(g:Gt)(qs:List Int):i_ g qs=(nk g qs&&!decide (0<(pO g qs:Int))):=by
 rw[H6];unfold i_ nk;cases e:bv g with
 | nil=>simp
 | cons x l=>
  cases e2:(x::l).any fun q=>!h_ qs q with
  | true=>simp
  | false=>
   have hx:h_ qs x=true:=by
    have:=W7.1 e2 x (Qk ..);simpa using this
   have h1:(x::l).any (h_ qs)=true:=List.any_eq_true.2 ⟨x,Qk ..,hx⟩;rw[h1];simp
def H9(g:Gt)(qs:List Int):(decide (0<(qq g qs:Int))&&decide (0<(pO g qs:Int)))=(nk g qs&&!i_ g qs):=by
 rw[xt,xr];cases nk g qs<;>simp
def kw(l:List Int)(lo hi:Int) : Bool:=(List.range l.length).all fun i=>bq (l.getD i 0) lo hi&&!(decide (0<(i:Int))&&decide (l.getD i 0<=l.getD (i-1) 0))
def SB{l:List Int}{lo hi:Int}(h:kw l lo hi=true):∀ x ∈ l,lo<=x/\x<=hi:=fun x hx=>by
 have ⟨i,hi⟩:=List.getElem?_of_mem hx;have hl:=(Qg.1 hi).1;unfold kw at h;have h2:=W1.1 h i (W2.2 hl);rw[Qa,hi] at h2;simp only[Qd,Qq] at h2;exact iw.1 h2.1
def Vj{l:List Int}{lo hi:Int}(h:kw l lo hi=true)(h2:l.length<=2):sn l:=by
 match l,h2 with
 | [],_=>exact List.Pairwise.nil
 | [x],_=>simp[sn]
 | [x,y],_=>
  unfold kw at h;have:=W1.1 h 1 O6;simp at this;have hxy:x<y:=by have:=this.2;omega
  simp[sn];exact hxy
def ri(l:List Int)(lo hi:Int)(k:Nat) : Prop:=((List.range k).all fun i=>bq (l.getD i 0) lo hi&&!(decide (0<(i:Int))&&decide (l.getD i 0<=l.getD (i-1) 0)))=true
def Jb(l:List Int)(lo hi:Int):ri l lo hi 0:=rfl
def G8{l:List Int}{lo hi:Int}{k:Nat}{u:Int}(h:ri l lo hi k)(hu:l[k]? = some u)(hs:(!bq u lo hi||(decide (0<(k:Int))&&decide (u<=l.getD (k-1) 0)))=false):ri l lo hi (k+1):=by
 unfold ri at *;rw[List.range_succ,List.all_append,h];simp only[List.all_cons,List.all_nil,Bool.and_true,Qw,Qa,hu,Qq];simp only[Qa] at hs;revert hs;cases bq u lo hi<;>simp
 intro h;rcases Nat.eq_zero_or_pos k with e|e
 ·exact .inl e
 ·exact .inr (h e)
def HG{l:List Int}{lo hi:Int}{k:Nat}(h:ri l lo hi k)(hk:k=l.length):kw l lo hi=true:=by subst hk;exact h
def E7{l:List Int}{lo hi:Int}{k:Nat}{u:Int}(hu:l[k]? = some u)(hs:(!bq u lo hi||(decide (0<(k:Int))&&decide (u<=l.getD (k-1) 0)))=true):kw l lo hi=false:=by
 have hk:=(Qg.1 hu).1;rw[Bool.eq_false_iff];intro h;unfold kw at h;have h2:=W1.1 h k (W2.2 hk);simp only[Qa,hu,Qq] at h2 hs;revert h2 hs;cases bq u lo hi<;>simp
 intro h1 h2;rcases h1 with h1|h1
 ·omega
 ·exact h1
def qr(qs:List Int) : List Gt->Int->Nat->List Int
 | [],_,_=>[]
 | _::_,_,0=>[]
 | g::l,i,m+1=>if i_ g qs=true then i::qr qs l (i+1) m else if nk g qs=true then [] else qr qs l (i+1) (m+1)
def FK(qs:List Int)(l:List Gt)(i:Int):qr qs l i 0=[]:=by cases l<;>rfl
def Cs(qs:List Int):∀ (l:List Gt) (i:Int) (m:Nat),(qr qs l i m).length<=m
 | [],_,_=>Qf _
 | _::_,_,0=>Qb _
 | g::l,i,m+1=>by
  unfold qr;split
  ·have:=Cs qs l (i+1) m;simp;omega
  ·split
   ·exact Qf _
   ·exact Cs qs l (i+1) (m+1)
def zZ(qs:List Int):∀ (l:List Gt) (i:Int) (m:Nat),∀ x ∈ qr qs l i m,∃ j:Nat,x=i+(j:Int)/\∃ g,l[j]? = some g/\i_ g qs=true
 | [],_,_=>fun x h=>by cases h
 | _::_,_,0=>fun x h=>by cases h
 | g::l,i,m+1=>fun x h=>by
  unfold qr at h;split at h
  ·rename_i hg;rcases Qv.1 h with h|h
   ·exact ⟨0,by simp[h],g,rfl,hg⟩
   ·have ⟨j,h1,g2,h2,h3⟩:=zZ qs l (i+1) m x h;exact ⟨j+1,by rw[h1];simp;omega,g2,by simpa using h2,h3⟩
  ·split at h
   ·cases h
   ·have ⟨j,h1,g2,h2,h3⟩:=zZ qs l (i+1) (m+1) x h;exact ⟨j+1,by rw[h1];simp;omega,g2,by simpa using h2,h3⟩
def ib(c:Cx)(p:Int)(qs:List Int) : Bool:=bq (qs.length:Int) 1 2&&(kw qs 0 (c.n-1)&&(bq p 0 ((c.gs.length:Int)-1)&&i_ (c.gs.getD p.toNat gZ) qs))
def du(c:Cx)(p:Int)(qs:List Int) : List Int:=qr qs (c.gs.drop p.toNat) p 6
def nm(c:Cx)(p:Int)(qs:List Int) : Option (List Int):=if ib c p qs=true then some (du c p qs) else none
def Dh{c:Cx}{p:Int}{qs:List Int}(h:ib c p qs=true):nm c p qs=some (du c p qs):=Q4 h
def Dg{c:Cx}{p:Int}{qs:List Int}(h:ib c p qs=false):nm c p qs=none:=Q3 (by rw[h];decide)
def dx(c:Cx)(p:Int)(qs:List Int) : Option (List Int):=if (gf c&&ib c p qs)=true then some (du c p qs) else none
def CQ{c:Cx}{p:Int}{qs:List Int}(h:(gf c&&ib c p qs)=true):dx c p qs=some (du c p qs):=Q4 h
def Ge{c:Cx}{p:Int}{qs:List Int}(h:(gf c&&ib c p qs)=false):dx c p qs=none:=Q3 (by rw[h];decide)
def vr{c:Cx}{p:Int}{qs:List Int}(h:ib c p qs=true):(1<=qs.length/\qs.length<=2)/\kw qs 0 (c.n-1)=true/\∃ k:Nat,p=(k:Int)/\k<c.gs.length/\∃ g,c.gs[k]? = some g/\i_ g qs=true:=by
 unfold ib at h;simp only[Qd,iw] at h;have ⟨h1,h2,h3,h4⟩:=h;refine ⟨by omega,h2,p.toNat,by omega,by omega,c.gs.getD p.toNat gZ,?_,h4⟩;rw[Qa,Qc O0];rfl
def F0{c:Cx}{p:Int}{qs:List Int}(h:ib c p qs=true):∃ r,du c p qs=p::r:=by
 obtain ⟨_,_,k,rfl,hk,g,hg,hi⟩:=vr h;unfold du;have hk2:((k:Int)).toNat=k:=Qj k;have ⟨h1,h2⟩:=Qg.1 hg;rw[hk2,Qy h1,h2];unfold qr;rw[Q4 hi];exact ⟨_,O⟩
def yF{c:Cx}{p:Int}{qs:List Int}(h:ib c p qs=true):1<=(du c p qs).length:=by
 have ⟨r,e⟩:=F0 h;rw[e];simp
def xV(c:Cx)(p:Int)(qs:List Int):(du c p qs).length<=6:=Cs ..
def xO{c:Cx}{p:Int}{qs:List Int}(h:ib c p qs=true):∀ x ∈ du c p qs,∃ j:Nat,x=(j:Int)/\j<c.gs.length/\p<=(j:Int)/\∃ g,c.gs[j]? = some g/\i_ g qs=true:=fun x hx=>by
 obtain ⟨_,_,k,rfl,hk,_⟩:=vr h;have ⟨j,h1,g,h2,h3⟩:=zZ _ _ _ _ x hx;rw[Qj,List.getElem?_drop] at h2;exact ⟨k+j,by omega,(Qg.1 h2).1,by omega,g,h2,h3⟩
def xW{l:List Int}{k:Nat}(h:k<l.length):l[k]? = some (l.getD k 0):=by rw[Qa,Qc h];rfl
def w_{l:List Gt}{k:Nat}(h:k<l.length):l[k]? = some (l.getD k gZ):=by rw[Qa,Qc h];rfl
def EK{f:Int->Bool}{l:List Int}{k p:Nat}{u:Int}(h:p=(l.take k).countP f)(hu:l[k]? = some u)(hf:f u=true):p+1=(l.take (k+1)).countP f:=by
 rw[Qt,hu,List.countP_append,<- h];simp[hf]
def GF{f:Int->Bool}{l:List Int}{k p:Nat}{u:Int}(h:p=(l.take k).countP f)(hu:l[k]? = some u)(hf:f u=false):p=(l.take (k+1)).countP f:=by
 rw[Qt,hu,List.countP_append,<- h];simp[hf]
def LJ{c:Cx}{run:List Int}{k j:Nat}{q:List Gt}{u:Int}(h:q=(run.take k).map fun i=>c.gs.getD i.toNat gZ)(hu:run[k]? = some u)(hj:u=(j:Int)):q++[c.gs.getD j gZ]=(run.take (k+1)).map fun i=>c.gs.getD i.toNat gZ:=by
 rw[h,Qt,hu];simp[hj]
def Fy(c:Cx)(p:Int)(qs:List Int):(((((!gf c)||!bq (qs.length:Int) 1 2)||!kw qs 0 (c.n-1))||!bq p 0 ((c.gs.length:Int)-1))||!i_ (c.gs.getD p.toNat gZ) qs) = !(gf c&&ib c p qs):=by
 unfold ib;cases gf c<;>cases bq (qs.length:Int) 1 2<;>cases kw qs 0 (c.n-1)<;>cases bq p 0 ((c.gs.length:Int)-1)<;>simp
def sv(c:Cx)(p:Int)(qs:List Int)(k:Nat)(q:List Int) : Prop:=p.toNat+k<=c.gs.length/\q.length<=6/\q++qr qs (c.gs.drop (p.toNat+k)) (p+(k:Int)) (6-q.length)=du c p qs
def Gv{c:Cx}{p:Int}{qs:List Int}(h:ib c p qs=true):sv c p qs 0 []:=by
 obtain ⟨_,_,k,rfl,hk,_⟩:=vr h;refine ⟨by omega,by simp,?_⟩;simp[du]
def VZ{c:Cx}{p:Int}{qs:List Int}{k:Nat}{q:List Int}{u:Gt}(h:sv c p qs k q)(hu:c.gs[p.toNat+k]? = some u)(hq:q.length<6)(hi:i_ u qs=true):sv c p qs (k+1) (q++[p+(k:Int)]):=by
 have ⟨h1,h2,h3⟩:=h;have ⟨h4,h5⟩:=Qg.1 hu;refine ⟨by omega,by simp;omega,?_⟩;rw[<- h3,Qy h4,h5,show 6-q.length=(5-q.length)+1 from by omega,qr,Q4 hi];simp only[Qx,List.singleton_append,Qh,Qs,List.length_nil];rw[show 6-(q.length+(0+1))=5-q.length from by omega,show p+((k+1:Nat) : Int)=p+(k:Int)+1 from by omega,<- Nat.add_assoc]
def Ik{c:Cx}{p x:Int}{qs:List Int}{k:Nat}{q:List Int}{u:Gt}(hx:x=p+(k:Int))(h:sv c p qs k q)(hu:c.gs[p.toNat+k]? = some u)(hq:q.length<6)(hi:i_ u qs=true):sv c p qs (k+1) (q++[x]):=by
 rw[hx];exact VZ h hu hq hi
def uT{b:Bool}(h:(!b)=true):b=false:=by cases b with
 | false=>rfl
 | true=>cases h
def v6{b:Bool}(h:(!b)=false):b=true:=by cases b with
 | false=>cases h
 | true=>rfl
def FX{c:Cx}{p:Int}{qs:List Int}{k:Nat}{q:List Int}{u:Gt}(h:sv c p qs k q)(hu:c.gs[p.toNat+k]? = some u)(hq:q.length<6)(hi:i_ u qs=false)(ht:nk u qs=false):sv c p qs (k+1) q:=by
 have ⟨h1,h2,h3⟩:=h;have ⟨h4,h5⟩:=Qg.1 hu;refine ⟨by omega,by omega,?_⟩;rw[<- h3,Qy h4,h5,show 6-q.length=(5-q.length)+1 from by omega,qr,Q3 (by rw[hi];decide),Q3 (by rw[ht];decide)];rw[show p+((k+1:Nat) : Int)=p+(k:Int)+1 from by omega,<- Nat.add_assoc]
def G5{c:Cx}{p:Int}{qs:List Int}{k:Nat}{q:List Int}{u:Gt}(h:sv c p qs k q)(hu:c.gs[p.toNat+k]? = some u)(hq:q.length<6)(hi:i_ u qs=false)(ht:nk u qs=true):q=du c p qs:=by
 have ⟨h1,h2,h3⟩:=h;have ⟨h4,h5⟩:=Qg.1 hu;rw[Qy h4,h5,show 6-q.length=(5-q.length)+1 from by omega,qr,Q3 (by rw[hi];decide),Q4 ht,List.append_nil] at h3;exact h3
def Ka{c:Cx}{p:Int}{qs:List Int}{k:Nat}{q:List Int}(h:sv c p qs k q)(he:c.gs.length<=p.toNat+k∨6<=q.length):q=du c p qs:=by
 have ⟨h1,h2,h3⟩:=h;rcases he with he|he
 ·rw[W3 he,qr,List.append_nil] at h3;exact h3
 ·rw[show 6-q.length=0 from by omega,FK,List.append_nil] at h3;exact h3
def fr(c:Cx)(run:List Int) : List Gt:=run.map fun i=>c.gs.getD i.toNat gZ
def L6{n:Int}{g:Gt}{qs:List Int}(hg:gp n g=true)(h:i_ g qs=true):oO qs n g:=by
 refine ⟨hg,fun x hx=>?_⟩;unfold i_ at h;simp only[Qd,Bool.not_eq_true',W7] at h;have:=h.2 x hx;exact Dj.1 (by simpa using this)
def AG{g:Gt}{qs:List Int}(h:i_ g qs=true):¬ g.k=12:=by
 intro e;unfold i_ bv at h;rw[Q4 e] at h;simp at h
def DN{c:Cx}(hc:gf c=true){p:Int}{qs:List Int}(h:ib c p qs=true):∀ g ∈ fr c (du c p qs),oO qs c.n g/\i_ g qs=true:=fun g hg=>by
 obtain ⟨i,hi,rfl⟩:=W6.1 hg;obtain ⟨j,rfl,hj,_,g,h1,h2⟩:=xO h i hi;rw[Qj,Qa,h1];exact ⟨L6 ((n' hc).2.2 g (Qe h1)) h2,h2⟩
def lp(c:Cx)(run:List Int)(p:Int)(k:Nat) : List Gt:=((List.range k).filter fun (j:Nat)=>!h_ run (p+(j:Int))).map fun (j:Nat)=>c.gs.getD (p+(j:Int)).toNat gZ
def CR(c:Cx)(run:List Int)(p:Int):lp c run p 0=[]:=rfl
def JE{c:Cx}{run:List Int}{p:Int}{k:Nat}(h:h_ run (p+(k:Int))=true):lp c run p (k+1)=lp c run p k:=by
 unfold lp;rw[List.range_succ,List.filter_append];simp[h]
def I5{c:Cx}{run:List Int}{p:Int}{k:Nat}{u:Gt}(h:h_ run (p+(k:Int))=false)(hu:c.gs[(p+(k:Int)).toNat]? = some u):lp c run p (k+1)=lp c run p k++[u]:=by
 unfold lp;rw[List.range_succ,List.filter_append,List.map_append];simp[h,Qa,hu]
def zH(c:Cx)(run:List Int)(p:Int)(k:Nat):(lp c run p k).length<=k:=by
 unfold lp;rw[Qo];exact Q0 (List.length_filter_le ..) O6
def ia(run:List Int) : Int:=run.getD (run.length-1) 0
def lb(run:List Int)(p:Int) : Nat:=(ia run-p+1).toNat
def pb(n:Int)(qs:List Int)(g:Gt) : Bool:=gp n g&&!decide (0<(pO g qs:Int))
def ko(c:Cx)(p:Int)(run:List Int)(gates:List Gt) : Rp:=⟨p,(c.gs.drop p.toNat).take (lb run p),gates++lp c run p (lb run p)⟩
def ay(c:Cx)(p:Int)(run:List Int)(qs:List Int)(gates:List Gt) : Option Rp:=
 if gates.all (pb c.n qs)=true then (if ((ko c p run gates).old.length<=40/\(ko c p run gates).new.length<=40) then some (ko c p run gates) else none) else none
def AA{c:Cx}{p:Int}{qs:List Int}(h:ib c p qs=true):∃ j:Nat,ia (du c p qs)=(j:Int)/\j<c.gs.length/\p<=(j:Int)/\(du c p qs)[(du c p qs).length-1]? = some (ia (du c p qs)):=by
 have h1:=yF h;have h2:(du c p qs).length-1<(du c p qs).length:=by omega
 have h3:ia (du c p qs) ∈ du c p qs:=by
  unfold ia;rw[Qa,Qc h2];exact List.getElem_mem h2
 have ⟨j,e,hj,hp,_⟩:=xO h _ h3;refine ⟨j,e,hj,hp,?_⟩;unfold ia;rw[Qa,Qc h2];rfl
def Dv(n:Int)(qs:List Int)(g:Gt) : Bool:=gp n g&&!(decide (g.k≠12)&&!i_ g qs)
def VH(n:Int)(qs:List Int)(g:Gt):Dv n qs g=pb n qs g:=by
 unfold Dv pb;cases hg:gp n g with
 | false=>rfl
 | true=>
  simp only[Qw];rw[xr];by_cases h:g.k=12
  ·have e:bv g=[]:=by unfold bv;rw[Q4 h]
   have e2:pO g qs=0:=by unfold pO;rw[e];rfl
   simp[h,e2]
  ·have e:bv g≠[]:=by unfold bv;rw[Q3 h];split<;>simp
   rw[H6];unfold nk;cases e2:(bv g).any fun q=>!h_ qs q with
   | true=>simp[h]
   | false=>
    have ⟨x,l,e3⟩:=List.exists_cons_of_ne_nil e;have hx:h_ qs x=true:=by
     have:=W7.1 e2 x (by rw[e3];exact Qk ..);simpa using this
    have:(bv g).any (h_ qs)=true:=List.any_eq_true.2 ⟨x,by rw[e3];exact Qk ..,hx⟩;simp[h,this]
def Iu(n:Int)(qs:List Int)(g:Gt):((!gp n g)||((g.k != 12)&&!i_ g qs)) = !pb n qs g:=by
 rw[<- VH];unfold Dv;cases gp n g<;>by_cases h:g.k=12<;>simp[h]
def D5{n:Int}{qs:List Int}{l:List Gt}{k:Nat}{u:Gt}(hu:l[k]? = some u)(h:pb n qs u=false):l.all (pb n qs)=false:=by
 rw[Bool.eq_false_iff];intro h2;have:=W1.1 h2 u (Qe hu);rw[h] at this;cases this
def Hi{n:Int}{qs:List Int}{l:List Gt}{k:Nat}{u:Gt}(h:(l.take k).all (pb n qs)=true)(hu:l[k]? = some u)(hf:pb n qs u=true):(l.take (k+1)).all (pb n qs)=true:=by
 rw[Qt,hu,List.all_append,h];simp[hf]
def DR{c:Cx}{p:Int}{run qs:List Int}{ws:List Gt}(h:ws.all (pb c.n qs)=false):ay c p run qs ws=none:=Q3 (by rw[h];decide)
def F8{c:Cx}{p:Int}{run qs:List Int}{ws:List Gt}(h:ws.all (pb c.n qs)=true)(h2:40<(ko c p run ws).old.length∨40<(ko c p run ws).new.length):ay c p run qs ws=none:=by
 unfold ay;rw[Q4 h,Q3 O0]
def Ju{c:Cx}{p:Int}{run qs:List Int}{ws:List Gt}(h:ws.all (pb c.n qs)=true)(h2:¬ (40<(ko c p run ws).old.length∨40<(ko c p run ws).new.length)):ay c p run qs ws=some (ko c p run ws):=by
 unfold ay;rw[Q4 h,Q4 O0]
def Vl{c:Cx}{p:Int}{run:List Int}{j:Nat}(hp:0<=p)(hj:ia run=(j:Int))(hpj:p<=(j:Int)):(c.gs.take (j+1)).drop p.toNat=(c.gs.drop p.toNat).take (lb run p):=by
 rw[List.drop_take];congr 1;unfold lb;rw[hj];omega
def GZ{c:Cx}{p:Int}{run:List Int}{ws:List Gt}{j:Nat}(hp:0<=p)(hj:ia run=(j:Int))(hpj:p<=(j:Int)):(ko c p run ws).old=(c.gs.take (j+1)).drop p.toNat:=(Vl hp hj hpj).symm
def HH{c:Cx}{p:Int}{run:List Int}{ws q:List Gt}{k:Nat}(hq:q=ws++lp c run p k)(hk:k=lb run p):(ko c p run ws).new=q:=by subst hk;rw[hq];rfl
def yq{run:List Int}{p:Int}{j:Nat}(hj:ia run=(j:Int))(hpj:p<=(j:Int)):((lb run p:Nat) : Int)=(j:Int)-p+1:=by unfold lb;rw[hj];omega
def Gj{c:Cx}{run:List Int}{p:Int}{k:Nat}{q ws:List Gt}(hq:q=ws++lp c run p k)(h:h_ run (p+(k:Int))=true):q=ws++lp c run p (k+1):=by rw[hq,JE h]
def F1{c:Cx}{run:List Int}{p:Int}{k:Nat}{q ws:List Gt}{u:Gt}(hp:0<=p)(hq:q=ws++lp c run p k)(h:h_ run (p+(k:Int))=false)(hu:c.gs[p.toNat+k]? = some u):q++[u]=ws++lp c run p (k+1):=by
 rw[hq,I5 h (by rw[show (p+(k:Int)).toNat=p.toNat+k from by omega];exact hu),Qx]
def a_.none_l(B:Option Addr):a_ none B:=fun _ _ h=>by cases h
def Ls{c:Cx}{p:Int}{qs:List Int}(h:(dx c p qs).isSome=true):gf c=true/\ib c p qs=true/\dx c p qs=some (du c p qs):=by
 cases e:gf c&&ib c p qs with
 | false=>rw[Ge e] at h;cases h
 | true=>exact ⟨((Qd _ _▸e:gf c=true/\ib c p qs=true)).1,((Qd _ _▸e:gf c=true/\ib c p qs=true)).2,CQ e⟩
def QU{c:Cx}{p:Int}{qs:List Int}(h:(dx c p qs).isSome=false):dx c p qs=none:=by
 cases e:dx c p qs with
 | none=>rfl
 | some x=>rw[e] at h;cases h
def xC(c:Cx)(run qs:List Int) : Cx:=⟨(qs.length:Int),(fr c run).map (en qs)⟩
def KN(n:Nat) : Nat:=if n=2 then 3 else 5
def vj(n:Nat)(M:Mx) : Option (List Gt):=u4 (ks n) (fun w=>gi (ie n w) M) (KN n)
def AC(n:Nat):KN n<=8:=by unfold KN;split<;>decide
def uK(c:Cx)(p:Int)(qs run:List Int) : Option Rp:=(vj qs.length ((eu (xC c run qs)).getD mZ)).bind fun w=>if w.length<run.length/\ic w<=ic (fr c run) then ay c p run qs (av w qs) else none
def mj(c:Cx)(p:Int)(qs:List Int) : Option Rp:=(nm c p qs).bind (uK c p qs)
def jp(c:Cx)(p:Int)(qs:List Int) : Option Rp:=(dx c p qs).bind (uK c p qs)
def QS{c:Cx}(hc:gf c=true)(p:Int)(qs:List Int):jp c p qs=mj c p qs:=by
 unfold jp mj dx nm;rw[hc,Qw]
def zg(c:Cx)(run:List Int):(fr c run).length=run.length:=by unfold fr;rw[Qo]
def Ea{c:Cx}(hc:gf c=true){p:Int}{qs:List Int}(h:ib c p qs=true):(qs.length=1∨qs.length=2)/\sn qs/\∀ x ∈ qs,0<=x/\x<=4:=by
 have ⟨h1,h2,_⟩:=vr h;have hn:=(n' hc).1;refine ⟨by omega,Vj h2 h1.2,fun x hx=>?_⟩;have:=SB h2 x hx;omega
def JK{c:Cx}(hc:gf c=true){p:Int}{qs:List Int}(h:ib c p qs=true):gf (xC c (du c p qs) qs)=true/\av (fr c (du c p qs)) (jc qs)=(fr c (du c p qs)).map (en qs)/\∃ M,eu (xC c (du c p qs) qs)=some M/\di M=true/\M.rows=((2^qs.length:Nat) : Int)/\M.cols=((2^qs.length:Nat) : Int)/\so M.cells≠none/\M.cells.length=2^qs.length*2^qs.length:=by
 have ⟨hq,hi,hb⟩:=Ea hc h;have hg:=DN hc h;have hl:=zg c (du c p qs);have h6:=xV c p qs;have hok:gf (xC c (du c p qs) qs)=true:=by
  unfold gf xC;simp only[Qd,iw,Qr,Bool.not_eq_true',W7,Qo];refine ⟨⟨by omega,by omega⟩,fun g hg'=>?_⟩;obtain ⟨g0,h0,rfl⟩:=W6.1 hg';have:=RS hi hb (hg g0 h0).1;rw[show max 1 (qs.length:Int)=(qs.length:Int) from by omega] at this;simp[this]
 have hmap:av (fr c (du c p qs)) (jc qs)=(fr c (du c p qs)).map (en qs):=List.map_congr_left fun g hg'=>Ux hb (hg g hg').1;have ⟨M,hM⟩:=F7 hok (by
  have:=yS (xC c (du c p qs) qs).gs;have:(xC c (du c p qs) qs).gs.length=(du c p qs).length:=by unfold xC;rw[Qo,hl]
  omega)
 have hk:∀ g ∈ (xC c (du c p qs) qs).gs,g.k<=11:=fun g hg'=>by
  obtain ⟨g0,h0,rfl⟩:=W6.1 hg';have h1:=AG (hg g0 h0).2;have h2:=(qe (hg g0 h0).1.ok).2.1;show g0.k<=11;omega
 have ⟨_,h2,h3,h4⟩:=C3 (N:=qs.length) O hM;exact ⟨hok,hmap,M,hM,h2,h3,h4,GX (N:=qs.length) O hM hk,FS hq h2 h3 h4⟩
def zM{n:Nat}{M:Mx}{w:List Gt}(h:vj n M=some w):w.length<=KN n/\∀ g ∈ w,g ∈ ks n:=by
 have ⟨j,hj,hw,_⟩:=CU h;exact ⟨by have:=D3 _ _ _ hw;omega,Dm _ _ _ hw⟩
def Ix{n:Nat}(hn:n=1∨n=2){w:List Gt}(h:∀ g ∈ w,g ∈ ks n):∀ g ∈ w,(g.k≠12->0<=g.a/\g.a<(n:Int))/\(bq g.k 9 11=true->0<=g.b/\g.b<(n:Int)):=fun g hg=>by
 have hok:=(wh hn g (h g hg)).1;have ⟨_,_,ha,hb⟩:=qe hok;exact ⟨fun h9=>by have:=ha h9;omega,fun h9=>by have:=hb (iw.1 h9);omega⟩
def PI{us:List Int}{n:Int}{l:List Gt}(h:∀ g ∈ l,oO us n g)(hn:n<=5):∀ g ∈ l,(g.k≠12->0<=g.a/\g.a<((5:Nat) : Int))/\(bq g.k 9 11=true->0<=g.b/\g.b<((5:Nat) : Int)):=fun g hg=>by
 have ⟨_,_,ha,hb⟩:=qe (h g hg).ok;exact ⟨fun h9=>by have:=ha h9;omega,fun h9=>by have:=hb (iw.1 h9);omega⟩
def Jz(us:List Int)(l:List Gt):ic (l.map (en us))=ic l:=by
 unfold ic;rw[List.countP_map];rfl
def J5{n j:Nat}(hn:n=1∨n=2){M:Mx}(hj:j<=KN n)(h0:∀ i,i<j->ft n M i (ao (2^n))=none)(hs:(ft n M j (ao (2^n))).isSome=true):vj n M=some ((ft n M j (ao (2^n))).getD [])/\((ft n M j (ao (2^n))).getD []).length=j:=by
 have e:=Fn hn M _ (AC n);rw[HR h0 (HL hs) _ hj] at e;exact ⟨e.symm,C0 (HL hs)⟩
def Hd{n j:Nat}(hn:n=1∨n=2){M:Mx}(h0:∀ i,i<j->ft n M i (ao (2^n))=none):∀ w,vj n M=some w->j<=w.length:=fun w hw=>by
 rcases W4 w.length j with h|h
 ·exfalso;have ⟨i,hi,hm,hp⟩:=CU hw;have hl:=D3 _ _ _ hm;have h1:=h0 i O0;rw[By hn M (Q0 hi (AC n)),List.find?_eq_none] at h1;exact h1 w hm hp
 ·exact h
def Au{c:Cx}{p:Int}{qs run:List Int}{M:Mx}(hM:eu (xC c run qs)=some M)(h:∀ w,vj qs.length M=some w->¬ (w.length<run.length/\ic w<=ic (fr c run))):uK c p qs run=none:=by
 unfold uK;rw[hM,Qq];cases e:vj qs.length M with
 | none=>rfl
 | some w=>rw[Qz,Q3 (h w e)]
def H'{c:Cx}{p:Int}{qs run:List Int}{M:Mx}{w:List Gt}(hM:eu (xC c run qs)=some M)(hw:vj qs.length M=some w)(h:w.length<run.length/\ic w<=ic (fr c run)):uK c p qs run=ay c p run qs (av w qs):=by
 unfold uK;rw[hM,Qq,hw,Qz,Q4 h]
def MC(l:List Gt):(l.countP fun g=>bq g.k 7 8)=ic l:=by
 unfold ic;apply List.countP_congr;intro g _;unfold sB;rw[iw];simp;omega
def MA{c:Cx}{rr:List Int}{k j:Nat}{i:Int}{u:Gt}(h:rr[k]? = some i)(hj:i=(j:Int))(hl:j<c.gs.length)(hu:(fr c rr)[k]? = some u):c.gs[j]? = some u:=by
 unfold fr at hu;rw[List.getElem?_map,h,Option.map_some,hj,Qj,Qa,Qc hl,Qq] at hu;rw[Qc hl];exact hu
def Om{us:List Int}{l q:List Gt}{k:Nat}{u:Gt}(h:q=(l.take k).map (en us))(hu:l[k]? = some u):q++[en us u]=(l.take (k+1)).map (en us):=by
 rw[h,Qt,hu];simp
def P7{g:Gt}(h:¬ g.k=12):g.a ∈ bv g:=by unfold bv;rw[Q3 h];split<;>simp
def TG{g:Gt}(h:¬ g.k=12)(h9:bq g.k 9 11=true):g.b ∈ bv g:=by unfold bv;rw[Q3 h,Q4 h9];simp
def yX{qs:List Int}{l q:List Gt}{k:Nat}{u v:Gt}(h:q=(l.take k).map (mb qs))(hu:l[k]? = some u)(hv:v=mb qs u):q++[v]=(l.take (k+1)).map (mb qs):=by
 rw[h,Qt,hu,hv];simp
def V_{c:Cx}{p:Int}{qs:List Int}(h:(nm c p qs).isSome=true):ib c p qs=true/\nm c p qs=some (du c p qs):=by
 cases e:ib c p qs with
 | false=>rw[Dg e] at h;cases h
 | true=>exact ⟨rfl,Dh e⟩
def Mm{c:Cx}{p:Int}{qs:List Int}(h:(nm c p qs).isSome=false):nm c p qs=none:=by
 cases e:nm c p qs with
 | none=>rfl
 | some x=>rw[e] at h;cases h
def NV(w0:World)(x:Int)(qs:List Int)(ba:Nat)(Aq:Option Addr)(cq:Nat)(aA:Rw w0 3 bk Aq qs)(aB:al w0 ba 66 [.slice Aq qs.length cq])(aC:qs.length<=1048576):RE 93 [vi x,(ae ba)] w0 (fun v w=>v=.bool (!h_ qs x)/\Bl w0 w):=by
 have aD:=aB.lt;refine enter func93 O 8 O O ?_;intro a hf;have hW:=bz w0;refine ZS hf fun aE=>Za O<|Zx aE fun a hf _ aF=>Ze (X0 O uY (aB.at 0))<|Zm O<|Zf (Vc (CC _ Aq cq qs (aA.bx hW).top x (Q0 aC O2)) CY) ?_;rintro _ w1 ⟨rfl,hE⟩;have hW:=aa hW hE;refine Ze (dn O)<|Za O<|Zt aF fun a hf=>Q6 (X4 hf (Xu hf O O) ?_);exact ⟨by rw[AO],hW⟩
def V6(w0:World)(x:Int)(qs:List Int)(ba:Nat)(Aq:Option Addr)(cq:Nat)(aA:Rw w0 3 bk Aq qs)(aB:al w0 ba 66 [.slice Aq qs.length cq])(aC:qs.length<=1048576):RE 68 [vi x,(ae ba)] w0 (fun v w=>v=.bool (h_ qs x)/\Bl w0 w):=by
 have aD:=aB.lt;refine enter func68 O 7 O O ?_;intro a hf;have hW:=bz w0;refine ZS hf fun aE=>Za O<|Zx aE fun a hf _ aF=>Ze (X0 O uY (aB.at 0))<|Zm O<|Zf (Vc (CC _ Aq cq qs (aA.bx hW).top x (Q0 aC O2)) CY) ?_;rintro _ w1 ⟨rfl,hE⟩;have hW:=aa hW hE;refine Za O<|Zt aF fun a hf=>Q6 (X4 hf (Xu hf O O) ?_);exact ⟨by rw[AO],hW⟩
def DH(w0:World)(g:Gt)(Aqs:Option Addr)(cqs:Nat)(qs:List Int)(c:Rw w0 3 bk Aqs qs)(aE:qs.length<=1048576):RE 65 [.agg #[vi g.k,vi g.a,vi g.b],.slice Aqs qs.length cqs] w0 (fun v w=>v=.bool (i_ g qs)/\Bl w0 w):=by
 have aM:=xx g;refine enter func65 O 17 O O ?_;intro a i
 have f:=bz w0
 refine ZS i fun aF=>Zf (bt (zs:=[vi g.k,vi g.a,vi g.b]) O O) ?_;rintro _ w1 ⟨b3,rfl,aG,e,aA⟩;have aK:=Q0 f.size aG;have c:=c.bw e;have f:=aa f e;refine Zf (bt (zs:=[.slice Aqs qs.length cqs]) O O) ?_;rintro _ w2 ⟨b4,rfl,aH,e,aB⟩;have aL:=Q0 f.size aH;have ⟨aA,c,f⟩:=bh e aA c f;refine Za O<|Zx aF fun a i _ aI=>Ze (Vn jd aA)<|Zf (Vc (Hy _ g) Gz) ?_;rintro _ w3 ⟨A6,c6,rfl,aC,e⟩;have aC:=aC.lower f.size;have ⟨aB,c,f⟩:=bh e aB c f;refine Za O<|ZX aI fun a i _ aJ=>eo (fun a w=>Fr a 17 [(4,.bool ((decide (0<((bv g).length:Int)))&&(!((bv g).any (fun q=>!h_ qs q)))))]/\Bl w3 w) ?_ ?_
 ·have j:Bl w3 w3:=Below.refl _ _
  refine Zr i<|Zm O<|Ze (fh O gq)<|Ze (oo O O)<|Zm O<|Zg 11 O ?_ ?_<;>intro d
  ·refine Zv (gW d) (X7 O) ?_;refine Zv (gW d) (tQ (vs:=[(ae b4)]) O) ?_;refine Zk (gW d) (Vc (FI _ A6 c6 (bv g) aC.rd.top 93 [(ae b4)] Mo (fun q=>!h_ qs q) (fun x9 w9 aD=>NV w9 x9 qs b4 Aqs cqs ((c.top).bw aD).top (aB.bw aD) aE) O0) GO) ?_;rintro _ w4 ⟨rfl,e⟩;have f:=aa f e;have j:=aa j e;refine Zv (gW d) (dn O) ?_;refine Ze (Xh O d O)<|Za O ?_;exact Zn fun a i=>⟨i.sub ⟨X1 O (by first|rfl|(simp only[d,bs];done)|simp[d]),trivial⟩,j⟩
  (iterate 4 refine Zp (gP d) ?_);exact Ze (X9 O d O)<|Za O<|Zn fun a i=>⟨i.sub ⟨X1 O (by first|rfl|(simp only[d,bs];done)|simp[d]),trivial⟩,j⟩
 rintro a w5 ⟨i,e⟩;have f:=aa f e;refine aJ _ _<|Q6 (X4 i (Xu i O O) ?_)
 exact ⟨by first|rfl|simp[i_, *],f⟩
theorem PV(i:World)(Al:Option Addr)(cl:Nat)(l:List Int)(j:Rw i 3 bk Al l)(n:Int)(hn:-1000<=n/\n<=1000)(aQ:l.length<=1048576) : RE 64 [.slice Al l.length cl,vi n] i (fun v w=>v=.bool (kw l 0 (n-1))/\Bl i w):=by
 refine enter func64 O 33 O O ?_;intro a e
 have hW:=bz i
 refine ZS e fun aJ=>Za O<|ZX aJ fun a e _ aK=>ZS e fun aL=>Zm O<|Ze (fh O gq)<|Zm O<|Zt aL fun a e=>Q8<|Xw (σ:=Nat) (fun (k:Nat) (a:Act) (w:World)=>Fr a 33 [(0,.slice Al l.length cl),(1,vi n),(7,.slice Al l.length cl),(8,vi (l.length:Int)),(9,vi (k:Int))]/\(k<=l.length)/\(ri l 0 (n-1) k)/\Bl i w) (fun (k:Nat)=>l.length-k) 0 ?_ ?_
 ·exact ⟨e.sb,(Qf _),(Jb _ _ _),hW⟩
 rintro k a w1 ⟨e,hk,m,hW⟩;refine ZS e fun aM=>Ze (ew O O)<|ZX aM fun a e _ aN=>eh e O (fun f aO=>?_) (fun f aO=>?_)
 ·obtain ⟨u8,aA⟩:=Xe (l:=l) (k:=k) O0
  refine Q7<|aN _ _<|Q5 fun _ aP=>Q8<|ZS e fun aD=>Zm O<|Zi (k:=k) (u:=u8) (enc:=bk) (l:=l) ad O O gq jw kp (j.bx hW) aA O ?_;intro aR aB;refine Ze (X0 O X8 aB)<|Za O<|Za O<|ZX aD fun a e _ aE=>eo (fun a w=>Fr a 33 [(0,.slice Al l.length cl),(1,vi n),(7,.slice Al l.length cl),(8,vi (l.length:Int)),(9,vi (k:Int)),(31,.bool ((!(bq u8 0 (n-1)))||((decide (0<(k:Int)))&&(decide (u8<=(l.getD (k-1) 0))))))]/\w1=w) ?_ ?_
  ·refine Zr e<|Zm O<|Zm O<|Ze (ld O O O0 O0)<|Zf (Vc (qc _ u8 0 (n-1)) pV) ?_;rintro _ _ ⟨rfl,rfl⟩;refine Ze (dn O)<|Zm O<|Zg 19 O ?_ ?_<;>intro d
   ·(iterate 3 refine Zp (gP d) ?_);(iterate 7 refine Zp (gP ad) ?_);exact Zp (gP d)<|Ze (Xh O d O)<|Zn fun a e=>⟨e.sub ⟨O,O,O,O,O,X1 O (by first|rfl|(simp only [f,d,bs];done)|simp [f,d]),trivial⟩,O⟩
   refine Zv (gW d) (X7 O) ?_;refine Zv (gW d) (oo O O) ?_;refine Zv (gW d) (X7 O) ?_
   refine Zg 22 O ?_ ?_<;>intro c
   ·have aS:=Q2 c;refine Zv (gW c) (X7 O) ?_;refine Zv (gW c) (X7 O) ?_;refine Zv (gW c) (ld O O O0 O0) ?_;refine Zi (k:=(k-1)) (u:=(l.getD (k-1) 0)) (enc:=bk) (l:=l) ⟨_,_,O,O,c⟩ O O gq jw kp (j.bx hW) (xW O0) O0 ?_;intro aT aC;refine Zv (gW c) (X0 O X8 aC) ?_;refine Zv (gW c) (X7 O) ?_;refine Zv (gW c) (r0 O O) ?_;refine Zv (gW d) (Xh O c O) ?_;refine Ze (X9 O d O) ?_;refine Zn fun a e=>?_;exact ⟨e.sub ⟨O,O,O,O,O,X1 O (by first|rfl|(simp only [f,d,c,bs];done)|simp [f,d,c]),trivial⟩,O⟩
   (iterate 7 refine Zp (gP c) ?_);refine Zv (gW d) (X9 O c O) ?_;refine Ze (X9 O d O) ?_;refine Zn fun a e=>?_;exact ⟨e.sub ⟨O,O,O,O,O,X1 O (by first|rfl|(simp only [f,d,c,bs];done)|simp [f,d,c]),trivial⟩,O⟩
  rintro a _ ⟨e,rfl⟩;refine aE _ _<|Xz e O ?_ ?_<;>intro g
  ·have aF:=E7 aA g;exact ZS e fun aG=>Za O<|Zt aG fun a e=>Q6<|Xn<|X3<|X3<|Xn<|X3<|X4 e (Xu e O O)<|⟨by rw [aF],hW⟩
  have aH:=g;exact Q7<|Xk<|aP _ _<|Zr e<|Ze (Xs O O O0 O0)<|Zm O<|Zn fun a e=>Xb<|⟨k+1,⟨e.sb,O0,(G8 m aA aH),hW⟩,O0⟩
 refine Q9<|Xf<|Xf<|Xv<|aK _ _<|ZS e fun aI=>Za O<|Zt aI fun a e=>Q6 (X4 e (Xu e O O) ?_)
 exact ⟨by rw [HG m O0],hW⟩
theorem Vf(i:World)(Al:Option Addr)(cl:Nat)(l:List Int)(j:Rw i 3 bk Al l)(lo:Int)(hi:Int)(aQ:l.length<=1048576) : RE 112 [.slice Al l.length cl,vi lo,vi hi] i (fun v w=>v=.bool (kw l lo hi)/\Bl i w):=by
 refine enter func112 O 35 O O ?_;intro a e
 have hW:=bz i
 refine ZS e fun aJ=>Za O<|ZX aJ fun a e _ aK=>ZS e fun aL=>Zm O<|Ze (fh O gq)<|Zm O<|Zt aL fun a e=>Q8<|Xw (σ:=Nat) (fun (k:Nat) (a:Act) (w:World)=>Fr a 35 [(0,.slice Al l.length cl),(1,vi lo),(2,vi hi),(9,.slice Al l.length cl),(10,vi (l.length:Int)),(11,vi (k:Int))]/\(k<=l.length)/\(ri l lo hi k)/\Bl i w) (fun (k:Nat)=>l.length-k) 0 ?_ ?_
 ·exact ⟨e.sb,(Qf _),(Jb _ _ _),hW⟩
 rintro k a w1 ⟨e,hk,m,hW⟩;refine ZS e fun aM=>Ze (ew O O)<|ZX aM fun a e _ aN=>eh e O (fun f aO=>?_) (fun f aO=>?_)
 ·obtain ⟨u8,aA⟩:=Xe (l:=l) (k:=k) O0
  refine Q7<|aN _ _<|Q5 fun _ aP=>Q8<|ZS e fun aD=>Zm O<|Zi (k:=k) (u:=u8) (enc:=bk) (l:=l) ad O O gq jw kp (j.bx hW) aA O ?_;intro aR aB;refine Ze (X0 O X8 aB)<|Za O<|Za O<|ZX aD fun a e _ aE=>eo (fun a w=>Fr a 35 [(0,.slice Al l.length cl),(1,vi lo),(2,vi hi),(9,.slice Al l.length cl),(10,vi (l.length:Int)),(11,vi (k:Int)),(33,.bool ((!(bq u8 lo hi))||((decide (0<(k:Int)))&&(decide (u8<=(l.getD (k-1) 0))))))]/\w1=w) ?_ ?_
  ·refine Zr e<|Zm O<|Zm O<|Zm O<|Zf (Vc (ru _ u8 lo hi) rq) ?_;rintro _ _ ⟨rfl,rfl⟩;refine Ze (dn O)<|Zm O<|Zg 21 O ?_ ?_<;>intro d
   ·(iterate 3 refine Zp (gP d) ?_);(iterate 7 refine Zp (gP ad) ?_);exact Zp (gP d)<|Ze (Xh O d O)<|Zn fun a e=>⟨e.sub ⟨O,O,O,O,O,O,X1 O (by first|rfl|(simp only [f,d,bs];done)|simp [f,d]),trivial⟩,O⟩
   refine Zv (gW d) (X7 O) ?_;refine Zv (gW d) (oo O O) ?_;refine Zv (gW d) (X7 O) ?_
   refine Zg 24 O ?_ ?_<;>intro c
   ·have aS:=Q2 c;refine Zv (gW c) (X7 O) ?_;refine Zv (gW c) (X7 O) ?_;refine Zv (gW c) (ld O O O0 O0) ?_;refine Zi (k:=(k-1)) (u:=(l.getD (k-1) 0)) (enc:=bk) (l:=l) ⟨_,_,O,O,c⟩ O O gq jw kp (j.bx hW) (xW O0) O0 ?_;intro aT aC;refine Zv (gW c) (X0 O X8 aC) ?_;refine Zv (gW c) (X7 O) ?_;refine Zv (gW c) (r0 O O) ?_;refine Zv (gW d) (Xh O c O) ?_;refine Ze (X9 O d O) ?_;refine Zn fun a e=>?_;exact ⟨e.sub ⟨O,O,O,O,O,O,X1 O (by first|rfl|(simp only [f,d,c,bs];done)|simp [f,d,c]),trivial⟩,O⟩
   (iterate 7 refine Zp (gP c) ?_);refine Zv (gW d) (X9 O c O) ?_;refine Ze (X9 O d O) ?_;refine Zn fun a e=>?_;exact ⟨e.sub ⟨O,O,O,O,O,O,X1 O (by first|rfl|(simp only [f,d,c,bs];done)|simp [f,d,c]),trivial⟩,O⟩
  rintro a _ ⟨e,rfl⟩;refine aE _ _<|Xz e O ?_ ?_<;>intro g
  ·have aF:=E7 aA g;exact ZS e fun aG=>Za O<|Zt aG fun a e=>Q6<|Xn<|X3<|X3<|Xn<|X3<|X4 e (Xu e O O)<|⟨by rw [aF],hW⟩
  have aH:=g;exact Q7<|Xk<|aP _ _<|Zr e<|Ze (Xs O O O0 O0)<|Zm O<|Zn fun a e=>Xb<|⟨k+1,⟨e.sb,O0,(G8 m aA aH),hW⟩,O0⟩
 refine Q9<|Xf<|Xf<|Xv<|aK _ _<|ZS e fun aI=>Za O<|Zt aI fun a e=>Q6 (X4 e (Xu e O O) ?_)
 exact ⟨by rw [HG m O0],hW⟩
def VV(i:World)(c:Cx)(Ac:Option Addr)(cc:Nat)(aG:Rw i 52 ab Ac c.gs)(Aqs:Option Addr)(cqs:Nat)(qs:List Int)(aA:Rw i 3 bk Aqs qs)(hn:1<=c.n/\c.n<=5)(aB:qs.length<=1048576):RE 82 [.agg #[vi c.n,.slice Ac c.gs.length cc],.slice Aqs qs.length cqs] i (fun v w=>v=.bool (bq (qs.length:Int) 1 2&&kw qs 0 (c.n-1))/\Bl i w):=by
 refine enter func82 O 15 O O ?_;intro a e;have f:=bz i;refine ZS e fun aC=>Zf (bt (zs:=[vi c.n,.slice Ac c.gs.length cc]) O O) ?_;rintro _ w1 ⟨b4,rfl,aD,hE,aE⟩;have aH:=Q0 f.size aD;have f:=aa f hE;refine Za O<|ZX aC fun a e _ aF=>eo (fun a w=>Fr a 15 [(4,.bool ((bq (qs.length:Int) 1 2)&&(kw qs 0 (c.n-1))))]/\Bl w1 w) ?_ ?_
 ·have g:Bl w1 w1:=Below.refl _ _;refine Zr e<|Zm O<|Ze (fh O gq)<|Zf (Vc (ru _ (qs.length:Int) 1 2) rq) ?_;rintro _ _ ⟨rfl,rfl⟩;refine Zm O<|Zg 8 O ?_ ?_<;>intro d
  ·refine Zv (gW d) (X7 O) ?_;refine Zv (gW d) (Vd O oY 0) ?_;refine Zv (gW d) (X0 O X8 (aE.at 0)) ?_;refine Zv (gW d) (ld O O O0 O0) ?_;refine Zk (gW d) (Vc (Vf _ Aqs cqs qs (aA.bx f).top 0 (c.n-1) aB) SJ) ?_;rintro _ w2 ⟨rfl,hE⟩;have f:=aa f hE;have g:=aa g hE;exact Ze (Xh O d O)<|Za O<|Zn fun a e=>⟨e.sub ⟨X1 O (by simp[d]),trivial⟩,g⟩
  (iterate 5 refine Zp (gP d) ?_);exact Ze (X9 O d O)<|Za O<|Zn fun a e=>⟨e.sub ⟨X1 O (by simp[d]),trivial⟩,g⟩
 intro a w3 ⟨e,hE⟩;have f:=aa f hE;refine aF _ _<|Q6 (X4 e (Xu e O O) ?_);exact ⟨by first|rfl|simp[*],f⟩
def C7(j:World)(g:Gt)(Aqs:Option Addr)(cqs:Nat)(qs:List Int)(aA:Rw j 3 bk Aqs qs)(aH:qs.length<=1048576):RE 83 [.agg #[vi g.k,vi g.a,vi g.b],.slice Aqs qs.length cqs] j (fun v w=>v=.tuple #[vi (qq g qs:Int),vi (pO g qs:Int)]/\Bl j w):=by
 have aT:=xx g;refine enter func83 O 27 O O ?_;intro a c;have f:=bz j;refine ZS c fun aI=>Zf (bt (zs:=[vi g.k,vi g.a,vi g.b]) O O) ?_;rintro _ w1 ⟨b3,rfl,aJ,hE,aK⟩;have aS:=Q0 f.size aJ;have f:=aa f hE;refine Za O<|Za O<|Zx aI fun a c _ aL=>Za O<|Za O<|ZX aL fun a c _ aM=>ZS c fun aN=>Ze (Vn jd aK)<|Zf (Vc (D2 _ g) CF) ?_;rintro _ w2 ⟨A7,c7,rfl,d,hE⟩;have d:=d.lower f.size;have f:=aa f hE;refine Ze (fh O gq)<|Zm O<|Zt aN fun a c=>Q8<|Xw (σ:=Nat×Nat×Nat) (fun (s:Nat×Nat×Nat) (a:Act) (w:World)=>match s with|(k,p,q)=>Fr a 27 [(1,.slice Aqs qs.length cqs),(6,vi (p:Int)),(7,vi (q:Int)),(11,.slice A7 (bv g).length c7),(12,vi ((bv g).length:Int)),(13,vi (k:Int))]/\(k<=(bv g).length)/\(p=((bv g).take k).countP (h_ qs))/\(q=((bv g).take k).countP (fun x=>!h_ qs x))/\(p<=k)/\(q<=k)/\ah w j.heap.size 3 1 bk A7 c7 (bv g)/\Bl j w) (fun (s:Nat×Nat×Nat)=>match s with|(k,p,q)=>(bv g).length-k) (0,0,0) ?_ ?_
 ·exact ⟨c.sb,(Qf _),O,O,(Qb _),(Qb _),d,f⟩
 intro ⟨k,p,q⟩ a w3 ⟨c,hk,hp,hq,aU,aW,d,f⟩;refine ZS c fun aO=>Ze (ew O O)<|ZX aO fun a c _ aP=>eh c O (fun aB aD=>?_) (fun aB aD=>?_)
 ·have ⟨m,e⟩:=Xe (l:=(bv g)) (k:=k) O0;refine Q7<|aP _ _<|Q5 fun _ n=>Q8<|ZS c fun aE=>Zi (k:=k) (u:=m) (enc:=bk) (l:=(bv g)) ad O O gq jw kp d.rd e O ?_;intro aX aC;refine Ze (X0 O X8 aC)<|Za O<|Zx aE fun a c _ aF=>Zm O<|Zm O<|Zf (Vc (Eg _ Aqs cqs qs (aA.bx f).top m (Q0 aH O2)) Dn) ?_;rintro _ w4 ⟨rfl,hE⟩;have d:=d.bw hE;have f:=aa f hE;refine Zt aF fun a c=>Xz c O ?_ ?_<;>intro i
  ·have hT:h_ qs m=true:=i;exact Zr c<|Zm O<|Ze (Xs O O O0 O0)<|Za O<|Zn fun a c=>Xk<|n _ _<|Zr c<|Ze (Xs O O O0 O0)<|Zm O<|Zn fun a c=>Xb<|⟨(k+1,p+1,q),⟨c.sb,O0,(EK hp e hT),(GF hq e (by rw[hT];rfl)),O0,O0,d,f⟩,O3⟩
  have hT:h_ qs m=false:=i;exact Zr c<|Zm O<|Ze (Xs O O O0 O0)<|Za O<|Zn fun a c=>Xk<|n _ _<|Zr c<|Ze (Xs O O O0 O0)<|Zm O<|Zn fun a c=>Xb<|⟨(k+1,p,q+1),⟨c.sb,O0,(GF hp e hT),(EK hq e (by rw[hT];rfl)),O0,O0,d,f⟩,O3⟩
 refine Q9<|Xf<|Xf<|Xv<|aM _ _<|ZS c fun aG=>Zm O<|Zm O<|Za O<|Za O<|Zt aG fun a c=>Q6 (X4 c (dj c O O O) ?_);have aQ:p=qq g qs:=by rw[hp,Qi O0];rfl
 have aR:q=pO g qs:=by rw[hq,Qi O0];rfl
 exact ⟨by rw[aQ,aR],f⟩
def NS(m:World)(z:Cx)(Az:Option Addr)(cz:Nat)(aE:Rw m 52 ab Az z.gs)(Arun:Option Addr)(crun:Nat)(run:List Int)(h:Rw m 3 bk Arun run)(b8:run.length<=1048576)(aS:∀ i ∈ run,∃ j:Nat,i=(j:Int)/\j<z.gs.length):RE 41 [.agg #[vi z.n,.slice Az z.gs.length cz],.slice Arun run.length crun] m (fun v w=>∃ A c,v=.slice A (fr z run).length c/\ah w m.heap.size 52 3 ab A c (fr z run)/\Bl m w):=by
 refine enter func41 O 25 O O ?_;intro a d;have g:=bz m;refine ZS d fun aT=>Zf (bt (zs:=[vi z.n,.slice Az z.gs.length cz]) O O) ?_;rintro _ w1 ⟨b4,rfl,aU,D,e⟩;have b6:=Q0 g.size aU;have g:=aa g D;refine Za O<|Zx aT fun a d _ aW=>Zf (X6 (k:=0) (vs:=[]) (zs:=[]) O Xp Xx O O) ?_;rintro _ w2 ⟨b7,rfl,aX,D,aY⟩;have aF:=Q0 g.size aX;have e:=e.bw D;have g:=aa g D;refine Za O<|ZX aW fun a d _ aZ=>ZS d fun aG=>Zm O<|Ze (fh O gq)<|Zm O<|Zt aG fun a d=>Q8<|Xw (σ:=Nat×(List Gt)) (fun (s:Nat×(List Gt)) (a:Act) (w:World)=>match s with|(k,q)=>∃ B C,Fr a 25 [(2,(ae b4)),(5,.slice B q.length C),(9,.slice Arun run.length crun),(10,vi (run.length:Int)),(11,vi (k:Int))]/\(k<=run.length)/\(q=(run.take k).map fun i=>z.gs.getD i.toNat gZ)/\(q.length=k)/\al w b4 28 [vi z.n,.slice Az z.gs.length cz]/\ah w m.heap.size 52 3 ab B C q/\Bl m w) (fun (s:Nat×(List Gt))=>match s with|(k,q)=>run.length-k) (0,[]) ?_ ?_
 ·exact ⟨some ⟨b7,0,none⟩,0,d.sb,(Qf _),O,O,e,(ah.empty aY aF),g⟩
 intro ⟨k,q⟩ a w3 ⟨B,C,d,hk,hq,b0,e,f,g⟩;refine ZS d fun aH=>Ze (ew O O)<|ZX aH fun a d _ aI=>eh d O (fun aA aJ=>?_) (fun aA aJ=>?_)
 ·have ⟨b1,t⟩:=Xe (l:=run) (k:=k) O0;have ⟨o,aK,aL⟩:=aS _ (Qe t);refine Q7<|aI _ _<|Q5 fun _ aM=>Q8<|ZS d fun aN=>Zi (k:=k) (u:=b1) (enc:=bk) (l:=run) ad O O gq jw kp (h.bx g) t O ?_;intro b9 aB;refine Ze (X0 O X8 aB)<|Za O<|Zt aN fun a d=>Zr d<|Zm O<|Ze (Vd O is 1)<|Ze (X0 O gj (e.at 1))<|Zm O<|Zi (k:=o) (u:=(z.gs.getD o gZ)) (enc:=ab) (l:=z.gs) ad O O Xp ji Xl (aE.bx g) (w_ aL) aK ?_;intro bC aC;refine Ze (Xt (l:=[vi ((z.gs.getD o gZ).k),vi ((z.gs.getD o gZ).a),vi ((z.gs.getD o gZ).b)]) O jd aC O)<|Zf (X6 (k:=1) (vs:=[.agg #[vi ((z.gs.getD o gZ).k),vi ((z.gs.getD o gZ).a),vi ((z.gs.getD o gZ).b)]]) (zs:=[vi ((z.gs.getD o gZ).k),vi ((z.gs.getD o gZ).a),vi ((z.gs.getD o gZ).b)]) O Xp Xx O O) ?_;rintro _ w4 ⟨bD,rfl,E,D,x⟩;have b2:=Q0 g.size E;have ⟨e,f,g⟩:=bh D e f g;refine Zf (jf (enc:=ab) (l:=(q)) (l2:=([(z.gs.getD o gZ)])) (B0:=m.heap.size) O O Xp Xx Xl lk f (Rd.of_blk x O _ x.lt) (by simp only[maxLen];simp;omega) O5 g.size) ?_;rintro _ w5 ⟨b3,b5,rfl,aO,hg,aP⟩;have y:ah _ m.heap.size 52 3 ab _ _ (q):=f;clear aP;have e:=e.appT y hg O;have g:=Below.app g y hg (Qb _) g.size;clear y hg;exact Za O<|Zn fun a d=>Xk<|aM _ _<|Zr d<|Ze (Xs O O O0 O0)<|Zm O<|Zn fun a d=>Xb<|⟨(k+1,(q++[z.gs.getD o gZ])),⟨b3,b5,d.sb,O0,(LJ hq t aK),(by simp;exact b0),e,aO,g⟩,O3⟩
 have aQ:q=fr z run:=by rw[hq,Qi O0];rfl
 refine Q9<|Xf<|Xf<|Xv<|aZ _ _<|ZS d fun aR=>Zm O<|Za O<|Zt aR fun a d=>Q6 (X4 d (Xu d O O) ?_);rw[<- aQ];exact ⟨B,C,O,f,g⟩
abbrev Yy:=fun (a:Cx) (b:Int)=>a.gs.getD b.toNat gZ
theorem I8(I:World)(c:Cx)(Ac:Option Addr)(cc:Nat)(e:Rw I 52 ab Ac c.gs)(p:Int)(Aqs:Option Addr)(cqs:Nat)(qs:List Int)(d:Rw I 3 bk Aqs qs)(bC:c.gs.length<=1000000000)(aD:qs.length<=1048576) : RE 40 [.agg #[vi c.n,.slice Ac c.gs.length cc],vi p,.slice Aqs qs.length cqs] I (fun v w=>∃ A c1,v=.tuple #[.slice A ((dx c p qs).getD []).length c1,.bool ((dx c p qs).isSome)]/\ah w I.heap.size 3 1 bk A c1 ((dx c p qs).getD [])/\Bl I w):=by
 refine enter func40 O 77 O O ?_;intro a t
 have h:=bz I
 refine ZS t fun bD=>?_;refine Zf (bt (zs:=[vi c.n,.slice Ac c.gs.length cc]) O O) ?_;rintro _ w1 ⟨b4,rfl,bE,f,j⟩;have bS:=Q0 h.size bE;have e:=e.bw f;have d:=d.bw f;have h:=aa h f;refine Zf (bt (zs:=[.slice Aqs qs.length cqs]) O O) ?_;rintro _ w2 ⟨b5,rfl,bF,f,o⟩;have bU:=Q0 h.size bF;have j:=j.bw f;have e:=e.bw f;have d:=d.bw f;have h:=aa h f;refine Za O<|Za O<|ZX bD fun a t _ bG=>?_;refine Q5 fun _ bH=>?_;refine eo (fun a w=>Fr a 77 [(1,vi p),(3,(ae b4)),(5,(ae b5)),(45,.bool (((((!(gf c))||(!(bq (qs.length:Int) 1 2)))||(!(kw qs 0 (c.n-1))))||(!(bq p 0 ((c.gs.length:Int)-1))))||(!(i_ (Yy c p) qs))))]/\Bl w2 w) ?_ ?_
 ·have C:Bl w2 w2:=Below.refl _ _
  refine gx none (fun _=>false) mixed ?_;intro w3 f;have j:=j.bw f;have o:=o.bw f;have e:=e.bw f;have d:=d.bw f;have h:=aa h f;have C:=aa C f;refine Yb t<|Ye 0 O (Vn g_ j)<|Y1 1 ?_;refine Yk O ad (Vc (xY _ c Ac cc e.top (Q0 bC O2)) xT) (fun _ _ ⟨_,f⟩=>f) ?_;rintro _ w4 ⟨rfl,f⟩;have j:=j.bw f;have o:=o.bw f;have e:=e.bw f;have d:=d.bw f;have h:=aa h f;have C:=aa C f;refine Yo 2 O (fun _=>dn O)<|Yo 3 O (fun _=>X7 O) ?_
  refine Yl 14 O ?_ ?_<;>intro z
  ·refine Yp 4 O (gP z) ?_;refine Yp 5 O (gP z) ?_;refine Y1 6<|Yq O ⟨_,_,O,O,z⟩ ?_;refine Yp 7 O (gP z) ?_;refine Yo 8 O (fun _=>Xh O z O)<|Yo 9 O (fun _=>X7 O)<|Yp 10 O (gP O) ?_;refine Yp 11 O (gP O) ?_;refine Yp 12 O (gP O) ?_;refine Y1 13<|Yq O ⟨_,_,O,O,O⟩ ?_;refine Yp 14 O (gP O) ?_;refine Yo 15 O (fun _=>Xh O O O)<|Yo 16 O (fun _=>X7 O)<|Yp 17 O (gP O) ?_;refine Yp 18 O (gP O) ?_;refine Yp 19 O (gP O) ?_;refine Yp 20 O (gP O) ?_;refine Yp 21 O (gP O) ?_;refine Y1 22<|Yq O ⟨_,_,O,O,O⟩ ?_;refine Yp 23 O (gP O) ?_;refine Yo 24 O (fun _=>Xh O O O)<|Yo 25 O (fun _=>X7 O)<|Yp 26 O (gP O) ?_;refine Yp 27 O (gP O) ?_;refine Yp 28 O (gP O) ?_;refine Yp 29 O (gP O) ?_;refine Yp 30 O (gP O) ?_;refine Yp 31 O (gP O) ?_;refine Y1 32<|Yq O ⟨_,_,O,O,O⟩ ?_;refine Yp 33 O (gP O) ?_;refine Yo 34 O (fun _=>Xh O O O) ?_;refine Yd fun a t=>?_;exact ⟨t.sub ⟨O,O,O,X1 O (by first|rfl|(simp only [z,bs];done)|simp [z]),trivial⟩,C⟩
  have bI:gf c=true:=v6 z
  refine Yv 4 O (gW z) (X0 O uY (o.at 0)) ?_;refine Yu 5 O (gW z) (fun _=>fh O gq) ?_;refine Y1 6<|Yz O ⟨_,_,O,O,z⟩ (Vc (qc _ (qs.length:Int) 1 2) pV) ?_;refine Yu 7 O (gW z) (fun _=>dn O) ?_;refine Yo 8 O (fun _=>X9 O z O)<|Yo 9 O (fun _=>X7 O) ?_
  refine Yl 20 O ?_ ?_<;>intro m
  ·refine Yp 10 O (gP m) ?_;refine Yp 11 O (gP m) ?_;refine Yp 12 O (gP m) ?_;refine Y1 13<|Yq O ⟨_,_,O,O,m⟩ ?_;refine Yp 14 O (gP m) ?_;refine Yo 15 O (fun _=>Xh O m O)<|Yo 16 O (fun _=>X7 O)<|Yp 17 O (gP O) ?_;refine Yp 18 O (gP O) ?_;refine Yp 19 O (gP O) ?_;refine Yp 20 O (gP O) ?_;refine Yp 21 O (gP O) ?_;refine Y1 22<|Yq O ⟨_,_,O,O,O⟩ ?_;refine Yp 23 O (gP O) ?_;refine Yo 24 O (fun _=>Xh O O O)<|Yo 25 O (fun _=>X7 O)<|Yp 26 O (gP O) ?_;refine Yp 27 O (gP O) ?_;refine Yp 28 O (gP O) ?_;refine Yp 29 O (gP O) ?_;refine Yp 30 O (gP O) ?_;refine Yp 31 O (gP O) ?_;refine Y1 32<|Yq O ⟨_,_,O,O,O⟩ ?_;refine Yp 33 O (gP O) ?_;refine Yo 34 O (fun _=>Xh O O O) ?_;refine Yd fun a t=>?_;exact ⟨t.sub ⟨O,O,O,X1 O (by first|rfl|(simp only [z,m,bs];done)|simp [z,m]),trivial⟩,C⟩
  refine Yv 10 O (gW m) (X0 O uY (o.at 0)) ?_;refine Yu 11 O (gW m) (fun _=>Vd O oY 0) ?_;refine Yv 12 O (gW m) (X0 O X8 (j.at 0)) ?_;refine Y1 13<|Yk O ⟨_,_,O,O,m⟩ (Vc (PV _ Aqs cqs qs d.top c.n (by have:=(n' bI).1;omega) aD) KA) (fun _ _ ⟨_,f⟩=>f) ?_;rintro _ w5 ⟨rfl,f⟩;have j:=j.bw f;have o:=o.bw f;have e:=e.bw f;have d:=d.bw f;have h:=aa h f;have C:=aa C f;refine Yu 14 O (gW m) (fun _=>dn O) ?_;refine Yo 15 O (fun _=>X9 O m O)<|Yo 16 O (fun _=>X7 O) ?_
  refine Yl 27 O ?_ ?_<;>intro i
  ·refine Yp 17 O (gP i) ?_;refine Yp 18 O (gP i) ?_;refine Yp 19 O (gP i) ?_;refine Yp 20 O (gP i) ?_;refine Yp 21 O (gP i) ?_;refine Y1 22<|Yq O ⟨_,_,O,O,i⟩ ?_;refine Yp 23 O (gP i) ?_;refine Yo 24 O (fun _=>Xh O i O)<|Yo 25 O (fun _=>X7 O)<|Yp 26 O (gP O) ?_;refine Yp 27 O (gP O) ?_;refine Yp 28 O (gP O) ?_;refine Yp 29 O (gP O) ?_;refine Yp 30 O (gP O) ?_;refine Yp 31 O (gP O) ?_;refine Y1 32<|Yq O ⟨_,_,O,O,O⟩ ?_;refine Yp 33 O (gP O) ?_;refine Yo 34 O (fun _=>Xh O O O) ?_;refine Yd fun a t=>?_;exact ⟨t.sub ⟨O,O,O,X1 O (by first|rfl|(simp only [z,m,i,bs];done)|simp [z,m,i]),trivial⟩,C⟩
  refine Yu 17 O (gW i) (fun _=>X7 O) ?_;refine Yu 18 O (gW i) (fun _=>Vd O is 1) ?_;refine Yv 19 O (gW i) (X0 O gj (j.at 1)) ?_;refine Yu 20 O (gW i) (fun _=>fh O Xp) ?_;refine Yu 21 O (gW i) (fun _=>ld O O O0 O0) ?_;refine Y1 22<|Yz O ⟨_,_,O,O,i⟩ (Vc (qc _ p 0 ((c.gs.length:Int)-1)) pV) ?_;refine Yu 23 O (gW i) (fun _=>dn O) ?_;refine Yo 24 O (fun _=>X9 O i O)<|Yo 25 O (fun _=>X7 O) ?_
  refine Yl 36 O ?_ ?_<;>intro g
  ·refine Yp 26 O (gP g) ?_;refine Yp 27 O (gP g) ?_;refine Yp 28 O (gP g) ?_;refine Yp 29 O (gP g) ?_;refine Yp 30 O (gP g) ?_;refine Yp 31 O (gP g) ?_;refine Y1 32<|Yq O ⟨_,_,O,O,g⟩ ?_;refine Yp 33 O (gP g) ?_;refine Yo 34 O (fun _=>Xh O g O) ?_;refine Yd fun a t=>?_;exact ⟨t.sub ⟨O,O,O,X1 O (by first|rfl|(simp only [z,m,i,g,bs];done)|simp [z,m,i,g]),trivial⟩,C⟩
  have bJ:bq p 0 ((c.gs.length:Int)-1)=true:=by revert g;cases bq p 0 ((c.gs.length:Int)-1)<;>simp
  have bZ:=iw.1 bJ;refine Yu 26 O (gW g) (fun _=>Vd O is 1) ?_;refine Yv 27 O (gW g) (X0 O gj (j.at 1)) ?_;refine Yu 28 O (gW g) (fun _=>X7 O) ?_;refine Yi (k:=p.toNat) (u:=(Yy c p)) (enc:=ab) (l:=c.gs) 29 O ⟨_,_,O,O,g⟩ O O Xp ji Xl e (w_ O0) O0 ?_;intro cA aK;refine Yv 30 O (gW g) (Xt (l:=[vi ((Yy c p).k),vi ((Yy c p).a),vi ((Yy c p).b)]) O jd aK O) ?_;refine Yv 31 O (gW g) (X0 O uY (o.at 0)) ?_;refine Y1 32<|Yk O ⟨_,_,O,O,g⟩ (Vc (DH _ (Yy c p) Aqs cqs qs d.top aD) Bm) (fun _ _ ⟨_,f⟩=>f) ?_;rintro _ w6 ⟨rfl,f⟩;have h:=aa h f;have C:=aa C f;refine Yu 33 O (gW g) (fun _=>dn O) ?_;refine Yo 34 O (fun _=>X9 O g O) ?_;refine Yd fun a t=>?_;exact ⟨t.sub ⟨O,O,O,X1 O (by first|rfl|(simp only [z,m,i,g,bs];done)|simp [z,m,i,g]),trivial⟩,C⟩
 rintro a w7 ⟨t,f⟩;have j:=j.bw f;have o:=o.bw f;have e:=e.bw f;have d:=d.bw f;have h:=aa h f;refine bH _ _ ?_
 refine Xz t O ?_ ?_<;>intro D
 ·have E:=D
  have H:dx c p qs=none:=Ge (by rw [Fy] at D;exact uT D)
  refine ZS t fun aP=>?_;refine Za O<|Za O<|Zt aP fun a t=>?_;refine Q6<|X3<|X4 t (dj t O O O) ?_
  rw [H]
  exact ⟨none,0,O,(ah.nil _ _ _ _ _),h⟩
 have E:=D
 have aG:(gf c&&ib c p qs)=true:=by rw [Fy] at D;exact v6 D
 have aQ:=CQ aG;obtain ⟨bW,aR⟩:=(Qd _ _▸aG:gf c=true/\ib c p qs=true)
 have cB:0<=p:=by obtain ⟨_,_,k9,e9,_⟩:=vr aR;omega
 refine Q7<|bG _ _<|ZS t fun aS=>?_;refine Zf (X6 (k:=0) (vs:=[]) (zs:=[]) O gq pD O O) ?_;rintro _ w8 ⟨bK,rfl,aT,f,aU⟩;have aL:=Q0 h.size aT;have j:=j.bw f;have o:=o.bw f;have e:=e.bw f;have d:=d.bw f;have h:=aa h f;refine Za O<|ZX aS fun a t _ aH=>?_;refine ZS t fun aW=>?_;refine Zm O<|Za O<|Zt aW fun a t=>?_;refine Q8<|Xw (σ:=Nat×Int×(List Int)) (fun (s:Nat×Int×(List Int)) (a:Act) (w:World)=>match s with|(k,x,q)=>∃ J L,Fr a 77 [(3,(ae b4)),(5,(ae b5)),(8,.slice J q.length L),(9,vi x)]/\(x=p+(k:Int))/\(sv c p qs k q)/\al w b4 28 [vi c.n,.slice Ac c.gs.length cc]/\al w b5 66 [.slice Aqs qs.length cqs]/\ah w I.heap.size 3 1 bk J L q/\Rd w I.heap.size 52 ab Ac c.gs/\Rd w I.heap.size 3 bk Aqs qs/\Bl I w) (fun (s:Nat×Int×(List Int))=>match s with|(k,x,q)=>c.gs.length+1-(p.toNat+k)) (0,p,[]) ?_ ?_
 ·exact ⟨some ⟨bK,0,none⟩,0,t.sb,O6,(Gv aR),j,o,(ah.empty aU aL),e,d,h⟩
 rintro ⟨k,x,q⟩ a w9 ⟨J,L,t,hx,hS,j,o,y,e,d,h⟩;refine Q5 fun _ aX=>?_;refine Q5 fun _ aY=>?_;refine eo (fun a w=>Fr a 77 [(3,(ae b4)),(5,(ae b5)),(8,.slice J q.length L),(9,vi x),(57,.bool ((decide (x<(c.gs.length:Int)))&&(decide ((q.length:Int)<6))))]/\w9=w) ?_ ?_
 ·refine Zr t<|Zm O<|Ze (Vd O is 1)<|Ze (X0 O gj (j.at 1))<|Ze (fh O Xp)<|Ze (ew O O)<|Zm O ?_
  refine Zg 53 O ?_ ?_<;>intro B
  ·refine Zv (gW B) (X7 O) ?_;refine Zv (gW B) (fh O gq) ?_;refine Zv (gW B) (ew O O) ?_;refine Ze (Xh O B O) ?_;refine Zn fun a t=>?_;exact ⟨t.sub ⟨O,O,O,O,X1 O (by first|rfl|(simp only [E,B,bs];done)|simp [E,B]),trivial⟩,O⟩
  (iterate 3 refine Zp (gP B) ?_);refine Ze (X9 O B O) ?_;refine Zn fun a t=>?_;exact ⟨t.sub ⟨O,O,O,O,X1 O (by first|rfl|(simp only [E,B,bs];done)|simp [E,B]),trivial⟩,O⟩
 rintro a _ ⟨t,rfl⟩;refine aY _ _ ?_
 refine Xz t O ?_ ?_<;>intro U
 ·obtain ⟨cC,cD⟩ : x<(c.gs.length:Int)/\(q.length:Int)<6:=by simpa using U
  have aM:q.length<6:=by omega
  obtain ⟨Q,aE⟩:=Xe (l:=c.gs) (k:=p.toNat+k) O0
  refine Q7<|aX _ _<|Q5 fun _ aI=>?_;refine Q8<|ZS t fun aZ=>?_;refine Ze (Vd O is 1)<|Ze (X0 O gj (j.at 1))<|Zm O<|Zi (k:=(p.toNat+k)) (u:=Q) (enc:=ab) (l:=c.gs) ad O O Xp ji Xl e aE O0 ?_;intro cE aN;refine Ze (Xt (l:=[vi Q.k,vi Q.a,vi Q.b]) O jd aN O) ?_;refine ZB [vi Q.k,vi Q.a,vi Q.b] ql ji fun cF cG b0 f M=>?_;have bL:=Q0 h.size b0;have j:=j.bw f;have o:=o.bw f;have y:=y.bw f;have e:=e.bw f;have d:=d.bw f;have h:=aa h f;refine Zx aZ fun a t _ b1=>?_;refine Ze (Vn jd M)<|Ze (X0 O uY (o.at 0))<|Zf (Vc (DH _ Q Aqs cqs qs d.top aD) Bm) ?_;rintro _ cH ⟨rfl,f⟩;have j:=j.bw f;have o:=o.bw f;have M:=M.bw f;have y:=y.bw f;have e:=e.bw f;have d:=d.bw f;have h:=aa h f;refine Zt b1 fun a t=>?_
  refine Xz t O ?_ ?_<;>intro W
  ·have aF:=W;refine Zr t<|Zm O<|Zm O<|Zf (X6 (k:=1) (vs:=[vi x]) (zs:=[vi x]) O gq pD O O) ?_;rintro _ cI ⟨cJ,rfl,aJ,f,aA⟩;have bM:=Q0 h.size aJ;have N:=y.away aJ;have j:=j.bw f;have o:=o.bw f;have y:=y.bw f;have e:=e.bw f;have d:=d.bw f;have h:=aa h f;refine Zf (jf (enc:=bk) (l:=(q)) (l2:=([x])) (B0:=I.heap.size) O O gq pD kp vR y (Rd.of_blk aA O _ aA.lt) (by simp only [maxLen];simp;omega) O5 h.size) ?_;rintro _ cK ⟨bN,bO,rfl,b2,hg,b3⟩
   have G:ah _ I.heap.size 3 1 bk _ _ (q):=y
   have aO:=b3 _ aA.lt N;clear b3;have j:=j.appT G hg O;have o:=o.appT G hg O;have e:=e.appT G hg O;have d:=d.appB G hg (Qb _);have h:=Below.app h G hg (Qb _) h.size;clear G hg;refine Za O ?_;refine Zn fun a t=>?_;refine Xk<|aI _ _<|Zr t<|Zm O<|Ze (Xs O O O0 O0)<|Za O ?_;refine Zn fun a t=>?_;refine Xb ?_;exact ⟨(k+1,x+1,q++([x])),⟨bN,bO,t.sb,O0,(Ik hx hS aE aM aF),j,o,b2,e,d,h⟩,O3⟩
  have aF:=W;refine ZS t fun b6=>?_;refine Ze (Vn jd M)<|Zf (Vc (Hy _ Q) Gz) ?_;rintro _ cM ⟨bP,bQ,rfl,aB,f⟩;have aB:=aB.lower h.size;have j:=j.bw f;have o:=o.bw f;have y:=y.bw f;have e:=e.bw f;have d:=d.bw f;have h:=aa h f;refine Ze (tQ (vs:=[(ae b5)]) O)<|Zf (Vc (FI _ bP bQ (bv Q) aB.rd.top 68 [(ae b5)] MF (h_ qs) (fun x9 w9 b7=>V6 w9 x9 qs b5 Aqs cqs ((d.top).bw b7).top (o.bw b7) aD) (by have:=xx Q;omega)) GO) ?_;rintro _ cO ⟨rfl,f⟩;have j:=j.bw f;have o:=o.bw f;have y:=y.bw f;have e:=e.bw f;have d:=d.bw f;have h:=aa h f;refine Zt b6 fun a t=>?_
  refine Xz t O ?_ ?_<;>intro aC
  ·have H:=G5 hS aE aM aF aC;refine Q9<|BP O ?_;refine Xf<|Xf<|Xv<|aH _ _ ?_;refine ZS t fun b8=>?_;refine Zm O<|Za O<|Za O<|Zt b8 fun a t=>?_
   refine Q6 (X4 t (dj t O O O) ?_)
   rw [aQ]
   rw [<- H]
   exact ⟨J,L,O,y,h⟩
  have bR:nk Q qs=false:=aC
  refine Q7<|Xk<|aI _ _<|Zr t ?_;refine Zm O<|Ze (Xs O O O0 O0)<|Za O ?_;refine Zn fun a t=>?_;refine Xb ?_;exact ⟨(k+1,x+1,q),⟨J,L,t.sb,O0,(FX hS aE aM aF bR),j,o,y,e,d,h⟩,O3⟩
 have H:=Ka hS (by have h9:¬ (x<(c.gs.length:Int)/\(q.length:Int)<6):=(by simpa using U);omega)
 refine Q9<|Xf<|Xf<|Xv ?_;refine aH _ _<|ZS t fun b9=>?_;refine Zm O<|Za O<|Za O<|Zt b9 fun a t=>?_
 refine Q6 (X4 t (dj t O O O) ?_)
 rw [aQ]
 rw [<- H]
 exact ⟨J,L,O,y,h⟩
theorem H_(L:World)(c:Cx)(Ac:Option Addr)(cc:Nat)(f:Rw L 52 ab Ac c.gs)(p:Int)(Aqs:Option Addr)(cqs:Nat)(qs:List Int)(d:Rw L 3 bk Aqs qs)(hc:gf c=true)(aI:qs.length<=1048576):RE 53 [.agg #[vi c.n,.slice Ac c.gs.length cc],vi p,.slice Aqs qs.length cqs] L (fun v w=>∃ A c1,v=.tuple #[.slice A ((nm c p qs).getD []).length c1,.bool ((nm c p qs).isSome)]/\ah w L.heap.size 3 1 bk A c1 ((nm c p qs).getD [])/\Bl L w):=by
 obtain ⟨bD,bE,bP⟩:=n' hc
 have bN:c.gs.length<=400:=bE
 refine enter func53 O 79 O O ?_;intro a e
 have B:=bz L
 refine ZS e fun bF=>Zf (bt (zs:=[vi c.n,.slice Ac c.gs.length cc]) O O) ?_;rintro _ w1 ⟨b4,rfl,bG,h,g⟩;have bO:=Q0 B.size bG;have ⟨f,d,B⟩:=bh h f d B;refine Za O<|Za O<|ZX bF fun a e _ bH=>Q5 fun _ bI=>eo (fun a w=>Fr a 79 [(1,vi p),(2,.slice Aqs qs.length cqs),(3,(ae b4)),(26,.bool ((!(bq (qs.length:Int) 1 2&&kw qs 0 (c.n-1)))||(!(bq p 0 ((c.gs.length:Int)-1)))))]/\Bl w1 w) ?_ ?_
 ·have aC:Bl w1 w1:=Below.refl _ _
  refine Zr e<|Ze (Vn g_ g)<|Zm O<|Zf (Vc (VV _ c Ac cc f.top Aqs cqs qs d.top bD aI) RL) ?_;rintro _ w2 ⟨rfl,h⟩;have ⟨g,B,aC⟩:=bh h g B aC;refine Ze (dn O)<|Zm O<|Zg 18 O ?_ ?_<;>intro i
  ·(iterate 7 refine Zp (gP i) ?_);exact Ze (Xh O i O)<|Zn fun a e=>⟨e.sub ⟨O,O,O,X1 O (by simp[i]),trivial⟩,aC⟩
  refine Zv (gW i) (X7 O) ?_;refine Zv (gW i) (Vd O is 1) ?_;refine Zv (gW i) (X0 O gj (g.at 1)) ?_;refine Zv (gW i) (fh O Xp) ?_;refine Zv (gW i) (ld O O O0 O0) ?_;refine Zk (gW i) (Vc (ru _ p 0 ((c.gs.length:Int)-1)) rq) ?_;rintro _ _ ⟨rfl,rfl⟩;refine Zv (gW i) (dn O) ?_;exact Ze (X9 O i O)<|Zn fun a e=>⟨e.sub ⟨O,O,O,X1 O (by simp[i]),trivial⟩,aC⟩
 rintro a w3 ⟨e,h⟩;have ⟨g,f,d,B⟩:=dk h g f d B;refine bI _ _<|Xz e O ?_ ?_<;>intro z
 ·have U:ib c p qs=false:=by have h9:=z;unfold ib;revert h9;cases bq (qs.length:Int) 1 2<;>cases kw qs 0 (c.n-1)<;>cases bq p 0 ((c.gs.length:Int)-1)<;>simp
  have D:=Dg U;refine ZS e fun aP=>Za O<|Za O<|Zt aP fun a e=>Q6<|X3<|X4 e (dj e O O O) ?_
  rw[D]
  exact ⟨none,0,O,(ah.nil _ _ _ _ _),B⟩
 have M:(bq (qs.length:Int) 1 2=true/\kw qs 0 (c.n-1)=true)/\bq p 0 ((c.gs.length:Int)-1)=true:=by have h9:=z;revert h9;cases bq (qs.length:Int) 1 2<;>cases kw qs 0 (c.n-1)<;>cases bq p 0 ((c.gs.length:Int)-1)<;>simp
 have bJ:=iw.1 M.2;have bQ:=bJ.1;refine Q7<|bH _ _<|Q5 fun _ aQ=>ZS e fun aR=>Ze (Vd O is 1)<|Ze (X0 O gj (g.at 1))<|Zm O<|Zi (k:=p.toNat) (u:=(Yy c p)) (enc:=ab) (l:=c.gs) ad O O Xp ji Xl f (w_ O0) O0 ?_;intro bR aJ;refine Ze (Xt (l:=[vi ((Yy c p).k),vi ((Yy c p).a),vi ((Yy c p).b)]) O jd aJ O)<|Zm O<|Zf (Vc (C7 _ (Yy c p) Aqs cqs qs d.top aI) DA) ?_;rintro _ w4 ⟨rfl,h⟩;have ⟨g,f,d,B⟩:=dk h g f d B;refine Zm O<|Ze (X2 (vs:=[vi (qq (Yy c p) qs:Int),vi (pO (Yy c p) qs:Int)]) O O)<|Ze (X2 (vs:=[vi (qq (Yy c p) qs:Int),vi (pO (Yy c p) qs:Int)]) O O)<|Za O<|Za O<|ZX aR fun a e _ aS=>eo (fun a w=>Fr a 79 [(1,vi p),(2,.slice Aqs qs.length cqs),(3,(ae b4)),(42,.bool (((qq (Yy c p) qs:Int)==0)||(decide (0<(pO (Yy c p) qs:Int)))))]/\w4=w) ?_ ?_
 ·refine Zr e<|Zm O<|Ze (go O O)<|Zm O<|Zg 39 O ?_ ?_<;>intro o
  ·(iterate 2 refine Zp (gP o) ?_);exact Ze (Xh O o O)<|Zn fun a e=>⟨e.sub ⟨O,O,O,X1 O (by first|rfl|(simp only[z,o,bs];done)|simp[z,o]),trivial⟩,O⟩
  refine Zv (gW o) (X7 O) ?_;refine Zv (gW o) (oo O O) ?_;refine Ze (X9 O o O) ?_;refine Zn fun a e=>?_;exact ⟨e.sub ⟨O,O,O,X1 O (by first|rfl|(simp only[z,o,bs];done)|simp[z,o]),trivial⟩,O⟩
 rintro a _ ⟨e,rfl⟩;refine aS _ _<|Xz e O ?_ ?_<;>intro G
 ·have m:=G
  have U:ib c p qs=false:=by unfold ib;rw[M.1.1,M.1.2,M.2,xr,<- xt];revert G;by_cases h8:qq (Yy c p) qs=0<;>by_cases h7:pO (Yy c p) qs=0<;>simp[h8,h7]<;>omega
  have D:=Dg U;refine ZS e fun aT=>Za O<|Za O<|Zt aT fun a e=>Q6<|X3<|X4 e (dj e O O O) ?_
  rw[D]
  exact ⟨none,0,O,(ah.nil _ _ _ _ _),B⟩
 have m:=G
 have aU:ib c p qs=true:=by unfold ib;rw[M.1.1,M.1.2,M.2,xr,<- xt];revert G;by_cases h8:qq (Yy c p) qs=0<;>by_cases h7:pO (Yy c p) qs=0<;>simp[h8,h7]<;>omega
 have aW:=Dh aU;refine Q7<|aQ _ _<|ZS e fun aX=>Za O<|ZX aX fun a e _ aF=>ZS e fun aY=>Zm O<|Za O<|Zt aY fun a e=>Q8<|Xw (σ:=Nat×Int×(List Int)) (fun (s:Nat×Int×(List Int)) (a:Act) (w:World)=>match s with|(k,x,q)=>∃ H I,Fr a 79 [(2,.slice Aqs qs.length cqs),(3,(ae b4)),(10,.slice H q.length I),(11,vi x)]/\(x=p+(k:Int))/\(sv c p qs k q)/\al w b4 28 [vi c.n,.slice Ac c.gs.length cc]/\ah w L.heap.size 3 1 bk H I q/\Rd w L.heap.size 52 ab Ac c.gs/\Rd w L.heap.size 3 bk Aqs qs/\Bl L w) (fun (s:Nat×Int×(List Int))=>match s with|(k,x,q)=>c.gs.length+1-(p.toNat+k)) (0,p,[]) ?_ ?_
 ·exact ⟨none,0,e.sb,O6,(Gv aU),g,(ah.nil _ _ _ _ _),f,d,B⟩
 rintro ⟨k,x,q⟩ a w5 ⟨H,I,e,hx,hS,g,y,f,d,B⟩;refine Q5 fun _ aZ=>Q5 fun _ b0=>eo (fun a w=>Fr a 79 [(2,.slice Aqs qs.length cqs),(3,(ae b4)),(10,.slice H q.length I),(11,vi x),(53,.bool ((decide (x<(c.gs.length:Int)))&&(decide ((q.length:Int)<6))))]/\w5=w) ?_ ?_
 ·refine Zr e<|Zm O<|Ze (Vd O is 1)<|Ze (X0 O gj (g.at 1))<|Ze (fh O Xp)<|Ze (ew O O)<|Zm O<|Zg 49 O ?_ ?_<;>intro j
  ·refine Zv (gW j) (X7 O) ?_;refine Zv (gW j) (fh O gq) ?_;refine Zv (gW j) (ew O O) ?_;refine Ze (Xh O j O) ?_;refine Zn fun a e=>?_;exact ⟨e.sub ⟨O,O,O,O,X1 O (by first|rfl|(simp only[z,m,j,bs];done)|simp[z,m,j]),trivial⟩,O⟩
  (iterate 3 refine Zp (gP j) ?_);exact Ze (X9 O j O)<|Zn fun a e=>⟨e.sub ⟨O,O,O,O,X1 O (by simp[z,m,j]),trivial⟩,O⟩
 rintro a _ ⟨e,rfl⟩;refine b0 _ _<|Xz e O ?_ ?_<;>intro E
 ·obtain ⟨bS,bU⟩ : x<(c.gs.length:Int)/\(q.length:Int)<6:=by simpa using E
  have aK:q.length<6:=by omega
  obtain ⟨C,aD⟩:=Xe (l:=c.gs) (k:=p.toNat+k) O0
  refine Q7<|aZ _ _<|Q5 fun _ aG=>Q8<|ZS e fun b1=>Ze (Vd O is 1)<|Ze (X0 O gj (g.at 1))<|Zm O<|Zi (k:=(p.toNat+k)) (u:=C) (enc:=ab) (l:=c.gs) ad O O Xp ji Xl f aD O0 ?_;intro bW aL;refine Ze (Xt (l:=[vi C.k,vi C.a,vi C.b]) O jd aL O)<|Zm O<|Zf (Vc (C7 _ C Aqs cqs qs d.top aI) DA) ?_;rintro _ w6 ⟨rfl,h⟩;have ⟨g,y,f,d,B⟩:=io h g y f d B;refine Zm O<|Ze (X2 (vs:=[vi (qq C qs:Int),vi (pO C qs:Int)]) O O)<|Ze (X2 (vs:=[vi (qq C qs:Int),vi (pO C qs:Int)]) O O)<|Za O<|Za O<|ZX b1 fun a e _ b2=>Q5 fun _ b3=>eo (fun a w=>Fr a 79 [(2,.slice Aqs qs.length cqs),(3,(ae b4)),(10,.slice H q.length I),(11,vi x),(12,vi (qq C qs:Int)),(71,.bool ((decide (0<(qq C qs:Int)))&&(decide (0<(pO C qs:Int)))))]/\w6=w) ?_ ?_
  ·refine Zr e<|Zm O<|Ze (oo O O)<|Zm O<|Zg 68 O ?_ ?_<;>intro t
   ·refine Zv (gW t) (X7 O) ?_;refine Zv (gW t) (oo O O) ?_;refine Ze (Xh O t O) ?_;refine Zn fun a e=>?_;exact ⟨e.sub ⟨O,O,O,O,O,X1 O (by first|rfl|(simp only[z,m,E,t,bs];done)|simp[z,m,E,t]),trivial⟩,O⟩
   (iterate 2 refine Zp (gP t) ?_);exact Ze (X9 O t O)<|Zn fun a e=>⟨e.sub ⟨O,O,O,O,O,X1 O (by first|rfl|(simp only[z,m,E,t,bs];done)|simp[z,m,E,t]),trivial⟩,O⟩
  rintro a _ ⟨e,rfl⟩;refine b3 _ _<|Xz e O ?_ ?_<;>intro W
  ·have N:(decide (0<(qq C qs:Int))&&decide (0<(pO C qs:Int)))=true:=W
   rw[H9] at N
   have b5:nk C qs=true/\i_ C qs=false:=by revert N;cases nk C qs<;>cases i_ C qs<;>simp
   have D:=G5 hS aD aK b5.2 b5.1;refine Q9<|Xf<|BP O<|Xf<|Xf<|Xv<|aF _ _<|ZS e fun b6=>Zm O<|Za O<|Za O<|Zt b6 fun a e=>Q6 (X4 e (dj e O O O) ?_)
   rw[aW]
   rw[<- D]
   exact ⟨H,I,O,y,B⟩
  have N:(decide (0<(qq C qs:Int))&&decide (0<(pO C qs:Int)))=false:=W
  rw[H9] at N
  refine Q7<|b2 _ _<|ZS e fun b7=>Zm O<|Ze (oo O O)<|Zt b7 fun a e=>eh e O (fun aM aA=>?_) (fun aM aA=>?_)
  ·have aE:nk C qs=true:=by rw[<- xt];exact decide_eq_true aA
   have aN:i_ C qs=true:=by rw[aE] at N;simpa using N
   refine Zr e<|Zm O<|Zm O<|Zf (X6 (k:=1) (vs:=[vi x]) (zs:=[vi x]) O gq pD O O) ?_;rintro _ w7 ⟨bZ,rfl,aH,h,aB⟩;have bK:=Q0 B.size aH;have Q:=y.away aH;have ⟨g,y,f,d,B⟩:=io h g y f d B;refine Zf (jf (enc:=bk) (l:=(q)) (l2:=([x])) (B0:=L.heap.size) O O gq pD kp vR y (Rd.of_blk aB O _ aB.lt) (by simp only[maxLen];simp;omega) O5 B.size) ?_;rintro _ w8 ⟨bL,bM,rfl,b8,hg,b9⟩
   have J:ah _ L.heap.size 3 1 bk _ _ (q):=y
   have aO:=b9 _ aB.lt Q;clear b9;have g:=g.appT J hg O;have f:=f.appT J hg O;have d:=d.appB J hg (Qb _);have B:=Below.app B J hg (Qb _) B.size;clear J hg;exact Za O<|Zn fun a e=>Xk<|aG _ _<|Zr e<|Zm O<|Ze (Xs O O O0 O0)<|Za O<|Zn fun a e=>Xb<|⟨(k+1,x+1,q++([x])),⟨bL,bM,e.sb,O0,(Ik hx hS aD aK aN),g,b8,f,d,B⟩,O3⟩
  have aE:nk C qs=false:=by rw[<- xt];exact decide_eq_false aA
  have aN:i_ C qs=false:=by rw[xr,aE];rfl
  exact Q7<|Xk<|aG _ _<|Zr e<|Zm O<|Ze (Xs O O O0 O0)<|Za O<|Zn fun a e=>Xb<|⟨(k+1,x+1,q),⟨H,I,e.sb,O0,(FX hS aD aK aN aE),g,y,f,d,B⟩,O3⟩
 have D:=Ka hS (by have h9:¬ (x<(c.gs.length:Int)/\(q.length:Int)<6):=(by simpa using E);omega)
 refine Q9<|Xf<|Xf<|Xv<|aF _ _<|ZS e fun bC=>Zm O<|Za O<|Za O<|Zt bC fun a e=>Q6 (X4 e (dj e O O O) ?_)
 rw[aW]
 rw[<- D]
 exact ⟨H,I,O,y,B⟩
theorem H4(N:World)(c:Cx)(Ac:Option Addr)(cc:Nat)(d:Rw N 52 ab Ac c.gs)(L:c.gs.length<=cc)(p:Int)(Aqs:Option Addr)(cqs:Nat)(qs:List Int)(t:Rw N 3 bk Aqs qs)(Aws:Option Addr)(cws:Nat)(ws:List Gt)(y:Rw N 52 ab Aws ws)(d9:c.gs.length<=1000000000)(dN:ws.length<=1000000)(bM:qs.length<=1048576):RE 46 [.agg #[vi c.n,.slice Ac c.gs.length cc],vi p,.slice Aqs qs.length cqs,.slice Aws ws.length cws] N (fun v w=>∃ A9 e9 B9 f9,v=.tuple #[.agg #[vi (((dx c p qs).bind fun run=>ay c p run qs ws).getD df).pos,.slice A9 (((dx c p qs).bind fun run=>ay c p run qs ws).getD df).old.length e9,.slice B9 (((dx c p qs).bind fun run=>ay c p run qs ws).getD df).new.length f9],.bool ((dx c p qs).bind fun run=>ay c p run qs ws).isSome]/\ah w N.heap.size 52 3 ab A9 e9 (((dx c p qs).bind fun run=>ay c p run qs ws).getD df).old/\ah w N.heap.size 52 3 ab B9 f9 (((dx c p qs).bind fun run=>ay c p run qs ws).getD df).new/\a_ A9 B9/\Bl N w):=by
 obtain ⟨rr,bN⟩ : ∃ rr,rr=(dx c p qs).getD []:=⟨_,O⟩
 obtain ⟨ro,b6⟩ : ∃ ro:Bool,ro=(dx c p qs).isSome:=⟨_,O⟩
 refine enter func46 O 100 O O ?_;intro a z
 have C:=bz N
 refine ZS z fun dA=>Zf (bt (zs:=[vi c.n,.slice Ac c.gs.length cc]) O O) ?_;rintro _ w1 ⟨b5,rfl,dB,f,o⟩;have dH:=Q0 C.size dB;have ⟨d,t,y,C⟩:=dk f d t y C;refine Zf (Xi (zs:=[vi 0,.slice none 0 0,.slice none 0 0]) px O) ?_;rintro _ w2 ⟨b8,rfl,dC,f,g⟩;have aJ:=Q0 C.size dC;have ⟨o,d,t,y,C⟩:=io f o d t y C;refine Za O<|Zx dA fun a z _ dD=>Ze (Vn g_ o)<|Zm O<|Zm O<|Zf (ki (vs:=[.agg #[vi c.n,.slice Ac c.gs.length cc],vi p,.slice Aqs qs.length cqs]) O I0 (by have hq:=I8 w2 c Ac cc d.top p Aqs cqs qs t.top d9 bM;rw[<- bN,<- b6] at hq;exact hq)) ?_;rintro _ w3 ⟨aD,aE,rfl,e,f⟩;have e:=e.lower C.size;have ⟨o,g,d,t,y,C⟩:=kf f o g d t y C;refine Zm O<|Ze (X2 (vs:=[.slice aD rr.length aE,.bool ro]) O O)<|Ze (X2 (vs:=[.slice aD rr.length aE,.bool ro]) O O)<|Za O<|Za O<|ZX dD fun a z _ bO=>ZS z fun bP=>Zm O<|Ze (dn O)<|Zt bP fun a z=>Xz z O ?_ ?_<;>intro H
 ·have bQ:(dx c p qs).isSome=false:=by rw[<- b6];simpa using H
  have Q:((dx c p qs).bind fun run=>ay c p run qs ws)=none:=by rw[QU bQ];rfl
  refine ZS z fun bR=>Ze (Xg (ps:=[]) (cs:=[vi 0,.slice none 0 0,.slice none 0 0]) O (fun _=>by first|rfl|kernel_rfl))<|Zo (Vw [vi 0,.slice none 0 0,.slice none 0 0] ml g) ?_;rintro _ w4 ⟨ho,hb⟩;have C:=Below.oy C ho aJ;have g:=hb;refine Za O<|Zt bR fun a z=>Q6<|X3<|X4 z (dj z O (an.cellN (l:=[vi 0,.slice none 0 0,.slice none 0 0]) O mt (g.at 0) O) O) ?_
  rw[Q]
  exact ⟨none,0,none,0,O,(ah.nil _ _ _ _ _),(ah.nil _ _ _ _ _),(a_.none_l _),C⟩
 obtain ⟨bS,b7,bU⟩:=Ls (c:=c) (p:=p) (qs:=qs) (by rw[<- b6];simpa using H)
 have aY:rr=du c p qs:=by rw[bN,bU];rfl
 have dI:c.gs.length<=400:=(n' bS).2.1
 obtain ⟨j9,aK,dP,bW,b1⟩:=AA b7
 rw[<- aY] at aK b1
 have dQ:=yq aK bW
 have dJ:rr.length<=6:=by rw[aY];exact xV ..
 have dK:1<=rr.length:=by rw[aY];exact yF b7
 have bZ:0<=p:=by obtain ⟨_,_,k9,e9,_⟩:=vr b7;omega
 have b9:((dx c p qs).bind fun run=>ay c p run qs ws)=ay c p rr qs ws:=by rw[bU,aY];rfl
 refine Q7<|bO _ _<|Q5 fun _ cA=>ZS z fun cB=>Zm O<|Ze (fh O Xp)<|Zm O<|Zt cB fun a z=>Q8<|Xw (σ:=Nat) (fun (k:Nat) (a:Act) (w:World)=>Fr a 100 [(1,vi p),(2,.slice Aqs qs.length cqs),(3,.slice Aws ws.length cws),(4,(ae b5)),(8,(ae b8)),(10,.slice aD rr.length aE),(27,.slice Aws ws.length cws),(28,vi (ws.length:Int)),(29,vi (k:Int))]/\(k<=ws.length)/\((ws.take k).all (pb c.n qs)=true)/\al w b5 28 [vi c.n,.slice Ac c.gs.length cc]/\al w b8 56 [vi 0,.slice none 0 0,.slice none 0 0]/\Rd w N.heap.size 52 ab Ac c.gs/\Rd w N.heap.size 3 bk Aqs qs/\Rd w N.heap.size 52 ab Aws ws/\ah w N.heap.size 3 1 bk aD aE rr/\c.gs.length<=cc/\Bl N w) (fun (k:Nat)=>ws.length-k) 0 ?_ ?_
 ·exact ⟨z.sb,(Qf _),O6,o,g,d,t,y,e,L,C⟩
 rintro k a w5 ⟨z,bC,bD,o,g,d,t,y,e,L,C⟩;refine ZS z fun cC=>Ze (ew O O)<|ZX cC fun a z _ cD=>eh z O (fun D cE=>?_) (fun D cE=>?_)
 ·obtain ⟨M,aO⟩:=Xe (l:=ws) (k:=k) O0
  refine Q7<|cD _ _<|Q5 fun _ cF=>Q8<|ZS z fun cG=>Zi (k:=k) (u:=M) (enc:=ab) (l:=ws) ad O O Xp ji Xl y aO O ?_;intro dR bE;refine Ze (Xt (l:=[vi M.k,vi M.a,vi M.b]) O jd bE O)<|ZB [vi M.k,vi M.a,vi M.b] ql ji fun dS w7 cH f aF=>?_;have dE:=Q0 C.size cH;have ⟨o,g,d,t,y,e,C⟩:=lf f o g d t y e C;refine ZX cG fun a z _ cI=>eo (fun a w=>Fr a 100 [(1,vi p),(2,.slice Aqs qs.length cqs),(3,.slice Aws ws.length cws),(4,(ae b5)),(8,(ae b8)),(10,.slice aD rr.length aE),(27,.slice Aws ws.length cws),(28,vi (ws.length:Int)),(29,vi (k:Int)),(48,.bool ((!(gp c.n M))||((M.k != 12)&&(!(i_ M qs)))))]/\Bl w7 w) ?_ ?_
  ·have aH:Bl w7 w7:=Below.refl _ _
   refine Zr z<|Ze (Vd O oY 0)<|Ze (X0 O X8 (o.at 0))<|Ze (Vn jd aF)<|Zf (Vc (yI _ c.n M) zh) ?_;rintro _ w8 ⟨rfl,f⟩;have ⟨aF,t,C,aH⟩:=dk f aF t C aH;refine Ze (dn O)<|Zm O<|Zg 38 O ?_ ?_<;>intro B
   ·(iterate 4 refine Zp (gP B) ?_);(iterate 4 refine Zp (gP ad) ?_);exact Zp (gP B)<|Ze (Xh O B O)<|Zn fun a z=>⟨z.sub ⟨O,O,O,O,O,O,O,O,O,X1 O (by simp[H,D,B]),trivial⟩,aH⟩
   refine Zv (gW B) (Vd O mo 0) ?_;refine Zv (gW B) (X0 O X8 (aF.at 0)) ?_;refine Zv (gW B) (kz O O) ?_;refine Zv (gW B) (X7 O) ?_
   refine Zg 42 O ?_ ?_<;>intro E
   ·refine Zv (gW E) (Vn jd aF) ?_;refine Zv (gW E) (X7 O) ?_;refine Zk (gW E) (Vc (DH _ M Aqs cqs qs t.top bM) Bm) ?_;rintro _ w9 ⟨rfl,f⟩;have C:=aa C f;have aH:=aa aH f;refine Zv (gW E) (dn O) ?_;refine Zv (gW B) (Xh O E O) ?_;exact Ze (X9 O B O)<|Zn fun a z=>⟨z.sub ⟨O,O,O,O,O,O,O,O,O,X1 O (by first|rfl|(simp only[H,D,B,E,bs];done)|simp[H,D,B,E]),trivial⟩,aH⟩
   (iterate 4 refine Zp (gP E) ?_);refine Zv (gW B) (X9 O E O) ?_;refine Ze (X9 O B O) ?_;refine Zn fun a z=>?_;exact ⟨z.sub ⟨O,O,O,O,O,O,O,O,O,X1 O (by first|rfl|(simp only[H,D,B,E,bs];done)|simp[H,D,B,E]),trivial⟩,aH⟩
  rintro a dT ⟨z,f⟩;have ⟨o,g,d,t,y,e,C⟩:=lf f o g d t y e C;refine cI _ _<|Xz z O ?_ ?_<;>intro aP
  ·have h8:pb c.n qs M=false:=by have h9:=aP;rw[Iu] at h9;simpa using h9
   have Q:=b9.trans (DR (D5 aO h8));refine ZS z fun cJ=>Ze (Xg (ps:=[]) (cs:=[vi 0,.slice none 0 0,.slice none 0 0]) O (fun _=>by first|rfl|kernel_rfl))<|Zo (Vw [vi 0,.slice none 0 0,.slice none 0 0] ml g) ?_;rintro _ dU ⟨ho,hb⟩;have C:=Below.oy C ho aJ;have g:=hb;refine Za O<|Zt cJ fun a z=>Q6<|Xn<|X3<|X3<|Xn<|X3<|X4 z (dj z O (an.cellN (l:=[vi 0,.slice none 0 0,.slice none 0 0]) O mt (g.at 0) O) O) ?_
   rw[Q]
   exact ⟨none,0,none,0,O,(ah.nil _ _ _ _ _),(ah.nil _ _ _ _ _),(a_.none_l _),C⟩
  have h8:pb c.n qs M=true:=by have h9:=aP;rw[Iu] at h9;simpa using h9
  exact Q7<|Xk<|cF _ _<|Zr z<|Ze (Xs O O O0 O0)<|Zm O<|Zn fun a z=>Xb<|⟨k+1,⟨z.sb,O0,(Hi bD aO h8),o,g,d,t,y,e,L,C⟩,O0⟩
 have b2:ws.all (pb c.n qs)=true:=by rw[Qi O0] at bD;exact bD
 refine Q9<|Xf<|Xf<|Xv<|cA _ _<|ZS z fun cK=>Zm O<|Zm O<|Ze (fh O gq)<|Ze (ld O O O0 O0)<|Zi (k:=(rr.length-1)) (u:=(ia rr)) (enc:=bk) (l:=rr) ad O O gq jw kp e.rd b1 O0 ?_;intro dW bF;refine Ze (X0 O X8 bF)<|Za O<|Zx cK fun a z _ cM=>Zm O<|Ze (Vd O is 1)<|Ze (X0 O gj (o.at 1))<|Zm O<|Zm O<|Ze (Xs O O O0 O0) ?_;have cO:=((d.top).takeK Xl (j9+1)).dropK Xl (c:=cc) (BZ L (j9+1)) p.toNat;refine Ze (B5 (l:=c.gs) (k:=p.toNat) (m:=(j9+1)) O O O Xp ji O0 (by rw[aK];omega) O0 O0 L)<|Zf (Vc (GB _ (if cc=p.toNat then Ac else Ac.map (·.add (p.toNat*3))) (cc-p.toNat) ((c.gs.take (j9+1)).drop p.toNat) cO.top O5) EP) ?_;rintro _ dX ⟨aA,aC,rfl,i,f⟩;have i:=i.lower C.size;have ⟨o,g,d,y,e,C⟩:=kf f o g d y e C;refine Zm O<|Zf (Vc (GB _ Aws cws ws y.top O0) EP) ?_;rintro _ dY ⟨aZ,b0,rfl,aB,f⟩;have aL:=i.apart aB (Qb _);have aB:=aB.lower C.size;have ⟨o,g,d,e,i,C⟩:=kf f o g d e i C;refine Ze (Xg (ps:=[(0,vi p),(1,.slice aA ((c.gs.take (j9+1)).drop p.toNat).length aC),(2,.slice aZ ws.length b0)]) (cs:=[vi p,.slice aA ((c.gs.take (j9+1)).drop p.toNat).length aC,.slice aZ ws.length b0]) O (fun _=>by first|rfl|kernel_rfl))<|ZB [vi p,.slice aA ((c.gs.take (j9+1)).drop p.toNat).length aC,.slice aZ ws.length b0] px ml fun b46 eA cP f A=>?_
 have cQ:b8≠b46:=by have:=g.lt;omega
 have bG:=Q0 C.size cP;have ⟨o,g,d,e,i,aB,C⟩:=lf f o g d e i aB C;refine ZX cM fun a z _ cR=>ZS z fun cS=>Zm O<|Za O<|Zt cS fun a z=>Q8<|Xw (σ:=Nat×Int×(List Gt)) (fun (s:Nat×Int×(List Gt)) (a:Act) (w:World)=>match s with|(k,x,q)=>∃ aG aI,Fr a 100 [(4,(ae b5)),(8,(ae b8)),(10,.slice aD rr.length aE),(14,vi (ia rr)),(15,(ae b46)),(16,vi x)]/\(x=p+(k:Int))/\(k<=lb rr p)/\(q=ws++lp c rr p k)/\al w b5 28 [vi c.n,.slice Ac c.gs.length cc]/\al w b8 56 [vi 0,.slice none 0 0,.slice none 0 0]/\al w b46 56 [vi p,.slice aA ((c.gs.take (j9+1)).drop p.toNat).length aC,.slice aG q.length aI]/\Rd w N.heap.size 52 ab Ac c.gs/\ah w N.heap.size 3 1 bk aD aE rr/\ah w N.heap.size 52 3 ab aA aC ((c.gs.take (j9+1)).drop p.toNat)/\ah w N.heap.size 52 3 ab aG aI q/\c.gs.length<=cc/\a_ aA aG/\Bl N w) (fun (s:Nat×Int×(List Gt))=>match s with|(k,x,q)=>lb rr p-k) (0,p,ws) ?_ ?_
 ·exact ⟨aZ,b0,z.sb,O6,(Qf _),(by rw[CR,List.append_nil]),o,g,A,d,e,i,aB,L,aL,C⟩
 rintro ⟨k,x,q⟩ a dF ⟨aG,aI,z,hx,hk,hq,o,g,A,d,e,i,I,L,J,C⟩;refine Q5 fun _ cT=>ZS z fun cU=>Zm O<|Zm O<|Ze (se O O)<|Zt cU fun a z=>eh z O (fun U aQ=>?_) (fun U aQ=>?_)
 ·have bC:k<lb rr p:=by have h9:=aQ;rw[aK] at h9;omega
  obtain ⟨u9,cV⟩:=Xe (l:=c.gs) (k:=p.toNat+k) O0
  have dL:=zH c rr p k
  have cW:q.length<=1000000+k:=by rw[hq,Qh];omega
  refine Q7<|cT _ _<|Q5 fun _ b3=>Q8<|ZS z fun cX=>Zm O<|Zm O<|Zf (Vc (CC _ aD aE rr e.rd.top x O0) CY) ?_;rintro _ eB ⟨rfl,f⟩;have ⟨o,g,A,d,e,i,I,C⟩:=j' f o g A d e i I C;refine Ze (dn O)<|Zt cX fun a z=>Xz z O ?_ ?_<;>intro aR
  ·have hT:h_ rr (p+(k:Int))=false:=by have h9:=aR;rw[AO,hx] at h9;simpa using h9
   refine gx none (fun j=>[8,10].contains j) mixed ?_;intro eC f;have ⟨o,g,A,d,e,i,I,C⟩:=j' f o g A d e i I C;refine Yb z<|Yo 0 O (fun _=>Vd O qV 2)<|Ye 1 O (X0 O gj (A.at 2))<|Yo 2 O (fun _=>Vd O is 1)<|Ye 3 O (X0 O gj (o.at 1))<|Yo 4 O (fun _=>X7 O)<|Yi (k:=(p.toNat+k)) (u:=u9) (enc:=ab) (l:=c.gs) 5 O ad O O Xp ji Xl d cV O0 ?_;intro eD bH;refine Ye 6 O (Xt (l:=[vi u9.k,vi u9.a,vi u9.b]) O jd bH O)<|Y1 7<|Yk O ad (X6 (k:=1) (vs:=[.agg #[vi u9.k,vi u9.a,vi u9.b]]) (zs:=[vi u9.k,vi u9.a,vi u9.b]) O Xp Xx O O) (fun _ _ ⟨_,_,_,h,_⟩=>h) ?_;rintro _ eE ⟨eF,rfl,b4,f,aS⟩;have dG:=Q0 C.size b4;have aM:=I.away b4;have ⟨o,g,A,d,e,i,I,C⟩:=j' f o g A d e i I C;refine Y1 8<|Yt O ad O (jf (enc:=ab) (l:=(q)) (l2:=([u9])) (B0:=N.heap.size) O O Xp Xx Xl lk I (Rd.of_blk aS O _ aS.lt) (by simp only[maxLen];simp;omega) O5 C.size) ?_;rintro _ eH ⟨bI,bJ,rfl,aT,hg,bK⟩
   have W:ah _ N.heap.size 52 3 ab _ _ (q):=I
   have bL:=bK _ aS.lt aM;have aN:=a_.app i J bK;clear bK;have o:=o.appT W hg O;have g:=g.appT W hg O;have A:=A.appT W hg O;have d:=d.appB W hg (Qb _);have e:=e.appT W hg O;have i:=i.appP hg J;have C:=Below.app C W hg (Qb _) C.size;clear W hg;refine Yo 9 O (fun _=>Vd O qV 2)<|Y1 10<|Yh O ad O (Vu (vs:=[.slice bI (q++([u9])).length bJ]) (l':=[vi p,.slice aA ((c.gs.take (j9+1)).drop p.toNat).length aC,.slice bI (q++([u9])).length bJ]) O O rz A) ?_;rintro _ eI ⟨ho,hb⟩;have o:=o.oz ho A O;have g:=g.oy ho O0;have d:=d.oT ho A O;have e:=e.oT ho A O;have i:=i.oT ho A O;have aT:=aT.oT ho A O;have C:=Below.oy C ho bG;have A:=hb;exact Yd fun a z=>Xk<|b3 _ _<|Zr z<|Zm O<|Ze (Xs O O O0 O0)<|Za O<|Zn fun a z=>Xb<|⟨(k+1,x+1,(q++[u9])),⟨bI,bJ,z.sb,O0,O0,(F1 bZ hq hT cV),o,g,A,d,e,i,aT,L,aN,C⟩,O3⟩
  have hT:h_ rr (p+(k:Int))=true:=by have h9:=aR;rw[AO,hx] at h9;simpa using h9
  exact Q7<|Xk<|b3 _ _<|Zr z<|Zm O<|Ze (Xs O O O0 O0)<|Za O<|Zn fun a z=>Xb<|⟨(k+1,x+1,q),⟨aG,aI,z.sb,O0,O0,(Gj hq hT),o,g,A,d,e,i,I,L,J,C⟩,O3⟩
 have bC:k=lb rr p:=by have h9:=aQ;rw[aK] at h9;omega
 have aU:=HH hq bC
 have aW:(ko c p rr ws).old=_:=GZ bZ aK bW
 have dM:=zH c rr p k
 have cW:q.length<=1000000+1000000000:=by rw[hq,Qh];omega
 refine Q9<|Xf<|Xf<|Xv<|cR _ _<|Q5 fun _ d5=>Q5 fun _ d6=>eo (fun a w=>Fr a 100 [(8,(ae b8)),(15,(ae b46)),(97,.bool ((decide (40<(((c.gs.take (j9+1)).drop p.toNat).length:Int)))||(decide (40<(q.length:Int)))))]/\dF=w) ?_ ?_
 ·refine Zr z<|Ze (Vd O rf 1)<|Ze (X0 O gj (A.at 1))<|Ze (fh O Xp)<|Ze (oo O O)<|Zm O<|Zg 92 O ?_ ?_<;>intro G
  ·(iterate 4 refine Zp (gP G) ?_);exact Ze (Xh O G O)<|Zn fun a z=>⟨z.sub ⟨O,O,X1 O (by first|rfl|(simp only[H,D,U,G,bs];done)|simp[H,D,U,G]),trivial⟩,O⟩
  refine Zv (gW G) (Vd O qV 2) ?_;refine Zv (gW G) (X0 O gj (A.at 2)) ?_;refine Zv (gW G) (fh O Xp) ?_;refine Zv (gW G) (oo O O) ?_;refine Ze (X9 O G O) ?_;refine Zn fun a z=>?_;exact ⟨z.sub ⟨O,O,X1 O (by first|rfl|(simp only[H,D,U,G,bs];done)|simp[H,D,U,G]),trivial⟩,O⟩
 rintro a _ ⟨z,rfl⟩;refine d6 _ _<|Xz z O ?_ ?_<;>intro aX
 ·have h9:40<(ko c p rr ws).old.length∨40<(ko c p rr ws).new.length:=by rw[aW,aU];have h8:=aX;simp only[Bool.or_eq_true,Qr] at h8;omega
  have Q:=b9.trans (F8 b2 h9);refine ZS z fun d7=>Ze (Xg (ps:=[]) (cs:=[vi 0,.slice none 0 0,.slice none 0 0]) O (fun _=>by first|rfl|kernel_rfl))<|Zo (Vw [vi 0,.slice none 0 0,.slice none 0 0] ml g) ?_;rintro _ eJ ⟨ho,hb⟩;have C:=Below.oy C ho aJ;have g:=hb;refine Za O<|Zt d7 fun a z=>Q6<|X3<|X4 z (dj z O (an.cellN (l:=[vi 0,.slice none 0 0,.slice none 0 0]) O mt (g.at 0) O) O) ?_
  rw[Q]
  exact ⟨none,0,none,0,O,(ah.nil _ _ _ _ _),(ah.nil _ _ _ _ _),(a_.none_l _),C⟩
 have h9:¬ (40<(ko c p rr ws).old.length∨40<(ko c p rr ws).new.length):=by rw[aW,aU];have h8:=aX;simp only[Bool.or_eq_false_iff,decide_eq_false_iff_not] at h8;omega
 have Q:=b9.trans (Ju b2 h9);refine Q7<|d5 _ _<|ZS z fun d8=>Ze (Vn mt A)<|Zo (Vw [vi p,.slice aA ((c.gs.take (j9+1)).drop p.toNat).length aC,.slice aG q.length aI] ml g) ?_;rintro _ eK ⟨ho,hb⟩;have i:=i.oT ho g O;have I:=I.oT ho g O;have C:=Below.oy C ho aJ;have g:=hb;refine Za O<|Zt d8 fun a z=>Q6 (X4 z (dj z O (an.cellN (l:=[vi p,.slice aA ((c.gs.take (j9+1)).drop p.toNat).length aC,.slice aG q.length aI]) O mt (g.at 0) O) O) ?_)
 rw[Q]
 simp only[Qq]
 rw[aW,aU]
 exact ⟨aA,aC,aG,aI,O,i,I,J,C⟩
def yx(N:World)(c:Cx)(Ac:Option Addr)(cc:Nat)(g:Rw N 52 ab Ac c.gs)(aL:c.gs.length<=cc)(Arr:Option Addr)(crr:Nat)(rr:List Int)(o:Rw N 3 bk Arr rr)(Aqs:Option Addr)(cqs:Nat)(qs:List Int)(J:Rw N 3 bk Aqs qs)(Aws:Option Addr)(cws:Nat)(ws:List Gt)(f:Rw N 52 ab Aws ws)(p:Int)(kR:gf c=true)(gK:ib c p qs=true)(gL:rr=du c p qs)(mT:ws.length<=1000000)(mA:qs.length<=1048576):RE 57 [.agg #[vi c.n,.slice Ac c.gs.length cc],.slice Arr rr.length crr,.slice Aqs qs.length cqs,.slice Aws ws.length cws] N (fun v w=>∃ A9 e9 B9 f9,v=.tuple #[.agg #[vi ((ay c p rr qs ws).getD df).pos,.slice A9 ((ay c p rr qs ws).getD df).old.length e9,.slice B9 ((ay c p rr qs ws).getD df).new.length f9],.bool (ay c p rr qs ws).isSome]/\ah w N.heap.size 52 3 ab A9 e9 ((ay c p rr qs ws).getD df).old/\ah w N.heap.size 52 3 ab B9 f9 ((ay c p rr qs ws).getD df).new/\a_ A9 B9/\Bl N w):=by
 obtain ⟨mB,mC,mU⟩:=n' kR
 have mK:c.gs.length<=400:=mC
 obtain ⟨W,dK,mW,kS,i7⟩:=AA gK
 rw[<- gL] at dK i7
 have mX:=yq dK kS
 have mL:rr.length<=6:=by rw[gL];exact xV ..
 have mM:1<=rr.length:=by rw[gL];exact yF gK
 have kT:0<=p:=by obtain ⟨_,_,k9,e9,_⟩:=vr gK;omega
 obtain ⟨mY,kU⟩:=F0 gK
 have eL:rr[0]? = some p:=by rw[gL,kU];rfl
 refine enter func57 O 96 O O ?_;intro a A
 have t:=bz N
 refine ZS A fun mD=>Zf (bt (zs:=[vi c.n,.slice Ac c.gs.length cc]) O O) ?_;rintro _ w1 ⟨b6,rfl,mE,d,H⟩;have mN:=Q0 t.size mE;have ⟨g,o,J,f,t⟩:=io d g o J f t;refine Zf (Xi (zs:=[vi 0,.slice none 0 0,.slice none 0 0]) px O) ?_;rintro _ w2 ⟨b9,rfl,mF,d,z⟩;have d9:=Q0 t.size mF;have ⟨H,g,o,J,f,t⟩:=kf d H g o J f t;refine Za O<|ZX mD fun a A _ kV=>ZS A fun kW=>Zm O<|Ze (fh O Xp)<|Zm O<|Zt kW fun a A=>Q8<|Xw (σ:=Nat) (fun (k:Nat) (a:Act) (w:World)=>Fr a 96 [(1,.slice Arr rr.length crr),(2,.slice Aqs qs.length cqs),(3,.slice Aws ws.length cws),(4,(ae b6)),(8,(ae b9)),(17,.slice Aws ws.length cws),(18,vi (ws.length:Int)),(19,vi (k:Int))]/\(k<=ws.length)/\((ws.take k).all (pb c.n qs)=true)/\al w b6 28 [vi c.n,.slice Ac c.gs.length cc]/\al w b9 56 [vi 0,.slice none 0 0,.slice none 0 0]/\Rd w N.heap.size 52 ab Ac c.gs/\Rd w N.heap.size 3 bk Arr rr/\Rd w N.heap.size 3 bk Aqs qs/\Rd w N.heap.size 52 ab Aws ws/\c.gs.length<=cc/\Bl N w) (fun (k:Nat)=>ws.length-k) 0 ?_ ?_
 ·exact ⟨A.sb,(Qf _),O6,H,z,g,o,J,f,aL,t⟩
 rintro k a w3 ⟨A,iH,iI,H,z,g,o,J,f,aL,t⟩;refine ZS A fun kX=>Ze (ew O O)<|ZX kX fun a A _ kY=>eh A O (fun aZ kZ=>?_) (fun aZ kZ=>?_)
 ·obtain ⟨aD,dA⟩:=Xe (l:=ws) (k:=k) O0
  refine Q7<|kY _ _<|Q5 fun _ l3=>Q8<|ZS A fun l4=>Zi (k:=k) (u:=aD) (enc:=ab) (l:=ws) ad O O Xp ji Xl f dA O ?_;intro n3 iJ;refine Ze (Xt (l:=[vi aD.k,vi aD.a,vi aD.b]) O jd iJ O)<|ZB [vi aD.k,vi aD.a,vi aD.b] ql ji fun n5 w5 l5 d dB=>?_;have mG:=Q0 t.size l5;have ⟨H,z,g,o,J,f,t⟩:=lf d H z g o J f t;refine ZX l4 fun a A _ l6=>ZS A fun l7=>Ze (Vd O oY 0)<|Ze (X0 O X8 (H.at 0))<|Ze (Vn jd dB)<|Zf (Vc (Cq _ c.n aD mB) DC) ?_;rintro _ w6 ⟨rfl,d⟩;have ⟨H,z,dB,g,o,J,f,t⟩:=j' d H z dB g o J f t;refine Ze (dn O)<|Zt l7 fun a A=>Xz A O ?_ ?_<;>intro eM
  ·have h8:pb c.n qs aD=false:=by unfold pb;have h9:gp c.n aD=false:=(by simpa using eM);rw[h9];rfl
   have b0:=DR (c:=c) (p:=p) (run:=rr) (qs:=qs) (D5 dA h8);refine ZS A fun l8=>Ze (Xg (ps:=[]) (cs:=[vi 0,.slice none 0 0,.slice none 0 0]) O (fun _=>by first|rfl|kernel_rfl))<|Zo (Vw [vi 0,.slice none 0 0,.slice none 0 0] ml z) ?_;rintro _ w7 ⟨ho,hb⟩;have t:=Below.oy t ho d9;have z:=hb;refine Za O<|Zt l8 fun a A=>Q6<|X3<|Xn<|X3<|X3<|Xn<|X3<|X4 A (dj A O (an.cellN (l:=[vi 0,.slice none 0 0,.slice none 0 0]) O mt (z.at 0) O) O) ?_
   rw[b0]
   exact ⟨none,0,none,0,O,(ah.nil _ _ _ _ _),(ah.nil _ _ _ _ _),(a_.none_l _),t⟩
  have i8:gp c.n aD=true:=by simpa using eM
  refine Q7<|l6 _ _<|ZS A fun l9=>Ze (Vn jd dB)<|Zm O<|Zf (Vc (C7 _ aD Aqs cqs qs J.top mA) DA) ?_;rintro _ w8 ⟨rfl,d⟩;have ⟨H,z,g,o,J,f,t⟩:=lf d H z g o J f t;refine Zm O<|Ze (X2 (vs:=[vi (qq aD qs:Int),vi (pO aD qs:Int)]) O O)<|Ze (X2 (vs:=[vi (qq aD qs:Int),vi (pO aD qs:Int)]) O O)<|Za O<|Za O<|Zx l9 fun a A _ lA=>Zm O<|Ze (oo O O)<|Zt lA fun a A=>eh A O (fun iK eO=>?_) (fun iK eO=>?_)
  ·have h8:pb c.n qs aD=false:=by unfold pb;rw[decide_eq_true eO,i8];rfl
   have b0:=DR (c:=c) (p:=p) (run:=rr) (qs:=qs) (D5 dA h8);refine ZS A fun lB=>Ze (Xg (ps:=[]) (cs:=[vi 0,.slice none 0 0,.slice none 0 0]) O (fun _=>by first|rfl|kernel_rfl))<|Zo (Vw [vi 0,.slice none 0 0,.slice none 0 0] ml z) ?_;rintro _ w9 ⟨ho,hb⟩;have t:=Below.oy t ho d9;have z:=hb;refine Za O<|Zt lB fun a A=>Q6<|Xn<|X3<|X3<|Xn<|X3<|X4 A (dj A O (an.cellN (l:=[vi 0,.slice none 0 0,.slice none 0 0]) O mt (z.at 0) O) O) ?_
   rw[b0]
   exact ⟨none,0,none,0,O,(ah.nil _ _ _ _ _),(ah.nil _ _ _ _ _),(a_.none_l _),t⟩
  have h8:pb c.n qs aD=true:=by unfold pb;rw[decide_eq_false eO,i8];rfl
  exact Q7<|Xk<|l3 _ _<|Zr A<|Ze (Xs O O O0 O0)<|Zm O<|Zn fun a A=>Xb<|⟨k+1,⟨A.sb,O0,(Hi iI dA h8),H,z,g,o,J,f,aL,t⟩,O0⟩
 have i9:ws.all (pb c.n qs)=true:=by rw[Qi O0] at iI;exact iI
 refine Q9<|Xf<|Xf<|Xv<|kV _ _<|ZS A fun lC=>Zm O<|Zm O<|Ze (fh O gq)<|Ze (ld O O O0 O0)<|Zi (k:=(rr.length-1)) (u:=(ia rr)) (enc:=bk) (l:=rr) ad O O gq jw kp o i7 O0 ?_;intro n6 iL;refine Ze (X0 O X8 iL)<|Za O<|ZX lC fun a A _ lD=>eo (fun a w=>∃ aE D E aY b8,Fr a 96 [(1,.slice Arr rr.length crr),(4,(ae b6)),(8,(ae b9)),(14,vi (ia rr)),(15,(ae aE))]/\N.heap.size<=aE/\al w aE 56 [vi p,.slice D ((c.gs.take (W+1)).drop p.toNat).length E,.slice aY ws.length b8]/\b9≠aE/\ah w N.heap.size 52 3 ab D E ((c.gs.take (W+1)).drop p.toNat)/\ah w N.heap.size 52 3 ab aY b8 ws/\a_ D aY/\Bl w3 w) ?_ ?_
 ·have i:Bl w3 w3:=Below.refl _ _
  refine gx none (fun j=>[18].contains j) mixed ?_;intro w10 d;have ⟨H,z,g,o,f,t,i⟩:=lf d H z g o f t i;refine Yb A<|Yo 0 O (fun _=>X7 O)<|Yi (k:=0) (u:=p) (enc:=bk) (l:=rr) 1 O ad O O gq jw kp o eL O ?_;intro n7 iM;refine Ye 2 O (X0 O X8 iM)<|Yo 4 O (fun _=>Vd O is 1)<|Ye 5 O (X0 O gj (H.at 1))<|Yo 6 O (fun _=>X7 O)<|Yi (k:=0) (u:=p) (enc:=bk) (l:=rr) 7 O ad O O gq jw kp o eL O ?_;intro n8 iN;refine Ye 8 O (X0 O X8 iN)<|Yo 9 O (fun _=>X7 O)<|Yo 10 O (fun _=>Xs O O O0 O0) ?_;have B:=((g.top).takeK Xl (W+1)).dropK Xl (c:=cc) (BZ aL (W+1)) p.toNat;refine Yo 11 O (fun _=>B5 (l:=c.gs) (k:=p.toNat) (m:=(W+1)) O O O Xp ji O0 (by rw[dK];omega) O0 O0 aL)<|Yo 14 O (fun _=>X7 O) ?_
  have e:Bl w10 w10:=Below.refl _ _
  refine Yc [0,1,2,3,4,5,6,7,8,9,10,11,12,13,14,15,16,17] 1 (fun a w=>∃ aE D E aY b8,Fr a 96 [(1,.slice Arr rr.length crr),(4,(ae b6)),(8,(ae b9)),(14,vi (ia rr)),(15,(ae aE)),(61,.agg #[vi p,.slice D ((c.gs.take (W+1)).drop p.toNat).length E,.slice aY ws.length b8])]/\N.heap.size<=aE/\al w aE 56 [vi 0,.slice none 0 0,.slice none 0 0]/\b9≠aE/\w10.heap.size<=aE/\w3.heap.size<=aE/\ah w N.heap.size 52 3 ab D E ((c.gs.take (W+1)).drop p.toNat)/\ah w N.heap.size 52 3 ab aY b8 ws/\a_ D aY/\Bl w10 w) ?_ ?_
  ·rintro a n9 ⟨aE,D,E,aY,b8,A,bP,C,cB,iO,iP,y,cC,aR,d⟩;clear e;have e:=d;have t:=aa t d;have i:=aa i d;refine Yb A<|Y1 18<|Yh O ad O (Vw [vi p,.slice D ((c.gs.take (W+1)).drop p.toNat).length E,.slice aY ws.length b8] ml C) ?_;rintro _ nA ⟨ho,hb⟩;have y:=y.oT ho C O;have cC:=cC.oT ho C O;have i:=Below.oy i ho iP;have e:=Below.oy e ho iO;have t:=Below.oy t ho bP;have C:=hb;exact Yd fun a A=>⟨aE,D,E,aY,b8,A.sb,bP,C,cB,y,cC,aR,i⟩
  intro iA;refine Yc [0,1,2,3,4,5,6,7,8,9,10,11,12,13,14,17] 3 (fun a w=>∃ U cD D E,Fr a 96 [(1,.slice Arr rr.length crr),(4,(ae b6)),(8,(ae b9)),(14,vi (ia rr)),(15,(ae cD)),(47,vi p),(57,.slice D ((c.gs.take (W+1)).drop p.toNat).length E),(58,.slice (some ⟨U,0,none⟩) 0 0),(59,.slice Aws ws.length cws)]/\N.heap.size<=U/\al w U 52 []/\N.heap.size<=cD/\al w cD 56 [vi 0,.slice none 0 0,.slice none 0 0]/\b9≠cD/\w10.heap.size<=U/\w3.heap.size<=U/\w10.heap.size<=cD/\w3.heap.size<=cD/\ah w N.heap.size 52 3 ab D E ((c.gs.take (W+1)).drop p.toNat)/\ef c.gs Ac U/\ef ws Aws U/\ef ((c.gs.take (W+1)).drop p.toNat) (if cc=p.toNat then Ac else Ac.map (·.add (p.toNat*3))) U/\il D U/\Bl w10 w) ?_ ?_
  ·rintro a nB ⟨U,cD,D,E,A,bQ,bC,iQ,eP,eQ,eR,eS,iR,iS,y,cE,cF,bD,aF,d⟩;clear e;have e:=d;have ⟨f,t,i⟩:=bh d f t i;refine Yb A<|Y1 15<|Yk O ad (vG (enc:=ab) (l2:=(ws)) O O Xp Xx Xl lk bC f (by simp only[maxLen];omega) O0) (fun _ _ ⟨gM,gN,_,dC,d,M⟩=>d) ?_;rintro _ nC ⟨gM,gN,rfl,dC,d,M⟩;have dL:=a_.new0 y aF M;clear M;have dC:=dC.lower bQ;have ⟨eP,y,t,i,e⟩:=io d eP y t i e;exact Yo 16 O (fun _=>Xg (ps:=[(0,vi p),(1,.slice D ((c.gs.take (W+1)).drop p.toNat).length E),(2,.slice gM ws.length gN)]) (cs:=[vi p,.slice D ((c.gs.take (W+1)).drop p.toNat).length E,.slice gM ws.length gN]) O (fun _=>by first|rfl|kernel_rfl))<|fun a A=>iA _ a _ O ⟨cD,D,E,gM,gN,A.sb,iQ,eP,eQ,iR,iS,y,dC,dL,e⟩
  intro eT;refine Yc [0,1,2,3,4,5,6,7,8,9,10,11,12,13,14] 4 (fun a w=>∃ U D E,Fr a 96 [(1,.slice Arr rr.length crr),(4,(ae b6)),(8,(ae b9)),(14,vi (ia rr)),(47,vi p),(57,.slice D ((c.gs.take (W+1)).drop p.toNat).length E),(58,.slice (some ⟨U,0,none⟩) 0 0),(59,.slice Aws ws.length cws)]/\N.heap.size<=U/\al w U 52 []/\w10.heap.size<=U/\w3.heap.size<=U/\ah w N.heap.size 52 3 ab D E ((c.gs.take (W+1)).drop p.toNat)/\ef c.gs Ac U/\ef ws Aws U/\ef ((c.gs.take (W+1)).drop p.toNat) (if cc=p.toNat then Ac else Ac.map (·.add (p.toNat*3))) U/\il D U/\Bl w10 w) ?_ ?_
  ·rintro a nD ⟨U,D,E,A,bQ,bC,eR,eS,y,cE,cF,bD,aF,d⟩;clear e;have e:=d;have ⟨z,f,t,i⟩:=dk d z f t i;refine Yb A<|Y2 15 17 ?_ ?_
   ·refine Yk O ad (vG (enc:=ab) (l2:=(ws)) O O Xp Xx Xl lk bC f (by simp only[maxLen];omega) O0) (fun _ _ ⟨gO,gQ,_,bE,d,M⟩=>d) ?_;rintro _ nE ⟨gO,gQ,rfl,bE,d,M⟩;have dM:=a_.new0 y aF M;clear M;have bE:=bE.lower bQ;have ⟨z,y,t,i,e⟩:=io d z y t i e;refine Yo 16 O (fun _=>Xg (ps:=[(0,vi p),(1,.slice D ((c.gs.take (W+1)).drop p.toNat).length E),(2,.slice gO ws.length gQ)]) (cs:=[vi p,.slice D ((c.gs.take (W+1)).drop p.toNat).length E,.slice gO ws.length gQ]) O (fun _=>by first|rfl|kernel_rfl))<|Y1 17<|Yk O ad (Xi (zs:=[vi 0,.slice none 0 0,.slice none 0 0]) px O) (fun _ _ ⟨_,_,_,h,_⟩=>h) ?_;rintro _ nF ⟨b56,rfl,eU,d,lE⟩
    have eV:b9≠b56:=by have:=z.lt;omega
    have iT:=Q0 t.size eU;have iU:=Q0 i.size eU;have iV:=Q0 e.size eU;have ⟨y,bE,t,i,e⟩:=io d y bE t i e;exact fun a A=>iA _ a _ O ⟨b56,D,E,gO,gQ,A.sb,iT,lE,eV,iV,iU,y,bE,dM,e⟩
   refine Yk O ad (Xi (zs:=[vi 0,.slice none 0 0,.slice none 0 0]) px O) (fun _ _ ⟨_,_,_,h,_⟩=>h) ?_;rintro _ nG ⟨b59,rfl,eW,d,lF⟩
   have eX:b9≠b59:=by have:=z.lt;omega
   have iW:=Q0 t.size eW;have iX:=Q0 i.size eW;have iY:=Q0 e.size eW;have ⟨bC,y,t,i,e⟩:=io d bC y t i e;exact fun a A=>eT _ a _ O ⟨U,b59,D,E,A.sb,bQ,bC,iW,lF,eX,eR,eS,iY,iX,y,cE,cF,bD,aF,e⟩
  intro iB;refine Yc [0,1,2,3,4,5,6,7,8,9,10,11,12,14,17] 4 (fun a w=>∃ cG D E,Fr a 96 [(1,.slice Arr rr.length crr),(4,(ae b6)),(8,(ae b9)),(14,vi (ia rr)),(15,(ae cG)),(47,vi p),(57,.slice D ((c.gs.take (W+1)).drop p.toNat).length E),(59,.slice Aws ws.length cws)]/\N.heap.size<=cG/\al w cG 56 [vi 0,.slice none 0 0,.slice none 0 0]/\b9≠cG/\w10.heap.size<=cG/\w3.heap.size<=cG/\ah w N.heap.size 52 3 ab D E ((c.gs.take (W+1)).drop p.toNat)/\Bl w10 w) ?_ ?_
  ·rintro a nH ⟨cG,D,E,A,iZ,eY,eZ,j0,j1,y,d⟩;clear e;have e:=d;have ⟨g,f,B,t,i⟩:=io d g f B t i;refine Yb A<|Y1 13<|Yk O ad (X6 (k:=0) (vs:=[]) (zs:=[]) O Xp Xx O O) (fun _ _ ⟨_,_,_,h,_⟩=>h) ?_;rintro _ nI ⟨mH,rfl,b1,d,lG⟩;have j4:=Q0 t.size b1;have j5:=Q0 i.size b1;have j6:=Q0 e.size b1;have f7:=g.away b1;have f8:=f.away b1;have dN:=B.away b1;have dP:=y.away b1;have ⟨eY,y,t,i,e⟩:=io d eY y t i e;exact fun a A=>eT _ a _ O ⟨mH,cG,D,E,A.sb,j4,lG,iZ,eY,eZ,j6,j5,j0,j1,y,f7,f8,dN,dP,e⟩
  intro iC;refine Yc [0,1,2,3,4,5,6,7,8,9,10,11,13,14,17] 4 (fun a w=>∃ G Q cH,Fr a 96 [(1,.slice Arr rr.length crr),(4,(ae b6)),(8,(ae b9)),(14,vi (ia rr)),(15,(ae cH)),(47,vi p),(48,.slice (some ⟨G,0,none⟩) 0 0),(56,.slice (if cc=p.toNat then Ac else Ac.map (·.add (p.toNat*3))) ((c.gs.take (W+1)).drop p.toNat).length (cc-p.toNat)),(58,.slice (some ⟨Q,0,none⟩) 0 0),(59,.slice Aws ws.length cws)]/\N.heap.size<=G/\al w G 52 []/\N.heap.size<=Q/\al w Q 52 []/\G≠Q/\N.heap.size<=cH/\al w cH 56 [vi 0,.slice none 0 0,.slice none 0 0]/\b9≠cH/\w10.heap.size<=G/\w3.heap.size<=G/\w10.heap.size<=Q/\w3.heap.size<=Q/\w10.heap.size<=cH/\w3.heap.size<=cH/\ef c.gs Ac G/\ef ws Aws G/\ef ((c.gs.take (W+1)).drop p.toNat) (if cc=p.toNat then Ac else Ac.map (·.add (p.toNat*3))) G/\ef c.gs Ac Q/\ef ws Aws Q/\ef ((c.gs.take (W+1)).drop p.toNat) (if cc=p.toNat then Ac else Ac.map (·.add (p.toNat*3))) Q/\Bl w10 w) ?_ ?_
  ·rintro a nJ ⟨G,Q,cH,A,aK,aB,bR,aC,aG,j7,fA,fB,bS,bU,bW,bZ,j8,jA,aM,aN,aH,aO,aP,aI,d⟩;clear e;have e:=d;have ⟨B,t,i⟩:=bh d B t i;refine Yb A<|Y1 12<|Yk O ad (vG (enc:=ab) (l2:=(((c.gs.take (W+1)).drop p.toNat))) O O Xp Xx Xl lk aB B (by simp only[maxLen];simp;omega) O5) (fun _ _ ⟨lH,lI,_,dD,d,M⟩=>d) ?_;rintro _ nK ⟨lH,lI,rfl,dD,d,M⟩;have dQ:=M _ aC.lt (Ne.symm aG);clear M;have dD:=dD.lower aK;have ⟨aC,fA,t,i,e⟩:=io d aC fA t i e;exact fun a A=>eT _ a _ O ⟨Q,cH,lH,lI,A.sb,bR,aC,j7,fA,fB,bW,bZ,j8,jA,dD,aO,aP,aI,dQ,e⟩
  intro fC;refine Yc [0,1,2,3,4,5,6,7,8,9,10,11,13,14] 5 (fun a w=>∃ G Q,Fr a 96 [(1,.slice Arr rr.length crr),(4,(ae b6)),(8,(ae b9)),(14,vi (ia rr)),(47,vi p),(48,.slice (some ⟨G,0,none⟩) 0 0),(56,.slice (if cc=p.toNat then Ac else Ac.map (·.add (p.toNat*3))) ((c.gs.take (W+1)).drop p.toNat).length (cc-p.toNat)),(58,.slice (some ⟨Q,0,none⟩) 0 0),(59,.slice Aws ws.length cws)]/\N.heap.size<=G/\al w G 52 []/\N.heap.size<=Q/\al w Q 52 []/\G≠Q/\w10.heap.size<=G/\w3.heap.size<=G/\w10.heap.size<=Q/\w3.heap.size<=Q/\ef c.gs Ac G/\ef ws Aws G/\ef ((c.gs.take (W+1)).drop p.toNat) (if cc=p.toNat then Ac else Ac.map (·.add (p.toNat*3))) G/\ef c.gs Ac Q/\ef ws Aws Q/\ef ((c.gs.take (W+1)).drop p.toNat) (if cc=p.toNat then Ac else Ac.map (·.add (p.toNat*3))) Q/\Bl w10 w) ?_ ?_
  ·rintro a nL ⟨G,Q,A,aK,aB,bR,aC,aG,bS,bU,bW,bZ,aM,aN,aH,aO,aP,aI,d⟩;clear e;have e:=d;have ⟨z,B,t,i⟩:=dk d z B t i;refine Yb A<|Y2 12 17 ?_ ?_
   ·refine Yk O ad (vG (enc:=ab) (l2:=(((c.gs.take (W+1)).drop p.toNat))) O O Xp Xx Xl lk aB B (by simp only[maxLen];simp;omega) O5) (fun _ _ ⟨lJ,lK,_,dE,d,M⟩=>d) ?_;rintro _ nM ⟨lJ,lK,rfl,dE,d,M⟩;have dR:=M _ aC.lt (Ne.symm aG);clear M;have dE:=dE.lower aK;have ⟨aC,t,i,e⟩:=dk d aC t i e;exact fun a A=>iB _ a _ O ⟨Q,lJ,lK,A.sb,bR,aC,bW,bZ,dE,aO,aP,aI,dR,e⟩
   refine Yk O ad (Xi (zs:=[vi 0,.slice none 0 0,.slice none 0 0]) px O) (fun _ _ ⟨_,_,_,h,_⟩=>h) ?_;rintro _ nN ⟨b72,rfl,fD,d,lL⟩
   have fE:b9≠b72:=by have:=z.lt;omega
   have jB:=Q0 t.size fD;have jC:=Q0 i.size fD;have jD:=Q0 e.size fD;have ⟨aB,aC,t,i,e⟩:=io d aB aC t i e;exact fun a A=>fC _ a _ O ⟨G,Q,b72,A.sb,aK,aB,bR,aC,aG,jB,lL,fE,bS,bU,bW,bZ,jD,jC,aM,aN,aH,aO,aP,aI,e⟩
  intro iD;refine Yc [0,1,2,3,4,5,6,7,8,9,10,11,14,17] 5 (fun a w=>∃ G cA,Fr a 96 [(1,.slice Arr rr.length crr),(4,(ae b6)),(8,(ae b9)),(14,vi (ia rr)),(15,(ae cA)),(47,vi p),(48,.slice (some ⟨G,0,none⟩) 0 0),(56,.slice (if cc=p.toNat then Ac else Ac.map (·.add (p.toNat*3))) ((c.gs.take (W+1)).drop p.toNat).length (cc-p.toNat)),(59,.slice Aws ws.length cws)]/\N.heap.size<=G/\al w G 52 []/\N.heap.size<=cA/\al w cA 56 [vi 0,.slice none 0 0,.slice none 0 0]/\b9≠cA/\w10.heap.size<=G/\w3.heap.size<=G/\w10.heap.size<=cA/\w3.heap.size<=cA/\ef c.gs Ac G/\ef ws Aws G/\ef ((c.gs.take (W+1)).drop p.toNat) (if cc=p.toNat then Ac else Ac.map (·.add (p.toNat*3))) G/\Bl w10 w) ?_ ?_
  ·rintro a nO ⟨G,cA,A,aK,aB,fF,bF,cI,bS,bU,fG,fH,aM,aN,aH,d⟩;clear e;have e:=d;have ⟨g,f,B,t,i⟩:=io d g f B t i;refine Yb A<|Y2 12 13 ?_ ?_
   ·refine Yk O ad (vG (enc:=ab) (l2:=(((c.gs.take (W+1)).drop p.toNat))) O O Xp Xx Xl lk aB B (by simp only[maxLen];simp;omega) O5) (fun _ _ ⟨lM,lN,_,dF,d,M⟩=>d) ?_;rintro _ nP ⟨lM,lN,rfl,dF,d,M⟩;clear M;have dF:=dF.lower aK;have ⟨bF,t,i,e⟩:=dk d bF t i e;exact fun a A=>iC _ a _ O ⟨cA,lM,lN,A.sb,fF,bF,cI,fG,fH,dF,e⟩
   refine Yk O ad (X6 (k:=0) (vs:=[]) (zs:=[]) O Xp Xx O O) (fun _ _ ⟨_,_,_,h,_⟩=>h) ?_;rintro _ nQ ⟨b76,rfl,bG,d,lO⟩
   have dS:G≠b76:=by have:=aB.lt;omega
   have jE:=Q0 t.size bG;have jF:=Q0 i.size bG;have jG:=Q0 e.size bG;have fI:=g.away bG;have fJ:=f.away bG;have dT:=B.away bG;have ⟨aB,bF,t,i,e⟩:=io d aB bF t i e;exact fun a A=>fC _ a _ O ⟨G,b76,cA,A.sb,aK,aB,jE,lO,dS,fF,bF,cI,bS,bU,jG,jF,fG,fH,aM,aN,aH,fI,fJ,dT,e⟩
  intro iE;refine Yc [0,1,2,4,5,6,7,8,9,10,11,13,14,17] 5 (fun a w=>∃ b2 cJ,Fr a 96 [(1,.slice Arr rr.length crr),(4,(ae b6)),(8,(ae b9)),(14,vi (ia rr)),(15,(ae cJ)),(47,vi p),(56,.slice (if cc=p.toNat then Ac else Ac.map (·.add (p.toNat*3))) ((c.gs.take (W+1)).drop p.toNat).length (cc-p.toNat)),(58,.slice (some ⟨b2,0,none⟩) 0 0),(59,.slice Aws ws.length cws)]/\N.heap.size<=b2/\al w b2 52 []/\N.heap.size<=cJ/\al w cJ 56 [vi 0,.slice none 0 0,.slice none 0 0]/\b9≠cJ/\w10.heap.size<=b2/\w3.heap.size<=b2/\w10.heap.size<=cJ/\w3.heap.size<=cJ/\ef c.gs Ac b2/\ef ws Aws b2/\ef ((c.gs.take (W+1)).drop p.toNat) (if cc=p.toNat then Ac else Ac.map (·.add (p.toNat*3))) b2/\Bl w10 w) ?_ ?_
  ·rintro a nR ⟨b2,cJ,A,jH,dG,jI,fK,fL,jJ,jK,jL,jM,fM,fN,dU,d⟩;clear e;have e:=d;have ⟨g,f,B,t,i⟩:=io d g f B t i;refine Yb A<|Y1 3<|Yk O ad (X6 (k:=0) (vs:=[]) (zs:=[]) O Xp Xx O O) (fun _ _ ⟨_,_,_,h,_⟩=>h) ?_;rintro _ nS ⟨b80,rfl,bH,d,lP⟩
   have dW:b2≠b80:=by have:=dG.lt;omega
   have jN:=Q0 t.size bH;have jO:=Q0 i.size bH;have jP:=Q0 e.size bH;have fO:=g.away bH;have fP:=f.away bH;have dX:=B.away bH;have ⟨dG,fK,t,i,e⟩:=io d dG fK t i e;exact fun a A=>fC _ a _ O ⟨b80,b2,cJ,A.sb,jN,lP,jH,dG,(Ne.symm dW),jI,fK,fL,jP,jO,jJ,jK,jL,jM,fO,fP,dX,fM,fN,dU,e⟩
  intro iF;refine Y3 3 13 17 ?_ ?_ ?_
  ·refine Yk O ad (X6 (k:=0) (vs:=[]) (zs:=[]) O Xp Xx O O) (fun _ _ ⟨_,_,_,h,_⟩=>h) ?_;rintro _ nT ⟨jQ,rfl,bI,d,aW⟩;have cR:=Q0 t.size bI;have fQ:=Q0 i.size bI;have fR:=Q0 e.size bI;have cK:=g.away bI;have cM:=f.away bI;have bJ:=B.away bI;have ⟨z,g,f,B,t,i,e⟩:=lf d z g f B t i e;refine Y3 12 13 17 ?_ ?_ ?_
   ·refine Yk O ad (vG (enc:=ab) (l2:=(((c.gs.take (W+1)).drop p.toNat))) O O Xp Xx Xl lk aW B (by simp only[maxLen];simp;omega) O5) (fun _ _ ⟨jR,jS,_,aJ,d,M⟩=>d) ?_;rintro _ nU ⟨jR,jS,rfl,aJ,d,M⟩;clear M;have aJ:=aJ.lower cR;have ⟨z,g,f,B,t,i,e⟩:=lf d z g f B t i e;refine Y2 13 17 ?_ ?_
    ·refine Yk O ad (X6 (k:=0) (vs:=[]) (zs:=[]) O Xp Xx O O) (fun _ _ ⟨_,_,_,h,_⟩=>h) ?_;rintro _ nV ⟨mI,rfl,b3,d,lQ⟩;have jT:=Q0 t.size b3;have jU:=Q0 i.size b3;have jV:=Q0 e.size b3;have fS:=g.away b3;have fT:=f.away b3;have dY:=B.away b3;have eA:=aJ.away b3;have ⟨aJ,t,i,e⟩:=dk d aJ t i e;exact fun a A=>iB _ a _ O ⟨mI,jR,jS,A.sb,jT,lQ,jV,jU,aJ,fS,fT,dY,eA,e⟩
    refine Yk O ad (Xi (zs:=[vi 0,.slice none 0 0,.slice none 0 0]) px O) (fun _ _ ⟨_,_,_,h,_⟩=>h) ?_;rintro _ nW ⟨b89,rfl,fU,d,lR⟩
    have fV:b9≠b89:=by have:=z.lt;omega
    have jW:=Q0 t.size fU;have jX:=Q0 i.size fU;have jY:=Q0 e.size fU;have ⟨aJ,t,i,e⟩:=dk d aJ t i e;exact fun a A=>iC _ a _ O ⟨b89,jR,jS,A.sb,jW,lR,fV,jY,jX,aJ,e⟩
   ·refine Yk O ad (X6 (k:=0) (vs:=[]) (zs:=[]) O Xp Xx O O) (fun _ _ ⟨_,_,_,h,_⟩=>h) ?_;rintro _ nX ⟨b90,rfl,bK,d,lS⟩
    have eB:jQ≠b90:=by have:=aW.lt;omega
    have jZ:=Q0 t.size bK;have k5:=Q0 i.size bK;have k6:=Q0 e.size bK;have fW:=g.away bK;have fX:=f.away bK;have eC:=B.away bK;have ⟨aW,t,i,e⟩:=dk d aW t i e;exact fun a A=>iD _ a _ O ⟨jQ,b90,A.sb,cR,aW,jZ,lS,eB,fR,fQ,k6,k5,cK,cM,bJ,fW,fX,eC,e⟩
   refine Yk O ad (Xi (zs:=[vi 0,.slice none 0 0,.slice none 0 0]) px O) (fun _ _ ⟨_,_,_,h,_⟩=>h) ?_;rintro _ nY ⟨b94,rfl,fY,d,lT⟩
   have fZ:b9≠b94:=by have:=z.lt;omega
   have k7:=Q0 t.size fY;have k8:=Q0 i.size fY;have kA:=Q0 e.size fY;have ⟨aW,t,i,e⟩:=dk d aW t i e;exact fun a A=>iE _ a _ O ⟨jQ,b94,A.sb,cR,aW,k7,lT,fZ,fR,fQ,kA,k8,cK,cM,bJ,e⟩
  ·refine Yk O ad (X6 (k:=0) (vs:=[]) (zs:=[]) O Xp Xx O O) (fun _ _ ⟨_,_,_,h,_⟩=>h) ?_;rintro _ nZ ⟨kB,rfl,bL,d,b4⟩;have g7:=Q0 t.size bL;have g8:=Q0 i.size bL;have gA:=Q0 e.size bL;have cO:=g.away bL;have cP:=f.away bL;have bM:=B.away bL;have ⟨z,g,f,B,t,i,e⟩:=lf d z g f B t i e;refine Y2 3 17 ?_ ?_
   ·refine Yk O ad (X6 (k:=0) (vs:=[]) (zs:=[]) O Xp Xx O O) (fun _ _ ⟨_,_,_,h,_⟩=>h) ?_;rintro _ o4 ⟨b97,rfl,bN,d,lU⟩
    have eD:kB≠b97:=by have:=b4.lt;omega
    have kC:=Q0 t.size bN;have kD:=Q0 i.size bN;have kE:=Q0 e.size bN;have gB:=g.away bN;have gC:=f.away bN;have eE:=B.away bN;have ⟨b4,t,i,e⟩:=dk d b4 t i e;exact fun a A=>iD _ a _ O ⟨b97,kB,A.sb,kC,lU,g7,b4,(Ne.symm eD),kE,kD,gA,g8,gB,gC,eE,cO,cP,bM,e⟩
   refine Yk O ad (Xi (zs:=[vi 0,.slice none 0 0,.slice none 0 0]) px O) (fun _ _ ⟨_,_,_,h,_⟩=>h) ?_;rintro _ o5 ⟨b101,rfl,cS,d,kF⟩
   have eF:b9≠b101:=by have:=z.lt;omega
   have gR:=Q0 t.size cS;have gU:=Q0 i.size cS;have gX:=Q0 e.size cS;have ⟨b4,t,i,e⟩:=dk d b4 t i e;exact fun a A=>iF _ a _ O ⟨kB,b101,A.sb,g7,b4,gR,kF,eF,gA,g8,gX,gU,cO,cP,bM,e⟩
  refine Yk O ad (Xi (zs:=[vi 0,.slice none 0 0,.slice none 0 0]) px O) (fun _ _ ⟨_,_,_,h,_⟩=>h) ?_;rintro _ o6 ⟨b104,rfl,cT,d,aS⟩
  have bO:b9≠b104:=by have:=z.lt;omega
  have dH:=Q0 t.size cT;have dI:=Q0 i.size cT;have dJ:=Q0 e.size cT;have ⟨g,f,B,t,i,e⟩:=kf d g f B t i e;refine Y2 3 13 ?_ ?_
  ·refine Yk O ad (X6 (k:=0) (vs:=[]) (zs:=[]) O Xp Xx O O) (fun _ _ ⟨_,_,_,h,_⟩=>h) ?_;rintro _ o7 ⟨lV,rfl,aT,d,kG⟩;have hH:=Q0 t.size aT;have hJ:=Q0 i.size aT;have hP:=Q0 e.size aT;have eH:=g.away aT;have eI:=f.away aT;have cU:=B.away aT;have ⟨aS,t,i,e⟩:=dk d aS t i e;exact fun a A=>iE _ a _ O ⟨lV,b104,A.sb,hH,kG,dH,aS,bO,hP,hJ,dJ,dI,eH,eI,cU,e⟩
  refine Yk O ad (X6 (k:=0) (vs:=[]) (zs:=[]) O Xp Xx O O) (fun _ _ ⟨_,_,_,h,_⟩=>h) ?_;rintro _ o8 ⟨lX,rfl,aU,d,kH⟩;have hU:=Q0 t.size aU;have i0:=Q0 i.size aU;have i4:=Q0 e.size aU;have eJ:=g.away aU;have eK:=f.away aU;have cV:=B.away aU;have ⟨aS,t,i,e⟩:=dk d aS t i e;exact fun a A=>iF _ a _ O ⟨lX,b104,A.sb,hU,kH,dH,aS,bO,i4,i0,dJ,dI,eJ,eK,cV,e⟩
 rintro a o9 ⟨aE,D,E,aY,b8,A,bP,C,cB,y,cC,aR,d⟩;have ⟨H,z,g,o,t⟩:=io d H z g o t;refine lD _ _<|Q5 fun _ kI=>ZS A fun kJ=>Zm O<|Zi (k:=0) (u:=p) (enc:=bk) (l:=rr) ad O O gq jw kp o eL O ?_;intro mO i5;refine Ze (X0 O X8 i5)<|Za O<|Zt kJ fun a A=>Q8<|Xw (σ:=Nat×Int×(List Gt)) (fun (s:Nat×Int×(List Gt)) (a:Act) (w:World)=>match s with|(k,x,q)=>∃ aX b5,Fr a 96 [(1,.slice Arr rr.length crr),(4,(ae b6)),(8,(ae b9)),(14,vi (ia rr)),(15,(ae aE)),(16,vi x)]/\(x=p+(k:Int))/\(k<=lb rr p)/\(q=ws++lp c rr p k)/\al w b6 28 [vi c.n,.slice Ac c.gs.length cc]/\al w b9 56 [vi 0,.slice none 0 0,.slice none 0 0]/\al w aE 56 [vi p,.slice D ((c.gs.take (W+1)).drop p.toNat).length E,.slice aX q.length b5]/\Rd w N.heap.size 52 ab Ac c.gs/\Rd w N.heap.size 3 bk Arr rr/\ah w N.heap.size 52 3 ab D E ((c.gs.take (W+1)).drop p.toNat)/\ah w N.heap.size 52 3 ab aX b5 q/\c.gs.length<=cc/\a_ D aX/\Bl N w) (fun (s:Nat×Int×(List Gt))=>match s with|(k,x,q)=>lb rr p-k) (0,p,ws) ?_ ?_
 ·exact ⟨aY,b8,A.sb,O6,(Qf _),(by rw[CR,List.append_nil]),H,z,C,g,o,y,cC,aL,aR,t⟩
 rintro ⟨k,x,q⟩ a mJ ⟨aX,b5,A,hx,hk,hq,H,z,C,g,o,y,L,aL,aA,t⟩;refine Q5 fun _ kK=>ZS A fun kL=>Zm O<|Zm O<|Ze (se O O)<|Zt kL fun a A=>eh A O (fun aQ cW=>?_) (fun aQ cW=>?_)
 ·have iH:k<lb rr p:=by have h9:=cW;rw[dK] at h9;omega
  obtain ⟨u9,lY⟩:=Xe (l:=c.gs) (k:=p.toNat+k) O0
  have mP:=zH c rr p k
  have lZ:q.length<=1000000+k:=by rw[hq,Qh];omega
  refine Q7<|kK _ _<|Q5 fun _ gD=>Q8<|ZS A fun kM=>Zm O<|Zm O<|Zf (Vc (Eg _ Arr crr rr o.top x O0) Dn) ?_;rintro _ oC ⟨rfl,d⟩;have ⟨H,z,C,g,o,y,L,t⟩:=j' d H z C g o y L t;refine Ze (dn O)<|Zt kM fun a A=>Xz A O ?_ ?_<;>intro cX
  ·have hT:h_ rr (p+(k:Int))=false:=by have h9:=cX;rw[hx] at h9;exact uT h9
   refine gx none (fun j=>[8,10].contains j) mixed ?_;intro oD d;have ⟨H,z,C,g,o,y,L,t⟩:=j' d H z C g o y L t;refine Yb A<|Yo 0 O (fun _=>Vd O qV 2)<|Ye 1 O (X0 O gj (C.at 2))<|Yo 2 O (fun _=>Vd O is 1)<|Ye 3 O (X0 O gj (H.at 1))<|Yo 4 O (fun _=>X7 O)<|Yi (k:=(p.toNat+k)) (u:=u9) (enc:=ab) (l:=c.gs) 5 O ad O O Xp ji Xl g lY O0 ?_;intro mQ i6;refine Ye 6 O (Xt (l:=[vi u9.k,vi u9.a,vi u9.b]) O jd i6 O)<|Y1 7<|Yk O ad (X6 (k:=1) (vs:=[.agg #[vi u9.k,vi u9.a,vi u9.b]]) (zs:=[vi u9.k,vi u9.a,vi u9.b]) O Xp Xx O O) (fun _ _ ⟨_,_,_,h,_⟩=>h) ?_;rintro _ oE ⟨mR,rfl,gE,d,d5⟩;have m9:=Q0 t.size gE;have cQ:=L.away gE;have ⟨H,z,C,g,o,y,L,t⟩:=j' d H z C g o y L t;refine Y1 8<|Yt O ad O (jf (enc:=ab) (l:=(q)) (l2:=([u9])) (B0:=N.heap.size) O O Xp Xx Xl lk L (Rd.of_blk d5 O _ d5.lt) (by simp only[maxLen];simp;omega) O5 t.size) ?_;rintro _ oF ⟨gF,gG,rfl,d6,hg,M⟩
   have b7:ah _ N.heap.size 52 3 ab _ _ (q):=L
   have iG:=M _ d5.lt cQ;have d7:=a_.app y aA M;clear M;have H:=H.appT b7 hg O;have z:=z.appT b7 hg O;have C:=C.appT b7 hg O;have g:=g.appB b7 hg (Qb _);have o:=o.appT b7 hg O;have y:=y.appP hg aA;have t:=Below.app t b7 hg (Qb _) t.size;clear b7 hg;refine Yo 9 O (fun _=>Vd O qV 2)<|Y1 10<|Yh O ad O (Vu (vs:=[.slice gF (q++([u9])).length gG]) (l':=[vi p,.slice D ((c.gs.take (W+1)).drop p.toNat).length E,.slice gF (q++([u9])).length gG]) O O rz C) ?_;rintro _ oG ⟨ho,hb⟩;have H:=H.oz ho C O;have z:=z.oy ho O0;have g:=g.oT ho C O;have o:=o.oT ho C O;have y:=y.oT ho C O;have d6:=d6.oT ho C O;have t:=Below.oy t ho bP;have C:=hb;exact Yd fun a A=>Xk<|gD _ _<|Zr A<|Zm O<|Ze (Xs O O O0 O0)<|Za O<|Zn fun a A=>Xb<|⟨(k+1,x+1,(q++[u9])),⟨gF,gG,A.sb,O0,O0,(F1 kT hq hT lY),H,z,C,g,o,y,d6,aL,d7,t⟩,O3⟩
  have hT:h_ rr (p+(k:Int))=true:=by have h9:=cX;rw[hx] at h9;exact v6 h9
  exact Q7<|Xk<|gD _ _<|Zr A<|Zm O<|Ze (Xs O O O0 O0)<|Za O<|Zn fun a A=>Xb<|⟨(k+1,x+1,q),⟨aX,b5,A.sb,O0,O0,(Gj hq hT),H,z,C,g,o,y,L,aL,aA,t⟩,O3⟩
 have iH:k=lb rr p:=by have h9:=cW;rw[dK] at h9;omega
 have gI:=HH hq iH
 have gJ:(ko c p rr ws).old=_:=GZ kT dK kS
 have mS:=zH c rr p k
 have lZ:q.length<=1000000+1000000000:=by rw[hq,Qh];omega
 refine Q9<|Xf<|Xf<|Xv<|kI _ _<|Q5 fun _ kN=>Q5 fun _ kO=>eo (fun a w=>Fr a 96 [(8,(ae b9)),(15,(ae aE)),(93,.bool ((decide (40<(((c.gs.take (W+1)).drop p.toNat).length:Int)))||(decide (40<(q.length:Int)))))]/\mJ=w) ?_ ?_
 ·refine Zr A<|Ze (Vd O rf 1)<|Ze (X0 O gj (C.at 1))<|Ze (fh O Xp)<|Ze (oo O O)<|Zm O<|Zg 88 O ?_ ?_<;>intro I
  ·(iterate 4 refine Zp (gP I) ?_);exact Ze (Xh O I O)<|Zn fun a A=>⟨A.sub ⟨O,O,X1 O (by first|rfl|(simp only[aZ,aQ,I,bs];done)|simp[aZ,aQ,I]),trivial⟩,O⟩
  refine Zv (gW I) (Vd O qV 2) ?_;refine Zv (gW I) (X0 O gj (C.at 2)) ?_;refine Zv (gW I) (fh O Xp) ?_;refine Zv (gW I) (oo O O) ?_;refine Ze (X9 O I O) ?_;exact Zn fun a A=>⟨A.sub ⟨O,O,X1 O (by first|rfl|(simp only[aZ,aQ,I,bs];done)|simp[aZ,aQ,I]),trivial⟩,O⟩
 rintro a _ ⟨A,rfl⟩;refine kO _ _<|Xz A O ?_ ?_<;>intro d8
 ·have h9:40<(ko c p rr ws).old.length∨40<(ko c p rr ws).new.length:=by rw[gJ,gI];have h8:=d8;simp only[Bool.or_eq_true,Qr] at h8;omega
  have b0:=F8 i9 h9;refine ZS A fun kP=>Ze (Xg (ps:=[]) (cs:=[vi 0,.slice none 0 0,.slice none 0 0]) O (fun _=>by first|rfl|kernel_rfl))<|Zo (Vw [vi 0,.slice none 0 0,.slice none 0 0] ml z) ?_;rintro _ oH ⟨ho,hb⟩;have t:=Below.oy t ho d9;have z:=hb;refine Za O<|Zt kP fun a A=>Q6<|X3<|X4 A (dj A O (an.cellN (l:=[vi 0,.slice none 0 0,.slice none 0 0]) O mt (z.at 0) O) O) ?_
  rw[b0]
  exact ⟨none,0,none,0,O,(ah.nil _ _ _ _ _),(ah.nil _ _ _ _ _),(a_.none_l _),t⟩
 have h9:¬ (40<(ko c p rr ws).old.length∨40<(ko c p rr ws).new.length):=by rw[gJ,gI];have h8:=d8;simp only[Bool.or_eq_false_iff,decide_eq_false_iff_not] at h8;omega
 have b0:=Ju i9 h9;refine Q7<|kN _ _<|ZS A fun kQ=>Ze (Vn mt C)<|Zo (Vw [vi p,.slice D ((c.gs.take (W+1)).drop p.toNat).length E,.slice aX q.length b5] ml z) ?_;rintro _ oI ⟨ho,hb⟩;have y:=y.oT ho z O;have L:=L.oT ho z O;have t:=Below.oy t ho d9;have z:=hb;refine Za O<|Zt kQ fun a A=>Q6 (X4 A (dj A O (an.cellN (l:=[vi p,.slice D ((c.gs.take (W+1)).drop p.toNat).length E,.slice aX q.length b5]) O mt (z.at 0) O) O) ?_)
 rw[b0]
 simp only[Qq]
 rw[gJ,gI]
 exact ⟨D,E,aX,b5,O,y,L,aA,t⟩
def Q_(w0:World)(k:Int):RE 74 [vi k] w0 (fun v w=>v=.bool (sB k)/\Bl w0 w):=by
 refine enter func74 O 9 O O ?_;intro a d
 have hW:=bz w0
 refine ZS d fun aA=>Za O<|ZX aA fun a d _ aB=>eo (fun a w=>Fr a 9 [(2,.bool ((k==7)||(k==8)))]/\w0=w) ?_ ?_
 ·refine Zr d<|Zm O<|Ze (go O O)<|Zm O<|Zg 5 O ?_ ?_<;>intro c
  ·(iterate 2 refine Zp (gP c) ?_);exact Ze (Xh O c O)<|Za O<|Zn fun a d=>⟨d.sub ⟨X1 O (by simp[c]),trivial⟩,O⟩
  refine Zv (gW c) (X7 O) ?_;refine Zv (gW c) (go O O) ?_;refine Ze (X9 O c O)<|Za O ?_;exact Zn fun a d=>⟨d.sub ⟨X1 O (by first|rfl|(simp only[c,bs];done)|simp[c]),trivial⟩,O⟩
 rintro a _ ⟨d,rfl⟩;refine aB _ _<|Q6 (X4 d (Xu d O O) ?_)
 exact ⟨O,hW⟩
def GK(f:World)(Al:Option Addr)(cl:Nat)(l:List Gt)(aB:Rw f 52 ab Al l)(aU:l.length<=100000000):RE 45 [.slice Al l.length cl] f (fun v w=>v=vi ((ic l:Nat) : Int)/\Bl f w):=by
 refine enter func45 O 20 O O ?_;intro a c;have d:=bz f;refine ZS c fun aJ=>Za O<|Zx aJ fun a c _ aK=>Za O<|ZX aK fun a c _ aL=>ZS c fun aM=>Zm O<|Ze (fh O Xp)<|Zm O<|Zt aM fun a c=>Q8<|Xw (σ:=Nat) (fun (k:Nat) (a:Act) (w:World)=>Fr a 20 [(3,vi ((ic (l.take k) : Nat) : Int)),(6,.slice Al l.length cl),(7,vi (l.length:Int)),(8,vi (k:Int))]/\(k<=l.length)/\Bl f w) (fun (k:Nat)=>l.length-k) 0 ?_ ?_
 ·exact ⟨c.sb,(Qf _),d⟩
 intro k a w1 ⟨c,hk,d⟩;refine ZS c fun aN=>Ze (ew O O)<|ZX aN fun a c _ aO=>eh c O (fun aC aP=>?_) (fun aC aP=>?_)
 ·have ⟨e,aD⟩:=Xe (l:=l) (k:=k) O0;have aQ:=UN aD;have aR:=T_ (l.take k);rw[Qn] at aR;refine Q7<|aO _ _<|Q5 fun _ aE=>Q8<|ZS c fun aF=>Zi (k:=k) (u:=e) (enc:=ab) (l:=l) ad O O Xp ji Xl (aB.bx d) aD O ?_;intro aW aA;refine Ze (Xt (l:=[vi e.k,vi e.a,vi e.b]) O jd aA O)<|ZB [vi e.k,vi e.a,vi e.b] ql ji fun aX w3 aG hE aH=>?_;have aS:=Q0 d.size aG;have d:=aa d hE;refine Zt aF fun a c=>Zr c<|Zm O<|Ze (Vd O mo 0)<|Ze (X0 O X8 (aH.at 0))<|Zf (Vc (Q_ _ e.k) P0) ?_;rintro _ w4 ⟨rfl,hE⟩;have d:=aa d hE;refine Zf (Vc (vJ _ (sB e.k)) vF) ?_;rintro _ _ ⟨rfl,rfl⟩;refine Ze (Xs O O O0 O0)<|Za O<|Zn fun a c=>Xk<|aE _ _<|Zr c<|Ze (Xs O O O0 O0)<|Zm O<|Zn fun a c=>?_;rw[<- aQ] at c;exact Xb<|⟨k+1,⟨c.sb,O0,d⟩,O0⟩
 have aT:l.take k=l:=Qi O0;refine Q9<|Xf<|Xf<|Xv<|aL _ _<|ZS c fun aI=>Zm O<|Za O<|Zt aI fun a c=>Q6 (X4 c (Xu c O O) ?_);rw[aT];exact ⟨O,d⟩
def RK(m:World)(c:Cx)(Ac:Option Addr)(cc:Nat)(aB:Rw m 52 ab Ac c.gs)(lo:Int)(hi:Int)(aT:c.gs.length<=100000000):RE 88 [.agg #[vi c.n,.slice Ac c.gs.length cc],vi lo,vi hi] m (fun v w=>v=vi ((c.gs.countP fun g=>bq g.k lo hi:Nat) : Int)/\Bl m w):=by
 refine enter func88 O 26 O O ?_;intro a d;have f:=bz m;refine ZS d fun aI=>Zf (bt (zs:=[vi c.n,.slice Ac c.gs.length cc]) O O) ?_;rintro _ w1 ⟨b3,rfl,aJ,hE,aK⟩;have aS:=Q0 f.size aJ;have f:=aa f hE;refine Za O<|Zx aI fun a d _ aL=>Za O<|ZX aL fun a d _ aM=>ZS d fun aN=>Ze (Vd O is 1)<|Ze (X0 O gj (aK.at 1))<|Ze (fh O Xp)<|Zm O<|Zt aN fun a d=>Q8<|Xw (σ:=Nat×Nat) (fun (s:Nat×Nat) (a:Act) (w:World)=>match s with|(k,q)=>Fr a 26 [(1,vi lo),(2,vi hi),(7,vi (q:Int)),(11,.slice Ac c.gs.length cc),(12,vi (c.gs.length:Int)),(13,vi (k:Int))]/\(k<=c.gs.length)/\(q=(c.gs.take k).countP fun g=>bq g.k lo hi)/\(q<=k)/\Bl m w) (fun (s:Nat×Nat)=>match s with|(k,q)=>c.gs.length-k) (0,0) ?_ ?_
 ·exact ⟨d.sb,(Qf _),O,(Qb _),f⟩
 intro ⟨k,q⟩ a w2 ⟨d,hk,hq,aU,f⟩;refine ZS d fun aO=>Ze (ew O O)<|ZX aO fun a d _ aP=>eh d O (fun aC aQ=>?_) (fun aC aQ=>?_)
 ·have ⟨e,i⟩:=Xe (l:=c.gs) (k:=k) O0;refine Q7<|aP _ _<|Q5 fun _ o=>Q8<|ZS d fun aD=>Zi (k:=k) (u:=e) (enc:=ab) (l:=c.gs) ad O O Xp ji Xl (aB.bx f) i O ?_;intro aW aA;refine Ze (Xt (l:=[vi e.k,vi e.a,vi e.b]) O jd aA O)<|ZB [vi e.k,vi e.a,vi e.b] ql ji fun aX w4 aE hE aF=>?_;have aR:=Q0 f.size aE;have f:=aa f hE;refine Zx aD fun a d _ aG=>Ze (Vd O mo 0)<|Ze (X0 O X8 (aF.at 0))<|Zm O<|Zm O<|Zf (Vc (ru _ e.k lo hi) rq) ?_;rintro _ _ ⟨rfl,rfl⟩;refine Zt aG fun a d=>Xz d O ?_ ?_<;>intro j
  ·have hT:bq e.k lo hi=true:=j;exact Zr d<|Zm O<|Ze (Xs O O O0 O0)<|Za O<|Zn fun a d=>Xk<|o _ _<|Zr d<|Ze (Xs O O O0 O0)<|Zm O<|Zn fun a d=>Xb<|⟨(k+1,q+1),⟨d.sb,O0,(by rw[Qt,i,List.countP_append,<- hq];simp[hT]),O0,f⟩,O3⟩
  have hT:bq e.k lo hi=false:=j;exact Q7<|Xk<|o _ _<|Zr d<|Ze (Xs O O O0 O0)<|Zm O<|Zn fun a d=>Xb<|⟨(k+1,q),⟨d.sb,O0,(by rw[Qt,i,List.countP_append,<- hq];simp[hT]),O0,f⟩,O3⟩
 refine Q9<|Xf<|Xf<|Xv<|aM _ _<|ZS d fun aH=>Zm O<|Za O<|Zt aH fun a d=>Q6 (X4 d (Xu d O O) ?_);exact ⟨by rw[hq,Qi O0],f⟩
def vU(w0:World)(Al:Option Addr)(cl:Nat)(l:List Gt)(aA:Rw w0 52 ab Al l)(aB:l.length<=100000000):RE 56 [.slice Al l.length cl] w0 (fun v w=>v=vi ((ic l:Nat) : Int)/\Bl w0 w):=by
 refine enter func56 O 6 O O ?_;intro a hf;have hW:=bz w0;refine ZS hf fun aC=>Za O<|Zx aC fun a hf _ aD=>Zm O<|Ze (Xg (ps:=[(1,.slice Al l.length cl)]) (cs:=[vi 0,.slice Al l.length cl]) O (fun _=>by first|rfl|kernel_rfl))<|Zf (Vc (RK _ (⟨0,l⟩ : Cx) Al cl (aA.bx hW).top 7 8 aB) Me) ?_;rintro _ w1 ⟨rfl,hE⟩;have hW:=aa hW hE;refine Za O<|Zt aD fun a hf=>Q6 (X4 hf (Xu hf O O) ?_);exact ⟨by rw[<- MC],hW⟩
def IS(z:World)(c:Cx)(Ac:Option Addr)(cc:Nat)(aK:Rw z 52 ab Ac c.gs)(Arr:Option Addr)(crr:Nat)(rr:List Int)(aA:Rw z 3 bk Arr rr)(Aqs:Option Addr)(cqs:Nat)(qs:List Int)(aB:Rw z 3 bk Aqs qs)(bJ:gf c=true)(bM:rr.length<=6)(b3:∀ i ∈ rr,∃ j:Nat,i=(j:Int)/\j<c.gs.length)(b4:∀ g ∈ fr c rr,oO qs c.n g/\i_ g qs=true)(b6:sn qs)(b8:qs.length<=1048576):RE 54 [.agg #[vi c.n,.slice Ac c.gs.length cc],.slice Arr rr.length crr,.slice Aqs qs.length cqs] z (fun v w=>∃ A e,v=.agg #[vi (xC c rr qs).n,.slice A (xC c rr qs).gs.length e]/\ah w z.heap.size 52 3 ab A e (xC c rr qs).gs/\Bl z w):=by
 have bK:=zg c rr;refine enter func54 O 33 O O ?_;intro a x;have p:=bz z;refine ZS x fun b9=>Zf (bt (zs:=[vi c.n,.slice Ac c.gs.length cc]) O O) ?_;rintro _ w1 ⟨b5,rfl,bC,t,f⟩;have bL:=Q0 p.size bC;have p:=aa p t;refine Zf (Xi (zs:=[vi 0,.slice none 0 0]) oN O) ?_;rintro _ w2 ⟨b7,rfl,bD,t,m⟩;have b2:b5≠b7:=by have:=f.lt;omega
 have aL:=Q0 p.size bD;have f:=f.bw t;have p:=aa p t;refine Zx b9 fun a x _ bE=>Zm O<|Ze (fh O gq)<|Ze (Xg (ps:=[(0,vi (qs.length:Int))]) (cs:=[vi (qs.length:Int),.slice none 0 0]) O (fun _=>by first|rfl|kernel_rfl))<|ZB [vi (qs.length:Int),.slice none 0 0] oN mc fun b11 w4 aM t d=>?_;have aN:b5≠b11:=by have:=f.lt;omega
 have aO:b7≠b11:=by have:=m.lt;omega
 have aC:=Q0 p.size aM;have ⟨f,m,p⟩:=bh t f m p;refine ZX bE fun a x _ aP=>ZS x fun aQ=>Zm O<|Ze (fh O gq)<|Zm O<|Zt aQ fun a x=>Q8<|Xw (σ:=Nat×(List Gt)) (fun (s:Nat×(List Gt)) (a:Act) (w:World)=>match s with|(k,q)=>∃ B C,Fr a 33 [(2,.slice Aqs qs.length cqs),(3,(ae b5)),(6,(ae b7)),(7,(ae b11)),(13,.slice Arr rr.length crr),(14,vi (rr.length:Int)),(15,vi (k:Int))]/\(k<=rr.length)/\(q=((fr c rr).take k).map (en qs))/\(q.length=k)/\al w b5 28 [vi c.n,.slice Ac c.gs.length cc]/\al w b7 28 [vi 0,.slice none 0 0]/\al w b11 28 [vi (qs.length:Int),.slice B q.length C]/\ah w z.heap.size 52 3 ab B C q/\Bl z w) (fun (s:Nat×(List Gt))=>match s with|(k,q)=>rr.length-k) (0,[]) ?_ ?_
 ·exact ⟨none,0,x.sb,(Qf _),O,O,f,m,d,(ah.nil _ _ _ _ _),p⟩
 intro ⟨k,q⟩ a w5 ⟨B,C,x,hk,hq,bF,f,m,d,o,p⟩;refine ZS x fun aR=>Ze (ew O O)<|ZX aR fun a x _ aS=>eh x O (fun aD aT=>?_) (fun aD aT=>?_)
 ·have ⟨bG,E⟩:=Xe (l:=rr) (k:=k) O0;have ⟨j9,aU,aW⟩:=b3 _ (Qe E);have ⟨u9,aE⟩:=Xe (l:=fr c rr) (k:=k) O0;have bH:c.gs[j9]? = some u9:=MA E aU aW aE;have ⟨J,G⟩:=b4 u9 (Qe aE);refine Q7<|aS _ _<|Q5 fun _ aX=>Q8<|ZS x fun aY=>Zi (k:=k) (u:=bG) (enc:=bk) (l:=rr) ad O O gq jw kp (aA.bx p) E O ?_;intro bN aF;refine Ze (X0 O X8 aF)<|Za O<|Zt aY fun a x=>gx none (fun j=>[10,12].contains j) mixed ?_;intro w6 t;have ⟨f,m,d,o,p⟩:=io t f m d o p;refine Yb x<|Yo 0 O (fun _=>Vd O is 1)<|Ye 1 O (X0 O gj (d.at 1))<|Yo 2 O (fun _=>Vd O is 1)<|Ye 3 O (X0 O gj (f.at 1))<|Yo 4 O (fun _=>X7 O)<|Yi (k:=j9) (u:=u9) (enc:=ab) (l:=c.gs) 5 O ad O O Xp ji Xl (aK.bx p) bH aU ?_;intro bO aG;refine Ye 6 O (Xt (l:=[vi u9.k,vi u9.a,vi u9.b]) O jd aG O)<|Yo 7 O (fun _=>X7 O)<|Y1 8<|Yk O ad (Vc (RU _ u9 Aqs cqs qs (aB.bx p).top (AG G) (J.use _ (P7 (AG G))) b6 (fun h9=>J.use _ (TG (AG G) h9)) (Q0 b8 O2)) Uw) (fun _ _ ⟨_,t⟩=>t) ?_;rintro _ w7 ⟨rfl,t⟩;have ⟨f,m,d,o,p⟩:=io t f m d o p;refine Y1 9<|Yk O ad (X6 (k:=1) (vs:=[.agg #[vi ((en qs u9).k),vi ((en qs u9).a),vi ((en qs u9).b)]]) (zs:=[vi ((en qs u9).k),vi ((en qs u9).a),vi ((en qs u9).b)]) O Xp Xx O O) (fun _ _ ⟨_,_,_,h,_⟩=>h) ?_;rintro _ w8 ⟨bP,rfl,L,t,H⟩;have bI:=Q0 p.size L;have ⟨f,m,d,o⟩:=dk t f m d o;have p:=aa p t;refine Y1 10<|Yt O ad O (jf (enc:=ab) (l:=(q)) (l2:=([(en qs u9)])) (B0:=z.heap.size) O O Xp Xx Xl lk o (Rd.of_blk H O _ H.lt) (by simp only[maxLen];simp;omega) O5 p.size) ?_;rintro _ w9 ⟨aH,aI,rfl,I,hg,aZ⟩;have y:ah _ z.heap.size 52 3 ab _ _ (q):=o;clear aZ;have f:=f.appT y hg O;have m:=m.appT y hg O;have d:=d.appT y hg O;have p:=Below.app p y hg (Qb _) p.size;clear y hg;refine Yo 11 O (fun _=>Vd O is 1)<|Y1 12<|Yh O ad O (Vu (vs:=[.slice aH (q++([(en qs u9)])).length aI]) (l':=[vi (qs.length:Int),.slice aH (q++([(en qs u9)])).length aI]) O O rz d) ?_;intro _ bQ ⟨ho,hb⟩;have f:=f.oy ho O0;have m:=m.oy ho O0;have I:=I.oT ho d O;have p:=Below.oy p ho aC;have d:=hb;exact Yd fun a x=>Xk<|aX _ _<|Zr x<|Ze (Xs O O O0 O0)<|Zm O<|Zn fun a x=>Xb<|⟨(k+1,(q++[en qs u9])),⟨aH,aI,x.sb,O0,(Om hq aE),(by simp;exact bF),f,m,d,I,p⟩,O3⟩
 have b0:q=(fr c rr).map (en qs):=by rw[hq,Qi O0]
 refine Q9<|Xf<|Xf<|Xv<|aP _ _<|ZS x fun b1=>Ze (Vn g_ d)<|Zo (Vw [vi (qs.length:Int),.slice B q.length C] mc m) ?_;intro _ bR ⟨ho,hb⟩;have o:=o.oT ho m O;have p:=Below.oy p ho aL;have m:=hb;refine Zt b1 fun a x=>Q6 (X4 x (Xu x O (an.cellN (l:=[vi (qs.length:Int),.slice B q.length C]) O g_ (m.at 0) O)) ?_);subst b0;exact ⟨B,C,O,o,p⟩
def yD(w0:World)(x:Cx)(Ax:Option Addr)(cx:Nat)(aB:Rw w0 52 ab Ax x.gs)(hx:gf x=true)(M9:Mx)(aC:eu x=some M9):RE 78 [.agg #[vi x.n,.slice Ax x.gs.length cx]] w0 (fun v w=>∃ A c1,v=mV A c1 ((eu x).getD mZ)/\Rw w 147 ai A ((eu x).getD mZ).cells/\Bl w0 w):=by
 have ⟨hn,aL,aN⟩:=n' hx;have t:=NT hx aC;have ⟨d,hd⟩ : ∃ d:Nat,d=2^x.n.toNat:=⟨_,O⟩;rw[<- hd] at t;refine enter func78 O 14 O O ?_;intro a hf;have f:=bz w0;refine ZS hf fun aF=>Zf (bt (zs:=[vi x.n,.slice Ax x.gs.length cx]) O O) ?_;rintro _ w1 ⟨b3,rfl,aG,e,g⟩;have aM:=Q0 f.size aG;have f:=aa f e;refine Zf (Xi (zs:=[vi 0,vi 0,.slice none 0 0]) jy O) ?_;rintro _ w2 ⟨b5,rfl,aH,e,c⟩;have aD:=Q0 f.size aH;have g:=g.bw e;have f:=aa f e;refine Zx aF fun a hf _ aI=>Ze (Xg (ps:=[]) (cs:=[.bool false]) O (fun _=>by first|rfl|kernel_rfl))<|Zf (bt (zs:=[.bool false]) O O) ?_;rintro _ w3 ⟨b7,rfl,aJ,e,i⟩;have aE:=Q0 f.size aJ;have ⟨g,c,f⟩:=bh e g c f;refine Za O<|ZX aI fun a hf _ aK=>gx (some b7) (fun j=>[8].contains j) mixed ?_;intro w4 e;have ⟨g,c,i,f⟩:=dk e g c i f;refine Yb hf<|Yo 0 O (fun _=>X7 O)<|Yw 1 O ad (fun w1 h1=>Xt (l:=[vi x.n,.slice Ax x.gs.length cx]) O g_ ((g.oz h1 i O).at 0) O)<|Yo 2 O (fun _=>Vd O oY 0)<|Yw 3 O ad (fun w1 h1=>X0 O X8 ((g.oz h1 i O).at 0)) ?_;refine Yo 4 O (fun _=>ui (m:=x.n.toNat) underlying3 underlying139 O O0 O0)<|Yo 5 O (fun _=>wg (m:=x.n.toNat) (D:=d) O O O ⟨hd,by omega⟩)<|Y1 6<|Yf O ad (fd.mono (Vc (xu _ d (by rw[hd];exact wu hn.2)) xR) (fun _ _ h=>⟨fun _=>by obtain ⟨A9,c9,rfl,o,e⟩:=h;exact dw.of_below e,h⟩)) ?_;rintro _ w5 ⟨A9,c9,rfl,o,e⟩;have o:=o.lower f.size;have ⟨c,i,f⟩:=bh e c i f;refine Y1 7<|Yf O ad (fd.mono (ki (vs:=[(ae b7),.agg #[vi x.n,.slice Ax x.gs.length cx],.agg #[vi ((ao d).rows),vi ((ao d).cols),.slice A9 ((ao d).cells).length c9]]) O Fj (by have hq:=Fd w5 b7 false i x Ax cx (aB.bx f).top (ao d) A9 c9 o.rd.top hx (s_ (by rw[hd];exact tj hn)).2 (by rw[<- hd];rfl);rw[t] at hq;dsimp only at hq;exact hq)) (fun _ _ h=>⟨fun _=>by obtain ⟨p,q,rfl,k,hK,aA⟩:=h;exact hK.keep,h⟩)) ?_;rintro _ w6 ⟨p,q,rfl,k,hK,aA⟩;have ⟨wm,hO,hm,e⟩:=hK.mid;clear hm;have u:=i;have c:=c.oz hO u O;have f:=Below.oy f hO aE;have c:=c.bw e;have f:=aa f e;clear u e hO hK;clear aA;refine Y1 8<|Yh O ad O (Vw [vi M9.rows,vi M9.cols,.slice p M9.cells.length q] jg c) ?_;intro _ w7 ⟨ho,hb⟩;have k:=k.oT ho c O;have f:=Below.oy f ho aD;have c:=hb;refine Yd fun a hf=>aK _ _<|Q6 (X4 hf (Xu hf O (an.cellN (l:=[vi M9.rows,vi M9.cols,.slice p M9.cells.length q]) O fw (c.at 0) O)) ?_);rw[aC];exact ⟨p,q,O,k.top,f⟩
def OS(w0:World)(x:Int)(y:Int):RE 79 [vi x,vi y] w0 (fun v w=>v=vi (min x y)/\Bl w0 w):=by
 refine enter func79 O 10 O O ?_;intro a c;have hW:=bz w0;refine ZS c fun aB=>Za O<|ZX aB fun a c _ aC=>ZS c fun aD=>Zm O<|Zm O<|Ze (ew O O)<|Zt aD fun a c=>eh c O (fun aA aE=>?_) (fun aA aE=>?_)
 ·exact ZS c fun aF=>Zm O<|Za O<|Zt aF fun a c=>Q6<|X3<|X4 c (Xu c O O)<|⟨by rw[Int.min_eq_left O0],hW⟩
 refine Q7<|aC _ _<|ZS c fun aG=>Zm O<|Za O<|Zt aG fun a c=>Q6 (X4 c (Xu c O O) ?_);exact ⟨by rw[Int.min_eq_right O0],hW⟩
def yN(z:World)(Al:Option Addr)(cl:Nat)(l:List Gt)(b4:Rw z 52 ab Al l)(Aqs:Option Addr)(cqs:Nat)(qs:List Int)(h:Rw z 3 bk Aqs qs)(L:Nat)(D:∀ g ∈ l,(g.k≠12->0<=g.a/\g.a<(L:Int))/\(bq g.k 9 11=true->0<=g.b/\g.b<(L:Int)))(hL:qs.length=L)(cG:l.length<=1000000):RE 58 [.slice Al l.length cl,.slice Aqs qs.length cqs] z (fun v w=>∃ A c,v=.slice A (av l qs).length c/\ah w z.heap.size 52 3 ab A c (av l qs)/\Bl z w):=by
 refine enter func58 O 37 O O ?_;intro a i;have j:=bz z;refine ZS i fun bK=>Za O<|Zx bK fun a i _ bL=>Za O<|ZX bL fun a i _ bM=>ZS i fun bN=>Zm O<|Ze (fh O Xp)<|Zm O<|Zt bN fun a i=>Q8<|Xw (σ:=Nat×(List Gt)) (fun (s:Nat×(List Gt)) (a:Act) (w:World)=>match s with|(k,q)=>∃ A9 c9,Fr a 37 [(1,.slice Aqs qs.length cqs),(5,.slice A9 q.length c9),(8,.slice Al l.length cl),(9,vi (l.length:Int)),(10,vi (k:Int))]/\(k<=l.length)/\(q=(l.take k).map (mb qs))/\(q.length=k)/\ah w z.heap.size 52 3 ab A9 c9 q/\Bl z w) (fun (s:Nat×(List Gt))=>match s with|(k,q)=>l.length-k) (0,[]) ?_ ?_
 ·exact ⟨none,0,i.sb,(Qf _),O,O,(ah.nil _ _ _ _ _),j⟩
 intro ⟨k,q⟩ a w1 ⟨A9,c9,i,hk,hq,aC,f,j⟩;refine ZS i fun b5=>Ze (ew O O)<|ZX b5 fun a i _ b6=>eh i O (fun aM b7=>?_) (fun aM b7=>?_)
 ·have ⟨d,x⟩:=Xe (l:=l) (k:=k) O0;refine Q7<|b6 _ _<|Q5 fun _ C=>Q8<|ZS i fun b8=>Zi (k:=k) (u:=d) (enc:=ab) (l:=l) ad O O Xp ji Xl (b4.bx j) x O ?_;intro cH aN;refine Ze (Xt (l:=[vi d.k,vi d.a,vi d.b]) O jd aN O)<|ZB [vi d.k,vi d.a,vi d.b] ql ji fun aD w3 aE y e=>?_;have B:=Q0 j.size aE;have m:=f.away aE;have f:=f.bw y;have j:=aa j y;refine ZX b8 fun a i _ aF=>ZS i fun b9=>Ze (Vn jd e)<|Zf (Vc (zT _ d) AN) ?_;rintro _ w4 ⟨rfl,y⟩;have ⟨e,f,j⟩:=bh y e f j;refine Zt b9 fun a i=>Xz i O ?_ ?_<;>intro E
  ·have o:bq d.k 9 11=true:=E;have ⟨cI,cJ⟩:=(D d (Qe x)).2 o;refine Zr i<|Zm O<|Ze (Vd O no 2)<|Ze (X0 O X8 (e.at 2))<|Zi (k:=d.b.toNat) (u:=(qs.getD d.b.toNat 0)) (enc:=bk) (l:=qs) ad O O gq jw kp (h.bx j) (xW O0) O0 ?_;intro cK aO;refine Ze (X0 O X8 aO)<|Ze (Vd O no 2)<|Zo (Vu (vs:=[vi (qs.getD d.b.toNat 0)]) (l':=[vi d.k,vi d.a,vi (qs.getD d.b.toNat 0)]) O O jw e) ?_;intro _ w5 ⟨ho,hb⟩;have f:=f.onlyA ho m;have j:=Below.oy j ho B;have e:=hb;refine ZX aF fun a i _ aG=>ZS i fun bC=>Ze (Vd O mo 0)<|Ze (X0 O X8 (e.at 0))<|Ze (kz O O)<|Zt bC fun a i=>Xz i O ?_ ?_<;>intro G
   ·have n:¬ d.k=12:=by simpa using G
    have ⟨bO,bP⟩:=(D d (Qe x)).1 n;refine Zr i<|Zm O<|Ze (Vd O lm 1)<|Ze (X0 O X8 (e.at 1))<|Zi (k:=d.a.toNat) (u:=(qs.getD d.a.toNat 0)) (enc:=bk) (l:=qs) ad O O gq jw kp (h.bx j) (xW O0) O0 ?_;intro cM aP;refine Ze (X0 O X8 aP)<|Ze (Vd O lm 1)<|Zo (Vu (vs:=[vi (qs.getD d.a.toNat 0)]) (l':=[vi d.k,vi (qs.getD d.a.toNat 0),vi (qs.getD d.b.toNat 0)]) O O jw e) ?_;intro _ w6 ⟨ho,hb⟩;have f:=f.onlyA ho m;have j:=Below.oy j ho B;have e:=hb;refine Zt aG fun a i=>Zr i<|Zm O<|Ze (Vn jd e)<|Zf (X6 (k:=1) (vs:=[.agg #[vi d.k,vi (qs.getD d.a.toNat 0),vi (qs.getD d.b.toNat 0)]]) (zs:=[vi d.k,vi (qs.getD d.a.toNat 0),vi (qs.getD d.b.toNat 0)]) O Xp Xx O O) ?_;rintro _ w7 ⟨b29,rfl,aH,y,H⟩;have aR:aD≠b29:=by have:=e.lt;omega
    have bQ:=Q0 j.size aH;have ⟨e,f,j⟩:=bh y e f j;refine Zf (jf (enc:=ab) (l:=(q)) (l2:=([(⟨d.k,(qs.getD d.a.toNat 0),(qs.getD d.b.toNat 0)⟩ : Gt)])) (B0:=z.heap.size) O O Xp Xx Xl lk f (Rd.of_blk H O _ H.lt) (by simp only[maxLen];simp;omega) O5 j.size) ?_;rintro _ w8 ⟨bR,bS,rfl,bD,J,t⟩;have p:ah _ z.heap.size 52 3 ab _ _ (q):=f;clear t;have j:=Below.app j p J (Qb _) j.size;clear p J;exact Za O<|Zn fun a i=>Xk<|C _ _<|Zr i<|Ze (Xs O O O0 O0)<|Zm O<|Zn fun a i=>Xb<|⟨(k+1,q++([(⟨d.k,(qs.getD d.a.toNat 0),(qs.getD d.b.toNat 0)⟩ : Gt)])),⟨bR,bS,i.sb,O0,(yX hq x (by unfold mb;first|rw[Q4 n,Q4 o]|rw[Q4 n,Q3 (by rw[o];decide)]|rw[Q3 n,Q4 o]|rw[Q3 n,Q3 (by rw[o];decide)])),(by simp;exact aC),bD,j⟩,O3⟩
   have n:d.k=12:=by simpa using G
   refine Q7<|aG _ _<|Zr i<|Zm O<|Ze (Vn jd e)<|Zf (X6 (k:=1) (vs:=[.agg #[vi d.k,vi d.a,vi (qs.getD d.b.toNat 0)]]) (zs:=[vi d.k,vi d.a,vi (qs.getD d.b.toNat 0)]) O Xp Xx O O) ?_;rintro _ w9 ⟨b32,rfl,aI,y,M⟩;have aU:aD≠b32:=by have:=e.lt;omega
   have bU:=Q0 j.size aI;have ⟨e,f,j⟩:=bh y e f j;refine Zf (jf (enc:=ab) (l:=(q)) (l2:=([(⟨d.k,d.a,(qs.getD d.b.toNat 0)⟩ : Gt)])) (B0:=z.heap.size) O O Xp Xx Xl lk f (Rd.of_blk M O _ M.lt) (by simp only[maxLen];simp;omega) O5 j.size) ?_;rintro _ cO ⟨bW,bZ,rfl,bE,J,t⟩;have p:ah _ z.heap.size 52 3 ab _ _ (q):=f;clear t;have j:=Below.app j p J (Qb _) j.size;clear p J;exact Za O<|Zn fun a i=>Xk<|C _ _<|Zr i<|Ze (Xs O O O0 O0)<|Zm O<|Zn fun a i=>Xb<|⟨(k+1,q++([(⟨d.k,d.a,(qs.getD d.b.toNat 0)⟩ : Gt)])),⟨bW,bZ,i.sb,O0,(yX hq x (by unfold mb;first|rw[Q4 n,Q4 o]|rw[Q4 n,Q3 (by rw[o];decide)]|rw[Q3 n,Q4 o]|rw[Q3 n,Q3 (by rw[o];decide)])),(by simp;exact aC),bE,j⟩,O3⟩
  have o:bq d.k 9 11=false:=E;refine Q7<|aF _ _<|Q5 fun _ aJ=>ZS i fun bF=>Ze (Vd O mo 0)<|Ze (X0 O X8 (e.at 0))<|Ze (kz O O)<|Zt bF fun a i=>Xz i O ?_ ?_<;>intro Q
  ·have n:¬ d.k=12:=by simpa using Q
   have ⟨bO,bP⟩:=(D d (Qe x)).1 n;refine Zr i<|Zm O<|Ze (Vd O lm 1)<|Ze (X0 O X8 (e.at 1))<|Zi (k:=d.a.toNat) (u:=(qs.getD d.a.toNat 0)) (enc:=bk) (l:=qs) ad O O gq jw kp (h.bx j) (xW O0) O0 ?_;intro cP aQ;refine Ze (X0 O X8 aQ)<|Ze (Vd O lm 1)<|Zo (Vu (vs:=[vi (qs.getD d.a.toNat 0)]) (l':=[vi d.k,vi (qs.getD d.a.toNat 0),vi d.b]) O O jw e) ?_;intro _ cQ ⟨ho,hb⟩;have f:=f.onlyA ho m;have j:=Below.oy j ho B;have e:=hb;refine Zt aJ fun a i=>Zr i<|Zm O<|Ze (Vn jd e)<|Zf (X6 (k:=1) (vs:=[.agg #[vi d.k,vi (qs.getD d.a.toNat 0),vi d.b]]) (zs:=[vi d.k,vi (qs.getD d.a.toNat 0),vi d.b]) O Xp Xx O O) ?_;rintro _ cR ⟨b40,rfl,aK,y,U⟩;have aY:aD≠b40:=by have:=e.lt;omega
   have cA:=Q0 j.size aK;have ⟨e,f,j⟩:=bh y e f j;refine Zf (jf (enc:=ab) (l:=(q)) (l2:=([(⟨d.k,(qs.getD d.a.toNat 0),d.b⟩ : Gt)])) (B0:=z.heap.size) O O Xp Xx Xl lk f (Rd.of_blk U O _ U.lt) (by simp only[maxLen];simp;omega) O5 j.size) ?_;rintro _ cS ⟨cB,cC,rfl,bG,J,t⟩;have p:ah _ z.heap.size 52 3 ab _ _ (q):=f;clear t;have j:=Below.app j p J (Qb _) j.size;clear p J;exact Za O<|Zn fun a i=>Xk<|C _ _<|Zr i<|Ze (Xs O O O0 O0)<|Zm O<|Zn fun a i=>Xb<|⟨(k+1,q++([(⟨d.k,(qs.getD d.a.toNat 0),d.b⟩ : Gt)])),⟨cB,cC,i.sb,O0,(yX hq x (by unfold mb;first|rw[Q4 n,Q4 o]|rw[Q4 n,Q3 (by rw[o];decide)]|rw[Q3 n,Q4 o]|rw[Q3 n,Q3 (by rw[o];decide)])),(by simp;exact aC),bG,j⟩,O3⟩
  have n:d.k=12:=by simpa using Q
  refine Q7<|aJ _ _<|Zr i<|Zm O<|Ze (Vn jd e)<|Zf (X6 (k:=1) (vs:=[.agg #[vi d.k,vi d.a,vi d.b]]) (zs:=[vi d.k,vi d.a,vi d.b]) O Xp Xx O O) ?_;rintro _ cT ⟨b43,rfl,aL,y,aA⟩;have b1:aD≠b43:=by have:=e.lt;omega
  have cD:=Q0 j.size aL;have ⟨e,f,j⟩:=bh y e f j;refine Zf (jf (enc:=ab) (l:=(q)) (l2:=([d])) (B0:=z.heap.size) O O Xp Xx Xl lk f (Rd.of_blk aA O _ aA.lt) (by simp only[maxLen];simp;omega) O5 j.size) ?_;rintro _ cU ⟨cE,cF,rfl,bH,J,t⟩;have p:ah _ z.heap.size 52 3 ab _ _ (q):=f;clear t;have j:=Below.app j p J (Qb _) j.size;clear p J;exact Za O<|Zn fun a i=>Xk<|C _ _<|Zr i<|Ze (Xs O O O0 O0)<|Zm O<|Zn fun a i=>Xb<|⟨(k+1,q++([d])),⟨cE,cF,i.sb,O0,(yX hq x (by unfold mb;first|rw[Q4 n,Q4 o]|rw[Q4 n,Q3 (by rw[o];decide)]|rw[Q3 n,Q4 o]|rw[Q3 n,Q3 (by rw[o];decide)])),(by simp;exact aC),bH,j⟩,O3⟩
 have bI:q=av l qs:=by rw[hq,Qi O0];rfl
 refine Q9<|Xf<|Xf<|Xv<|bM _ _<|ZS i fun bJ=>Zm O<|Za O<|Zt bJ fun a i=>Q6 (X4 i (Xu i O O) ?_);subst bI;exact ⟨A9,c9,O,f,j⟩
def Kr(w0:World)(c:Cx)(Ac:Option Addr)(cc:Nat)(f:Rw w0 52 ab Ac c.gs)(H:c.gs.length<=cc)(p:Int)(Aqs:Option Addr)(cqs:Nat)(qs:List Int)(d:Rw w0 3 bk Aqs qs)(I:gf c=true)(bG:qs.length<=1048576):RE 51 [.agg #[vi c.n,.slice Ac c.gs.length cc],vi p,.slice Aqs qs.length cqs] w0 (fun v w=>∃ A9 e9 B9 f9,v=.tuple #[.agg #[vi ((mj c p qs).getD df).pos,.slice A9 ((mj c p qs).getD df).old.length e9,.slice B9 ((mj c p qs).getD df).new.length f9],.bool (mj c p qs).isSome]/\ah w w0.heap.size 52 3 ab A9 e9 ((mj c p qs).getD df).old/\ah w w0.heap.size 52 3 ab B9 f9 ((mj c p qs).getD df).new/\a_ A9 B9/\Bl w0 w):=by
 have ⟨rr,cM⟩ : ∃ rr,rr=(nm c p qs).getD []:=⟨_,O⟩;have ⟨ro,bK⟩ : ∃ ro:Bool,ro=(nm c p qs).isSome:=⟨_,O⟩;have fA:c.gs.length<=400:=(n' I).2.1;refine enter func51 O 75 O O ?_;intro a z;have x:=bz w0;refine ZS z fun eM=>Zf (bt (zs:=[vi c.n,.slice Ac c.gs.length cc]) O O) ?_;rintro _ w1 ⟨b4,rfl,eO,e,o⟩;have fB:=Q0 x.size eO;have ⟨f,d,x⟩:=bh e f d x;refine Zf (Xi (zs:=[vi 0,.slice none 0 0,.slice none 0 0]) px O) ?_;rintro _ w2 ⟨b7,rfl,eP,e,k⟩;have U:=Q0 x.size eP;have ⟨o,f,d,x⟩:=dk e o f d x;refine Za O<|Zx eM fun a z _ eQ=>Ze (Vn g_ o)<|Zm O<|Zm O<|Zf (ki (vs:=[.agg #[vi c.n,.slice Ac c.gs.length cc],vi p,.slice Aqs qs.length cqs]) O Hj (by have hq:=H_ w2 c Ac cc f.top p Aqs cqs qs d.top I bG;rw[<- cM,<- bK] at hq;exact hq)) ?_;rintro _ w3 ⟨A9,c9,rfl,q,e⟩;have q:=q.lower x.size;have ⟨o,k,f,d,x⟩:=io e o k f d x;refine Zm O<|Ze (X2 (vs:=[.slice A9 rr.length c9,.bool ro]) O O)<|Ze (X2 (vs:=[.slice A9 rr.length c9,.bool ro]) O O)<|Za O<|Za O<|ZX eQ fun a z _ cO=>ZS z fun cP=>Zm O<|Ze (dn O)<|Zt cP fun a z=>Xz z O ?_ ?_<;>intro aX
 ·have D:mj c p qs=none:=by unfold mj;rw[Mm (by rw[<- bK];exact uT aX)];rfl
  refine ZS z fun cQ=>Ze (Xg (ps:=[]) (cs:=[vi 0,.slice none 0 0,.slice none 0 0]) O (fun _=>by first|rfl|kernel_rfl))<|Zo (Vw [vi 0,.slice none 0 0,.slice none 0 0] ml k) ?_;intro _ w4 ⟨G,hb⟩;have x:=Below.oy x G U;have k:=hb;refine Za O<|Zt cQ fun a z=>Q6<|X3<|X4 z (dj z O (an.cellN (l:=[vi 0,.slice none 0 0,.slice none 0 0]) O mt (k.at 0) O) O) ?_;rw[D];exact ⟨none,0,none,0,O,(ah.nil _ _ _ _ _),(ah.nil _ _ _ _ _),(a_.none_l _),x⟩
 have ⟨aG,cR⟩:=V_ (c:=c) (p:=p) (qs:=qs) (by rw[<- bK];exact v6 aX);have aF:rr=du c p qs:=by rw[cM,cR];rfl
 have fC:rr.length<=6:=by rw[aF];exact xV ..
 have fD:1<=rr.length:=by rw[aF];exact yF aG
 have ⟨Q,eR,fF⟩:=Ea I aG;have cS:∀ i ∈ rr,∃ j:Nat,i=(j:Int)/\j<c.gs.length:=fun i hi=>by rw[aF] at hi;have ⟨j,h1,h2,_⟩:=xO aG i hi;exact ⟨j,h1,h2⟩
 have fE:=zg c rr;have eS:∀ g ∈ fr c rr,oO qs c.n g/\i_ g qs=true:=fun g hg=>DN I aG g (by rw[<- aF];exact hg);have ⟨cT,eT,A,E,fG,cU,fH,fI,cV⟩:=JK I aG;rw[<- aF] at cT eT E;have aN:mj c p qs=uK c p qs rr:=by unfold mj;rw[cR,aF];rfl
 have bH:ic (xC c rr qs).gs=ic (fr c rr):=Jz qs (fr c rr);refine Q7<|cO _ _<|ZS z fun cW=>Ze (Vn g_ o)<|Zm O<|Zm O<|Zf (Vc (IS _ c Ac cc f.top A9 c9 rr q.rd.top Aqs cqs qs d.top I O0 cS eS eR bG) H8) ?_;rintro _ w5 ⟨aD,aE,rfl,m,e⟩;have m:=m.lower x.size;have ⟨o,k,f,d,q,x⟩:=kf e o k f d q x;refine ZB [vi ((xC c rr qs).n),.slice aD ((xC c rr qs).gs).length aE] oN mc fun b19 w7 cX e t=>?_;have d5:b4≠b19:=by have:=o.lt;omega
 have eU:=Q0 x.size cX;have ⟨o,k,f,d,q,m,x⟩:=lf e o k f d q m x;refine Zx cW fun a z _ d6=>Ze (Vn g_ t)<|Zf (ki (vs:=[.agg #[vi ((xC c rr qs).n),.slice aD ((xC c rr qs).gs).length aE]]) O zz (by have hq:=yD w7 (xC c rr qs) aD aE m.rd.top cT A E;rw[E,Qq] at hq;exact hq)) ?_;rintro _ w8 ⟨aH,aY,rfl,y,e⟩;have ⟨o,k,t,f,d,q,m,x⟩:=j' e o k t f d q m x;refine Zf (Xi (zs:=[vi 0,vi 0,.slice none 0 0]) jy O) ?_;rintro _ w9 ⟨bI,rfl,d7,e,u⟩;have bL:=Q0 x.size d7;have ⟨o,k,t,f,d,q,m,y⟩:=j' e o k t f d q m y;have x:=aa x e;refine Zo (Vw [vi A.rows,vi A.cols,.slice aH A.cells.length aY] jg u) ?_;intro _ fJ ⟨G,hb⟩;have o:=o.oz G u O;have k:=k.oz G u O;have t:=t.oz G u O;have f:=f.oT G u O;have d:=d.oT G u O;have q:=q.oT G u O;have m:=m.oT G u O;have y:=y.oT G u O;have x:=Below.oy x G bL;have u:=hb;refine Zx d6 fun a z _ d8=>Zm O<|Ze (fh O gq)<|Ze (ld O O O0 O0)<|Za O<|ZX d8 fun a z _ bJ=>ZS z fun d9=>Zm O<|Ze (fh O gq)<|Ze (go O O)<|Zt d9 fun a z=>Xz z O ?_ ?_<;>intro aZ
 ·have eV:qs.length=2:=by have h9:(qs.length:Int)=2:=(by simpa using aZ);omega
  have b0:KN qs.length=3:=by rw[eV];rfl
  refine Zr z<|Zm O<|Zf (Vc (OS _ ((rr.length:Int)-1) 3) PL) ?_;rintro _ fK ⟨rfl,e⟩;have ⟨o,k,t,u,f,d,q,m⟩:=j' e o k t u f d q m;have y:=y.bw e;have x:=aa x e;refine Za O<|ZX bJ fun a z _ dA=>ZS z fun dB=>Za O<|Zt dB fun a z=>Q8<|Xw (σ:=Nat) (fun (j:Nat) (a:Act) (w:World)=>Fr a 75 [(2,.slice Aqs qs.length cqs),(3,(ae b4)),(6,(ae b7)),(8,.slice A9 rr.length c9),(10,(ae b19)),(11,(ae bI)),(12,vi (min ((rr.length:Int)-1) 3)),(13,vi (j:Int))]/\(j<=7)/\(∀ i,i<j->ft qs.length A i (ao (2^qs.length))=none)/\al w b4 28 [vi c.n,.slice Ac c.gs.length cc]/\al w b7 56 [vi 0,.slice none 0 0,.slice none 0 0]/\al w b19 28 [vi ((xC c rr qs).n),.slice aD ((xC c rr qs).gs).length aE]/\al w bI 91 [vi A.rows,vi A.cols,.slice aH A.cells.length aY]/\Rd w w0.heap.size 52 ab Ac c.gs/\Rd w w0.heap.size 3 bk Aqs qs/\ah w w0.heap.size 3 1 bk A9 c9 rr/\ah w w0.heap.size 52 3 ab aD aE ((xC c rr qs).gs)/\Rd w w8.heap.size 147 ai aH A.cells/\c.gs.length<=cc/\Bl w0 w) (fun (j:Nat)=>8-j) 0 ?_ ?_
  ·exact ⟨z.sb,O0,(fun i hi=>absurd hi O0),o,k,t,u,f,d,q,m,y,H,x⟩
  intro j a fL ⟨z,eW,aI,o,k,t,u,f,d,q,m,y,H,x⟩;refine Q5 fun _ dC=>ZS z fun dD=>Zm O<|Zm O<|Ze (se O O)<|Zt dD fun a z=>eh z O (fun bM b1=>?_) (fun bM b1=>?_)
  ·have bN:=b1;have bO:j<=KN qs.length:=by rw[b0];omega
   have eX:j<rr.length:=by omega
   refine Q7<|dC _ _<|Q5 fun _ dE=>Q8<|Q5 fun _ dF=>gx none (fun _=>false) mixed ?_;intro fM e;have ⟨o,k,t,u,f,d,q,m⟩:=j' e o k t u f d q m;have y:=y.bw e;have x:=aa x e;refine Yb z<|Yo 0 O (fun _=>X7 O)<|Yo 1 O (fun _=>fh O gq)<|Yo 2 O (fun _=>Vd O oe 0)<|Ye 3 O (Vx (X0 O X8 (u.at 0)) cU)<|Ye 5 O (Vn fw u)<|Yo 6 O (fun _=>X7 O)<|Y1 4<|Yk O ad (Vc (xu _ (2^qs.length:Nat) (by rcases Q with h|h<;>rw[h]<;>decide)) xR) (fun _ _ ⟨dG,dH,_,aL,e⟩=>e) ?_;rintro _ fN ⟨dG,dH,rfl,aL,e⟩;have aL:=aL.lower x.size;have ⟨o,k,t,u,f,d,q,m⟩:=j' e o k t u f d q m;have y:=y.bw e;have x:=aa x e;refine Y1 7<|Yk O ad (Vc (F3 _ qs.length (ao (2^qs.length:Nat)) dG dH aL.rd.top A aH aY y.top j Q [] 0 O0 (Qm.2 O) (A_ _ Q).symm cV) Da) (fun _ _ ⟨b2,b3,_,B,e⟩=>e) ?_;rintro _ fO ⟨b2,b3,rfl,B,e⟩;have B:=B.lower x.size;have ⟨o,k,t,u,f,d,q,m⟩:=j' e o k t u f d q m;have y:=y.bw e;have x:=aa x e;refine Yo 8 O (fun _=>X7 O)<|Yo 9 O (fun _=>X2 (vs:=[.slice b2 ((ft qs.length A j (ao (2^qs.length:Nat))).getD []).length b3,.bool ((ft qs.length A j (ao (2^qs.length:Nat))).isSome)]) O O)<|Yo 10 O (fun _=>X2 (vs:=[.slice b2 ((ft qs.length A j (ao (2^qs.length:Nat))).getD []).length b3,.bool ((ft qs.length A j (ao (2^qs.length:Nat))).isSome)]) O O)<|Yo 11 O (fun _=>kk O)<|Yo 12 O (fun _=>kk O)<|Yd fun a z=>dF _ _<|Q5 fun _ dI=>ZS z fun dJ=>Zm O<|Ze (dn O)<|Zt dJ fun a z=>Xz z O ?_ ?_<;>intro b5
   ·have bP:(ft qs.length A j (ao (2^qs.length))).isSome=false:=uT b5;exact Q9<|Xf<|Xv<|dE _ _<|Zr z<|Zm O<|Ze (Xs O O O0 O0)<|Za O<|Zn fun a z=>Xb<|⟨j+1,⟨z.sb,O0,(F6 aI bP),o,k,t,u,f,d,q,m,y,H,x⟩,O0⟩
   have bQ:(ft qs.length A j (ao (2^qs.length))).isSome=true:=by simpa using b5
   have ⟨aJ,eY⟩:=J5 Q bO aI bQ;have b6:=zM aJ;have bR:=Ix Q b6.2;have eZ:=b6.1;have f7:=AC qs.length;refine Q7<|dI _ _<|Q5 fun _ dK=>Q5 fun _ dL=>gx none (fun _=>false) mixed ?_;intro fP e;have ⟨o,k,t,f,d,q,m,B⟩:=j' e o k t f d q m B;have x:=aa x e;refine Yb z<|Yo 0 O (fun _=>X7 O)<|Yo 2 O (fun _=>Vd O is 1)<|Ye 3 O (X0 O gj (t.at 1))<|Y1 1<|Yk O ad (Vc (vU _ b2 b3 ((ft qs.length A j (ao (2^qs.length:Nat))).getD []) B.rd.top O0) wq) (fun _ _ ⟨_,e⟩=>e) ?_;rintro _ fQ ⟨rfl,e⟩;have ⟨o,k,f,d,q,m,B,x⟩:=j' e o k f d q m B x;refine Y1 4<|Yk O ad (Vc (vU _ aD aE ((xC c rr qs).gs) m.rd.top (by show ((fr c rr).map (en qs)).length<=_;rw[Qo];omega)) wq) (fun _ _ ⟨_,e⟩=>e) ?_;rintro _ fR ⟨rfl,e⟩;have ⟨o,k,f,d,q,B,x⟩:=lf e o k f d q B x;refine Yo 5 O (fun _=>oo O O)<|Yd fun a z=>dL _ _<|eh z O (fun bS b8=>?_) (fun bS b8=>?_)
   ·have aK:=b8;rw[bH] at aK;have D:mj c p qs=none:=by
     rw[aN];refine Au E fun w9 h9 h8=>?_;rw[aJ] at h9;injection h9 with h9;subst h9;omega
    refine ZS z fun dM=>Ze (Xg (ps:=[]) (cs:=[vi 0,.slice none 0 0,.slice none 0 0]) O (fun _=>by first|rfl|kernel_rfl))<|Zo (Vw [vi 0,.slice none 0 0,.slice none 0 0] ml k) ?_;intro _ fS ⟨G,hb⟩;have x:=Below.oy x G U;have k:=hb;refine Za O<|Zt dM fun a z=>Q6<|X3<|Xn<|X3<|X3<|Xn<|X3<|X4 z (dj z O (an.cellN (l:=[vi 0,.slice none 0 0,.slice none 0 0]) O mt (k.at 0) O) O) ?_;rw[D];exact ⟨none,0,none,0,O,(ah.nil _ _ _ _ _),(ah.nil _ _ _ _ _),(a_.none_l _),x⟩
   have aK:=b8;rw[bH] at aK;have D:mj c p qs=ay c p rr qs (av ((ft qs.length A j (ao (2^qs.length))).getD []) qs):=by
    rw[aN];exact H' E aJ ⟨by omega,by omega⟩
   refine Q7<|dK _ _<|Q5 fun _ dN=>gx none (fun j=>[9].contains j) mixed ?_;intro fT e;have ⟨o,k,f,d,q,B,x⟩:=lf e o k f d q B x;refine Yb z<|Ye 0 O (Vn g_ o)<|Yo 1 O (fun _=>X7 O)<|Yo 2 O (fun _=>X7 O)<|Yo 3 O (fun _=>X7 O)<|Yo 4 O (fun _=>X7 O)<|Y1 5<|Yk O ad (Vc (yN _ b2 b3 ((ft qs.length A j (ao (2^qs.length:Nat))).getD []) B.rd.top Aqs cqs qs d.top qs.length bR O O0) AP) (fun _ _ ⟨dP,dQ,_,W,e⟩=>e) ?_;rintro _ fU ⟨dP,dQ,rfl,W,e⟩;have W:=W.lower x.size;have ⟨k,f,d,q,B,x⟩:=kf e k f d q B x;refine Y1 6<|Yk O ad (Vc (yx _ c Ac cc f.top H A9 c9 rr q.rd.top Aqs cqs qs d.top dP dQ (av ((ft qs.length A j (ao (2^qs.length:Nat))).getD []) qs) W.rd.top p I aG aF (by unfold av;rw[Qo];omega) bG) zF) (fun _ _ ⟨aO,aP,aQ,aR,_,J,L,aB,e⟩=>e) ?_;rintro _ fV ⟨aO,aP,aQ,aR,rfl,J,L,aB,e⟩;have J:=J.lower x.size;have L:=L.lower x.size;have k:=k.bw e;have x:=aa x e;refine Yo 7 O (fun _=>X2 (vs:=[.agg #[vi (((ay c p rr qs (av ((ft qs.length A j (ao (2^qs.length:Nat))).getD []) qs)).getD df).pos),.slice aO (((ay c p rr qs (av ((ft qs.length A j (ao (2^qs.length:Nat))).getD []) qs)).getD df).old).length aP,.slice aQ (((ay c p rr qs (av ((ft qs.length A j (ao (2^qs.length:Nat))).getD []) qs)).getD df).new).length aR],.bool ((ay c p rr qs (av ((ft qs.length A j (ao (2^qs.length:Nat))).getD []) qs)).isSome)]) O O)<|Yo 8 O (fun _=>X2 (vs:=[.agg #[vi (((ay c p rr qs (av ((ft qs.length A j (ao (2^qs.length:Nat))).getD []) qs)).getD df).pos),.slice aO (((ay c p rr qs (av ((ft qs.length A j (ao (2^qs.length:Nat))).getD []) qs)).getD df).old).length aP,.slice aQ (((ay c p rr qs (av ((ft qs.length A j (ao (2^qs.length:Nat))).getD []) qs)).getD df).new).length aR],.bool ((ay c p rr qs (av ((ft qs.length A j (ao (2^qs.length:Nat))).getD []) qs)).isSome)]) O O)<|Y1 9<|Yh O ad O (Vw [vi (((ay c p rr qs (av ((ft qs.length A j (ao (2^qs.length:Nat))).getD []) qs)).getD df).pos),.slice aO (((ay c p rr qs (av ((ft qs.length A j (ao (2^qs.length:Nat))).getD []) qs)).getD df).old).length aP,.slice aQ (((ay c p rr qs (av ((ft qs.length A j (ao (2^qs.length:Nat))).getD []) qs)).getD df).new).length aR] ml k) ?_;intro _ fW ⟨G,hb⟩;have J:=J.oT G k O;have L:=L.oT G k O;have x:=Below.oy x G U;have k:=hb;refine Yo 10 O (fun _=>kk O)<|Yd fun a z=>dN _ _<|Q6<|Xn<|X3<|X3<|Xn<|X3<|X4 z (dj z O (an.cellN (l:=[vi (((ay c p rr qs (av ((ft qs.length A j (ao (2^qs.length:Nat))).getD []) qs)).getD df).pos),.slice aO (((ay c p rr qs (av ((ft qs.length A j (ao (2^qs.length:Nat))).getD []) qs)).getD df).old).length aP,.slice aQ (((ay c p rr qs (av ((ft qs.length A j (ao (2^qs.length:Nat))).getD []) qs)).getD df).new).length aR]) O mt (k.at 0) O) O) ?_;rw[D];exact ⟨aO,aP,aQ,aR,O,J,L,aB,x⟩
  have bN:=b1;have D:mj c p qs=none:=by
   rw[aN];refine Au E fun w9 h9 h8=>?_;have h7:=Hd Q aI w9 h9;have h6:=(zM h9).1;rw[b0] at h6;omega
  refine Q9<|Xf<|Xf<|Xv<|dA _ _<|ZS z fun dR=>Ze (Xg (ps:=[]) (cs:=[vi 0,.slice none 0 0,.slice none 0 0]) O (fun _=>by first|rfl|kernel_rfl))<|Zo (Vw [vi 0,.slice none 0 0,.slice none 0 0] ml k) ?_;intro _ fX ⟨G,hb⟩;have x:=Below.oy x G U;have k:=hb;refine Za O<|Zt dR fun a z=>Q6 (X4 z (dj z O (an.cellN (l:=[vi 0,.slice none 0 0,.slice none 0 0]) O mt (k.at 0) O) O) ?_);rw[D];exact ⟨none,0,none,0,O,(ah.nil _ _ _ _ _),(ah.nil _ _ _ _ _),(a_.none_l _),x⟩
 have f8:qs.length=1:=by have h9:¬ (qs.length:Int)=2:=(by simpa using aZ);omega
 have b0:KN qs.length=5:=by rw[f8];rfl
 refine Q7<|bJ _ _<|Q5 fun _ dS=>ZS z fun dT=>Za O<|Zt dT fun a z=>Q8<|Xw (σ:=Nat) (fun (j:Nat) (a:Act) (w:World)=>Fr a 75 [(2,.slice Aqs qs.length cqs),(3,(ae b4)),(6,(ae b7)),(8,.slice A9 rr.length c9),(10,(ae b19)),(11,(ae bI)),(12,vi ((rr.length:Int)-1)),(13,vi (j:Int))]/\(j<=7)/\(∀ i,i<j->ft qs.length A i (ao (2^qs.length))=none)/\al w b4 28 [vi c.n,.slice Ac c.gs.length cc]/\al w b7 56 [vi 0,.slice none 0 0,.slice none 0 0]/\al w b19 28 [vi ((xC c rr qs).n),.slice aD ((xC c rr qs).gs).length aE]/\al w bI 91 [vi A.rows,vi A.cols,.slice aH A.cells.length aY]/\Rd w w0.heap.size 52 ab Ac c.gs/\Rd w w0.heap.size 3 bk Aqs qs/\ah w w0.heap.size 3 1 bk A9 c9 rr/\ah w w0.heap.size 52 3 ab aD aE ((xC c rr qs).gs)/\Rd w w8.heap.size 147 ai aH A.cells/\c.gs.length<=cc/\Bl w0 w) (fun (j:Nat)=>8-j) 0 ?_ ?_
 ·exact ⟨z.sb,O0,(fun i hi=>absurd hi O0),o,k,t,u,f,d,q,m,y,H,x⟩
 intro j a fY ⟨z,eW,aI,o,k,t,u,f,d,q,m,y,H,x⟩;refine Q5 fun _ dU=>ZS z fun dW=>Zm O<|Zm O<|Ze (se O O)<|Zt dW fun a z=>eh z O (fun bU b9=>?_) (fun bU b9=>?_)
 ·have bN:=b9;have bO:j<=KN qs.length:=by rw[b0];omega
  have eX:j<rr.length:=by omega
  refine Q7<|dU _ _<|Q5 fun _ dX=>Q8<|Q5 fun _ dY=>gx none (fun _=>false) mixed ?_;intro fZ e;have ⟨o,k,t,u,f,d,q,m⟩:=j' e o k t u f d q m;have y:=y.bw e;have x:=aa x e;refine Yb z<|Yo 0 O (fun _=>X7 O)<|Yo 1 O (fun _=>fh O gq)<|Yo 2 O (fun _=>Vd O oe 0)<|Ye 3 O (Vx (X0 O X8 (u.at 0)) cU)<|Ye 5 O (Vn fw u)<|Yo 6 O (fun _=>X7 O)<|Y1 4<|Yk O ad (Vc (xu _ (2^qs.length:Nat) (by rcases Q with h|h<;>rw[h]<;>decide)) xR) (fun _ _ ⟨eA,eB,_,aM,e⟩=>e) ?_;rintro _ g7 ⟨eA,eB,rfl,aM,e⟩;have aM:=aM.lower x.size;have ⟨o,k,t,u,f,d,q,m⟩:=j' e o k t u f d q m;have y:=y.bw e;have x:=aa x e;refine Y1 7<|Yk O ad (Vc (F3 _ qs.length (ao (2^qs.length:Nat)) eA eB aM.rd.top A aH aY y.top j Q [] 0 O0 (Qm.2 O) (A_ _ Q).symm cV) Da) (fun _ _ ⟨bC,bD,_,C,e⟩=>e) ?_;rintro _ g8 ⟨bC,bD,rfl,C,e⟩;have C:=C.lower x.size;have ⟨o,k,t,u,f,d,q,m⟩:=j' e o k t u f d q m;have y:=y.bw e;have x:=aa x e;refine Yo 8 O (fun _=>X7 O)<|Yo 9 O (fun _=>X2 (vs:=[.slice bC ((ft qs.length A j (ao (2^qs.length:Nat))).getD []).length bD,.bool ((ft qs.length A j (ao (2^qs.length:Nat))).isSome)]) O O)<|Yo 10 O (fun _=>X2 (vs:=[.slice bC ((ft qs.length A j (ao (2^qs.length:Nat))).getD []).length bD,.bool ((ft qs.length A j (ao (2^qs.length:Nat))).isSome)]) O O)<|Yo 11 O (fun _=>kk O)<|Yo 12 O (fun _=>kk O)<|Yd fun a z=>dY _ _<|Q5 fun _ eC=>ZS z fun eD=>Zm O<|Ze (dn O)<|Zt eD fun a z=>Xz z O ?_ ?_<;>intro bE
  ·have bP:(ft qs.length A j (ao (2^qs.length))).isSome=false:=uT bE;exact Q9<|Xf<|Xv<|dX _ _<|Zr z<|Zm O<|Ze (Xs O O O0 O0)<|Za O<|Zn fun a z=>Xb<|⟨j+1,⟨z.sb,O0,(F6 aI bP),o,k,t,u,f,d,q,m,y,H,x⟩,O0⟩
  have bQ:(ft qs.length A j (ao (2^qs.length))).isSome=true:=by simpa using bE
  have ⟨aJ,eY⟩:=J5 Q bO aI bQ;have b6:=zM aJ;have bR:=Ix Q b6.2;have eZ:=b6.1;have f7:=AC qs.length;refine Q7<|eC _ _<|Q5 fun _ eE=>Q5 fun _ eF=>gx none (fun _=>false) mixed ?_;intro gA e;have ⟨o,k,t,f,d,q,m,C⟩:=j' e o k t f d q m C;have x:=aa x e;refine Yb z<|Yo 0 O (fun _=>X7 O)<|Yo 2 O (fun _=>Vd O is 1)<|Ye 3 O (X0 O gj (t.at 1))<|Y1 1<|Yk O ad (Vc (vU _ bC bD ((ft qs.length A j (ao (2^qs.length:Nat))).getD []) C.rd.top O0) wq) (fun _ _ ⟨_,e⟩=>e) ?_;rintro _ gB ⟨rfl,e⟩;have ⟨o,k,f,d,q,m,C,x⟩:=j' e o k f d q m C x;refine Y1 4<|Yk O ad (Vc (vU _ aD aE ((xC c rr qs).gs) m.rd.top (by show ((fr c rr).map (en qs)).length<=_;rw[Qo];omega)) wq) (fun _ _ ⟨_,e⟩=>e) ?_;rintro _ gC ⟨rfl,e⟩;have ⟨o,k,f,d,q,C,x⟩:=lf e o k f d q C x;refine Yo 5 O (fun _=>oo O O)<|Yd fun a z=>eF _ _<|eh z O (fun bW bF=>?_) (fun bW bF=>?_)
  ·have aK:=bF;rw[bH] at aK;have D:mj c p qs=none:=by
    rw[aN];refine Au E fun w9 h9 h8=>?_;rw[aJ] at h9;injection h9 with h9;subst h9;omega
   refine ZS z fun eH=>Ze (Xg (ps:=[]) (cs:=[vi 0,.slice none 0 0,.slice none 0 0]) O (fun _=>by first|rfl|kernel_rfl))<|Zo (Vw [vi 0,.slice none 0 0,.slice none 0 0] ml k) ?_;intro _ gD ⟨G,hb⟩;have x:=Below.oy x G U;have k:=hb;refine Za O<|Zt eH fun a z=>Q6<|X3<|Xn<|X3<|X3<|Xn<|X3<|X4 z (dj z O (an.cellN (l:=[vi 0,.slice none 0 0,.slice none 0 0]) O mt (k.at 0) O) O) ?_;rw[D];exact ⟨none,0,none,0,O,(ah.nil _ _ _ _ _),(ah.nil _ _ _ _ _),(a_.none_l _),x⟩
  have aK:=bF;rw[bH] at aK;have D:mj c p qs=ay c p rr qs (av ((ft qs.length A j (ao (2^qs.length))).getD []) qs):=by
   rw[aN];exact H' E aJ ⟨by omega,by omega⟩
  refine Q7<|eE _ _<|Q5 fun _ eI=>gx none (fun j=>[9].contains j) mixed ?_;intro gE e;have ⟨o,k,f,d,q,C,x⟩:=lf e o k f d q C x;refine Yb z<|Ye 0 O (Vn g_ o)<|Yo 1 O (fun _=>X7 O)<|Yo 2 O (fun _=>X7 O)<|Yo 3 O (fun _=>X7 O)<|Yo 4 O (fun _=>X7 O)<|Y1 5<|Yk O ad (Vc (yN _ bC bD ((ft qs.length A j (ao (2^qs.length:Nat))).getD []) C.rd.top Aqs cqs qs d.top qs.length bR O O0) AP) (fun _ _ ⟨eJ,eK,_,aA,e⟩=>e) ?_;rintro _ gF ⟨eJ,eK,rfl,aA,e⟩;have aA:=aA.lower x.size;have ⟨k,f,d,q,C,x⟩:=kf e k f d q C x;refine Y1 6<|Yk O ad (Vc (yx _ c Ac cc f.top H A9 c9 rr q.rd.top Aqs cqs qs d.top eJ eK (av ((ft qs.length A j (ao (2^qs.length:Nat))).getD []) qs) aA.rd.top p I aG aF (by unfold av;rw[Qo];omega) bG) zF) (fun _ _ ⟨aS,aT,aU,aW,_,M,N,aC,e⟩=>e) ?_;rintro _ gG ⟨aS,aT,aU,aW,rfl,M,N,aC,e⟩;have M:=M.lower x.size;have N:=N.lower x.size;have k:=k.bw e;have x:=aa x e;refine Yo 7 O (fun _=>X2 (vs:=[.agg #[vi (((ay c p rr qs (av ((ft qs.length A j (ao (2^qs.length:Nat))).getD []) qs)).getD df).pos),.slice aS (((ay c p rr qs (av ((ft qs.length A j (ao (2^qs.length:Nat))).getD []) qs)).getD df).old).length aT,.slice aU (((ay c p rr qs (av ((ft qs.length A j (ao (2^qs.length:Nat))).getD []) qs)).getD df).new).length aW],.bool ((ay c p rr qs (av ((ft qs.length A j (ao (2^qs.length:Nat))).getD []) qs)).isSome)]) O O)<|Yo 8 O (fun _=>X2 (vs:=[.agg #[vi (((ay c p rr qs (av ((ft qs.length A j (ao (2^qs.length:Nat))).getD []) qs)).getD df).pos),.slice aS (((ay c p rr qs (av ((ft qs.length A j (ao (2^qs.length:Nat))).getD []) qs)).getD df).old).length aT,.slice aU (((ay c p rr qs (av ((ft qs.length A j (ao (2^qs.length:Nat))).getD []) qs)).getD df).new).length aW],.bool ((ay c p rr qs (av ((ft qs.length A j (ao (2^qs.length:Nat))).getD []) qs)).isSome)]) O O)<|Y1 9<|Yh O ad O (Vw [vi (((ay c p rr qs (av ((ft qs.length A j (ao (2^qs.length:Nat))).getD []) qs)).getD df).pos),.slice aS (((ay c p rr qs (av ((ft qs.length A j (ao (2^qs.length:Nat))).getD []) qs)).getD df).old).length aT,.slice aU (((ay c p rr qs (av ((ft qs.length A j (ao (2^qs.length:Nat))).getD []) qs)).getD df).new).length aW] ml k) ?_;intro _ gI ⟨G,hb⟩;have M:=M.oT G k O;have N:=N.oT G k O;have x:=Below.oy x G U;have k:=hb;refine Yo 10 O (fun _=>kk O)<|Yd fun a z=>eI _ _<|Q6<|Xn<|X3<|X3<|Xn<|X3<|X4 z (dj z O (an.cellN (l:=[vi (((ay c p rr qs (av ((ft qs.length A j (ao (2^qs.length:Nat))).getD []) qs)).getD df).pos),.slice aS (((ay c p rr qs (av ((ft qs.length A j (ao (2^qs.length:Nat))).getD []) qs)).getD df).old).length aT,.slice aU (((ay c p rr qs (av ((ft qs.length A j (ao (2^qs.length:Nat))).getD []) qs)).getD df).new).length aW]) O mt (k.at 0) O) O) ?_;rw[D];exact ⟨aS,aT,aU,aW,O,M,N,aC,x⟩
 have bN:=b9;have D:mj c p qs=none:=by
  rw[aN];refine Au E fun w9 h9 h8=>?_;have h7:=Hd Q aI w9 h9;have h6:=(zM h9).1;rw[b0] at h6;omega
 refine Q9<|Xf<|Xf<|Xv<|dS _ _<|ZS z fun eL=>Ze (Xg (ps:=[]) (cs:=[vi 0,.slice none 0 0,.slice none 0 0]) O (fun _=>by first|rfl|kernel_rfl))<|Zo (Vw [vi 0,.slice none 0 0,.slice none 0 0] ml k) ?_;intro _ gJ ⟨G,hb⟩;have x:=Below.oy x G U;have k:=hb;refine Za O<|Zt eL fun a z=>Q6 (X4 z (dj z O (an.cellN (l:=[vi 0,.slice none 0 0,.slice none 0 0]) O mt (k.at 0) O) O) ?_);rw[D];exact ⟨none,0,none,0,O,(ah.nil _ _ _ _ _),(ah.nil _ _ _ _ _),(a_.none_l _),x⟩
def vV:∀ (l:List Gt) (k:Int),0<=k->db l k<=k+3*(l.length:Int)
 | [],k,_=>by rw[db];simp
 | x::l,k,hk=>by
  rw[db];split
  ·have:=vV l (k+3) O0;rw[Qs];omega
  ·rw[Qs];omega
def t_(q:Int)(g:Gt) : Bool:=bq g.k 9 11&&(g.a==q||g.b==q)
def pL(c:Cx)(p:Nat) : List (List Int):=
 if (c.gs.getD p gZ).k=12 then [] else if bq (c.gs.getD p gZ).k 9 11=true then [ku [(c.gs.getD p gZ).a] (c.gs.getD p gZ).b] else
  match (c.gs.drop (p+1)).find? (t_ (c.gs.getD p gZ).a) with
  | some h=>[[(c.gs.getD p gZ).a],ku [h.a] h.b]
  | none=>[[(c.gs.getD p gZ).a]]
def VC{c:Cx}{p:Nat}{g:Gt}(h:c.gs[p]? = some g)(hk:g.k=12):pL c p=[]:=by
 unfold pL;rw[Qa,h,Qq,Q4 hk]
def Pg{c:Cx}{p:Nat}{g:Gt}(h:c.gs[p]? = some g)(hk:¬ g.k=12)(h2:bq g.k 9 11=true):pL c p=[ku [g.a] g.b]:=by
 unfold pL;rw[Qa,h,Qq,Q3 hk,Q4 h2]
def uA(c:Cx)(p k:Nat)(q:Int) : Prop:=((c.gs.drop (p+1)).take k).all (fun g=>!t_ q g)=true
def Uz{c:Cx}{p k:Nat}{q:Int}{u:Gt}(h:uA c p k q)(hu:(c.gs.drop (p+1))[k]? = some u)(hw:t_ q u=false):uA c p (k+1) q:=by
 unfold uA at *;rw[Qt,hu,List.all_append,h];simp[hw]
def SX{c:Cx}{p k:Nat}{g u:Gt}(hg:c.gs[p]? = some g)(hk:¬ g.k=12)(h2:bq g.k 9 11=false)(h:uA c p k g.a)(hu:(c.gs.drop (p+1))[k]? = some u)(hw:t_ g.a u=true):pL c p=[[g.a],ku [u.a] u.b]:=by
 have hf:(c.gs.drop (p+1)).find? (t_ g.a)=some u:=by
  have ⟨h4,h5⟩:=Qg.1 hu;rw[List.find?_eq_some_iff_getElem];refine ⟨hw,k,h4,h5,fun j hj=>?_⟩;unfold uA at h;have:=W1.1 h (c.gs.drop (p+1))[j] (by rw[List.mem_iff_getElem];exact ⟨j,by simp at h4 ⊢;omega,by simp⟩);simpa using this
 unfold pL;rw[Qa,hg,Qq,Q3 hk,Q3 (by rw[h2];decide),hf]
def Lo{c:Cx}{p k:Nat}{g:Gt}(hg:c.gs[p]? = some g)(hk:¬ g.k=12)(h2:bq g.k 9 11=false)(h:uA c p k g.a)(hl:(c.gs.drop (p+1)).length<=k):pL c p=[[g.a]]:=by
 have hf:(c.gs.drop (p+1)).find? (t_ g.a)=none:=by
  rw[List.find?_eq_none];intro x hx;unfold uA at h;rw[Qi hl] at h;have:=W1.1 h x hx;simpa using this
 unfold pL;rw[Qa,hg,Qq,Q3 hk,Q3 (by rw[h2];decide),hf]
def ze{α:Type}{P:α->Prop}{x:α}(h:P x):∀ s ∈ [x],P s:=fun s hs=>by rw[Qm.1 hs];exact h
def F'{α:Type}{P:α->Prop}{x y:α}(h:P x)(h2:P y):∀ s ∈ [x,y],P s:=fun s hs=>by
 rcases Qv.1 hs with e|hs
 ·rw[e];exact h
 ·rw[Qm.1 hs];exact h2
def Jn{g:Gt}(h:¬ g.k=12)(h2:bq g.k 9 11=true):bv g=[g.a,g.b]:=by unfold bv;rw[Q3 h,Q4 h2]
def xk{g:Gt}(h:¬ g.k=12)(h2:bq g.k 9 11=false):bv g=[g.a]:=by unfold bv;rw[Q3 h,Q3 (by rw[h2];decide)]
def QC{g:Gt}(h:bq g.k 9 11=true):¬ g.k=12:=by have:=iw.1 h;omega
def v_(c:Cx)(p:Nat) : Option Rp:=(pL c p).findSome? fun qs=>jp c (p:Int) qs
def r'(c:Cx) : Option Rp:=(List.range c.gs.length).findSome? (v_ c)
def vl(c:Cx)(k:Nat) : Prop:=(List.range k).findSome? (v_ c)=none
def Ly{c:Cx}{k:Nat}(h:vl c k)(h2:v_ c k=none):vl c (k+1):=by
 unfold vl at *;rw[List.range_succ,List.findSome?_append,h];simp[h2]
def K1{c:Cx}{k:Nat}(h:vl c k)(hk:k=c.gs.length):r' c=none:=by subst hk;exact h
def tR(c:Cx)(p j:Nat) : Prop:=((pL c p).take j).findSome? (fun qs=>jp c (p:Int) qs)=none
def Uy{c:Cx}{p j:Nat}{qs:List Int}(h:tR c p j)(hq:(pL c p)[j]? = some qs)(hn:(jp c (p:Int) qs).isSome=false):tR c p (j+1):=by
 unfold tR at *;rw[Qt,hq,List.findSome?_append,h];cases e:jp c (p:Int) qs with
 | none=>simp[e]
 | some r=>rw[e] at hn;cases hn
def KJ{c:Cx}{p j:Nat}(h:tR c p j)(hj:(pL c p).length<=j):v_ c p=none:=by
 unfold tR at h;rw[Qi hj] at h;exact h
def VI(c:Cx)(p:Nat):tR c p 0:=rfl
def Kf{c:Cx}{p j:Nat}{qs:List Int}(h0:vl c p)(hp:p<c.gs.length)(h:tR c p j)(hq:(pL c p)[j]? = some qs)(hn:(jp c (p:Int) qs).isSome=true):r' c=jp c (p:Int) qs:=by
 have h1:v_ c p=jp c (p:Int) qs:=by
  unfold v_ tR at *;have ⟨h4,h5⟩:=Qg.1 hq;have e:pL c p=(pL c p).take j++qs::(pL c p).drop (j+1):=by rw[<- h5,<- Qy h4,W9]
  rw[e,List.findSome?_append,h,List.findSome?_cons];cases e2:jp c (p:Int) qs with
  | none=>rw[e2] at hn;cases hn
  | some r=>rfl
 unfold r' vl at *;have e:List.range c.gs.length=List.range p++p::(List.range' (p+1) (c.gs.length-(p+1))):=by
  have e0:List.range' 0 c.gs.length=List.range' 0 p++List.range' (0+p) (c.gs.length-p):=by rw[List.range'_append_1];congr 1;omega
  rw[List.range_eq_range',List.range_eq_range',e0];congr 1;rw[show c.gs.length-p=(c.gs.length-(p+1))+1 from by omega,List.range'_succ];simp
 rw[e,List.findSome?_append,h0,List.findSome?_cons,h1];cases e2:jp c (p:Int) qs with
 | none=>rw[e2] at hn;cases hn
 | some r=>rfl
def Be{ls:List Sl}{l:List (List Int)}{j:Nat}{u:Sl}(h:ls.map Sl.l=l)(hu:ls[j]? = some u):l[j]? = some u.l:=by rw[<- h,List.getElem?_map,hu];rfl
def T8(c:Cx)(p:Nat):(pL c p).length<=2:=by
 unfold pL;split
 ·simp
 ·split
  ·simp
  ·split<;>simp
def Sp(c:Cx)(p:Nat):∀ l ∈ pL c p,l.length<=2:=by
 have h:∀ a b:Int,(ku [a] b).length<=2:=fun a b=>Ia [a] b;unfold pL;split
 ·simp
 ·split
  ·exact ze (h _ _)
  ·split
   ·exact F' O6 (h _ _)
   ·exact ze O6
abbrev tH(n:Int)(g:List Gt) : Rp:=(r' (⟨n,g⟩ : Cx)).getD df
def zq(qs:List Int):∀ (l:List Gt) (i:Int) (m:Nat),(qr qs l i m).Pairwise (· < ·)
 | [],i,m=>by cases m<;>exact List.Pairwise.nil
 | g::l,i,0=>by rw[FK];exact List.Pairwise.nil
 | g::l,i,m+1=>by
  rw[qr];split
  ·refine List.Pairwise.cons (fun x hx=>?_) (zq qs l (i+1) m);have ⟨j,e,_⟩:=zZ qs l (i+1) m x hx;omega
  ·split
   ·exact List.Pairwise.nil
   ·exact zq qs l (i+1) (m+1)
def Lr{r:List Int}(h:r.Pairwise (· < ·)):∀ x ∈ r,x<=ia r:=fun x hx=>by
 obtain ⟨i,hi,rfl⟩:=List.mem_iff_getElem.1 hx;unfold ia;rw[Qa,Qc O0,Qq];by_cases hl:i=r.length-1
 ·subst hl;exact Int.le_refl _
 ·exact Int.le_of_lt (W0.1 h i (r.length-1) hi O0 O0)
end Go.Proofs.YtkhbopcihjobdaaGreatDoor
namespace Go.Proofs.YtkhbopcihjobdaaGreatDoor
open Go.Proofs.Tryz
open Go Go.RowKit
section
variable {P : Program} {a : Act} {w : World} {n : Nat} {e : kt} {ty : TypeId} {pos : String} {af : Array Edge} {g : Option (Nat × Bool)} {d : Option Tmp}
end
def wY(s t:Sr) : Prop:=(a_ s.A t.A/\a_ s.A t.B)/\(a_ s.B t.A/\a_ s.B t.B)
def bj(w:World)(B0:Nat)(E:TypeId)(l:List Sr) : Prop:=(∀ s ∈ l,ah w B0 E 3 ab s.A s.c s.old/\ah w B0 E 3 ab s.B s.d s.new/\a_ s.A s.B)/\l.Pairwise wY
section
variable {w w' : World} {B0 B1 : Nat} {E : TypeId} {l : List Sr} {x s : Sr}
theorem bj.nil(w:World)(B0:Nat)(E:TypeId):bj w B0 E []:=⟨fun s hs=>by simp at hs,List.Pairwise.nil⟩
theorem bj.one(h1:ah w B0 E 3 ab x.A x.c x.old)(h2:ah w B0 E 3 ab x.B x.d x.new)(ha:a_ x.A x.B):bj w B0 E [x]:=⟨fun s hs=>by rw[Qm.1 hs];exact ⟨h1,h2,ha⟩,List.pairwise_singleton ..⟩
theorem bj.bw(h:bj w B0 E l)(hb:Bl w w'):bj w' B0 E l:=⟨fun s hs=>⟨(h.1 s hs).1.bw hb,(h.1 s hs).2.1.bw hb,(h.1 s hs).2.2⟩,h.2⟩
theorem bj.oT{b:Nat}{T:TypeId}{lc:List Value}(h:bj w B0 E l)(ho:iq b w w')(hb:al w b T lc)(hT:Nat.beq E T=false):bj w' B0 E l:=⟨fun s hs=>⟨(h.1 s hs).1.oT ho hb hT,(h.1 s hs).2.1.oT ho hb hT,(h.1 s hs).2.2⟩,h.2⟩
theorem bj.appT{α:Type}{B2:Nat}{E':TypeId}{sz:Nat}{enc:α->List Value}{A:Option Addr}{c:Nat}{m:List α}(h:bj w B0 E l)(ho:ah w B2 E' sz enc A c m)(hg:w.grownBy w' (Value.slice A m.length c).ownBlock)(hT:Nat.beq E' E=false):bj w' B0 E l:=
 ⟨fun s hs=>⟨(h.1 s hs).1.appT ho hg hT,(h.1 s hs).2.1.appT ho hg hT,(h.1 s hs).2.2⟩,h.2⟩
theorem bj.appP{α:Type}{A:Option Addr}{c:Nat}{m:List α}(h:bj w B0 E l)(hg:w.grownBy w' (Value.slice A m.length c).ownBlock)(hf:∀ s ∈ l,a_ s.A A/\a_ s.B A):bj w' B0 E l:=
 ⟨fun s hs=>⟨(h.1 s hs).1.appP hg (hf s hs).1,(h.1 s hs).2.1.appP hg (hf s hs).2,(h.1 s hs).2.2⟩,h.2⟩
theorem bj.rd(h:bj w B0 E l):ci w w.heap.size E l:=fun s hs=>⟨(h.1 s hs).1.rd,(h.1 s hs).2.1.rd⟩
theorem bj.tail(h:bj w B0 E (x::l)):bj w B0 E l:=⟨fun s hs=>h.1 s (Ql _ hs),h.2.of_cons⟩
theorem bj.lower(h:bj w B1 E l)(hB:B0<=B1):bj w B0 E l:=⟨fun s hs=>⟨(h.1 s hs).1.lower hB,(h.1 s hs).2.1.lower hB,(h.1 s hs).2.2⟩,h.2⟩
theorem bj.fresh{A:Option Addr}{c:Nat}{m:List Gt}(h:bj w B0 E l)(h1:ah w' B1 E 3 ab A c m)(hB:w.heap.size<=B1):∀ s ∈ l,a_ s.A A/\a_ s.B A:=fun s hs=>⟨(h.1 s hs).1.apart h1 hB,(h.1 s hs).2.1.apart h1 hB⟩
theorem bj.snoc(h:bj w B0 E l)(h1:ah w B0 E 3 ab x.A x.c x.old)(h2:ah w B0 E 3 ab x.B x.d x.new)(ha:a_ x.A x.B)(f1:∀ s ∈ l,a_ s.A x.A/\a_ s.B x.A)(f2:∀ s ∈ l,a_ s.A x.B/\a_ s.B x.B):bj w B0 E (l++[x]):=by
 refine ⟨fun s hs=>?_,List.pairwise_append.2 ⟨h.2,List.pairwise_singleton ..,fun s hs t ht=>?_⟩⟩
 ·rcases Qu.1 hs with hs|hs
  ·exact h.1 s hs
  ·rw[Qm.1 hs];exact ⟨h1,h2,ha⟩
 ·rw[Qm.1 ht];exact ⟨⟨(f1 s hs).1,(f2 s hs).1⟩,⟨(f1 s hs).2,(f2 s hs).2⟩⟩
theorem bj.head{p:Int}{A D:Option Addr}{c g:Nat}{m k:List Gt}(h:bj w B0 E (⟨p,A,c,m,none,0,[]⟩::l))(hD:ah w B0 E 3 ab D g k)(f:∀ s ∈ (⟨p,A,c,m,none,0,[]⟩::l:List Sr),a_ s.A D/\a_ s.B D):bj w B0 E (⟨p,A,c,m,D,g,k⟩::l):=by
 have h0:=h.1 _ (Qk ..);have h2:=W8.1 h.2;refine ⟨fun s hs=>?_,W8.2 ⟨fun t ht=>?_,h2.2⟩⟩
 ·rcases Qv.1 hs with rfl|hs
  ·exact ⟨h0.1,hD,(f _ (Qk ..)).1⟩
  ·exact h.1 s (Ql _ hs)
 ·have h3:=f t (Ql _ ht);exact ⟨(h2.1 t ht).1,⟨h3.1.symm,h3.2.symm⟩⟩
theorem bj.setA{i:Nat}{m:List Gt}(h:bj w B0 E l)(hx:l[i]? = some x)(ho:ah w' B0 E 3 ab x.A x.c m)(hg:w.grownBy w' (Value.slice x.A x.old.length x.c).ownBlock):bj w' B0 E (l.set i ⟨x.pos,x.A,x.c,m,x.B,x.d,x.new⟩):=by
 have ⟨hi,hxi⟩:=Qg.1 hx;have hp:=W0.1 h.2;have hxm:=h.1 x (Qe hx);have stay:∀ j (hj:j<l.length),j≠i->wY l[j] x∨wY x l[j]:=fun j hj hne=>by
  rcases Nat.lt_or_gt_of_ne hne with h1|h1
  ·left;have:=hp j i hj hi h1;rw[hxi] at this;exact this
  ·right;have:=hp i j hi hj h1;rw[hxi] at this;exact this
 refine ⟨fun s hs=>?_,W0.2 fun j k hj hk hjk=>?_⟩
 ·obtain ⟨j,hj,rfl⟩:=List.mem_iff_getElem.1 hs;rw[List.length_set] at hj;rw[List.getElem_set];split
  ·exact ⟨ho,hxm.2.1.appP hg hxm.2.2.symm,hxm.2.2⟩
  ·rename_i hne;have h1:=h.1 l[j] (List.getElem_mem hj);rcases stay j hj (fun e=>hne e.symm) with h2|h2
   ·exact ⟨h1.1.appP hg h2.1.1,h1.2.1.appP hg h2.2.1,h1.2.2⟩
   ·exact ⟨h1.1.appP hg h2.1.1.symm,h1.2.1.appP hg h2.1.2.symm,h1.2.2⟩
 ·rw[List.length_set] at hj hk;have h1:=hp j k hj hk hjk;rw[List.getElem_set,List.getElem_set];split
  ·rename_i e;subst e;rw[Q3 O0];rw[hxi] at h1;exact h1
  ·split
   ·rename_i e;subst e;rw[hxi] at h1;exact h1
   ·exact h1
theorem bj.setB{i:Nat}{m:List Gt}(h:bj w B0 E l)(hx:l[i]? = some x)(ho:ah w' B0 E 3 ab x.B x.d m)(hg:w.grownBy w' (Value.slice x.B x.new.length x.d).ownBlock):bj w' B0 E (l.set i ⟨x.pos,x.A,x.c,x.old,x.B,x.d,m⟩):=by
 have ⟨hi,hxi⟩:=Qg.1 hx;have hp:=W0.1 h.2;have hxm:=h.1 x (Qe hx);have stay:∀ j (hj:j<l.length),j≠i->wY l[j] x∨wY x l[j]:=fun j hj hne=>by
  rcases Nat.lt_or_gt_of_ne hne with h1|h1
  ·left;have:=hp j i hj hi h1;rw[hxi] at this;exact this
  ·right;have:=hp i j hi hj h1;rw[hxi] at this;exact this
 refine ⟨fun s hs=>?_,W0.2 fun j k hj hk hjk=>?_⟩
 ·obtain ⟨j,hj,rfl⟩:=List.mem_iff_getElem.1 hs;rw[List.length_set] at hj;rw[List.getElem_set];split
  ·exact ⟨hxm.1.appP hg hxm.2.2,ho,hxm.2.2⟩
  ·rename_i hne;have h1:=h.1 l[j] (List.getElem_mem hj);rcases stay j hj (fun e=>hne e.symm) with h2|h2
   ·exact ⟨h1.1.appP hg h2.1.2,h1.2.1.appP hg h2.2.2,h1.2.2⟩
   ·exact ⟨h1.1.appP hg h2.2.1.symm,h1.2.1.appP hg h2.2.2.symm,h1.2.2⟩
 ·rw[List.length_set] at hj hk;have h1:=hp j k hj hk hjk;rw[List.getElem_set,List.getElem_set];split
  ·rename_i e;subst e;rw[Q3 O0];rw[hxi] at h1;exact h1
  ·split
   ·rename_i e;subst e;rw[hxi] at h1;exact h1
   ·exact h1
theorem bj.pos{i:Nat}{p:Int}(h:bj w B0 E l)(hx:l[i]? = some x):bj w B0 E (l.set i ⟨p,x.A,x.c,x.old,x.B,x.d,x.new⟩):=by
 have ⟨hi,hxi⟩:=Qg.1 hx;have hp:=W0.1 h.2;have hxm:=h.1 x (Qe hx);refine ⟨fun s hs=>?_,W0.2 fun j k hj hk hjk=>?_⟩
 ·obtain ⟨j,hj,rfl⟩:=List.mem_iff_getElem.1 hs;rw[List.length_set] at hj;rw[List.getElem_set];split
  ·exact hxm
  ·exact h.1 _ (List.getElem_mem hj)
 ·rw[List.length_set] at hj hk;have h1:=hp j k hj hk hjk;rw[List.getElem_set,List.getElem_set];split
  ·rename_i e;subst e;rw[Q3 O0];rw[hxi] at h1;exact h1
  ·split
   ·rename_i e;subst e;rw[hxi] at h1;exact h1
   ·exact h1
end
def lx:List Sr->Int
 | []=>0
 | s::l=>1+3*(s.old.length:Int)+3*(s.new.length:Int)+lx l
def zO(k:Int)(s:Sr) : Sr:=⟨k,s.A,s.c,bu (k+1) s.old.length,s.B,s.d,bu (k+1+3*(s.old.length:Int)) s.new.length⟩
def gt:Int->List Sr->List Sr
 | _,[]=>[]
 | k,s::l=>zO k s::gt (k+(1+3*(s.old.length:Int)+3*(s.new.length:Int))) l
def rn(s:Sr)(k:Int) : Int:=if s.pos=k then (if db s.old (k+1)<0 then -1 else if db s.new (db s.old (k+1))<0 then -1 else db s.new (db s.old (k+1))) else -1
def pT:List Sr->Int->Int
 | [],k=>k
 | s::l,k=>if rn s k<0 then -1 else pT l (rn s k)
def sS(c:List Gt)(l:List Sr)(d:List Gt)(k:Int) : Int:=if db c k<0 then -1 else if pT l (db c k)<0 then -1 else if db d (pT l (db c k))<0 then -1 else db d (pT l (db c k))
def tZ:∀ l,0<=lx l
 | []=>Int.le_refl _
 | s::l=>by have:=tZ l;unfold lx;omega
def xX{m:Nat}:∀ {l:List Sr},(∀ s ∈ l,s.old.length<=m/\s.new.length<=m)->lx l<=(l.length:Int)*(1+6*(m:Int))
 | [],_=>by simp[lx]
 | s::l,h=>by
  have h1:=h s (Qk ..);have h2:=xX fun x hx=>h x (Ql _ hx);unfold lx;rw[Qs,show ((l.length+1:Nat) : Int)=(l.length:Int)+1 from by omega,Int.add_mul];omega
def Je:∀ (a b:List Sr),lx (a++b)=lx a+lx b
 | [],b=>by simp[lx]
 | s::a,b=>by rw[Wa,lx,lx,Je a b];omega
def GL{l:List Sr}{j:Nat}{u:Sr}(h:l[j]? = some u):lx (l.take (j+1))=lx (l.take j)+(1+3*(u.old.length:Int)+3*(u.new.length:Int)):=by
 rw[Qt,h,Je];simp[lx]
def tF:∀ (k:Int) (l:List Sr),(gt k l).length=l.length
 | _,[]=>rfl
 | k,s::l=>by rw[gt,Qs,Qs,tF]
def GD:∀ (k:Int) (a b:List Sr),gt k (a++b)=gt k a++gt (k+lx a) b
 | k,[],b=>by simp[gt,lx]
 | k,s::a,b=>by rw[Wa,gt,gt,GD,lx,Wa];simp only[Int.add_assoc]
def D0{m:Nat}:∀ {l:List Sr} {k:Int},(∀ s ∈ l,s.old.length<=m/\s.new.length<=m)->∀ s ∈ gt k l,s.old.length<=m/\s.new.length<=m
 | [],_,_,s,hs=>by simp[gt] at hs
 | x::l,k,h,s,hs=>by
  rw[gt] at hs;rcases Qv.1 hs with rfl|hs
  ·have:=h x (Qk ..);simp only[zO,sH];exact this
  ·exact D0 (fun y hy=>h y (Ql _ hy)) s hs
def ud(k:Int)(l:List Sr)(j:Nat)(m:List Sr) : Prop:=m=gt k (l.take j)++l.drop j
def VB(k:Int)(l:List Sr):ud k l 0 l:=by simp[ud,gt]
def P5{k:Int}{l m:List Sr}{j:Nat}{u:Sr}(h:ud k l j m)(hu:m[j]? = some u)(hj:j<l.length):l[j]? = some u:=by
 rw[h,W5 (by rw[tF,Qn];omega),tF,Qn,List.getElem?_drop] at hu;rw[<- hu];congr 1;omega
def NW{k q:Int}{l m:List Sr}{j:Nat}{u:Sr}(h:ud k l j m)(hu:l[j]? = some u)(hq:q=k+lx (l.take j)):ud k l (j+1) (m.set j (zO q u)):=by
 have ⟨h1,h2⟩:=Qg.1 hu;unfold ud at h ⊢;rw[h,List.set_append_right _ _ (by rw[tF,Qn];omega),tF,Qn,show j-min j l.length=0 from by omega];rw[Qy h1,h2,List.set_cons_zero,Qt,hu,GD,<- hq];simp[gt]
def UB{k:Int}{l m:List Sr}{j:Nat}(h:ud k l j m)(hj:l.length<=j):m=gt k l:=by
 rw[h,Qi hj,W3 hj,List.append_nil]
def S0{k:Int}(hk:0<=k)(s:Sr):rn (zO k s) k=k+(1+3*(s.old.length:Int)+3*(s.new.length:Int)):=by
 have h1:=wD s.old.length (k+1);have h2:=wD s.new.length (k+1+3*(s.old.length:Int));show (if k=k then (if db (bu (k+1) s.old.length) (k+1)<0 then (-1:Int) else if db (bu (k+1+3*(s.old.length:Int)) s.new.length) (db (bu (k+1) s.old.length) (k+1))<0 then -1 else db (bu (k+1+3*(s.old.length:Int)) s.new.length) (db (bu (k+1) s.old.length) (k+1))) else -1)=_;rw[Q4 O,h1,Q3 O0,h2,Q3 O0];omega
def Hm:∀ {k:Int} (l:List Sr),0<=k->pT (gt k l) k=k+lx l
 | _,[],_=>by simp[pT,gt,lx]
 | k,s::l,hk=>by
  rw[gt,pT,S0 hk,Q3 O0,Hm l O0,lx];omega
def G_(a b:Nat)(l:List Sr){k:Int}(hk:0<=k):sS (bu k a) (gt (k+3*(a:Int)) l) (bu (k+3*(a:Int)+lx l) b) k=k+3*(a:Int)+lx l+3*(b:Int):=by
 have:=tZ l;unfold sS;rw[wD,Q3 O0,Hm l O0,Q3 O0,wD,Q3 O0]
def SU(s:Sr){k:Int}(hk:0<=k):rn s k<=k+(1+3*(s.old.length:Int)+3*(s.new.length:Int)):=by
 have h1:=vV s.old (k+1) O0;unfold rn;split
 ·split
  ·omega
  ·rename_i h;have h2:=vV s.new (db s.old (k+1)) O0;split
   ·omega
   ·omega
 ·omega
def E9:∀ (l:List Sr) (k:Int),0<=k->pT l k<=k+lx l
 | [],k,_=>by simp[pT,lx]
 | s::l,k,hk=>by
  have h1:=SU s hk;rw[pT,lx];split
  ·have:=tZ l;omega
  ·have:=E9 l (rn s k) O0;omega
def Vh{l:List Sr}{j:Nat}{u:Sr}{k:Int}(h:l[j]? = some u):pT (l.drop j) k=if rn u k<0 then -1 else pT (l.drop (j+1)) (rn u k):=by
 rw[FV h];rfl
def ah.reS{w:World}{B:Nat}{E:TypeId}{A:Option Addr}{c:Nat}{m:List Sr}{j:Nat}{u:Sr}{a b:List Gt}(h:ah w B E 3 dv A c m)(hu:m[j]? = some u)(ha:a.length=u.old.length)(hb:b.length=u.new.length):ah w B E 3 dv A c (m.set j ⟨u.pos,u.A,u.c,a,u.B,u.d,b⟩):=by
 have ⟨h1,h2⟩:=Qg.1 hu;have e:(m.set j ⟨u.pos,u.A,u.c,a,u.B,u.d,b⟩).flatMap dv=m.flatMap dv:=by
  have e1:(m.set j ⟨u.pos,u.A,u.c,a,u.B,u.d,b⟩).map dv=m.map dv:=by
   rw[List.map_set];apply List.ext_getElem O6;intro i h3 h4;rw[List.getElem_set];split
   ·rename_i e;subst e;rw[List.getElem_map,h2];unfold dv;rw[ha,hb]
   ·rfl
  rw[List.flatMap_def,List.flatMap_def,e1]
 unfold ah at h ⊢;rw[List.length_set,e];exact h
structure Mk (B:Nat) (E1 E2:TypeId) (w w':World) : Prop where
 bel:Below B w w'
 le:B<=w.heap.size
 size:w.heap.size<=w'.heap.size
 kept:∀ b T lc,al w b T lc->Nat.beq E1 T=false->Nat.beq E2 T=false->al w' b T lc
def Mk.refl{B:Nat}{E1 E2:TypeId}{w:World}(h:B<=w.heap.size):Mk B E1 E2 w w:=⟨Below.refl _ _,h,Qb _,fun _ _ _ h _ _=>h⟩
def Mk.bw{B:Nat}{E1 E2:TypeId}{w w1 w2:World}(h:Mk B E1 E2 w w1)(hE:Bl w1 w2):Mk B E1 E2 w w2:=
 ⟨h.bel.trans (hE.mono (Q0 h.le h.size)),h.le,Q0 h.size hE.size,fun b T lc hb h1 h2=>(h.kept b T lc hb h1 h2).bw hE⟩
def Mk.app{B:Nat}{E E1 E2:TypeId}{w w1 w2:World}{sz:Nat}{α:Type}{enc:α->List Value}{A:Option Addr}{c:Nat}{l:List α}(h:Mk B E1 E2 w w1)(ho:ah w1 B E sz enc A c l)(hg:w1.grownBy w2 (Value.slice A l.length c).ownBlock)(hT:E=E1∨E=E2):Mk B E1 E2 w w2:=
 ⟨Below.app h.bel ho hg (Qb _) (Q0 h.le h.size),h.le,Q0 h.size hg.size,fun b T lc hb h1 h2=>(h.kept b T lc hb h1 h2).appT ho hg (by rcases hT with e|e<;>rw[e]<;>assumption)⟩
def Mk.trans{B:Nat}{E1 E2:TypeId}{w w1 w2:World}(h:Mk B E1 E2 w w1)(k:Mk B E1 E2 w1 w2):Mk B E1 E2 w w2:=
 ⟨h.bel.trans k.bel,h.le,Q0 h.size k.size,fun b T lc hb h1 h2=>k.kept b T lc (h.kept b T lc hb h1 h2) h1 h2⟩
end Go.Proofs.YtkhbopcihjobdaaGreatDoor
namespace Go.Proofs.YtkhbopcihjobdaaGreatDoor
open Go.Proofs.Tryz
open Go.RowKit Go.Proofs.Tryz
theorem R0(N:World)(c:Cx)(Q:Option Addr)(U:Nat)(q:Rw N 52 ab Q c.gs)(I:c.gs.length<=U)(p:Nat)(aU:gf c=true)(bM:p<c.gs.length) : RE 50 [.agg #[vi c.n,.slice Q c.gs.length U],vi (p:Int)] N (fun v w=>∃ A9 e9 ls,v=.slice A9 (List.length (α:=Sl) ls) e9/\Rw w 66 tE A9 ls/\(∀ s9 ∈ ls,Rw w 3 bk s9.A s9.l)/\ls.map Sl.l=pL c p/\Bl N w):=by
 obtain ⟨cO,cP,bN⟩:=n' aU;obtain ⟨j,L⟩:=Xe (l:=c.gs) (k:=p) bM;have cI:=bN j (Qe L);have cQ:=xx j
 have cJ:(c.gs.drop (p+1)).length<=400:=by rw [List.length_drop];omega
 refine enter func50 O 68 O O ?_;intro a m
 have o:=bz N
 refine ZS m fun bO=>Zf (bt (zs:=[vi c.n,.slice Q c.gs.length U]) O O) ?_;rintro _ w1 ⟨b3,rfl,bP,g,E⟩;have cK:=Q0 o.size bP;have q:=q.bw g;have o:=aa o g;refine Za O<|Zx bO fun a m _ bQ=>Ze (Vd O is 1)<|Ze (X0 O gj (E.at 1))<|Zm O<|Zi (k:=p) (u:=j) (enc:=ab) (l:=c.gs) ad O O Xp ji Xl q L O ?_;intro p7 aW;refine Ze (Xt (l:=[vi j.k,vi j.a,vi j.b]) O jd aW O)<|Zf (Vc (D2 _ j) CF) ?_;rintro _ w2 ⟨A8,c8,rfl,e,g⟩;have e:=e.lower o.size;have E:=E.bw g;have q:=q.bw g;have o:=aa o g;refine Za O<|ZX bQ fun a m _ bR=>ZS m fun aX=>Zm O<|Ze (fh O gq)<|Zt aX fun a m=>Q8<|ZS m fun aY=>Ze (go O O)<|Za O<|Zt aY fun a m=>Xz m O ?_ ?_<;>intro z
 ·have t:j.k=12:=by
   have G:=z
   unfold bv at G
   by_cases h8:j.k=12
   ·exact h8
   ·rw [Q3 h8] at G;split at G<;>simp at G
  have C:=VC L t;exact ZS m fun aZ=>Za O<|Zt aZ fun a m=>Q6<|Xn<|X3<|X4 m (Xu m O O)<|⟨none,0,[],O,Rd.nil _ _ _ _ _,(fun _ h=>by cases h),by rw [C];rfl,o⟩
 have t:¬ j.k=12:=by
  intro h8;have G:=z
  unfold bv at G
  rw [Q4 h8] at G;simp at G
 refine ZS m fun b0=>Ze (go O O)<|Za O<|Zt b0 fun a m=>Xz m O ?_ ?_<;>intro B
 ·have aJ:bq j.k 9 11=true:=by
   have G:=B
   unfold bv at G
   rw [Q3 t] at G
   by_cases h8:bq j.k 9 11=true
   ·exact h8
   ·rw [Q3 h8] at G;simp at G
  have C:=Pg L t aJ;refine Q5 fun _ b1=>gx none (fun _=>false) mixed ?_;intro w3 g;have e:=e.bw g;have o:=aa o g;refine Yb m<|Yo 0 O (fun _=>X7 O)<|Yi (k:=0) (u:=j.a) (enc:=bk) (l:=(bv j)) 1 O ad O O gq jw kp e.rd (by rw [Jn t aJ];rfl) O ?_;intro cR aK;refine Ye 2 O (X0 O X8 aK)<|Yo 4 O (fun _=>X7 O)<|Yi (k:=1) (u:=j.b) (enc:=bk) (l:=(bv j)) 5 O ad O O gq jw kp e.rd (by rw [Jn t aJ];rfl) O ?_;intro cS aL;refine Ye 6 O (X0 O X8 aL)<|Y1 3<|Yk O ad (X6 (k:=1) (vs:=[vi j.a]) (zs:=[vi j.a]) O gq pD O O) (fun _ _ ⟨_,_,_,h,_⟩=>h) ?_;rintro _ w4 ⟨bS,rfl,b2,g,W⟩;have aM:=Q0 o.size b2;have o:=aa o g;refine Y1 7<|Yk O ad (Vc (Ey _ (some ⟨bS,0,none⟩) 1 ([j.a]) (Rd.of_blk W O _ W.lt) j.b N.heap.size (ah.of_blkL kp W aM O O (Nat.le_of_ble_eq_true O)) o.size O6) Iv) (fun _ _ ⟨aE,aF,_,J,g⟩=>g) ?_;rintro _ w5 ⟨aE,aF,rfl,J,g⟩;have o:=aa o g;refine Y1 8<|Yk O ad (X6 (k:=1) (vs:=[.slice aE (ku ([j.a]) j.b).length aF]) (zs:=[.slice aE (ku ([j.a]) j.b).length aF]) O wK Ds O O) (fun _ _ ⟨_,_,_,h,_⟩=>h) ?_;rintro _ w6 ⟨bU,rfl,b4,g,aG⟩;have bW:=Q0 o.size b4;have J:=J.bw g;have o:=aa o g;exact Yo 9 O (fun _=>kk O)<|Yd fun a m=>b1 _ _<|Q6<|Xn<|X3<|X4 m (Xu m O O)<|⟨(some ⟨bU,0,none⟩),1,[(⟨aE,aF,(ku ([j.a]) j.b)⟩ : Sl)],O,(Rd.of_blk aG O _ aG.lt),(ze J.rd.top),by rw [C];rfl,o⟩
 have M:bq j.k 9 11=false:=by
  have G:=B
  unfold bv at G
  rw [Q3 t] at G
  cases h8:bq j.k 9 11
  ·rfl
  ·rw [Q4 h8] at G;simp at G
 refine Q7<|Xk<|bR _ _<|Q5 fun _ b5=>ZS m fun b6=>Ze (Vd O is 1)<|Ze (X0 O gj (E.at 1))<|Zm O<|Ze (Xs O O O0 O0) ?_;have D:=(q.top).dropK Xl (c:=U) I (p+1);refine Ze (zY (l:=c.gs) (k:=(p+1)) O O Xp ji O O0)<|Ze (fh O Xp)<|Zm O<|Zt b6 fun a m=>Q8<|Xw (σ:=Nat) (fun (k:Nat) (a:Act) (w:World)=>Fr a 68 [(5,.slice A8 (bv j).length c8),(33,.slice (if U=(p+1) then Q else Q.map (·.add ((p+1)*3))) (c.gs.drop (p+1)).length (U-(p+1))),(34,vi ((c.gs.drop (p+1)).length:Int)),(35,vi (k:Int))]/\(k<=(c.gs.drop (p+1)).length)/\(uA c p k j.a)/\al w b3 28 [vi c.n,.slice Q c.gs.length U]/\Rd w N.heap.size 52 ab Q c.gs/\ah w N.heap.size 3 1 bk A8 c8 (bv j)/\Rd w w2.heap.size 52 ab (if U=(p+1) then Q else Q.map (·.add ((p+1)*3))) (c.gs.drop (p+1))/\c.gs.length<=U/\Bl N w) (fun (k:Nat)=>(c.gs.drop (p+1)).length-k) 0 ?_ ?_
 ·exact ⟨m.sb,(Qf _),O,E,q,e,D,I,o⟩
 rintro k a w7 ⟨m,hk,aN,E,q,e,D,I,o⟩;refine ZS m fun b7=>Ze (ew O O)<|ZX b7 fun a m _ b8=>eh m O (fun y b9=>?_) (fun y b9=>?_)
 ·obtain ⟨i,aA⟩:=Xe (l:=(c.gs.drop (p+1))) (k:=k) O0
  refine Q7<|b8 _ _<|Q5 fun _ bC=>Q8<|ZS m fun bD=>Zi (k:=k) (u:=i) (enc:=ab) (l:=(c.gs.drop (p+1))) ad O O Xp ji Xl D aA O ?_;intro cT aO;refine Ze (Xt (l:=[vi i.k,vi i.a,vi i.b]) O jd aO O)<|ZB [vi i.k,vi i.a,vi i.b] ql ji fun bZ w9 bE g x=>?_;have cA:=Q0 o.size bE;have E:=E.bw g;have q:=q.bw g;have e:=e.bw g;have D:=D.bw g;have o:=aa o g;refine ZX bD fun a m _ bF=>eo (fun a w=>Fr a 68 [(5,.slice A8 (bv j).length c8),(7,(ae bZ)),(33,.slice (if U=(p+1) then Q else Q.map (·.add ((p+1)*3))) (c.gs.drop (p+1)).length (U-(p+1))),(34,vi ((c.gs.drop (p+1)).length:Int)),(35,vi (k:Int)),(56,.bool ((bq i.k 9 11)&&((i.a==j.a)||(i.b==j.a))))]/\Bl w9 w) ?_ ?_
  ·have H:Bl w9 w9:=Below.refl _ _
   refine gx none (fun _=>false) mixed ?_;intro cU g;have x:=x.bw g;have e:=e.bw g;have o:=aa o g;have H:=aa H g;refine Yb m<|Ye 0 O (Vn jd x)<|Y1 1<|Yk O ad (Vc (zT _ i) AN) (fun _ _ ⟨_,g⟩=>g) ?_;rintro _ cV ⟨rfl,g⟩;have x:=x.bw g;have e:=e.bw g;have o:=aa o g;have H:=aa H g;refine Yo 2 O (fun _=>X7 O)<|Yl 41 O ?_ ?_<;>intro d
   ·refine Yu 3 O (gW d) (fun _=>Vd O lm 1) ?_;refine Yv 4 O (gW d) (X0 O X8 (x.at 1)) ?_;refine Yu 5 O (gW d) (fun _=>X7 O) ?_;refine Yi (k:=0) (u:=j.a) (enc:=bk) (l:=(bv j)) 6 O ⟨_,_,O,O,d⟩ O O gq jw kp e.rd (by rw [xk t M];rfl) O ?_;intro cW aP;refine Yv 7 O (gW d) (X0 O X8 aP) ?_;refine Yu 8 O (gW d) (fun _=>go O O) ?_;refine Yu 9 O (gW d) (fun _=>X7 O) ?_
    refine Yl 48 O ?_ ?_<;>intro f
    ·refine Yp 10 O (gP f) ?_;refine Yp 11 O (gP f) ?_;refine Yp 12 O (gP f) ?_;refine Yp 13 O (gP f) ?_;refine Yp 14 O (gP f) ?_;refine Yp 15 O (gP f) ?_;refine Yu 16 O (gW d) (fun _=>Xh O f O) ?_;refine Yo 17 O (fun _=>Xh O d O) ?_;refine Yd fun a m=>?_;exact ⟨m.sub ⟨O,O,O,O,O,X1 O (by first|rfl|(simp only [z,B,y,d,f,bs];done)|simp [z,B,y,d,f]),trivial⟩,H⟩
    refine Yu 10 O (gW f) (fun _=>Vd O no 2) ?_;refine Yv 11 O (gW f) (X0 O X8 (x.at 2)) ?_;refine Yu 12 O (gW f) (fun _=>X7 O) ?_;refine Yi (k:=0) (u:=j.a) (enc:=bk) (l:=(bv j)) 13 O ⟨_,_,O,O,f⟩ O O gq jw kp e.rd (by rw [xk t M];rfl) O ?_;intro cX aQ;refine Yv 14 O (gW f) (X0 O X8 aQ) ?_;refine Yu 15 O (gW f) (fun _=>go O O) ?_;refine Yu 16 O (gW d) (fun _=>X9 O f O) ?_;refine Yo 17 O (fun _=>Xh O d O) ?_;refine Yd fun a m=>?_;exact ⟨m.sub ⟨O,O,O,O,O,X1 O (by first|rfl|(simp only [z,B,y,d,f,bs];done)|simp [z,B,y,d,f]),trivial⟩,H⟩
   refine Yp 3 O (gP d) ?_;refine Yp 4 O (gP d) ?_;refine Yp 5 O (gP d) ?_;refine Yp 6 O (gP d) ?_;refine Yp 7 O (gP d) ?_;refine Yp 8 O (gP d) ?_;refine Yp 9 O (gP d) ?_;refine Yp 10 O (gP ad) ?_;refine Yp 11 O (gP ad) ?_;refine Yp 12 O (gP ad) ?_;refine Yp 13 O (gP ad) ?_;refine Yp 14 O (gP ad) ?_;refine Yp 15 O (gP ad) ?_;exact Yp 16 O (gP d)<|Yo 17 O (fun _=>X9 O d O)<|Yd fun a m=>⟨m.sub ⟨O,O,O,O,O,X1 O (by first|rfl|(simp only [z,B,y,d,bs];done)|simp [z,B,y,d]),trivial⟩,H⟩
  rintro a d5 ⟨m,g⟩;have E:=E.bw g;have x:=x.bw g;have q:=q.bw g;have e:=e.bw g;have D:=D.bw g;have o:=aa o g;refine bF _ _<|Xz m O ?_ ?_<;>intro aB
  ·have bG:t_ j.a i=true:=aB
   have cB:bq i.k 9 11=true:=((Qd _ _▸bG:bq i.k 9 11=true/\(i.a==j.a||i.b==j.a)=true)).1
   have cM:=QC cB;have d6:=xx i;have C:=SX L t M aN aA bG
   rw [<- xk t M] at C
   refine ZS m fun bH=>Zm O<|Ze (Vd O lm 1)<|Ze (X0 O X8 (x.at 1))<|Zf (X6 (k:=1) (vs:=[vi i.a]) (zs:=[vi i.a]) O gq pD O O) ?_;rintro _ d7 ⟨cC,rfl,bI,g,aC⟩;have aR:=Q0 o.size bI;have x:=x.bw g;have e:=e.bw g;have o:=aa o g;refine Ze (Vd O no 2)<|Ze (X0 O X8 (x.at 2))<|Zf (Vc (Ey _ (some ⟨cC,0,none⟩) 1 ([i.a]) (Rd.of_blk aC O _ aC.lt) i.b N.heap.size (ah.of_blkL kp aC aR O O (Nat.le_of_ble_eq_true O)) o.size O6) Iv) ?_;rintro _ d8 ⟨aS,aT,rfl,aD,g⟩;have e:=e.bw g;have o:=aa o g;refine Zf (X6 (k:=2) (vs:=[.slice A8 (bv j).length c8,.slice aS (ku ([i.a]) i.b).length aT]) (zs:=[.slice A8 (bv j).length c8,.slice aS (ku ([i.a]) i.b).length aT]) O wK Ds O O) ?_;rintro _ d9 ⟨cD,rfl,bJ,g,aH⟩;have cE:=Q0 o.size bJ;have e:=e.bw g;have aD:=aD.bw g;have o:=aa o g;exact Za O<|Zt bH fun a m=>Q6<|Xn<|X3<|X3<|Xn<|X3<|X4 m (Xu m O O)<|⟨(some ⟨cD,0,none⟩),2,[(⟨A8,c8,(bv j)⟩ : Sl),(⟨aS,aT,(ku ([i.a]) i.b)⟩ : Sl)],O,(Rd.of_blk aH O _ aH.lt),(F' e.rd.top aD.rd.top),by rw [C];rfl,o⟩
  have cF:t_ j.a i=false:=aB
  exact Q7<|Xk<|bC _ _<|Zr m<|Ze (Xs O O O0 O0)<|Zm O<|Zn fun a m=>Xb<|⟨k+1,⟨m.sb,O0,(Uz aN aA cF),E,q,e,D,I,o⟩,O0⟩
 have C:pL c p=[bv j]:=by rw [Lo L t M aN O0,xk t M]
 refine Q9<|Xf<|Xf<|Xv<|b5 _ _<|ZS m fun bK=>Zm O<|Zf (X6 (k:=1) (vs:=[.slice A8 (bv j).length c8]) (zs:=[.slice A8 (bv j).length c8]) O wK Ds O O) ?_;rintro _ dA ⟨cG,rfl,bL,g,aI⟩;have cH:=Q0 o.size bL;have e:=e.bw g;have o:=aa o g;refine Za O<|Zt bK fun a m=>Q6 (X4 m (Xu m O O) ?_)
 exact ⟨(some ⟨cG,0,none⟩),1,[(⟨A8,c8,(bv j)⟩ : Sl)],O,(Rd.of_blk aI O _ aI.lt),(ze e.rd.top),by rw [C];rfl,o⟩
end Go.Proofs.YtkhbopcihjobdaaGreatDoor
