/-
  What is proved: for every circuit, the program's PeepholePass answers as the reference's does, leaves its argument as it was and hands out memory of its own, and the argument reads as before. Conditions: none beside the table of powers of ten that the card ties to the program's text.
-/
import Derived.Test.YtblmmikapnflcaaGreatDoorS3
import Derived.WalkSpells
import Derived.Maps.RangeRun
import Derived.Test.YtblmmikapnflcaaGreatDoorS1
import Derived.Lib.ItoaNum
import Derived.Lib.Join
import Derived.Shelf.Strings.OnBuilder
import Derived.Shelf.LaysM
import Derived.Ground.NamesProg
import Derived.Shelf.Strconv.Itoa3
import Derived.Ground.Names2Prog
import Derived.Test.YtblmmikapnflcaaGreatDoorProg
import Derived.Test.YtblmmikapnflcaaGreatDoorS2
import Derived.Lib.ItoaLen
import Derived.Test.YtblmmikapnflcaaGreatDoorRows
import Derived.Lib.LaidU8
import Derived.Lib.AppendIntMem
import Derived.MakeChecks
set_option linter.unusedVariables false
set_option linter.unusedSimpArgs false
set_option maxHeartbeats 1000000
set_option maxRecDepth 20000
set_option linter.unusedSectionVars false
namespace Go.Proofs.YtblmmikapnflcaaGreatDoor
abbrev St:=(Nat→Bool)→Rg
def flipB(β:Nat→Bool)(q:Nat) : Nat→Bool:=fun p=>if p=q then !β p else β p
def u1(k:Int)(x y:Bool) : Rg:=
 if k=1 then (if x&&y then -1 else 1) else if k=2 then (if x=y then 0 else 1) else if k=3 then (if x=y then 0 else if y then om^6 else om^2)
 else if x=y then (if x then om^(turnOf k).toNat else 1) else 0
def act(g:Gt)(v:St) : St:=fun β=>
 if g.k=12 then om*v β
 else if g.k=9 then v (if β g.a.toNat then flipB β g.b.toNat else β)
 else if g.k=10 then (if β g.a.toNat&&β g.b.toNat then om^4 else 1)*v β
 else if g.k=11 then v (if β g.a.toNat=β g.b.toNat then β else flipB (flipB β g.a.toNat) g.b.toNat)
 else u1 g.k (β g.a.toNat) (β g.a.toNat)*v β+u1 g.k (β g.a.toNat) (!β g.a.toNat)*v (flipB β g.a.toNat)
def hN(g:Gt) : Nat:=if g.k=1 then 1 else 0
def run:List Gt→St→St
 | [],v=>v
 | g::l,v=>run l (act g v)
def hs:List Gt→Nat
 | []=>0
 | g::l=>hN g+hs l
def sumN(f:Nat→Rg) : Nat→Rg
 | 0=>0
 | n+1=>sumN f n+f n
theorem X9a{f:Nat→Rg} : ∀ n,(∀ k,k<n→f k=0)→sumN f n=0
 | 0,_=>rfl
 | n+1,h=>by rw [sumN,X9a n fun k hk=>h k (by omega),h n (by omega)];rfl
theorem X5p{f:Nat→Rg}{t:Nat} : ∀ n,t<n→(∀ k,k<n→k≠t→f k=0)→sumN f n=f t
 | 0,h,_=>by omega
 | n+1,h,h0=>by
  rw [sumN]
  by_cases e:t=n
  ·subst e
   rw [X9a t fun k hk=>h0 k (by omega) (by omega)]
   simp only [Xu,Xx,Xp,X08,Xz,X03,X09,X0c,Xd,Xh,Xt,Xv,Xi,Xy]
  ·rw [X5p n (by omega) fun k hk hne=>h0 k (by omega) hne,h0 n (by omega) (by omega)]
   simp only [Xu,Xx,Xp,X08,Xz,X03,X09,X0c,Xd,Xh,Xt,Xv,Xi,Xy]
theorem Xjq{f:Nat→Rg}{t u:Nat}(htu:t≠u) : ∀ n,t<n→u<n→(∀ k,k<n→k≠t→k≠u→f k=0)→sumN f n=f t+f u
 | 0,h,_,_=>by omega
 | n+1,h,h',h0=>by
  rw [sumN]
  by_cases e:t=n
  ·subst e
   rw [X5p (t:=u) t (by omega) fun k hk hne=>h0 k (by omega) (by omega) hne]
   simp only [Xu,Xx,Xp,X08,Xz,X03,X09,X0c,Xd,Xh,Xt,Xv,Xi,Xy]
  ·by_cases e2:u=n
   ·subst e2
    rw [X5p (t:=t) u (by omega) fun k hk hne=>h0 k (by omega) hne (by omega)]
   ·rw [Xjq htu n (by omega) (by omega) fun k hk a b=>h0 k (by omega) a b,h0 n (by omega) (by omega) (by omega)]
    simp only [Xu,Xx,Xp,X08,Xz,X03,X09,X0c,Xd,Xh,Xt,Xv,Xi,Xy]
theorem X7b{f g:Nat→Rg} : ∀ n,(∀ k,k<n→f k=g k)→sumN f n=sumN g n
 | 0,_=>rfl
 | n+1,h=>by rw [sumN,sumN,X7b n fun k hk=>h k (by omega),h n (by omega)]
def pt(N:Nat)(i:Nat) : Nat→Bool:=fun q=>decide (q<N)&&(bitT (N-1-q) i==1)
def chkPt:Bool:=(List.range 6).all fun n=>(List.range (2^n)).all fun i=>(List.range (2^n)).all fun j=>(i==j)||(List.range n).any fun q=>bitT (n-1-q) i != bitT (n-1-q) j
theorem Xgb:chkPt=true:=by kernel_rfl
theorem X8t(p s:Nat) : bitT p s=0∨bitT p s=1:=by
 have h:=X2z ((p:Int)+1) s 0
 rw [Xg4,show ((p:Int)+1-1-0).toNat=p from by omega] at h
 exact h
theorem Xo7{N i j:Nat}(hN:N≤5)(hi:i<2^N)(hj:j<2^N)(h:∀ q,q<N→pt N i q=pt N j q) : i=j:=by
 have hc:=Xgb
 simp only [chkPt,W1,W2] at hc
 have hc:=hc N (by omega) i hi j hj
 simp only [Bool.or_eq_true,beq_iff_eq,List.any_eq_true,W2,bne_iff_ne] at hc
 rcases hc with hc|⟨q,hq,hne⟩
 ·exact hc
 ·have h1:=h q hq
  simp only [pt,hq,decide_true,Qw] at h1
  rcases X8t (N-1-q) i with e1|e1<;>rcases X8t (N-1-q) j with e2|e2<;>rw [e1,e2] at h1 hne<;>simp_all
theorem X8x{N:Nat}(h:N≤5) : 2^N≤32:=Q0 (Nat.pow_le_pow_right (by decide) h) (by decide)
theorem Xhu{N i q:Nat}(hN:N≤5)(hi:i<2^N)(hq:q<N) : pt N (flipT (N-1-q) i).toNat=flipB (pt N i) q:=by
 have hb:=X43 (p:=N-1-q) (s:=i) (by omega) (Nat.lt_of_lt_of_le hi (X8x hN))
 funext p
 unfold flipB pt
 by_cases hp:p<N
 ·simp only [hp,decide_true,Qw]
  by_cases e:p=q
  ·subst e
   rw [Q4 rfl,hb.bit]
   rcases X8t (N-1-p) i with e1|e1<;>rw [e1]<;>rfl
  ·rw [Q3 e,hb.other _ (by omega) (by omega)]
 ·simp only [hp,decide_false,Bool.false_and]
  rw [Q3 (by omega)]
theorem Xcw{N i q:Nat}(hq:q<N) : bitF (N:Int) (i:Int) (q:Int)=if pt N i q then 1 else 0:=by
 rw [Xg4,show ((N:Int)-1-(q:Int)).toNat=N-1-q from by omega]
 simp only [pt,hq,decide_true,Qw,beq_iff_eq]
 rcases X8t (N-1-q) i with e|e<;>rw [e]<;>rfl
def zc(N:Nat)(g:Gt)(i k:Nat) : Rg:=
 if g.k=12 then (if i=k then om else 0)
 else if inR g.k 9 11=true then (if toS N g i=(k:Int) then om^(if czI N g i=true then 4 else 0) else 0)
 else if (i:Int)=k∨flipF N i g.a=(k:Int) then u1 g.k (bitF N i g.a==1) (bitF N k g.a==1) else 0
theorem Xfl{x:Dy}{z:Rg}{m:Nat}(h1:x.exp=m)(h2:x.num=z) : V x m z:=⟨by omega,0,by omega,by rw [← h2,X4e];exact (Xp _).symm⟩
theorem Xs3{k:Int}(h:1≤k∧k≤8){x y:Int}(hx:x=0∨x=1)(hy:y=0∨y=1) : V (entryI k x y) (if k=1 then 1 else 0) (u1 k (x==1) (y==1)):=by
 have:k=1∨k=2∨k=3∨k=4∨k=5∨k=6∨k=7∨k=8:=by omega
 rcases this with rfl|rfl|rfl|rfl|rfl|rfl|rfl|rfl<;>rcases hx with rfl|rfl<;>rcases hy with rfl|rfl<;>exact Xfl (by decide) (by decide)
theorem Xgx{N:Nat}{g:Gt}(hg:gOk N g=true)(i k:Nat) : V (cellI N g i k) (hN g) (zc N g i k):=by
 obtain ⟨hn,hk,ha,hb⟩:=X1i hg
 unfold cellI zc hN
 by_cases h12:g.k=12
 ·have h1:¬ g.k=1:=by omega
  rw [Q4 h12,Q4 h12,Q3 h1]
  by_cases e:i=k
  ·have e':(i:Int)=k:=by omega
   rw [Q4 e,Q4 e']
   exact Xfl (by decide) (by decide)
  ·have e':¬ (i:Int)=k:=by omega
   rw [Q3 e,Q3 e']
   exact X4n 0
 ·rw [Q3 h12,Q3 h12]
  by_cases h9:inR g.k 9 11=true
  ·rw [Q4 h9,Q4 h9]
   have:=X01.1 h9
   have h1:¬ g.k=1:=by omega
   rw [Q3 h1]
   by_cases e:toS N g i=(k:Int)
   ·rw [Q4 e,Q4 e]
    by_cases e2:czI N g i=true
    ·rw [Q4 e2,Q4 e2]
     exact Xfl (by decide) (by decide)
    ·rw [Q3 e2,Q3 e2]
     exact Xfl (by decide) (by decide)
   ·rw [Q3 e,Q3 e]
    exact X4n 0
  ·rw [Q3 h9,Q3 h9]
   have h8:¬ (9≤g.k∧g.k≤11):=fun h=>h9 (X01.2 h)
   by_cases e:(i:Int)=k∨flipF N i g.a=(k:Int)
   ·rw [Q4 e,Q4 e]
    exact Xs3 (by omega) (X2z _ _ _) (X2z _ _ _)
   ·rw [Q3 e,Q3 e]
    exact X4n _
theorem Xdb{N:Nat}{g:Gt}(hg:gOk N g=true){i:Nat}(hi:i<2^N)(w:St) : sumN (fun k=>zc N g i k*w (pt N k)) (2^N)=act g w (pt N i):=by
 obtain ⟨hn,hk,ha,hb⟩:=X1i hg
 have hN:N≤5:=by omega
 unfold act
 by_cases h12:g.k=12
 ·rw [Q4 h12,X5p (t:=i) _ hi fun k hk' hne=>by
   simp only [zc,Q4 h12]
   rw [Q3 (by omega)]
   exact Xu _]
  simp only [zc,Q4 h12,if_true]
 ·rw [Q3 h12]
  obtain ⟨A,hA⟩ : ∃ A:Nat,g.a=A:=⟨g.a.toNat,by have:=ha h12;omega⟩
  have hA5:A<N:=by have:=ha h12;omega
  by_cases h9:inR g.k 9 11=true
  ·have h9':=X01.1 h9
   obtain ⟨B,hB⟩ : ∃ B:Nat,g.b=B:=⟨g.b.toNat,by have:=hb h9';omega⟩
   have hB5:B<N:=by have:=hb h9';omega
   obtain ⟨t,ht,ht2,_,_⟩:=Xcn hg (s:=i) hi h9'
   rw [Qj] at ht
   rw [X5p (t:=t) _ ht fun k hk' hne=>by
    simp only [zc,Q3 h12,Q4 h9,ht2]
    rw [Q3 (by omega)]
    exact Xu _]
   simp only [zc,Q3 h12,Q4 h9,ht2,if_true]
   have bA:=Xcw (i:=i) hA5
   have bB:=Xcw (i:=i) hB5
   have fl:∀ {j q:Nat},j<2^N→q<N→flipF N j q=((flipT (N-1-q) j).toNat:Int)∧(flipT (N-1-q) j).toNat<2^N∧pt N (flipT (N-1-q) j).toNat=flipB (pt N j) q:=fun {j q} hj hq=>by
    rw [X5i,show ((N:Int)-1-(q:Int)).toNat=N-1-q from by omega]
    exact ⟨(X43 (p:=N-1-q) (s:=j) (by omega) (Nat.lt_of_lt_of_le hj (X8x hN))).nat,X47 hN hq hj,Xhu hN hj hq⟩
   rw [hA,hB,Qj,Qj]
   unfold toS at ht2
   rw [hA,hB] at ht2
   by_cases k9:g.k=9
   ·have hc:czI N g i=false:=by unfold czI;rw [k9];rfl
    rw [Q4 k9,hc,Q3 (by decide)]
    rw [Q4 k9,bA] at ht2
    have e1:om^0=1:=rfl
    rw [e1]
    cases hp:pt N i A
    ·rw [hp] at ht2
     simp only [Bool.false_eq_true,if_false] at ht2
     rw [Q3 (by decide)] at ht2
     obtain rfl:i=t:=by omega
     simp only [Bool.false_eq_true,if_false]
     simp only [e1,Xp]
    ·rw [hp,Q4 rfl,Q4 rfl,(fl hi hB5).1] at ht2
     rw [Q4 rfl,← (fl hi hB5).2.2,show (flipT (N-1-B) i).toNat=t from by omega]
     simp only [e1,Xp]
   ·rw [Q3 k9] at ht2 ⊢
    by_cases k10:g.k=10
    ·rw [Q4 k10]
     rw [Q3 (by omega)] at ht2
     obtain rfl:i=t:=by omega
     have hc:czI N g i=(pt N i A&&pt N i B):=by
      unfold czI
      rw [k10,hA,hB,bA,bB]
      cases pt N i A<;>cases pt N i B<;>rfl
     rw [hc]
     cases pt N i A&&pt N i B<;>rfl
    ·have k11:g.k=11:=by omega
     have hc:czI N g i=false:=by unfold czI;rw [k11];rfl
     rw [Q3 k10,Q4 k11,hc,Q3 (by decide)]
     rw [Q4 k11,bA,bB] at ht2
     have e1:om^0=1:=rfl
     rw [e1]
     by_cases hp:pt N i A=pt N i B
     ·rw [hp,Q3 (fun h=>h rfl)] at ht2
      obtain rfl:i=t:=by omega
      rw [Q4 hp]
      simp only [e1,Xp]
     ·rw [Q4 (by revert hp;cases pt N i A<;>cases pt N i B<;>simp),(fl hi hA5).1,(fl (fl hi hA5).2.1 hB5).1] at ht2
      rw [Q3 hp,← (fl hi hA5).2.2,← (fl (fl hi hA5).2.1 hB5).2.2]
      rw [show (flipT (N-1-B) (flipT (N-1-A) i).toNat).toNat=t from by omega]
      simp only [e1,Xp]
  ·have h8:¬ (9≤g.k∧g.k≤11):=fun h=>h9 (X01.2 h)
   rw [Q3 (by omega),Q3 (by omega),Q3 (by omega),hA,Qj]
   have bo:=X43 (p:=N-1-A) (s:=i) (by omega) (Nat.lt_of_lt_of_le hi (X8x hN))
   have fs:=X47 hN hA5 hi
   have fp:=Xhu hN hi hA5
   have fe:flipF N i A=((flipT (N-1-A) i).toNat:Int):=by
    rw [X5i,show ((N:Int)-1-(A:Int)).toNat=N-1-A from by omega]
    exact bo.nat
   generalize (flipT (N-1-A) i).toNat=t at fs fp fe
   have hne:i≠t:=by
    rintro rfl
    have:=congrFun fp A
    simp [flipB] at this
   have bA:=Xcw (i:=i) hA5
   have bT:=Xcw (i:=t) hA5
   have hT:pt N t A = !pt N i A:=by rw [fp];simp [flipB]
   rw [Xjq hne _ hi fs fun k hk' n1 n2=>by
    simp only [zc,Q3 h12,Q3 h9,hA,fe]
    rw [Q3 (by omega)]
    exact Xu _]
   simp only [zc,Q3 h12,Q3 h9,hA,fe,true_or,or_true,if_true,bA,bT,hT]
   rw [← fp]
   cases pt N i A<;>rfl
theorem Xig{g:Nat→Option Dy} : ∀ {n:Nat} {l:List Dy},seqO g n=some l→∀ k,k<n→g k=some (l.getD k dZ)
 | 0,l,_,k,hk=>by omega
 | n+1,l,h,k,hk=>by
  simp only [seqO] at h
  split at h
  ·rename_i l' x h1 h2
   injection h with h
   subst h
   have hl:=X4l h1
   by_cases e:k=n
   ·subst e
    rw [h2,Qa,W5 (by omega),hl,Nat.sub_self]
    rfl
   ·rw [Xig h1 k (by omega),Qa,Qa,List.getElem?_append_left (by omega)]
  ·cases h
theorem X6y{R C:Int}{f:Nat→Nat→Option Dy}{M:Mx}(h:matOf R C f=some M) : (∀ i j,i<R.toNat→j<C.toNat→f i j=some (M.at i j))∧M.rows=R∧M.cols=C∧M.cells.length=R.toNat*C.toNat:=by
 unfold matOf at h
 split at h
 ·cases hs:seqO (gridG f C.toNat) (R.toNat*C.toNat) with
  | none=>rw [hs] at h;cases h
  | some l=>
   rw [hs] at h
   injection h with h
   subst h
   refine ⟨fun i j hi hj=>?_,rfl,rfl,X4l hs⟩
   have:=Xig hs (i*C.toNat+j) (X3o hi hj)
   rw [X99 hj] at this
   exact this
 ·cases h
theorem X8z{a b:Mx}{i j m m':Nat}{za zb:Nat→Rg} : ∀ n {s:Dy},(∀ k,k<n→V (a.at i k) m (za k))→(∀ k,k<n→V (b.at k j) m' (zb k))→dotI a b i j n=some s→V s (m+m') (sumN (fun k=>za k*zb k) n)
 | 0,s,_,_,h=>by
  injection h with h
  subst h
  exact X4n _
 | n+1,s,ha,hb,h=>by
  rw [dotI] at h
  cases h1:dotI a b i j n with
  | none=>rw [h1] at h;cases h
  | some t=>
   rw [h1,Qz] at h
   cases h2:dMulI (a.at i n) (b.at n j) with
   | none=>rw [h2] at h;cases h
   | some x=>
    rw [h2,Qz] at h
    exact (Xu7 h (X8z n (fun k hk=>ha k (by omega)) (fun k hk=>hb k (by omega)) h1) (Xmj h2 (ha n (by omega)) (hb n (by omega))).1).1
theorem X7v{N:Nat}{g:Gt}(hg:gOk N g=true){i k:Nat}(hi:i<2^N)(hk:k<2^N) : (gateS N g).at i k=cellI N g i k:=by
 have h:=(X2y hg).1
 unfold gateI at h
 rw [Q4 hg] at h
 have:=(X6y h).1 i k (by rw [Qj,Qj];exact hi) (by rw [Qj,Qj];exact hk)
 exact (Option.some.inj this).symm
theorem Xaw{a b M:Mx}(h:mulI a b=some M) : (∀ i j,i<a.rows.toNat→j<b.cols.toNat→dotI a b i j a.cols.toNat=some (M.at i j))∧M.rows=a.rows∧M.cols=b.cols∧a.cols=b.rows∧M.cells.length=a.rows.toNat*b.cols.toNat:=by
 unfold mulI at h
 split at h
 ·rename_i h1
  simp only [Qd,beq_iff_eq] at h1
  obtain ⟨p1,p2,p3,p4⟩:=X6y h;exact ⟨p1,p2,p3,h1.2,p4⟩
 ·cases h
theorem Xab{N:Nat}{C:Nat}{j:Nat}(hj:j<C) : ∀ (l:List Gt) {m0:Nat} {M0 M:Mx} {v:St},(∀ g ∈ l,gOk N g=true)→M0.cols=(C:Int)→(∀ i,i<2^N→V (M0.at i j) m0 (v (pt N i)))→applI N l M0=some M→
  (∀ i,i<2^N→V (M.at i j) (m0+hs l) (run l v (pt N i)))∧M.cols=(C:Int)
 | [],m0,M0,M,v,_,hc,h0,h=>by
  injection h with h
  subst h
  exact ⟨h0,hc⟩
 | g::l,m0,M0,M,v,hg,hc,h0,h=>by
  have hg1:=hg g (by simp)
  rw [applI,(X2y hg1).1,Qq] at h
  cases h1:mulI (gateS N g) M0 with
  | none=>rw [h1] at h;cases h
  | some M1=>
   rw [h1,Qz] at h
   obtain ⟨q1,q2,q3,q4,_⟩:=Xaw h1
   have e1:(gateS (N:Int) g).rows.toNat=2^N:=by
    show ((2^(N:Int).toNat:Nat) : Int).toNat=2^N
    rw [Qj,Qj]
   have e2:(gateS (N:Int) g).cols.toNat=2^N:=by
    show ((2^(N:Int).toNat:Nat) : Int).toNat=2^N
    rw [Qj,Qj]
   rw [e1,e2,hc,Qj] at q1
   have key:∀ i,i<2^N→V (M1.at i j) (m0+hN g) (act g v (pt N i)):=fun i hi=>by
    have:=X8z (m:=hN g) (m':=m0) (za:=fun k=>zc N g i k) (zb:=fun k=>v (pt N k)) (2^N) (fun k hk=>by rw [X7v hg1 hi hk];exact Xgx hg1 i k) (fun k hk=>h0 k hk) (q1 i j hi hj)
    rw [Xdb hg1 hi] at this
    rw [Nat.add_comm]
    exact this
   have:=Xab hj l (fun g' hg'=>hg g' (by simp [hg'])) (q3.trans hc) key h
   rw [Nat.add_assoc] at this
   exact this
def eb(N j:Nat) : St:=fun β=>if ∀ q,q<N→β q=pt N j q then 1 else 0
theorem Xny{N i j:Nat}(hN:N≤5)(hi:i<2^N)(hj:j<2^N) : eb N j (pt N i)=if i=j then 1 else 0:=by
 unfold eb
 by_cases e:i=j
 ·subst e
  rw [Q4 rfl,Q4 fun q _=>rfl]
 ·rw [Q3 e,Q3 fun h=>e (Xo7 hN hi hj h)]
theorem X9t{c:Cx}{N:Nat}{M:Mx}(hn:c.n=N)(h:opI c=some M) : (∀ i j,i<2^N→j<2^N→V (M.at i j) (hs c.gs) (run c.gs (eb N j) (pt N i)))∧mOk M=true∧M.rows=((2^N:Nat) : Int)∧M.cols=((2^N:Nat) : Int):=by
 have hop:=Xud c
 rw [hop.1] at h
 have hm:=hop.2 M h
 rw [hn,Qj] at hm
 rw [← hop.1] at h
 unfold opI at h
 split at h
 ·rename_i hc
  obtain ⟨hn5,_,hg⟩:=X14 hc
  have hN:N≤5:=by omega
  rw [hn] at h hg hn5
  cases hi0:idI ((2^(N:Int).toNat:Nat) : Int) with
  | none=>rw [hi0] at h;cases h
  | some U=>
   rw [hi0,Qz] at h
   unfold idI at hi0
   obtain ⟨u1,u2,u3,_⟩:=X6y hi0
   rw [Qj,Qj] at u1
   refine ⟨fun i j hi hj=>?_,hm.1,hm.2,?_⟩
   ·have:=(Xab (N:=N) (C:=2^N) hj c.gs (m0:=0) (v:=eb N j) hg (by rw [u3,Qj]) (fun i hi=>by
     have e:=Option.some.inj (u1 i j hi hj)
     rw [← e,Xny hN hi hj]
     by_cases e2:i=j
     ·rw [Q4 e2,Q4 e2]
      exact Xfl (by decide) (by decide)
     ·rw [Q3 e2,Q3 e2]
      exact X4n 0) h).1 i hi
    rw [Nat.zero_add] at this
    exact this
   ·exact (Xab (N:=N) (C:=2^N) (j:=0) (Nat.pow_pos (by decide)) c.gs (m0:=0) (v:=eb N 0) hg (by rw [u3,Qj]) (fun i hi=>by
     have e:=Option.some.inj (u1 i 0 hi (Nat.pow_pos (by decide)))
     rw [← e,Xny hN hi (Nat.pow_pos (by decide))]
     by_cases e2:i=0
     ·rw [Q4 e2,Q4 e2]
      exact Xfl (by decide) (by decide)
     ·rw [Q3 e2,Q3 e2]
      exact X4n 0) h).2
 ·cases h
theorem Xq9(g:Gt)(v w:St) : act g (fun β=>v β+w β)=fun β=>act g v β+act g w β:=by
 funext β
 unfold act
 split
 ·simp only [Xu,Xx,Xp,X08,Xz,X03,X09,X0c,Xd,Xh,Xt,Xv,Xi,Xy]
 ·split
  ·rfl
  ·split
   ·simp only [Xu,Xx,Xp,X08,Xz,X03,X09,X0c,Xd,Xh,Xt,Xv,Xi,Xy]
   ·split
    ·rfl
    ·simp only [Xu,Xx,Xp,X08,Xz,X03,X09,X0c,Xd,Xh,Xt,Xv,Xi,Xy]
theorem X9h(g:Gt)(c:Rg)(v:St) : act g (fun β=>c*v β)=fun β=>c*act g v β:=by
 funext β
 unfold act
 split
 ·simp only [Xu,Xx,Xp,X08,Xz,X03,X09,X0c,Xd,Xh,Xt,Xv,Xi,Xy]
 ·split
  ·rfl
  ·split
   ·simp only [Xu,Xx,Xp,X08,Xz,X03,X09,X0c,Xd,Xh,Xt,Xv,Xi,Xy]
   ·split
    ·rfl
    ·simp only [Xu,Xx,Xp,X08,Xz,X03,X09,X0c,Xd,Xh,Xt,Xv,Xi,Xy]
theorem Xjg:∀ (l:List Gt) (v w:St),run l (fun β=>v β+w β)=fun β=>run l v β+run l w β
 | [],_,_=>rfl
 | g::l,v,w=>by rw [run,Xq9,Xjg l];rfl
theorem X9g:∀ (l:List Gt) (c:Rg) (v:St),run l (fun β=>c*v β)=fun β=>c*run l v β
 | [],_,_=>rfl
 | g::l,c,v=>by rw [run,X9h,X9g l];rfl
theorem Xei:∀ (l:List Gt),run l (fun _=>0)=fun _=>0:=fun l=>by
 have:=X9g l 0 (fun _=>0)
 have e:(fun _:Nat→Bool=>(0:Rg)*0)=fun _=>0:=by funext β;exact Xu 0
 rw [e] at this
 rw [this]
 funext β
 exact Xu _
theorem Xj3(l:List Gt)(c:Nat→Rg)(f:Nat→St) : ∀ n,run l (fun β=>sumN (fun k=>c k*f k β) n)=fun β=>sumN (fun k=>c k*run l (f k) β) n
 | 0=>Xei l
 | n+1=>by
  show run l (fun β=>sumN (fun k=>c k*f k β) n+c n*f n β)=_
  rw [Xjg l (fun β=>sumN (fun k=>c k*f k β) n) (fun β=>c n*f n β),Xj3 l c f n,X9g]
  rfl
def Low(N:Nat)(g:Gt) : Prop:=(g.k≠12→g.a.toNat<N)∧(9≤g.k∧g.k≤11→g.b.toNat<N)
theorem Xgh{N:Nat}{g:Gt}(h:gOk N g=true) : Low N g:=by
 obtain ⟨_,_,ha,hb⟩:=X1i h;exact ⟨fun h=>by have:=ha h;omega,fun h=>by have:=hb h;omega⟩
def Co(N:Nat)(β γ:Nat→Bool) : Prop:=∀ q,N≤q→β q=γ q
theorem Co.flip{N q:Nat}{β γ:Nat→Bool}(h:Co N β γ)(hq:q<N) : Co N β (flipB γ q):=fun p hp=>by
 unfold flipB
 rw [Q3 (by omega)]
 exact h p hp
theorem Xuv{N:Nat}{g:Gt}(hg:Low N g){β:Nat→Bool}{v w:St}(h:∀ γ,Co N β γ→v γ=w γ) : ∀ γ,Co N β γ→act g v γ=act g w γ:=fun γ hγ=>by
 unfold act
 split
 ·rw [h γ hγ]
 ·rename_i h12
  have ha:=hg.1 h12
  split
  ·have hb:=hg.2 (by omega)
   split
   ·exact h _ (hγ.flip hb)
   ·exact h _ hγ
  ·split
   ·rw [h γ hγ]
   ·split
    ·have hb:=hg.2 (by omega)
     split
     ·exact h _ hγ
     ·exact h _ ((hγ.flip ha).flip hb)
    ·rw [h γ hγ,h _ (hγ.flip ha)]
theorem Xod{N:Nat}{β:Nat→Bool} : ∀ (l:List Gt) {v w:St},(∀ g ∈ l,Low N g)→(∀ γ,Co N β γ→v γ=w γ)→∀ γ,Co N β γ→run l v γ=run l w γ
 | [],_,_,_,h=>h
 | g::l,v,w,hg,h=>Xod l (fun g' hg'=>hg g' (by simp [hg'])) (Xuv (hg g (by simp)) h)
def Dep(N:Nat)(v:St) : Prop:=∀ β γ,(∀ q,q<N→β q=γ q)→v β=v γ
theorem X5c{N q:Nat}{β γ:Nat→Bool}(h:∀ q,q<N→β q=γ q)(hq:q<N) : ∀ p,p<N→flipB β q p=flipB γ q p:=fun p hp=>by
 unfold flipB
 rw [h p hp]
theorem Xr6{N:Nat}{g:Gt}(hg:Low N g){v:St}(h:Dep N v) : Dep N (act g v):=fun β γ e=>by
 unfold act
 split
 ·rw [h β γ e]
 ·rename_i h12
  have ha:=hg.1 h12
  rw [e _ ha]
  split
  ·have hb:=hg.2 (by omega)
   split
   ·exact h _ _ (X5c e hb)
   ·exact h _ _ e
  ·split
   ·have hb:=hg.2 (by omega)
    rw [e _ hb,h β γ e]
   ·split
    ·have hb:=hg.2 (by omega)
     rw [e _ hb]
     split
     ·exact h _ _ e
     ·exact h _ _ (X5c (X5c e ha) hb)
    ·rw [h β γ e,h _ _ (X5c e ha)]
theorem Xhs{N:Nat} : ∀ (l:List Gt) {v:St},(∀ g ∈ l,Low N g)→Dep N v→Dep N (run l v)
 | [],_,_,h=>h
 | g::l,v,hg,h=>Xhs l (fun g' hg'=>hg g' (by simp [hg'])) (Xr6 (hg g (by simp)) h)
theorem Xxk(N j:Nat) : Dep N (eb N j):=fun β γ e=>by
 unfold eb
 congr 1
 apply propext
 exact ⟨fun h q hq=>(e q hq).symm.trans (h q hq),fun h q hq=>(e q hq).trans (h q hq)⟩
def bools:List Bool:=[false,true]
def chkSur:Bool:=(List.range 6).all fun n=>bools.all fun a=>bools.all fun b=>bools.all fun c=>bools.all fun d=>bools.all fun e=>(List.range (2^n)).any fun i=>(List.range n).all fun q=>pt n i q==[a,b,c,d,e].getD q false
theorem Xfn:chkSur=true:=by kernel_rfl
theorem X40(b:Bool) : b ∈ bools:=by cases b<;>simp [bools]
theorem Xn3{N:Nat}(hN:N≤5)(β:Nat→Bool) : ∃ i,i<2^N∧∀ q,q<N→pt N i q=β q:=by
 have h:=Xfn
 simp only [chkSur,W1,W2] at h
 have h:=h N (by omega) _ (X40 (β 0)) _ (X40 (β 1)) _ (X40 (β 2)) _ (X40 (β 3)) _ (X40 (β 4))
 simp only [List.any_eq_true,W2,W1,beq_iff_eq] at h
 obtain ⟨i,hi,h⟩:=h
 refine ⟨i,hi,fun q hq=>?_⟩
 rw [h q hq]
 have:q=0∨q=1∨q=2∨q=3∨q=4:=by omega
 rcases this with rfl|rfl|rfl|rfl|rfl<;>rfl
def put(N j:Nat)(β:Nat→Bool) : Nat→Bool:=fun q=>if q<N then pt N j q else β q
theorem Xl3{N:Nat}(hN:N≤5){l:List Gt}(hl:∀ g ∈ l,Low N g)(v:St)(β:Nat→Bool) : ∃ i,i<2^N∧(∀ q,q<N→pt N i q=β q)∧∀ l:List Gt,(∀ g ∈ l,Low N g)→run l v β=sumN (fun j=>v (put N j β)*run l (eb N j) (pt N i)) (2^N):=by
 obtain ⟨i,hi,hb⟩:=Xn3 hN β
 refine ⟨i,hi,hb,fun l hl=>?_⟩
 have h1:∀ γ,Co N β γ→v γ=(fun γ=>sumN (fun j=>v (put N j β)*eb N j γ) (2^N)) γ:=fun γ hγ=>by
  obtain ⟨t,ht,hb'⟩:=Xn3 hN γ
  have e:put N t β=γ:=by
   funext q
   unfold put
   by_cases hq:q<N
   ·rw [Q4 hq,hb' q hq]
   ·rw [Q3 hq,hγ q (by omega)]
  show v γ=sumN _ _
  rw [X5p (t:=t) _ ht fun k hk hne=>by
   have:eb N k γ=0:=by
    unfold eb
    rw [Q3 fun h=>hne (Xo7 hN hk ht fun q hq=>by rw [hb' q hq,h q hq])]
   rw [this]
   exact Xx _]
  have:eb N t γ=1:=by
   unfold eb
   rw [Q4 fun q hq=>(hb' q hq).symm]
  rw [this,e]
  exact (X08 _).symm
 rw [Xod l hl h1 β fun _ _=>rfl,Xj3]
 refine X7b _ fun k hk=>?_
 rw [Xhs l hl (Xxk N k) β (pt N i) fun q hq=>(hb q hq).symm]
theorem X89{p q:Mx}{k R C:Nat}(hp:p.cells.length=R*C)(hq:q.cells.length=R*C)(hpc:p.cols=(C:Int))(hqc:q.cols=(C:Int)) : p.cells=q.cells.map (dTurn k)↔∀ i j,i<R→j<C→p.at i j=dTurn k (q.at i j):=by
 constructor
 ·intro h i j hi hj;have hlt:=X3o hi hj
  unfold Mx.at
  rw [h,hpc,hqc,Qj,Qa,Qa,List.getElem?_map,Qc (by omega)]
  rfl
 ·intro h
  apply List.ext_getElem
  ·simp [hp,hq]
  ·intro m h1 h2
   have hC:0<C:=by
    rcases Nat.eq_zero_or_pos C with e|e
    ·rw [e,Nat.mul_zero] at hp;omega
    ·exact e
   have h3:=h (m/C) (m % C) (Nat.div_lt_of_lt_mul (by rw [Wi];omega)) (Nat.mod_lt _ hC)
   unfold Mx.at at h3
   rw [hpc,hqc,Qj,show m/C*C+m % C=m from by rw [Wi];exact Nat.div_add_mod m _] at h3
   rw [Qa,Qa,Qc h1,Qc (by omega)] at h3
   rw [List.getElem_map]
   exact h3
theorem run_basis'{N:Nat}(hN:N≤5)(v:St)(β:Nat→Bool) : ∃ i,i<2^N∧(∀ q,q<N→pt N i q=β q)∧∀ l:List Gt,(∀ g ∈ l,Low N g)→run l v β=sumN (fun j=>v (put N j β)*run l (eb N j) (pt N i)) (2^N):=
 Xl3 hN (l:=[]) (fun g hg=>by simp at hg) v β
theorem X91(c:Rg){f:Nat→Rg} : ∀ n,c*sumN f n=sumN (fun k=>c*f k) n
 | 0=>by show c*0=0;exact Xx c
 | n+1=>by rw [sumN,sumN,X09,X91 c n]
theorem X6h{c d:Cx}{N:Nat}{M M':Mx}(hc:c.n=N)(hd:d.n=N)(h1:opI c=some M)(h2:opI d=some M') :
  phaseS M M'=true↔∃ k,k<8∧∀ v β,s2^hs d.gs*run c.gs v β=om^k*(s2^hs c.gs*run d.gs v β):=by
 have c0:=X14 (c:=c) (by unfold opI at h1;split at h1;assumption;cases h1)
 have d0:=X14 (c:=d) (by unfold opI at h2;split at h2;assumption;cases h2)
 rw [hc] at c0
 rw [hd] at d0
 have hN:N≤5:=by omega
 obtain ⟨v1,m1,r1,q1⟩:=X9t hc h1;obtain ⟨v2,m2,r2,q2⟩:=X9t hd h2
 have l1:=X32 m1
 have l2:=X32 m2
 rw [r1,q1,Qj] at l1
 rw [r2,q2,Qj] at l2
 have lc:∀ g ∈ c.gs,Low N g:=fun g hg=>Xgh (c0.2.2 g hg)
 have ld:∀ g ∈ d.gs,Low N g:=fun g hg=>Xgh (d0.2.2 g hg)
 have hcell:∀ k:Nat,k<8→((∀ i j,i<2^N→j<2^N→M.at i j=dTurn k (M'.at i j))↔∀ v β,s2^hs d.gs*run c.gs v β=om^k*(s2^hs c.gs*run d.gs v β)):=fun k hk=>by
  constructor
  ·intro h v β;obtain ⟨i,hi,hb,hr⟩:=run_basis' hN v β
   rw [hr _ lc,hr _ ld,X91,X91,X91]
   refine X7b _ fun j hj=>?_
   have e1:=v1 i j hi hj
   have e2:=Xlt (Mx.at_ok (X21 m2) i j) (v2 i j hi hj) hk
   rw [← h i j hi hj] at e2
   have e3:=e1.cross e2
   have e4:∀ x,s2^hs d.gs*(x*run c.gs (eb N j) (pt N i))=om^k*(s2^hs c.gs*(x*run d.gs (eb N j) (pt N i))):=fun x=>by
    rw [show s2^hs d.gs*(x*run c.gs (eb N j) (pt N i))=x*(s2^hs d.gs*run c.gs (eb N j) (pt N i)) by simp only [Xu,Xx,Xp,X08,Xz,X03,X09,X0c,Xd,Xh,Xt,Xv,Xi,Xy],e3]
    simp only [Xu,Xx,Xp,X08,Xz,X03,X09,X0c,Xd,Xh,Xt,Xv,Xi,Xy]
   exact e4 _
  ·intro h i j hi hj
   have e1:=v1 i j hi hj
   have e2:=Xlt (Mx.at_ok (X21 m2) i j) (v2 i j hi hj) hk
   have o2:=Mx.at_ok (X21 m2) i j
   refine Xty (m:=hs c.gs+hs d.gs) (z:=s2^hs d.gs*run c.gs (eb N j) (pt N i)) (Mx.at_ok (X21 m1) i j) ?_ (e1.up _) ?_
   ·have hp:V (dPow k) 0 (dPow k).num:=Xfl (by rfl) rfl
    exact (Xmj (Xbe o2 hk) (v2 i j hi hj) hp).2
   ·have e3:=e2.up (hs c.gs)
    rw [h,Nat.add_comm]
    have:om^k*(s2^hs c.gs*run d.gs (eb N j) (pt N i))=s2^hs c.gs*(om^k*run d.gs (eb N j) (pt N i)):=by simp only [Xu,Xx,Xp,X08,Xz,X03,X09,X0c,Xd,Xh,Xt,Xv,Xi,Xy]
    rw [this]
    exact e3
 unfold phaseS turnedS
 simp only [List.any_eq_true,W2,Qd,Qr]
 constructor
 ·rintro ⟨k,hk,h⟩;exact ⟨k,hk,(hcell k hk).1 ((X89 l1.2.2 l2.2.2 q1 q2).1 h.2)⟩
 ·rintro ⟨k,hk,h⟩;exact ⟨k,hk,⟨by rw [r1,r2],by rw [q1,q2]⟩,(X89 l1.2.2 l2.2.2 q1 q2).2 ((hcell k hk).2 h)⟩
def inj(us:List Int)(β γ:Nat→Bool) : Nat→Bool:=fun p=>if (p:Int) ∈ us then γ (lastN us p us.length).toNat else β p
def Eqv(l m:List Gt) : Prop:=∃ k:Nat,∀ v β,s2^hs m*run l v β=om^k*(s2^hs l*run m v β)
theorem Eqv.refl(l:List Gt) : Eqv l l:=⟨0,fun v β=>by rw [X4e];exact (Xp _).symm⟩
theorem Eqv.trans{l m n:List Gt}(h1:Eqv l m)(h2:Eqv m n) : Eqv l n:=by
 obtain ⟨k,h1⟩:=h1;obtain ⟨j,h2⟩:=h2
 refine ⟨k+j,fun v β=>X2j (hs m) ?_⟩
 have e1:=h1 v β
 have e2:=h2 v β
 rw [X1t]
 rw [show s2^hs m*(s2^hs n*run l v β)=s2^hs n*(s2^hs m*run l v β) by simp only [Xu,Xx,Xp,X08,Xz,X03,X09,X0c,Xd,Xh,Xt,Xv,Xi,Xy],e1,show s2^hs n*(om^k*(s2^hs l*run m v β))=om^k*(s2^hs l*(s2^hs n*run m v β)) by simp only [Xu,Xx,Xp,X08,Xz,X03,X09,X0c,Xd,Xh,Xt,Xv,Xi,Xy],e2]
 simp only [Xu,Xx,Xp,X08,Xz,X03,X09,X0c,Xd,Xh,Xt,Xv,Xi,Xy]
theorem Xf4{c c':Cx}{r:Rp}(h:applyS c r=some c') : ∃ p q,c.gs=p++r.old++q∧c'.gs=p++r.new++q:=by
 unfold applyS at h
 split at h
 ·rename_i h1
  injection h with h
  subst h
  refine ⟨c.gs.take r.pos.toNat,c.gs.drop (r.pos.toNat+r.old.length),?_,rfl⟩
  have h2:=h1.2
  rw [List.drop_take] at h2
  have e:c.gs.take r.pos.toNat++r.old=c.gs.take (r.pos.toNat+r.old.length):=by
   rw [← h2,show r.pos.toNat+r.old.length-r.pos.toNat=r.old.length from by omega,List.take_add]
   congr 1
   simp
  rw [e,W9]
 ·cases h
theorem Xlh(k:Nat) : om^k=om^(k % 8):=by
 have h:∀ m:Nat,om^(8*m)=1:=fun m=>by
  induction m with
  | zero=>rfl
  | succ m ih=>rw [Nat.mul_succ,X1t,ih,om8];rfl
 have:=X1t om (8*(k/8)) (k % 8)
 rw [Nat.div_add_mod,h] at this
 rw [this]
 exact Xp _
end Go.Proofs.YtblmmikapnflcaaGreatDoor
namespace Go.Proofs.YtblmmikapnflcaaGreatDoor
open Go.RowKit
def bkG(g:Gt) : Gt:=⟨if g.k=5∨g.k=7 then g.k+1 else if g.k=6∨g.k=8 then g.k-1 else g.k,g.a,g.b⟩
def bkN(g:Gt) : Int:=if g.k=12 then 7 else 1
def metS(x y:Gt) : Bool:=(usedS [x]).any fun q=>(usedS [y]).any fun z=>z==q
def nextC(g:Gt) : List Gt→Nat→Nat
 | [],j=>j
 | h::l,j=>if metS g h=true then j else nextC g l (j+1)
def canJ(g:Gt)(gs:List Gt)(i:Nat) : Nat:=nextC g (gs.drop (i+1)) (i+1)
def canR(gs:List Gt)(i j:Nat) : Rp:=⟨i,(gs.take (j+1)).drop i,(gs.take j).drop (i+1)⟩
def canB(g:Gt)(gs:List Gt)(i j:Nat) : Bool:=g.k != 12&&(decide ((j:Int)<(gs.length:Int))&&(decide ((j:Int)-(i:Int)<40)&&decide (gs[j]? = some (bkG g))))
def canAt(gs:List Gt)(i:Nat) : Option Rp:=match gs[i]? with
 | none=>none
 | some g=>if canB g gs i (canJ g gs i)=true then some (canR gs i (canJ g gs i)) else none
def canF(gs:List Gt) : Nat→Option Rp
 | 0=>none
 | n+1=>match canF gs n with
  | some r=>some r
  | none=>canAt gs n
def canS(gs:List Gt) : Option Rp:=canF gs gs.length
def rpZ:Rp:=⟨0,[],[]⟩
theorem DeepR.nil(w:World)(B:Nat)(E:TypeId) : DeepR w B E []:=fun s hs=>by simp at hs
theorem DeepR.snoc{w:World}{B:Nat}{E:TypeId}{l:List Sr}{x:Sr}(h:DeepR w B E l)(h1:Rd w B E encG x.A x.old)(h2:Rd w B E encG x.B x.new) : DeepR w B E (l++[x]):=fun s hs=>by
 rcases Qu.1 hs with hs|hs
 ·exact h s hs
 ·rw [Qm] at hs
  subst hs
  exact ⟨h1,h2⟩
section
variable {P : Program} {a : Act} {w : World} {n : Nat} {e : Env} {ty : TypeId} {pos : String} {af : Array Edge} {g : Option (Nat × Bool)} {d : Option Tmp}
end
theorem Xdr(g:Gt) : ∀ (l:List Gt) (j:Nat),j≤nextC g l j
 | [],j=>Qb _
 | h::l,j=>by
  unfold nextC
  split
  ·exact Qb _
  ·exact Q0 (Nat.le_succ j) (Xdr g l (j+1))
theorem Xb6{gs:List Gt}{r:Rp} : ∀ n,canF gs n=some r→∃ i,i<n∧canAt gs i=some r
 | 0,h=>by cases h
 | n+1,h=>by
  unfold canF at h
  split at h
  ·rename_i r' h1
   injection h with h
   subst h
   obtain ⟨i,h2,h3⟩:=Xb6 n h1;exact ⟨i,by omega,h3⟩
  ·exact ⟨n,by omega,h⟩
theorem Xla{gs:List Gt}{r:Rp}(h:canS gs=some r) : ∃ i j g,gs[i]? = some g∧gs[j]? = some (bkG g)∧g.k≠12∧i<j∧j<gs.length∧j<i+40∧j=canJ g gs i∧r=canR gs i j:=by
 obtain ⟨i,hi,h1⟩:=Xb6 _ h
 unfold canAt at h1
 split at h1
 ·cases h1
 ·rename_i g hg
  split at h1
  ·rename_i hb
   injection h1 with h1
   unfold canB at hb
   simp only [Qd,bne_iff_ne,Qr] at hb
   have:=Xdr g (gs.drop (i+1)) (i+1)
   exact ⟨i,canJ g gs i,g,hg,hb.2.2.2,hb.1,by unfold canJ;omega,by omega,by omega,rfl,h1.symm⟩
  ·cases h1
theorem Xwh{n:Int}{gs:List Gt}{r:Rp}(hc:cOk ⟨n,gs⟩=true)(h:canS gs=some r) :
  ∃ d,applyS ⟨n,gs⟩ r=some d∧d.n=n∧cOk d=true∧d.gs.length+2=gs.length∧r.old.length≤41∧r.new.length≤41:=by
 obtain ⟨i,j,g,hi,hj,hk,hij,hjl,h40,_,rfl⟩:=Xla h;obtain ⟨hn,hl,hg⟩:=X14 hc
 dsimp only at hn hl hg
 have lo:(canR gs i j).old.length=j+1-i:=by simp [canR];omega
 have ln:(canR gs i j).new.length=j-i-1:=by simp [canR];omega
 have e2:((gs.take ((canR gs i j).pos.toNat+(canR gs i j).old.length)).drop (canR gs i j).pos.toNat)=(canR gs i j).old:=by
  rw [lo]
  show (gs.take ((i:Int).toNat+(j+1-i))).drop (i:Int).toNat=(gs.take (j+1)).drop i
  rw [Qj,show i+(j+1-i)=j+1 by omega]
 have mo:∀ x ∈ (canR gs i j).old,gOk n x=true:=fun x hx=>hg x (Wd (List.mem_of_mem_drop hx))
 have mn:∀ x ∈ (canR gs i j).new,gOk n x=true:=fun x hx=>hg x (Wd (List.mem_of_mem_drop hx))
 have hv:validS n (canR gs i j)=true:=by
  unfold validS
  simp only [Qd,X01,Qr,Bool.not_eq_true',W7,lo,ln]
  refine ⟨⟨⟨hn,?_⟩,⟨fun x hx=>by simp [mo x hx],by omega⟩⟩,⟨fun x hx=>by simp [mn x hx],by omega⟩⟩
  show 0≤(i:Int)∧(i:Int)≤400
  omega
 have hf:fitS ⟨n,gs⟩ (canR gs i j)=true:=by
  unfold fitS
  rw [hv,lo,ln]
  simp only [Qw,Qd,Qr]
  constructor
  ·show (i:Int)+((j+1-i:Nat) : Int)≤(gs.length:Int)
   omega
  ·omega
 have ha:=X8c hf e2;have hk2:=(X9v hc).2 _ ha
 refine ⟨_,ha,hk2.2.1,hk2.1,?_,by omega,by omega⟩
 show (gs.take (canR gs i j).pos.toNat++(canR gs i j).new++gs.drop ((canR gs i j).pos.toNat+(canR gs i j).old.length)).length+2=_
 rw [Qh,Qh,ln,lo,Qn,List.length_drop]
 show min (i:Int).toNat gs.length+(j-i-1)+(gs.length-((i:Int).toNat+(j+1-i)))+2=gs.length
 rw [Qj]
 omega
def canRun(n:Int) : Nat→List Gt→List Rp×Cx
 | 0,gs=>([],⟨n,gs⟩)
 | k+1,gs=>match canS gs with
  | none=>([],⟨n,gs⟩)
  | some r=>(r::(canRun n k ((applyS ⟨n,gs⟩ r).getD cZ).gs).1,(canRun n k ((applyS ⟨n,gs⟩ r).getD cZ).gs).2)
def canC(c:Cx) : Cx×List Rp×Cx:=if cOk c=true then (c,canRun c.n c.gs.length c.gs) else (cZ,[],cZ)
theorem Xfx{n:Int}{gs:List Gt}(h:canS gs=none) : ∀ k,canRun n k gs=([],⟨n,gs⟩)
 | 0=>rfl
 | k+1=>by unfold canRun;rw [h]
theorem Xg0{n:Int}{gs:List Gt}{r:Rp}(h:canS gs=some r)(k:Nat) : canRun n (k+1) gs=(r::(canRun n k ((applyS ⟨n,gs⟩ r).getD cZ).gs).1,(canRun n k ((applyS ⟨n,gs⟩ r).getD cZ).gs).2):=by
 conv=>lhs;unfold canRun
 rw [h]
structure CanI (c:Cx) (l:List Sr) (d:Cx) (k:Nat) : Prop where
 run:canRun c.n c.gs.length c.gs=(l.map Sr.rp++(canRun c.n k d.gs).1,(canRun c.n k d.gs).2)
 ok:cOk d=true
 n:d.n=c.n
 le:d.gs.length≤k
 len:l.length+d.gs.length≤c.gs.length
 small:∀ s ∈ l,s.old.length≤41∧s.new.length≤41
theorem CanI.next{c d:Cx}{l:List Sr}{k:Nat}(h:CanI c l d k){r:Rp}(hr:canS d.gs=some r){s:Sr}(hs:s.rp=r) : ∃ k',k=k'+1∧CanI c (l++[s]) ((applyS d r).getD cZ) k':=by
 have hd:d=⟨c.n,d.gs⟩:=by cases d;have:=h.n;simp only at this;rw [this]
 have hok:=h.ok
 rw [hd] at hok
 obtain ⟨e,he,e1,e2,e3,e4,e5⟩:=Xwh hok hr;have hle:=h.le
 obtain ⟨k',rfl⟩ : ∃ k',k=k'+1:=⟨k-1,by omega⟩
 have hd2:applyS d r=some e:=by rw [hd];exact he
 refine ⟨k',rfl,?_⟩
 rw [hd2,Qq]
 have hrun:=h.run
 rw [Xg0 hr k',he,Qq] at hrun
 refine ⟨?_,e2,e1,by omega,by have:=h.len;simp;omega,fun x hx=>?_⟩
 ·rw [hrun,List.map_append,Qx]
  simp [hs]
 ·rcases Qu.1 hx with hx|hx
  ·exact h.small x hx
  ·rw [Qm] at hx
   subst hx
   subst hs
   exact ⟨e4,e5⟩
theorem CanI.done{c d:Cx}{l:List Sr}{k:Nat}(h:CanI c l d k)(hc:cOk c=true)(hn:canS d.gs=none) : canC c=(c,l.map Sr.rp,d):=by
 unfold canC
 rw [Q4 hc,h.run,Xfx hn k,List.append_nil]
 have:=h.n
 cases d
 simp only at this
 rw [this]
theorem DeepR.drop{w:World}{B:Nat}{E:TypeId}{l:List Sr}(h:DeepR w B E l)(k:Nat) : DeepR w B E (l.drop k):=fun s hs=>h s (List.mem_of_mem_drop hs)
section
variable {P : Program} {a : Act} {w : World} {n : Nat} {e : Env} {ty : TypeId} {pos : String} {af : Array Edge} {g : Option (Nat × Bool)} {d : Option Tmp}
variable {t t' : TypeId} {x y : Operand} {i j k : Int}
end
def isTk(k:Int) : Bool:=k==7||k==8
def tcN(l:List Gt) : Nat:=l.countP fun g=>isTk g.k
theorem Xqa{l:List Gt}{k:Nat}{u:Gt}(h:l[k]? = some u) : (tcN (l.take (k+1)) : Int)=(tcN (l.take k) : Int)+(if isTk u.k=true then 1 else 0):=by
 obtain ⟨h1,h2⟩:=Qg.1 h
 unfold tcN
 rw [Wf h1,h2,List.countP_append,List.countP_singleton]
 split<;>simp
theorem Xye(l:List Gt) : tcN l≤l.length:=List.countP_le_length
theorem Rd.nil_of{α:Type}{w:World}{B:Nat}{E:TypeId}{enc:α→List Value}{A:Option Addr}{l:List α}(h:Rd w B E enc A l)(ha:A.isNone=true) : l=[]:=by
 by_cases hl:l=[]
 ·exact hl
 ·obtain ⟨b,off,cs,fz,h1,_⟩:=h hl
  rw [h1] at ha
  cases ha
section
variable {P : Program} {a : Act} {w : World} {n : Nat} {e : Env} {ty : TypeId} {pos : String} {af : Array Edge} {g : Option (Nat × Bool)} {d : Option Tmp}
theorem Xfe{t t' E:TypeId}{x y:Operand}{A:Option Addr}{m c m' c':Nat}(hf:Fr a n e)(hx:ev e x=some (.slice A m c))(hy:ev e y=some (.slice none m' c'))(hT:SliceT P t E) : Ev P ⟨d,.binOp .eql t x y t',ty,pos,af,g⟩ a w (.bool A.isNone):=fun w' _=>by
 have h1:=Lib.run_eql_slice_nil (P:=P) w' t E A m c m' c' hT
 simp [execOp,hf.ev hx,hf.ev hy,eqGuard,h1]
theorem Xkp{t t' E:TypeId}{x y:Operand}{A:Option Addr}{m c m' c':Nat}(hx:ev e x=some (.slice A m c))(hy:ev e y=some (.slice none m' c'))(hT:SliceT P t E) : EvW P ⟨d,.binOp .eql t x y t',ty,pos,af,g⟩ n e w (.bool A.isNone):=fun a hf=>Xfe hf hx hy hT
end
end Go.Proofs.YtblmmikapnflcaaGreatDoor
namespace Go.Proofs.YtblmmikapnflcaaGreatDoor
def xb(β m:Nat→Bool) : Nat→Bool:=fun p=>β p != m p
def msk(g:Gt)(β:Nat→Bool) : Nat→Bool:=fun p=>
 if g.k=9 then decide (p=g.b.toNat)&&β g.a.toNat
 else if g.k=11 then (decide (p=g.a.toNat)||decide (p=g.b.toNat))&&(β g.a.toNat != β g.b.toNat)
 else false
def oneK(k:Int) : Bool:=decide (k≠12∧¬ (9≤k∧k≤11))
def flp(g:Gt) : Nat→Bool:=fun p=>oneK g.k&&decide (p=g.a.toNat)
def c0(g:Gt)(β:Nat→Bool) : Rg:=
 if g.k=12 then om else if g.k=9 then 1 else if g.k=10 then (if β g.a.toNat&&β g.b.toNat then om^4 else 1) else if g.k=11 then 1 else u1 g.k (β g.a.toNat) (β g.a.toNat)
def c1(g:Gt)(β:Nat→Bool) : Rg:=if oneK g.k=true then u1 g.k (β g.a.toNat) (!β g.a.toNat) else 0
theorem Xdg(β m:Nat→Bool)(h:∀ p,m p=false) : xb β m=β:=by
 funext p;unfold xb;rw [h];cases β p<;>rfl
theorem X78(β:Nat→Bool)(q:Nat) : flipB β q=xb β fun p=>decide (p=q):=by
 funext p
 unfold flipB xb
 by_cases e:p=q<;>simp [e]
theorem Xsu{k:Int}(h12:k≠12)(h9:¬ (9≤k∧k≤11)) : oneK k=true:=decide_eq_true ⟨h12,h9⟩
theorem X90{k:Int}(h:k=12∨(9≤k∧k≤11)) : oneK k=false:=decide_eq_false (by omega)
def TwoQ(g:Gt) : Prop:=9≤g.k∧g.k≤11→g.a.toNat≠g.b.toNat
theorem Xm9{g:Gt}(ht:TwoQ g)(v:St)(β:Nat→Bool) : act g v β=c0 g β*v (xb β (msk g β))+c1 g β*v (xb β (flp g)):=by
 unfold act
 by_cases h12:g.k=12
 ·rw [Q4 h12,Xdg β (msk g β) fun p=>by unfold msk;rw [Q3 (by omega),Q3 (by omega)]]
  unfold c0 c1
  rw [Q4 h12,X90 (by omega),Q3 Bool.false_ne_true]
  simp only [Xu,Xx,Xp,X08,Xz,X03,X09,X0c,Xd,Xh,Xt,Xv,Xi,Xy]
 ·rw [Q3 h12]
  by_cases h9:g.k=9
  ·rw [Q4 h9]
   have e:(if β g.a.toNat then flipB β g.b.toNat else β)=xb β (msk g β):=by
    funext p
    unfold msk xb
    dsimp only
    rw [Q4 h9]
    cases β g.a.toNat
    ·simp
    ·rw [Q4 rfl]
     unfold flipB
     by_cases e:p=g.b.toNat<;>simp [e]
   rw [e]
   unfold c0 c1
   rw [Q3 h12,Q4 h9,X90 (by omega),Q3 Bool.false_ne_true]
   simp only [Xu,Xx,Xp,X08,Xz,X03,X09,X0c,Xd,Xh,Xt,Xv,Xi,Xy]
  ·rw [Q3 h9]
   by_cases h10:g.k=10
   ·rw [Q4 h10,Xdg β (msk g β) fun p=>by unfold msk;rw [Q3 (by omega),Q3 (by omega)]]
    unfold c0 c1
    rw [Q3 h12,Q3 h9,Q4 h10,X90 (by omega),Q3 Bool.false_ne_true]
    simp only [Xu,Xx,Xp,X08,Xz,X03,X09,X0c,Xd,Xh,Xt,Xv,Xi,Xy]
   ·rw [Q3 h10]
    by_cases h11:g.k=11
    ·rw [Q4 h11]
     have hab:=ht (by omega)
     have e:(if β g.a.toNat=β g.b.toNat then β else flipB (flipB β g.a.toNat) g.b.toNat)=xb β (msk g β):=by
      funext p
      unfold msk xb
      dsimp only
      rw [Q3 h9,Q4 h11]
      by_cases e0:β g.a.toNat=β g.b.toNat
      ·rw [Q4 e0,e0];simp
      ·rw [Q3 e0]
       have e1:(β g.a.toNat != β g.b.toNat)=true:=by simpa using e0
       rw [e1]
       unfold flipB
       by_cases e2:p=g.b.toNat
       ·subst e2
        rw [Q4 rfl,Q3 (fun h=>hab h.symm)]
        simp
       ·rw [Q3 e2]
        by_cases e3:p=g.a.toNat<;>simp [e2,e3]
     rw [e]
     unfold c0 c1
     rw [Q3 h12,Q3 h9,Q3 h10,Q4 h11,X90 (by omega),Q3 Bool.false_ne_true]
     simp only [Xu,Xx,Xp,X08,Xz,X03,X09,X0c,Xd,Xh,Xt,Xv,Xi,Xy]
    ·rw [Q3 h11]
     have ho:=Xsu h12 (by omega)
     have e:flipB β g.a.toNat=xb β (flp g):=by
      rw [X78]
      congr 1
      funext p
      unfold flp
      rw [ho];simp
     rw [Xdg β (msk g β) fun p=>by unfold msk;rw [Q3 h9,Q3 h11],e]
     unfold c0 c1
     rw [Q3 h12,Q3 h9,Q3 h10,Q3 h11,ho,Q4 rfl]
def Sup(g:Gt)(q:Nat) : Prop:=(g.k≠12∧q=g.a.toNat)∨((9≤g.k∧g.k≤11)∧q=g.b.toNat)
def Dis(g h:Gt) : Prop:=∀ q,Sup g q→¬ Sup h q
theorem Dis.symm{g h:Gt}(hd:Dis g h) : Dis h g:=fun q h1 h2=>hd q h2 h1
theorem Xs5(β m m':Nat→Bool) : xb (xb β m) m'=xb (xb β m') m:=by
 funext p;unfold xb;cases β p<;>cases m p<;>cases m' p<;>rfl
def bkK(k:Int) : Int:=if k=5∨k=7 then k+1 else if k=6∨k=8 then k-1 else k
theorem Xqu{k:Int}(h:1≤k∧k≤8)(x:Bool) : u1 (bkK k) x x*u1 k x x+u1 (bkK k) x (!x)*u1 k (!x) x=(if k=1 then 2 else 1)∧u1 (bkK k) x x*u1 k x (!x)+u1 (bkK k) x (!x)*u1 k (!x) (!x)=0:=by
 have:k=1∨k=2∨k=3∨k=4∨k=5∨k=6∨k=7∨k=8:=by omega
 rcases this with rfl|rfl|rfl|rfl|rfl|rfl|rfl|rfl<;>cases x<;>exact ⟨by rfl,by rfl⟩
theorem X5o(β:Nat→Bool)(q:Nat) : flipB (flipB β q) q=β:=by
 funext p
 unfold flipB
 by_cases e:p=q<;>simp [e]
theorem X7o(β:Nat→Bool)(q:Nat) : flipB β q q = !β q:=by simp [flipB]
theorem Xcz(β:Nat→Bool){p q:Nat}(h:p≠q) : flipB β q p=β p:=by unfold flipB;rw [Q3 h]
theorem Xjz(β:Nat→Bool)(p q:Nat) : flipB (flipB β p) q=flipB (flipB β q) p:=by
 rw [X78,X78,X78,X78,Xs5]
theorem Xyi(g:Gt) : (bkG g).k=bkK g.k:=rfl
theorem Xyu(g:Gt) : (bkG g).a=g.a:=rfl
theorem Y0m(g:Gt) : (bkG g).b=g.b:=rfl
theorem Xri{g:Gt}(ht:TwoQ g)(hk:1≤g.k∧g.k≤11)(v:St)(β:Nat→Bool) : act (bkG g) (act g v) β=(if g.k=1 then 2 else 1)*v β:=by
 unfold act
 rw [Xyi,Xyu,Y0m]
 by_cases h8:g.k≤8
 ·have hb:bkK g.k≤8∧1≤bkK g.k:=by unfold bkK;split<;>(try split)<;>omega
  rw [Q3 (by omega),Q3 (by omega),Q3 (by omega),Q3 (by omega)]
  rw [Q3 (by omega),Q3 (by omega),Q3 (by omega),Q3 (by omega),Q3 (by omega),Q3 (by omega),Q3 (by omega),Q3 (by omega)]
  rw [X7o,X5o,Bool.not_not]
  obtain ⟨e1,e2⟩:=Xqu (k:=g.k) (by omega) (β g.a.toNat)
  generalize u1 (bkK g.k) (β g.a.toNat) (β g.a.toNat)=A at *
  generalize u1 (bkK g.k) (β g.a.toNat) (!β g.a.toNat)=B at *
  generalize u1 g.k (β g.a.toNat) (β g.a.toNat)=C at *
  generalize u1 g.k (β g.a.toNat) (!β g.a.toNat)=D at *
  generalize u1 g.k (!β g.a.toNat) (β g.a.toNat)=E at *
  generalize u1 g.k (!β g.a.toNat) (!β g.a.toNat)=F at *
  rw [← e1]
  generalize v β=x
  generalize v (flipB β g.a.toNat)=y
  have h9:A*(C*x+D*y)+B*(F*y+E*x)=(A*C+B*E)*x+(A*D+B*F)*y:=by simp only [Xu,Xx,Xp,X08,Xz,X03,X09,X0c,Xd,Xh,Xt,Xv,Xi,Xy]
  rw [h9,e2,Xu,Xz]
 ·have hb:bkK g.k=g.k:=by unfold bkK;rw [Q3 (by omega),Q3 (by omega)]
  have hab:=ht (by omega)
  have h12:¬ g.k=12:=by omega
  have h1:¬ g.k=1:=by omega
  by_cases h9:g.k=9
  ·simp only [hb,h12,h1,Q4 h9,if_false]
   cases hA:β g.a.toNat
   ·rw [Q3 Bool.false_ne_true]
    rw [hA,Q3 Bool.false_ne_true]
    simp only [Xu,Xx,Xp,X08,Xz,X03,X09,X0c,Xd,Xh,Xt,Xv,Xi,Xy]
   ·rw [Q4 rfl]
    rw [Xcz β hab,hA,Q4 rfl,X5o]
    simp only [Xu,Xx,Xp,X08,Xz,X03,X09,X0c,Xd,Xh,Xt,Xv,Xi,Xy]
  ·by_cases h10:g.k=10
   ·simp only [hb,h12,h9,h1,Q4 h10,if_false]
    have:om^4*om^4=(1:Rg):=by rfl
    split
    ·rw [← Xd,this]
    ·rw [Xp]
   ·have h11:g.k=11:=by omega
    simp only [hb,h12,h9,h10,h1,Q4 h11,if_false]
    by_cases e:β g.a.toNat=β g.b.toNat
    ·rw [Q4 e,Q4 e]
     simp only [Xu,Xx,Xp,X08,Xz,X03,X09,X0c,Xd,Xh,Xt,Xv,Xi,Xy]
    ·rw [Q3 e]
     have e1:flipB (flipB β g.a.toNat) g.b.toNat g.a.toNat = !β g.a.toNat:=by rw [Xcz _ hab,X7o]
     have e2:flipB (flipB β g.a.toNat) g.b.toNat g.b.toNat = !β g.b.toNat:=by rw [X7o,Xcz _ (fun h=>hab h.symm)]
     rw [e1,e2,Q3 (by revert e;cases β g.a.toNat<;>cases β g.b.toNat<;>simp)]
     rw [Xjz (flipB (flipB β g.a.toNat) g.b.toNat),X5o,X5o]
     simp only [Xu,Xx,Xp,X08,Xz,X03,X09,X0c,Xd,Xh,Xt,Xv,Xi,Xy]
theorem Xvo:s2^2=(2:Rg):=by rfl
def qN(z:Rg) : Int:=z.a*z.a+z.b*z.b+z.c*z.c+z.d*z.d
theorem X6v(x:Int) : 0≤x*x:=by
 have:=Int.natAbs_mul_self (a:=x)
 omega
theorem Xnv(z:Rg) : 0≤qN z:=by
 have h1:=X6v z.a;have h2:=X6v z.b;have h3:=X6v z.c;have h4:=X6v z.d
 unfold qN
 omega
theorem Y02(z:Rg) : qN (s2*z)=2*qN z:=by
 rw [X9f]
 unfold qN
 dsimp only
 grind
theorem Xz8(z:Rg) : qN (om*z)=qN z:=by
 rw [Xlu]
 unfold qN
 dsimp only
 grind
theorem Xmt:∀ (k:Nat) (z:Rg),qN (om^k*z)=qN z
 | 0,z=>by rw [X4e,show (1:Rg)*z=z from Xp z]
 | k+1,z=>by rw [X88,show om^k*om*z=om^k*(om*z) from Xd _ _ _,Xmt k,Xz8]
theorem Xpk:∀ (k:Nat) (z:Rg),qN (s2^k*z)=2^k*qN z
 | 0,z=>by rw [X4e,show (1:Rg)*z=z from Xp z];omega
 | k+1,z=>by
  rw [X88,show s2^k*s2*z=s2^k*(s2*z) from Xd _ _ _,Xpk k,Y02,Int.pow_succ]
  grind
theorem Xy0(x y:Rg) : qN (x+y)≤2*qN x+2*qN y:=by
 have h:∀ p q:Int,(p+q)*(p+q)≤2*(p*p)+2*(q*q):=fun p q=>by
  have h1:=X6v (p-q)
  have e:(p-q)*(p-q)=2*(p*p)+2*(q*q)-(p+q)*(p+q):=by grind
  omega
 have h1:=h x.a y.a;have h2:=h x.b y.b;have h3:=h x.c y.c;have h4:=h x.d y.d
 show (x.a+y.a)*(x.a+y.a)+(x.b+y.b)*(x.b+y.b)+(x.c+y.c)*(x.c+y.c)+(x.d+y.d)*(x.d+y.d)≤_
 unfold qN
 omega
theorem Xii{x r:Int}(hr:0≤r)(h:x*x≤r*r) : -r≤x∧x≤r:=by
 have h1:=Int.natAbs_mul_self (a:=x);have h2:=Int.natAbs_mul_self (a:=r)
 have h3:x.natAbs*x.natAbs≤r.natAbs*r.natAbs:=by omega
 have h4:x.natAbs≤r.natAbs:=by
  rcases W4 r.natAbs x.natAbs with h5|h5
  ·exact absurd (Nat.mul_lt_mul'' h5 h5) (Nat.not_lt.2 h3)
  ·exact h5
 omega
def Cb(K:Int)(z:Rg) : Prop:=(-K≤z.a∧z.a≤K)∧(-K≤z.b∧z.b≤K)∧(-K≤z.c∧z.c≤K)∧(-K≤z.d∧z.d≤K)
theorem Xtx{r:Int}(hr:0≤r){z:Rg}(h:qN z≤r*r) : Cb r z:=by
 have h1:=X6v z.a;have h2:=X6v z.b;have h3:=X6v z.c;have h4:=X6v z.d
 unfold qN at h
 exact ⟨Xii hr (by omega),Xii hr (by omega),Xii hr (by omega),Xii hr (by omega)⟩
theorem Xhn{x r:Int}(h:-r≤x∧x≤r) : x*x≤r*r:=by
 have h1:=Int.natAbs_mul_self (a:=x);have h2:=Int.natAbs_mul_self (a:=r)
 have:=Nat.mul_le_mul (show x.natAbs≤r.natAbs by omega) (show x.natAbs≤r.natAbs by omega)
 omega
theorem Y06{r:Int}{z:Rg}(h:Cb r z) : qN z≤4*(r*r):=by
 have h1:=Xhn h.1;have h2:=Xhn h.2.1;have h3:=Xhn h.2.2.1;have h4:=Xhn h.2.2.2
 unfold qN
 omega
theorem Xvq{r t:Int}{x y:Rg}(hx:Cb r x)(hy:Cb t y) : Cb (r+t) (x+y):=by
 obtain ⟨⟨a1,a2⟩,⟨a3,a4⟩,⟨a5,a6⟩,⟨a7,a8⟩⟩:=hx;obtain ⟨⟨b1,b2⟩,⟨b3,b4⟩,⟨b5,b6⟩,⟨b7,b8⟩⟩:=hy
 refine ⟨?_,?_,?_,?_⟩
 ·show -(r+t)≤x.a+y.a∧x.a+y.a≤r+t;omega
 ·show -(r+t)≤x.b+y.b∧x.b+y.b≤r+t;omega
 ·show -(r+t)≤x.c+y.c∧x.c+y.c≤r+t;omega
 ·show -(r+t)≤x.d+y.d∧x.d+y.d≤r+t;omega
def BB:Int:=1000000000000000000
theorem Xc9{z:Rg}(h:qN z≤BB) : rOk z=true:=by
 obtain ⟨h1,h2,h3,h4⟩:=Xtx (r:=1000000000) (by decide) (z:=z) (Int.le_trans h (by decide))
 exact X2f.2 ⟨h1,h2,h3,h4⟩
theorem X6l(k:Nat) : (1:Int)≤2^k:=by
 induction k with
 | zero=>decide
 | succ k ih=>rw [Int.pow_succ];omega
theorem Xtj{k:Nat}{x:Int}(h:0≤x) : x≤2^k*x:=by
 have:=Int.mul_le_mul_of_nonneg_right (X6l k) h
 omega
theorem X8q{j i:Nat}{y z:Rg}(hz:z=s2^j*y)(hi:i≤j) : qN (s2^i*y)≤qN z:=by
 rw [hz,show j=(j-i)+i by omega,X1t,show s2^(j-i)*s2^i*y=s2^(j-i)*(s2^i*y) from Xd _ _ _,Xpk (j-i)]
 exact Xtj (Xnv _)
def Un(z:Rg) : Prop:=z=0∨∃ j:Nat,z=om^j
theorem Xhl{z w:Rg}(h:Un z) : qN (z*w)≤qN w:=by
 rcases h with rfl|⟨j,rfl⟩
 ·rw [show (0:Rg)*w=0 from Xu w]
  have:qN 0=0:=rfl
  have:=Xnv w
  omega
 ·rw [Xmt];exact Int.le_refl _
theorem X44:Un 0:=.inl rfl
theorem X9m(j:Nat) : Un (om^j):=.inr ⟨j,rfl⟩
theorem X7u:Un 1:=.inr ⟨0,rfl⟩
theorem Xxi:Un (-1):=.inr ⟨4,by rfl⟩
theorem Xoc(k:Int)(x y:Bool) : Un (u1 k x y):=by
 unfold u1
 split
 ·split
  ·exact Xxi
  ·exact X7u
 ·split
  ·split
   ·exact X44
   ·exact X7u
  ·split
   ·split
    ·exact X44
    ·split
     ·exact X9m 6
     ·exact X9m 2
   ·split
    ·split
     ·exact X9m _
     ·exact X7u
    ·exact X44
theorem Y24(g:Gt)(β:Nat→Bool) : Un (c0 g β)∧Un (c1 g β):=by
 constructor
 ·unfold c0
  split
  ·exact X9m 1
  ·split
   ·exact X7u
   ·split
    ·split
     ·exact X9m 4
     ·exact X7u
    ·split
     ·exact X7u
     ·exact Xoc _ _ _
 ·unfold c1
  split
  ·exact Xoc _ _ _
  ·exact X44
theorem Xxf(g:Gt)(hk:1≤g.k∧g.k≤12)(β:Nat→Bool) : g.k=1∨c0 g β=0∨c1 g β=0:=by
 by_cases h1:g.k=1
 ·exact .inl h1
 ·right
  by_cases ho:oneK g.k=true
  ·have h:=Q2 ho
   have h9:¬ g.k=9:=by omega
   have h10:¬ g.k=10:=by omega
   have h11:¬ g.k=11:=by omega
   unfold c0 c1
   rw [Q3 h.1,Q3 h9,Q3 h10,Q3 h11,Q4 ho]
   unfold u1
   rw [Q3 h1,Q3 h1]
   by_cases h2:g.k=2
   ·left;rw [Q4 h2,Q4 rfl]
   ·rw [Q3 h2,Q3 h2]
    by_cases h3:g.k=3
    ·left;rw [Q4 h3,Q4 rfl]
    ·right
     rw [Q3 h3,Q3 (by cases β g.a.toNat<;>simp)]
  ·right
   unfold c1
   rw [Q3 ho]
theorem Xw9{g:Gt}(ht:TwoQ g)(hk:1≤g.k∧g.k≤12){v:St}{R:Int}(hv:∀ β,qN (v β)≤R)(β:Nat→Bool) : qN (act g v β)≤4^hN g*R:=by
 rw [Xm9 ht]
 obtain ⟨u0,u1⟩:=Y24 g β
 have b0:=Int.le_trans (Xhl (w:=v (xb β (msk g β))) u0) (hv _)
 have b1:=Int.le_trans (Xhl (w:=v (xb β (flp g))) u1) (hv _)
 have hR:0≤R:=Int.le_trans (Xnv _) (hv β)
 by_cases h1:g.k=1
 ·have:=Xy0 (c0 g β*v (xb β (msk g β))) (c1 g β*v (xb β (flp g)))
  unfold hN
  rw [Q4 h1,show (4:Int)^1=4 from rfl]
  omega
 ·unfold hN
  rw [Q3 h1,show (4:Int)^0=1 from rfl]
  rcases Xxf g hk β with h|h|h
  ·exact absurd h h1
  ·rw [h,show (0:Rg)*v (xb β (msk g β))+c1 g β*v (xb β (flp g))=c1 g β*v (xb β (flp g)) by simp only [Xu,Xx,Xp,X08,Xz,X03,X09,X0c,Xd,Xh,Xt,Xv,Xi,Xy]]
   omega
  ·rw [h,show c0 g β*v (xb β (msk g β))+(0:Rg)*v (xb β (flp g))=c0 g β*v (xb β (msk g β)) by simp only [Xu,Xx,Xp,X08,Xz,X03,X09,X0c,Xd,Xh,Xt,Xv,Xi,Xy]]
   omega
theorem Xmu{n:Int}{g:Gt}(h:gOk n g=true) : TwoQ g∧(1≤g.k∧g.k≤12):=by
 obtain ⟨_,hk,ha,hb⟩:=X1i h
 refine ⟨fun h9=>?_,by omega⟩
 have h1:=ha (by omega)
 have h2:=hb h9
 omega
theorem Xjy{x y:Dy}{m n:Nat}{z z':Rg}(hx:V x m z)(hy:V y n z')(ox:dOk x=true)(oy:dOk y=true)(he:m+n≤60)(hb:qN (z*z')≤BB) : ∃ w,dMulI x y=some w:=by
 have k1:=X2e ox
 have k2:=X2e oy
 obtain ⟨_,j,h1,h2⟩:=hx;obtain ⟨_,l,h3,h4⟩:=hy
 have e:z*z'=s2^(j+l)*(x.num*y.num):=by rw [h2,h4,X1t];simp only [Xu,Xx,Xp,X08,Xz,X03,X09,X0c,Xd,Xh,Xt,Xv,Xi,Xy]
 have b:=X8q (i:=0) e (Qf _)
 rw [X4e,show (1:Rg)*(x.num*y.num)=x.num*y.num from Xp _] at b
 have hr:rOk (rMul x.num y.num)=true:=by rw [Xib k1.1 k2.1];exact Xc9 (Int.le_trans b hb)
 have h9:rIf2 (rMul x.num y.num) [x.num,y.num]=true:=by simp [rIf2,hr,k1.1,k2.1]
 unfold dMulI
 rw [Q4 (by rw [ox,oy,h9];rfl)]
 unfold dOf
 unfold rIf1
 rw [Q4 h9,Q4 (by rw [hr];simp only [Qw,X01];omega)]
 exact ⟨_,rfl⟩
theorem X69:∀ (k:Nat) (y:Rg),(∀ i,i≤k→rOk (s2^i*y)=true)→(raiseI k y).2=true
 | 0,y,_=>rfl
 | k+1,y,h=>by
  have h0:=h 0 (Qf _)
  have h1:=h 1 (by omega)
  rw [X4e,show (1:Rg)*y=y from Xp y] at h0
  rw [show s2^1*y=s2*y by rw [X88,X4e,Xp]] at h1
  have e:=X95 h0
  unfold raiseI
  rw [e,Q4 (by simp [rIf2,h0,h1])]
  exact X69 k _ fun i hi=>by
   have:=h (i+1) (by omega)
   rw [X88,show s2^i*s2*y=s2^i*(s2*y) from Xd _ _ _] at this
   exact this
theorem Xkz{x y:Dy}{m:Nat}{z z':Rg}(hx:V x m z)(hy:V y m z')(ox:dOk x=true)(oy:dOk y=true)(bx:qN z≤BB)(b_y:qN z'≤BB)(bs:qN (z+z')≤BB) : ∃ w,dAddI x y=some w:=by
 have k1:=X2e ox
 have k2:=X2e oy
 obtain ⟨_,j,h1,h2⟩:=hx;obtain ⟨_,l,h3,h4⟩:=hy
 have p1:(dRaise x (max x.exp y.exp)).2=true:=X69 _ _ fun i hi=>Xc9 (Int.le_trans (X8q h2 (by omega)) bx)
 have p2:(dRaise y (max x.exp y.exp)).2=true:=X69 _ _ fun i hi=>Xc9 (Int.le_trans (X8q h4 (by omega)) b_y)
 have r1:=X4v _ _ k1.1 p1
 have r2:=X4v _ _ k2.1 p2
 have e0:rAdd (dRaise x (max x.exp y.exp)).1 (dRaise y (max x.exp y.exp)).1=(dRaise x (max x.exp y.exp)).1+(dRaise y (max x.exp y.exp)).1:=Xjv r1.2 r2.2
 obtain ⟨t,ht⟩ : ∃ t:Nat,max x.exp y.exp+t=m:=⟨(m-max x.exp y.exp).toNat,by omega⟩
 have q1:z=s2^t*(dRaise x (max x.exp y.exp)).1:=by
  have:=r1.1
  unfold dRaise
  rw [this,h2,show j=t+(max x.exp y.exp-x.exp).toNat from by omega,X1t]
  simp only [Xu,Xx,Xp,X08,Xz,X03,X09,X0c,Xd,Xh,Xt,Xv,Xi,Xy]
 have q2:z'=s2^t*(dRaise y (max x.exp y.exp)).1:=by
  have:=r2.1
  unfold dRaise
  rw [this,h4,show l=t+(max x.exp y.exp-y.exp).toNat from by omega,X1t]
  simp only [Xu,Xx,Xp,X08,Xz,X03,X09,X0c,Xd,Xh,Xt,Xv,Xi,Xy]
 have q3:z+z'=s2^t*((dRaise x (max x.exp y.exp)).1+(dRaise y (max x.exp y.exp)).1):=by rw [q1,q2];simp only [Xu,Xx,Xp,X08,Xz,X03,X09,X0c,Xd,Xh,Xt,Xv,Xi,Xy]
 have b:=X8q (i:=0) q3 (Qf _)
 rw [X4e,show (1:Rg)*((dRaise x (max x.exp y.exp)).1+(dRaise y (max x.exp y.exp)).1)=(dRaise x (max x.exp y.exp)).1+(dRaise y (max x.exp y.exp)).1 from Xp _,← e0] at b
 have hr:=Xc9 (Int.le_trans b bs)
 have h9:rIf2 (rAdd (dRaise x (max x.exp y.exp)).1 (dRaise y (max x.exp y.exp)).1) [(dRaise x (max x.exp y.exp)).1,(dRaise y (max x.exp y.exp)).1]=true:=by
  have o1:rOk (dRaise x (max x.exp y.exp)).1=true:=r1.2
  have o2:rOk (dRaise y (max x.exp y.exp)).1=true:=r2.2
  simp [rIf2,hr,o1,o2]
 unfold dAddI
 rw [Q4 (by rw [ox,oy];rfl),Q4 (by rw [p1,p2,h9];rfl)]
 unfold dOf
 unfold rIf1
 rw [Q4 h9,Q4 (by rw [hr];simp only [Qw,X01];omega)]
 exact ⟨_,rfl⟩
theorem Xwz:dOk dZ=true:=by decide
theorem Xb5{a b:Mx}{i j m m':Nat}{za zb:Nat→Rg}{r:Int}(hr:0≤r)(hm:m+m'≤60) : ∀ n,(∀ k,k<n→V (a.at i k) m (za k)∧dOk (a.at i k)=true∧Un (za k))→(∀ k,k<n→V (b.at k j) m' (zb k)∧dOk (b.at k j)=true∧qN (zb k)≤r*r)→
  (n:Int)*r≤500000000→∃ s,dotI a b i j n=some s∧dOk s=true∧Cb (n*r) (sumN (fun k=>za k*zb k) n)
 | 0,_,_,_=>⟨dZ,rfl,Xwz,by unfold Cb sumN;simp;decide⟩
 | n+1,ha,hb,hn=>by
  have hn':((n+1:Nat) : Int)*r=(n:Int)*r+r:=by grind
  rw [hn'] at hn ⊢
  have hnr:0≤(n:Int)*r:=Int.mul_nonneg (by omega) hr
  obtain ⟨s,h1,h2,h3⟩:=Xb5 (a:=a) (b:=b) (i:=i) (j:=j) hr hm n (fun k hk=>ha k (by omega)) (fun k hk=>hb k (by omega)) (by omega)
  obtain ⟨va,oa,ua⟩:=ha n (by omega)
  obtain ⟨vb,ob,rb⟩:=hb n (by omega)
  have hrB:r*r≤BB:=by
   have:=Int.mul_le_mul (show r≤500000000 by omega) (show r≤500000000 by omega) hr (by decide)
   unfold BB
   omega
  have hp:=Int.le_trans (Xhl (w:=zb n) ua) rb;obtain ⟨x,h4⟩:=Xjy va vb oa ob hm (Int.le_trans hp hrB);have hvx:=Xmj h4 va vb
  have hvs:=X8z n (fun k hk=>(ha k (by omega)).1) (fun k hk=>(hb k (by omega)).1) h1
  have hc:Cb ((n:Int)*r+r) (sumN (fun k=>za k*zb k) n+za n*zb n):=Xvq h3 (Xtx hr hp)
  have big:∀ {K:Int} {z:Rg},0≤K→K≤500000000→Cb K z→qN z≤BB:=fun {K z} h0 hK h=>by
   have h5:=Y06 h
   have:=Int.mul_le_mul hK hK h0 (by decide)
   unfold BB
   omega
  obtain ⟨w,h5⟩:=Xkz hvs hvx.1 h2 hvx.2 (big hnr (by omega) h3) (Int.le_trans hp hrB) (big (by omega) (by omega) hc)
  refine ⟨w,?_,(Xu7 h5 hvs hvx.1).2,hc⟩
  rw [dotI,h1,Qz,h4,Qz,h5]
theorem Xir{f:Nat→Option Dy} : ∀ n,(∀ k,k<n→∃ z,f k=some z)→∃ l,seqO f n=some l
 | 0,_=>⟨[],rfl⟩
 | n+1,h=>by
  obtain ⟨l,h1⟩:=Xir n fun k hk=>h k (by omega)
  obtain ⟨z,h2⟩:=h n (by omega)
  exact ⟨_,Xap h1 h2⟩
theorem Xo5{R C:Int}{f:Nat→Nat→Option Dy}(hR:isDimB R=true)(hC:isDimB C=true)(h:∀ i j,i<R.toNat→j<C.toNat→∃ z,f i j=some z) : ∃ M,matOf R C f=some M:=by
 obtain ⟨l,hl⟩:=Xir (f:=gridG f C.toNat) (R.toNat*C.toNat) fun k hk=>by
  have hC0:0<C.toNat:=by have:=X2k hC;omega
  exact h _ _ (Nat.div_lt_of_lt_mul (by rw [Wi];exact hk)) (Nat.mod_lt _ hC0)
 exact ⟨⟨R,C,l⟩,by unfold matOf;rw [Q4 (by rw [hR,hC];rfl),hl];rfl⟩
theorem Y0f{N:Nat}{g:Gt}(i k:Nat) : Un (zc N g i k):=by
 unfold zc
 split
 ·split
  ·exact X9m 1
  ·exact X44
 ·split
  ·split
   ·exact X9m _
   ·exact X44
  ·split
   ·exact Xoc _ _ _
   ·exact X44
theorem Y04(k:Nat) : (4:Int)^k=2^k*2^k:=by
 induction k with
 | zero=>rfl
 | succ k ih=>rw [Int.pow_succ,Int.pow_succ,ih];grind
theorem Xrw{a b:Nat}(h:a≤b) : (2:Int)^a≤2^b:=by
 obtain ⟨c,rfl⟩ : ∃ c,b=a+c:=⟨b-a,by omega⟩
 rw [Int.pow_add]
 have h1:=X6l c;have h2:=X6l a
 have:=Int.mul_le_mul_of_nonneg_left h1 (show 0≤(2:Int)^a by omega)
 omega
theorem Xb0{N C:Nat}(hN5:1≤N∧N≤5) : ∀ (l:List Gt) {m0:Nat} {M0:Mx} {v:Nat→St},(∀ g ∈ l,gOk N g=true)→m0+hs l≤23→mOk M0=true→M0.rows=((2^N:Nat) : Int)→M0.cols=(C:Int)→
  (∀ i j,i<2^N→j<C→V (M0.at i j) m0 (v j (pt N i)))→(∀ j β,qN (v j β)≤4^m0)→∃ M,applI N l M0=some M
 | [],m0,M0,v,_,_,_,_,_,_,_=>⟨M0,rfl⟩
 | g::l,m0,M0,v,hg,hh,hk,hr,hc,h0,hb=>by
  have hg1:=hg g (by simp)
  have hge:=X2y hg1
  have e2:(gateS (N:Int) g).cols.toNat=2^N:=by
   show ((2^(N:Int).toNat:Nat) : Int).toNat=2^N
   rw [Qj,Qj]
  have er:(gateS (N:Int) g).rows=((2^N:Nat) : Int):=by
   show ((2^(N:Int).toNat:Nat) : Int)=_
   rw [Qj]
  have ec:(gateS (N:Int) g).cols=((2^N:Nat) : Int):=by
   show ((2^(N:Int).toNat:Nat) : Int)=_
   rw [Qj]
  have h1:hN g≤1:=by unfold hN;split<;>omega
  rw [hs] at hh
  have hcell:∀ i j,i<2^N→j<C→∃ s,dotI (gateS N g) M0 i j (2^N)=some s:=fun i j hi hj=>by
   have p32:=X8x hN5.2
   have q1:(2:Int)^m0≤2^23:=Xrw (by omega)
   have q2:=X6l m0
   obtain ⟨s,h,_⟩:=Xb5 (a:=gateS N g) (b:=M0) (i:=i) (j:=j) (m:=hN g) (m':=m0) (za:=fun k=>zc N g i k) (zb:=fun k=>v j (pt N k)) (r:=2^m0) (by omega) (by omega) (2^N)
    (fun k hk'=>⟨by rw [X7v hg1 hi hk'];exact Xgx hg1 i k,Mx.at_ok (X21 hge.2) i k,Y0f i k⟩)
    (fun k hk'=>⟨h0 k j hk' hj,Mx.at_ok (X21 hk) k j,by rw [← Y04];exact hb j _⟩)
    (by
     have h5:(((2^N:Nat) : Int))*2^m0≤32*2^m0:=Int.mul_le_mul_of_nonneg_right (by omega) (by omega)
     have h6:(2:Int)^23=8388608:=rfl
     omega)
   exact ⟨s,h⟩
  have hdim:=X52 hk;have hdg:=X52 hge.2
  obtain ⟨M1,hM1⟩ : ∃ M1,mulI (gateS N g) M0=some M1:=by
   unfold mulI
   rw [Q4 (by rw [hge.2,hk,ec,hr];simp),e2]
   refine Xo5 hdg.1 hdim.2 fun i j hi hj=>hcell i j ?_ ?_
   ·rw [er,Qj] at hi;exact hi
   ·rw [hc,Qj] at hj;exact hj
  obtain ⟨q1,q2,q3,q4,_⟩:=Xaw hM1
  have hok1:=((X3u hge.2 hk (by rw [ec,hr])).1 M1 hM1)
  rw [applI,hge.1,Qq,hM1,Qz]
  refine Xb0 hN5 l (m0:=m0+hN g) (v:=fun j=>act g (v j)) (fun g' hg'=>hg g' (by simp [hg'])) (by omega) hok1.2.1 (by rw [q2,er]) (by rw [q3,hc]) (fun i j hi hj=>?_) (fun j β=>?_)
  ·have q1':=q1 i j (by rw [er,Qj];exact hi) (by rw [hc,Qj];exact hj)
   rw [e2] at q1'
   have:=X8z (m:=hN g) (m':=m0) (za:=fun k=>zc N g i k) (zb:=fun k=>v j (pt N k)) (2^N) (fun k hk'=>by rw [X7v hg1 hi hk'];exact Xgx hg1 i k) (fun k hk'=>h0 k j hk' hj) q1'
   rw [Xdb hg1 hi] at this
   rw [Nat.add_comm]
   exact this
  ·have ht:=Xmu hg1
   have:=Xw9 ht.1 ht.2 (hb j) β
   rw [Int.pow_add,Int.mul_comm]
   exact this
theorem Xdh{c:Cx}(hc:cOk c=true)(hh:hs c.gs≤23) : ∃ M,opI c=some M:=by
 obtain ⟨hn,_,hg⟩:=X14 hc
 obtain ⟨N,hN⟩ : ∃ N:Nat,c.n=N:=⟨c.n.toNat,by omega⟩
 rw [hN] at hn hg
 have hd:=X2c (n:=(N:Int)) hn
 rw [Qj] at hd
 obtain ⟨u1,u2⟩:=X38 hd
 have hu:idI (((2^N:Nat)) : Int)=some (unitS (2^N)):=u1
 unfold opI
 rw [Q4 hc,hN,Qj,hu,Qz]
 unfold idI at hu
 obtain ⟨p1,p2,p3,_⟩:=X6y hu
 rw [Qj] at p1
 refine Xb0 (C:=2^N) (by omega) c.gs (m0:=0) (v:=fun j=>eb N j) hg (by omega) u2 p2 p3 (fun i j hi hj=>?_) (fun j β=>?_)
 ·have e:=Option.some.inj (p1 i j hi hj)
  rw [← e,Xny (by omega) hi hj]
  by_cases e2:i=j
  ·rw [Q4 e2,Q4 e2]
   exact Xfl (by decide) (by decide)
  ·rw [Q3 e2,Q3 e2]
   exact X4n 0
 ·unfold eb
  split
  ·exact (by decide:qN 1≤4^0)
  ·exact (by decide:qN 0≤4^0)
theorem Xns:∀ l:List Gt,hs l≤l.length
 | []=>Qb _
 | g::l=>by
  have:=Xns l
  have h1:hN g≤1:=by unfold hN;split<;>omega
  rw [hs,Qs]
  omega
end Go.Proofs.YtblmmikapnflcaaGreatDoor
namespace Go.Proofs.YtblmmikapnflcaaGreatDoor
open Go.RowKit
abbrev En:=Int×Int×Nat
def findI(l:List En)(x:Int) : Option Int:=(l.find? fun p=>p.1==x).map fun p=>p.2.1
structure Pw (l:List En) (clock:Nat) : Prop where
 keys:(l.map fun p=>p.1).Nodup
 borns:(l.map fun p=>p.2.2).Nodup
 old:∀ p ∈ l,p.2.2<clock
def MapF(w:World)(b:Nat)(f:Int→Int) : Prop:=∃ l clock,MapI w b l clock∧Pw l clock∧∀ x,(findI l x).getD 0=f x
def upd(f:Int→Int)(m v:Int) : Int→Int:=fun x=>if x=m then v else f x
section
variable {w w' : World} {b b' : Nat} {f : Int → Int}
theorem MapI.lt{clock:Nat}{l:List En}(h:MapI w b l clock) : b<w.heap.size:=by
 rcases W4 b w.heap.size with h'|h'
 ·exact h'
 ·simp [MapI,We h'] at h
theorem MapF.lt(h:MapF w b f) : b<w.heap.size:=let ⟨_,_,h,_⟩:=h;h.lt
theorem MapF.below(h:MapF w b f)(hb:Below w.heap.size w w') : MapF w' b f:=let ⟨l,c,h,g⟩:=h;⟨l,c,h.below hb,g⟩
theorem MapF.only(h:MapF w b f)(ho:Only b' w w')(hne:b≠b') : MapF w' b f:=let ⟨l,c,h,g⟩:=h;⟨l,c,h.only ho hne,g⟩
theorem MapF.ne{T:TypeId}{cs:List Value}(h:MapF w b f)(hb:Blk w b' T cs) : b≠b':=let ⟨_,_,h,_⟩:=h;h.ne hb
end
theorem Pw.push{l:List En}{clock:Nat}(h:Pw l clock){x v:Int}(hx:∀ q ∈ l,q.1≠x) : Pw (l++[(x,v,clock)]) (clock+1):=by
 refine ⟨?_,?_,fun p hp=>?_⟩
 ·rw [List.map_append,List.nodup_append]
  refine ⟨h.keys,by simp,fun a ha b hb=>?_⟩
  obtain ⟨q,hq,rfl⟩:=W6.1 ha
  simp at hb
  rw [hb]
  exact hx q hq
 ·rw [List.map_append,List.nodup_append]
  refine ⟨h.borns,by simp,fun a ha b hb=>?_⟩
  obtain ⟨q,hq,rfl⟩:=W6.1 ha
  simp at hb
  have:=h.old q hq
  omega
 ·rcases Qu.1 hp with hp|hp
  ·have:=h.old p hp;omega
  ·rw [Qm.1 hp];exact Nat.lt_succ_self _
theorem Pw.drop{l1 l2:List En}{p:En}{clock:Nat}(h:Pw (l1++p::l2) clock) : Pw (l1++l2) clock:=by
 have hs:(l1++l2).Sublist (l1++p::l2):=List.Sublist.append (List.Sublist.refl _) (List.sublist_cons_self _ _)
 exact ⟨h.keys.sublist (hs.map _),h.borns.sublist (hs.map _),fun q hq=>h.old q (hs.subset hq)⟩
theorem Pw.other{l1 l2:List En}{p:En}{clock:Nat}(h:Pw (l1++p::l2) clock) : ∀ q ∈ l2,q.1≠p.1:=by
 have:=h.keys
 rw [List.map_append,List.nodup_append] at this
 have h2:=this.2.1
 rw [List.map_cons,List.nodup_cons] at h2
 intro q hq e;exact h2.1 (W6.2 ⟨q,hq,e⟩)
def NC(w:World)(b:Nat) : Prop:=∀ l T fz,w.heap[b]?≠some (.cells l T fz)
theorem MapF.nc{w:World}{b:Nat}{f:Int→Int}(h:MapF w b f) : NC w b:=fun l T fz e=>by
 obtain ⟨_,_,h,_⟩:=h
 unfold MapI at h
 rw [h] at e;cases e
section
variable {α : Type} {w w' : World} {b B : Nat} {E : TypeId} {enc : α → List Value} {A : Option Addr} {l : List α}
theorem NC.ne{b':Nat}{T:TypeId}{cs:List Value}(h:NC w b)(hb:Blk w b' T cs) : b≠b':=by
 rintro rfl;exact h _ _ _ hb
theorem Blk.onlyN{b':Nat}{T:TypeId}{cs:List Value}(h:Blk w b' T cs)(ho:Only b w w')(hm:NC w b) : Blk w' b' T cs:=h.only ho (Ne.symm (hm.ne h))
theorem Rd.onlyN(h:Rd w B E enc A l)(ho:Only b w w')(hm:NC w b) : Rd w' B E enc A l:=h.chg fun k cs fz _ hk=>ho.block k fun e=>by
 rw [e] at hk;exact hm _ _ _ hk
theorem Own.onlyN{sz c:Nat}(h:Own w B E sz enc A c l)(ho:Only b w w')(hm:NC w b) : Own w' B E sz enc A c l:=by
 refine ⟨h.1,?_⟩
 rcases h.2 with k1|⟨g,cap,cur,k1,k2,k3,k4⟩
 ·exact .inl k1
 ·refine .inr ⟨g,cap,cur,k1,k2,(ho.block g fun e=>?_).trans k3,k4⟩
  rw [e] at k3;exact hm _ _ _ k3
theorem NC.app{sz n c c' b0:Nat}(h:NC w b0)(hlt:b0<w.heap.size)(ho:Own w B E sz enc A c l)(hg:w.grownBy w' (Value.slice A n c').ownBlock) : w'.heap[b0]? = w.heap[b0]?:=by
 refine hg.block b0 hlt fun hk=>?_
 rw [Xd0 A n l.length c' c] at hk
 obtain ⟨_,_,cs,fz,h3⟩:=ho.block hk.symm;exact h _ _ _ h3
theorem MapF.app{sz n c c':Nat}{f:Int→Int}(h:MapF w b f)(ho:Own w B E sz enc A c l)(hg:w.grownBy w' (Value.slice A n c').ownBlock) : MapF w' b f:=by
 have e:=h.nc.app h.lt ho hg
 obtain ⟨l2,cl,hL,hg2⟩:=h;exact ⟨l2,cl,e.trans hL,hg2⟩
end
section
variable {a : Act} {w : World} {n : Nat} {e : Env} {ty : TypeId} {pos : String} {af : Array Edge} {g : Option (Nat × Bool)} {d : Option Tmp} {b : Nat} {f : Int → Int} {T : TypeId}
theorem Xp6{o:Obj} : Only b w { w with heap:=w.heap.setIfInBounds b o }:=⟨rfl,rfl,rfl,by simp,fun k hk=>by
 show (w.heap.setIfInBounds b _)[k]? = _
 rw [Wh (Ne.symm hk)]⟩
end
def MapR(w:World)(b r:Nat)(f:Int→Int)(left:Int→Bool)(cnt:Nat) : Prop:=∃ l clock since seen c0,MapI w b l clock∧Pw l clock∧(∀ x,(findI l x).getD 0=f x)∧
 w.heap[r]? = some (.mapIter (some b) since seen c0)∧(∀ p ∈ l,p.2.2<since)∧since≤c0∧since≤clock∧(leftOf (l.map entI).toArray seen).size=cnt∧
 (∀ p ∈ l,left p.1 = !seen.contains p.2.2)∧(∀ x,left x=true→∃ p ∈ l,p.1=x)
section
variable {w w' : World} {b r : Nat} {f : Int → Int} {left : Int → Bool} {cnt : Nat}
theorem MapR.nc(h:MapR w b r f left cnt) : NC w r:=fun l T fz e=>by
 obtain ⟨_,_,_,_,_,_,_,_,hr,_⟩:=h
 rw [hr] at e;cases e
theorem MapR.mapF(h:MapR w b r f left cnt) : MapF w b f:=let ⟨l,c,_,_,_,h1,h2,h3,_⟩:=h;⟨l,c,h1,h2,h3⟩
theorem MapR.lt(h:MapR w b r f left cnt) : r<w.heap.size:=by
 obtain ⟨_,_,_,_,_,_,_,_,hr,_⟩:=h;exact (Qp.1 hr).1
theorem MapR.ne(h:MapR w b r f left cnt) : b≠r:=by
 rintro rfl;obtain ⟨_,_,_,_,_,hb,_,_,hr,_⟩:=h
 unfold MapI at hb
 rw [hb] at hr;cases hr
theorem MapR.same(h:MapR w b r f left cnt)(hb:w'.heap[b]? = w.heap[b]?)(hr:w'.heap[r]? = w.heap[r]?) : MapR w' b r f left cnt:=
 let ⟨l,c,s,z,c0,h1,h2,h3,h4,h5⟩:=h
 ⟨l,c,s,z,c0,hb.trans h1,h2,h3,hr.trans h4,h5⟩
theorem MapR.below(h:MapR w b r f left cnt)(hE:Below w.heap.size w w') : MapR w' b r f left cnt:=h.same (hE.block b h.mapF.lt) (hE.block r h.lt)
theorem MapR.only{b':Nat}(h:MapR w b r f left cnt)(ho:Only b' w w')(h1:b≠b')(h2:r≠b') : MapR w' b r f left cnt:=h.same (ho.block b h1) (ho.block r h2)
theorem MapR.app{α:Type}{B:Nat}{E:TypeId}{enc:α→List Value}{A:Option Addr}{l:List α}{sz n c c':Nat}(h:MapR w b r f left cnt)(ho:Own w B E sz enc A c l)(hg:w.grownBy w' (Value.slice A n c').ownBlock) : MapR w' b r f left cnt:=
 h.same (h.mapF.nc.app h.mapF.lt ho hg) (h.nc.app h.lt ho hg)
end
section
variable {a : Act} {w : World} {n : Nat} {e : Env} {ty : TypeId} {pos : String} {af : Array Edge} {g : Option (Nat × Bool)} {d : Option Tmp} {b r : Nat} {f : Int → Int} {T : TypeId} {left : Int → Bool} {cnt : Nat}
def EntR(w:World)(r:Nat)(k v:Int) : Prop:=∀ w',Below w.heap.size w w'→(Instr.entry (.pointer (some ⟨r,0,none⟩))).run Tryz.prog w'=.ok (.tuple #[.int .i64 k,.int .i64 v]) w'
def NextR(w:World)(b r:Nat)(f:Int→Int)(left:Int→Bool)(cnt:Nat)(v:Value)(w':World) : Prop:=
 (v=.tuple #[.bool false]∧w'=w∧∀ x,left x=false)∨
 ∃ k cnt',v=.tuple #[.bool true,.int .i64 k,.int .i64 (f k)]∧left k=true∧Only r w w'∧MapR w' b r f (fun x=>left x&&x != k) cnt'∧cnt'<cnt∧
  EntR w' r k (f k)
end
structure Tm where (m c:Int) deriving DecidableEq
structure Af where (m t:Int) deriving DecidableEq
def encT(x:Tm) : List Value:=[.int .i64 x.m,.int .i64 x.c]
def encA(x:Af) : List Value:=[.int .i64 x.m,.int .i64 x.t]
abbrev aV(x:Af) : Value:=.agg #[.int .i64 x.m,.int .i64 x.t]
abbrev uV(x:Tm) : Value:=.agg #[.int .i64 x.m,.int .i64 x.c]
def padd(f:Int→Int)(m k:Int) : Int→Int:=upd f m ((f m+k) % 8)
def PO(f:Int→Int) : Prop:=∀ x,0≤f x∧f x<8
theorem PO.padd{f:Int→Int}(h:PO f)(m k:Int) : PO (padd f m k):=fun x=>by
 unfold Proofs.YtblmmikapnflcaaGreatDoor.padd upd
 split
 ·omega
 ·exact h x
theorem PO.zero:PO (fun _=>0):=fun _=>⟨by show (0:Int)≤0;omega,by show (0:Int)<8;omega⟩
def Rise(T:List Tm) : Prop:=T.Pairwise fun x y=>x.m<y.m
structure IsT (f:Int→Int) (T:List Tm) : Prop where
 rise:Rise T
 mem:∀ t:Tm,t ∈ T↔0<t.m∧t.m<16777216∧t.c=f t.m∧f t.m≠0
theorem Xic:∀ {T U:List Tm},Rise T→Rise U→(∀ t,t ∈ T↔t ∈ U)→T=U
 | [],[],_,_,_=>rfl
 | [],u::U,_,_,h=>absurd ((h u).2 (by simp)) (by simp)
 | t::T,[],_,_,h=>absurd ((h t).1 (by simp)) (by simp)
 | t::T,u::U,hT,hU,h=>by
  unfold Rise at hT hU
  rw [W8] at hT hU
  have htu:t=u:=by
   rcases Qv.1 ((h t).1 (by simp)) with e|e
   ·exact e
   ·rcases Qv.1 ((h u).2 (by simp)) with e'|e'
    ·exact e'.symm
    ·have h1:=hT.1 u e';have h2:=hU.1 t e
     omega
  subst htu
  congr 1
  refine Xic hT.2 hU.2 fun x=>⟨fun hx=>?_,fun hx=>?_⟩
  ·rcases Qv.1 ((h x).1 (Ql _ hx)) with e|e
   ·have:=hT.1 x hx;rw [e] at this;omega
   ·exact e
  ·rcases Qv.1 ((h x).2 (Ql _ hx)) with e|e
   ·have:=hU.1 x hx;rw [e] at this;omega
   ·exact e
def tmN(f:Int→Int) : Nat→List Tm
 | 0=>[]
 | n+1=>if 0<(n:Int)∧f n≠0 then tmN f n++[⟨n,f n⟩] else tmN f n
theorem Xgo(f:Int→Int) : ∀ N:Nat,Rise (tmN f N)∧∀ t:Tm,t ∈ tmN f N↔0<t.m∧t.m<(N:Int)∧t.c=f t.m∧f t.m≠0
 | 0=>⟨List.Pairwise.nil,fun t=>by simp [tmN];omega⟩
 | n+1=>by
  obtain ⟨h1,h2⟩:=Xgo f n
  unfold tmN
  by_cases hn:0<(n:Int)∧f n≠0
  ·rw [Q4 hn]
   refine ⟨?_,fun t=>?_⟩
   ·unfold Rise
    rw [List.pairwise_append]
    refine ⟨h1,List.pairwise_singleton _ _,fun x hx y hy=>?_⟩
    rw [Qm.1 hy]
    exact ((h2 x).1 hx).2.1
   ·rw [Qu,h2,Qm]
    constructor
    ·rintro (⟨a,b,c⟩|rfl)
     ·exact ⟨a,by omega,c⟩
     ·exact ⟨hn.1,by show (n:Int)<_;omega,rfl,hn.2⟩
    ·rintro ⟨a,b,c,d⟩
     by_cases e:t.m=n
     ·right
      obtain ⟨m,c'⟩:=t
      simp only at e c
      rw [c,e]
     ·left
      exact ⟨a,by omega,c,d⟩
  ·rw [Q3 hn]
   refine ⟨h1,fun t=>?_⟩
   rw [h2]
   constructor
   ·rintro ⟨a,b,c⟩;exact ⟨a,by omega,c⟩
   ·rintro ⟨a,b,c,d⟩
    refine ⟨a,?_,c,d⟩
    by_cases e:t.m=n
    ·rw [e] at a d;exact absurd ⟨a,d⟩ hn
    ·omega
@[irreducible] def tms (f:Int→Int) : List Tm:=tmN f 16777216
theorem Xox(f:Int→Int) : IsT f (tms f):=by
 unfold tms
 exact ⟨(Xgo f 16777216).1,(Xgo f 16777216).2⟩
theorem IsT.eq{f:Int→Int}{T:List Tm}(h:IsT f T) : T=tms f:=Xic h.rise (Xox f).rise fun t=>(h.mem t).trans ((Xox f).mem t).symm
def oI(a b:Int) : Int:=bits .or .i64 a b
def exZ(r x y k:Int)(l:List Int)(f:Int→Int) : Nat→Int→Int
 | 0=>f
 | n+1=>padd (exZ r x y k l f n) (oI (oI (oI r x) y) (l.getD n 0)) (4*k)
def exY(r x k:Int)(l:List Int)(f:Int→Int) : Nat→Int→Int
 | 0=>f
 | j+1=>exZ r x (l.getD j 0) k l (padd (exY r x k l f j) (oI (oI r x) (l.getD j 0)) (-2*k)) j
def exX(r k:Int)(l:List Int)(f:Int→Int) : Nat→Int→Int
 | 0=>f
 | i+1=>exY r (l.getD i 0) k l (padd (exX r k l f i) (oI r (l.getD i 0)) k) i
theorem PO.exZ{f:Int→Int}(h:PO f)(r x y k:Int)(l:List Int) : ∀ n,PO (exZ r x y k l f n)
 | 0=>h
 | n+1=>(PO.exZ h r x y k l n).padd _ _
theorem PO.exY{f:Int→Int}(h:PO f)(r x k:Int)(l:List Int) : ∀ n,PO (exY r x k l f n)
 | 0=>h
 | n+1=>((PO.exY h r x k l n).padd _ _).exZ _ _ _ _ _ _
theorem PO.exX{f:Int→Int}(h:PO f)(r k:Int)(l:List Int) : ∀ n,PO (exX r k l f n)
 | 0=>h
 | n+1=>((PO.exX h r k l n).padd _ _).exY _ _ _ _ _
def lows(m:Int) : List Int:=(setN m.toNat).map fun k=>((2^k:Nat) : Int)
def expP(f:Int→Int)(k:Int)(a:Af)(r:Int) : Int→Int:=
 if a.t=1 then exX r (-k) (lows a.m) (padd f r k) (lows a.m).length else exX r k (lows a.m) f (lows a.m).length
theorem PO.expP{f:Int→Int}(h:PO f)(k:Int)(a:Af)(r:Int) : PO (expP f k a r):=by
 unfold Proofs.YtblmmikapnflcaaGreatDoor.expP
 split
 ·exact (h.padd _ _).exX _ _ _ _
 ·exact h.exX _ _ _ _
theorem Vx{P:Program}{o:Oper}{n:Nat}{e:List (Nat×Value)}{w:World}{k:IntKind}{a b:Int}(h:EvW P o n e w (.int k a))(e2:a=b) : EvW P o n e w (.int k b):=e2▸h
end Go.Proofs.YtblmmikapnflcaaGreatDoor
namespace Go.Proofs.YtblmmikapnflcaaGreatDoor
section
variable {G K : Type} [DecidableEq K]
def wds(gs:List G) : Nat→List (List G)
 | 0=>[[]]
 | k+1=>(wds gs k).flatMap fun u=>gs.map fun g=>u++[g]
def skW(gs:List G)(P:List G→Bool) : Nat→List G→Option (List G)
 | 0,p=>if P p then some p else none
 | k+1,p=>gs.findSome? fun g=>skW gs P k (p++[g])
theorem X7l{α β γ:Type}(f:β→Option γ)(h:α→List β)(l:List α) :
  (l.flatMap h).findSome? f=l.findSome? fun a=>(h a).findSome? f:=by
 induction l with
 | nil=>rfl
 | cons a l ih=>simp only [Wc,List.findSome?_append,List.findSome?_cons,ih];cases (h a).findSome? f<;>rfl
theorem Xs8(gs:List G)(k:Nat) : ∀ (F:List G→Option (List G)) (j:Nat),
  (wds gs (j+k)).findSome? F=(wds gs j).findSome? fun u=>Nat.rec (motive:=fun _=>List G→Option (List G)) F (fun _ r p=>gs.findSome? fun g=>r (p++[g])) k u:=by
 induction k with
 | zero=>intro F j;rfl
 | succ k ih=>
  intro F j
  show (wds gs (j+k+1)).findSome? F=_
  rw [wds,X7l]
  have:=ih (fun u=>(gs.map fun g=>u++[g]).findSome? F) j
  rw [this];congr 1;funext u
  clear this ih
  induction k generalizing u with
  | zero=>simp only [List.findSome?_map,Function.comp_def];rfl
  | succ k ih=>simp only [];congr 1;funext g;exact ih (u++[g])
theorem Xuw(gs:List G)(P:List G→Bool)(k:Nat)(p:List G) :
  skW gs P k p=Nat.rec (motive:=fun _=>List G→Option (List G)) (fun q=>if P q then some q else none) (fun _ r p=>gs.findSome? fun g=>r (p++[g])) k p:=by
 induction k generalizing p with
 | zero=>rfl
 | succ k ih=>simp only [skW];congr 1;funext g;exact ih _
theorem X9z{α:Type}(P:α→Bool)(l:List α) : l.findSome? (fun q=>if P q then some q else none)=l.find? P:=by
 induction l with
 | nil=>rfl
 | cons a l ih=>simp only [List.findSome?_cons,List.find?_cons];cases P a<;>simp [ih]
theorem Xlk(gs:List G)(P:List G→Bool)(k:Nat) : skW gs P k []=(wds gs k).find? P:=by
 have h:=Xs8 gs k (fun q=>if P q then some q else none) 0
 rw [Nat.zero_add] at h
 rw [← X9z,h,Xuw];simp [wds]
def lsW(gs:List G)(P:List G→Bool) : Nat→Option (List G)
 | 0=>(wds gs 0).find? P
 | k+1=>(lsW gs P k).or ((wds gs (k+1)).find? P)
def enT(ky:List G→K)(T:K→Option (List G)) : List (List G)→(K→Option (List G))×List (List G)
 | []=>(T,[])
 | w::l=>match T (ky w) with
  | some _=>enT ky T l
  | none=>let r:=enT ky (fun q=>if q=ky w then some w else T q) l;(r.1,w::r.2)
def grT(gs:List G)(ky:List G→K) : Nat→(K→Option (List G))×List (List G)
 | 0=>((fun q=>if q=ky [] then some [] else none),[[]])
 | k+1=>enT ky (grT gs ky k).1 ((grT gs ky k).2.flatMap fun u=>gs.map fun g=>u++[g])
theorem Xo3(ky:List G→K)(l:List (List G)) : ∀ (T:K→Option (List G)) (q:K),
  (enT ky T l).1 q=(T q).or (l.find? fun w=>ky w=q):=by
 induction l with
 | nil=>intro T q;simp [enT]
 | cons w l ih=>
  intro T q
  simp only [enT]
  cases h:T (ky w) with
  | some x=>
   simp only [ih]
   by_cases e:ky w=q
   ·subst e;simp [h]
   ·simp [e]
  | none=>
   simp only [ih]
   by_cases e:ky w=q
   ·subst e;simp [h]
   ·have e':¬ q=ky w:=fun h=>e h.symm
    simp [e,e']
theorem Xlp(ky:List G→K)(F:List G→Option (List G))(l:List (List G)) : ∀ (T:K→Option (List G)),
  (∀ w,w ∈ l→(T (ky w)).isSome→F w=none)→
  (∀ w v,w ∈ l→v ∈ l→ky w=ky v→(F w).isSome=(F v).isSome)→
  (enT ky T l).2.findSome? F=l.findSome? F:=by
 induction l with
 | nil=>intro T h1 h2;rfl
 | cons w l ih=>
  intro T h1 h2
  simp only [enT]
  cases h:T (ky w) with
  | some x=>
   simp only []
   rw [ih T (fun v hv=>h1 v (Ql _ hv)) (fun u v hu hv=>h2 u v (Ql _ hu) (Ql _ hv))]
   simp [List.findSome?_cons,h1 w (Qk ..) (by simp [h])]
  | none=>
   simp only [List.findSome?_cons]
   cases hF:F w with
   | some y=>rfl
   | none=>
    simp only []
    apply ih
    ·intro v hv hs
     by_cases e:ky v=ky w
     ·have:=h2 v w (Ql _ hv) (Qk ..) e
      rw [hF] at this;simpa using this
     ·rw [Q3 e] at hs;exact h1 v (Ql _ hv) hs
    ·exact fun u v hu hv=>h2 u v (Ql _ hu) (Ql _ hv)
theorem X8h(gs:List G)(k:Nat) : ∀ w,w ∈ wds gs k→w.length=k:=by
 induction k with
 | zero=>intro w h;simp [wds] at h;simp [h]
 | succ k ih=>
  intro w h
  simp only [wds,List.mem_flatMap,W6] at h
  obtain ⟨u,hu,g,hg,rfl⟩:=h
  simp [ih u hu]
theorem Xrr(ky:List G→K)(l:List (List G)) : ∀ (T:K→Option (List G)) w,w ∈ (enT ky T l).2→w ∈ l:=by
 induction l with
 | nil=>intro T w h;simp [enT] at h
 | cons v l ih=>
  intro T w h
  simp only [enT] at h
  cases hv:T (ky v) with
  | some x=>rw [hv] at h;exact Ql _ (ih _ _ h)
  | none=>
   rw [hv] at h;simp only [] at h
   rcases Qv.mp h with h|h
   ·subst h;exact Qk ..
   ·exact Ql _ (ih _ _ h)
theorem Xhq(gs:List G)(ky:List G→K)(k:Nat) : ∀ w,w ∈ (grT gs ky k).2→w ∈ wds gs k:=by
 induction k with
 | zero=>intro w h;simpa [grT,wds] using h
 | succ k ih=>
  intro w h
  have:=Xrr ky _ _ w h
  simp only [List.mem_flatMap] at this
  obtain ⟨u,hu,hw⟩:=this
  simp only [wds,List.mem_flatMap];exact ⟨u,ih u hu,hw⟩
theorem Xe6(gs:List G)(P:List G→Bool)(k:Nat) : (lsW gs P k).isSome↔∃ j w,j≤k∧w ∈ wds gs j∧P w=true:=by
 induction k with
 | zero=>
  simp only [lsW,List.find?_isSome]
  constructor
  ·rintro ⟨w,hw,hp⟩;exact ⟨0,w,Qb _,hw,hp⟩
  ·rintro ⟨j,w,hj,hw,hp⟩;cases Nat.le_zero.mp hj;exact ⟨w,hw,hp⟩
 | succ k ih=>
  simp only [lsW,Option.isSome_or,Bool.or_eq_true,ih,List.find?_isSome]
  constructor
  ·rintro (⟨j,w,hj,hw,hp⟩|⟨w,hw,hp⟩)
   ·exact ⟨j,w,Nat.le_succ_of_le hj,hw,hp⟩
   ·exact ⟨k+1,w,Qb _,hw,hp⟩
  ·rintro ⟨j,w,hj,hw,hp⟩
   rcases W4 k j with h|h
   ·have:j=k+1:=by omega
    subst this;exact Or.inr ⟨w,hw,hp⟩
   ·exact Or.inl ⟨j,w,h,hw,hp⟩
theorem Xp4(gs:List G)(ky:List G→K)(B:Nat)
  (hc:∀ i j u v g,i<B→j<B→u ∈ wds gs i→v ∈ wds gs j→g ∈ gs→ky u=ky v→ky (u++[g])=ky (v++[g])) (k:Nat) (hk:k≤B) :
  (∀ q,(grT gs ky k).1 q=lsW gs (fun w=>ky w=q) k)∧
  (∀ F:List G→Option (List G),
   (∀ w v,w ∈ wds gs k→v ∈ wds gs k→ky w=ky v→(F w).isSome=(F v).isSome)→
   (∀ w j v,w ∈ wds gs k→j<k→v ∈ wds gs j→ky v=ky w→F w=none)→
   (grT gs ky k).2.findSome? F=(wds gs k).findSome? F):=by
 induction k with
 | zero=>
  refine ⟨?_,?_⟩
  ·intro q
   by_cases e:q=ky []
   ·subst e;simp [grT,lsW,wds]
   ·have e':¬ ky []=q:=fun h=>e h.symm
    simp [grT,lsW,wds,e,e']
  ·intro F _ _;rfl
 | succ k ih=>
  obtain ⟨i1,i2⟩:=ih (by omega)
  have key:∀ F:List G→Option (List G),
   (∀ w v,w ∈ wds gs (k+1)→v ∈ wds gs (k+1)→ky w=ky v→(F w).isSome=(F v).isSome)→
   (∀ w j v,w ∈ wds gs (k+1)→j<k+1→v ∈ wds gs j→ky v=ky w→F w=none)→
   ((grT gs ky k).2.flatMap fun u=>gs.map fun g=>u++[g]).findSome? F=(wds gs (k+1)).findSome? F:=by
   intro F f1 f2
   have hin:∀ u g,u ∈ wds gs k→g ∈ gs→u++[g] ∈ wds gs (k+1):=by
    intro u g hu hg;simp only [wds,List.mem_flatMap,W6];exact ⟨u,hu,g,hg,rfl⟩
   have hin':∀ j u g,u ∈ wds gs j→g ∈ gs→u++[g] ∈ wds gs (j+1):=by
    intro j u g hu hg;simp only [wds,List.mem_flatMap,W6];exact ⟨u,hu,g,hg,rfl⟩
   rw [X7l,wds,X7l]
   apply i2
   ·intro w v hw hv e
    rw [Bool.eq_iff_iff]
    simp only [List.findSome?_isSome_iff,W6]
    constructor
    ·rintro ⟨x,⟨g,hg,rfl⟩,hx⟩
     refine ⟨v++[g],⟨g,hg,rfl⟩,?_⟩
     rw [← f1 _ _ (hin w g hw hg) (hin v g hv hg) (hc k k w v g (by omega) (by omega) hw hv hg e)];exact hx
    ·rintro ⟨x,⟨g,hg,rfl⟩,hx⟩
     refine ⟨w++[g],⟨g,hg,rfl⟩,?_⟩
     rw [f1 _ _ (hin w g hw hg) (hin v g hv hg) (hc k k w v g (by omega) (by omega) hw hv hg e)];exact hx
   ·intro w j v hw hj hv e
    rw [List.findSome?_eq_none_iff]
    intro x hx;obtain ⟨g,hg,rfl⟩:=W6.mp hx;exact f2 _ (j+1) (v++[g]) (hin w g hw hg) (by omega) (hin' j v g hv hg)
     (hc j k v w g (by omega) (by omega) hv hw hg e)
  have sub:∀ w,w ∈ ((grT gs ky k).2.flatMap fun u=>gs.map fun g=>u++[g])→w ∈ wds gs (k+1):=by
   intro w h
   simp only [List.mem_flatMap] at h
   obtain ⟨u,hu,hw⟩:=h
   simp only [wds,List.mem_flatMap];exact ⟨u,Xhq gs ky k u hu,hw⟩
  refine ⟨?_,?_⟩
  ·intro q
   show (enT ky (grT gs ky k).1 _).1 q=_
   rw [Xo3,i1 q,lsW]
   cases hq:lsW gs (fun w=>ky w=q) k with
   | some x=>rfl
   | none=>
    show List.find? _ _=List.find? _ _
    rw [← X9z,← X9z]
    apply key
    ·intro w v _ _ e;by_cases h:ky v=q<;>simp [e,h]
    ·intro w j v hw hj hv e
     have h:¬ ky w=q:=by
      intro h
      have:(lsW gs (fun w=>decide (ky w=q)) k).isSome:=(Xe6 ..).mpr ⟨j,v,by omega,hv,by simp [e,h]⟩
      rw [hq] at this;cases this
     simp [h]
  ·intro F f1 f2
   show (enT ky (grT gs ky k).1 _).2.findSome? F=_
   rw [Xlp,key F f1 f2]
   ·intro w hw hs
    rw [i1] at hs
    obtain ⟨j,v,hj,hv,e⟩:=(Xe6 ..).mp hs;exact f2 w j v (sub w hw) (by omega) hv (by simpa using e)
   ·intro w v hw hv;exact f1 w v (sub w hw) (sub v hv)
end
def rLess(x y:Rg) : Bool:=if x.a≠y.a then decide (x.a<y.a) else if x.b≠y.b then decide (x.b<y.b) else if x.c≠y.c then decide (x.c<y.c) else decide (x.d<y.d)
theorem X5f(x y:Rg) : rLess x y=true↔x.a<y.a∨(x.a=y.a∧(x.b<y.b∨(x.b=y.b∧(x.c<y.c∨(x.c=y.c∧x.d<y.d))))):=by
 unfold rLess
 by_cases h1:x.a=y.a
 ·by_cases h2:x.b=y.b
  ·by_cases h3:x.c=y.c
   ·simp [h1,h2,h3]
   ·simp [h1,h2,h3]
  ·simp [h1,h2]
 ·simp [h1]
theorem Xeo{x y z:Rg}(h1:rLess x y=true)(h2:rLess y z=true) : rLess x z=true:=by
 rw [X5f] at *;omega
theorem Xb4(x:Rg) : rLess x x=false:=by
 rw [Bool.eq_false_iff,Ne,X5f];omega
theorem Xkk{x y:Rg}(h1:rLess x y=false)(h2:rLess y x=false) : x=y:=by
 rw [Bool.eq_false_iff,Ne,X5f] at h1 h2
 obtain ⟨a,b,c,d⟩:=x;obtain ⟨a',b',c',d'⟩:=y
 simp only [Rg.mk.injEq] at *;omega
def bestT(x:Rg) : Nat→Nat
 | 0=>0
 | n+1=>if rLess (rTurnN (bestT x n) x) (rTurnN (n+1) x)=true then n+1 else bestT x n
theorem Xed(x:Rg) : ∀ n,bestT x n≤n
 | 0=>Qb _
 | n+1=>by unfold bestT;have:=Xed x n;split<;>omega
theorem X5a(x:Rg) : ∀ n j,j≤n→rLess (rTurnN (bestT x n) x) (rTurnN j x)=false
 | 0,j,h=>by cases Nat.le_zero.mp h;exact Xb4 _
 | n+1,j,h=>by
  unfold bestT
  by_cases e:rLess (rTurnN (bestT x n) x) (rTurnN (n+1) x)=true
  ·rw [Q4 e]
   by_cases hj:j=n+1
   ·subst hj;exact Xb4 _
   ·have:=X5a x n j (by omega)
    rw [Bool.eq_false_iff];intro h2
    rw [Xeo e h2] at this;cases this
  ·rw [Q3 e]
   by_cases hj:j=n+1
   ·subst hj;simpa using e
   ·exact X5a x n j (by omega)
def turnK(x:Rg) : Nat:=bestT x 7
theorem X4k(x:Rg) : turnK x<8:=Nat.lt_succ_of_le (Xed x 7)
theorem X58{k:Nat}(hk:k<8)(x:Dy) : dTurn k x=⟨rTurnN k x.num,x.exp⟩:=by
 have:(turns (k:Int)).toNat=k:=by
  rcases (by omega:k=0∨k=1∨k=2∨k=3∨k=4∨k=5∨k=6∨k=7) with rfl|rfl|rfl|rfl|rfl|rfl|rfl|rfl<;>decide
 unfold dTurn rTurn;rw [this]
theorem Xoa{x:Dy}(h:dOk x=true)(k:Int) : dOk (dTurn k x)=true:=by
 have hz:=X1m.1 h;obtain ⟨h1,h2⟩:=X79 hz.1 k;exact X1m.2 ⟨h1,hz.2.1,by rcases hz.2.2 with h|h;exact .inl h;exact .inr (h2.trans h)⟩
theorem X2v{x:Rg}(h:rOk x=true)(i j:Nat) : rTurnN i (rTurnN j x)=rTurnN ((i+j) % 8) x:=by
 rw [X4u i _ (X5l j x h).1,X4u j x h,X4u _ x h,← Xlh,X1t,Xd]
theorem X6c{x:Dy}(h:dOk x=true){i j:Nat}(hi:i<8)(hj:j<8) : dTurn i (dTurn j x)=dTurn ((i+j) % 8:Nat) x:=by
 rw [X58 hj,X58 hi,X58 (Nat.mod_lt _ (by decide)),X2v (X1m.1 h).1]
theorem Xhc(z:Rg)(j:Nat)(h0:0<j)(hj:j<8)(h:rOk z=true)(e:rTurnN j z=z) : z=⟨0,0,0,0⟩:=by
 obtain ⟨a,b,c,d⟩:=z
 simp only [rOk,inR,Qd,Qr] at h
 have wn:∀ x:Int,-1000000000≤x∧x≤1000000000→wr (-x) = -x:=fun x hx=>X0u (by omega) (by omega)
 rcases (by omega:j=1∨j=2∨j=3∨j=4∨j=5∨j=6∨j=7) with rfl|rfl|rfl|rfl|rfl|rfl|rfl <;>
 ·simp only [rTurnN,rOm,Rg.mk.injEq] at e ⊢
  have ha:=wn a (by omega);have hb:=wn b (by omega);have hc:=wn c (by omega);have hd:=wn d (by omega)
  simp only [ha,hb,hc,hd,wn (-a) (by omega),wn (-b) (by omega),wn (-c) (by omega),wn (-d) (by omega)] at e
  omega
def canK(l:List Dy) : Option Nat:=(l.find? fun x=>decide (x≠dZ)).map fun x=>turnK x.num
def canL(l:List Dy) : Option (List Dy):=(canK l).map fun (k:Nat)=>l.map (dTurn (k:Int))
theorem Xzx{x:Dy}(h:dOk x=true)(e:x.num=⟨0,0,0,0⟩) : x=dZ:=by
 obtain ⟨z,m⟩:=x
 simp only at e;subst e
 have:=(X1m.1 h).2.2
 rcases this with h|h
 ·simp only at h;subst h;rfl
 ·exact absurd h (by simp only;decide)
theorem X9o{k:Nat}(hk:k<8) : dTurn k dZ=dZ:=by
 rcases (by omega:k=0∨k=1∨k=2∨k=3∨k=4∨k=5∨k=6∨k=7) with rfl|rfl|rfl|rfl|rfl|rfl|rfl|rfl<;>decide
theorem Xkn{x:Dy}(h:dOk x=true) : dTurn (0:Nat) x=x:=by rw [X58 (by decide)];rfl
theorem X9w{x:Dy}(h:dOk x=true){k:Nat}(hk:k<8) : dTurn ((8-k) % 8:Nat) (dTurn k x)=x:=by
 rw [X6c h (Nat.mod_lt _ (by decide)) hk,show ((8-k) % 8+k) % 8=0 from by omega,Xkn h]
theorem Xml{x:Dy}(h:dOk x=true){k:Nat}(hk:k<8) : dTurn k x=dZ↔x=dZ:=
 ⟨fun e=>by rw [← X9w h hk,e,X9o (Nat.mod_lt _ (by decide))],fun e=>by rw [e,X9o hk]⟩
theorem Xau{k:Nat}(hk:k<8) : ∀ l:List Dy,(∀ x ∈ l,dOk x=true)→(l.map (dTurn k)).find? (fun x=>decide (x≠dZ))=(l.find? fun x=>decide (x≠dZ)).map (dTurn k)
 | [],_=>rfl
 | x::l,h=>by
  rw [List.map_cons,List.find?_cons,List.find?_cons,Xau hk l fun y hy=>h y (Ql _ hy)]
  have:=Xml (h x (Qk ..)) hk
  by_cases e:x=dZ
  ·simp [e,X9o hk]
  ·have e':¬ dTurn k x=dZ:=fun h=>e (this.1 h)
   simp [e,e']
theorem Xg6{x:Rg}(h:rOk x=true){k:Nat}(hk:k<8) : rTurnN (turnK (rTurnN k x)) (rTurnN k x)=rTurnN (turnK x) x:=by
 have hy:=(X5l k x h).1;refine Xkk ?_ ?_
 ·have hb:=X5a (rTurnN k x) 7 ((turnK x+(8-k)) % 8) (by omega)
  rw [X2v h ((turnK x+(8-k)) % 8) k,show ((turnK x+(8-k)) % 8+k) % 8=turnK x from by have:=X4k x;omega] at hb
  exact hb
 ·have hb:=X5a x 7 ((turnK (rTurnN k x)+k) % 8) (by omega)
  rw [← X2v h] at hb
  exact hb
theorem Xlj{x:Rg}(h:rOk x=true)(hx:x≠⟨0,0,0,0⟩){k:Nat}(hk:k<8) : (turnK (rTurnN k x)+k) % 8=turnK x:=by
 have e:=Xg6 h hk
 rw [X2v h] at e
 generalize hi:(turnK (rTurnN k x)+k) % 8=i at e
 have hi8:i<8:=by omega
 have hj8:=X4k x
 generalize turnK x=j at e hj8
 have e2:rTurnN ((8-j+i) % 8) x=x:=by
  have:=congrArg (rTurnN (8-j)) e
  rw [X2v h,X2v h,show (8-j+j) % 8=0 from by omega] at this
  exact this
 by_cases h0:(8-j+i) % 8=0
 ·omega
 ·exact absurd (Xhc x _ (by omega) (Nat.mod_lt _ (by decide)) h e2) hx
theorem Xjx{k:Nat}(hk:k<8){l:List Dy}(h:∀ x ∈ l,dOk x=true) : canL (l.map (dTurn k))=canL l:=by
 unfold canL canK
 rw [Xau hk l h]
 cases e:l.find? fun x=>decide (x≠dZ) with
 | none=>rfl
 | some x=>
  have hm:=h x (List.mem_of_find?_eq_some e)
  have hx:x≠dZ:=by simpa using List.find?_some e
  simp only [Option.map_some,List.map_map,Option.some.injEq]
  apply List.map_congr_left
  intro y hy
  show dTurn _ (dTurn k y)=_
  rw [X6c (h y hy) (X4k _) hk,X58 hk,Xlj (X1m.1 hm).1 (fun e=>hx (Xzx hm e)) hk]
theorem Xnb{l r:List Dy}(hl:∀ x ∈ l,dOk x=true)(hr:∀ x ∈ r,dOk x=true)(hn:canL r≠none) : canL l=canL r↔∃ k:Nat,k<8∧l=r.map (dTurn k):=by
 constructor
 ·intro e
  unfold canL at e hn
  cases h2:canK r with
  | none=>rw [h2] at hn;exact absurd rfl hn
  | some j=>
   cases h1:canK l with
   | none=>rw [h1,h2] at e;cases e
   | some i=>
    rw [h1,h2] at e
    simp only [Option.map_some,Option.some.injEq] at e
    have hi:i<8:=by unfold canK at h1;obtain ⟨x,_,rfl⟩:=Option.map_eq_some_iff.1 h1;exact X4k _
    have hj:j<8:=by unfold canK at h2;obtain ⟨x,_,rfl⟩:=Option.map_eq_some_iff.1 h2;exact X4k _
    refine ⟨((8-i) % 8+j) % 8,Nat.mod_lt _ (by decide),?_⟩
    have:=congrArg (List.map (dTurn ((8-i) % 8:Nat))) e
    rw [List.map_map,List.map_map] at this
    have hb:l.map (dTurn ((8-i) % 8:Nat) ∘ dTurn i)=l:=(List.map_congr_left (g:=id) (fun y hy=>X9w (hl y hy) hi)).trans (List.map_id _)
    rw [hb] at this;rw [this]
    apply List.map_congr_left
    intro y hy;exact X6c (hr y hy) (Nat.mod_lt _ (by decide)) hj
 ·rintro ⟨k,hk,rfl⟩;exact Xjx hk hr
theorem Xgc{p q:Mx}(hp:∀ x ∈ p.cells,dOk x=true)(hq:∀ x ∈ q.cells,dOk x=true)(e1:p.rows=q.rows)(e2:p.cols=q.cols)(hn:canL q.cells≠none) : phaseS p q=true↔canL p.cells=canL q.cells:=by
 rw [Xnb hp hq hn]
 unfold phaseS turnedS
 simp only [List.any_eq_true,W2,Qd,Qr]
 constructor
 ·rintro ⟨k,hk,_,h⟩;exact ⟨k,hk,h⟩
 ·rintro ⟨k,hk,h⟩;exact ⟨k,hk,⟨e1,e2⟩,h⟩
theorem Xmc{z:Rg}(h:(2:Rg)*z=0) : z=0:=by
 rw [← Xvo] at h
 refine X2j 2 (h.trans ?_)
 decide
theorem Xmd:∀ (l:List Gt) (v:St),(∀ g ∈ l,TwoQ g∧1≤g.k∧g.k≤11)→(∀ β,run l v β=0)→∀ β,v β=0
 | [],v,_,h=>h
 | g::l,v,hg,h=>by
  have h1:=Xmd l (act g v) (fun x hx=>hg x (Ql _ hx)) h
  intro β;obtain ⟨g1,g2⟩:=hg g (Qk ..);have h2:=Xri g1 g2 v β
  have e:act g v=fun _=>0:=funext h1
  rw [e] at h2
  have h3:act (bkG g) (fun _=>0) β=0:=congrFun (Xei [bkG g]) β
  rw [h3] at h2
  split at h2
  ·exact Xmc h2.symm
  ·rw [Xp] at h2;exact h2.symm
theorem Xkj{l:List Dy}(h:canL l=none) : ∀ x ∈ l,x=dZ:=by
 unfold canL canK at h
 cases e:l.find? fun x=>decide (x≠dZ) with
 | some x=>rw [e] at h;cases h
 | none=>
  intro x hx
  have:=List.find?_eq_none.1 e x hx
  simpa using this
theorem Xub{c:Cx}{N:Nat}{M:Mx}(hn:c.n=N)(h:opI c=some M)(hg:∀ g ∈ c.gs,g.k≤11) : canL M.cells≠none:=by
 intro e
 have hc:=X14 (c:=c) (by unfold opI at h;split at h;assumption;cases h)
 have hz:=Xkj e
 have hat:∀ i j,M.at i j=dZ:=by
  intro i j
  unfold Mx.at
  rw [Qa]
  cases e2:M.cells[i*M.cols.toNat+j]? with
  | none=>rfl
  | some x=>exact hz x (Qe e2)
 obtain ⟨h1,_,_,_⟩:=X9t hn h
 have hN:N≤5:=by have:=hc.1;omega
 have hr:∀ β,run c.gs (fun _=>1) β=0:=by
  intro β
  obtain ⟨i,hi,_,h2⟩:=run_basis' hN (fun _=>1) β
  rw [h2 c.gs fun g hg'=>Xgh (by rw [← hn];exact hc.2.2 g hg')]
  apply X9a
  intro j hj;have h3:=h1 i j hi hj
  rw [hat] at h3
  rw [h3.fun (X4n _)]
  exact Xx _
 have h4:=Xmd c.gs _ (fun g hg'=>by
  have:=Xmu (hc.2.2 g hg');exact ⟨this.1,this.2.1,hg g hg'⟩) hr (fun _=>false)
 exact absurd h4 (by decide)
def gsT(n:Nat) : List Gt:=if n=2 then [⟨1,0,0⟩,⟨1,1,0⟩,⟨5,0,0⟩,⟨5,1,0⟩,⟨7,0,0⟩,⟨7,1,0⟩,⟨9,0,1⟩,⟨9,1,0⟩] else [⟨1,0,0⟩,⟨5,0,0⟩,⟨7,0,0⟩]
theorem X65{n:Nat}(hn:n=1∨n=2) : ∀ g ∈ gsT n,gOk n g=true∧g.k≤11:=by
 rcases hn with rfl|rfl<;>decide
theorem Xco{G:Type}(gs:List G)(k:Nat) : ∀ w,w ∈ wds gs k→∀ g ∈ w,g ∈ gs:=by
 induction k with
 | zero=>intro w h;simp [wds] at h;simp [h]
 | succ k ih=>
  intro w h
  simp only [wds,List.mem_flatMap,W6] at h
  obtain ⟨u,hu,g,hg,rfl⟩:=h;intro x hx
  rcases Qu.1 hx with hx|hx
  ·exact ih u hu x hx
  ·cases Qm.1 hx;exact hg
def valW(n:Nat)(w:List Gt) : Mx:=(opI ⟨n,w⟩).getD mZ
theorem X2p{n:Nat}(hn:n=1∨n=2){k:Nat}(hk:k≤8){w:List Gt}(hw:w ∈ wds (gsT n) k) : opI ⟨n,w⟩=some (valW n w):=by
 have hl:=X8h _ _ _ hw;have hm:=Xco _ _ _ hw
 have hc:cOk ⟨n,w⟩=true:=by
  simp only [cOk,Qd,X01,Qr,Bool.not_eq_true',W7]
  refine ⟨⟨by omega,by omega⟩,fun g hg=>?_⟩
  have:=(X65 hn g (hm g hg)).1
  simp [this]
 obtain ⟨M,hM⟩:=Xdh hc (by have:=Xns w;simp only;omega)
 unfold valW;rw [hM];rfl
theorem Xa3(n:Int)(g:Gt) : ∀ (l:List Gt) (m:Mx),applI n (l++[g]) m=(applI n l m).bind fun x=>mulI ((gateI n g).getD mZ) x
 | [],m=>by simp [applI]
 | h::l,m=>by
  rw [Wa];unfold applI
  cases mulI ((gateI n h).getD mZ) m with
  | none=>rfl
  | some x=>exact Xa3 n g l x
theorem X34{G:Type}{gs:List G}{k:Nat}{w:List G}{g:G}(hw:w ∈ wds gs k)(hg:g ∈ gs) : w++[g] ∈ wds gs (k+1):=by
 simp only [wds,List.mem_flatMap,W6];exact ⟨w,hw,g,hg,rfl⟩
theorem X73(n:Nat)(hn:n=1∨n=2) : valW n []=unitS (2^n):=by
 have h:=X2p hn (k:=0) (by omega) (w:=[]) (by simp [wds])
 unfold opI at h
 rw [Q4 (by rcases hn with rfl|rfl<;>decide)] at h
 have hi:=(X38 (d:=2^n) (X2c (n:=(n:Int)) (by omega))).1
 rw [show ((2^(n:Int).toNat:Nat) : Int)=((2^n:Nat) : Int) from rfl,hi] at h
 injection h with h;exact h.symm
theorem Xbt{n:Nat}(hn:n=1∨n=2){k:Nat}(hk:k<8){w:List Gt}(hw:w ∈ wds (gsT n) k){g:Gt}(hg:g ∈ gsT n) : mulI (gateS n g) (valW n w)=some (valW n (w++[g])):=by
 have h1:=X2p hn (by omega) hw
 have h2:=X2p hn (by omega) (X34 hw hg)
 have c1:cOk ⟨n,w⟩=true:=by unfold opI at h1;split at h1;assumption;cases h1
 have c2:cOk ⟨n,w++[g]⟩=true:=by unfold opI at h2;split at h2;assumption;cases h2
 unfold opI at h1 h2
 rw [Q4 c1] at h1;rw [Q4 c2] at h2
 obtain ⟨m,hm,h1⟩:=Option.bind_eq_some_iff.1 h1
 rw [hm,Qz,Xa3,h1,Qz,(X2y (X65 hn g hg).1).1] at h2
 exact h2
theorem X2b{n:Nat}(hn:n=1∨n=2){k:Nat}(hk:k≤8){w:List Gt}(hw:w ∈ wds (gsT n) k) : mOk (valW n w)=true∧(valW n w).rows=((2^n:Nat) : Int)∧(valW n w).cols=((2^n:Nat) : Int)∧canL (valW n w).cells≠none:=by
 have h1:=X2p hn hk hw;obtain ⟨_,h2,h3,h4⟩:=X9t (N:=n) rfl h1;exact ⟨h2,h3,h4,Xub (N:=n) rfl h1 fun g hg=>(X65 hn g (Xco _ _ _ hw g hg)).2⟩
theorem X7g{n:Nat}(hn:n=1∨n=2){k:Nat}(hk:k≤8){w:List Gt}(hw:w ∈ wds (gsT n) k){M:Mx}(hM:mOk M=true)(hr:M.rows=((2^n:Nat) : Int))(hc:M.cols=((2^n:Nat) : Int))(hz:canL M.cells≠none) : phaseS (valW n w) M=true↔canL (valW n w).cells=canL M.cells:=by
 obtain ⟨h1,h2,h3,h4⟩:=X2b hn hk hw;exact Xgc (X21 h1) (X21 hM) (by rw [h2,hr]) (by rw [h3,hc]) hz
theorem Xfg(g:Gt) : ∀ (l:List Gt) (v:St),run (l++[g]) v=act g (run l v)
 | [],_=>rfl
 | h::l,v=>Xfg g l (act h v)
theorem Xho(g:Gt) : ∀ (l:List Gt),hs (l++[g])=hs l+hN g
 | []=>by simp [hs]
 | h::l=>by rw [Wa];unfold hs;rw [Xho g l];omega
theorem Xkm{n:Nat}(hn:n=1∨n=2){i j:Nat}(hi:i<8)(hj:j<8){u v:List Gt}(hu:u ∈ wds (gsT n) i)(hv:v ∈ wds (gsT n) j){g:Gt}(hg:g ∈ gsT n)(e:canL (valW n u).cells=canL (valW n v).cells) : canL (valW n (u++[g])).cells=canL (valW n (v++[g])).cells:=by
 obtain ⟨b1,b2,b3,b4⟩:=X2b hn (Nat.le_of_lt hj) hv;obtain ⟨d1,d2,d3,d4⟩:=X2b hn hj (X34 hv hg)
 rw [← X7g hn (Nat.le_of_lt hi) hu b1 b2 b3 b4,X6h (N:=n) rfl rfl (X2p hn (Nat.le_of_lt hi) hu) (X2p hn (Nat.le_of_lt hj) hv)] at e
 rw [← X7g hn hi (X34 hu hg) d1 d2 d3 d4,X6h (N:=n) rfl rfl (X2p hn hi (X34 hu hg)) (X2p hn hj (X34 hv hg))]
 obtain ⟨k,hk,h⟩:=e
 refine ⟨k,hk,fun x β=>?_⟩
 simp only [Xfg,Xho,X1t] at *
 have hf:(fun γ=>s2^hs v*run u x γ)=fun γ=>(om^k*s2^hs u)*run v x γ:=funext fun γ=>by rw [h x γ,Xd]
 have h2:=congrFun (congrArg (act g) hf) β
 rw [X9h,X9h] at h2
 simp only [] at h2
 rw [Xt (s2^hs v),Xt (s2^hs u),Xd,Xd,h2,Xd]
 rw [← Xd (s2^hN g),Xt (s2^hN g) (om^k),Xd]
def kyW(n:Nat)(w:List Gt) : Option (List Dy):=canL (valW n w).cells
theorem X6g{α:Type}{P Q:α→Bool} : ∀ l:List α,(∀ x ∈ l,P x=Q x)→l.find? P=l.find? Q
 | [],_=>rfl
 | x::l,h=>by rw [List.find?_cons,List.find?_cons,h x (Qk ..),X6g l fun y hy=>h y (Ql _ hy)]
theorem Xby{G:Type}{gs:List G}{P Q:List G→Bool} : ∀ k,(∀ j w,j≤k→w ∈ wds gs j→P w=Q w)→lsW gs P k=lsW gs Q k
 | 0,h=>X6g _ fun w hw=>h 0 w (Qb _) hw
 | k+1,h=>by unfold lsW;rw [Xby k fun j w hj hw=>h j w (by omega) hw,X6g _ fun w hw=>h (k+1) w (Qb _) hw]
theorem Xw3{n:Nat}(hn:n=1∨n=2){K:Type}(f:Option (List Dy)→K)(hf:∀ i j u v,i≤8→j≤8→u ∈ wds (gsT n) i→v ∈ wds (gsT n) j→f (kyW n u)=f (kyW n v)→kyW n u=kyW n v) :
  ∀ i j u v g,i<8→j<8→u ∈ wds (gsT n) i→v ∈ wds (gsT n) j→g ∈ gsT n→f (kyW n u)=f (kyW n v)→f (kyW n (u++[g]))=f (kyW n (v++[g])):=
 fun i j u v g hi hj hu hv hg e=>congrArg f (Xkm hn hi hj hu hv hg (hf i j u v (by omega) (by omega) hu hv e))
theorem Xow{n:Nat}(hn:n=1∨n=2){K:Type}[DecidableEq K](f:Option (List Dy)→K)(hf:∀ i j u v,i≤8→j≤8→u ∈ wds (gsT n) i→v ∈ wds (gsT n) j→f (kyW n u)=f (kyW n v)→kyW n u=kyW n v)
  {M:Mx} (hM:mOk M=true) (hr:M.rows=((2^n:Nat) : Int)) (hc:M.cols=((2^n:Nat) : Int)) (hz:canL M.cells≠none) (hfM:∀ i u,i≤8→u ∈ wds (gsT n) i→f (kyW n u)=f (canL M.cells)→kyW n u=canL M.cells) {k:Nat} (hk:k≤8) :
  (grT (gsT n) (fun w=>f (kyW n w)) k).1 (f (canL M.cells))=lsW (gsT n) (fun w=>phaseS (valW n w) M) k:=by
 rw [(Xp4 (gsT n) (fun w=>f (kyW n w)) 8 (Xw3 hn f hf) k hk).1]
 apply Xby
 intro j w hj hw
 rw [Bool.eq_iff_iff,Qr,X7g hn (by omega) hw hM hr hc hz]
 exact ⟨fun e=>hfM j w (by omega) hw e,fun e=>congrArg f e⟩
def fdS(n:Nat)(M:Mx) : Nat→Mx→Option (List Gt)
 | 0,x=>if phaseS x M=true then some [] else none
 | k+1,x=>(gsT n).findSome? fun g=>(fdS n M k (timesS false (gateS n g) x).2).map (g :: ·)
theorem Xb7{n:Nat}(hn:n=1∨n=2){k:Nat}(hk:k<8){w:List Gt}(hw:w ∈ wds (gsT n) k){g:Gt}(hg:g ∈ gsT n) : timesS false (gateS n g) (valW n w)=(false,valW n (w++[g])):=by
 obtain ⟨h1,h2,h3,_⟩:=X2b hn (Nat.le_of_lt hk) hw;have h4:=Xbt hn hk hw hg;exact ((X3u (X2y (X65 hn g hg).1).2 h1 (by rw [h2];rfl)).1 _ h4).1
theorem Xn5{n:Nat}(hn:n=1∨n=2)(M:Mx) : ∀ (k j:Nat) (w:List Gt),j+k≤8→w ∈ wds (gsT n) j→skW (gsT n) (fun w=>phaseS (valW n w) M) k w=(fdS n M k (valW n w)).map (w ++ ·)
 | 0,j,w,_,hw=>by
  unfold skW fdS
  split<;>simp
 | k+1,j,w,hk,hw=>by
  unfold skW fdS
  have:∀ l:List Gt,(∀ g ∈ l,g ∈ gsT n)→l.findSome? (fun g=>skW (gsT n) (fun w=>phaseS (valW n w) M) k (w++[g]))=(l.findSome? fun g=>(fdS n M k (timesS false (gateS n g) (valW n w)).2).map (g :: ·)).map (w ++ ·):=by
   intro l
   induction l with
   | nil=>intro _;rfl
   | cons g l ih=>
    intro hl;have hg:=hl g (Qk ..)
    rw [List.findSome?_cons,List.findSome?_cons,ih fun x hx=>hl x (Ql _ hx),Xn5 hn M k (j+1) (w++[g]) (by omega) (X34 hw hg),Xb7 hn (by omega) hw hg]
    cases fdS n M k (valW n (w++[g])) with
    | none=>rfl
    | some x=>simp
  exact this _ fun _ h=>h
theorem X9s{n:Nat}(hn:n=1∨n=2)(M:Mx){k:Nat}(hk:k≤8) : fdS n M k (unitS (2^n))=(wds (gsT n) k).find? fun w=>phaseS (valW n w) M:=by
 have h:=Xn5 hn M k 0 [] (by omega) (by simp [wds])
 rw [X73 n hn] at h
 rw [← Xlk,h]
 cases fdS n M k (unitS (2^n))<;>simp
abbrev Za4(qs:List Int)(A:Mx)(j:Nat) : List Gt:=(fdS qs.length A j (unitS (2^qs.length:Nat))).getD []
end Go.Proofs.YtblmmikapnflcaaGreatDoor
namespace Go.Proofs.YtblmmikapnflcaaGreatDoor
open Go
theorem X7h{s:UInt8} : ∀ {u v r t:List UInt8},s ∉ u→s ∉ v→u++s::r=v++s::t→u=v∧r=t
 | [],[],r,t,_,_,e=>by simpa using e
 | [],b::v,r,t,_,hv,e=>by
  simp only [List.nil_append,Wa,List.cons.injEq] at e
  exact absurd (by rw [e.1];exact Qk ..) hv
 | a::u,[],r,t,hu,_,e=>by
  simp only [List.nil_append,Wa,List.cons.injEq] at e
  exact absurd (by rw [← e.1];exact Qk ..) hu
 | a::u,b::v,r,t,hu,hv,e=>by
  simp only [Wa,List.cons.injEq] at e
  obtain ⟨h1,h2⟩:=X7h (fun h=>hu (Ql _ h)) (fun h=>hv (Ql _ h)) e.2
  exact ⟨by rw [e.1,h1],h2⟩
theorem X3z(s:List UInt8)(x y:List UInt8)(l:List (List UInt8)) : s.intercalate (x::y::l)=x++(s++s.intercalate (y::l)):=by
 simp [List.intercalate,List.intersperse]
theorem Xd5(s:List UInt8)(x:List UInt8) : s.intercalate [x]=x:=by
 simp [List.intercalate,List.intersperse]
theorem Xjd{s:UInt8} : ∀ (l r:List (List UInt8)),l.length=r.length→(∀ x ∈ l,s ∉ x)→(∀ x ∈ r,s ∉ x)→[s].intercalate l=[s].intercalate r→l=r
 | [],[],_,_,_,_=>rfl
 | [],_::_,h,_,_,_=>by cases h
 | _::_,[],h,_,_,_=>by cases h
 | [x],[y],_,_,_,e=>by rw [Xd5,Xd5] at e;rw [e]
 | [x],y::z::r,h,_,_,_=>by simp at h
 | x::z::l,[y],h,_,_,_=>by simp at h
 | x::z::l,y::w::r,h,hl,hr,e=>by
  rw [X3z,X3z] at e
  obtain ⟨h1,h2⟩:=X7h (hl x (Qk ..)) (hr y (Qk ..)) e
  rw [h1,Xjd (z::l) (w::r) (by simpa using h) (fun x hx=>hl x (Ql _ hx)) (fun x hx=>hr x (Ql _ hx)) h2]
def dgV(l:List UInt8) : Nat:=l.foldl (fun a b=>10*a+(b.toNat-48)) 0
theorem X5h{i:Nat}(h:i<10) : (UInt8.ofNat (48+i)).toNat=48+i:=by
 rw [UInt8.toNat_ofNat'];exact Nat.mod_eq_of_lt (by omega)
theorem X8o:∀ u:Nat,dgV (Lib.decDigits u)=u:=fun u=>by
 induction u using Nat.strongRecOn with
 | _ u ih=>
  rw [Lib.decDigits]
  by_cases h:u<10
  ·rw [dif_pos h];simp only [dgV,List.foldl_cons,List.foldl_nil,X5h h];omega
  ·rw [dif_neg h]
   have:=ih (u/10) (by omega)
   unfold dgV at this ⊢
   rw [List.foldl_append,this]
   simp only [List.foldl_cons,List.foldl_nil,X5h (Nat.mod_lt u (by decide:0<10))]
   omega
theorem Xc6:∀ u:Nat,∀ b ∈ Lib.decDigits u,48≤b.toNat∧b.toNat≤57:=fun u=>by
 induction u using Nat.strongRecOn with
 | _ u ih=>
  intro b hb
  rw [Lib.decDigits] at hb
  by_cases h:u<10
  ·rw [dif_pos h] at hb;cases Qm.1 hb;rw [X5h h];omega
  ·rw [dif_neg h] at hb
   rcases Qu.1 hb with hb|hb
   ·exact ih (u/10) (by omega) b hb
   ·cases Qm.1 hb;have:=Nat.mod_lt u (by decide:0<10);rw [X5h this];omega
theorem Xly(n:Int) : ∀ b ∈ Lib.itoa n,b.toNat=45∨(48≤b.toNat∧b.toNat≤57):=by
 intro b hb
 unfold Lib.itoa at hb
 split at hb
 ·rcases Qv.1 hb with rfl|hb
  ·exact .inl rfl
  ·exact .inr (Xc6 _ b hb)
 ·exact .inr (Xc6 _ b hb)
theorem X4y{n m:Int}(e:Lib.itoa n=Lib.itoa m) : n=m:=by
 have hne:∀ (u v:Nat),45::Lib.decDigits u≠Lib.decDigits v:=fun u v e=>by
  have:=Xc6 v 45 (by rw [← e];exact Qk ..)
  exact absurd this (by decide)
 unfold Lib.itoa at e
 split at e<;>split at e
 ·injection e with _ e
  have:=congrArg dgV e
  rw [X8o,X8o] at this;omega
 ·exact absurd e (hne _ _)
 ·exact absurd e.symm (hne _ _)
 ·have:=congrArg dgV e
  rw [X8o,X8o] at this;omega
def txR(z:Rg) : List UInt8:=Lib.join [Lib.itoa z.a,Lib.itoa z.b,Lib.itoa z.c,Lib.itoa z.d] [32]
def txD(x:Dy) : List UInt8:=txR x.num++[47]++Lib.itoa x.exp
def txK(l:List Dy) : List UInt8:=Lib.join (l.map txD) [44]
theorem Xdd(n:Int)(s:UInt8)(h:s.toNat=32∨s.toNat=47∨s.toNat=44) : s ∉ Lib.itoa n:=fun hm=>by
 have:=Xly n s hm;omega
theorem Xcm(z:Rg) : txR z=Lib.itoa z.a++32::(Lib.itoa z.b++32::(Lib.itoa z.c++32::Lib.itoa z.d)):=by
 unfold txR Lib.join
 rw [X3z,X3z,X3z,Xd5];rfl
theorem Xgs(z:Rg)(s:UInt8)(h:s.toNat=47∨s.toNat=44) : s ∉ txR z:=fun hm=>by
 have hs:s≠32:=fun e=>by subst e;revert h;decide
 have hi:=fun n=>Xdd n s (.inr h)
 rw [Xcm] at hm
 simp only [Qu,Qv] at hm
 rcases hm with hm|hm|hm|hm|hm|hm|hm
 ·exact hi _ hm
 ·exact hs hm
 ·exact hi _ hm
 ·exact hs hm
 ·exact hi _ hm
 ·exact hs hm
 ·exact hi _ hm
theorem Xn4(x:Dy) : (44:UInt8) ∉ txD x:=fun hm=>by
 unfold txD at hm
 simp only [Qu,Qv,List.not_mem_nil,or_false] at hm
 rcases hm with (hm|hm)|hm
 ·exact Xgs x.num 44 (.inr rfl) hm
 ·exact absurd hm (by decide)
 ·exact Xdd _ 44 (.inr (.inr rfl)) hm
theorem Xsw{z w:Rg}(e:txR z=txR w) : z=w:=by
 rw [Xcm,Xcm] at e
 have hi:=fun n=>Xdd n 32 (.inl rfl)
 obtain ⟨h1,e⟩:=X7h (hi _) (hi _) e;obtain ⟨h2,e⟩:=X7h (hi _) (hi _) e;obtain ⟨h3,h4⟩:=X7h (hi _) (hi _) e;obtain ⟨a,b,c,d⟩:=z;obtain ⟨a',b',c',d'⟩:=w
 simp only at h1 h2 h3 h4
 rw [X4y h1,X4y h2,X4y h3,X4y h4]
theorem Xs9{x y:Dy}(e:txD x=txD y) : x=y:=by
 unfold txD at e
 rw [Qx,Qx] at e
 obtain ⟨h1,h2⟩:=X7h (Xgs x.num 47 (.inl rfl)) (Xgs y.num 47 (.inl rfl)) e;obtain ⟨z,m⟩:=x;obtain ⟨w,n⟩:=y
 simp only at h1 h2
 rw [Xsw h1,X4y h2]
theorem Xru{l r:List Dy}(h:l.length=r.length)(e:txK l=txK r) : l=r:=by
 unfold txK Lib.join at e
 have:=Xjd (l.map txD) (r.map txD) (by simpa using h) (fun x hx=>by obtain ⟨y,_,rfl⟩:=W6.1 hx;exact Xn4 y) (fun x hx=>by obtain ⟨y,_,rfl⟩:=W6.1 hx;exact Xn4 y) e
 clear e
 induction l generalizing r with
 | nil=>cases r with
  | nil=>rfl
  | cons y r=>cases h
 | cons x l ih=>cases r with
  | nil=>cases h
  | cons y r=>
   simp only [List.map_cons,List.cons.injEq] at this
   rw [Xs9 this.1,ih (by simpa using h) this.2]
end Go.Proofs.YtblmmikapnflcaaGreatDoor
namespace Go.Proofs.YtblmmikapnflcaaGreatDoor
open Go.RowKit
def entS(p:ByteArray×Value×Nat) : MapEntry:={ key:=.string p.1,val:=p.2.1,born:=p.2.2 }
def findS(l:List (ByteArray×Value×Nat))(s:ByteArray) : Option Value:=(l.find? fun p=>decide (p.1=s)).map fun p=>p.2.1
def MapS(w:World)(b:Nat)(f:ByteArray→Option Value) : Prop:=∃ l clock,w.heap[b]? = some (.map (l.map entS).toArray clock)∧∀ s,findS l s=f s
def updS(f:ByteArray→Option Value)(s:ByteArray)(v:Value) : ByteArray→Option Value:=fun x=>if x=s then some v else f x
theorem Xy6(x y:ByteArray) : (x==y)=decide (x=y):=by
 rw [Bool.eq_iff_iff,Qr];simp [MapKept.bytes_beq]
theorem Xa8{s:ByteArray} : ∀ (l:List (ByteArray×Value×Nat)) (i:Nat),(findS l s=none∧Instr.findNow .string (.string s) (l.map entS) i=some none)∨∃ v j,findS l s=some v∧Instr.findNow .string (.string s) (l.map entS) i=some (some (j,v))
 | [],_=>.inl ⟨rfl,rfl⟩
 | p::l,i=>by
  by_cases hx:p.1=s
  ·have h2:(s==p.1)=true:=by rw [Xy6];exact decide_eq_true hx.symm
   have h3:decide (p.1=s)=true:=decide_eq_true hx
   exact .inr ⟨p.2.1,i,by simp [findS,List.find?_cons,h3],by simp only [List.map_cons,Instr.findNow,entS,Instr.sameNow,h2]⟩
  ·have h2:(s==p.1)=false:=by rw [Xy6];exact decide_eq_false fun e=>hx (Eq.symm e)
   have h3:decide (p.1=s)=false:=decide_eq_false hx
   have hs:Instr.findNow .string (.string s) ((p::l).map entS) i=Instr.findNow .string (.string s) (l.map entS) (i+1):=by
    simp only [List.map_cons,Instr.findNow,entS,Instr.sameNow,h2]
   have hf:findS (p::l) s=findS l s:=by simp [findS,List.find?_cons,h3]
   rw [hs,hf]
   exact Xa8 l (i+1)
section
variable {w w' : World} {b b' : Nat} {f : ByteArray → Option Value}
theorem MapS.lt(h:MapS w b f) : b<w.heap.size:=by
 obtain ⟨l,c,h,_⟩:=h
 rcases W4 b w.heap.size with h'|h'
 ·exact h'
 ·simp [We h'] at h
theorem MapS.keep(h:MapS w b f)(e:w'.heap[b]? = w.heap[b]?) : MapS w' b f:=let ⟨l,c,h,g⟩:=h;⟨l,c,e.trans h,g⟩
theorem MapS.below(h:MapS w b f)(hb:Below w.heap.size w w') : MapS w' b f:=h.keep (hb.block b h.lt)
theorem MapS.only(h:MapS w b f)(ho:Only b' w w')(hne:b≠b') : MapS w' b f:=h.keep (ho.block b hne)
theorem MapS.nc(h:MapS w b f) : NC w b:=fun l T fz e=>by
 obtain ⟨_,_,h,_⟩:=h
 rw [h] at e;cases e
theorem MapS.ne{T:TypeId}{l:List Value}(h:MapS w b f)(h':Blk w b' T l) : b≠b':=by
 rintro rfl;obtain ⟨_,_,h,_⟩:=h
 unfold Blk at h'
 rw [h] at h';cases h'
theorem MapS.app{α:Type}{B:Nat}{E:TypeId}{enc:α→List Value}{A:Option Addr}{l:List α}{sz n c c':Nat}(h:MapS w b f)(ho:Own w B E sz enc A c l)(hg:w.grownBy w' (Value.slice A n c').ownBlock) : MapS w' b f:=h.keep (h.nc.app h.lt ho hg)
end
section
variable {P : Program} {a : Act} {w : World} {n : Nat} {e : Env} {ty : TypeId} {pos : String} {af : Array Edge} {g : Option (Nat × Bool)} {d : Option Tmp} {b : Nat} {f : ByteArray → Option Value} {T K E : TypeId}
theorem Xmw{m x:Operand}{s:ByteArray}{z:Value}(hf:Fr a n e)(hm:ev e m=some (.map (some b)))(hx:ev e x=some (.string s))(hT:P.underlying T=some (.map K E))(hK:P.underlying K=some .string)(hz:∀ w,(zeroValue E).run P w=.ok z w)(h:MapS w b f) :
  Ev P ⟨d,.lookup T m x true,ty,pos,af,g⟩ a w (.tuple #[(f s).getD z,.bool (f s).isSome]):=fun w' hw=>by
 obtain ⟨l,clock,hL,hl⟩:=h.below hw
 have hck:∀ em,(Instr.checkKey em 10000 K (.string s)).run P w'=.ok () w':=fun em=>MapKept.run_checkKey hK (show MapKept.IsKey .string (.string s) from trivial) em 9999
 rcases Xa8 (s:=s) l 0 with ⟨h1,h2⟩|⟨v,j,h1,h2⟩
 ·rw [← hl s,h1]
  simp [execOp,Instr.lookup,hf.ev hm,hf.ev hx,X13 hT,getObj,Sem.run,hL,hck,Instr.findKey,X13 hK,h2,hz]
 ·rw [← hl s,h1]
  simp [execOp,Instr.lookup,hf.ev hm,hf.ev hx,X13 hT,getObj,Sem.run,hL,hck,Instr.findKey,X13 hK,h2]
theorem Xj5{m x y:Operand}{s:ByteArray}{v:Value}(hf:Fr a n e)(hm:ev e m=some (.map (some b)))(hx:ev e x=some (.string s))(hy:ev e y=some v)(hT:P.underlying T=some (.map K E))(hK:P.underlying K=some .string)(h:MapS w b f)(hnew:f s=none) :
  Ef P ⟨d,.mapUpdate T m x y,ty,pos,af,g⟩ a w (fun _ w'=>Only b w w'∧MapS w' b (updS f s v)):=by
 have hlt:=h.lt;obtain ⟨l,clock,hL,hl⟩:=h
 have hck:∀ em,(Instr.checkKey em 10000 K (.string s)).run P w=.ok () w:=fun em=>MapKept.run_checkKey hK (show MapKept.IsKey .string (.string s) from trivial) em 9999
 rcases Xa8 (s:=s) l 0 with ⟨h1,h2⟩|⟨u,j,h1,h2⟩
 ·refine (Ef.of_skip (w':={ w with heap:=w.heap.setIfInBounds b (.map ((l++[(s,v,clock)]).map entS).toArray (clock+1)) }) ?_).mono fun _ w' ⟨_,e2⟩=>?_
  ·simp [execOp,Instr.mapUpdate,hf.ev hm,hf.ev hx,hf.ev hy,X13 hT,getObj,hL,hck,Instr.findKey,X13 hK,h2,setObj,Sem.run,entS]
  ·subst e2
   refine ⟨Xp6,l++[(s,v,clock)],clock+1,?_,fun x=>?_⟩
   ·show (w.heap.setIfInBounds b _)[b]? = _
    simp [hlt]
   ·have hx0:=hl x
    unfold findS updS at *
    by_cases e:x=s
    ·subst e;rw [List.find?_append,Option.map_or,hx0,hnew];simp
    ·have e2:¬ s=x:=fun h=>e h.symm
     rw [List.find?_append,Option.map_or,hx0,Q3 e];simp [e2]
 ·rw [hl s,hnew] at h1;cases h1
theorem Xqs{m x y:Operand}{s:ByteArray}{v:Value}(hf:Fr a n e)(hm:ev e m=some (.map (some b)))(hx:ev e x=some (.string s))(hy:ev e y=some v)(hT:P.underlying T=some (.map K E))(hK:P.underlying K=some .string)(h:MapS w b f)(hnew:f s=none) :
  Ef P ⟨d,.insert T m x y,ty,pos,af,g⟩ a w (fun _ w'=>Only b w w'∧MapS w' b (updS f s v)):=Xj5 (ty:=ty) (pos:=pos) (af:=af) (g:=g) (d:=d) hf hm hx hy hT hK h hnew
theorem Xll:Ef P ⟨d,.makeMap T none,ty,pos,af,g⟩ a w (fun v w'=>∃ b,v=.map (some b)∧w.heap.size≤b∧Below w.heap.size w w'∧MapS w' b (fun _=>none)):=
 X9p.mono fun _ _ ⟨b,h1,h2,h3,h4⟩=>⟨b,h1,h2,h3,[],0,h4,fun _=>rfl⟩
theorem Xzf{m x y:Operand}{s:ByteArray}{v:Value}(hm:ev e m=some (.map (some b)))(hx:ev e x=some (.string s))(hy:ev e y=some v)(hT:P.underlying T=some (.map K E))(hK:P.underlying K=some .string)(h:MapS w b f)(hnew:f s=none) : EfW P ⟨d,.mapUpdate T m x y,ty,pos,af,g⟩ n e w (fun _ w'=>Only b w w'∧MapS w' b (updS f s v)):=fun _ hf=>Xj5 hf hm hx hy hT hK h hnew
theorem Xy4{m x y:Operand}{s:ByteArray}{v:Value}(hm:ev e m=some (.map (some b)))(hx:ev e x=some (.string s))(hy:ev e y=some v)(hT:P.underlying T=some (.map K E))(hK:P.underlying K=some .string)(h:MapS w b f)(hnew:f s=none) : EfW P ⟨d,.insert T m x y,ty,pos,af,g⟩ n e w (fun _ w'=>Only b w w'∧MapS w' b (updS f s v)):=fun _ hf=>Xqs hf hm hx hy hT hK h hnew
theorem Xx0:EfW P ⟨d,.makeMap T none,ty,pos,af,g⟩ n e w (fun v w'=>∃ b,v=.map (some b)∧w.heap.size≤b∧Below w.heap.size w w'∧MapS w' b (fun _=>none)):=fun _ _=>Xll
end
theorem Xac{l r:List Dy}(h:canL l=some r) : r.length=l.length:=by
 unfold canL at h
 obtain ⟨k,_,rfl⟩:=Option.map_eq_some_iff.1 h;exact Qo ..
def kyT(o:Option (List Dy)) : ByteArray:=⟨(txK (o.getD [])).toArray⟩
theorem Xia{l r:List Dy}(hl:canL l≠none)(hr:canL r≠none)(hn:l.length=r.length)(e:kyT (canL l)=kyT (canL r)) : canL l=canL r:=by
 cases h1:canL l with
 | none=>exact absurd h1 hl
 | some x=>
  cases h2:canL r with
  | none=>exact absurd h2 hr
  | some y=>
   rw [h1,h2] at e
   unfold kyT at e
   injection e with e
   simp only [Qq,Array.mk.injEq,List.toArray_inj] at e
   rw [Xru (by rw [Xac h1,Xac h2,hn]) e]
theorem Xgn{n:Nat}(hn:n=1∨n=2){M:Mx}(hM:mOk M=true)(hr:M.rows=((2^n:Nat) : Int))(hc:M.cols=((2^n:Nat) : Int)) : M.cells.length=2^n*2^n:=by
 unfold mOk at hM
 simp only [Qd,beq_iff_eq] at hM
 have:=hM.1.2
 rw [hr,hc] at this
 rcases hn with rfl|rfl
 ·rw [show wr (((2^1:Nat) : Int)*((2^1:Nat) : Int))=4 from by decide] at this;omega
 ·rw [show wr (((2^2:Nat) : Int)*((2^2:Nat) : Int))=16 from by decide] at this;omega
theorem X4p{n:Nat}(hn:n=1∨n=2){k:Nat}(hk:k≤8){w:List Gt}(hw:w ∈ wds (gsT n) k) : (valW n w).cells.length=2^n*2^n:=by
 obtain ⟨h1,h2,h3,_⟩:=X2b hn hk hw;exact Xgn hn h1 h2 h3
def tbW(n k:Nat) : (ByteArray→Option (List Gt))×List (List Gt):=grT (gsT n) (fun w=>kyT (kyW n w)) k
theorem Xkv{n:Nat}(hn:n=1∨n=2) : ∀ i j u v,i≤8→j≤8→u ∈ wds (gsT n) i→v ∈ wds (gsT n) j→kyT (kyW n u)=kyT (kyW n v)→kyW n u=kyW n v:=
 fun _ _ _ _ hi hj hu hv e=>Xia (X2b hn hi hu).2.2.2 (X2b hn hj hv).2.2.2 (by rw [X4p hn hi hu,X4p hn hj hv]) e
theorem Xm0{n:Nat}(hn:n=1∨n=2){M:Mx}(hM:mOk M=true)(hr:M.rows=((2^n:Nat) : Int))(hc:M.cols=((2^n:Nat) : Int))(hz:canL M.cells≠none){k:Nat}(hk:k≤8) :
  (tbW n k).1 (kyT (canL M.cells))=lsW (gsT n) (fun w=>phaseS (valW n w) M) k:=
 Xow hn kyT (Xkv hn) hM hr hc hz (fun _ _ hi hu e=>Xia (X2b hn hi hu).2.2.2 hz (by rw [X4p hn hi hu,Xgn hn hM hr hc]) e) hk
theorem Xr0{n:Nat}(k:Nat) : ∀ w,w ∈ (tbW n k).2→w ∈ wds (gsT n) k:=fun w h=>Xhq (gsT n) (fun w=>kyT (kyW n w)) k w h
theorem X8m{G K:Type}[DecidableEq K](ky:List G→K) : ∀ (l m:List (List G)) (T:K→Option (List G)),enT ky T (l++m)=((enT ky (enT ky T l).1 m).1,(enT ky T l).2++(enT ky (enT ky T l).1 m).2)
 | [],m,T=>by simp [enT]
 | w::l,m,T=>by
  rw [Wa]
  simp only [enT]
  cases T (ky w) with
  | some x=>exact X8m ky l m T
  | none=>simp only [X8m ky l m,Wa]
theorem Xk5{G K:Type}[DecidableEq K]{ky:List G→K}{T:K→Option (List G)}{w:List G}(h:(T (ky w)).isSome=true) : enT ky T [w]=(T,[]):=by
 simp only [enT]
 cases e:T (ky w) with
 | none=>rw [e] at h;cases h
 | some x=>rfl
theorem Xta{G K:Type}[DecidableEq K]{ky:List G→K}{T:K→Option (List G)}{w:List G}(h:T (ky w)=none) : enT ky T [w]=((fun q=>if q=ky w then some w else T q),[w]):=by
 simp only [enT,h]
def rndW{G:Type}(gs:List G)(lev:List (List G))(i j:Nat) : List (List G):=((lev.take i).flatMap fun u=>gs.map fun g=>u++[g])++((gs.take j).map fun g=>(lev.getD i [])++[g])
theorem Xk9{G:Type}(gs:List G)(lev:List (List G)) : rndW gs lev 0 0=[]:=by simp [rndW]
theorem Xbw{G:Type}{gs:List G}{lev:List (List G)}{i j:Nat}{g:G}(hg:gs[j]? = some g) : rndW gs lev i (j+1)=rndW gs lev i j++[(lev.getD i [])++[g]]:=by
 unfold rndW
 rw [Qx,Qt,hg]
 simp
theorem Xk6{G:Type}{gs:List G}{lev:List (List G)}{i:Nat}(hi:i<lev.length) : rndW gs lev (i+1) 0=rndW gs lev i gs.length:=by
 have e:lev.getD i []=lev[i]:=by rw [Qa,Qc hi];rfl
 unfold rndW
 rw [Qt,Qc hi,e]
 simp only [List.flatMap_append,Option.toList_some,Wc,List.flatMap_nil,List.append_nil,List.take_zero,List.map_nil,List.take_length]
theorem Xe9{G:Type}(gs:List G)(lev:List (List G)) : rndW gs lev lev.length 0=lev.flatMap fun u=>gs.map fun g=>u++[g]:=by
 simp [rndW]
structure Tw where (A:Option Addr) (c:Nat) (w:List Gt) (m:Mx) (B:Option Addr) (d:Nat)
def encTw(t:Tw) : List Value:=[.slice t.A t.w.length t.c,.int .i64 t.m.rows,.int .i64 t.m.cols,.slice t.B t.m.cells.length t.d]
theorem X7i:∀ x,(encTw x).length=4:=fun _=>rfl
theorem Xli:∀ x,(encTw x).all one=true:=fun _=>rfl
def DeepT(w:World)(B:Nat)(E F:TypeId)(l:List Tw) : Prop:=∀ t ∈ l,Rd w B E encG t.A t.w∧Rd w B F encD t.B t.m.cells
structure Sq where (A:Option Addr) (c:Nat) (w:List Gt)
abbrev Sq.v(s:Sq) : Value:=.slice s.A s.w.length s.c
def DeepM(w:World)(B:Nat)(E:TypeId)(f:ByteArray→Option Sq) : Prop:=∀ s x,f s=some x→Rd w B E encG x.A x.w
def sgF(f:ByteArray→Option Sq) : ByteArray→Option Value:=fun s=>(f s).map Sq.v
def sgL(f:ByteArray→Option Sq) : ByteArray→Option (List Gt):=fun s=>(f s).map Sq.w
def updG(f:ByteArray→Option Sq)(s:ByteArray)(x:Sq) : ByteArray→Option Sq:=fun q=>if q=s then some x else f q
theorem Xje(f:ByteArray→Option Sq)(s:ByteArray)(x:Sq) : updS (sgF f) s x.v=sgF (updG f s x):=funext fun q=>by
 unfold updS sgF updG;split<;>rfl
theorem Xid(f:ByteArray→Option Sq)(s:ByteArray)(x:Sq) : sgL (updG f s x)=fun q=>if q=s then some x.w else sgL f q:=funext fun q=>by
 unfold sgL updG;split<;>rfl
section
variable {w w' : World} {B : Nat} {E F : TypeId} {l : List Tw} {f : ByteArray → Option Sq}
theorem DeepT.nil(w:World)(B:Nat)(E F:TypeId) : DeepT w B E F []:=fun s hs=>by simp at hs
theorem DeepT.snoc{x:Tw}(h:DeepT w B E F l)(h1:Rd w B E encG x.A x.w)(h2:Rd w B F encD x.B x.m.cells) : DeepT w B E F (l++[x]):=fun s hs=>by
 rcases Qu.1 hs with hs|hs
 ·exact h s hs
 ·obtain rfl:=Qm.1 hs;exact ⟨h1,h2⟩
theorem DeepT.below(h:DeepT w B E F l)(hb:Below w.heap.size w w') : DeepT w' B E F l:=fun s hs=>⟨(h s hs).1.below hb,(h s hs).2.below hb⟩
theorem DeepT.top(h:DeepT w B E F l) : DeepT w w.heap.size E F l:=fun s hs=>⟨(h s hs).1.top,(h s hs).2.top⟩
theorem DeepT.only{b:Nat}(h:DeepT w B E F l)(ho:Only b w w')(hB:B≤b) : DeepT w' B E F l:=fun s hs=>⟨(h s hs).1.only ho hB,(h s hs).2.only ho hB⟩
theorem DeepT.onlyN{b:Nat}(h:DeepT w B E F l)(ho:Only b w w')(hm:NC w b) : DeepT w' B E F l:=fun s hs=>⟨(h s hs).1.onlyN ho hm,(h s hs).2.onlyN ho hm⟩
theorem DeepT.onlyT{b:Nat}{T:TypeId}{lc:List Value}(h:DeepT w B E F l)(ho:Only b w w')(hb:Blk w b T lc)(hT:Nat.beq E T=false)(hT':Nat.beq F T=false) : DeepT w' B E F l:=fun s hs=>⟨(h s hs).1.onlyT ho hb hT,(h s hs).2.onlyT ho hb hT'⟩
theorem DeepT.appT{B0:Nat}{E':TypeId}{sz:Nat}{α:Type}{enc:α→List Value}{A:Option Addr}{c:Nat}{m:List α}(h:DeepT w B E F l)(ho:Own w B0 E' sz enc A c m)(hg:w.grownBy w' (Value.slice A m.length c).ownBlock)(hT:Nat.beq E' E=false)(hT':Nat.beq E' F=false) : DeepT w' B E F l:=fun s hs=>⟨(h s hs).1.appT ho hg hT,(h s hs).2.appT ho hg hT'⟩
theorem DeepT.one{x:Tw}(h1:Rd w B E encG x.A x.w)(h2:Rd w B F encD x.B x.m.cells) : DeepT w B E F [x]:=DeepT.snoc (DeepT.nil w B E F) h1 h2
theorem DeepM.below(h:DeepM w B E f)(hb:Below w.heap.size w w') : DeepM w' B E f:=fun s x hs=>(h s x hs).below hb
theorem DeepM.top(h:DeepM w B E f) : DeepM w w.heap.size E f:=fun s x hs=>(h s x hs).top
theorem DeepM.only{b:Nat}(h:DeepM w B E f)(ho:Only b w w')(hB:B≤b) : DeepM w' B E f:=fun s x hs=>(h s x hs).only ho hB
theorem DeepM.onlyN{b:Nat}(h:DeepM w B E f)(ho:Only b w w')(hm:NC w b) : DeepM w' B E f:=fun s x hs=>(h s x hs).onlyN ho hm
theorem DeepM.onlyT{b:Nat}{T:TypeId}{lc:List Value}(h:DeepM w B E f)(ho:Only b w w')(hb:Blk w b T lc)(hT:Nat.beq E T=false) : DeepM w' B E f:=fun s x hs=>(h s x hs).onlyT ho hb hT
theorem DeepM.appT{B0:Nat}{E':TypeId}{sz:Nat}{α:Type}{enc:α→List Value}{A:Option Addr}{c:Nat}{m:List α}(h:DeepM w B E f)(ho:Own w B0 E' sz enc A c m)(hg:w.grownBy w' (Value.slice A m.length c).ownBlock)(hT:Nat.beq E' E=false) : DeepM w' B E f:=fun s x hs=>(h s x hs).appT ho hg hT
theorem DeepM.none(w:World)(B:Nat)(E:TypeId) : DeepM w B E (fun _=>Option.none):=fun _ _ h=>by cases h
theorem Xda(h:DeepM w B E f)(s:ByteArray) : ∃ A c,((sgF f) s).getD (.slice Option.none 0 0)=.slice A (((sgL f) s).getD []).length c∧((sgF f) s).isSome=((sgL f) s).isSome∧Rd w B E encG A (((sgL f) s).getD []):=by
 unfold sgF sgL
 cases e:f s with
 | none=>exact ⟨Option.none,0,rfl,rfl,Rd.nil _ _ _ _ _⟩
 | some x=>exact ⟨x.A,x.c,rfl,rfl,h s x e⟩
theorem Xor{f:ByteArray→Option Sq}{s:ByteArray}(h:sgL f s=Option.none) : sgF f s=Option.none:=by
 unfold sgF sgL at *
 cases e:f s with
 | none=>rfl
 | some x=>rw [e] at h;cases h
theorem DeepM.upd{s:ByteArray}{x:Sq}(h:DeepM w B E f)(hx:Rd w B E encG x.A x.w) : DeepM w B E (updG f s x):=fun q y hy=>by
 unfold updG at hy
 split at hy
 ·injection hy with hy;subst hy;exact hx
 ·exact h q y hy
end
end Go.Proofs.YtblmmikapnflcaaGreatDoor
namespace Go.Proofs.YtblmmikapnflcaaGreatDoor
theorem Xc3{G:Type}{gs:List G}{P:List G→Bool}{w:List G} : ∀ {k},lsW gs P k=some w→∃ j,j≤k∧w ∈ wds gs j∧P w=true
 | 0,h=>⟨0,Qb _,List.mem_of_find?_eq_some h,List.find?_some h⟩
 | k+1,h=>by
  unfold lsW at h
  cases e:lsW gs P k with
  | some x=>
   rw [e] at h
   obtain rfl:x=w:=by simpa using h
   obtain ⟨j,hj,h1⟩:=Xc3 e;exact ⟨j,by omega,h1⟩
  | none=>
   rw [e,Option.none_or] at h
   exact ⟨k+1,Qb _,List.mem_of_find?_eq_some h,List.find?_some h⟩
def mstW(n:Nat) : Nat:=if n=2 then 4 else 8
def nW(m:Mx) : Nat:=if m.rows=4 then 2 else 1
def sqW(m:Mx) : Bool:=mOk m&&(decide (m.rows=m.cols)&&(decide (m.rows=2)||decide (m.rows=4)))
def shS(m:Mx) : Option (List Gt):=if sqW m=true then lsW (gsT (nW m)) (fun w=>phaseS (valW (nW m) w) m) (mstW (nW m)) else none
def shI(m:Mx) : Option (List Gt):=if (sqW m&&(canL m.cells).isSome)=true then (tbW (nW m) (mstW (nW m))).1 (kyT (canL m.cells)) else none
def srS(n:Nat)(M:Mx) : Nat→Option (List Gt)
 | 0=>fdS n M 0 (unitS (2^n))
 | k+1=>(srS n M k).or (fdS n M (k+1) (unitS (2^n)))
theorem Xp2{n:Nat}(hn:n=1∨n=2)(M:Mx) : ∀ k,k≤8→srS n M k=lsW (gsT n) (fun w=>phaseS (valW n w) M) k
 | 0,h=>X9s hn M h
 | k+1,h=>by unfold srS lsW;rw [Xp2 hn M k (by omega),X9s hn M h]
def szD(l:List Dy)(left:Int) : Int:=if left-(l.length:Int)<0 then -1 else left-(l.length:Int)
def dimS(n:Int) : Bool:=[1,2,4,8,16,32].any fun y=>y==n
def cmI(x y:Int) : Int:=if x<y then -1 else if y<x then 1 else 0
def cmL:List Int→List Int→Int
 | [],[]=>0
 | [],_::_=>-1
 | _::_,[]=>1
 | x::l,y::r=>if cmI x y≠0 then cmI x y else cmL l r
theorem Xlq{p q:List Int}{k:Nat}{u v:Int}(hp:p[k]? = some u)(hq:q[k]? = some v) : cmL (p.drop k) (q.drop k)=if cmI u v≠0 then cmI u v else cmL (p.drop (k+1)) (q.drop (k+1)):=by
 obtain ⟨h1,h2⟩:=Qg.1 hp;obtain ⟨h3,h4⟩:=Qg.1 hq
 rw [Qy h1,Qy h3,cmL,h2,h4]
theorem Xmb{p q:List Int}{k:Nat}{u:Int}(hp:p[k]? = some u)(hq:q.length≤k) : cmL (p.drop k) (q.drop k)=1:=by
 obtain ⟨h1,h2⟩:=Qg.1 hp
 rw [Qy h1,W3 hq,cmL]
theorem Xj9{p q:List Int}{k:Nat}(hp:p.length≤k)(hk:k≤q.length) : cmL (p.drop k) (q.drop k)=if k<q.length then -1 else 0:=by
 rw [W3 hp]
 by_cases h:k<q.length
 ·rw [Qy h,cmL,Q4 h]
 ·rw [W3 (by omega),cmL,Q3 h]
def cmR(x y:Rg) : Int:=cmL [x.a,x.b,x.c,x.d] [y.a,y.b,y.c,y.d]
theorem X8j(x y:Int) : 0<cmI x y↔y<x:=by unfold cmI;split<;>(try split)<;>omega
theorem X6z(x y:Int) : cmI x y=0↔x=y:=by unfold cmI;split<;>(try split)<;>omega
theorem Xi3(x y:Rg) : decide (0<cmR x y)=rLess y x:=by
 rw [Bool.eq_iff_iff,Qr,X5f]
 unfold cmR
 simp only [cmL]
 have za:=X6z x.a y.a;have zb:=X6z x.b y.b;have zc:=X6z x.c y.c;have zd:=X6z x.d y.d
 have pa:=X8j x.a y.a;have pb:=X8j x.b y.b;have pc:=X8j x.c y.c;have pd:=X8j x.d y.d
 by_cases h1:cmI x.a y.a=0
 ·by_cases h2:cmI x.b y.b=0
  ·by_cases h3:cmI x.c y.c=0
   ·by_cases h4:cmI x.d y.d=0
    ·simp only [h1,h2,h3,h4];simp;omega
    ·simp only [h1,h2,h3];simp [h4];omega
   ·simp only [h1,h2];simp [h3];omega
  ·simp only [h1];simp [h2];omega
 ·simp [h1];omega
def idxF{α:Type}(l:List α)(q:α→Bool) : Int:=match l.findIdx? q with
 | some k=>(k:Int)
 | none=>-1
theorem Xx1{α:Type}{q:α→Bool} : ∀ {l:List α} {k:Nat} {u:α},((l.take k).all fun x=>!q x)=true→l[k]? = some u→q u=true→idxF l q=(k:Int):=by
 intro l k u h1 h2 h3;obtain ⟨h4,h5⟩:=Qg.1 h2
 have:l.findIdx? q=some k:=by
  rw [List.findIdx?_eq_some_iff_getElem]
  refine ⟨h4,by rw [h5];exact h3,fun j hj=>?_⟩
  have:=W1.1 h1 l[j] (by rw [List.mem_iff_getElem];exact ⟨j,by simp;omega,by simp⟩)
  simpa using this
 unfold idxF;rw [this]
theorem Xlz{α:Type}{q:α→Bool}{l:List α}(h:l.any q=false) : idxF l q = -1:=by
 have:l.findIdx? q=none:=by rw [List.findIdx?_eq_none_iff];intro x hx;have:=W7.1 h x hx;simpa using this
 unfold idxF;rw [this]
end Go.Proofs.YtblmmikapnflcaaGreatDoor
namespace Go.Proofs
open Go.Shelf
def Tryz.lays156_ren:Go.Shelf.Ren:=⟨fun|156=>66|165=>120|166=>121|169=>122|240=>176|241=>177|276=>206|277=>207|n=>n,fun|31=>105|9=>9|3=>3|4=>4|0=>0|20=>20|72=>163|76=>167|70=>160|37=>161|75=>166|127=>205|164=>228|5=>5|80=>169|n=>n,fun|n=>n⟩
theorem Tryz.lays156:Go.Proofs.Lays.n156 Tryz.prog Tryz.lays156_ren:={
  mixed:=by kernel_rfl
  f156:=Tryz.func66.trans (congrArg some (by kernel_rfl))
  f165:=Tryz.func120.trans (congrArg some (by kernel_rfl))
  f166:=Tryz.func121.trans (congrArg some (by kernel_rfl))
  f169:=Tryz.func122.trans (congrArg some (by kernel_rfl))
  f240:=Tryz.func176.trans (congrArg some (by kernel_rfl))
  f241:=Tryz.func177.trans (congrArg some (by kernel_rfl))
  f276:=Tryz.func206.trans (congrArg some (by kernel_rfl))
  f277:=Tryz.func207.trans (congrArg some (by kernel_rfl))
  t0:=Tryz.underlying0
  a0:=Tryz.isAgg0
  z0:=Tryz.sizeOf0
  v0:=Tryz.zeroValue0
  t3:=Tryz.underlying3
  a3:=Tryz.isAgg3
  z3:=Tryz.sizeOf3
  v3:=Tryz.zeroValue3
  t4:=Tryz.underlying4
  a4:=Tryz.isAgg4
  z4:=Tryz.sizeOf4
  v4:=Tryz.zeroValue4
  t9:=Tryz.underlying9
  a9:=Tryz.isAgg9
  z9:=Tryz.sizeOf9
  v9:=Tryz.zeroValue9
  t20:=Tryz.underlying20
  a20:=Tryz.isAgg20
  z20:=Tryz.sizeOf20
  v20:=Tryz.zeroValue20
  t31:=Tryz.underlying105
  a31:=Tryz.isAgg105
  z31:=Tryz.sizeOf105
  v31:=Tryz.zeroValue105
  t37:=Tryz.underlying161
  a37:=Tryz.isAgg161
  z37:=Tryz.sizeOf161
  v37:=Tryz.zeroValue161
  t70:=Tryz.underlying160
  a70:=Tryz.isAgg160
  z70:=Tryz.sizeOf160
  v70:=Tryz.zeroValue160
  t72:=Tryz.underlying163
  a72:=Tryz.isAgg163
  z72:=Tryz.sizeOf163
  v72:=Tryz.zeroValue163
  t75:=Tryz.underlying166
  a75:=Tryz.isAgg166
  z75:=Tryz.sizeOf166
  v75:=Tryz.zeroValue166
  t76:=Tryz.underlying167
  a76:=Tryz.isAgg167
  z76:=Tryz.sizeOf167
  v76:=Tryz.zeroValue167
  t127:=Tryz.underlying205
  a127:=Tryz.isAgg205
  z127:=Tryz.sizeOf205
  v127:=Tryz.zeroValue205
  t164:=Tryz.underlying228
  a164:=Tryz.isAgg228
  z164:=Tryz.sizeOf228
  v164:=Tryz.zeroValue228 }
theorem Tryz.Builder_Extra_156:Builder.Extra Tryz.prog Tryz.lays156_ren:={
  sizeBuilder:=by kernel_rfl
  liesBuilder:=by kernel_rfl
  t5:=Tryz.underlying5
  a5:=Tryz.isAgg5
  z5:=Tryz.sizeOf5
  v5:=Tryz.zeroValue5
  infoByte:=by kernel_rfl
  cellsByte:=by kernel_rfl
  sizeByte:=by kernel_rfl
  neB5:=by decide }
open Go.RowKit in
theorem Tryz.strings_Join_none(a:Option Addr)(c:Nat)(sep:ByteArray)(w:World) :
    Calls Tryz.prog 66 #[.slice a 0 c,.string sep] w fun e w'=>e=.returned (.string ⟨#[]⟩)∧w'=w:=Any.strings_Join_none Tryz.lays156 Tryz.Builder_Extra_156 a c sep w
open Go.RowKit in
theorem Tryz.strings_Join(bk o c:Nat)(xs:List ByteArray)(sep:ByteArray)(w:World)(hcells:∀ (j:Nat) x,xs[j]? = some x→w.cell? ⟨bk,o+j,none⟩=some (.string x))(hbk:bk<w.heap.size)(hN:xs.length≤140737488355328)(hcap:xs.length≤c)(hlen:(Lib.join (xs.map (·.data.toList)) sep.data.toList).length≤140737488355328) :
    Calls Tryz.prog 66 #[.slice (some ⟨bk,o,none⟩) xs.length c,.string sep] w fun e w'=>e=.returned (.string ⟨(Lib.join (xs.map (·.data.toList)) sep.data.toList).toArray⟩)∧Below w.heap.size w w':=Any.strings_Join Tryz.lays156 Tryz.Builder_Extra_156 bk o c xs sep w hcells hbk hN hcap hlen
def Tryz.laysM171_ren:Go.Shelf.Ren:=⟨fun|171=>119|243=>175|246=>205|283=>223|284=>224|285=>225|286=>226|129=>238|317=>248|318=>249|319=>250|320=>251|337=>262|338=>263|n=>n,fun|3=>3|9=>9|2=>2|4=>4|171=>240|0=>0|53=>241|37=>161|5=>5|173=>244|212=>269|51=>255|20=>20|213=>270|46=>185|232=>281|233=>282|n=>n,fun|17=>1|18=>2|19=>3|n=>n⟩
theorem Tryz.laysM171:Go.Proofs.LaysM.n171 Tryz.prog Tryz.laysM171_ren:={
  mixed:=by kernel_rfl
  f129:=Tryz.func238.trans (congrArg some (by kernel_rfl))
  f171:=Tryz.func119.trans (congrArg some (by kernel_rfl))
  f243:=Tryz.func175.trans (congrArg some (by kernel_rfl))
  f246:=Tryz.func205.trans (congrArg some (by kernel_rfl))
  f283:=Tryz.func223.trans (congrArg some (by kernel_rfl))
  f284:=Tryz.func224.trans (congrArg some (by kernel_rfl))
  f285:=Tryz.func225.trans (congrArg some (by kernel_rfl))
  f286:=Tryz.func226.trans (congrArg some (by kernel_rfl))
  f317:=Tryz.func248.trans (congrArg some (by kernel_rfl))
  f318:=Tryz.func249.trans (congrArg some (by kernel_rfl))
  f319:=Tryz.func250.trans (congrArg some (by kernel_rfl))
  f320:=Tryz.func251.trans (congrArg some (by kernel_rfl))
  f337:=Tryz.func262.trans (congrArg some (by kernel_rfl))
  f338:=Tryz.func263.trans (congrArg some (by kernel_rfl))
  t0:=Tryz.underlying0
  a0:=Tryz.isAgg0
  z0:=Tryz.sizeOf0
  v0:=Tryz.zeroValue0
  t2:=Tryz.underlying2
  a2:=Tryz.isAgg2
  z2:=Tryz.sizeOf2
  v2:=Tryz.zeroValue2
  t3:=Tryz.underlying3
  a3:=Tryz.isAgg3
  z3:=Tryz.sizeOf3
  v3:=Tryz.zeroValue3
  t4:=Tryz.underlying4
  a4:=Tryz.isAgg4
  z4:=Tryz.sizeOf4
  v4:=Tryz.zeroValue4
  t5:=Tryz.underlying5
  a5:=Tryz.isAgg5
  z5:=Tryz.sizeOf5
  v5:=Tryz.zeroValue5
  t9:=Tryz.underlying9
  a9:=Tryz.isAgg9
  z9:=Tryz.sizeOf9
  v9:=Tryz.zeroValue9
  t20:=Tryz.underlying20
  a20:=Tryz.isAgg20
  z20:=Tryz.sizeOf20
  v20:=Tryz.zeroValue20
  t37:=Tryz.underlying161
  a37:=Tryz.isAgg161
  z37:=Tryz.sizeOf161
  v37:=Tryz.zeroValue161
  t46:=Tryz.underlying185
  a46:=Tryz.isAgg185
  z46:=Tryz.sizeOf185
  v46:=Tryz.zeroValue185
  t51:=Tryz.underlying255
  a51:=Tryz.isAgg255
  z51:=Tryz.sizeOf255
  v51:=Tryz.zeroValue255
  t53:=Tryz.underlying241
  a53:=Tryz.isAgg241
  z53:=Tryz.sizeOf241
  v53:=Tryz.zeroValue241
  t171:=Tryz.underlying240
  a171:=Tryz.isAgg240
  z171:=Tryz.sizeOf240
  v171:=Tryz.zeroValue240
  t173:=Tryz.underlying244
  a173:=Tryz.isAgg244
  z173:=Tryz.sizeOf244
  v173:=Tryz.zeroValue244
  t212:=Tryz.underlying269
  a212:=Tryz.isAgg269
  z212:=Tryz.sizeOf269
  v212:=Tryz.zeroValue269
  t213:=Tryz.underlying270
  a213:=Tryz.isAgg270
  z213:=Tryz.sizeOf270
  t232:=Tryz.underlying281
  a232:=Tryz.isAgg281
  z232:=Tryz.sizeOf281
  v232:=Tryz.zeroValue281
  t233:=Tryz.underlying282
  a233:=Tryz.isAgg282
  z233:=Tryz.sizeOf282
  v233:=Tryz.zeroValue282
  g17:=by kernel_rfl
  g18:=by kernel_rfl
  g19:=by kernel_rfl
  i0:=by kernel_rfl
  i2:=by kernel_rfl
  i3:=by kernel_rfl
  i4:=by kernel_rfl
  i5:=by kernel_rfl
  i9:=by kernel_rfl
  i20:=by kernel_rfl
  i37:=by kernel_rfl
  i46:=by kernel_rfl
  i51:=by kernel_rfl
  i53:=by kernel_rfl
  i171:=by kernel_rfl
  i173:=by kernel_rfl
  i212:=by kernel_rfl
  i232:=by kernel_rfl
  i233:=by kernel_rfl
  m17:=by kernel_rfl
  m18:=by kernel_rfl
  m19:=by kernel_rfl }
open Go.RowKit Go.Sort Go.Lib in
theorem Tryz.strconv_Itoa (n : Int) (h0 : -9223372036854775808 ≤ n) (h1 : n ≤ 9223372036854775807) (w : World) (htab : Lib.TabIs Tryz.prog w "internal/strconv.uint64pow10" .u64 Lib.pow10Tab) :
    Calls Tryz.prog 119 #[.int .i64 n] w fun e w'=>e=.returned (.string ⟨(Lib.itoa n).toArray⟩)∧∃ k os,w'=grow (w.drewN k) os:=Any.strconv_Itoa Tryz.laysM171 n h0 h1 w htab
end Go.Proofs
namespace Go.Proofs.YtblmmikapnflcaaGreatDoor
open Go.RowKit Go.Sort
def encTx(s:ByteArray) : List Value:=[.string s]
theorem X7e:∀ x,(encTx x).length=1:=fun _=>rfl
theorem Xbl:∀ x,(encTx x).all one=true:=fun _=>rfl
def PowT (w : World) : Prop := ∀ w', Below w.heap.size w w' → Lib.TabIs Tryz.prog w' "internal/strconv.uint64pow10" .u64 Lib.pow10Tab
theorem PowT.of{w0 w:World}(h:PowT w0)(hW:Below w0.heap.size w0 w) : PowT w:=fun w' hw=>h w' (hW.trans (hw.mono hW.size))
def tx(l:List UInt8) : ByteArray:=⟨l.toArray⟩
theorem Xc7(l:List UInt8) : (tx l).data.toList=l:=rfl
theorem X59(l:List UInt8) : (tx l).size=l.length:=by simp [tx,ByteArray.size]
theorem Xh5(l r:List UInt8) : tx l++tx r=tx (l++r):=by
 apply ByteArray.ext
 simp [tx]
theorem Xe8(w:World)(k:Nat)(os:Array Obj) : Below w.heap.size w (grow (w.drewN k) os):=
 ⟨rfl,rfl,rfl,by simp [grow,World.drewN],fun i hi=>by simp only [grow,World.drewN];rw [Array.getElem?_append_left hi]⟩
section
variable {P : Program} {a : Act} {w : World} {n : Nat} {e : Env} {ty : TypeId} {pos : String} {af : Array Edge} {g : Option (Nat × Bool)} {d : Option Tmp} {t t' : TypeId}
theorem Xoi{x y:Operand}{s r:ByteArray}(hf:Fr a n e)(hx:ev e x=some (.string s))(hy:ev e y=some (.string r))(hb:s.size+r.size≤9223372036854775807) : Ev P ⟨d,.binOp .add t x y t',ty,pos,af,g⟩ a w (.string (s++r)):=fun w' _=>by
 have h2:¬ (((s.size+r.size:Nat) : Int)>IntKind.i64.max):=by
  have:IntKind.i64.max=9223372036854775807:=rfl
  omega
 simp only [execOp,hf.ev hx,hf.ev hy]
 simp [eqGuard,binOp,Op.stringOp]
 simpa using h2
theorem Xpr{x y:Operand}{s r:ByteArray}(hx:ev e x=some (.string s))(hy:ev e y=some (.string r))(hb:s.size+r.size≤9223372036854775807) : EvW P ⟨d,.binOp .add t x y t',ty,pos,af,g⟩ n e w (.string (s++r)):=fun _ hf=>Xoi hf hx hy hb
theorem Xpb{T K E:TypeId}{b c k:Nat}{o:Bool}{A:Option Addr}{f:ByteArray→Option Sq}{m x:Operand}{s:ByteArray}(hf:Fr a n e)(hm:ev e m=some (.map (some b)))(hx:ev e x=some (.string s))(hT:P.underlying T=some (.map K E))(hK:P.underlying K=some .string)(hz:ZeroT P E (.slice none 0 0))(h:MapS w b (sgF f))(hv:(sgF f s).getD (.slice none 0 0)=.slice A k c)(hb:(sgF f s).isSome=o) :
  Ev P ⟨d,.lookup T m x true,ty,pos,af,g⟩ a w (.tuple #[.slice A k c,.bool o]):=by
 have hq:=Xmw (d:=d) (ty:=ty) (pos:=pos) (af:=af) (g:=g) hf hm hx hT hK (X5z hz) h
 rw [hv,hb] at hq
 exact hq
theorem Xh0{T K E:TypeId}{b c k:Nat}{o:Bool}{A:Option Addr}{f:ByteArray→Option Sq}{m x:Operand}{s:ByteArray}(hm:ev e m=some (.map (some b)))(hx:ev e x=some (.string s))(hT:P.underlying T=some (.map K E))(hK:P.underlying K=some .string)(hz:ZeroT P E (.slice none 0 0))(h:MapS w b (sgF f))(hv:(sgF f s).getD (.slice none 0 0)=.slice A k c)(hb:(sgF f s).isSome=o) :
  EvW P ⟨d,.lookup T m x true,ty,pos,af,g⟩ n e w (.tuple #[.slice A k c,.bool o]):=fun _ hf=>Xpb hf hm hx hT hK hz h hv hb
end
theorem Xne:ZeroT Tryz.prog 26 (.slice none 0 0):=X1q (by kernel_rfl)
theorem Xto(w:World)(n:Int)(h0:-9223372036854775808≤n)(h1:n≤9223372036854775807)(hp:PowT w) : Ret Tryz.prog 119 [.int .i64 n] w (fun v w'=>v=.string (tx (Lib.itoa n))∧Below w.heap.size w w'):=
 Calls.mono (Tryz.strconv_Itoa n h0 h1 w (hp w (Below.refl _ _))) fun _ _ ⟨he,k,os,hw⟩=>⟨_,he,rfl,by subst hw;exact Xe8 w k os⟩
def joT(l:List ByteArray)(s:ByteArray) : ByteArray:=tx (Lib.join (l.map (·.data.toList)) s.data.toList)
theorem Xua(w:World){B:Nat}{E:TypeId}(A:Option Addr)(c:Nat)(l:List ByteArray)(s:ByteArray)(hr:Rd w B E encTx A l)(hc:l.length≤c)(hl:l.length≤1048576)(hb:(Lib.join (l.map (·.data.toList)) s.data.toList).length≤140737488355328) :
  Ret Tryz.prog 66 [.slice A l.length c,.string s] w (fun v w'=>v=.string (joT l s)∧Below w.heap.size w w'):=by
 by_cases h:l=[]
 ·subst h
  exact Calls.mono (Tryz.strings_Join_none A c s w) fun _ _ ⟨he,hw⟩=>⟨_,he,rfl,by rw [hw];exact Below.refl _ _⟩
 ·obtain ⟨b,off,cs,fz,rfl,h2,h3,h4⟩:=hr h
  have hlt:b<w.heap.size:=(Qp.1 h3).1
  refine Calls.mono (Tryz.strings_Join b off c l s w (fun j x hj=>?_) hlt (by omega) hc hb) fun _ _ ⟨he,hw⟩=>⟨_,he,rfl,hw⟩
  have h5:=h4 j (.string x) (by
   have:=X4b X7e l j x hj 0 (.string x) rfl
   simpa using this)
  simp only [World.cell?,h3]
  simpa using h5
end Go.Proofs.YtblmmikapnflcaaGreatDoor
namespace Go.Proofs.YtblmmikapnflcaaGreatDoor
open Go.RowKit
theorem X3e{n:Int}(h0:-9223372036854775808≤n)(h1:n≤9223372036854775807) : (Lib.itoa n).length≤21:=by
 unfold Lib.itoa
 split
 ·rw [Qs,Lib.decDigits_length]
  have:=Lib.nDigits_le20 n.natAbs (by omega);omega
 ·rw [Lib.decDigits_length]
  have:=Lib.nDigits_le20 n.toNat (by omega);omega
theorem Xcp{K:Nat}(sep:List UInt8) : ∀ xs:List (List UInt8),(∀ x ∈ xs,x.length≤K)→(Lib.join xs sep).length≤xs.length*(K+sep.length)
 | [],_=>by simp [Lib.join]
 | [x],h=>by rw [Lib.join_one];have:=h x (Qk ..);simp;omega
 | x::y::l,h=>by
  have ih:=Xcp sep (y::l) fun z hz=>h z (Ql _ hz)
  have e:Lib.join (x::y::l) sep=x++(sep++Lib.join (y::l) sep):=X3z sep x y l
  rw [e,Qh,Qh]
  have:=h x (Qk ..)
  rw [Qs (a:=x),Wb];omega
def jnI(l:List Int)(s:ByteArray) : ByteArray:=joT (l.map fun n=>tx (Lib.itoa n)) s
theorem Xl8{l:List Int}{s:ByteArray}(hl:l.length≤1000)(hs:s.size≤100)(hb:∀ n ∈ l,-9223372036854775808≤n∧n≤9223372036854775807) : (Lib.join ((l.map fun n=>tx (Lib.itoa n)).map (·.data.toList)) s.data.toList).length≤140737488355328:=by
 have h:=Xcp (K:=21) s.data.toList ((l.map fun n=>tx (Lib.itoa n)).map (·.data.toList)) (fun x hx=>by
  simp only [List.map_map,W6,Function.comp_apply] at hx
  obtain ⟨n,hn,rfl⟩:=hx
  exact X3e (hb n hn).1 (hb n hn).2)
 have h2:s.data.toList.length=s.size:=rfl
 rw [Qo,Qo,h2] at h
 have:l.length*(21+s.size)≤1000*121:=Nat.mul_le_mul hl (by omega)
 omega
theorem Xnz{x:Rg}(h:rOk x=true) : ∀ n ∈ [x.a,x.b,x.c,x.d],-9223372036854775808≤n∧n≤9223372036854775807:=by
 simp only [rOk,inR,Qd,Qr] at h
 intro n hn
 simp only [Qv,List.not_mem_nil,or_false] at hn
 rcases hn with rfl|rfl|rfl|rfl<;>omega
def fmR(x:Rg) : ByteArray:=if rOk x=true then tx (txR x) else tx []
def fmD(x:Dy) : ByteArray:=if dOk x=true then tx (txD x) else tx []
theorem Xc4{x:Rg}(h:rOk x=true) : fmR x=tx (txR x):=Q4 h
theorem Xxs{x:Rg}(h:¬ rOk x=true) : fmR x=tx []:=Q3 h
theorem Xmh{x:Dy}(h:dOk x=true) : fmD x=tx (txD x):=Q4 h
theorem Xwp{x:Dy}(h:¬ dOk x=true) : fmD x=tx []:=Q3 h
theorem X5j{x:Dy}(h:dOk x=true) : rOk x.num=true:=(X1m.1 h).1
theorem X7n{x:Dy}(h:dOk x=true) : -9223372036854775808≤x.exp∧x.exp≤9223372036854775807:=by
 have:=(X1m.1 h).2.1;omega
theorem Xcj{x:Rg}(h:rOk x=true) : (txR x).length≤100:=by
 have hb:=Xnz h
 rw [Xcm]
 have:=X3e (hb x.a (by simp)).1 (hb x.a (by simp)).2
 have:=X3e (hb x.b (by simp)).1 (hb x.b (by simp)).2
 have:=X3e (hb x.c (by simp)).1 (hb x.c (by simp)).2
 have:=X3e (hb x.d (by simp)).1 (hb x.d (by simp)).2
 simp only [Qh,Qs];omega
theorem Xtm{x:Dy}(h:dOk x=true) : (txD x).length≤150:=by
 have:=Xcj (X5j h)
 have:=X3e (X7n h).1 (X7n h).2
 unfold txD
 simp only [Qh,Qs,List.length_nil];omega
theorem Xrm(x:Dy) : (fmD x).size≤150:=by
 unfold fmD
 split
 ·rw [X59];exact Xtm (by assumption)
 ·rw [X59];simp
theorem Xr7{x:Rg}(h:rOk x=true) : (fmR x).size≤100:=by rw [Xc4 h,X59];exact Xcj h
theorem Xvk{x:Dy}(h:dOk x=true) : (fmR x.num).size+(tx [47]).size≤9223372036854775807:=by
 have:=Xr7 (X5j h);rw [X59];simp only [List.length_singleton];omega
theorem Xxg{x:Dy}(h:dOk x=true) : (fmR x.num++tx [47]).size+(tx (Lib.itoa x.exp)).size≤9223372036854775807:=by
 have h1:=X3e (X7n h).1 (X7n h).2;have h2:=Xcj (X5j h)
 rw [Xc4 (X5j h),Xh5,X59,X59,Qh];simp only [List.length_singleton];omega
theorem Xro{x:Dy}(h:dOk x=true) : fmR x.num++tx [47]++tx (Lib.itoa x.exp)=fmD x:=by
 rw [Xmh h,Xc4 (X5j h),Xh5,Xh5];rfl
theorem Xjj{x:Rg}(h:rOk x=true){k:Nat}(hk:k<8) : mulOm1 x (k:Int)=rTurnN k x∧mulOm2 x (k:Int)=true:=by
 have h2:mulOm2 x (k:Int)=true:=by unfold mulOm2 inR;rw [h];simp;omega
 refine ⟨?_,h2⟩
 unfold mulOm1;rw [Q4 h2]
 have:=congrArg Dy.num (X58 hk ⟨x,0⟩)
 exact this
def canM(m:Mx) : Mx:=if mOk m=true then match canL m.cells with|some l=>⟨m.rows,m.cols,l⟩|none=>mZ else mZ
def canT(m:Mx) : Int:=if mOk m=true then match canK m.cells with|some k=>(k:Int)|none=>0 else 0
def canY(m:Mx) : Bool:=mOk m&&(canL m.cells).isSome
theorem Xqx{m:Mx}(h:mOk m=false) : canM m=mZ∧canT m=0∧canY m=false:=by
 unfold canM canT canY;rw [h];exact ⟨rfl,rfl,rfl⟩
theorem Xrx{l:List Dy}{k:Nat}(h:canK l=some k) : canL l=some (l.map (dTurn (k:Int))):=by unfold canL;rw [h];rfl
theorem Xpj{m:Mx}(h:canK m.cells=none) : canM m=mZ∧canT m=0∧canY m=false:=by
 have h2:canL m.cells=none:=by unfold canL;rw [h];rfl
 unfold canM canT canY;rw [h,h2]
 refine ⟨?_,?_,?_⟩
 ·split<;>rfl
 ·split<;>rfl
 ·simp
theorem Xms{m:Mx}{k:Nat}(hm:mOk m=true)(h:canK m.cells=some k) : canM m=⟨m.rows,m.cols,m.cells.map (dTurn (k:Int))⟩∧canT m=(k:Int)∧canY m=true:=by
 unfold canM canT canY;rw [hm,h,Xrx h];exact ⟨rfl,rfl,rfl⟩
theorem Xpf{α:Type}{q:α→Bool}{l:List α}{k:Nat}{u:α}(hi:idxF l q=(k:Int))(h:l[k]? = some u) : l.find? q=some u:=by
 unfold idxF at hi
 cases e:l.findIdx? q with
 | none=>rw [e] at hi;simp only at hi;omega
 | some j=>
  rw [e] at hi
  obtain rfl:j=k:=by simp only at hi;omega
  obtain ⟨h1,h2,h3⟩:=List.findIdx?_eq_some_iff_getElem.1 e;obtain ⟨h4,h5⟩:=Qg.1 h
  rw [List.find?_eq_some_iff_getElem]
  refine ⟨by rw [← h5];exact h2,j,h1,h5,fun i hi=>by have:=h3 i hi;simpa using this⟩
theorem Xsz{α:Type}{q:α→Bool}{l:List α}(hi:idxF l q<0) : l.find? q=none:=by
 unfold idxF at hi
 cases e:l.findIdx? q with
 | some j=>rw [e] at hi;simp only at hi;omega
 | none=>
  rw [List.findIdx?_eq_none_iff] at e
  rw [List.find?_eq_none];intro x hx;rw [e x hx];simp
theorem Xt1{α:Type}{q:α→Bool}{l:List α}(hi:¬ idxF l q<0) : ∃ k u,idxF l q=((k:Nat) : Int)∧l[k]? = some u:=by
 unfold idxF at *
 cases e:l.findIdx? q with
 | none=>rw [e] at hi;simp only at hi;omega
 | some j=>
  obtain ⟨h1,_⟩:=List.findIdx?_eq_some_iff_getElem.1 e;exact ⟨j,l[j],rfl,Qc h1⟩
theorem Xmf{l:List Dy}{k:Nat}{u:Dy}(hi:idxF l (fun x=>decide (x≠dZ))=(k:Int))(h:l[k]? = some u) : canK l=some (turnK u.num):=by
 unfold canK;rw [Xpf hi h];rfl
theorem Xpw{l:List Dy}(hi:idxF l (fun x=>decide (x≠dZ))<0) : canK l=none:=by
 unfold canK;rw [Xsz hi];rfl
theorem Xfi{α β:Type}{f:α→β}{l:List α}{k:Nat}{q:List β}{u:α}(h:q=(l.take k).map f)(hu:l[k]? = some u) : q++[f u]=(l.take (k+1)).map f:=by
 rw [h,Qt,hu];simp
theorem Xpx(m:Mx) : (canM m).cells.length≤1024:=by
 unfold canM
 split
 ·rename_i hm
  have hl:=X32 hm
  have hle:m.cells.length≤1024:=by
   have h1:=hl.2.2
   have:m.rows.toNat*m.cols.toNat≤32*32:=Nat.mul_le_mul (by omega) (by omega)
   first|omega|(rw [h1];omega)
  cases e:canL m.cells with
  | none=>simp [mZ]
  | some l=>simp only;rw [Xac e];exact hle
 ·simp [mZ]
def tgL(n i j:Nat) : List Gt:=(([1,5,7] : List Int).take i).flatMap (fun k=>(List.range n).map fun (q:Nat)=>(⟨k,(q:Int),0⟩ : Gt))++(List.range j).map fun (q:Nat)=>(⟨([1,5,7] : List Int).getD i 0,(q:Int),0⟩ : Gt)
theorem Xnh(n:Nat){i j:Nat}{u:Int}(hu:([1,5,7] : List Int)[i]? = some u) : tgL n i j++[⟨u,(j:Int),0⟩]=tgL n i (j+1):=by
 unfold tgL
 rw [Qx,List.range_succ,List.map_append,Qa,hu];rfl
theorem Xrd(n:Nat){i:Nat}(hi:i<3) : tgL n i n=tgL n (i+1) 0:=by
 unfold tgL
 rcases (by omega:i=0∨i=1∨i=2) with rfl|rfl|rfl<;>simp
theorem Xhp(n i j:Nat) : (tgL n i j).length≤3*n+j:=by
 unfold tgL
 have h:∀ l:List Int,(l.flatMap (fun k=>(List.range n).map fun (q:Nat)=>(⟨k,(q:Int),0⟩ : Gt))).length=l.length*n:=by
  intro l;induction l with
  | nil=>simp
  | cons x l ih=>rw [Wc,Qh,ih,Qs,Wb];simp;omega
 rw [Qh,h,Qo,List.length_range]
 have h2:(([1,5,7] : List Int).take i).length≤3:=by simp;omega
 have:=Nat.mul_le_mul_right n h2
 omega
def keyM(m:Mx) : ByteArray:=joT ((canM m).cells.map fmD) (tx [44])
theorem Xre{m:Mx} : ∀ x ∈ (canM m).cells,dOk x=true:=by
 unfold canM
 split
 ·rename_i hm
  intro x hx
  cases e:canL m.cells with
  | none=>rw [e] at hx;simp [mZ] at hx
  | some l=>
   rw [e] at hx
   unfold canL at e
   obtain ⟨k,_,rfl⟩:=Option.map_eq_some_iff.1 e;obtain ⟨y,hy,rfl⟩:=W6.1 hx;exact Xoa (X21 hm y hy) _
 ·intro x hx;simp [mZ] at hx
theorem Xjn{m:Mx}(h:mOk m=true) : keyM m=kyT (canL m.cells):=by
 unfold keyM joT kyT
 have h1:((canM m).cells.map fmD).map (·.data.toList)=(canM m).cells.map txD:=by
  rw [List.map_map]
  exact List.map_congr_left fun x hx=>by simp only [Function.comp_apply,Xmh (Xre x hx),Xc7]
 rw [h1]
 have h2:(canM m).cells=(canL m.cells).getD []:=by
  unfold canM;rw [Q4 h]
  cases canL m.cells<;>rfl
 rw [h2];rfl
theorem Xhg(m:Mx)(h:(canM m).cells.length≤1000000) : (Lib.join (((canM m).cells.map fmD).map (·.data.toList)) (tx [44]).data.toList).length≤140737488355328:=by
 have h1:=Xcp (K:=150) (tx [44]).data.toList (((canM m).cells.map fmD).map (·.data.toList)) (fun x hx=>by
  simp only [List.map_map,W6,Function.comp_apply] at hx
  obtain ⟨n,hn,rfl⟩:=hx
  have:=Xrm n
  exact this)
 rw [Qo,Qo,Xc7] at h1
 have:(canM m).cells.length*(150+[44].length)≤1000000*151:=Nat.mul_le_mul h (by simp)
 have e:([44] : List UInt8).length=1:=rfl
 rw [e] at h1
 simp only [List.length_singleton] at this
 rw [Xc7];omega
theorem Y0j(w0:World)(x:Int) : Ret Tryz.prog 222 [vi x] w0 (fun v w=>v=.bool false∧w0=w):=by
 refine enter Tryz.func222 rfl 6 rfl rfl ?_;intro a hf
 have hW:=bz w0
 refine Zs hf fun _ aA=>?_;refine Za rfl<|Zx aA fun a hf _ aB=>?_;refine Zm rfl<|Zm rfl<|Ze (X2m rfl rfl)<|Za rfl<|Zt aB fun a hf=>?_
 refine Q6 (X3 hf (Xs hf rfl rfl) ?_)
 exact ⟨by simp,rfl⟩
theorem Xyz(w0:World)(x:Int)(y:Int) : Ret Tryz.prog 204 [vi x,vi y] w0 (fun v w=>v=vi (cmI x y)∧w0=w):=by
 refine enter Tryz.func204 rfl 20 rfl rfl ?_;intro a d
 have hW:=bz w0
 refine Zs d fun _ aI=>?_;refine Za rfl<|Zx aI fun a d _ aJ=>?_;refine Zm rfl<|Zf (Vc (Y0j _ x) Xon) ?_;rintro _ _ ⟨rfl,rfl⟩;refine Za rfl<|Zx aJ fun a d _ aK=>?_;refine Zm rfl<|Zf (Vc (Y0j _ y) Xon) ?_;rintro _ _ ⟨rfl,rfl⟩;refine Za rfl<|ZX aK fun a d _ aL=>?_;refine Zs d fun _ aM=>?_;refine Zm rfl<|Zt aM fun a d=>?_;refine X6s d rfl ?_;refine Q7<|aL _ _<|Q5 fun _ aN=>?_;refine Zs d fun _ aO=>?_;refine Zm rfl<|Zt aO fun a d=>?_;refine X6s d rfl ?_;refine Q7<|aN _ _<|Q5 fun _ aP=>?_;refine Zs d fun _ aQ=>?_;refine Zm rfl<|Zm rfl<|Ze (X11 rfl rfl)<|Zt aQ fun a d=>?_
 refine Xj d rfl (fun b=>?_) (fun b=>?_)
 ·have aA:=b;have b:=Q2 b
  have e:cmI x y = -1:=by rw [cmI,Q4 b]
  refine Zs d fun _ aC=>?_;refine Za rfl<|Zt aC fun a d=>?_;refine Q6<|X2<|X3 d (Xs d rfl rfl) ?_;exact ⟨by rw [e],rfl⟩
 have aA:=b;have b:=Q1 b;have aD:=b;refine Q7<|aP _ _<|Q5 fun _ aE=>?_;refine Zs d fun _ aF=>?_;refine Zm rfl<|Zm rfl<|Ze (X36 rfl rfl)<|Zt aF fun a d=>?_
 refine Xj d rfl (fun c=>?_) (fun c=>?_)
 ·have aB:=c;have c:=Q2 c
  have e:cmI x y=1:=by rw [cmI,Q3 aD,Q4 c]
  refine Zs d fun _ aG=>?_;refine Za rfl<|Zt aG fun a d=>?_;refine Q6<|X2<|X3 d (Xs d rfl rfl) ?_;exact ⟨by rw [e],rfl⟩
 have aB:=c;have c:=Q1 c
 have e:cmI x y=0:=by rw [cmI,Q3 aD,Q3 c]
 refine Q7<|aE _ _<|Zs d fun _ aH=>?_;refine Za rfl<|Zt aH fun a d=>?_
 refine Q6 (X3 d (Xs d rfl rfl) ?_)
 exact ⟨by rw [e],rfl⟩
theorem Xyc(j:World)(Ap:Option Addr)(cp:Nat)(p:List Int)(aI:Rd j j.heap.size 3 encI Ap p)(Aq:Option Addr)(cq:Nat)(q:List Int)(aJ:Rd j j.heap.size 3 encI Aq q)(b5:p.length≤2305843009213693951)(b6:q.length≤2305843009213693951) : Ret Tryz.prog 171 [.slice Ap p.length cp,.slice Aq q.length cq] j (fun v w=>v=vi (cmL p q)∧Below j.heap.size j w):=by
 refine enter Tryz.func171 rfl 36 rfl rfl ?_;intro a b
 have m:=bz j
 refine Zs b fun _ b0=>?_;refine Za rfl<|ZX b0 fun a b _ b1=>?_;refine Zs b fun _ b2=>?_;refine Zm rfl<|Ze (X0p rfl X0b)<|Zm rfl<|Zt b2 fun a b=>?_;refine Q8<|X0a (σ:=Nat) (fun (k:Nat) (a:Act) (w:World)=>Fr a 36 [(0,.slice Ap p.length cp),(1,.slice Aq q.length cq),(9,.slice Ap p.length cp),(10,vi (p.length:Int)),(11,vi (k:Int))]∧(k≤p.length)∧(k≤q.length)∧(cmL (p.drop k) (q.drop k)=cmL p q)∧Below j.heap.size j w) (fun (k:Nat)=>p.length-k) 0 ?_ ?_
 ·exact ⟨b.sb,(Qf _),(Qf _),rfl,m⟩
 rintro k a w1 ⟨b,hk,b7,f,m⟩;refine Zs b fun _ b3=>?_;refine Ze (X11 rfl rfl)<|ZX b3 fun a b _ b4=>?_
 refine Xj b rfl (fun i=>?_) (fun i=>?_)
 ·have aK:=i;have i:=Q2 i
  obtain ⟨u9,aA⟩:=Xf (l:=p) (k:=k) (by omega)
  refine Q7<|b4 _ _<|Q5 fun _ aL=>?_;refine Q8<|Zs b fun _ aM=>?_;refine Zm rfl<|Zi (k:=k) (u:=u9) (enc:=encI) (l:=p) trivial rfl rfl X0b X1k X05 (aI.below' m) aA rfl ?_;intro b8 aB;refine Ze (X0 rfl X7 aB)<|Za rfl<|Za rfl<|ZX aM fun a b _ aN=>?_;refine Zs b fun _ aO=>?_;refine Zm rfl<|Zm rfl<|Ze (X0p rfl X0b)<|Ze (Xae rfl rfl)<|Zt aO fun a b=>?_
  refine Xj b rfl (fun c=>?_) (fun c=>?_)
  ·have aC:=c;have c:=Q2 c
   have d:cmL p q=1:=by rw [← f];exact Xmb aA (by omega)
   refine Zs b fun _ aP=>?_;refine Za rfl<|Zt aP fun a b=>?_;refine Q6<|X2<|Xm<|X2 ?_;refine X2<|Xm<|X2<|X3 b (Xs b rfl rfl) ?_;exact ⟨by rw [d],m⟩
  have aC:=c;have c:=Q1 c
  obtain ⟨v9,aQ⟩:=Xf (l:=q) (k:=k) (by omega)
  have aD:=Xlq aA aQ;refine Q7<|aN _ _<|Zs b fun _ aR=>?_;refine Zm rfl<|Zm rfl<|Zi (k:=k) (u:=v9) (enc:=encI) (l:=q) trivial rfl rfl X0b X1k X05 (aJ.below' m) aQ rfl ?_;intro b9 aE;refine Ze (X0 rfl X7 aE)<|Za rfl<|Zx aR fun a b _ aS=>?_;refine Zm rfl<|Zm rfl<|Zf (Vc (Xyz _ u9 v9) Xtd) ?_;rintro _ _ ⟨rfl,rfl⟩;refine Za rfl<|Zx aS fun a b _ aT=>?_;refine Zm rfl<|Ze (X2m rfl rfl)<|Zt aT fun a b=>?_
  refine Xj b rfl (fun g=>?_) (fun g=>?_)
  ·have aF:=g
   have aG:cmI u9 v9≠0:=by simpa using g
   have d:cmL p q=cmI u9 v9:=by rw [← f,aD,Q4 aG]
   refine Zs b fun _ aU=>?_;refine Zm rfl<|Za rfl<|Zt aU fun a b=>?_;refine Q6<|Xm<|X2<|X2 ?_;refine Xm<|X2<|X3 b (Xs b rfl rfl) ?_;exact ⟨by rw [d],m⟩
  have aF:=g
  have aG:¬ cmI u9 v9≠0:=by simpa using g
  rw [Q3 aG] at aD
  refine Q7<|Xq<|aL _ _<|Zr b ?_;refine Ze (X00 rfl rfl (by omega) (by omega))<|Zm rfl ?_;refine Zn fun a b=>?_;refine Xo ?_;exact ⟨k+1,⟨b.sb,(by omega),(by omega),(by rw [← aD,f]),m⟩,(by omega)⟩
 have aK:=i;have i:=Q1 i;refine Q9<|Xn<|Xn<|X06 ?_;refine b1 _ _<|Q5 fun _ aW=>?_;refine Zs b fun _ aX=>?_;refine Zm rfl<|Ze (X0p rfl X0b)<|Zm rfl<|Ze (X0p rfl X0b)<|Ze (X11 rfl rfl)<|Zt aX fun a b=>?_
 refine Xj b rfl (fun e=>?_) (fun e=>?_)
 ·have aH:=e;have e:=Q2 e
  have d:cmL p q = -1:=by rw [← f,Xj9 (by omega) (by omega),Q4 (by omega)]
  refine Zs b fun _ aY=>?_;refine Za rfl<|Zt aY fun a b=>?_;refine Q6<|X2<|X3 b (Xs b rfl rfl) ?_;exact ⟨by rw [d],m⟩
 have aH:=e;have e:=Q1 e
 have d:cmL p q=0:=by rw [← f,Xj9 (by omega) (by omega),Q3 (by omega)]
 refine Q7<|aW _ _<|Zs b fun _ aZ=>?_;refine Za rfl<|Zt aZ fun a b=>?_
 refine Q6 (X3 b (Xs b rfl rfl) ?_)
 exact ⟨by rw [d],m⟩
theorem Xyg(w0:World)(x:Rg)(y:Rg) : Ret Tryz.prog 114 [.agg #[vi x.a,vi x.b,vi x.c,vi x.d],.agg #[vi y.a,vi y.b,vi y.c,vi y.d]] w0 (fun v w=>v=vi (cmR x y)∧Below w0.heap.size w0 w):=by
 refine enter Tryz.func114 rfl 24 rfl rfl ?_;intro a hf
 have e:=bz w0
 refine Zs hf fun _ aD=>?_;refine Zf (X0i (zs:=[vi x.a,vi x.b,vi x.c,vi x.d]) rfl rfl) ?_;rintro _ w1 ⟨b2,rfl,aE,i,f⟩;have aJ:=Q0 e.size aE;have e:=btr e i;refine Zf (X0i (zs:=[vi y.a,vi y.b,vi y.c,vi y.d]) rfl rfl) ?_;rintro _ w2 ⟨b3,rfl,aF,i,g⟩
 have aB:b2≠b3:=by have:=f.lt;omega
 have aK:=Q0 e.size aF;have f:=f.below i;have e:=btr e i;refine Za rfl<|Zx aD fun a hf _ aG=>?_;refine Ze (Vd rfl X0n 0)<|Ze (X0 rfl X7 (f.at 0))<|Ze (Vd rfl X0q 1)<|Ze (X0 rfl X7 (f.at 1))<|Ze (Vd rfl X0s 2)<|Ze (X0 rfl X7 (f.at 2))<|Ze (Vd rfl X0r 3)<|Ze (X0 rfl X7 (f.at 3))<|Zf (X5 (k:=4) (vs:=[vi x.a,vi x.b,vi x.c,vi x.d]) (zs:=[vi x.a,vi x.b,vi x.c,vi x.d]) rfl X0b X1u rfl rfl) ?_;rintro _ w3 ⟨b5,rfl,aH,i,j⟩;have aL:=Q0 e.size aH;have g:=g.below i;have e:=btr e i;refine Ze (Vd rfl X0n 0)<|Ze (X0 rfl X7 (g.at 0))<|Ze (Vd rfl X0q 1)<|Ze (X0 rfl X7 (g.at 1))<|Ze (Vd rfl X0s 2)<|Ze (X0 rfl X7 (g.at 2))<|Ze (Vd rfl X0r 3)<|Ze (X0 rfl X7 (g.at 3))<|Zf (X5 (k:=4) (vs:=[vi y.a,vi y.b,vi y.c,vi y.d]) (zs:=[vi y.a,vi y.b,vi y.c,vi y.d]) rfl X0b X1u rfl rfl) ?_;rintro _ w4 ⟨b7,rfl,aI,i,aA⟩
 have aC:b5≠b7:=by have:=j.lt;omega
 have aM:=Q0 e.size aI;have j:=j.below i;have e:=btr e i;refine Zf (Vc (Xyc _ (some ⟨b5,0,none⟩) 4 ([x.a,x.b,x.c,x.d]) (Rd.of_blk j rfl _ j.lt) (some ⟨b7,0,none⟩) 4 ([y.a,y.b,y.c,y.d]) (Rd.of_blk aA rfl _ aA.lt) (by simp) (by simp)) Xrl) ?_;rintro _ w5 ⟨rfl,i⟩;have e:=btr e i;refine Za rfl<|Zt aG fun a hf=>?_
 refine Q6 (X3 hf (Xs hf rfl rfl) ?_)
 exact ⟨rfl,e⟩
theorem Y0d(w0:World)(x:Dy) : Ret Tryz.prog 111 [.agg #[vi x.num.a,vi x.num.b,vi x.num.c,vi x.num.d,vi x.exp]] w0 (fun v w=>v=.bool (decide (x≠dZ))∧Below w0.heap.size w0 w):=by
 refine enter Tryz.func111 rfl 6 rfl rfl ?_;intro a hf
 have hW:=bz w0
 refine Zs hf fun _ aA=>?_;refine Zf (X0i (zs:=[vi x.num.a,vi x.num.b,vi x.num.c,vi x.num.d,vi x.exp]) rfl rfl) ?_;rintro _ w1 ⟨b2,rfl,aB,hE,aC⟩;have aE:=Q0 hW.size aB;have hW:=btr hW hE;refine Za rfl<|Zx aA fun a hf _ aD=>?_;refine Ze (Vn Xr aC)<|Ze (Xg (ps:=[]) (cs:=[vi 0,vi 0,vi 0,vi 0,vi 0]) rfl (fun _=>by first|rfl|kernel_rfl))<|Ze (Xju rfl rfl Xpu (fun w=>eqD 9997 x (⟨(⟨0,0,0,0⟩ : Rg),0⟩ : Dy) w))<|Za rfl<|Zt aD fun a hf=>?_
 refine Q6 (X3 hf (Xs hf rfl rfl) ?_)
 exact ⟨by cases x;simp [dZ, *],hW⟩
theorem Xz6(w0:World)(n:Int)(hn:n=1∨n=2) : Ret Tryz.prog 105 [vi n] w0 (fun v w=>∃ A c,v=.slice A (gsT n.toNat).length c∧Own w w0.heap.size 115 3 encG A c (gsT n.toNat)∧Below w0.heap.size w0 w):=by
 refine enter Tryz.func105 rfl 18 rfl rfl ?_;intro a b
 have e:=bz w0
 refine Zs b fun _ aF=>?_;refine Za rfl<|ZX aF fun a b _ aG=>?_;refine Zs b fun _ aH=>?_;refine Zm rfl<|Ze (X16 rfl rfl)<|Zt aH fun a b=>?_
 refine Xj b rfl (fun d=>?_) (fun d=>?_)
 ·have aB:=d
  have aI:n=1:=by simpa using d
  refine Zs b fun _ aJ=>?_;refine Ze (Xg (ps:=[(0,vi 1)]) (cs:=[vi 1,vi 0,vi 0]) rfl (fun _=>by first|rfl|kernel_rfl))<|Ze (Xg (ps:=[(0,vi 5)]) (cs:=[vi 5,vi 0,vi 0]) rfl (fun _=>by first|rfl|kernel_rfl))<|Ze (Xg (ps:=[(0,vi 7)]) (cs:=[vi 7,vi 0,vi 0]) rfl (fun _=>by first|rfl|kernel_rfl))<|Zf (X5 (k:=3) (vs:=[.agg #[vi 1,vi 0,vi 0],.agg #[vi 5,vi 0,vi 0],.agg #[vi 7,vi 0,vi 0]]) (zs:=[vi 1,vi 0,vi 0,vi 5,vi 0,vi 0,vi 7,vi 0,vi 0]) rfl Xb Xk rfl rfl) ?_;rintro _ w1 ⟨b7,rfl,aK,hE,aL⟩;have aC:=Q0 e.size aK;have e:=btr e hE;refine Za rfl<|Zt aJ fun a b=>?_;refine Q6<|X2<|X3 b (Xs b rfl rfl) ?_
  subst aI
  exact ⟨(some ⟨b7,0,none⟩),3,rfl,((Own.of_blkL X9 aL aC rfl rfl (by decide)) : Own _ _ _ _ encG _ _ (gsT 1)),e⟩
 have aB:=d
 have aM:n=2:=by have h9:¬ n=1:=(by simpa using d);omega
 refine Q7<|aG _ _<|Zs b fun _ aN=>?_;refine Ze (Xg (ps:=[(0,vi 1)]) (cs:=[vi 1,vi 0,vi 0]) rfl (fun _=>by first|rfl|kernel_rfl))<|Ze (Xg (ps:=[(0,vi 1),(1,vi 1)]) (cs:=[vi 1,vi 1,vi 0]) rfl (fun _=>by first|rfl|kernel_rfl))<|Ze (Xg (ps:=[(0,vi 5)]) (cs:=[vi 5,vi 0,vi 0]) rfl (fun _=>by first|rfl|kernel_rfl))<|Ze (Xg (ps:=[(0,vi 5),(1,vi 1)]) (cs:=[vi 5,vi 1,vi 0]) rfl (fun _=>by first|rfl|kernel_rfl))<|Ze (Xg (ps:=[(0,vi 7)]) (cs:=[vi 7,vi 0,vi 0]) rfl (fun _=>by first|rfl|kernel_rfl))<|Ze (Xg (ps:=[(0,vi 7),(1,vi 1)]) (cs:=[vi 7,vi 1,vi 0]) rfl (fun _=>by first|rfl|kernel_rfl))<|Ze (Xg (ps:=[(0,vi 9),(2,vi 1)]) (cs:=[vi 9,vi 0,vi 1]) rfl (fun _=>by first|rfl|kernel_rfl))<|Ze (Xg (ps:=[(0,vi 9),(1,vi 1)]) (cs:=[vi 9,vi 1,vi 0]) rfl (fun _=>by first|rfl|kernel_rfl))<|Zf (X5 (k:=8) (vs:=[.agg #[vi 1,vi 0,vi 0],.agg #[vi 1,vi 1,vi 0],.agg #[vi 5,vi 0,vi 0],.agg #[vi 5,vi 1,vi 0],.agg #[vi 7,vi 0,vi 0],.agg #[vi 7,vi 1,vi 0],.agg #[vi 9,vi 0,vi 1],.agg #[vi 9,vi 1,vi 0]]) (zs:=[vi 1,vi 0,vi 0,vi 1,vi 1,vi 0,vi 5,vi 0,vi 0,vi 5,vi 1,vi 0,vi 7,vi 0,vi 0,vi 7,vi 1,vi 0,vi 9,vi 0,vi 1,vi 9,vi 1,vi 0]) rfl Xb Xk rfl rfl) ?_;rintro _ w2 ⟨aO,rfl,aD,hE,aE⟩;have aA:=Q0 e.size aD;have e:=btr e hE;refine Za rfl<|Zt aN fun a b=>?_
 refine Q6 (X3 b (Xs b rfl rfl) ?_)
 subst aM
 exact ⟨(some ⟨aO,0,none⟩),8,rfl,((Own.of_blkL X9 aE aA rfl rfl (by decide)) : Own _ _ _ _ encG _ _ (gsT 2)),e⟩
theorem Y18(n:World)(Al:Option Addr)(cl:Nat)(l:List Dy)(aD:Rd n n.heap.size 95 encD Al l)(kq:FuncId)(pq:List Value)(Fq:FuncF Tryz.prog kq)(q:Dy→Bool)(hq:∀ x w,Below n.heap.size n w→Ret Tryz.prog kq ([dV x]++pq) w (fun v w'=>v=.bool (q x)∧Below w.heap.size w w'))(aQ:l.length≤2305843009213693951) : Ret Tryz.prog 110 [.slice Al l.length cl,.func (.func kq) #[] pq.toArray] n (fun v w=>v=vi (idxF l q)∧Below n.heap.size n w):=by
 refine enter Tryz.func110 rfl 19 rfl rfl ?_;intro a e
 have o:=bz n
 refine Zs e fun _ aJ=>?_;refine Za rfl<|ZX aJ fun a e _ aK=>?_;refine Zs e fun _ aL=>?_;refine Zm rfl<|Ze (X0p rfl X1d)<|Zm rfl<|Zt aL fun a e=>?_;refine Q8<|X0a (σ:=Nat) (fun (k:Nat) (a:Act) (w:World)=>Fr a 19 [(0,.slice Al l.length cl),(1,.func (.func kq) #[] pq.toArray),(7,vi (l.length:Int)),(8,vi (k:Int))]∧(k≤l.length)∧((l.take k).all (fun x=>!q x)=true)∧Below n.heap.size n w) (fun (k:Nat)=>l.length+1-k) 0 ?_ ?_
 ·exact ⟨e.sb,(Qf _),(by simp),o⟩
 rintro k a w1 ⟨e,hk,j,o⟩;refine Zs e fun _ aM=>?_;refine Ze (X11 rfl rfl)<|ZX aM fun a e _ aN=>?_
 refine Xj e rfl (fun g=>?_) (fun g=>?_)
 ·have aE:=g;have g:=Q2 g
  obtain ⟨i,aA⟩:=Xf (l:=l) (k:=k) (by omega)
  refine Q7<|aN _ _<|Q5 fun _ aO=>?_;refine Q8<|Zs e fun _ aF=>?_;refine Zm rfl<|Za rfl<|Zx aF fun a e _ aG=>?_;refine Zm rfl<|Zm rfl<|Zm rfl<|Zi (k:=k) (u:=i) (enc:=encD) (l:=l) trivial rfl rfl X1d X04 X1a (aD.below' o) aA rfl ?_;intro aR aB;refine Ze (Xw (l:=[vi i.num.a,vi i.num.b,vi i.num.c,vi i.num.d,vi i.exp]) rfl Xr aB rfl)<|Zf (X7k (cs:=pq) (vs:=[.agg #[vi i.num.a,vi i.num.b,vi i.num.c,vi i.num.d,vi i.exp]]) rfl rfl Fq (hq i _ o)) ?_;rintro _ w2 ⟨rfl,hE⟩;have o:=btr o hE;refine Zt aG fun a e=>?_
  refine Xj e rfl (fun f=>?_) (fun f=>?_)
  ·have aC:=f
   have m:idxF l q=(k:Int):=Xx1 j aA f
   refine Zs e fun _ aH=>?_;refine Zm rfl<|Za rfl<|Zt aH fun a e=>?_;refine Q6<|Xm<|X2<|X2 ?_;refine Xm<|X2<|X3 e (Xs e rfl rfl) ?_;exact ⟨by rw [m],o⟩
  have aC:=f
  have aP:(!q i)=true:=by revert f;cases q i<;>simp
  refine Q7<|Xq<|aO _ _<|Zr e ?_;refine Ze (X00 rfl rfl (by omega) (by omega))<|Zm rfl ?_;refine Zn fun a e=>?_;refine Xo ?_;exact ⟨k+1,⟨e.sb,(by omega),(X24 j aA aP),o⟩,(by omega)⟩
 have aE:=g;have g:=Q1 g;refine Q9<|Xn<|Xn<|X06 ?_;refine aK _ _<|Zs e fun _ aI=>?_;refine Za rfl<|Zt aI fun a e=>?_
 refine Q6 (X3 e (Xs e rfl rfl) ?_)
 have m:idxF l q = -1:=Xlz (X2o (X22 j (by omega)))
 exact ⟨by rw [m],o⟩
theorem Xyv(w0:World)(m:Mx)(Am:Option Addr)(cm:Nat)(M:Rd w0 w0.heap.size 95 encD Am m.cells)(aU:m.cells.length≤2305843009213693951) : Ret Tryz.prog 64 [.agg #[vi m.rows,vi m.cols,.slice Am m.cells.length cm]] w0 (fun v w=>∃ A c,v=.tuple #[mV A c (canM m),vi (canT m),.bool (canY m)]∧Own w w0.heap.size 95 5 encD A c (canM m).cells∧Below w0.heap.size w0 w):=by
 refine enter Tryz.func64 rfl 61 rfl rfl ?_;intro a q
 have n:=bz w0
 refine Zs q fun _ cW=>?_;refine Zf (X0i (zs:=[vi m.rows,vi m.cols,.slice Am m.cells.length cm]) rfl rfl) ?_;rintro _ w1 ⟨b3,rfl,cX,e,g⟩;have dE:=Q0 n.size cX;have n:=btr n e;refine Zf (X8 (zs:=[vi 0,vi 0,.slice none 0 0]) X1o rfl) ?_;rintro _ w2 ⟨b5,rfl,cY,e,f⟩
 have cV:b3≠b5:=by have:=g.lt;omega
 have b1:=Q0 n.size cY;have g:=g.below e;have n:=btr n e;refine Za rfl<|Za rfl<|Zx cW fun a q _ d5=>?_;refine Ze (Vd rfl X1g 2)<|Ze (X0 rfl X2n (g.at 2))<|Zf (X26 (vs:=[.slice Am m.cells.length cm,.func (.func 111) #[] #[]]) rfl Xme (Y18 _ Am cm m.cells (M.below' n).top 111 [] Xsd (fun x=>decide (x≠dZ)) (fun x w1 dF=>Y0d w1 x) aU)) ?_;rintro _ w3 ⟨rfl,e⟩;have g:=g.below e;have f:=f.below e;have n:=btr n e;refine Za rfl<|ZX d5 fun a q _ d6=>?_;refine Q5 fun _ d7=>?_;refine X0l (fun a w=>Fr a 61 [(1,.pointer (some ⟨b3,0,none⟩)),(2,.pointer (some ⟨b5,0,none⟩)),(5,vi (idxF m.cells (fun x=>decide (x≠dZ)))),(22,.bool ((!(mOk m))||(decide ((idxF m.cells (fun x=>decide (x≠dZ)))<0))))]∧Below w3.heap.size w3 w) ?_ ?_
 ·have p:Below w3.heap.size w3 w3:=Below.refl _ _
  refine Zr q<|Ze (Vn X0j g)<|Zf (Vc (Xq5 _ m Am cm (M.below' n).top aU) Xdi) ?_;rintro _ w4 ⟨rfl,e⟩;have n:=btr n e;have p:=btr p e;refine Ze (X0x rfl)<|Zm rfl ?_
  refine Zg 19 rfl (fun H=>?_) (fun H=>?_)
  ·refine Zp (gP H) ?_;refine Zp (gP H) ?_;refine Ze (Xl rfl H rfl) ?_;refine Zn fun a q=>?_
   have aE:Below w3.heap.size w3 w4:=p
   exact ⟨q.sub ⟨rfl,rfl,rfl,X1 rfl (by first|rfl|(simp only [H,bs];done)|simp [H]),trivial⟩,aE⟩
  refine Zv (gW H) (Xa rfl) ?_;refine Zv (gW H) (X11 rfl rfl) ?_;refine Ze (Xe rfl H rfl) ?_;refine Zn fun a q=>?_
  have aE:Below w3.heap.size w3 w4:=p
  exact ⟨q.sub ⟨rfl,rfl,rfl,X1 rfl (by first|rfl|(simp only [H,bs];done)|simp [H]),trivial⟩,aE⟩
 rintro a w5 ⟨q,e⟩;have g:=g.below e;have f:=f.below e;have n:=btr n e;refine d7 _ _ ?_
 refine Xj q rfl (fun W=>?_) (fun W=>?_)
 ·have b7:=W
  have cC:canM m=mZ∧canT m=0∧canY m=false:=by
   rcases (by simpa using W:mOk m=false∨idxF m.cells (fun x=>decide (x≠dZ))<0) with h9|h9
   ·exact Xqx h9
   ·exact Xpj (Xpw h9)
  refine Zs q fun _ cD=>?_;refine Ze (Xg (ps:=[]) (cs:=[vi 0,vi 0,.slice none 0 0]) rfl (fun _=>by first|rfl|kernel_rfl))<|Zo (Vw [vi 0,vi 0,.slice none 0 0] X18 f) ?_;rintro _ w6 ⟨L,hb⟩;have z:=f;have n:=Below.only n L b1;have f:=hb;refine Za rfl<|Za rfl<|Zt cD fun a q=>?_;refine Q6<|X2<|X3 q (Xza q rfl (ResV.cellN (l:=[vi 0,vi 0,.slice none 0 0]) rfl X0j (f.at 0) rfl) rfl rfl) ?_;obtain ⟨aF,b8,b9⟩:=cC;exact ⟨none,0,by rw [aF,b8,b9];rfl,by rw [aF];exact (Own.nil _ _ _ _ _),n⟩
 have b7:=W
 have d8:mOk m=true∧¬ idxF m.cells (fun x=>decide (x≠dZ))<0:=by simpa using W
 obtain ⟨bC,d9⟩:=d8;obtain ⟨j0,y,bD,aW⟩:=Xt1 d9
 have cE:rOk y.num=true:=X5j (X21 bC y (Qe aW))
 have dA:=Xmf bD aW;refine Q7<|d6 _ _<|Q5 fun _ cF=>?_;refine X0d none (fun j=>[8].contains j) mixed ?_;intro w7 e;have g:=g.below e;have f:=f.below e;have n:=btr n e;refine Yb q<|Yo 0 rfl (fun _=>Vd rfl X1g 2)<|Ye 1 rfl (X0 rfl X2n (g.at 2))<|Yo 2 rfl (fun _=>Xa rfl)<|Yi (k:=j0) (u:=y) (enc:=encD) (l:=m.cells) 3 rfl trivial rfl rfl X1d X04 X1a (M.below' n) aW bD ?_;intro dG bE;refine Yo 4 rfl (fun _=>X3r rfl X1f)<|Ye 5 rfl (Xw (l:=[vi y.num.a,vi y.num.b,vi y.num.c,vi y.num.d]) rfl X0e ((bE.drop 0).take 4) rfl)<|Y1 6 ?_;refine Yk rfl trivial (X8 (zs:=[vi 0,vi 0,vi 0,vi 0]) X23 rfl) (fun _ _ ⟨_,_,_,h,_⟩=>h) ?_;rintro _ w8 ⟨bF,rfl,cG,e,o⟩;have aG:=Q0 n.size cG;have g:=g.below e;have f:=f.below e;have n:=btr n e;refine Yo 7 rfl (fun _=>X19 rfl)<|Y1 8 ?_;refine Yh rfl trivial rfl (Vw [vi y.num.a,vi y.num.b,vi y.num.c,vi y.num.d] X17 o) ?_;rintro _ w9 ⟨L,hb⟩;have z:=o;have g:=g.only L (Blk.ne g z rfl);have f:=f.only L (Blk.ne f z rfl);have n:=Below.only n L aG;have o:=hb;refine Yd fun a q=>?_;refine cF _ _<|Q5 fun _ cH=>?_;refine Zs q fun _ cJ=>?_;refine Za rfl<|Zt cJ fun a q=>?_;refine Q8<|X0a (σ:=Nat×Nat) (fun (s:Nat×Nat) (a:Act) (w:World)=>match s with|(i,b)=>Fr a 61 [(1,.pointer (some ⟨b3,0,none⟩)),(2,.pointer (some ⟨b5,0,none⟩)),(5,vi (idxF m.cells (fun x=>decide (x≠dZ)))),(6,vi (b:Int)),(7,.pointer (some ⟨bF,0,none⟩)),(8,vi ((i+1:Nat) : Int))]∧(i≤7)∧(b≤7)∧(b=bestT y.num i)∧Blk w b3 33 [vi m.rows,vi m.cols,.slice Am m.cells.length cm]∧Blk w b5 33 [vi 0,vi 0,.slice none 0 0]∧Blk w bF 93 [vi ((rTurnN b y.num).a),vi ((rTurnN b y.num).b),vi ((rTurnN b y.num).c),vi ((rTurnN b y.num).d)]∧Below w0.heap.size w0 w) (fun (s:Nat×Nat)=>match s with|(i,b)=>7-i) (0,0) ?_ ?_
 ·exact ⟨q.sb,(by omega),(by omega),rfl,g,f,o,n⟩
 rintro ⟨i,b⟩ a w10 ⟨q,dH,dI,bG,g,f,o,n⟩;refine Q5 fun _ cK=>?_;refine Zs q fun _ cL=>?_;refine Zm rfl<|Ze (X11 rfl rfl)<|Zt cL fun a q=>?_
 refine Xj q rfl (fun I=>?_) (fun I=>?_)
 ·have bH:=I;have I:=Q2 I;refine Q7<|cK _ _<|Q5 fun _ b2=>?_;refine Q8<|Zs q fun _ cM=>?_;refine Ze (Vd rfl X1g 2)<|Ze (X0 rfl X2n (g.at 2))<|Zm rfl<|Zi (k:=j0) (u:=y) (enc:=encD) (l:=m.cells) trivial rfl rfl X1d X04 X1a (M.below' n) aW bD ?_;intro dJ bI;refine Ze (X3r rfl X1f)<|Ze (Xw (l:=[vi y.num.a,vi y.num.b,vi y.num.c,vi y.num.d]) rfl X0e ((bI.drop 0).take 4) rfl)<|Zm rfl<|Zf (X26 (vs:=[.agg #[vi y.num.a,vi y.num.b,vi y.num.c,vi y.num.d],vi ((i+1:Nat) : Int)]) rfl Xmo (by have hq:=Xyh w10 y.num ((i+1:Nat) : Int);rw [(Xjj cE (by omega:i+1<8)).1,(Xjj cE (by omega:i+1<8)).2] at hq;exact hq)) ?_;rintro _ dK ⟨rfl,e⟩;have g:=g.below e;have f:=f.below e;have o:=o.below e;have n:=btr n e;refine Zm rfl<|Ze (X4 (vs:=[.agg #[vi ((rTurnN (i+1) y.num).a),vi ((rTurnN (i+1) y.num).b),vi ((rTurnN (i+1) y.num).c),vi ((rTurnN (i+1) y.num).d)],.bool true]) rfl rfl)<|Ze (X4 (vs:=[.agg #[vi ((rTurnN (i+1) y.num).a),vi ((rTurnN (i+1) y.num).b),vi ((rTurnN (i+1) y.num).c),vi ((rTurnN (i+1) y.num).d)],.bool true]) rfl rfl)<|Zf (X8 (zs:=[vi 0,vi 0,vi 0,vi 0]) X23 rfl) ?_;rintro _ dL ⟨b26,rfl,cN,e,C⟩
  have cB:bF≠b26:=by have:=o.lt;omega
  have bJ:=Q0 n.size cN;have g:=g.below e;have f:=f.below e;have o:=o.below e;have n:=btr n e;refine Zo (Vw [vi ((rTurnN (i+1) y.num).a),vi ((rTurnN (i+1) y.num).b),vi ((rTurnN (i+1) y.num).c),vi ((rTurnN (i+1) y.num).d)] X17 C) ?_;rintro _ dM ⟨L,hb⟩;have z:=C;have g:=g.only L (Blk.ne g z rfl);have f:=f.only L (Blk.ne f z rfl);have o:=o.only L (by omega);have n:=Below.only n L bJ;have C:=hb;refine Za rfl<|Zx cM fun a q _ cO=>?_;refine Ze (Vn X0e C)<|Ze (Vn X0e o)<|Zf (Vc (Xyg _ (rTurnN (i+1) y.num) (rTurnN b y.num)) Xt8) ?_;rintro _ dN ⟨rfl,e⟩;have g:=g.below e;have f:=f.below e;have o:=o.below e;have C:=C.below e;have n:=btr n e;refine Ze (X36 rfl rfl)<|Zt cO fun a q=>?_
  refine Xj q rfl (fun D=>?_) (fun D=>?_)
  ·have bK:=D;have D:=Q2 D
   have bL:i+1=bestT y.num (i+1):=by subst bG;have h8:=decide_eq_true D;rw [Xi3] at h8;rw [bestT,Q4 h8]
   refine X0d none (fun j=>[3].contains j) mixed ?_;intro dO e;have g:=g.below e;have f:=f.below e;have o:=o.below e;have C:=C.below e;have n:=btr n e;refine Yb q<|Yo 0 rfl (fun _=>Xa rfl)<|Ye 1 rfl (Vn X0e C)<|Yo 2 rfl (fun _=>X19 rfl)<|Y1 3 ?_;refine Yh rfl trivial rfl (Vw [vi ((rTurnN (i+1) y.num).a),vi ((rTurnN (i+1) y.num).b),vi ((rTurnN (i+1) y.num).c),vi ((rTurnN (i+1) y.num).d)] X17 o) ?_;rintro _ dP ⟨L,hb⟩;have z:=o;have g:=g.only L (Blk.ne g z rfl);have f:=f.only L (Blk.ne f z rfl);have n:=Below.only n L aG;have o:=hb;refine Yd fun a q=>?_;refine Xq<|b2 _ _<|Zr q<|Zm rfl<|Ze (X00 rfl rfl (by omega) (by omega))<|Za rfl ?_;refine Zn fun a q=>?_;refine Xo ?_;exact ⟨(i+1,i+1),⟨q.sb,(by omega),(by omega),bL,g,f,o,n⟩,(by first|omega|(dsimp only;omega))⟩
  have bK:=D;have D:=Q1 D
  have bL:b=bestT y.num (i+1):=by subst bG;have h8:=decide_eq_false D;rw [Xi3] at h8;rw [bestT,Q3 (by rw [h8];decide)]
  refine Q7<|Xq<|b2 _ _<|Zr q ?_;refine Zm rfl<|Ze (X00 rfl rfl (by omega) (by omega))<|Za rfl ?_;refine Zn fun a q=>?_;refine Xo ?_;exact ⟨(i+1,b),⟨q.sb,(by omega),(by omega),bL,g,f,o,n⟩,(by first|omega|(dsimp only;omega))⟩
 have bH:=I;have I:=Q1 I
 have dB:i=7:=by omega
 have cP:turnK y.num=b:=by rw [bG,dB];rfl
 have cQ:scaleI m (dPow (b:Int))=some ⟨m.rows,m.cols,m.cells.map (dTurn (b:Int))⟩:=Xh6 bC (by omega)
 refine Q9<|Xn<|Xn<|X06 ?_;refine cH _ _<|Q5 fun _ cR=>?_;refine X0l (fun a w=>∃ B E G,Fr a 61 [(2,.pointer (some ⟨b5,0,none⟩)),(6,vi (b:Int)),(11,.pointer (some ⟨B,0,none⟩)),(12,.bool true)]∧w0.heap.size≤B∧Blk w B 33 [vi m.rows,vi m.cols,.slice E (m.cells.map (dTurn (b:Int))).length G]∧b3≠B∧b5≠B∧Own w w0.heap.size 95 5 encD E G (m.cells.map (dTurn (b:Int)))∧Below w10.heap.size w10 w) ?_ ?_
 ·have p:Below w10.heap.size w10 w10:=Below.refl _ _
  refine X0d none (fun j=>[8].contains j) mixed ?_;intro w17 e;have g:=g.below e;have f:=f.below e;have n:=btr n e;have p:=btr p e;refine Yb q<|Ye 0 rfl (Vn X0j g)<|Yo 1 rfl (fun _=>Xa rfl) ?_
  have t:Below w17.heap.size w17 w17:=Below.refl _ _
  refine Yc [0,1,2,3,4,5,6,7] 2 (fun a w=>∃ B E G,Fr a 61 [(2,.pointer (some ⟨b5,0,none⟩)),(6,vi (b:Int)),(11,.pointer (some ⟨B,0,none⟩)),(56,.agg #[vi m.rows,vi m.cols,.slice E (m.cells.map (dTurn (b:Int))).length G]),(57,.bool true)]∧w0.heap.size≤B∧Blk w B 33 [vi 0,vi 0,.slice none 0 0]∧b3≠B∧b5≠B∧w17.heap.size≤B∧w10.heap.size≤B∧Own w w0.heap.size 95 5 encD E G (m.cells.map (dTurn (b:Int)))∧Below w17.heap.size w17 w) ?_ ?_
  ·rintro a dQ ⟨B,E,G,q,aC,N,aA,aB,bM,bN,J,e⟩;clear t;have t:=e;have n:=btr n e;have p:=btr p e;refine Yb q<|Y1 8<|Yh rfl trivial rfl (Vw [vi m.rows,vi m.cols,.slice E (m.cells.map (dTurn (b:Int))).length G] X18 N) ?_;rintro _ w19 ⟨L,hb⟩;have z:=N;have J:=J.onlyT L z rfl;have p:=Below.only p L bN;have t:=Below.only t L bM;have n:=Below.only n L aC;have N:=hb;refine Yo 9 rfl (fun _=>X19 rfl) ?_;refine Yd fun a q=>?_
   have aE:Below w10.heap.size w10 w19:=p
   exact ⟨B,E,G,q.sb,aC,N,aA,aB,J,aE⟩
  intro b4;refine Yc [0,1,2,7] 6 (fun a w=>∃ U,Fr a 61 [(2,.pointer (some ⟨b5,0,none⟩)),(6,vi (b:Int)),(11,.pointer (some ⟨U,0,none⟩)),(52,.agg #[vi m.rows,vi m.cols,.slice Am m.cells.length cm]),(54,.agg #[vi ((dPow (b:Int)).num.a),vi ((dPow (b:Int)).num.b),vi ((dPow (b:Int)).num.c),vi ((dPow (b:Int)).num.d),vi ((dPow (b:Int)).exp)])]∧w0.heap.size≤U∧Blk w U 33 [vi 0,vi 0,.slice none 0 0]∧b3≠U∧b5≠U∧w17.heap.size≤U∧w10.heap.size≤U∧Below w17.heap.size w17 w) ?_ ?_
  ·rintro a dC ⟨U,q,bO,aH,aI,aJ,bP,bQ,e⟩;clear t;have t:=e;have n:=btr n e;have p:=btr p e;refine Yb q<|Y1 3<|Yf rfl trivial (EfW.mono (X26 (vs:=[.agg #[vi m.rows,vi m.cols,.slice Am m.cells.length cm],.agg #[vi ((dPow (b:Int)).num.a),vi ((dPow (b:Int)).num.b),vi ((dPow (b:Int)).num.c),vi ((dPow (b:Int)).num.d),vi ((dPow (b:Int)).exp)]]) rfl Xno (by have hq:=Xz0 dC m Am cm (M.below' n).top (dPow (b:Int)) aU;rw [cQ,Qq,Option.isSome_some] at hq;exact hq)) (fun _ _ h=>⟨fun _=>by obtain ⟨aX,aY,rfl,aD,e⟩:=h;exact e,h⟩)) ?_;rintro _ dR ⟨aX,aY,rfl,aD,e⟩;have aD:=aD.lower n.size;have aH:=aH.below e;have n:=btr n e;have p:=btr p e;have t:=btr t e;refine Yo 4 rfl (fun _=>Xa rfl)<|Yo 5 rfl (fun _=>X4 (vs:=[.agg #[vi m.rows,vi m.cols,.slice aX (m.cells.map (dTurn (b:Int))).length aY],.bool true]) rfl rfl)<|Yo 6 rfl (fun _=>X4 (vs:=[.agg #[vi m.rows,vi m.cols,.slice aX (m.cells.map (dTurn (b:Int))).length aY],.bool true]) rfl rfl) ?_;exact fun a q=>b4 _ a _ rfl ⟨U,aX,aY,q.sb,bO,aH,aI,aJ,bP,bQ,aD,t⟩
  intro b6;refine Y2 2 7 ?_ ?_
  ·refine Yk rfl trivial (Vc (Xeq _ (b:Int) (by unfold inR;simp;omega)) X4s) (fun _ _ ⟨_,e⟩=>e) ?_;rintro _ dD ⟨rfl,e⟩;have g:=g.below e;have f:=f.below e;have n:=btr n e;have p:=btr p e;have t:=btr t e;refine Y2 3 7 ?_ ?_
   ·refine Yf rfl trivial (EfW.mono (X26 (vs:=[.agg #[vi m.rows,vi m.cols,.slice Am m.cells.length cm],.agg #[vi ((dPow (b:Int)).num.a),vi ((dPow (b:Int)).num.b),vi ((dPow (b:Int)).num.c),vi ((dPow (b:Int)).num.d),vi ((dPow (b:Int)).exp)]]) rfl Xno (by have hq:=Xz0 dD m Am cm (M.below' n).top (dPow (b:Int)) aU;rw [cQ,Qq,Option.isSome_some] at hq;exact hq)) (fun _ _ h=>⟨fun _=>by obtain ⟨aZ,b0,rfl,Q,e⟩:=h;exact e,h⟩)) ?_;rintro _ dS ⟨aZ,b0,rfl,Q,e⟩;have Q:=Q.lower n.size;have g:=g.below e;have f:=f.below e;have n:=btr n e;have p:=btr p e;have t:=btr t e;refine Yo 4 rfl (fun _=>Xa rfl)<|Yo 5 rfl (fun _=>X4 (vs:=[.agg #[vi m.rows,vi m.cols,.slice aZ (m.cells.map (dTurn (b:Int))).length b0],.bool true]) rfl rfl)<|Yo 6 rfl (fun _=>X4 (vs:=[.agg #[vi m.rows,vi m.cols,.slice aZ (m.cells.map (dTurn (b:Int))).length b0],.bool true]) rfl rfl)<|Y1 7 ?_;refine Yk rfl trivial (X8 (zs:=[vi 0,vi 0,.slice none 0 0]) X1o rfl) (fun _ _ ⟨_,_,_,h,_⟩=>h) ?_;rintro _ dT ⟨b37,rfl,aK,e,cS⟩
    have aL:b3≠b37:=by have:=g.lt;omega
    have aM:b5≠b37:=by have:=f.lt;omega
    have bR:=Q0 n.size aK;have bS:=Q0 p.size aK;have bU:=Q0 t.size aK;have Q:=Q.below e;have n:=btr n e;have p:=btr p e;have t:=btr t e;exact fun a q=>b4 _ a _ rfl ⟨b37,aZ,b0,q.sb,bR,cS,aL,aM,bU,bS,Q,t⟩
   refine Yk rfl trivial (X8 (zs:=[vi 0,vi 0,.slice none 0 0]) X1o rfl) (fun _ _ ⟨_,_,_,h,_⟩=>h) ?_;rintro _ dU ⟨b39,rfl,aN,e,cT⟩
   have aO:b3≠b39:=by have:=g.lt;omega
   have aP:b5≠b39:=by have:=f.lt;omega
   have bW:=Q0 n.size aN;have bX:=Q0 p.size aN;have bY:=Q0 t.size aN;have n:=btr n e;have p:=btr p e;have t:=btr t e;exact fun a q=>b6 _ a _ rfl ⟨b39,q.sb,bW,cT,aO,aP,bY,bX,t⟩
  refine Yk rfl trivial (X8 (zs:=[vi 0,vi 0,.slice none 0 0]) X1o rfl) (fun _ _ ⟨_,_,_,h,_⟩=>h) ?_;rintro _ dW ⟨b41,rfl,aQ,e,aR⟩
  have aS:b3≠b41:=by have:=g.lt;omega
  have aT:b5≠b41:=by have:=f.lt;omega
  have bZ:=Q0 n.size aQ;have c4:=Q0 p.size aQ;have cA:=Q0 t.size aQ;have n:=btr n e;have p:=btr p e;have t:=btr t e;refine Y1 2<|Yk rfl trivial (Vc (Xeq _ (b:Int) (by unfold inR;simp;omega)) X4s) (fun _ _ ⟨_,e⟩=>e) ?_;rintro _ dX ⟨rfl,e⟩;have aR:=aR.below e;have n:=btr n e;have p:=btr p e;have t:=btr t e;exact fun a q=>b6 _ a _ rfl ⟨b41,q.sb,bZ,aR,aS,aT,cA,c4,t⟩
 rintro a dY ⟨B,E,G,q,aC,N,aA,aB,J,e⟩;have f:=f.below e;have n:=btr n e;refine cR _ _<|Zs q fun _ cU=>?_;refine Ze (Vn X0j N)<|Zm rfl<|Zm rfl<|Zo (Vw [vi m.rows,vi m.cols,.slice E (m.cells.map (dTurn (b:Int))).length G] X18 f) ?_;rintro _ eA ⟨L,hb⟩;have z:=f;have J:=J.onlyT L z rfl;have n:=Below.only n L b1;have f:=hb;refine Za rfl<|Za rfl<|Zt cU fun a q=>?_
 refine Q6 (X3 q (Xza q rfl (ResV.cellN (l:=[vi m.rows,vi m.cols,.slice E (m.cells.map (dTurn (b:Int))).length G]) rfl X0j (f.at 0) rfl) rfl rfl) ?_)
 obtain ⟨aF,b8,b9⟩:=Xms bC dA;exact ⟨E,G,by rw [aF,b8,b9,cP],by rw [aF,cP];exact J,n⟩
theorem Xzj(i:World)(Al:Option Addr)(cl:Nat)(l:List Int)(aE:Rd i i.heap.size 3 encI Al l)(z:ByteArray)(aO:l.length≤1000)(aP:z.size≤100)(aA:∀ n ∈ l,-9223372036854775808≤n∧n≤9223372036854775807)(aF:PowT i) : Ret Tryz.prog 174 [.slice Al l.length cl,.string z] i (fun v w=>v=.string (jnI l z)∧Below i.heap.size i w):=by
 refine enter Tryz.func174 rfl 24 rfl rfl ?_;intro a c
 have d:=bz i
 refine Zs c fun _ aQ=>?_;refine Za rfl<|Zx aQ fun a c _ aR=>?_;refine Zf (X5 (k:=0) (vs:=[]) (zs:=[]) rfl X5e Xar rfl rfl) ?_;rintro _ w1 ⟨b4,rfl,aS,o,aT⟩;have aG:=Q0 d.size aS;have d:=btr d o;refine Za rfl<|ZX aR fun a c _ aU=>?_;refine Zs c fun _ aW=>?_;refine Zm rfl<|Ze (X0p rfl X0b)<|Zm rfl<|Zt aW fun a c=>?_;refine Q8<|X0a (σ:=Nat×(List ByteArray)) (fun (s:Nat×(List ByteArray)) (a:Act) (w:World)=>match s with|(k,q)=>∃ A8 c8,Fr a 24 [(1,.string z),(5,.slice A8 q.length c8),(9,.slice Al l.length cl),(10,vi (l.length:Int)),(11,vi (k:Int))]∧(k≤l.length)∧(q=(l.take k).map fun n=>tx (Lib.itoa n))∧(q.length=k)∧Own w i.heap.size 9 1 encTx A8 c8 q∧Below i.heap.size i w) (fun (s:Nat×(List ByteArray))=>match s with|(k,q)=>l.length-k) (0,[]) ?_ ?_
 ·exact ⟨some ⟨b4,0,none⟩,0,c.sb,(Qf _),rfl,rfl,(Own.empty aT aG),d⟩
 rintro ⟨k,q⟩ a w2 ⟨A8,c8,c,hk,hq,aH,e,d⟩;refine Zs c fun _ aX=>?_;refine Ze (X11 rfl rfl)<|ZX aX fun a c _ aI=>?_
 refine Xj c rfl (fun b=>?_) (fun b=>?_)
 ·have aB:=b;have b:=Q2 b
  obtain ⟨g,f⟩:=Xf (l:=l) (k:=k) (by omega)
  refine Q7<|aI _ _<|Q5 fun _ aJ=>?_;refine Q8<|Zs c fun _ aK=>?_;refine Zi (k:=k) (u:=g) (enc:=encI) (l:=l) trivial rfl rfl X0b X1k X05 (aE.below' d) f rfl ?_;intro b1 aC;refine Ze (X0 rfl X7 aC)<|Za rfl<|Zt aK fun a c=>?_;refine Zr c<|Zm rfl<|Zm rfl<|Zf (Vc (Xto _ g (aA _ (Qe f)).1 (aA _ (Qe f)).2 (aF.of d)) Xjt) ?_;rintro _ w3 ⟨rfl,o⟩;have e:=e.below o;have d:=btr d o;refine Zf (X5 (k:=1) (vs:=[.string (tx (Lib.itoa g))]) (zs:=[.string (tx (Lib.itoa g))]) rfl X5e Xar rfl rfl) ?_;rintro _ w4 ⟨b2,rfl,p,o,j⟩;have aY:=Q0 d.size p;have m:=e.away p;have e:=e.below o;have d:=btr d o;refine Zf (X0v (enc:=encTx) (l:=(q)) (l2:=([tx (Lib.itoa g)])) (B0:=i.heap.size) rfl rfl X5e Xar X7e Xbl e (Rd.of_blk j rfl _ j.lt) (by simp only [maxLen];simp;omega) (by simp;omega) d.size) ?_;rintro _ w5 ⟨aZ,b0,rfl,aL,hg,aM⟩
  have t:Own _ i.heap.size 9 1 encTx _ _ (q):=e
  have aD:=aM _ j.lt m;clear aM;have d:=Below.app d t hg (Qb _) d.size;clear t hg;refine Za rfl ?_;refine Zn fun a c=>?_;refine Xq<|aJ _ _<|Zr c<|Ze (X00 rfl rfl (by omega) (by omega))<|Zm rfl ?_;refine Zn fun a c=>?_;refine Xo ?_;exact ⟨(k+1,(q++[tx (Lib.itoa g)])),⟨aZ,b0,c.sb,(by omega),(Xfi hq f),(by simp;exact aH),aL,d⟩,(by first|omega|(dsimp only;omega))⟩
 have aB:=b;have b:=Q1 b
 have x:q=l.map fun n=>tx (Lib.itoa n):=by rw [hq,Qi (by omega)]
 refine Q9<|Xn<|Xn<|X06 ?_;refine aU _ _<|Zs c fun _ aN=>?_;refine Zm rfl<|Zm rfl<|Zf (Vc (Xua _ A8 c8 q z e.rd.top e.cap (by rw [aH];omega) (by rw [x];exact Xl8 aO aP aA)) Xji) ?_;rintro _ w6 ⟨rfl,o⟩;have d:=btr d o;refine Za rfl<|Zt aN fun a c=>?_
 refine Q6 (X3 c (Xs c rfl rfl) ?_)
 exact ⟨by rw [x];rfl,d⟩
theorem Xy9(w0:World)(x:Rg)(aB:PowT w0) : Ret Tryz.prog 118 [.agg #[vi x.a,vi x.b,vi x.c,vi x.d]] w0 (fun v w=>v=.tuple #[.string (fmR x),.bool (rOk x)]∧Below w0.heap.size w0 w):=by
 refine enter Tryz.func118 rfl 17 rfl rfl ?_;intro a f
 have g:=bz w0
 refine Zs f fun _ aF=>?_;refine Zf (X0i (zs:=[vi x.a,vi x.b,vi x.c,vi x.d]) rfl rfl) ?_;rintro _ w1 ⟨b2,rfl,aG,j,e⟩;have aM:=Q0 g.size aG;have g:=btr g j;refine Za rfl<|Za rfl<|ZX aF fun a f _ aH=>?_;refine Zs f fun _ aI=>?_;refine Ze (Vn X0e e)<|Zf (Vc (Xl2 _ x) X7t) ?_;rintro _ w2 ⟨rfl,j⟩;have e:=e.below j;have g:=btr g j;refine Ze (X0x rfl)<|Zt aI fun a f=>?_
 refine Xj f rfl (fun i=>?_) (fun i=>?_)
 ·have aC:=i
  have aD:rOk x=false:=by simpa using i
  refine Zs f fun _ aJ=>?_;refine Za rfl<|Za rfl<|Zt aJ fun a f=>?_;refine Q6<|X2<|X3 f (X0w f rfl rfl rfl) ?_;exact ⟨by rw [Xxs (by simp [aD]),aD];rfl,g⟩
 have aC:=i
 have aA:rOk x=true:=by simpa using i
 refine Q7<|aH _ _<|Zs f fun _ aK=>?_;refine Ze (Vd rfl X0n 0)<|Ze (X0 rfl X7 (e.at 0))<|Ze (Vd rfl X0q 1)<|Ze (X0 rfl X7 (e.at 1))<|Ze (Vd rfl X0s 2)<|Ze (X0 rfl X7 (e.at 2))<|Ze (Vd rfl X0r 3)<|Ze (X0 rfl X7 (e.at 3))<|Zf (X5 (k:=4) (vs:=[vi x.a,vi x.b,vi x.c,vi x.d]) (zs:=[vi x.a,vi x.b,vi x.c,vi x.d]) rfl X0b X1u rfl rfl) ?_;rintro _ w3 ⟨b8,rfl,aL,j,aE⟩;have aN:=Q0 g.size aL;have g:=btr g j;refine Zf (Vc (Xzj _ (some ⟨b8,0,none⟩) 4 ([x.a,x.b,x.c,x.d]) (Rd.of_blk aE rfl _ aE.lt) (tx [32]) (by simp) (by decide) (Xnz aA) (aB.of g)) Xrc) ?_;rintro _ w4 ⟨rfl,j⟩;have g:=btr g j;refine Za rfl<|Za rfl<|Zt aK fun a f=>?_
 refine Q6 (X3 f (X0w f rfl rfl rfl) ?_)
 exact ⟨by rw [Xc4 aA,aA];rfl,g⟩
theorem Xzq(w0:World)(x:Dy)(m:PowT w0) : Ret Tryz.prog 65 [.agg #[vi x.num.a,vi x.num.b,vi x.num.c,vi x.num.d,vi x.exp]] w0 (fun v w=>v=.tuple #[.string (fmD x),.bool (dOk x)]∧Below w0.heap.size w0 w):=by
 refine enter Tryz.func65 rfl 21 rfl rfl ?_;intro a f
 have g:=bz w0
 refine Zs f fun _ aC=>?_;refine Zf (X0i (zs:=[vi x.num.a,vi x.num.b,vi x.num.c,vi x.num.d,vi x.exp]) rfl rfl) ?_;rintro _ w1 ⟨b2,rfl,aD,k,e⟩;have aJ:=Q0 g.size aD;have g:=btr g k;refine Za rfl<|Za rfl<|ZX aC fun a f _ aE=>?_;refine Zs f fun _ aF=>?_;refine Ze (Vn Xr e)<|Zf (Vc (Xga _ x) X6f) ?_;rintro _ w2 ⟨rfl,k⟩;have e:=e.below k;have g:=btr g k;refine Ze (X0x rfl)<|Zt aF fun a f=>?_
 refine Xj f rfl (fun j=>?_) (fun j=>?_)
 ·have aA:=j
  have aB:dOk x=false:=by simpa using j
  refine Zs f fun _ aG=>?_;refine Za rfl<|Za rfl<|Zt aG fun a f=>?_;refine Q6<|X2<|X3 f (X0w f rfl rfl rfl) ?_;exact ⟨by rw [Xwp (by simp [aB]),aB];rfl,g⟩
 have aA:=j
 have i:dOk x=true:=by simpa using j
 refine Q7<|aE _ _<|Zs f fun _ aH=>?_;refine Ze (Vd rfl X1f 0)<|Ze (Xw (l:=[vi x.num.a,vi x.num.b,vi x.num.c,vi x.num.d]) rfl X0e ((e.at 0).take 4) rfl)<|Zf (Vc (Xy9 _ x.num (m.of g)) Xse) ?_;rintro _ w3 ⟨rfl,k⟩;have e:=e.below k;have g:=btr g k;refine Zm rfl<|Ze (X4 (vs:=[.string (fmR x.num),.bool (rOk x.num)]) rfl rfl)<|Ze (X4 (vs:=[.string (fmR x.num),.bool (rOk x.num)]) rfl rfl)<|Za rfl<|Za rfl<|Zx aH fun a f _ aI=>?_;refine Zm rfl<|Ze (Xpr rfl rfl (Xvk i))<|Ze (Vd rfl X1c 4)<|Ze (X0 rfl X7 (e.at 4))<|Zf (Vc (Xto _ x.exp (X7n i).1 (X7n i).2 (m.of g)) Xjt) ?_;rintro _ w4 ⟨rfl,k⟩;have g:=btr g k;refine Ze (Xpr rfl rfl (Xxg i))<|Za rfl<|Za rfl<|Zt aI fun a f=>?_
 refine Q6 (X3 f (X0w f rfl rfl rfl) ?_)
 exact ⟨by rw [← Xro i,i];rfl,g⟩
theorem Xi0(t:World)(m:Mx)(Am:Option Addr)(cm:Nat)(H:Rd t t.heap.size 95 encD Am m.cells)(aU:m.cells.length≤2305843009213693951)(aE:PowT t) : Ret Tryz.prog 37 [.agg #[vi m.rows,vi m.cols,.slice Am m.cells.length cm]] t (fun v w=>v=.tuple #[.string (keyM m),.bool (canY m)]∧Below t.heap.size t w):=by
 have bC:=Xpx m;refine enter Tryz.func37 rfl 39 rfl rfl ?_;intro a n
 have i:=bz t
 refine Zs n fun _ aW=>?_;refine Zf (X0i (zs:=[vi m.rows,vi m.cols,.slice Am m.cells.length cm]) rfl rfl) ?_;rintro _ w1 ⟨b3,rfl,aX,j,D⟩;have b8:=Q0 i.size aX;have i:=btr i j;refine Za rfl<|Za rfl<|Zx aW fun a n _ aY=>?_;refine Ze (Vn X0j D)<|Zf (Vc (Xyv _ m Am cm (H.below' i).top aU) Xrz) ?_;rintro _ w2 ⟨A5,c5,rfl,e,j⟩;have e:=e.lower i.size;have D:=D.below j;have i:=btr i j;refine Zm rfl<|Ze (X4 (vs:=[.agg #[vi ((canM m).rows),vi ((canM m).cols),.slice A5 ((canM m).cells).length c5],vi (canT m),.bool (canY m)]) rfl rfl)<|Ze (X4 (vs:=[.agg #[vi ((canM m).rows),vi ((canM m).cols),.slice A5 ((canM m).cells).length c5],vi (canT m),.bool (canY m)]) rfl rfl)<|Ze (X4 (vs:=[.agg #[vi ((canM m).rows),vi ((canM m).cols),.slice A5 ((canM m).cells).length c5],vi (canT m),.bool (canY m)]) rfl rfl)<|Zf (X8 (zs:=[vi 0,vi 0,.slice none 0 0]) X1o rfl) ?_;rintro _ w3 ⟨b7,rfl,aZ,j,x⟩
 have aT:b3≠b7:=by have:=D.lt;omega
 have aF:=Q0 i.size aZ;have e:=e.below j;have i:=btr i j;refine Zo (Vw [vi ((canM m).rows),vi ((canM m).cols),.slice A5 ((canM m).cells).length c5] X18 x) ?_;rintro _ w4 ⟨ho,hb⟩;have z:=x;have e:=e.onlyT ho z rfl;have i:=Below.only i ho aF;have x:=hb;refine Za rfl<|Za rfl<|Zx aY fun a n _ b0=>?_;refine Zf (X5 (k:=0) (vs:=[]) (zs:=[]) rfl X5e Xar rfl rfl) ?_;rintro _ w5 ⟨b9,rfl,b1,j,b2⟩;have aG:=Q0 i.size b1;have x:=x.below j;have e:=e.below j;have i:=btr i j;refine Za rfl<|ZX b0 fun a n _ aH=>?_;refine Zs n fun _ aI=>?_;refine Ze (Vd rfl X1g 2)<|Ze (X0 rfl X2n (x.at 2))<|Ze (X0p rfl X1d)<|Zm rfl<|Zt aI fun a n=>?_;refine Q8<|X0a (σ:=Nat×(List ByteArray)) (fun (s:Nat×(List ByteArray)) (a:Act) (w:World)=>match s with|(k,q)=>∃ E G,Fr a 39 [(6,.bool (canY m)),(7,.slice E q.length G),(20,.slice A5 ((canM m).cells).length c5),(21,vi (((canM m).cells).length:Int)),(22,vi (k:Int))]∧(k≤(canM m).cells.length)∧(q=((canM m).cells.take k).map fmD)∧(q.length=k)∧Own w t.heap.size 9 1 encTx E G q∧Own w t.heap.size 95 5 encD A5 c5 ((canM m).cells)∧Below t.heap.size t w) (fun (s:Nat×(List ByteArray))=>match s with|(k,q)=>(canM m).cells.length-k) (0,[]) ?_ ?_
 ·exact ⟨some ⟨b9,0,none⟩,0,n.sb,(Qf _),rfl,rfl,(Own.empty b2 aG),e,i⟩
 rintro ⟨k,q⟩ a w6 ⟨E,G,n,hk,hq,aJ,f,e,i⟩;refine Zs n fun _ aK=>?_;refine Ze (X11 rfl rfl)<|ZX aK fun a n _ aL=>?_
 refine Xj n rfl (fun o=>?_) (fun o=>?_)
 ·have aA:=o;have o:=Q2 o
  obtain ⟨g,I⟩:=Xf (l:=((canM m).cells)) (k:=k) (by omega)
  refine Q7<|aL _ _<|Q5 fun _ aM=>?_;refine Q8<|Zs n fun _ aN=>?_;refine Zi (k:=k) (u:=g) (enc:=encD) (l:=(canM m).cells) trivial rfl rfl X1d X04 X1a e.rd I rfl ?_;intro bD aB;refine Ze (Xw (l:=[vi g.num.a,vi g.num.b,vi g.num.c,vi g.num.d,vi g.exp]) rfl Xr aB rfl)<|Zf (X8 (zs:=[vi 0,vi 0,vi 0,vi 0,vi 0]) X1l rfl) ?_;rintro _ w7 ⟨bE,rfl,h,j,p⟩;have aC:=Q0 i.size h;have aO:=(H.below' i).away h;have A:=e.away h;have f:=f.below j;have e:=e.below j;have i:=btr i j;refine Zo (Vw [vi g.num.a,vi g.num.b,vi g.num.c,vi g.num.d,vi g.exp] X04 p) ?_;rintro _ w8 ⟨ho,hb⟩;have z:=p;have f:=f.onlyT ho z rfl;have e:=e.onlyA ho A;have i:=Below.only i ho aC;have p:=hb;refine Zx aN fun a n _ aP=>?_;refine Ze (Vn Xr p)<|Zf (Vc (Xzq _ g (aE.of i)) Xt9) ?_;rintro _ w9 ⟨rfl,j⟩;have f:=f.below j;have e:=e.below j;have i:=btr i j;refine Zm rfl<|Ze (X4 (vs:=[.string (fmD g),.bool (dOk g)]) rfl rfl)<|Ze (X4 (vs:=[.string (fmD g),.bool (dOk g)]) rfl rfl)<|Za rfl<|Za rfl<|Zt aP fun a n=>?_;refine Zr n<|Zm rfl<|Zm rfl<|Zf (X5 (k:=1) (vs:=[.string (fmD g)]) (zs:=[.string (fmD g)]) rfl X5e Xar rfl rfl) ?_;rintro _ bF ⟨bG,rfl,J,j,B⟩;have b4:=Q0 i.size J;have y:=f.away J;have f:=f.below j;have e:=e.below j;have i:=btr i j;refine Zf (X0v (enc:=encTx) (l:=(q)) (l2:=([fmD g])) (B0:=t.heap.size) rfl rfl X5e Xar X7e Xbl f (Rd.of_blk B rfl _ B.lt) (by simp only [maxLen];simp;omega) (by simp;omega) i.size) ?_;rintro _ bH ⟨b5,b6,rfl,aQ,hg,aR⟩
  have C:Own _ t.heap.size 9 1 encTx _ _ (q):=f
  have aD:=aR _ B.lt y;clear aR;have e:=e.appT C hg rfl;have i:=Below.app i C hg (Qb _) i.size;clear C hg;refine Za rfl ?_;refine Zn fun a n=>?_;refine Xq<|aM _ _<|Zr n<|Ze (X00 rfl rfl (by omega) (by omega))<|Zm rfl ?_;refine Zn fun a n=>?_;refine Xo ?_;exact ⟨(k+1,(q++[fmD g])),⟨b5,b6,n.sb,(by omega),(Xfi hq I),(by simp;exact aJ),aQ,e,i⟩,(by first|omega|(dsimp only;omega))⟩
 have aA:=o;have o:=Q1 o
 have L:q=(canM m).cells.map fmD:=by rw [hq,Qi (by omega)]
 refine Q9<|Xn<|Xn<|X06 ?_;refine aH _ _<|Zs n fun _ aS=>?_;refine Zm rfl<|Zf (Vc (Xua _ E G q (tx [44]) f.rd.top f.cap (by rw [aJ];omega) (by rw [L];exact Xhg m (by omega))) Xji) ?_;rintro _ bI ⟨rfl,j⟩;have i:=btr i j;refine Zm rfl<|Za rfl<|Za rfl<|Zt aS fun a n=>?_
 refine Q6 (X3 n (X0w n rfl rfl rfl) ?_)
 exact ⟨by rw [L];rfl,i⟩
theorem Y03(x:World)(n:Nat)(hn:n=1∨n=2) : Ret Tryz.prog 68 [vi (n:Int)] x (fun v w=>∃ A c,v=.slice A (gsT n).length c∧Own w x.heap.size 115 3 encG A c (gsT n)∧Below x.heap.size x w):=by
 refine enter Tryz.func68 rfl 34 rfl rfl ?_;intro a b
 have e:=bz x
 refine Zs b fun _ aY=>?_;refine Za rfl<|Zx aY fun a b _ aZ=>?_;refine Zf (X5 (k:=0) (vs:=[]) (zs:=[]) rfl Xb Xk rfl rfl) ?_;rintro _ w1 ⟨b4,rfl,b0,h,aA⟩;have aH:=Q0 e.size b0;have e:=btr e h;refine Za rfl<|ZX aZ fun a b _ b1=>?_;refine Zs b fun _ b2=>?_;refine Zf (X5 (k:=3) (vs:=[vi 1,vi 5,vi 7]) (zs:=[vi 1,vi 5,vi 7]) rfl X0b X1u rfl rfl) ?_;rintro _ w2 ⟨b8,rfl,b3,h,f⟩;have bI:=Q0 e.size b3;have aA:=aA.below h;have e:=btr e h;refine Ze (X0p rfl X0b)<|Zm rfl<|Zt b2 fun a b=>?_;refine Q8<|X0a (σ:=Nat×(List Gt)) (fun (s:Nat×(List Gt)) (a:Act) (w:World)=>match s with|(i,q)=>∃ B C,Fr a 34 [(0,vi (n:Int)),(3,.slice B q.length C),(8,.slice (some ⟨b8,0,none⟩) ([1,5,7]).length 3),(9,vi (([1,5,7]).length:Int)),(10,vi (i:Int))]∧(i≤3)∧(q=tgL n i 0)∧Blk w b8 3 [vi 1,vi 5,vi 7]∧Own w x.heap.size 115 3 encG B C q∧Below x.heap.size x w) (fun (s:Nat×(List Gt))=>match s with|(i,q)=>3-i) (0,[]) ?_ ?_
 ·exact ⟨some ⟨b4,0,none⟩,0,b.sb,(by omega),rfl,f,(Own.empty aA aH),e⟩
 rintro ⟨i,q⟩ a w3 ⟨B,C,b,hi,hq,f,g,e⟩;refine Zs b fun _ aI=>?_;refine Ze (X11 rfl rfl)<|ZX aI fun a b _ aJ=>?_
 refine Xj b rfl (fun d=>?_) (fun d=>?_)
 ·have aB:=d;have d:=Q2 d
  obtain ⟨bK,bJ⟩:=Xf (l:=([1,5,7])) (k:=i) (by omega)
  obtain ⟨M,aK⟩:=Xf (l:=([1,5,7] : List Int)) (k:=i) (by have h9:=d;simp at h9;simp;omega)
  have bL:i<3:=by have h9:=d;simp at h9;omega
  refine Q7<|aJ _ _<|Q5 fun _ aL=>?_;refine Q8<|Zs b fun _ aM=>?_;refine Zi (k:=i) (u:=M) (enc:=encI) (l:=[1,5,7]) trivial rfl rfl X0b X1k X05 (Rd.of_blk f rfl _ f.lt) aK rfl ?_;intro bM aC;refine Ze (X0 rfl X7 aC)<|Za rfl<|Zx aM fun a b _ aN=>?_;refine Zm rfl<|Zm rfl<|Zt aN fun a b=>?_;refine Q8<|X0a (σ:=Nat×(List Gt)) (fun (s:Nat×(List Gt)) (a:Act) (w:World)=>match s with|(j,H)=>∃ I J,Fr a 34 [(0,vi (n:Int)),(3,.slice I H.length J),(5,vi M),(8,.slice (some ⟨b8,0,none⟩) ([1,5,7]).length 3),(9,vi (([1,5,7]).length:Int)),(10,vi (i:Int)),(14,vi (n:Int)),(15,vi (j:Int))]∧(j≤n)∧(H=tgL n i j)∧Blk w b8 3 [vi 1,vi 5,vi 7]∧Own w x.heap.size 115 3 encG I J H∧Below x.heap.size x w) (fun (s:Nat×(List Gt))=>match s with|(j,H)=>n-j) (0,q) ?_ ?_
  ·exact ⟨B,C,b.sb,(Qf _),hq,f,g,e⟩
  rintro ⟨j,H⟩ a w4 ⟨I,J,b,hj,L,f,o,e⟩;refine Zs b fun _ aO=>?_;refine Ze (X11 rfl rfl)<|ZX aO fun a b _ aP=>?_
  refine Xj b rfl (fun m=>?_) (fun m=>?_)
  ·have aD:=m;have m:=Q2 m;refine Q7<|aP _ _<|Q5 fun _ aQ=>?_;refine Q8<|Zs b fun _ aR=>?_;refine Zm rfl<|Za rfl<|Zt aR fun a b=>?_;refine Zr b<|Zm rfl<|Zm rfl<|Zm rfl<|Ze (Xg (ps:=[(0,vi M),(1,vi (j:Int))]) (cs:=[vi M,vi (j:Int),vi 0]) rfl (fun _=>by first|rfl|kernel_rfl))<|Zf (X5 (k:=1) (vs:=[.agg #[vi M,vi (j:Int),vi 0]]) (zs:=[vi M,vi (j:Int),vi 0]) rfl Xb Xk rfl rfl) ?_;rintro _ w5 ⟨bN,rfl,N,h,D⟩;have b5:=Q0 e.size N;have y:=o.away N;have f:=f.below h;have o:=o.below h;have e:=btr e h;refine Zf (X0v (enc:=encG) (l:=(H)) (l2:=([(⟨M,(j:Int),0⟩ : Gt)])) (B0:=x.heap.size) rfl rfl Xb Xk X9 X07 o (Rd.of_blk D rfl _ D.lt) (by rw [L];have:=Xhp n i j;simp only [maxLen];simp;omega) (by rw [L];have:=Xhp n i j;simp;omega) e.size) ?_;rintro _ w6 ⟨b6,b7,rfl,aS,hg,E⟩
   have p:Own _ x.heap.size 115 3 encG _ _ (H):=o
   have aF:=E _ D.lt y;clear E;have f:=f.appT p hg rfl;have e:=Below.app e p hg (Qb _) e.size;clear p hg;refine Za rfl ?_;refine Zn fun a b=>?_;refine Xq<|aQ _ _<|Zr b<|Ze (X00 rfl rfl (by omega) (by omega))<|Zm rfl ?_;refine Zn fun a b=>?_;refine Xo ?_;exact ⟨(j+1,(H++[⟨M,(j:Int),0⟩])),⟨b6,b7,b.sb,(by omega),(by rw [L];exact Xnh n aK),f,aS,e⟩,(by first|omega|(dsimp only;omega))⟩
  have aD:=m;have m:=Q1 m
  have b9:j=n:=by omega
  refine Q9<|Xn<|Xn<|X06 ?_;refine Xq<|aL _ _<|Zr b<|Ze (X00 rfl rfl (by omega) (by omega))<|Zm rfl ?_;refine Zn fun a b=>?_;refine Xo ?_;exact ⟨(i+1,H),⟨I,J,b.sb,(by omega),(by rw [L,b9];exact Xrd n (by omega)),f,o,e⟩,(by first|omega|(dsimp only;omega))⟩
 have aB:=d;have d:=Q1 d
 have bC:i=3:=by have h9:=d;simp at h9;omega
 subst bC
 refine Q9<|Xn<|Xn<|X06 ?_;refine b1 _ _<|Q5 fun _ Q=>?_;refine Zs b fun _ aT=>?_;refine Zm rfl<|Ze (X16 rfl rfl)<|Zt aT fun a b=>?_
 refine Xj b rfl (fun t=>?_) (fun t=>?_)
 ·have aE:=t
  have bD:n=2:=by have h9:(n:Int)=2:=(by simpa using t);omega
  subst bD
  refine Zr b<|Zm rfl<|Ze (Xg (ps:=[(0,vi 9),(1,vi 0),(2,vi 1)]) (cs:=[vi 9,vi 0,vi 1]) rfl (fun _=>by first|rfl|kernel_rfl))<|Ze (Xg (ps:=[(0,vi 9),(1,vi 1),(2,vi 0)]) (cs:=[vi 9,vi 1,vi 0]) rfl (fun _=>by first|rfl|kernel_rfl))<|Zf (X5 (k:=2) (vs:=[.agg #[vi 9,vi 0,vi 1],.agg #[vi 9,vi 1,vi 0]]) (zs:=[vi 9,vi 0,vi 1,vi 9,vi 1,vi 0]) rfl Xb Xk rfl rfl) ?_;rintro _ w7 ⟨bO,rfl,U,h,G⟩;have bE:=Q0 e.size U;have z:=g.away U;have g:=g.below h;have e:=btr e h;refine Zf (X0v (enc:=encG) (l:=(q)) (l2:=([(⟨9,0,1⟩ : Gt),(⟨9,1,0⟩ : Gt)])) (B0:=x.heap.size) rfl rfl Xb Xk X9 X07 g (Rd.of_blk G rfl _ G.lt) (by rw [hq];simp only [maxLen];decide) (by rw [hq];decide) e.size) ?_;rintro _ w8 ⟨bF,bG,rfl,aU,hg,E⟩
  have p:Own _ x.heap.size 115 3 encG _ _ (q):=g
  have aG:=E _ G.lt z;clear E;have e:=Below.app e p hg (Qb _) e.size;clear p hg;refine Za rfl<|Zx Q fun a b _ aW=>?_;refine Zm rfl<|Za rfl<|Zt aW fun a b=>?_
  refine Q6 (X3 b (Xs b rfl rfl) ?_)
  subst hq
  exact ⟨bF,bG,rfl,aU,e⟩
 have aE:=t
 have bH:n=1:=by have h9:¬ (n:Int)=2:=(by simpa using t);omega
 subst bH
 refine Q7<|Q _ _<|Zs b fun _ aX=>?_;refine Zm rfl<|Za rfl<|Zt aX fun a b=>?_
 refine Q6 (X3 b (Xs b rfl rfl) ?_)
 subst hq
 exact ⟨B,C,rfl,g,e⟩
abbrev kyX(n:Nat) : List Gt→ByteArray:=fun w=>kyT (kyW n w)
theorem X5g{m:Mx}(h:mOk m=true) : m.cells.length≤2305843009213693951:=by
 have hl:=X32 h;have h1:=hl.2.2
 have:m.rows.toNat*m.cols.toNat≤32*32:=Nat.mul_le_mul (by omega) (by omega)
 first|omega|(rw [h1];omega)
theorem Xi4{n:Nat}(hn:n=1∨n=2){k:Nat}(hk:k≤8){w:List Gt}(hw:w ∈ wds (gsT n) k) : keyM (valW n w)=kyX n w∧canY (valW n w)=true:=by
 obtain ⟨h1,_,_,h4⟩:=X2b hn hk hw
 refine ⟨Xjn h1,?_⟩
 unfold canY;rw [h1]
 cases e:canL (valW n w).cells with
 | none=>exact absurd e h4
 | some x=>rfl
theorem Xnd(n:Nat)(A:Option Addr)(c:Nat){s:ByteArray}(hs:s=kyX n []) : sgL (updG (fun _=>none) s ⟨A,c,[]⟩)=(tbW n 0).1:=by
 subst hs
 funext q
 rw [Xid];rfl
theorem X8y(n:Nat) : (gsT n).length≤8:=by unfold gsT;split<;>decide
theorem Xjl{G:Type}(gs:List G)(lev:List (List G))(i j:Nat) : (rndW gs lev i j).length≤i*gs.length+j:=by
 unfold rndW
 have h:∀ l:List (List G),(l.flatMap fun u=>gs.map fun g=>u++[g]).length=l.length*gs.length:=by
  intro l;induction l with
  | nil=>simp
  | cons x l ih=>rw [Wc,Qh,ih,Qs,Wb,Qo];omega
 rw [Qh,h,Qo,Qn,Qn]
 have:min i lev.length*gs.length≤i*gs.length:=Nat.mul_le_mul_right _ (Nat.min_le_left ..)
 omega
theorem X8w{G K:Type}[DecidableEq K](ky:List G→K) : ∀ (l:List (List G)) (T:K→Option (List G)),(enT ky T l).2.length≤l.length
 | [],_=>by simp [enT]
 | w::l,T=>by
  simp only [enT]
  cases T (ky w) with
  | some x=>have:=X8w ky l T;simp only [Qs];omega
  | none=>have:=X8w ky l (fun q=>if q=ky w then some w else T q);simp only [Qs];omega
def StW(n r i j:Nat)(F:ByteArray→Option Sq)(N:List Tw) : Prop:=(sgL F,N.map Tw.w)=enT (kyX n) (tbW n r).1 (rndW (gsT n) (tbW n r).2 i j)
theorem Xrp{n r:Nat}{F:ByteArray→Option Sq}(h:sgL F=(tbW n r).1) : StW n r 0 0 F []:=by
 unfold StW;rw [Xk9,h];rfl
theorem Xpq{n r i j:Nat}{F:ByteArray→Option Sq}{N L:List Tw}{u:Gt}{t:Tw}(h:StW n r i j F N)(hL:L.map Tw.w=(tbW n r).2)(ht:L[i]? = some t)(hu:(gsT n)[j]? = some u){s:ByteArray}(hs:s=kyX n (t.w++[u]))(hk:(sgL F s).isSome=true) : StW n r i (j+1) F N:=by
 unfold StW at *
 have e:(tbW n r).2.getD i []=t.w:=by rw [← hL,Qa,List.getElem?_map,ht];rfl
 have h1:=congrArg Prod.fst h;have h2:=congrArg Prod.snd h
 simp only at h1 h2
 rw [Xbw hu,e,X8m,← h1,Xk5 (by rw [← hs];exact hk),← h2,List.append_nil]
theorem Xvu{n r i j:Nat}{F:ByteArray→Option Sq}{N L:List Tw}{u:Gt}{t x:Tw}{sq:Sq}(h:StW n r i j F N)(hL:L.map Tw.w=(tbW n r).2)(ht:L[i]? = some t)(hu:(gsT n)[j]? = some u){s:ByteArray}(hs:s=kyX n (t.w++[u]))(hk:(sgL F s).isSome=false)(hx:x.w=t.w++[u])(hq:sq.w=t.w++[u]) : StW n r i (j+1) (updG F s sq) (N++[x]):=by
 unfold StW at *
 have e:(tbW n r).2.getD i []=t.w:=by rw [← hL,Qa,List.getElem?_map,ht];rfl
 have h1:=congrArg Prod.fst h;have h2:=congrArg Prod.snd h
 simp only at h1 h2
 have hk2:sgL F (kyX n (t.w++[u]))=none:=by rw [← hs];simpa using hk
 rw [Xbw hu,e,X8m,← h1,Xta hk2,← h2,Xid,hq,List.map_append,hs]
 simp [hx]
theorem Xs0{n r i:Nat}{F:ByteArray→Option Sq}{N:List Tw}(h:StW n r i (gsT n).length F N)(hi:i<(tbW n r).2.length) : StW n r (i+1) 0 F N:=by
 unfold StW at *;rw [Xk6 hi,h]
theorem Xey{n r:Nat}{F:ByteArray→Option Sq}{N:List Tw}(h:StW n r (tbW n r).2.length 0 F N) : sgL F=(tbW n (r+1)).1∧N.map Tw.w=(tbW n (r+1)).2:=by
 unfold StW at h
 rw [Xe9] at h
 have e:tbW n (r+1)=enT (kyX n) (tbW n r).1 ((tbW n r).2.flatMap fun u=>(gsT n).map fun g=>u++[g]):=rfl
 rw [e,← h];exact ⟨rfl,rfl⟩
theorem Xvw{n r i j:Nat}{F:ByteArray→Option Sq}{N:List Tw}(h:StW n r i j F N) : N.length≤i*8+j:=by
 unfold StW at h
 have h2:=congrArg Prod.snd h
 simp only at h2
 have h3:=congrArg List.length h2
 rw [Qo] at h3
 have:=X8w (kyX n) (rndW (gsT n) (tbW n r).2 i j) (tbW n r).1
 have:=Xjl (gsT n) (tbW n r).2 i j
 have:=Nat.mul_le_mul_left i (X8y n)
 omega
theorem Xm6(n:Nat) : ∀ r,(tbW n r).2.length≤8^r
 | 0=>by simp [tbW,grT]
 | r+1=>by
  have e:tbW n (r+1)=enT (kyX n) (tbW n r).1 ((tbW n r).2.flatMap fun u=>(gsT n).map fun g=>u++[g]):=rfl
  have h1:=X8w (kyX n) ((tbW n r).2.flatMap fun u=>(gsT n).map fun g=>u++[g]) (tbW n r).1
  have h2:=Xjl (gsT n) (tbW n r).2 (tbW n r).2.length 0
  rw [Xe9] at h2
  rw [e]
  have h3:=Nat.mul_le_mul (Xm6 n r) (X8y n)
  rw [Nat.pow_succ];omega
theorem Xt4{n r:Nat}(hr:r≤8) : (tbW n r).2.length≤16777216:=by
 have:=Xm6 n r
 have h2:8^r≤8^8:=Nat.pow_le_pow_right (by decide) hr
 have h3:(8:Nat)^8=16777216:=by decide
 omega
theorem Xgv{n r:Nat}{L:List Tw}(h:L.map Tw.w=(tbW n r).2) : L.length=(tbW n r).2.length:=by rw [← h,Qo]
theorem Xy1{n r i:Nat}{L:List Tw}{t:Tw}(h:L.map Tw.w=(tbW n r).2)(ht:L[i]? = some t) : t.w ∈ wds (gsT n) r:=by
 apply Xr0 r
 rw [← h];exact W6.2 ⟨t,Qe ht,rfl⟩
theorem Xsl{n r i j:Nat}(hn:n=1∨n=2)(hr:r<8){L:List Tw}{t:Tw}{u:Gt}(hL:L.map Tw.w=(tbW n r).2)(hv:∀ t ∈ L,t.m=valW n t.w)(ht:L[i]? = some t)(hu:(gsT n)[j]? = some u) :
  gateI (n:Int) u=some (gateS n u)∧mulI (gateS n u) t.m=some (valW n (t.w++[u]))∧keyM (valW n (t.w++[u]))=kyX n (t.w++[u])∧canY (valW n (t.w++[u]))=true∧(gateS n u).cells.length≤2305843009213693951∧t.m.cells.length≤2305843009213693951∧(valW n (t.w++[u])).cells.length≤2305843009213693951∧t.w.length≤8:=by
 have hm:=Qe hu;have hw:=Xy1 hL ht;have hg:=X2y (X65 hn u hm).1
 have e:=hv t (Qe ht)
 have hs:=X34 hw hm
 obtain ⟨k1,k2⟩:=Xi4 hn (by omega:r+1≤8) hs
 refine ⟨hg.1,?_,k1,k2,X5g hg.2,?_,X5g (X2b hn (by omega:r+1≤8) hs).1,?_⟩
 ·rw [e];exact Xbt hn hr hw hm
 ·rw [e];exact X5g (X2b hn (by omega:r≤8) hw).1
 ·have:=X8h _ _ _ hw;omega
theorem Xsb{n:Nat}{N:List Tw}{x:Tw}(h:∀ t ∈ N,t.m=valW n t.w)(hx:x.m=valW n x.w) : ∀ t ∈ N++[x],t.m=valW n t.w:=fun t ht=>by
 rcases Qu.1 ht with ht|ht
 ·exact h t ht
 ·rw [Qm.1 ht];exact hx
theorem X64(w0:World)(Al:Option Addr)(cl:Nat)(l:List Gt)(d:Rd w0 w0.heap.size 115 encG Al l)(aM:l.length≤100000000) : Ret Tryz.prog 71 [.slice Al l.length cl] w0 (fun v w=>∃ A c,v=.slice A l.length c∧Own w w0.heap.size 115 3 encG A c l∧Below w0.heap.size w0 w):=by
 refine enter Tryz.func71 rfl 8 rfl rfl ?_;intro a b
 have f:=bz w0
 refine Zs b fun _ aG=>?_;refine Za rfl<|ZX aG fun a b _ aH=>?_;refine Zs b fun _ aI=>?_;refine Zm rfl<|Ze (Xkp rfl rfl Xb)<|Zt aI fun a b=>?_
 refine Xj b rfl (fun g=>?_) (fun g=>?_)
 ·have aB:=g
  have aC:l=[]:=Rd.nil_of d g
  refine Zs b fun _ aJ=>?_;refine Za rfl<|Zt aJ fun a b=>?_;refine Q6<|X2<|X3 b (Xs b rfl rfl) ?_
  subst aC
  exact ⟨none,0,rfl,Own.nil _ _ _ _ _,f⟩
 have aB:=g;refine Q7<|aH _ _<|Zs b fun _ aD=>?_;refine Zf (X5 (k:=0) (vs:=[]) (zs:=[]) rfl Xb Xk rfl rfl) ?_;rintro _ w1 ⟨aN,rfl,i,hE,aE⟩;have aA:=Q0 f.size i;have aF:=(d.below' f).away i;have f:=btr f hE;refine Zm rfl<|Zf (X3v (enc:=encG) (l2:=(l)) rfl rfl Xb Xk X9 X07 aE (d.below' f) (by simp only [maxLen];omega) (by omega)) ?_;rintro _ w2 ⟨aK,aL,rfl,e,hE⟩;have e:=e.lower aA;have f:=btr f hE;refine Za rfl<|Zt aD fun a b=>?_
 refine Q6 (X3 b (Xs b rfl rfl) ?_)
 exact ⟨aK,aL,rfl,e,f⟩
theorem Xtt(w0:World)(n:Nat)(k:Nat)(hn:n=1∨n=2)(hk:k≤8)(l3:PowT w0) : Ret Tryz.prog 38 [vi (n:Int),vi (k:Int)] w0 (fun v w=>∃ b F A c zs,v=.agg #[.map (some b),.slice A zs.length c]∧MapS w b (sgF F)∧DeepM w w.heap.size 115 F∧sgL F=(tbW n k).1∧Own w w0.heap.size 3 1 encI A c zs∧w0.heap.size≤b∧Below w0.heap.size w0 w):=by
 have nJ:([] : List Gt) ∈ wds (gsT n) 0:=Qm.2 rfl
 have pF:=X2b hn (by omega:0≤8) nJ
 have nK:idI ((2^n:Nat) : Int)=some (valW n []):=by rw [X73 n hn];exact (X38 (d:=2^n) (X2c (n:=(n:Int)) (by omega))).1
 have q8:=X8y n
 obtain ⟨pG,q9⟩:=Xi4 hn (by omega:0≤8) nJ
 refine enter Tryz.func38 rfl 125 rfl rfl ?_;intro a J
 have C:=bz w0
 refine Zs J fun _ pH=>?_;refine Zf (X8 (zs:=[.map none,.slice none 0 0]) Xna rfl) ?_;rintro _ w1 ⟨b3,rfl,pI,o,M⟩;have nL:=Q0 C.size pI;have C:=btr C o;refine Zx pH fun a J _ pJ=>?_;refine Zm rfl<|Ze (Xbq (m:=n) (D:=(2^n:Nat)) rfl rfl rfl ⟨rfl,by omega⟩)<|Zf (X26 (vs:=[vi ((2^n:Nat) : Int)]) rfl Xnk (by have hq:=Xz5 w1 ((2^n:Nat) : Int);rw [nK,Qq,Option.isSome_some] at hq;exact hq)) ?_;rintro _ w2 ⟨A5,c5,rfl,b5,o⟩;have b5:=b5.lower C.size;have M:=M.below o;have C:=btr C o;refine Zm rfl<|Ze (X4 (vs:=[.agg #[vi ((valW n []).rows),vi ((valW n []).cols),.slice A5 ((valW n []).cells).length c5],.bool true]) rfl rfl)<|Ze (X4 (vs:=[.agg #[vi ((valW n []).rows),vi ((valW n []).cols),.slice A5 ((valW n []).cells).length c5],.bool true]) rfl rfl)<|Zf (X8 (zs:=[vi 0,vi 0,.slice none 0 0]) X1o rfl) ?_;rintro _ w3 ⟨b7,rfl,pK,o,bG⟩;have nM:=Q0 C.size pK;have M:=M.below o;have b5:=b5.below o;have C:=btr C o;refine Zo (Vw [vi ((valW n []).rows),vi ((valW n []).cols),.slice A5 ((valW n []).cells).length c5] X18 bG) ?_;rintro _ w4 ⟨ho,hb⟩;have E:=bG;have M:=M.only ho (Blk.ne M E rfl);have b5:=b5.onlyT ho E rfl;have C:=Below.only C ho nM;have bG:=hb;refine Za rfl<|Zx pJ fun a J _ pL=>?_;refine Ze (Vn X0j bG)<|Zf (Vc (Xi0 _ (valW n []) A5 c5 b5.rd.top (X5g pF.1) (l3.of C)) X8s) ?_;rintro _ w5 ⟨rfl,o⟩;have M:=M.below o;have bG:=bG.below o;have b5:=b5.below o;have C:=btr C o;refine Zm rfl<|Ze (X4 (vs:=[.string (keyM (valW n [])),.bool (canY (valW n []))]) rfl rfl)<|Ze (X4 (vs:=[.string (keyM (valW n [])),.bool (canY (valW n []))]) rfl rfl)<|Za rfl<|Za rfl<|Zt pL fun a J=>?_
 refine Zs J fun _ pM=>?_;refine Zf (Xx0) ?_;rintro _ w6 ⟨cA,rfl,nN,o,q⟩;have eK:=Q0 C.size nN;have M:=M.below o;have bG:=bG.below o;have b5:=b5.below o;have C:=btr C o
 replace q:MapS w6 cA (sgF (fun _=>none)):=q
 have Q:=DeepM.none w6 w6.heap.size 115;refine Zm rfl<|Zf (X5 (k:=0) (vs:=[]) (zs:=[]) rfl Xb Xk rfl rfl) ?_;rintro _ w7 ⟨jD,rfl,nO,o,q0⟩;have pN:=Q0 C.size nO;have M:=M.below o;have bG:=bG.below o;have q:=q.below o;have b5:=b5.below o;have Q:=Q.below o;have C:=btr C o;refine Zo (Xy4 (f:=sgF (fun _=>none)) (s:=keyM (valW n [])) rfl rfl rfl Tryz.underlying71 Tryz.underlying9 q rfl) ?_;rintro _ w8 ⟨ho,cR⟩;have iP:=DeepM.upd (s:=keyM (valW n [])) (x:=(⟨some ⟨jD,0,none⟩,0,([] : List Gt)⟩ : Sq)) Q.top (Rd.nil _ _ _ _ _)
 clear Q;have Q:=iP;clear iP;have bD:=q.nc;have M:=M.onlyN ho bD;have bG:=bG.onlyN ho bD;have b5:=b5.onlyN ho bD;have Q:=Q.onlyN ho bD;have C:=Below.only C ho eK
 rw [show Value.slice (some ⟨jD,0,none⟩) 0 0=Sq.v (⟨some ⟨jD,0,none⟩,0,([] : List Gt)⟩ : Sq) from rfl,Xje] at cR
 have q:=cR;clear cR ho bD;refine Zm rfl<|Zf (X5 (k:=1) (vs:=[vi 1]) (zs:=[vi 1]) rfl X0b X1u rfl rfl) ?_;rintro _ w9 ⟨jE,rfl,nP,o,cO⟩;have lP:=Q0 C.size nP;have M:=M.below o;have bG:=bG.below o;have q:=q.below o;have b5:=b5.below o;have Q:=Q.below o;have C:=btr C o;refine Ze (Xg (ps:=[(0,.map (some cA)),(1,.slice (some ⟨jE,0,none⟩) ([1]).length 1)]) (cs:=[.map (some cA),.slice (some ⟨jE,0,none⟩) ([1]).length 1]) rfl (fun _=>by first|rfl|kernel_rfl))<|Zf (X8 (zs:=[.map none,.slice none 0 0]) Xna rfl) ?_;rintro _ qC ⟨b17,rfl,nQ,o,I⟩
 have nR:b3≠b17:=by have:=M.lt;omega
 have iQ:=Q0 C.size nQ;have M:=M.below o;have bG:=bG.below o;have q:=q.below o;have cO:=cO.below o;have b5:=b5.below o;have Q:=Q.below o;have C:=btr C o;refine Zo (Vw [.map (some cA),.slice (some ⟨jE,0,none⟩) ([1]).length 1] X93 I) ?_;rintro _ qD ⟨ho,hb⟩;have E:=I;have M:=M.only ho (by omega);have bG:=bG.only ho (Blk.ne bG E rfl);have q:=q.only ho (q.ne E);have cO:=cO.only ho (Blk.ne cO E rfl);have b5:=b5.onlyT ho E rfl;have Q:=Q.onlyT ho E rfl;have C:=Below.only C ho iQ;have I:=hb;refine Zx pM fun a J _ nS=>?_;refine Ze (Vn X0j bG)<|Ze (Xg (ps:=[(1,.agg #[vi ((valW n []).rows),vi ((valW n []).cols),.slice A5 ((valW n []).cells).length c5])]) (cs:=[.slice none 0 0,vi ((valW n []).rows),vi ((valW n []).cols),.slice A5 ((valW n []).cells).length c5]) rfl (fun _=>by first|rfl|kernel_rfl))<|Zf (X5 (k:=1) (vs:=[.agg #[.slice none 0 0,vi ((valW n []).rows),vi ((valW n []).cols),.slice A5 ((valW n []).cells).length c5]]) (zs:=[.slice none 0 0,vi ((valW n []).rows),vi ((valW n []).cols),.slice A5 ((valW n []).cells).length c5]) rfl X46 X6u rfl rfl) ?_;rintro _ qE ⟨pO,rfl,nT,o,nU⟩;have lQ:=Q0 C.size nT;have M:=M.below o;have q:=q.below o;have cO:=cO.below o;have I:=I.below o;have b5:=b5.below o;have Q:=Q.below o;have C:=btr C o;refine Za rfl<|ZX nS fun a J _ nV=>?_;refine Zs J fun _ nX=>?_;refine Zm rfl<|Zm rfl<|Zt nX fun a J=>?_;refine Q8<|X0a (σ:=Nat×(List Tw)×(ByteArray→Option Sq)×(List Int)) (fun (s:Nat×(List Tw)×(ByteArray→Option Sq)×(List Int)) (a:Act) (w:World)=>match s with|(r,L,Fg,zs)=>∃ b0 b8 dG dH,Fr a 125 [(0,vi (n:Int)),(4,.pointer (some ⟨b3,0,none⟩)),(9,.pointer (some ⟨b17,0,none⟩)),(10,.slice b0 L.length b8),(45,vi (k:Int)),(46,vi (r:Int))]∧(r≤k)∧(L.map Tw.w=(tbW n r).2)∧(sgL Fg=(tbW n r).1)∧(∀ t ∈ L,t.m=valW n t.w)∧(zs.length=r+1)∧Blk w b3 73 [.map none,.slice none 0 0]∧MapS w cA (sgF Fg)∧Blk w b17 73 [.map (some cA),.slice dG zs.length dH]∧Own w w0.heap.size 111 4 encTw b0 b8 L∧Own w w0.heap.size 3 1 encI dG dH zs∧DeepT w w.heap.size 115 95 L∧DeepM w (w.heap.size) 115 Fg∧Below w0.heap.size w0 w) (fun (s:Nat×(List Tw)×(ByteArray→Option Sq)×(List Int))=>match s with|(r,L,Fg,zs)=>k-r) (0,[(⟨none,0,([] : List Gt),(valW n []),A5,c5⟩ : Tw)],(updG (fun _=>none) (keyM (valW n [])) (⟨some ⟨jD,0,none⟩,0,([] : List Gt)⟩ : Sq)),[1]) ?_ ?_
 ·exact ⟨some ⟨pO,0,none⟩,1,some ⟨jE,0,none⟩,1,J.sb,(Qf _),rfl,(Xnd n _ _ pG),(fun t9 lR=>by rw [Qm.1 lR]),rfl,M,q,I,(Own.of_blkL X7i nU lQ rfl rfl (by decide)),(Own.of_blkL X05 cO lP rfl rfl (by decide)),(DeepT.one (Rd.nil _ _ _ _ _) b5.rd.top),Q.top,C⟩
 rintro ⟨r,L,Fg,zs⟩ a qF ⟨b0,b8,dG,dH,J,hr,hL,hF,hv,qG,M,q,I,U,N,aI,Q,C⟩
 have qH:L.length≤16777216:=by rw [Xgv hL];exact Xt4 (by omega)
 refine Zs J fun _ nY=>?_;refine Ze (X11 rfl rfl)<|ZX nY fun a J _ nZ=>?_
 refine Xj J rfl (fun cS=>?_) (fun cS=>?_)
 ·have lS:=cS;have cS:=Q2 cS;refine Q7<|nZ _ _<|Q5 fun _ o0=>?_;refine Q8<|Zs J fun _ o3=>?_;refine Zf (X5 (k:=0) (vs:=[]) (zs:=[]) rfl X46 X6u rfl rfl) ?_;rintro _ qI ⟨pP,rfl,l4,o,o4⟩;have lT:=Q0 C.size l4;have iC:=U.away l4;have M:=M.below o;have q:=q.below o;have I:=I.below o;have U:=U.below o;have N:=N.below o;have aI:=aI.below o;have Q:=Q.below o;have C:=btr C o;refine Za rfl<|ZX o3 fun a J _ o5=>?_;refine Zs J fun _ o6=>?_;refine Zm rfl<|Ze (X0p rfl X46)<|Zm rfl<|Zt o6 fun a J=>?_;refine Q8<|X0a (σ:=Nat×(List Tw)×(ByteArray→Option Sq)) (fun (s:Nat×(List Tw)×(ByteArray→Option Sq)) (a:Act) (w:World)=>match s with|(i,N2,Fj)=>∃ iD iS,Fr a 125 [(0,vi (n:Int)),(4,.pointer (some ⟨b3,0,none⟩)),(9,.pointer (some ⟨b17,0,none⟩)),(11,.slice iD N2.length iS),(45,vi (k:Int)),(46,vi (r:Int)),(49,.slice b0 L.length b8),(50,vi (L.length:Int)),(51,vi (i:Int))]∧(i≤L.length)∧(StW n r i 0 Fj N2)∧(∀ t ∈ N2,t.m=valW n t.w)∧Blk w b3 73 [.map none,.slice none 0 0]∧MapS w cA (sgF Fj)∧Blk w b17 73 [.map (some cA),.slice dG zs.length dH]∧Own w w0.heap.size 111 4 encTw iD iS N2∧Own w w0.heap.size 111 4 encTw b0 b8 L∧Own w w0.heap.size 3 1 encI dG dH zs∧DeepT w w.heap.size 115 95 N2∧DeepT w w.heap.size 115 95 L∧DeepM w (w.heap.size) 115 Fj∧Apart b0 iD∧Below w0.heap.size w0 w) (fun (s:Nat×(List Tw)×(ByteArray→Option Sq))=>match s with|(i,N2,Fj)=>L.length-i) (0,[],Fg) ?_ ?_
  ·exact ⟨some ⟨pP,0,none⟩,0,J.sb,(Qf _),(Xrp hF),(fun t9 lR=>by cases lR),M,q,I,(Own.empty o4 lT),U,N,(DeepT.nil _ _ _ _),aI.top,Q.top,(Apart.of_away iC),C⟩
  rintro ⟨i,N2,Fj⟩ a qJ ⟨iD,iS,J,hi,o7,l5,M,q,I,b9,U,N,bE,aI,Q,iE,C⟩;refine Zs J fun _ o8=>?_;refine Ze (X11 rfl rfl)<|ZX o8 fun a J _ o9=>?_
  refine Xj J rfl (fun cT=>?_) (fun cT=>?_)
  ·have lU:=cT;have cT:=Q2 cT
   obtain ⟨e,dI⟩:=Xf (l:=L) (k:=i) (by omega)
   skip
   refine Q7<|o9 _ _<|Q5 fun _ oB=>?_;refine Q8<|Zs J fun _ oC=>?_;refine Zi (k:=i) (u:=e) (enc:=encTw) (l:=L) trivial rfl rfl X46 Xcs X7i U.rd dI rfl ?_;intro qK lV;have y:=(aI e (Qe dI)).1;have aD:=(aI e (Qe dI)).2;refine Ze (Xw (l:=[.slice e.A e.w.length e.c,vi e.m.rows,vi e.m.cols,.slice e.B e.m.cells.length e.d]) rfl Xhv lV rfl)<|Zf (X8 (zs:=[.slice none 0 0,vi 0,vi 0,.slice none 0 0]) X3d rfl) ?_;rintro _ qL ⟨aM,rfl,iT,o,H⟩;have lW:=Q0 C.size iT;have dJ:=b9.away iT;have iF:=U.away iT;have M:=M.below o;have q:=q.below o;have I:=I.below o;have b9:=b9.below o;have U:=U.below o;have N:=N.below o;have y:=y.below o;have aD:=aD.below o;have bE:=bE.below o;have aI:=aI.below o;have Q:=Q.below o;have C:=btr C o;refine Zo (Vw [.slice e.A e.w.length e.c,vi e.m.rows,vi e.m.cols,.slice e.B e.m.cells.length e.d] Xcs H) ?_;rintro _ qM ⟨ho,hb⟩;have E:=H;have M:=M.only ho (Blk.ne M E rfl);have q:=q.only ho (q.ne E);have I:=I.only ho (Blk.ne I E rfl);have b9:=b9.onlyA ho dJ;have U:=U.onlyA ho iF;have N:=N.onlyT ho E rfl;have y:=y.onlyT ho E rfl;have aD:=aD.onlyT ho E rfl;have bE:=bE.onlyT ho E rfl rfl;have aI:=aI.onlyT ho E rfl rfl;have Q:=Q.onlyT ho E rfl;have C:=Below.only C ho lW;have H:=hb;refine Zx oC fun a J _ oD=>?_;refine Zm rfl<|Zf (Vc (Y03 _ n hn) Xqg) ?_;rintro _ qO ⟨bL,bM,rfl,aB,o⟩;have aB:=aB.lower C.size
   have M:=M.below o;have q:=q.below o;have I:=I.below o;have H:=H.below o;have b9:=b9.below o;have U:=U.below o;have N:=N.below o;have y:=y.below o;have aD:=aD.below o;have bE:=bE.below o;have aI:=aI.below o;have Q:=Q.below o;have C:=btr C o;have aB:=aB.rd;refine Ze (X0p rfl Xb)<|Zm rfl<|Zt oD fun a J=>?_;refine Q8<|X0a (σ:=Nat×(List Tw)×(ByteArray→Option Sq)) (fun (s:Nat×(List Tw)×(ByteArray→Option Sq)) (a:Act) (w:World)=>match s with|(j,N3,Fk)=>∃ bC bF,Fr a 125 [(0,vi (n:Int)),(4,.pointer (some ⟨b3,0,none⟩)),(9,.pointer (some ⟨b17,0,none⟩)),(11,.slice bC N3.length bF),(13,.pointer (some ⟨aM,0,none⟩)),(45,vi (k:Int)),(46,vi (r:Int)),(49,.slice b0 L.length b8),(50,vi (L.length:Int)),(51,vi (i:Int)),(56,.slice bL (gsT n).length bM),(57,vi ((gsT n).length:Int)),(58,vi (j:Int))]∧(j≤(gsT n).length)∧(StW n r i j Fk N3)∧(∀ t ∈ N3,t.m=valW n t.w)∧Blk w b3 73 [.map none,.slice none 0 0]∧MapS w cA (sgF Fk)∧Blk w b17 73 [.map (some cA),.slice dG zs.length dH]∧Blk w aM 111 [.slice e.A e.w.length e.c,vi e.m.rows,vi e.m.cols,.slice e.B e.m.cells.length e.d]∧Own w w0.heap.size 111 4 encTw bC bF N3∧Own w w0.heap.size 111 4 encTw b0 b8 L∧Own w w0.heap.size 3 1 encI dG dH zs∧Rd w w.heap.size 115 encG e.A e.w∧Rd w w.heap.size 95 encD e.B e.m.cells∧Rd w w.heap.size 115 encG bL (gsT n)∧DeepT w w.heap.size 115 95 N3∧DeepT w w.heap.size 115 95 L∧DeepM w (w.heap.size) 115 Fk∧Away bC aM∧Apart b0 bC∧Below w0.heap.size w0 w) (fun (s:Nat×(List Tw)×(ByteArray→Option Sq))=>match s with|(j,N3,Fk)=>(gsT n).length-j) (0,N2,Fj) ?_ ?_
   ·exact ⟨iD,iS,J.sb,(Qf _),o7,l5,M,q,I,H,b9,U,N,y.top,aD.top,aB.top,bE.top,aI.top,Q.top,dJ,iE,C⟩
   rintro ⟨j,N3,Fk⟩ a qP ⟨bC,bF,J,hj,hS,lX,M,q,I,H,aF,U,N,y,aD,aB,aJ,aI,Q,cG,bO,C⟩;refine Zs J fun _ oE=>?_;refine Ze (X11 rfl rfl)<|ZX oE fun a J _ oF=>?_
   refine Xj J rfl (fun cU=>?_) (fun cU=>?_)
   ·have lY:=cU;have cU:=Q2 cU
    obtain ⟨g,gM⟩:=Xf (l:=(gsT n)) (k:=j) (by omega)
    obtain ⟨pQ,pR,oG,pS,oH,oJ,oK,q5⟩:=Xsl hn (by omega:r<8) hL hv dI gM
    refine Q7<|oF _ _<|Q5 fun _ l6=>?_;refine Q8<|Zs J fun _ oL=>?_;refine Zi (k:=j) (u:=g) (enc:=encG) (l:=(gsT n)) trivial rfl rfl Xb X0h X9 aB gM rfl ?_;intro qQ lZ;refine Ze (Xw (l:=[vi g.k,vi g.a,vi g.b]) rfl X0f lZ rfl) ?_;have Q:=Q.top;have aJ:=aJ.top;have aI:=aI.top;have y:=y.top;have aB:=aB.top;refine Zf (X8 (zs:=[vi 0,vi 0,vi 0]) X2q rfl) ?_;rintro _ qR ⟨aZ,rfl,dK,o,G⟩;have m3:=Q0 C.size dK;have iG:=y.away dK;have iH:=aB.away dK;have M:=M.below o;have q:=q.below o;have I:=I.below o;have H:=H.below o;have aF:=aF.below o;have U:=U.below o;have N:=N.below o;have y:=y.below o;have aD:=aD.below o;have aB:=aB.below o;have aJ:=aJ.below o;have aI:=aI.below o;have Q:=Q.below o;have C:=btr C o;refine Zo (Vw [vi g.k,vi g.a,vi g.b] X0h G) ?_;rintro _ pT ⟨ho,hb⟩;have E:=G;have M:=M.only ho (Blk.ne M E rfl);have q:=q.only ho (q.ne E);have I:=I.only ho (Blk.ne I E rfl);have H:=H.only ho (Blk.ne H E rfl);have aF:=aF.onlyT ho E rfl;have U:=U.onlyT ho E rfl;have N:=N.onlyT ho E rfl;have y:=y.onlyA ho iG;have aD:=aD.onlyT ho E rfl;have aB:=aB.onlyA ho iH;have aJ:=aJ.only ho dK;have aI:=aI.only ho dK;have Q:=Q.only ho dK;have C:=Below.only C ho m3;have G:=hb;refine Zx oL fun a J _ oM=>?_;refine Zm rfl<|Ze (Vn X0f G)<|Zf (X26 (vs:=[vi (n:Int),.agg #[vi g.k,vi g.a,vi g.b]]) rfl Xhe (by have hq:=Xxl pT (n:Int) g;rw [pQ,Qq,Option.isSome_some] at hq;exact hq)) ?_;rintro _ qS ⟨iU,iV,rfl,cV,o⟩
    have cV:=cV.lower C.size;have M:=M.below o;have q:=q.below o;have I:=I.below o;have H:=H.below o;have G:=G.below o;have aF:=aF.below o;have U:=U.below o;have N:=N.below o;have y:=y.below o;have aD:=aD.below o;have aB:=aB.below o;have aJ:=aJ.below o;have aI:=aI.below o;have Q:=Q.below o;have C:=btr C o;refine Zm rfl<|Ze (X4 (vs:=[.agg #[vi ((gateS n g).rows),vi ((gateS n g).cols),.slice iU ((gateS n g).cells).length iV],.bool true]) rfl rfl)<|Ze (X4 (vs:=[.agg #[vi ((gateS n g).rows),vi ((gateS n g).cols),.slice iU ((gateS n g).cells).length iV],.bool true]) rfl rfl)<|Zf (X8 (zs:=[vi 0,vi 0,.slice none 0 0]) X1o rfl) ?_;rintro _ qT ⟨pU,rfl,oN,o,cW⟩;have m4:=Q0 C.size oN;have M:=M.below o;have q:=q.below o;have I:=I.below o;have H:=H.below o;have G:=G.below o;have aF:=aF.below o;have U:=U.below o;have N:=N.below o;have y:=y.below o;have aD:=aD.below o;have aB:=aB.below o;have cV:=cV.below o;have aJ:=aJ.below o;have aI:=aI.below o;have Q:=Q.below o;have C:=btr C o;refine Zo (Vw [vi ((gateS n g).rows),vi ((gateS n g).cols),.slice iU ((gateS n g).cells).length iV] X18 cW) ?_;rintro _ pV ⟨ho,hb⟩;have E:=cW;have M:=M.only ho (Blk.ne M E rfl);have q:=q.only ho (q.ne E);have I:=I.only ho (Blk.ne I E rfl);have H:=H.only ho (Blk.ne H E rfl);have G:=G.only ho (Blk.ne G E rfl);have aF:=aF.onlyT ho E rfl;have U:=U.onlyT ho E rfl;have N:=N.onlyT ho E rfl;have y:=y.onlyT ho E rfl
    have aD:=aD.onlyT ho E rfl;have aB:=aB.onlyT ho E rfl;have cV:=cV.onlyT ho E rfl;have aJ:=aJ.onlyT ho E rfl rfl;have aI:=aI.onlyT ho E rfl rfl;have Q:=Q.onlyT ho E rfl;have C:=Below.only C ho m4;have cW:=hb;refine Za rfl<|Zx oM fun a J _ oO=>?_;refine Ze (Vn X0j cW)<|Ze (Vd rfl Xko 1)<|Ze (Xw (l:=[vi e.m.rows,vi e.m.cols,.slice e.B e.m.cells.length e.d]) rfl X0j ((H.at 1).take 3) rfl)<|Zf (X26 (vs:=[.agg #[vi ((gateS n g).rows),vi ((gateS n g).cols),.slice iU ((gateS n g).cells).length iV],.agg #[vi e.m.rows,vi e.m.cols,.slice e.B e.m.cells.length e.d]]) rfl Xph (by have hq:=Xyq pV (gateS n g) iU iV cV.rd.top e.m e.B e.d aD.top oH oJ;rw [pR,Qq,Option.isSome_some] at hq;exact hq)) ?_;rintro _ qU ⟨aN,aO,rfl,b2,o⟩;have b2:=b2.lower C.size;have M:=M.below o;have q:=q.below o;have I:=I.below o;have H:=H.below o;have G:=G.below o;have cW:=cW.below o;have aF:=aF.below o;have U:=U.below o;have N:=N.below o;have y:=y.below o;have aD:=aD.below o;have aB:=aB.below o;have aJ:=aJ.below o;have aI:=aI.below o;have Q:=Q.below o;have C:=btr C o;refine Zm rfl<|Ze (X4 (vs:=[.agg #[vi ((valW n (e.w++[g])).rows),vi ((valW n (e.w++[g])).cols),.slice aN ((valW n (e.w++[g])).cells).length aO],.bool true]) rfl rfl)<|Ze (X4 (vs:=[.agg #[vi ((valW n (e.w++[g])).rows),vi ((valW n (e.w++[g])).cols),.slice aN ((valW n (e.w++[g])).cells).length aO],.bool true]) rfl rfl)<|Zf (X8 (zs:=[vi 0,vi 0,.slice none 0 0]) X1o rfl) ?_;rintro _ qV ⟨b69,rfl,oP,o,aE⟩
    have nF:pU≠b69:=by have:=cW.lt;omega
    have m5:=Q0 C.size oP;have M:=M.below o;have q:=q.below o;have I:=I.below o;have H:=H.below o;have G:=G.below o;have aF:=aF.below o;have U:=U.below o;have N:=N.below o;have y:=y.below o;have aD:=aD.below o;have aB:=aB.below o;have b2:=b2.below o;have aJ:=aJ.below o;have aI:=aI.below o;have Q:=Q.below o;have C:=btr C o;refine Zo (Vw [vi ((valW n (e.w++[g])).rows),vi ((valW n (e.w++[g])).cols),.slice aN ((valW n (e.w++[g])).cells).length aO] X18 aE) ?_;rintro _ pW ⟨ho,hb⟩;have E:=aE;have M:=M.only ho (Blk.ne M E rfl);have q:=q.only ho (q.ne E);have I:=I.only ho (Blk.ne I E rfl);have H:=H.only ho (Blk.ne H E rfl);have G:=G.only ho (Blk.ne G E rfl);have aF:=aF.onlyT ho E rfl;have U:=U.onlyT ho E rfl;have N:=N.onlyT ho E rfl;have y:=y.onlyT ho E rfl;have aD:=aD.onlyT ho E rfl;have aB:=aB.onlyT ho E rfl;have b2:=b2.onlyT ho E rfl;have aJ:=aJ.onlyT ho E rfl rfl;have aI:=aI.onlyT ho E rfl rfl;have Q:=Q.onlyT ho E rfl;have C:=Below.only C ho m5;have aE:=hb;refine Za rfl<|Zx oO fun a J _ oQ=>?_;refine Ze (Vn X0j aE)<|Zf (X26 (vs:=[.agg #[vi ((valW n (e.w++[g])).rows),vi ((valW n (e.w++[g])).cols),.slice aN ((valW n (e.w++[g])).cells).length aO]]) rfl X8s (by have hq:=Xi0 pW (valW n (e.w++[g])) aN aO b2.rd.top oK (l3.of C);rw [pS] at hq;exact hq)) ?_;rintro _ w28 ⟨rfl,o⟩;have M:=M.below o;have q:=q.below o;have I:=I.below o;have H:=H.below o
    have G:=G.below o;have aE:=aE.below o;have aF:=aF.below o;have U:=U.below o;have N:=N.below o;have y:=y.below o;have aD:=aD.below o;have aB:=aB.below o;have b2:=b2.below o;have aJ:=aJ.below o;have aI:=aI.below o;have Q:=Q.below o;have C:=btr C o;refine Zm rfl<|Ze (X4 (vs:=[.string (keyM (valW n (e.w++[g]))),.bool true]) rfl rfl)<|Ze (X4 (vs:=[.string (keyM (valW n (e.w++[g]))),.bool true]) rfl rfl)<|Za rfl<|Za rfl<|ZX oQ fun a J _ oR=>?_;refine Zs J fun _ oS=>?_;refine Ze (Vd rfl X5b 0)<|Ze (X0 rfl X8l (I.at 0))<|Zm rfl ?_;obtain ⟨oT,oU,oV,oW,q6⟩:=Xda Q (keyM (valW n (e.w++[g])));refine Ze (Xh0 (f:=Fk) rfl rfl Tryz.underlying71 Tryz.underlying9 Xne q oV oW)<|Zm rfl<|Ze (X4 (vs:=[.slice oT ((sgL Fk (keyM (valW n (e.w++[g])))).getD []).length oU,.bool ((sgL Fk (keyM (valW n (e.w++[g])))).isSome)]) rfl rfl)<|Ze (X4 (vs:=[.slice oT ((sgL Fk (keyM (valW n (e.w++[g])))).getD []).length oU,.bool ((sgL Fk (keyM (valW n (e.w++[g])))).isSome)]) rfl rfl)<|Za rfl<|Za rfl<|ZX oS fun a J _ oX=>?_;refine X0l (fun a w=>Fr a 125 [(0,vi (n:Int)),(4,.pointer (some ⟨b3,0,none⟩)),(9,.pointer (some ⟨b17,0,none⟩)),(11,.slice bC N3.length bF),(13,.pointer (some ⟨aM,0,none⟩)),(15,.pointer (some ⟨aZ,0,none⟩)),(18,.pointer (some ⟨b69,0,none⟩)),(20,.string (keyM (valW n (e.w++[g])))),(45,vi (k:Int)),(46,vi (r:Int)),(49,.slice b0 L.length b8),(50,vi (L.length:Int)),(51,vi (i:Int)),(56,.slice bL (gsT n).length bM),(57,vi ((gsT n).length:Int)),(58,vi (j:Int)),(95,.bool ((sgL Fk (keyM (valW n (e.w++[g])))).isSome))]∧w28=w) ?_ ?_
    ·refine Zr J<|Zm rfl<|Ze (X0x rfl)<|Zm rfl<|Zv (gW rfl) (Xa rfl) ?_;refine Zv (gW rfl) (X0x rfl) ?_;refine Ze (Xe rfl rfl rfl)<|Zm rfl<|Zv (gW rfl) (Xa rfl) ?_;refine Ze (Xe rfl rfl rfl) ?_;refine Zn fun a J=>?_;exact ⟨J.sb,rfl⟩
    rintro a _ ⟨J,rfl⟩;refine oX _ _ ?_
    refine Xj J rfl (fun eC=>?_) (fun eC=>?_)
    ·have m6:=eC;have gN:=eC;refine Q9<|Xn<|X06<|l6 _ _ ?_;refine Zr J<|Ze (X00 rfl rfl (by omega) (by omega))<|Zm rfl ?_;refine Zn fun a J=>?_;refine Xo ?_;exact ⟨(j+1,N3,Fk),⟨bC,bF,J.sb,(by omega),(Xpq hS hL dI gM oG gN),lX,M,q,I,H,aF,U,N,y.top,aD.top,aB.top,aJ.top,aI.top,Q.top,cG,bO,C⟩,(by first|omega|(dsimp only;omega))⟩
    have m6:=eC;have gN:=eC;have qW:=Xvw hS;refine Q7<|oR _ _<|Q5 fun _ oY=>?_;refine X0l (fun a w=>∃ bQ aS aW,Fr a 125 [(0,vi (n:Int)),(4,.pointer (some ⟨b3,0,none⟩)),(9,.pointer (some ⟨b17,0,none⟩)),(11,.slice bC N3.length bF),(13,.pointer (some ⟨aM,0,none⟩)),(20,.string (keyM (valW n (e.w++[g])))),(24,.pointer (some ⟨bQ,0,none⟩)),(45,vi (k:Int)),(46,vi (r:Int)),(49,.slice b0 L.length b8),(50,vi (L.length:Int)),(51,vi (i:Int)),(56,.slice bL (gsT n).length bM),(57,vi ((gsT n).length:Int)),(58,vi (j:Int))]∧w0.heap.size≤bQ∧Blk w bQ 111 [.slice aS (e.w++([g])).length aW,vi ((valW n (e.w++[g])).rows),vi ((valW n (e.w++[g])).cols),.slice aN ((valW n (e.w++[g])).cells).length aO]∧aM≠bQ∧Own w w0.heap.size 115 3 encG aS aW (e.w++([g]))∧w28.heap.size≤bQ∧Below w28.heap.size w28 w) ?_ ?_
    ·have z:Below w28.heap.size w28 w28:=Below.refl _ _
     have cB:=C.size;clear M;clear q;clear I;clear aF;clear aJ;clear U;clear aI;clear N;clear aB;clear Q;refine X0d none (fun j=>[5,9].contains j) mixed ?_;intro w29 o;have H:=H.below o;have G:=G.below o;have aE:=aE.below o;have y:=y.below o;have C:=btr C o;have z:=btr z o;refine Yb J<|Yo 0 rfl (fun _=>Vd rfl Xbu 0)<|Ye 1 rfl (X0 rfl X0m (H.at 0))<|Ye 3 rfl (Vn X0f G) ?_
     have p:Below w29.heap.size w29 w29:=Below.refl _ _
     have cB:=C.size;have gO:=z.size;refine Yc [0,1,2,3,4,5,6,7,8] 1 (fun a w=>∃ bQ aS aW,Fr a 125 [(0,vi (n:Int)),(4,.pointer (some ⟨b3,0,none⟩)),(9,.pointer (some ⟨b17,0,none⟩)),(11,.slice bC N3.length bF),(13,.pointer (some ⟨aM,0,none⟩)),(20,.string (keyM (valW n (e.w++[g])))),(24,.pointer (some ⟨bQ,0,none⟩)),(45,vi (k:Int)),(46,vi (r:Int)),(49,.slice b0 L.length b8),(50,vi (L.length:Int)),(51,vi (i:Int)),(56,.slice bL (gsT n).length bM),(57,vi ((gsT n).length:Int)),(58,vi (j:Int)),(103,.agg #[.slice aS (e.w++([g])).length aW,vi ((valW n (e.w++[g])).rows),vi ((valW n (e.w++[g])).cols),.slice aN ((valW n (e.w++[g])).cells).length aO])]∧w0.heap.size≤bQ∧Blk w bQ 111 [.slice none 0 0,vi 0,vi 0,.slice none 0 0]∧aM≠bQ∧w29.heap.size≤bQ∧w28.heap.size≤bQ∧Own w w0.heap.size 115 3 encG aS aW (e.w++([g]))∧Away aS aZ∧Below w29.heap.size w29 w) ?_ ?_
     ·rintro a qX ⟨bQ,aS,aW,J,eL,bH,dL,m7,cX,b4,bP,o⟩;clear p;have p:=o;have C:=btr C o;have z:=btr z o;refine Yb J<|Y1 9<|Yh rfl trivial rfl (Vw [.slice aS (e.w++([g])).length aW,vi ((valW n (e.w++[g])).rows),vi ((valW n (e.w++[g])).cols),.slice aN ((valW n (e.w++[g])).cells).length aO] Xcs bH) ?_;rintro _ w31 ⟨ho,hb⟩;have E:=bH;have b4:=b4.onlyT ho E rfl;have z:=Below.only z ho cX;have p:=Below.only p ho m7;have C:=Below.only C ho eL;have bH:=hb;refine Yd fun a J=>?_
      have pX:Below w28.heap.size w28 w31:=z
      exact ⟨bQ,aS,aW,J.sb,eL,bH,dL,b4,cX,pX⟩
     intro iW;refine Yc [0,1,2,3,4,5,6,7] 2 (fun a w=>∃ aS aW,Fr a 125 [(0,vi (n:Int)),(4,.pointer (some ⟨b3,0,none⟩)),(9,.pointer (some ⟨b17,0,none⟩)),(11,.slice bC N3.length bF),(13,.pointer (some ⟨aM,0,none⟩)),(20,.string (keyM (valW n (e.w++[g])))),(45,vi (k:Int)),(46,vi (r:Int)),(49,.slice b0 L.length b8),(50,vi (L.length:Int)),(51,vi (i:Int)),(56,.slice bL (gsT n).length bM),(57,vi ((gsT n).length:Int)),(58,vi (j:Int)),(103,.agg #[.slice aS (e.w++([g])).length aW,vi ((valW n (e.w++[g])).rows),vi ((valW n (e.w++[g])).cols),.slice aN ((valW n (e.w++[g])).cells).length aO])]∧Own w w0.heap.size 115 3 encG aS aW (e.w++([g]))∧Away aS aZ∧Below w29.heap.size w29 w) ?_ ?_
     ·rintro a qY ⟨aS,aW,J,b4,bP,o⟩;clear p;have p:=o;have H:=H.below o;have C:=btr C o;have z:=btr z o;refine Yb J<|Y1 8<|Yk rfl trivial (X8 (zs:=[.slice none 0 0,vi 0,vi 0,.slice none 0 0]) X3d rfl) (fun _ _ ⟨_,_,_,h,_⟩=>h) ?_;rintro _ qZ ⟨b83,rfl,iX,o,oZ⟩
      have iI:aM≠b83:=by have:=H.lt;omega
      have m8:=Q0 C.size iX;have m9:=Q0 z.size iX;have mA:=Q0 p.size iX;have b4:=b4.below o;have C:=btr C o;have z:=btr z o;have p:=btr p o;exact fun a J=>iW _ a _ rfl ⟨b83,aS,aW,J.sb,m8,oZ,iI,mA,m9,b4,bP,p⟩
     intro l7;refine Yc [0,1,2,3,4,5,8] 3 (fun a w=>∃ eD aS aW,Fr a 125 [(0,vi (n:Int)),(4,.pointer (some ⟨b3,0,none⟩)),(9,.pointer (some ⟨b17,0,none⟩)),(11,.slice bC N3.length bF),(13,.pointer (some ⟨aM,0,none⟩)),(18,.pointer (some ⟨b69,0,none⟩)),(20,.string (keyM (valW n (e.w++[g])))),(24,.pointer (some ⟨eD,0,none⟩)),(45,vi (k:Int)),(46,vi (r:Int)),(49,.slice b0 L.length b8),(50,vi (L.length:Int)),(51,vi (i:Int)),(56,.slice bL (gsT n).length bM),(57,vi ((gsT n).length:Int)),(58,vi (j:Int)),(101,.slice aS (e.w++([g])).length aW)]∧w0.heap.size≤eD∧Blk w eD 111 [.slice none 0 0,vi 0,vi 0,.slice none 0 0]∧aM≠eD∧w29.heap.size≤eD∧w28.heap.size≤eD∧Own w w0.heap.size 115 3 encG aS aW (e.w++([g]))∧Away aS aZ∧Below w29.heap.size w29 w) ?_ ?_
     ·rintro a r0 ⟨eD,aS,aW,J,mB,p0,iJ,mC,mD,b4,bP,o⟩;clear p;have p:=o;have aE:=aE.below o;have C:=btr C o;have z:=btr z o;refine Yb J<|Y1 6<|Yz rfl trivial (Uev (Xw (l:=[vi ((valW n (e.w++[g])).rows),vi ((valW n (e.w++[g])).cols),.slice aN ((valW n (e.w++[g])).cells).length aO]) rfl X0j (aE.at 0) rfl)) ?_;refine Yo 7 rfl (fun _=>Xg (ps:=[(0,.slice aS (e.w++([g])).length aW),(1,.agg #[vi ((valW n (e.w++[g])).rows),vi ((valW n (e.w++[g])).cols),.slice aN ((valW n (e.w++[g])).cells).length aO])]) (cs:=[.slice aS (e.w++([g])).length aW,vi ((valW n (e.w++[g])).rows),vi ((valW n (e.w++[g])).cols),.slice aN ((valW n (e.w++[g])).cells).length aO]) rfl (fun _=>by first|rfl|kernel_rfl)) ?_;exact fun a J=>iW _ a _ rfl ⟨eD,aS,aW,J.sb,mB,p0,iJ,mC,mD,b4,bP,p⟩
     intro l8;refine Yc [0,1,2,3,4,6,8] 3 (fun a w=>∃ aK eE aG aQ,Fr a 125 [(0,vi (n:Int)),(4,.pointer (some ⟨b3,0,none⟩)),(9,.pointer (some ⟨b17,0,none⟩)),(11,.slice bC N3.length bF),(13,.pointer (some ⟨aM,0,none⟩)),(20,.string (keyM (valW n (e.w++[g])))),(24,.pointer (some ⟨eE,0,none⟩)),(45,vi (k:Int)),(46,vi (r:Int)),(49,.slice b0 L.length b8),(50,vi (L.length:Int)),(51,vi (i:Int)),(56,.slice bL (gsT n).length bM),(57,vi ((gsT n).length:Int)),(58,vi (j:Int)),(98,.slice aG e.w.length aQ),(100,.slice (some ⟨aK,0,none⟩) ([g]).length 1),(102,.agg #[vi ((valW n (e.w++[g])).rows),vi ((valW n (e.w++[g])).cols),.slice aN ((valW n (e.w++[g])).cells).length aO])]∧w0.heap.size≤aK∧Blk w aK 115 [vi g.k,vi g.a,vi g.b]∧aZ≠aK∧w0.heap.size≤eE∧Blk w eE 111 [.slice none 0 0,vi 0,vi 0,.slice none 0 0]∧aM≠eE∧w29.heap.size≤aK∧w28.heap.size≤aK∧w29.heap.size≤eE∧w28.heap.size≤eE∧Own w w29.heap.size 115 3 encG aG aQ e.w∧Away aG aZ∧AwayR e.w e.A aK∧Away aG aK∧Below w29.heap.size w29 w) ?_ ?_
     ·rintro a r4 ⟨aK,eE,aG,aQ,J,bR,aR,aX,mE,iY,iK,bS,bU,mF,mG,aC,W,aY,aL,o⟩;clear p;have p:=o;have G:=G.below o;have C:=btr C o;have z:=btr z o;refine Yb J<|Y1 5<|Yt rfl trivial rfl (X0v (enc:=encG) (l:=(e.w)) (l2:=([g])) (B0:=w29.heap.size) rfl rfl Xb Xk X9 X07 aC (Rd.of_blk aR rfl _ aR.lt) (by simp only [maxLen];simp;omega) (by simp;omega) p.size) ?_;rintro _ r5 ⟨mH,mI,rfl,iZ,hg,b6⟩
      have aA:Own _ w29.heap.size 115 3 encG _ _ (e.w):=aC
      have iM:=b6 _ G.lt W;have nG:=b6 _ aR.lt aL;clear b6;have iY:=iY.appT aA hg rfl;have C:=Below.app C aA hg cB C.size;have p:=Below.app p aA hg (Qb _) p.size;have z:=Below.app z aA hg gO z.size;clear aA hg;have iZ:=iZ.lower cB;refine Yo 7 rfl (fun _=>Xg (ps:=[(0,.slice mH (e.w++([g])).length mI),(1,.agg #[vi ((valW n (e.w++[g])).rows),vi ((valW n (e.w++[g])).cols),.slice aN ((valW n (e.w++[g])).cells).length aO])]) (cs:=[.slice mH (e.w++([g])).length mI,vi ((valW n (e.w++[g])).rows),vi ((valW n (e.w++[g])).cols),.slice aN ((valW n (e.w++[g])).cells).length aO]) rfl (fun _=>by first|rfl|kernel_rfl)) ?_;exact fun a J=>iW _ a _ rfl ⟨eE,mH,mI,J.sb,mE,iY,iK,mF,mG,iZ,iM,p⟩
     intro gQ;refine Yc [0,1,2,3,4,6] 4 (fun a w=>∃ aK aG aQ,Fr a 125 [(0,vi (n:Int)),(4,.pointer (some ⟨b3,0,none⟩)),(9,.pointer (some ⟨b17,0,none⟩)),(11,.slice bC N3.length bF),(13,.pointer (some ⟨aM,0,none⟩)),(20,.string (keyM (valW n (e.w++[g])))),(45,vi (k:Int)),(46,vi (r:Int)),(49,.slice b0 L.length b8),(50,vi (L.length:Int)),(51,vi (i:Int)),(56,.slice bL (gsT n).length bM),(57,vi ((gsT n).length:Int)),(58,vi (j:Int)),(98,.slice aG e.w.length aQ),(100,.slice (some ⟨aK,0,none⟩) ([g]).length 1),(102,.agg #[vi ((valW n (e.w++[g])).rows),vi ((valW n (e.w++[g])).cols),.slice aN ((valW n (e.w++[g])).cells).length aO])]∧w0.heap.size≤aK∧Blk w aK 115 [vi g.k,vi g.a,vi g.b]∧aZ≠aK∧w29.heap.size≤aK∧w28.heap.size≤aK∧Own w w29.heap.size 115 3 encG aG aQ e.w∧Away aG aZ∧AwayR e.w e.A aK∧Away aG aK∧Below w29.heap.size w29 w) ?_ ?_
     ·rintro a r6 ⟨aK,aG,aQ,J,bR,aR,aX,bS,bU,aC,W,aY,aL,o⟩;clear p;have p:=o;have H:=H.below o;have G:=G.below o;have C:=btr C o;have z:=btr z o;refine Yb J<|Y2 5 8 ?_ ?_
      ·refine Yt rfl trivial rfl (X0v (enc:=encG) (l:=(e.w)) (l2:=([g])) (B0:=w29.heap.size) rfl rfl Xb Xk X9 X07 aC (Rd.of_blk aR rfl _ aR.lt) (by simp only [maxLen];simp;omega) (by simp;omega) p.size) ?_;rintro _ r7 ⟨mJ,mK,rfl,j1,hg,b6⟩
       have aA:Own _ w29.heap.size 115 3 encG _ _ (e.w):=aC
       have iN:=b6 _ G.lt W;have nH:=b6 _ aR.lt aL;clear b6;have C:=Below.app C aA hg cB C.size;have p:=Below.app p aA hg (Qb _) p.size;have z:=Below.app z aA hg gO z.size;clear aA hg;have j1:=j1.lower cB;refine Yo 7 rfl (fun _=>Xg (ps:=[(0,.slice mJ (e.w++([g])).length mK),(1,.agg #[vi ((valW n (e.w++[g])).rows),vi ((valW n (e.w++[g])).cols),.slice aN ((valW n (e.w++[g])).cells).length aO])]) (cs:=[.slice mJ (e.w++([g])).length mK,vi ((valW n (e.w++[g])).rows),vi ((valW n (e.w++[g])).cols),.slice aN ((valW n (e.w++[g])).cells).length aO]) rfl (fun _=>by first|rfl|kernel_rfl)) ?_;exact fun a J=>l7 _ a _ rfl ⟨mJ,mK,J.sb,j1,iN,p⟩
      refine Yk rfl trivial (X8 (zs:=[.slice none 0 0,vi 0,vi 0,.slice none 0 0]) X3d rfl) (fun _ _ ⟨_,_,_,h,_⟩=>h) ?_;rintro _ r8 ⟨b100,rfl,eM,o,mL⟩
      have eN:aM≠b100:=by have:=H.lt;omega
      have jF:=Q0 C.size eM;have jG:=Q0 z.size eM;have jH:=Q0 p.size eM;have aR:=aR.below o;have aC:=aC.below o;have C:=btr C o;have z:=btr z o;have p:=btr p o;exact fun a J=>gQ _ a _ rfl ⟨aK,b100,aG,aQ,J.sb,bR,aR,aX,jF,mL,eN,bS,bU,jH,jG,aC,W,aY,aL,p⟩
     intro j2;refine Yc [0,1,2,3,4,8] 4 (fun a w=>∃ aK cC aG aQ,Fr a 125 [(0,vi (n:Int)),(4,.pointer (some ⟨b3,0,none⟩)),(9,.pointer (some ⟨b17,0,none⟩)),(11,.slice bC N3.length bF),(13,.pointer (some ⟨aM,0,none⟩)),(18,.pointer (some ⟨b69,0,none⟩)),(20,.string (keyM (valW n (e.w++[g])))),(24,.pointer (some ⟨cC,0,none⟩)),(45,vi (k:Int)),(46,vi (r:Int)),(49,.slice b0 L.length b8),(50,vi (L.length:Int)),(51,vi (i:Int)),(56,.slice bL (gsT n).length bM),(57,vi ((gsT n).length:Int)),(58,vi (j:Int)),(98,.slice aG e.w.length aQ),(100,.slice (some ⟨aK,0,none⟩) ([g]).length 1)]∧w0.heap.size≤aK∧Blk w aK 115 [vi g.k,vi g.a,vi g.b]∧aZ≠aK∧w0.heap.size≤cC∧Blk w cC 111 [.slice none 0 0,vi 0,vi 0,.slice none 0 0]∧aM≠cC∧w29.heap.size≤aK∧w28.heap.size≤aK∧w29.heap.size≤cC∧w28.heap.size≤cC∧Own w w29.heap.size 115 3 encG aG aQ e.w∧Away aG aZ∧AwayR e.w e.A aK∧Away aG aK∧Below w29.heap.size w29 w) ?_ ?_
     ·rintro a r9 ⟨aK,cC,aG,aQ,J,bR,aR,aX,gR,dM,cY,bS,bU,gS,gT,aC,W,aY,aL,o⟩;clear p;have p:=o;have G:=G.below o;have aE:=aE.below o;have C:=btr C o;have z:=btr z o;refine Yb J<|Y2 5 6 ?_ ?_
      ·refine Yt rfl trivial rfl (X0v (enc:=encG) (l:=(e.w)) (l2:=([g])) (B0:=w29.heap.size) rfl rfl Xb Xk X9 X07 aC (Rd.of_blk aR rfl _ aR.lt) (by simp only [maxLen];simp;omega) (by simp;omega) p.size) ?_;rintro _ rA ⟨p5,p6,rfl,eO,hg,b6⟩
       have aA:Own _ w29.heap.size 115 3 encG _ _ (e.w):=aC
       have eP:=b6 _ G.lt W;have mM:=b6 _ aR.lt aL;clear b6;have dM:=dM.appT aA hg rfl;have C:=Below.app C aA hg cB C.size;have p:=Below.app p aA hg (Qb _) p.size;have z:=Below.app z aA hg gO z.size;clear aA hg;have eO:=eO.lower cB;exact fun a J=>l8 _ a _ rfl ⟨cC,p5,p6,J.sb,gR,dM,cY,gS,gT,eO,eP,p⟩
      refine Yz rfl trivial (Uev (Xw (l:=[vi ((valW n (e.w++[g])).rows),vi ((valW n (e.w++[g])).cols),.slice aN ((valW n (e.w++[g])).cells).length aO]) rfl X0j (aE.at 0) rfl)) ?_;exact fun a J=>gQ _ a _ rfl ⟨aK,cC,aG,aQ,J.sb,bR,aR,aX,gR,dM,cY,bS,bU,gS,gT,aC,W,aY,aL,p⟩
     intro eQ;refine Yc [0,1,2,3,6,8] 4 (fun a w=>∃ cP aG aQ,Fr a 125 [(0,vi (n:Int)),(4,.pointer (some ⟨b3,0,none⟩)),(9,.pointer (some ⟨b17,0,none⟩)),(11,.slice bC N3.length bF),(13,.pointer (some ⟨aM,0,none⟩)),(20,.string (keyM (valW n (e.w++[g])))),(24,.pointer (some ⟨cP,0,none⟩)),(45,vi (k:Int)),(46,vi (r:Int)),(49,.slice b0 L.length b8),(50,vi (L.length:Int)),(51,vi (i:Int)),(56,.slice bL (gsT n).length bM),(57,vi ((gsT n).length:Int)),(58,vi (j:Int)),(98,.slice aG e.w.length aQ),(99,.agg #[vi g.k,vi g.a,vi g.b]),(102,.agg #[vi ((valW n (e.w++[g])).rows),vi ((valW n (e.w++[g])).cols),.slice aN ((valW n (e.w++[g])).cells).length aO])]∧w0.heap.size≤cP∧Blk w cP 111 [.slice none 0 0,vi 0,vi 0,.slice none 0 0]∧aM≠cP∧w29.heap.size≤cP∧w28.heap.size≤cP∧Own w w29.heap.size 115 3 encG aG aQ e.w∧Away aG aZ∧Below w29.heap.size w29 w) ?_ ?_
     ·rintro a rB ⟨cP,aG,aQ,J,jI,eR,eS,jJ,jK,aC,W,o⟩;clear p;have p:=o;have G:=G.below o;have y:=y.below o;have C:=btr C o;have z:=btr z o;refine Yb J<|Y1 4<|Yk rfl trivial (X5 (k:=1) (vs:=[.agg #[vi g.k,vi g.a,vi g.b]]) (zs:=[vi g.k,vi g.a,vi g.b]) rfl Xb Xk rfl rfl) (fun _ _ ⟨_,_,_,h,_⟩=>h) ?_;rintro _ rC ⟨b106,rfl,d5,o,mN⟩
      have eT:aZ≠b106:=by have:=G.lt;omega
      have jL:=Q0 C.size d5;have jM:=Q0 z.size d5;have jN:=Q0 p.size d5;have eU:=y.away d5;have eW:=aC.away d5;have eR:=eR.below o;have aC:=aC.below o;have C:=btr C o;have z:=btr z o;have p:=btr p o;exact fun a J=>gQ _ a _ rfl ⟨b106,cP,aG,aQ,J.sb,jL,mN,eT,jI,eR,eS,jN,jM,jJ,jK,aC,W,eU,eW,p⟩
     intro eX;refine Yc [0,1,3,4,6,8] 4 (fun a w=>∃ aH cQ,Fr a 125 [(0,vi (n:Int)),(4,.pointer (some ⟨b3,0,none⟩)),(9,.pointer (some ⟨b17,0,none⟩)),(11,.slice bC N3.length bF),(13,.pointer (some ⟨aM,0,none⟩)),(20,.string (keyM (valW n (e.w++[g])))),(24,.pointer (some ⟨cQ,0,none⟩)),(45,vi (k:Int)),(46,vi (r:Int)),(49,.slice b0 L.length b8),(50,vi (L.length:Int)),(51,vi (i:Int)),(56,.slice bL (gsT n).length bM),(57,vi ((gsT n).length:Int)),(58,vi (j:Int)),(97,.slice e.A e.w.length e.c),(100,.slice (some ⟨aH,0,none⟩) ([g]).length 1),(102,.agg #[vi ((valW n (e.w++[g])).rows),vi ((valW n (e.w++[g])).cols),.slice aN ((valW n (e.w++[g])).cells).length aO])]∧w0.heap.size≤aH∧Blk w aH 115 [vi g.k,vi g.a,vi g.b]∧aZ≠aH∧w0.heap.size≤cQ∧Blk w cQ 111 [.slice none 0 0,vi 0,vi 0,.slice none 0 0]∧aM≠cQ∧w29.heap.size≤aH∧w28.heap.size≤aH∧w29.heap.size≤cQ∧w28.heap.size≤cQ∧AwayR e.w e.A aH∧Below w29.heap.size w29 w) ?_ ?_
     ·rintro a rD ⟨aH,cQ,J,bI,aP,aT,jO,eY,f0,bJ,bK,jP,jQ,aU,o⟩;clear p;have p:=o;have G:=G.below o;have y:=y.below o;have C:=btr C o;have z:=btr z o;refine Yb J<|Y1 2<|Yk rfl trivial (Vc (X64 _ e.A e.c e.w y.top (by omega)) X2x) (fun _ _ ⟨l9,lA,_,cH,o⟩=>o) ?_;rintro _ rE ⟨l9,lA,rfl,cH,o⟩;have f5:=cH.awayNew G.lt;have eF:=cH.awayNew aP.lt;have cH:=cH.lower p.size;have aP:=aP.below o;have eY:=eY.below o;have C:=btr C o;have z:=btr z o;have p:=btr p o;exact fun a J=>gQ _ a _ rfl ⟨aH,cQ,l9,lA,J.sb,bI,aP,aT,jO,eY,f0,bJ,bK,jP,jQ,cH,f5,aU,eF,p⟩
     intro f7;refine Yc [0,1,2,3,4] 5 (fun a w=>∃ aK aG aQ,Fr a 125 [(0,vi (n:Int)),(4,.pointer (some ⟨b3,0,none⟩)),(9,.pointer (some ⟨b17,0,none⟩)),(11,.slice bC N3.length bF),(13,.pointer (some ⟨aM,0,none⟩)),(18,.pointer (some ⟨b69,0,none⟩)),(20,.string (keyM (valW n (e.w++[g])))),(45,vi (k:Int)),(46,vi (r:Int)),(49,.slice b0 L.length b8),(50,vi (L.length:Int)),(51,vi (i:Int)),(56,.slice bL (gsT n).length bM),(57,vi ((gsT n).length:Int)),(58,vi (j:Int)),(98,.slice aG e.w.length aQ),(100,.slice (some ⟨aK,0,none⟩) ([g]).length 1)]∧w0.heap.size≤aK∧Blk w aK 115 [vi g.k,vi g.a,vi g.b]∧aZ≠aK∧w29.heap.size≤aK∧w28.heap.size≤aK∧Own w w29.heap.size 115 3 encG aG aQ e.w∧Away aG aZ∧AwayR e.w e.A aK∧Away aG aK∧Below w29.heap.size w29 w) ?_ ?_
     ·rintro a rF ⟨aK,aG,aQ,J,bR,aR,aX,bS,bU,aC,W,aY,aL,o⟩;clear p;have p:=o;have H:=H.below o;have G:=G.below o;have aE:=aE.below o;have C:=btr C o;have z:=btr z o;refine Yb J<|Y3 5 6 8 ?_ ?_ ?_
      ·refine Yt rfl trivial rfl (X0v (enc:=encG) (l:=(e.w)) (l2:=([g])) (B0:=w29.heap.size) rfl rfl Xb Xk X9 X07 aC (Rd.of_blk aR rfl _ aR.lt) (by simp only [maxLen];simp;omega) (by simp;omega) p.size) ?_;rintro _ rG ⟨gU,gX,rfl,cJ,hg,b6⟩
       have aA:Own _ w29.heap.size 115 3 encG _ _ (e.w):=aC
       have d6:=b6 _ G.lt W;have mO:=b6 _ aR.lt aL;clear b6;have H:=H.appT aA hg rfl;have aE:=aE.appT aA hg rfl;have C:=Below.app C aA hg cB C.size;have p:=Below.app p aA hg (Qb _) p.size;have z:=Below.app z aA hg gO z.size;clear aA hg;have cJ:=cJ.lower cB;refine Y2 6 8 ?_ ?_
       ·refine Yz rfl trivial (Uev (Xw (l:=[vi ((valW n (e.w++[g])).rows),vi ((valW n (e.w++[g])).cols),.slice aN ((valW n (e.w++[g])).cells).length aO]) rfl X0j (aE.at 0) rfl)) ?_;refine Yo 7 rfl (fun _=>Xg (ps:=[(0,.slice gU (e.w++([g])).length gX),(1,.agg #[vi ((valW n (e.w++[g])).rows),vi ((valW n (e.w++[g])).cols),.slice aN ((valW n (e.w++[g])).cells).length aO])]) (cs:=[.slice gU (e.w++([g])).length gX,vi ((valW n (e.w++[g])).rows),vi ((valW n (e.w++[g])).cols),.slice aN ((valW n (e.w++[g])).cells).length aO]) rfl (fun _=>by first|rfl|kernel_rfl)) ?_;exact fun a J=>l7 _ a _ rfl ⟨gU,gX,J.sb,cJ,d6,p⟩
       refine Yk rfl trivial (X8 (zs:=[.slice none 0 0,vi 0,vi 0,.slice none 0 0]) X3d rfl) (fun _ _ ⟨_,_,_,h,_⟩=>h) ?_;rintro _ rH ⟨b118,rfl,f8,o,mP⟩
       have fA:aM≠b118:=by have:=H.lt;omega
       have jR:=Q0 C.size f8;have jS:=Q0 z.size f8;have jT:=Q0 p.size f8;have cJ:=cJ.below o;have C:=btr C o;have z:=btr z o;have p:=btr p o;exact fun a J=>l8 _ a _ rfl ⟨b118,gU,gX,J.sb,jR,mP,fA,jT,jS,cJ,d6,p⟩
      ·refine Yz rfl trivial (Uev (Xw (l:=[vi ((valW n (e.w++[g])).rows),vi ((valW n (e.w++[g])).cols),.slice aN ((valW n (e.w++[g])).cells).length aO]) rfl X0j (aE.at 0) rfl)) ?_;exact fun a J=>j2 _ a _ rfl ⟨aK,aG,aQ,J.sb,bR,aR,aX,bS,bU,aC,W,aY,aL,p⟩
      refine Yk rfl trivial (X8 (zs:=[.slice none 0 0,vi 0,vi 0,.slice none 0 0]) X3d rfl) (fun _ _ ⟨_,_,_,h,_⟩=>h) ?_;rintro _ rI ⟨b121,rfl,fB,o,mQ⟩
      have fC:aM≠b121:=by have:=H.lt;omega
      have jU:=Q0 C.size fB;have jV:=Q0 z.size fB;have jW:=Q0 p.size fB;have aR:=aR.below o;have aC:=aC.below o;have C:=btr C o;have z:=btr z o;have p:=btr p o;exact fun a J=>eQ _ a _ rfl ⟨aK,b121,aG,aQ,J.sb,bR,aR,aX,jU,mQ,fC,bS,bU,jW,jV,aC,W,aY,aL,p⟩
     intro j3;refine Yc [0,1,2,3,6] 5 (fun a w=>∃ aG aQ,Fr a 125 [(0,vi (n:Int)),(4,.pointer (some ⟨b3,0,none⟩)),(9,.pointer (some ⟨b17,0,none⟩)),(11,.slice bC N3.length bF),(13,.pointer (some ⟨aM,0,none⟩)),(20,.string (keyM (valW n (e.w++[g])))),(45,vi (k:Int)),(46,vi (r:Int)),(49,.slice b0 L.length b8),(50,vi (L.length:Int)),(51,vi (i:Int)),(56,.slice bL (gsT n).length bM),(57,vi ((gsT n).length:Int)),(58,vi (j:Int)),(98,.slice aG e.w.length aQ),(99,.agg #[vi g.k,vi g.a,vi g.b]),(102,.agg #[vi ((valW n (e.w++[g])).rows),vi ((valW n (e.w++[g])).cols),.slice aN ((valW n (e.w++[g])).cells).length aO])]∧Own w w29.heap.size 115 3 encG aG aQ e.w∧Away aG aZ∧Below w29.heap.size w29 w) ?_ ?_
     ·rintro a rJ ⟨aG,aQ,J,aC,W,o⟩;clear p;have p:=o;have H:=H.below o;have G:=G.below o;have y:=y.below o;have C:=btr C o;have z:=btr z o;refine Yb J<|Y2 4 8 ?_ ?_
      ·refine Yk rfl trivial (X5 (k:=1) (vs:=[.agg #[vi g.k,vi g.a,vi g.b]]) (zs:=[vi g.k,vi g.a,vi g.b]) rfl Xb Xk rfl rfl) (fun _ _ ⟨_,_,_,h,_⟩=>h) ?_;rintro _ rK ⟨b124,rfl,d7,o,mR⟩
       have fD:aZ≠b124:=by have:=G.lt;omega
       have jX:=Q0 C.size d7;have jY:=Q0 z.size d7;have jZ:=Q0 p.size d7;have fE:=y.away d7;have fF:=aC.away d7;have aC:=aC.below o;have C:=btr C o;have z:=btr z o;have p:=btr p o;exact fun a J=>j2 _ a _ rfl ⟨b124,aG,aQ,J.sb,jX,mR,fD,jZ,jY,aC,W,fE,fF,p⟩
      refine Yk rfl trivial (X8 (zs:=[.slice none 0 0,vi 0,vi 0,.slice none 0 0]) X3d rfl) (fun _ _ ⟨_,_,_,h,_⟩=>h) ?_;rintro _ rL ⟨b128,rfl,fG,o,mS⟩
      have fH:aM≠b128:=by have:=H.lt;omega
      have k0:=Q0 C.size fG;have k5:=Q0 z.size fG;have k6:=Q0 p.size fG;have aC:=aC.below o;have C:=btr C o;have z:=btr z o;have p:=btr p o;exact fun a J=>eX _ a _ rfl ⟨b128,aG,aQ,J.sb,k0,mS,fH,k6,k5,aC,W,p⟩
     intro j4;refine Yc [0,1,2,3,8] 5 (fun a w=>∃ cD aG aQ,Fr a 125 [(0,vi (n:Int)),(4,.pointer (some ⟨b3,0,none⟩)),(9,.pointer (some ⟨b17,0,none⟩)),(11,.slice bC N3.length bF),(13,.pointer (some ⟨aM,0,none⟩)),(18,.pointer (some ⟨b69,0,none⟩)),(20,.string (keyM (valW n (e.w++[g])))),(24,.pointer (some ⟨cD,0,none⟩)),(45,vi (k:Int)),(46,vi (r:Int)),(49,.slice b0 L.length b8),(50,vi (L.length:Int)),(51,vi (i:Int)),(56,.slice bL (gsT n).length bM),(57,vi ((gsT n).length:Int)),(58,vi (j:Int)),(98,.slice aG e.w.length aQ),(99,.agg #[vi g.k,vi g.a,vi g.b])]∧w0.heap.size≤cD∧Blk w cD 111 [.slice none 0 0,vi 0,vi 0,.slice none 0 0]∧aM≠cD∧w29.heap.size≤cD∧w28.heap.size≤cD∧Own w w29.heap.size 115 3 encG aG aQ e.w∧Away aG aZ∧Below w29.heap.size w29 w) ?_ ?_
     ·rintro a rM ⟨cD,aG,aQ,J,gY,dN,d8,hG,hJ,aC,W,o⟩;clear p;have p:=o;have G:=G.below o;have aE:=aE.below o;have y:=y.below o;have C:=btr C o;have z:=btr z o;refine Yb J<|Y2 4 6 ?_ ?_
      ·refine Yk rfl trivial (X5 (k:=1) (vs:=[.agg #[vi g.k,vi g.a,vi g.b]]) (zs:=[vi g.k,vi g.a,vi g.b]) rfl Xb Xk rfl rfl) (fun _ _ ⟨_,_,_,h,_⟩=>h) ?_;rintro _ rN ⟨b131,rfl,d9,o,mT⟩
       have fI:aZ≠b131:=by have:=G.lt;omega
       have k7:=Q0 C.size d9;have k8:=Q0 z.size d9;have kA:=Q0 p.size d9;have fJ:=y.away d9;have fK:=aC.away d9;have dN:=dN.below o;have aC:=aC.below o;have C:=btr C o;have z:=btr z o;have p:=btr p o;exact fun a J=>eQ _ a _ rfl ⟨b131,cD,aG,aQ,J.sb,k7,mT,fI,gY,dN,d8,kA,k8,hG,hJ,aC,W,fJ,fK,p⟩
      refine Yz rfl trivial (Uev (Xw (l:=[vi ((valW n (e.w++[g])).rows),vi ((valW n (e.w++[g])).cols),.slice aN ((valW n (e.w++[g])).cells).length aO]) rfl X0j (aE.at 0) rfl)) ?_;exact fun a J=>eX _ a _ rfl ⟨cD,aG,aQ,J.sb,gY,dN,d8,hG,hJ,aC,W,p⟩
     intro j5;refine Yc [0,1,3,4,6] 5 (fun a w=>∃ aH,Fr a 125 [(0,vi (n:Int)),(4,.pointer (some ⟨b3,0,none⟩)),(9,.pointer (some ⟨b17,0,none⟩)),(11,.slice bC N3.length bF),(13,.pointer (some ⟨aM,0,none⟩)),(20,.string (keyM (valW n (e.w++[g])))),(45,vi (k:Int)),(46,vi (r:Int)),(49,.slice b0 L.length b8),(50,vi (L.length:Int)),(51,vi (i:Int)),(56,.slice bL (gsT n).length bM),(57,vi ((gsT n).length:Int)),(58,vi (j:Int)),(97,.slice e.A e.w.length e.c),(100,.slice (some ⟨aH,0,none⟩) ([g]).length 1),(102,.agg #[vi ((valW n (e.w++[g])).rows),vi ((valW n (e.w++[g])).cols),.slice aN ((valW n (e.w++[g])).cells).length aO])]∧w0.heap.size≤aH∧Blk w aH 115 [vi g.k,vi g.a,vi g.b]∧aZ≠aH∧w29.heap.size≤aH∧w28.heap.size≤aH∧AwayR e.w e.A aH∧Below w29.heap.size w29 w) ?_ ?_
     ·rintro a rO ⟨aH,J,bI,aP,aT,bJ,bK,aU,o⟩;clear p;have p:=o;have H:=H.below o;have G:=G.below o;have y:=y.below o;have C:=btr C o;have z:=btr z o;refine Yb J<|Y2 2 8 ?_ ?_
      ·refine Yk rfl trivial (Vc (X64 _ e.A e.c e.w y.top (by omega)) X2x) (fun _ _ ⟨lB,lC,_,cK,o⟩=>o) ?_;rintro _ rP ⟨lB,lC,rfl,cK,o⟩;have fL:=cK.awayNew G.lt;have eG:=cK.awayNew aP.lt;have cK:=cK.lower p.size;have aP:=aP.below o;have C:=btr C o;have z:=btr z o;have p:=btr p o;exact fun a J=>j2 _ a _ rfl ⟨aH,lB,lC,J.sb,bI,aP,aT,bJ,bK,cK,fL,aU,eG,p⟩
      refine Yk rfl trivial (X8 (zs:=[.slice none 0 0,vi 0,vi 0,.slice none 0 0]) X3d rfl) (fun _ _ ⟨_,_,_,h,_⟩=>h) ?_;rintro _ rQ ⟨b138,rfl,fM,o,mU⟩
      have fN:aM≠b138:=by have:=H.lt;omega
      have kB:=Q0 C.size fM;have kC:=Q0 z.size fM;have kD:=Q0 p.size fM;have aP:=aP.below o;have C:=btr C o;have z:=btr z o;have p:=btr p o;exact fun a J=>f7 _ a _ rfl ⟨aH,b138,J.sb,bI,aP,aT,kB,mU,fN,bJ,bK,kD,kC,aU,p⟩
     intro j6;refine Yc [0,1,3,4,8] 5 (fun a w=>∃ aH cE,Fr a 125 [(0,vi (n:Int)),(4,.pointer (some ⟨b3,0,none⟩)),(9,.pointer (some ⟨b17,0,none⟩)),(11,.slice bC N3.length bF),(13,.pointer (some ⟨aM,0,none⟩)),(18,.pointer (some ⟨b69,0,none⟩)),(20,.string (keyM (valW n (e.w++[g])))),(24,.pointer (some ⟨cE,0,none⟩)),(45,vi (k:Int)),(46,vi (r:Int)),(49,.slice b0 L.length b8),(50,vi (L.length:Int)),(51,vi (i:Int)),(56,.slice bL (gsT n).length bM),(57,vi ((gsT n).length:Int)),(58,vi (j:Int)),(97,.slice e.A e.w.length e.c),(100,.slice (some ⟨aH,0,none⟩) ([g]).length 1)]∧w0.heap.size≤aH∧Blk w aH 115 [vi g.k,vi g.a,vi g.b]∧aZ≠aH∧w0.heap.size≤cE∧Blk w cE 111 [.slice none 0 0,vi 0,vi 0,.slice none 0 0]∧aM≠cE∧w29.heap.size≤aH∧w28.heap.size≤aH∧w29.heap.size≤cE∧w28.heap.size≤cE∧AwayR e.w e.A aH∧Below w29.heap.size w29 w) ?_ ?_
     ·rintro a rR ⟨aH,cE,J,bI,aP,aT,hP,dO,dA,bJ,bK,hY,hZ,aU,o⟩;clear p;have p:=o;have G:=G.below o;have aE:=aE.below o;have y:=y.below o;have C:=btr C o;have z:=btr z o;refine Yb J<|Y2 2 6 ?_ ?_
      ·refine Yk rfl trivial (Vc (X64 _ e.A e.c e.w y.top (by omega)) X2x) (fun _ _ ⟨lD,lE,_,cL,o⟩=>o) ?_;rintro _ rS ⟨lD,lE,rfl,cL,o⟩;have fO:=cL.awayNew G.lt;have eH:=cL.awayNew aP.lt;have cL:=cL.lower p.size;have aP:=aP.below o;have dO:=dO.below o;have C:=btr C o;have z:=btr z o;have p:=btr p o;exact fun a J=>eQ _ a _ rfl ⟨aH,cE,lD,lE,J.sb,bI,aP,aT,hP,dO,dA,bJ,bK,hY,hZ,cL,fO,aU,eH,p⟩
      refine Yz rfl trivial (Uev (Xw (l:=[vi ((valW n (e.w++[g])).rows),vi ((valW n (e.w++[g])).cols),.slice aN ((valW n (e.w++[g])).cells).length aO]) rfl X0j (aE.at 0) rfl)) ?_;exact fun a J=>f7 _ a _ rfl ⟨aH,cE,J.sb,bI,aP,aT,hP,dO,dA,bJ,bK,hY,hZ,aU,p⟩
     intro j7;refine Yc [0,1,3,6,8] 5 (fun a w=>∃ cF,Fr a 125 [(0,vi (n:Int)),(4,.pointer (some ⟨b3,0,none⟩)),(9,.pointer (some ⟨b17,0,none⟩)),(11,.slice bC N3.length bF),(13,.pointer (some ⟨aM,0,none⟩)),(20,.string (keyM (valW n (e.w++[g])))),(24,.pointer (some ⟨cF,0,none⟩)),(45,vi (k:Int)),(46,vi (r:Int)),(49,.slice b0 L.length b8),(50,vi (L.length:Int)),(51,vi (i:Int)),(56,.slice bL (gsT n).length bM),(57,vi ((gsT n).length:Int)),(58,vi (j:Int)),(97,.slice e.A e.w.length e.c),(99,.agg #[vi g.k,vi g.a,vi g.b]),(102,.agg #[vi ((valW n (e.w++[g])).rows),vi ((valW n (e.w++[g])).cols),.slice aN ((valW n (e.w++[g])).cells).length aO])]∧w0.heap.size≤cF∧Blk w cF 111 [.slice none 0 0,vi 0,vi 0,.slice none 0 0]∧aM≠cF∧w29.heap.size≤cF∧w28.heap.size≤cF∧Below w29.heap.size w29 w) ?_ ?_
     ·rintro a rT ⟨cF,J,i6,cM,dB,i7,i8,o⟩;clear p;have p:=o;have G:=G.below o;have y:=y.below o;have C:=btr C o;have z:=btr z o;refine Yb J<|Y2 2 4 ?_ ?_
      ·refine Yk rfl trivial (Vc (X64 _ e.A e.c e.w y.top (by omega)) X2x) (fun _ _ ⟨lF,lG,_,dC,o⟩=>o) ?_;rintro _ rU ⟨lF,lG,rfl,dC,o⟩;have fP:=dC.awayNew G.lt;have dC:=dC.lower p.size;have cM:=cM.below o;have C:=btr C o;have z:=btr z o;have p:=btr p o;exact fun a J=>eX _ a _ rfl ⟨cF,lF,lG,J.sb,i6,cM,dB,i7,i8,dC,fP,p⟩
      refine Yk rfl trivial (X5 (k:=1) (vs:=[.agg #[vi g.k,vi g.a,vi g.b]]) (zs:=[vi g.k,vi g.a,vi g.b]) rfl Xb Xk rfl rfl) (fun _ _ ⟨_,_,_,h,_⟩=>h) ?_;rintro _ rW ⟨b145,rfl,dP,o,mW⟩
      have fQ:aZ≠b145:=by have:=G.lt;omega
      have kE:=Q0 C.size dP;have kF:=Q0 z.size dP;have kG:=Q0 p.size dP;have fR:=y.away dP;have cM:=cM.below o;have C:=btr C o;have z:=btr z o;have p:=btr p o;exact fun a J=>f7 _ a _ rfl ⟨b145,cF,J.sb,kE,mW,fQ,i6,cM,dB,kG,kF,i7,i8,fR,p⟩
     intro j8;refine Y4 2 4 6 8 ?_ ?_ ?_ ?_
     ·refine Yk rfl trivial (Vc (X64 _ e.A e.c e.w y.top (by omega)) X2x) (fun _ _ ⟨iA,iB,_,b1,o⟩=>o) ?_;rintro _ rX ⟨iA,iB,rfl,b1,o⟩;have bW:=b1.awayNew G.lt;have b1:=b1.lower p.size;have H:=H.below o;have G:=G.below o;have aE:=aE.below o;have y:=y.below o;have C:=btr C o;have z:=btr z o;have p:=btr p o;refine Y3 4 6 8 ?_ ?_ ?_
      ·refine Yk rfl trivial (X5 (k:=1) (vs:=[.agg #[vi g.k,vi g.a,vi g.b]]) (zs:=[vi g.k,vi g.a,vi g.b]) rfl Xb Xk rfl rfl) (fun _ _ ⟨_,_,_,h,_⟩=>h) ?_;rintro _ rY ⟨b148,rfl,dD,o,mX⟩
       have fS:aZ≠b148:=by have:=G.lt;omega
       have kH:=Q0 C.size dD;have kI:=Q0 z.size dD;have kJ:=Q0 p.size dD;have fT:=y.away dD;have eI:=b1.away dD;have b1:=b1.below o;have C:=btr C o;have z:=btr z o;have p:=btr p o;exact fun a J=>j3 _ a _ rfl ⟨b148,iA,iB,J.sb,kH,mX,fS,kJ,kI,b1,bW,fT,eI,p⟩
      ·refine Yz rfl trivial (Uev (Xw (l:=[vi ((valW n (e.w++[g])).rows),vi ((valW n (e.w++[g])).cols),.slice aN ((valW n (e.w++[g])).cells).length aO]) rfl X0j (aE.at 0) rfl)) ?_;exact fun a J=>j4 _ a _ rfl ⟨iA,iB,J.sb,b1,bW,p⟩
      refine Yk rfl trivial (X8 (zs:=[.slice none 0 0,vi 0,vi 0,.slice none 0 0]) X3d rfl) (fun _ _ ⟨_,_,_,h,_⟩=>h) ?_;rintro _ rZ ⟨b152,rfl,fU,o,mY⟩
      have fV:aM≠b152:=by have:=H.lt;omega
      have kK:=Q0 C.size fU;have kL:=Q0 z.size fU;have kM:=Q0 p.size fU;have b1:=b1.below o;have C:=btr C o;have z:=btr z o;have p:=btr p o;exact fun a J=>j5 _ a _ rfl ⟨b152,iA,iB,J.sb,kK,mY,fV,kM,kL,b1,bW,p⟩
     ·refine Yk rfl trivial (X5 (k:=1) (vs:=[.agg #[vi g.k,vi g.a,vi g.b]]) (zs:=[vi g.k,vi g.a,vi g.b]) rfl Xb Xk rfl rfl) (fun _ _ ⟨_,_,_,h,_⟩=>h) ?_;rintro _ s8 ⟨b153,rfl,dQ,o,bN⟩
      have bX:aZ≠b153:=by have:=G.lt;omega
      have dR:=Q0 C.size dQ;have dS:=Q0 z.size dQ;have dT:=Q0 p.size dQ;have bY:=y.away dQ;have H:=H.below o;have G:=G.below o;have aE:=aE.below o;have y:=y.below o;have C:=btr C o;have z:=btr z o;have p:=btr p o;refine Y3 2 6 8 ?_ ?_ ?_
      ·refine Yk rfl trivial (Vc (X64 _ e.A e.c e.w y.top (by omega)) X2x) (fun _ _ ⟨lH,lI,_,cN,o⟩=>o) ?_;rintro _ sA ⟨lH,lI,rfl,cN,o⟩;have fW:=cN.awayNew G.lt;have eJ:=cN.awayNew bN.lt;have cN:=cN.lower p.size;have bN:=bN.below o;have C:=btr C o;have z:=btr z o;have p:=btr p o;exact fun a J=>j3 _ a _ rfl ⟨b153,lH,lI,J.sb,dR,bN,bX,dT,dS,cN,fW,bY,eJ,p⟩
      ·refine Yz rfl trivial (Uev (Xw (l:=[vi ((valW n (e.w++[g])).rows),vi ((valW n (e.w++[g])).cols),.slice aN ((valW n (e.w++[g])).cells).length aO]) rfl X0j (aE.at 0) rfl)) ?_;exact fun a J=>j6 _ a _ rfl ⟨b153,J.sb,dR,bN,bX,dT,dS,bY,p⟩
      refine Yk rfl trivial (X8 (zs:=[.slice none 0 0,vi 0,vi 0,.slice none 0 0]) X3d rfl) (fun _ _ ⟨_,_,_,h,_⟩=>h) ?_;rintro _ sB ⟨b158,rfl,fX,o,n0⟩
      have fY:aM≠b158:=by have:=H.lt;omega
      have kN:=Q0 C.size fX;have kO:=Q0 z.size fX;have kP:=Q0 p.size fX;have bN:=bN.below o;have C:=btr C o;have z:=btr z o;have p:=btr p o;exact fun a J=>j7 _ a _ rfl ⟨b153,b158,J.sb,dR,bN,bX,kN,n0,fY,dT,dS,kP,kO,bY,p⟩
     ·refine Yz rfl trivial (Uev (Xw (l:=[vi ((valW n (e.w++[g])).rows),vi ((valW n (e.w++[g])).cols),.slice aN ((valW n (e.w++[g])).cells).length aO]) rfl X0j (aE.at 0) rfl)) ?_;refine Y3 2 4 8 ?_ ?_ ?_
      ·refine Yk rfl trivial (Vc (X64 _ e.A e.c e.w y.top (by omega)) X2x) (fun _ _ ⟨lJ,lK,_,dE,o⟩=>o) ?_;rintro _ sC ⟨lJ,lK,rfl,dE,o⟩;have fZ:=dE.awayNew G.lt;have dE:=dE.lower p.size;have C:=btr C o;have z:=btr z o;have p:=btr p o;exact fun a J=>j4 _ a _ rfl ⟨lJ,lK,J.sb,dE,fZ,p⟩
      ·refine Yk rfl trivial (X5 (k:=1) (vs:=[.agg #[vi g.k,vi g.a,vi g.b]]) (zs:=[vi g.k,vi g.a,vi g.b]) rfl Xb Xk rfl rfl) (fun _ _ ⟨_,_,_,h,_⟩=>h) ?_;rintro _ sD ⟨b160,rfl,dU,o,n3⟩
       have g5:aZ≠b160:=by have:=G.lt;omega
       have kQ:=Q0 C.size dU;have kR:=Q0 z.size dU;have kS:=Q0 p.size dU;have g6:=y.away dU;have C:=btr C o;have z:=btr z o;have p:=btr p o;exact fun a J=>j6 _ a _ rfl ⟨b160,J.sb,kQ,n3,g5,kS,kR,g6,p⟩
      refine Yk rfl trivial (X8 (zs:=[.slice none 0 0,vi 0,vi 0,.slice none 0 0]) X3d rfl) (fun _ _ ⟨_,_,_,h,_⟩=>h) ?_;rintro _ sE ⟨b164,rfl,g7,o,n5⟩
      have g8:aM≠b164:=by have:=H.lt;omega
      have kT:=Q0 C.size g7;have kU:=Q0 z.size g7;have kW:=Q0 p.size g7;have C:=btr C o;have z:=btr z o;have p:=btr p o;exact fun a J=>j8 _ a _ rfl ⟨b164,J.sb,kT,n5,g8,kW,kU,p⟩
     refine Yk rfl trivial (X8 (zs:=[.slice none 0 0,vi 0,vi 0,.slice none 0 0]) X3d rfl) (fun _ _ ⟨_,_,_,h,_⟩=>h) ?_;rintro _ sF ⟨b167,rfl,gA,o,bZ⟩
     have c4:aM≠b167:=by have:=H.lt;omega
     have dW:=Q0 C.size gA;have dX:=Q0 z.size gA;have dY:=Q0 p.size gA;have G:=G.below o;have aE:=aE.below o;have y:=y.below o;have C:=btr C o;have z:=btr z o;have p:=btr p o;refine Y3 2 4 6 ?_ ?_ ?_
     ·refine Yk rfl trivial (Vc (X64 _ e.A e.c e.w y.top (by omega)) X2x) (fun _ _ ⟨lL,lM,_,dF,o⟩=>o) ?_;rintro _ sG ⟨lL,lM,rfl,dF,o⟩;have gB:=dF.awayNew G.lt;have dF:=dF.lower p.size;have bZ:=bZ.below o;have C:=btr C o;have z:=btr z o;have p:=btr p o;exact fun a J=>j5 _ a _ rfl ⟨b167,lL,lM,J.sb,dW,bZ,c4,dY,dX,dF,gB,p⟩
     ·refine Yk rfl trivial (X5 (k:=1) (vs:=[.agg #[vi g.k,vi g.a,vi g.b]]) (zs:=[vi g.k,vi g.a,vi g.b]) rfl Xb Xk rfl rfl) (fun _ _ ⟨_,_,_,h,_⟩=>h) ?_;rintro _ sH ⟨b169,rfl,eA,o,n6⟩
      have gC:aZ≠b169:=by have:=G.lt;omega
      have kX:=Q0 C.size eA;have kY:=Q0 z.size eA;have kZ:=Q0 p.size eA;have gD:=y.away eA;have bZ:=bZ.below o;have C:=btr C o;have z:=btr z o;have p:=btr p o;exact fun a J=>j7 _ a _ rfl ⟨b169,b167,J.sb,kX,n6,gC,dW,bZ,c4,kZ,kY,dY,dX,gD,p⟩
     refine Yz rfl trivial (Uev (Xw (l:=[vi ((valW n (e.w++[g])).rows),vi ((valW n (e.w++[g])).cols),.slice aN ((valW n (e.w++[g])).cells).length aO]) rfl X0j (aE.at 0) rfl)) ?_;exact fun a J=>j8 _ a _ rfl ⟨b167,J.sb,dW,bZ,c4,dY,dX,p⟩
    rintro a sI ⟨bQ,aS,aW,J,eL,bH,dL,b4,cX,o⟩;have iO:=aF.away cX;have nI:=U.away cX;have M:=M.below o;have q:=q.below o;have I:=I.below o;have H:=H.below o;have aF:=aF.below o;have U:=U.below o;have N:=N.below o;have y:=y.below o;have aD:=aD.below o;have aB:=aB.below o;have b2:=b2.below o;have aJ:=aJ.below o;have aI:=aI.below o;have Q:=Q.below o;have C:=btr C o;refine oY _ _<|Zs J fun _ n7=>?_;refine Ze (Vd rfl X5b 0)<|Ze (X0 rfl X8l (I.at 0))<|Zm rfl<|Ze (Vd rfl Xbu 0)<|Ze (X0 rfl X0m (bH.at 0))<|Zo (Xzf (f:=sgF Fk) (s:=keyM (valW n (e.w++[g]))) rfl rfl rfl Tryz.underlying71 Tryz.underlying9 q (Xor (by simpa using gN))) ?_;rintro _ sJ ⟨ho,cR⟩;have iP:=DeepM.upd (s:=keyM (valW n (e.w++[g]))) (x:=(⟨aS,aW,e.w++([g])⟩ : Sq)) Q.top b4.rd.top
    clear Q;have Q:=iP;clear iP;have bD:=q.nc;have M:=M.onlyN ho bD;have I:=I.onlyN ho bD;have H:=H.onlyN ho bD;have bH:=bH.onlyN ho bD;have aF:=aF.onlyN ho bD;have U:=U.onlyN ho bD;have N:=N.onlyN ho bD;have y:=y.onlyN ho bD;have aD:=aD.onlyN ho bD;have aB:=aB.onlyN ho bD;have b2:=b2.onlyN ho bD;have b4:=b4.onlyN ho bD;have aJ:=aJ.onlyN ho bD;have aI:=aI.onlyN ho bD;have Q:=Q.onlyN ho bD;have C:=Below.only C ho eK
    rw [show Value.slice aS (e.w++([g])).length aW=Sq.v (⟨aS,aW,e.w++([g])⟩ : Sq) from rfl,Xje] at cR
    have q:=cR;clear cR ho bD;refine Zt n7 fun a J=>?_;refine Zr J<|Zm rfl<|Ze (Vn Xhv bH)<|Zf (X5 (k:=1) (vs:=[.agg #[.slice aS (e.w++([g])).length aW,vi ((valW n (e.w++[g])).rows),vi ((valW n (e.w++[g])).cols),.slice aN ((valW n (e.w++[g])).cells).length aO]]) (zs:=[.slice aS (e.w++([g])).length aW,vi ((valW n (e.w++[g])).rows),vi ((valW n (e.w++[g])).cols),.slice aN ((valW n (e.w++[g])).cells).length aO]) rfl X46 X6u rfl rfl) ?_;rintro _ sK ⟨b172,rfl,gE,o,gF⟩
    have n8:aM≠b172:=by have:=H.lt;omega
    have n9:bQ≠b172:=by have:=bH.lt;omega
    have pD:=Q0 C.size gE;have gG:=aF.away gE;have nA:=U.away gE;have M:=M.below o;have q:=q.below o;have I:=I.below o;have H:=H.below o;have bH:=bH.below o;have aF:=aF.below o;have U:=U.below o;have N:=N.below o;have y:=y.below o;have aD:=aD.below o;have aB:=aB.below o;have b2:=b2.below o;have b4:=b4.below o;have aJ:=aJ.below o;have aI:=aI.below o;have Q:=Q.below o;have C:=btr C o;refine Zf (X0v (enc:=encTw) (l:=(N3)) (l2:=([(⟨aS,aW,e.w++([g]),(valW n (e.w++[g])),aN,aO⟩ : Tw)])) (B0:=w0.heap.size) rfl rfl X46 X6u X7i Xli aF (Rd.of_blk gF rfl _ gF.lt) (by simp only [maxLen];simp;omega) (by simp;omega) C.size) ?_;rintro _ sL ⟨p8,p9,rfl,nB,hg,b6⟩
    have aA:Own _ w0.heap.size 111 4 encTw _ _ (N3):=aF
    have gH:=b6 _ H.lt cG;have nC:=b6 _ bH.lt iO;have lN:=b6 _ gF.lt gG;have gI:=Apart.app U bO b6;clear b6;have eB:=DeepT.snoc (l:=N3) (x:=(⟨aS,aW,e.w++([g]),(valW n (e.w++[g])),aN,aO⟩ : Tw)) aJ.top b4.rd.top b2.rd.top;have M:=M.appT aA hg rfl;have q:=q.app aA hg;have I:=I.appT aA hg rfl;have H:=H.appA hg cG;have U:=U.appP hg bO;have N:=N.appT aA hg rfl;have y:=y.appT aA hg rfl;have aD:=aD.appT aA hg rfl;have aB:=aB.appT aA hg rfl;have aI:=aI.appT aA hg rfl rfl;have eB:=eB.appT aA hg rfl rfl;have Q:=Q.appT aA hg rfl;have C:=Below.app C aA hg (Qb _) C.size;clear aA hg;refine Za rfl ?_;refine Zn fun a J=>?_;refine Xq<|l6 _ _<|Zr J<|Ze (X00 rfl rfl (by omega) (by omega))<|Zm rfl ?_;refine Zn fun a J=>?_;refine Xo ?_;exact ⟨(j+1,N3++([(⟨aS,aW,e.w++([g]),(valW n (e.w++[g])),aN,aO⟩ : Tw)]),(updG Fk (keyM (valW n (e.w++[g]))) (⟨aS,aW,e.w++([g])⟩ : Sq))),⟨p8,p9,J.sb,(by omega),(Xvu hS hL dI gM oG gN rfl rfl),(Xsb lX rfl),M,q,I,H,nB,U,N,y.top,aD.top,aB.top,eB.top,aI.top,Q.top,gH,gI,C⟩,(by first|omega|(dsimp only;omega))⟩
   have lY:=cU;have cU:=Q1 cU
   have pY:j=(gsT n).length:=by omega
   refine Q9<|Xn<|Xn<|X06 ?_;refine Xq<|oB _ _<|Zr J<|Ze (X00 rfl rfl (by omega) (by omega))<|Zm rfl ?_;refine Zn fun a J=>?_;refine Xo ?_;exact ⟨(i+1,N3,Fk),⟨bC,bF,J.sb,(by omega),(Xs0 (by rw [← pY];exact hS) (by rw [← Xgv hL];omega)),lX,M,q,I,aF,U,N,aJ.top,aI.top,Q.top,bO,C⟩,(by first|omega|(dsimp only;omega))⟩
  have lU:=cT;have cT:=Q1 cT
  have pZ:i=L.length:=by omega
  have pC:StW n r (tbW n r).2.length 0 Fj N2:=by rw [← Xgv hL,← pZ];exact o7
  refine Q9<|Xn<|Xn<|X06 ?_;refine o5 _ _<|Zs J fun _ nD=>?_;refine Zm rfl<|Za rfl<|Zt nD fun a J=>?_;refine Zr J<|Ze (Vd rfl Xba 1)<|Ze (X0 rfl X4t (I.at 1))<|Zm rfl<|Ze (X0p rfl X46)<|Zf (X5 (k:=1) (vs:=[vi (N2.length:Int)]) (zs:=[vi (N2.length:Int)]) rfl X0b X1u rfl rfl) ?_;rintro _ sM ⟨q7,rfl,jA,o,gJ⟩;have pE:=Q0 C.size jA;have gK:=N.away jA;have M:=M.below o;have q:=q.below o;have I:=I.below o;have b9:=b9.below o;have N:=N.below o;have bE:=bE.below o;have Q:=Q.below o;have C:=btr C o;refine Zf (X0v (enc:=encI) (l:=(zs)) (l2:=([(N2.length:Int)])) (B0:=w0.heap.size) rfl rfl X0b X1u X05 X37 N (Rd.of_blk gJ rfl _ gJ.lt) (by simp only [maxLen];simp;omega) (by simp;omega) C.size) ?_;rintro _ sO ⟨jB,jC,rfl,gL,hg,b6⟩
  have aA:Own _ w0.heap.size 3 1 encI _ _ (zs):=N
  have lO:=b6 _ gJ.lt gK;clear b6;have M:=M.appT aA hg rfl;have q:=q.app aA hg;have I:=I.appT aA hg rfl;have b9:=b9.appT aA hg rfl;have bE:=bE.appT aA hg rfl rfl;have Q:=Q.appT aA hg rfl;have C:=Below.app C aA hg (Qb _) C.size;clear aA hg;refine Ze (Vd rfl Xba 1)<|Zo (Vu (vs:=[.slice jB (zs++([(N2.length:Int)])).length jC]) (l':=[.map (some cA),.slice jB (zs++([(N2.length:Int)])).length jC]) rfl rfl Xfp I) ?_;rintro _ sP ⟨ho,hb⟩;have E:=I;have M:=M.only ho (by omega);have q:=q.only ho (q.ne E);have b9:=b9.onlyT ho E rfl;have gL:=gL.onlyT ho E rfl;have bE:=bE.onlyT ho E rfl rfl;have Q:=Q.onlyT ho E rfl;have C:=Below.only C ho iQ;have I:=hb;refine Zn fun a J=>?_;refine Xq<|o0 _ _<|Zr J<|Ze (X00 rfl rfl (by omega) (by omega))<|Zm rfl ?_;refine Zn fun a J=>?_;refine Xo ?_;exact ⟨(r+1,N2,Fj,zs++([(N2.length:Int)])),⟨iD,iS,jB,jC,J.sb,(by omega),(Xey pC).2,(Xey pC).1,l5,(by simp;omega),M,q,I,b9,gL,bE.top,Q.top,C⟩,(by first|omega|(dsimp only;omega))⟩
 have lS:=cS;have cS:=Q1 cS;refine Q9<|Xn<|Xn<|X06 ?_;refine nV _ _<|Zs J fun _ nE=>?_;refine Ze (Vn Xjp I)<|Zo (Vw [.map (some cA),.slice dG zs.length dH] X93 M) ?_;rintro _ sQ ⟨ho,hb⟩;have E:=M;have q:=q.only ho (q.ne E);have N:=N.onlyT ho E rfl;have Q:=Q.onlyT ho E rfl;have C:=Below.only C ho nL;have M:=hb;refine Zt nE fun a J=>?_
 refine Q6 (X3 J (Xs J rfl (ResV.cellN (l:=[.map (some cA),.slice dG zs.length dH]) rfl Xjp (M.at 0) rfl)) ?_)
 obtain rfl:r=k:=by omega
 exact ⟨cA,Fg,dG,dH,zs,rfl,q,Q.top,hF,N,eK,C⟩
def cWd(m:Mx) : Option Cx:=(shS m).map fun w=>⟨(nW m:Int),w⟩
def shC(m:Mx) : Bool:=canY m&&(decide (m.rows=m.cols)&&(decide (m.rows=2)||decide (m.rows=4)))
theorem Xdf{o:Option (List Gt)}(h:o.isSome=true) : o=some (o.getD []):=by
 cases o with
 | none=>cases h
 | some x=>rfl
theorem Xi1(n:Nat)(m x:Mx) : fdS n m 0 x=if phaseS x m=true then some [] else none:=rfl
def NoF(n:Nat)(m x:Mx)(k i:Nat) : Prop:=((gsT n).take i).findSome? (fun g=>(fdS n m k (timesS false (gateS n g) x).2).map (g :: ·))=none
theorem Xpg(n:Nat)(m x:Mx)(k:Nat) : NoF n m x k 0:=rfl
theorem Xm7{n:Nat}{m x:Mx}{k i:Nat}{u:Gt}(h:NoF n m x k i)(hu:(gsT n)[i]? = some u)(hn:(fdS n m k (timesS false (gateS n u) x).2).isSome=false) : NoF n m x k (i+1):=by
 unfold NoF at *
 rw [Qt,hu,List.findSome?_append,h]
 cases e:fdS n m k (timesS false (gateS n u) x).2 with
 | none=>simp [e]
 | some y=>rw [e] at hn;cases hn
theorem Xsm{n:Nat}{m x:Mx}{k i:Nat}(h:NoF n m x k i)(hi:(gsT n).length≤i) : fdS n m (k+1) x=none:=by
 unfold NoF at h
 rw [Qi hi] at h
 exact h
theorem Xoy{n:Nat}{m x:Mx}{k i:Nat}{u:Gt}(h:NoF n m x k i)(hu:(gsT n)[i]? = some u)(hn:(fdS n m k (timesS false (gateS n u) x).2).isSome=true) : fdS n m (k+1) x=some (u::(fdS n m k (timesS false (gateS n u) x).2).getD []):=by
 unfold NoF at h
 obtain ⟨h1,h2⟩:=Qg.1 hu
 have e:gsT n=(gsT n).take i++u::(gsT n).drop (i+1):=by
  rw [← h2,← Qy h1,W9]
 have hd:fdS n m (k+1) x=(gsT n).findSome? fun g=>(fdS n m k (timesS false (gateS n g) x).2).map (g :: ·):=rfl
 rw [hd,e,List.findSome?_append,h,List.findSome?_cons]
 cases e2:fdS n m k (timesS false (gateS n u) x).2 with
 | none=>rw [e2] at hn;cases hn
 | some y=>rfl
theorem Xhh{n:Nat}{m:Mx} : ∀ {k:Nat} {x:Mx} {w:List Gt},fdS n m k x=some w→w.length=k
 | 0,x,w,h=>by
  rw [Xi1] at h
  split at h
  ·injection h with h;subst h;rfl
  ·cases h
 | k+1,x,w,h=>by
  have hd:fdS n m (k+1) x=(gsT n).findSome? fun g=>(fdS n m k (timesS false (gateS n g) x).2).map (g :: ·):=rfl
  rw [hd] at h
  obtain ⟨g,hg,h2⟩:=List.exists_of_findSome?_eq_some h;obtain ⟨y,hy,rfl⟩:=Option.map_eq_some_iff.1 h2
  rw [Qs,Xhh hy]
theorem Xc0{n:Nat}{m:Mx}{k:Nat}{x:Mx} : ((fdS n m k x).getD []).length≤k:=by
 cases e:fdS n m k x with
 | none=>simp
 | some w=>simp [Xhh e]
theorem Xq6{n j k i:Nat}(hn:n=1∨n=2)(hjk:j+(k+1)≤8){w:List Gt}{x:Mx}{u:Gt}(hw:w ∈ wds (gsT n) j)(hx:x=valW n w)(hu:(gsT n)[i]? = some u) :
  gOk (n:Int) u=true∧mOk (gateS n u)=true∧mOk x=true∧(gateS n u).cols=x.rows∧timesS false (gateS n u) x=(false,valW n (w++[u]))∧w++[u] ∈ wds (gsT n) (j+1)∧(valW n (w++[u])).cells.length=2^n*2^n:=by
 have hm:=Qe hu;have hg:=X65 hn u hm;obtain ⟨g1,g2⟩:=X2y hg.1
 obtain ⟨h1,h2,h3,_⟩:=X2b hn (by omega:j≤8) hw
 have hs:=X34 hw hm
 refine ⟨hg.1,g2,by rw [hx];exact h1,?_,by rw [hx];exact Xb7 hn (by omega) hw hm,hs,X4p hn (by omega) hs⟩
 rw [hx,h2];rfl
theorem Xhz{n:Nat}{m:Mx}{k:Nat}(h:∀ j,j<k→fdS n m j (unitS (2^n))=none){l:List Gt}(hl:fdS n m k (unitS (2^n))=some l) : ∀ K,k≤K→srS n m K=some l
 | 0,hK=>by
  obtain rfl:k=0:=by omega
  exact hl
 | K+1,hK=>by
  unfold srS
  by_cases e:k=K+1
  ·subst e
   have:∀ j,j<K+1→srS n m j=none:=by
    intro j
    induction j with
    | zero=>intro hj;exact h 0 (by omega)
    | succ j ih=>intro hj;unfold srS;rw [ih (by omega),h (j+1) hj];rfl
   rw [this K (by omega),hl];rfl
  ·rw [Xhz h hl K (by omega)];rfl
theorem fd0(n:Nat)(m x:Mx) : (fdS n m 0 x).getD []=[]∧(fdS n m 0 x).isSome=phaseS x m:=by
 rw [Xi1]
 cases phaseS x m<;>exact ⟨rfl,rfl⟩
theorem Xbz{n j:Nat}{m x:Mx}(h:∀ i,i<j→fdS n m i x=none)(hs:(fdS n m j x).isSome=false) : ∀ i,i<j+1→fdS n m i x=none:=fun i hi=>by
 by_cases e:i=j
 ·subst e;cases e2:fdS n m i x with
  | none=>rfl
  | some y=>rw [e2] at hs;cases hs
 ·exact h i (by omega)
theorem Xv6(z:World)(n:Nat)(x:Mx)(Ax:Option Addr)(cx:Nat)(J:Rd z z.heap.size 95 encD Ax x.cells)(m:Mx)(Am:Option Addr)(cm:Nat)(L:Rd z z.heap.size 95 encD Am m.cells)(k:Nat)(hn:n=1∨n=2)(wd:List Gt)(jj:Nat)(bQ:jj+k≤8)(aF:wd ∈ wds (gsT n) jj)(hx:x=valW n wd)(aA:m.cells.length=2^n*2^n)(IH:∀ (B:Nat),B<k→∀ (z:World) (n:Nat) (x:Mx) (Ax:Option Addr) (cx:Nat) (J:Rd z z.heap.size 95 encD Ax x.cells) (m:Mx) (Am:Option Addr) (cm:Nat) (L:Rd z z.heap.size 95 encD Am m.cells) (hn:n=1∨n=2) (wd:List Gt) (jj:Nat) (bQ:jj+B≤8) (aF:wd ∈ wds (gsT n) jj) (hx:x=valW n wd) (aA:m.cells.length=2^n*2^n),Ret Tryz.prog 61 [vi (n:Int),mV Ax cx x,mV Am cm m,vi (B:Int)] z (fun v w=>∃ A c1,v=.tuple #[.slice A ((fdS n m B x).getD []).length c1,.bool (fdS n m B x).isSome]∧Own w z.heap.size 115 3 encG A c1 ((fdS n m B x).getD [])∧Below z.heap.size z w)) : Ret Tryz.prog 61 [vi (n:Int),.agg #[vi x.rows,vi x.cols,.slice Ax x.cells.length cx],.agg #[vi m.rows,vi m.cols,.slice Am m.cells.length cm],vi (k:Int)] z (fun v w=>∃ A c1,v=.tuple #[.slice A ((fdS n m k x).getD []).length c1,.bool ((fdS n m k x).isSome)]∧Own w z.heap.size 115 3 encG A c1 ((fdS n m k x).getD [])∧Below z.heap.size z w):=by
 have bR:x.cells.length=2^n*2^n:=by rw [hx];exact X4p hn (by omega) aF
 refine enter Tryz.func61 rfl 55 rfl rfl ?_;intro a q
 have p:=bz z
 refine Zs q fun _ bS=>?_;refine Zf (X0i (zs:=[vi x.rows,vi x.cols,.slice Ax x.cells.length cx]) rfl rfl) ?_;rintro _ w1 ⟨b4,rfl,bU,j,g⟩;have cJ:=Q0 p.size bU;have p:=btr p j;refine Zf (X0i (zs:=[vi m.rows,vi m.cols,.slice Am m.cells.length cm]) rfl rfl) ?_;rintro _ w2 ⟨b5,rfl,bW,j,o⟩
 have bP:b4≠b5:=by have:=g.lt;omega
 have cK:=Q0 p.size bW;have g:=g.below j;have p:=btr p j;refine Za rfl<|Za rfl<|ZX bS fun a q _ bX=>?_;refine Zs q fun _ bY=>?_;refine Zm rfl<|Ze (X16 rfl rfl)<|Zt bY fun a q=>?_
 refine Xj q rfl (fun M=>?_) (fun M=>?_)
 ·have b0:=M
  have bZ:k=0:=by have h9:(k:Int)=0:=(by simpa using M);omega
  refine Zs q fun _ b1=>?_;refine Ze (Vn X0j g)<|Ze (Vn X0j o)<|Zf (Vc (Y1m _ x Ax cx (J.below' p).top m Am cm (L.below' p).top (by rw [bR,aA]) (by rw [aA];rcases hn with rfl|rfl<;>decide)) Xwl) ?_;rintro _ w3 ⟨ix,rfl,j⟩;have p:=btr p j;refine Zm rfl<|Ze (X4 (vs:=[vi ix,.bool (phaseS x m)]) rfl rfl)<|Ze (X4 (vs:=[vi ix,.bool (phaseS x m)]) rfl rfl)<|Za rfl<|Za rfl<|Zx b1 fun a q _ b2=>?_;refine Zm rfl<|Za rfl<|Za rfl<|Zt b2 fun a q=>?_;refine Q6<|X2<|X3 q (X0w q rfl rfl rfl) ?_
  subst bZ
  obtain ⟨f1,f2⟩:=fd0 n m x
  rw [f1,f2]
  exact ⟨none,0,rfl,(Own.nil _ _ _ _ _),p⟩
 have b0:=M
 obtain ⟨B,b3⟩ : ∃ B,k=B+1:=⟨k-1,by have h9:¬ (k:Int)=0:=(by simpa using M);omega⟩
 refine Q7<|bX _ _<|Zs q fun _ b6=>?_;refine Ze (Xg (ps:=[]) (cs:=[.bool false]) rfl (fun _=>by first|rfl|kernel_rfl))<|Zf (X0i (zs:=[.bool false]) rfl rfl) ?_;rintro _ w4 ⟨N,rfl,b7,j,d⟩;have aG:=Q0 p.size b7;have g:=g.below j;have o:=o.below j;have p:=btr p j;refine Za rfl<|ZX b6 fun a q _ b8=>?_;refine Zs q fun _ b9=>?_;refine Zm rfl<|Zf (X26 (vs:=[vi (n:Int)]) rfl Xsc (by have hq:=Xz6 w4 (n:Int) (by omega);rw [Qj] at hq;exact hq)) ?_;rintro _ w5 ⟨bC,bD,rfl,e,j⟩;have e:=e.lower p.size;have g:=g.below j;have o:=o.below j;have d:=d.below j;have p:=btr p j;refine Ze (X0p rfl Xb)<|Zm rfl<|Zt b9 fun a q=>?_;refine Q8<|X0a (σ:=Nat) (fun (i:Nat) (a:Act) (w:World)=>Fr a 55 [(0,vi (n:Int)),(3,vi (k:Int)),(5,.pointer (some ⟨b4,0,none⟩)),(6,.pointer (some ⟨b5,0,none⟩)),(12,.pointer (some ⟨N,0,none⟩)),(29,.slice bC (gsT n).length bD),(30,vi ((gsT n).length:Int)),(31,vi (i:Int))]∧(i≤(gsT n).length)∧(NoF n m x B i)∧Blk w b4 33 [vi x.rows,vi x.cols,.slice Ax x.cells.length cx]∧Blk w b5 33 [vi m.rows,vi m.cols,.slice Am m.cells.length cm]∧Blk w N 148 [.bool false]∧Own w z.heap.size 115 3 encG bC bD (gsT n)∧Below z.heap.size z w) (fun (i:Nat)=>(gsT n).length-i) 0 ?_ ?_
 ·exact ⟨q.sb,(Qf _),(Xpg n m x B),g,o,d,e,p⟩
 rintro i a w6 ⟨q,hi,aH,g,o,d,e,p⟩;refine Zs q fun _ bE=>?_;refine Ze (X11 rfl rfl)<|ZX bE fun a q _ bF=>?_
 refine Xj q rfl (fun C=>?_) (fun C=>?_)
 ·have aI:=C;have C:=Q2 C
  obtain ⟨c,E⟩:=Xf (l:=(gsT n)) (k:=i) (by omega)
  obtain ⟨c4,cA,cB,cC,aB,cD,cL⟩:=Xq6 (k:=B) hn (by omega) aF hx E
  have cM:=X8y n;refine Q7<|bF _ _<|Q5 fun _ bG=>?_;refine Q8<|Zs q fun _ bH=>?_;refine Zi (k:=i) (u:=c) (enc:=encG) (l:=(gsT n)) trivial rfl rfl Xb X0h X9 e.rd E rfl ?_;intro cN aJ;refine Ze (Xw (l:=[vi c.k,vi c.a,vi c.b]) rfl X0f aJ rfl)<|Zf (X8 (zs:=[vi 0,vi 0,vi 0]) X2q rfl) ?_;rintro _ w7 ⟨cE,rfl,aC,j,f⟩;have aK:=Q0 p.size aC;have I:=e.away aC;have g:=g.below j;have o:=o.below j;have d:=d.below j;have e:=e.below j;have p:=btr p j;refine Zo (Vw [vi c.k,vi c.a,vi c.b] X0h f) ?_;rintro _ w8 ⟨ho,hb⟩;have t:=f;have g:=g.only ho (Blk.ne g t rfl);have o:=o.only ho (Blk.ne o t rfl);have d:=d.only ho (Blk.ne d t rfl);have e:=e.onlyA ho I;have p:=Below.only p ho aK;have f:=hb;refine ZX bH fun a q _ bI=>?_;refine X0d (some N) (fun _=>false) mixed ?_;intro w9 j;have g:=g.below j;have o:=o.below j;have d:=d.below j;have f:=f.below j;have e:=e.below j;have p:=btr p j;refine Yb q<|Yo 0 rfl (fun _=>Xa rfl)<|Yo 1 rfl (fun _=>Xa rfl)<|Yo 2 rfl (fun _=>Xa rfl) ?_;refine Yw 3 rfl trivial (fun w1 h1=>Xw (l:=[vi c.k,vi c.a,vi c.b]) rfl X0f ((f.only h1 (Blk.ne f d rfl)).at 0) rfl) ?_;refine Yw 5 rfl trivial (fun w1 h1=>Xw (l:=[vi x.rows,vi x.cols,.slice Ax x.cells.length cx]) rfl X0j ((g.only h1 (Blk.ne g d rfl)).at 0) rfl) ?_;refine Yw 7 rfl trivial (fun w1 h1=>Xw (l:=[vi m.rows,vi m.cols,.slice Am m.cells.length cm]) rfl X0j ((o.only h1 (Blk.ne o d rfl)).at 0) rfl) ?_;refine Yo 8 rfl (fun _=>Xa rfl)<|Yo 9 rfl (fun _=>Vx (X1j rfl rfl (by omega) (by omega)) (show _=(B:Int) from (by omega)))<|Y1 4 ?_
  refine Yf rfl trivial (EfW.mono (Vc (Xyb _ (n:Int) c c4) Xmg) (fun _ _ h=>⟨fun _=>by obtain ⟨aL,aM,rfl,G,j⟩:=h;exact Keep.of_below j,h⟩)) ?_;rintro _ cF ⟨aL,aM,rfl,G,j⟩;have G:=G.lower p.size;have g:=g.below j;have o:=o.below j;have d:=d.below j;have f:=f.below j;have e:=e.below j;have p:=btr p j;refine Y1 6<|Yf rfl trivial (EfW.mono (X26 (vs:=[.pointer (some ⟨N,0,none⟩),.agg #[vi ((gateS (n:Int) c).rows),vi ((gateS (n:Int) c).cols),.slice aL ((gateS (n:Int) c).cells).length aM],.agg #[vi x.rows,vi x.cols,.slice Ax x.cells.length cx]]) rfl Xmy (by have hq:=Xzh cF N false d (gateS (n:Int) c) aL aM G.rd.top x Ax cx (J.below' p).top cA cB cC;rw [aB] at hq;dsimp only at hq;exact hq)) (fun _ _ h=>⟨fun _=>by obtain ⟨aN,aO,rfl,H,hK,aP⟩:=h;exact hK.keep,h⟩)) ?_;rintro _ cO ⟨aN,aO,rfl,H,hK,aP⟩;have bJ:=p.size;obtain ⟨wm,hO,hm,j⟩:=hK.mid;clear hm;have t:=d;have g:=g.only hO (Blk.ne g t rfl);have o:=o.only hO (Blk.ne o t rfl);have f:=f.only hO (Blk.ne f t rfl);have e:=e.onlyT hO t rfl;have p:=Below.only p hO aG;have g:=g.below j;have o:=o.below j;have f:=f.below j;have e:=e.below j;have p:=btr p j
  clear t j hO hK;have d:=aP;clear aP
  have H:=H.lower bJ;clear bJ;refine Y1 10<|Yf rfl trivial (EfW.mono (X26 (vs:=[vi (n:Int),.agg #[vi ((valW n (wd++[c])).rows),vi ((valW n (wd++[c])).cols),.slice aN ((valW n (wd++[c])).cells).length aO],.agg #[vi m.rows,vi m.cols,.slice Am m.cells.length cm],vi (B:Int)]) rfl Xci (IH B (by omega) _ n (valW n (wd++[c])) aN aO H.rd.top m Am cm (L.below' p).top hn (wd++[c]) (jj+1) (by omega) cD rfl aA)) (fun _ _ h=>⟨fun _=>by obtain ⟨aQ,aR,rfl,y,j⟩:=h;exact Keep.of_below j,h⟩)) ?_;rintro _ cP ⟨aQ,aR,rfl,y,j⟩;have aU:=y.awayNew f.lt;have y:=y.lower p.size;have g:=g.below j;have o:=o.below j;have d:=d.below j;have f:=f.below j;have e:=e.below j;have p:=btr p j;refine Yo 11 rfl (fun _=>Xa rfl)<|Yo 12 rfl (fun _=>X4 (vs:=[.slice aQ ((fdS n m B (valW n (wd++[c]))).getD []).length aR,.bool ((fdS n m B (valW n (wd++[c]))).isSome)]) rfl rfl)<|Yo 13 rfl (fun _=>X4 (vs:=[.slice aQ ((fdS n m B (valW n (wd++[c]))).getD []).length aR,.bool ((fdS n m B (valW n (wd++[c]))).isSome)]) rfl rfl)<|Yo 14 rfl (fun _=>X19 rfl)<|Yo 15 rfl (fun _=>X19 rfl) ?_;refine Yd fun a q=>?_;refine bI _ _<|Zs q fun _ bK=>?_;refine Zm rfl<|Zt bK fun a q=>?_
  refine Xj q rfl (fun D=>?_) (fun D=>?_)
  ·have aS:=D;have aT:=D;refine Zs q fun _ bL=>?_;refine Ze (Vn X0f f)<|Zf (X5 (k:=1) (vs:=[.agg #[vi c.k,vi c.a,vi c.b]]) (zs:=[vi c.k,vi c.a,vi c.b]) rfl Xb Xk rfl rfl) ?_;rintro _ cQ ⟨b34,rfl,Q,j,aD⟩
   have aW:cE≠b34:=by have:=f.lt;omega
   have U:=Q0 p.size Q;have aX:=e.away Q;have aY:=y.away Q;have f:=f.below j;have y:=y.below j;have p:=btr p j;refine Zm rfl<|Zf (X0v (enc:=encG) (l:=([c])) (l2:=(((fdS n m B (valW n (wd++[c]))).getD []))) (B0:=z.heap.size) rfl rfl Xb Xk X9 X07 (Own.of_blkL X9 aD U rfl rfl (Nat.le_of_ble_eq_true rfl)) y.rd (by have:=Xc0 (n:=n) (m:=m) (k:=B) (x:=valW n (wd++[c]));simp only [maxLen];simp;omega) (by have:=Xc0 (n:=n) (m:=m) (k:=B) (x:=valW n (wd++[c]));simp;omega) p.size) ?_;rintro _ cR ⟨cG,cH,rfl,bM,hg,bN⟩
   have aE:Own _ z.heap.size 115 3 encG _ _ ([c]):=(Own.of_blkL X9 aD U rfl rfl (Nat.le_of_ble_eq_true rfl))
   have aZ:=bN _ f.lt (Away.ne (by omega))
   clear bN;have p:=Below.app p aE hg (Qb _) p.size;clear aE hg;refine Za rfl<|Za rfl<|Zt bL fun a q=>?_;refine Q6<|Xm<|X2<|X2 ?_;refine Xm<|X2<|X3 q (X0w q rfl rfl rfl) ?_
   have W:fdS n m k x=some ([c]++(fdS n m B (valW n (wd++[c]))).getD []):=by rw [b3,Xoy aH E (by rw [aB];exact aT),aB];rfl
   rw [W]
   exact ⟨cG,cH,rfl,bM,p⟩
  have aS:=D;have aT:=D;refine Q7<|Xq<|bG _ _<|Zr q ?_;refine Ze (X00 rfl rfl (by omega) (by omega))<|Zm rfl ?_;refine Zn fun a q=>?_;refine Xo ?_;exact ⟨i+1,⟨q.sb,(by omega),(Xm7 aH E (by rw [aB];simpa using aT)),g,o,d,e,p⟩,(by omega)⟩
 have aI:=C;have C:=Q1 C;refine Q9<|Xn<|Xn<|X06 ?_;refine b8 _ _<|Zs q fun _ bO=>?_;refine Za rfl<|Za rfl<|Zt bO fun a q=>?_
 refine Q6 (X3 q (X0w q rfl rfl rfl) ?_)
 have W:fdS n m k x=none:=by rw [b3];exact Xsm aH (by omega)
 rw [W]
 exact ⟨none,0,rfl,(Own.nil _ _ _ _ _),p⟩
theorem Xu3(b:World)(n:Nat)(x:Mx)(Ax:Option Addr)(cx:Nat)(c:Rd b b.heap.size 95 encD Ax x.cells)(m:Mx)(Am:Option Addr)(cm:Nat)(d:Rd b b.heap.size 95 encD Am m.cells)(k:Nat)(hn:n=1∨n=2)(wd:List Gt)(jj:Nat)(aA:jj+k≤8)(aB:wd ∈ wds (gsT n) jj)(hx:x=valW n wd)(aC:m.cells.length=2^n*2^n) : Ret Tryz.prog 61 [vi (n:Int),mV Ax cx x,mV Am cm m,vi (k:Int)] b (fun v w=>∃ A c1,v=.tuple #[.slice A ((fdS n m k x).getD []).length c1,.bool (fdS n m k x).isSome]∧Own w b.heap.size 115 3 encG A c1 ((fdS n m k x).getD [])∧Below b.heap.size b w):=by
 induction k using Nat.strongRecOn generalizing b n x Ax cx m Am cm wd jj with
 | ind k ih=>exact Xv6 b n x Ax cx c m Am cm d k hn wd jj aA aB hx aC fun k1 h1 b n x Ax cx c m Am cm d hn wd jj aA aB hx aC=>ih k1 h1 b n x Ax cx c m Am cm d hn wd jj aA aB hx aC
def markD(k:Int)(n:Nat) : List Dy:=(List.range n).map fun (j:Nat)=>⟨⟨k+5*(j:Int),k+5*(j:Int)+1,k+5*(j:Int)+2,k+5*(j:Int)+3⟩,k+5*(j:Int)+4⟩
theorem Y2a : ((Tryz.prog.globalNamed "internal/strconv.uint64pow10").bind fun g => (Tryz.prog.globals[g]?).map (·.type)) = some (269 : TypeId) := by kernel_rfl
theorem Y1c:(Rows.laid_internal_strconv_uint64pow10:DataW Unit)=Lib.tabData .u64 Lib.pow10Tab:=by kernel_rfl
theorem Xwv {W : World} (h : laidMetH Tryz.prog [("math/bits.deBruijn32tab", Rows.laid_math_bits_deBruijn32tab), ("math/bits.deBruijn64tab", Rows.laid_math_bits_deBruijn64tab), ("internal/strconv.uint64pow10", Rows.laid_internal_strconv_uint64pow10)] W) : PowT W := by
 rw [MakeChecks.laidMetH_plain _ _ _ (by kernel_rfl)] at h
 obtain ⟨g,t,cs,fuel,p,h1,h2,h3,h4⟩:=Lib.laidMet.reads h (.tail _ (.tail _ (.head _)));have h5:=Y2a
 rw [h1,Qz,h2] at h5
 injection h5 with h5
 subst h5
 rw [Y1c] at h4
 have hc:=Lib.cells_of_tab Tryz.underlying269 Tryz.underlying241 (by kernel_rfl) (by kernel_rfl) h4
 have ht : Lib.TabIs Tryz.prog W "internal/strconv.uint64pow10" .u64 Lib.pow10Tab := by
  unfold Lib.TabIs
  rw [h3,← hc]
 exact Lib.tabBelow_of_tabIs ht
end Go.Proofs.YtblmmikapnflcaaGreatDoor
