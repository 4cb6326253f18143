/-
  For all drawn circuits and diagrams, the diagram of a circuit stands for its operator, the adjoint diagram for the adjoint matrix, and texts are parsed back. Conditions: none beside the variables' values, which the card ties to the program's text.
-/
import Derived.Test.YtgobkmhhckhbfaaGreatDoorU3
import Derived.Test.YtgobkmhhckhbfaaGreatDoorU2
import Derived.Test.YtgobkmhhckhbfaaGreatDoorU1
set_option linter.unusedVariables false
set_option linter.unusedSimpArgs false
set_option maxHeartbeats 1000000
set_option maxRecDepth 4000
set_option linter.unusedSectionVars false
namespace Go.Proofs.YtgobkmhhckhbfaaGreatDoor
open Go.RowKit
structure BrE (m:Nat) (k:Int) (x:Br) : Prop where
 r:-(m:Int)<=x.d.r/\x.d.r<=m
 t:0<=x.d.t/\x.d.t<=2*(m:Int)
 e:exD x.d<=k
theorem BrE.mono{m m':Nat}{k k':Int}{x:Br}(h:BrE m k x)(hm:m<=m')(hk:k<=k') : BrE m' k' x:=⟨by have:=h.r;omega,by have:=h.t;omega,by have:=h.e;omega⟩
theorem Xtq{m:Nat}{k:Int}{x:Br}(h:BrE m k x)(u p q:Int) : BrE m (k+1) (nodB x u p q):=by
 refine ⟨h.r,h.t,?_⟩
 have:=h.e
 unfold exD at this ⊢
 show hdN (jnW _ _ _ _)-x.d.r<=_
 rw [Xaz]
 split<;>omega
theorem Xms{m:Nat}{k:Int}{x:Br}(h:BrE m k x)(q:Int) : BrE m (k+1) (plcB x q):=by
 unfold plcB
 split
 ·exact Xtq h _ _ _
 ·exact h.mono (Qb _) Z
theorem Xie{m:Nat}{k:Int}{x:Br}(h:BrE m k x)(q u:Int) : BrE m (k+1) (trnB x q u):=by
 have:=Xms h q
 exact ⟨this.r,this.t,this.e⟩
theorem X9u{m:Nat}{k:Int}{x:Br}(h:BrE m k x)(q:Int) : BrE m k (flpB x q):=⟨h.r,h.t,h.e⟩
theorem Y15{m:Nat}{k:Int}{x:Br}(h:BrE m k x)(hm:m<=1000)(p q:Int) : BrE (m+1) (k+3) (czB x p q):=by
 have h2:=Xms (Xms h p) q;have hr:=h2.r;have ht:=h2.t;have he:=h2.e
 have e1:wr ((plcB (plcB x p) q).d.r-1)=(plcB (plcB x p) q).d.r-1:=X0v Z Z
 have e2:wr ((plcB (plcB x p) q).d.r+1)=(plcB (plcB x p) q).d.r+1:=X0v Z Z
 by_cases hf:0<=fdW (plcB (plcB x p) q).d.ws ((plcB x p).la.getD p.toNat 0) ((plcB (plcB x p) q).la.getD q.toNat 0)
 ·rw [Xor hf]
  obtain ⟨w,h3,_,_⟩:=Xt7 hf;have hc:=Xtg h3
  refine ⟨by dsimp only;omega,by dsimp only;omega,?_⟩
  unfold exD at he ⊢
  dsimp only
  split at hc<;>omega
 ·rw [Xoq hf]
  refine ⟨by dsimp only;omega,by dsimp only;omega,?_⟩
  unfold exD at he ⊢
  dsimp only
  rw [Xaz,Q4 rfl]
  omega
theorem Y2l{m:Nat}{k:Int}{x:Br}(h:BrE m k x)(hm:m<=1000){u:Int}(hu:0<=u/\u<=2) : BrE (m+1) k (tnB x u):=by
 have ht:=h.t;have hr:=h.r
 have e1:wr (x.d.t+u)=x.d.t+u:=X0v Z Z
 refine ⟨?_,?_,h.e⟩
 ·show _<=x.d.r/\x.d.r<=_
  omega
 ·show 0<=wr (x.d.t+u)/\wr (x.d.t+u)<=_
  omega
theorem Y44{m:Nat}{k:Int}{x:Br}(h:BrE m k x)(hm:m<=1000)(g:Gt) : BrE (m+1) (k+3) (gtB x g):=by
 unfold gtB
 split
 ·exact (X9u h _).mono Z Z
 split
 ·exact (X9u (Xie (X9u h _) _ _) _).mono Z Z
 split
 ·have h2:BrE m (k+1+1) (yyB x g.a):=X9u (Xie (X9u (Xie h _ _) _) _ _) _
  exact (Y2l h2 hm ⟨by decide,by decide⟩).mono Z Z
 split
 ·exact X9u (Y15 (X9u h _) hm _ _) _
 split
 ·exact Y15 h hm _ _
 split
 ·exact ⟨by have:=h.r;show _<=x.d.r/\x.d.r<=_;omega,by have:=h.t;show 0<=x.d.t/\x.d.t<=_;omega,by have:=h.e;show exD x.d<=_;omega⟩
 split
 ·exact (Y2l h hm ⟨by decide,by decide⟩).mono Z Z
 ·exact (Xie h _ _).mono Z Z
theorem Xl8:∀ (l:List Gt) {m:Nat} {k:Int} {x:Br},BrE m k x->m+l.length<=1000->BrE (m+l.length) (k+3*(l.length:Int)) (l.foldl gtB x)
 | [],m,k,x,h,_=>h.mono O5 O5
 | g::l,m,k,x,h,hm=>by
  rw [Qs] at hm ⊢
  have ih:=Xl8 l (Y44 h Z g) Z
  exact ih.mono Z Z
theorem Xtv{c:Cx}(hl:c.gs.length<=100) : ∀ j:Nat,BrE c.gs.length (3*(c.gs.length:Int)+j) (ofK c j)
 | 0=>by
  have h0:BrE 0 0 (ofB0 c):=⟨by show _<=(0:Int)/\(0:Int)<=_;omega,by show (0:Int)<=0/\(0:Int)<=_;omega,by show ((([] : List Wr).filter fun w=>w.h).length:Int)-0<=0;simp⟩
  exact (Xl8 c.gs h0 Z).mono Z Z
 | j+1=>by
  rw [X7y]
  exact (Xtq (Xtv hl j) _ _ _).mono (Qb _) Z
def ExQ(d:Dg) : Prop:=(0<=d.t/\d.t<=7)/\(-1000<=exD d/\exD d<=31)
theorem Y22{c:Cx}(hn:c.n<=2)(hl:c.gs.length<=9) : (0<=(ofD c).t/\(ofD c).t<=7)/\(-9<=(ofD c).r/\(ofD c).r<=9)/\exD (ofD c)<=29:=by
 have h:=Xtv (c:=c) Z c.n.toNat
 have hr:=h.r;have ht:=h.t;have he:=h.e
 refine ⟨?_,?_,?_⟩
 ·show 0<=(ofK c c.n.toNat).d.t.tmod 8/\(ofK c c.n.toNat).d.t.tmod 8<=7
  rw [Int.tmod_eq_emod_of_nonneg ht.1]
  omega
 ·show -9<=(ofK c c.n.toNat).d.r/\(ofK c c.n.toNat).d.r<=9
  omega
 ·show exD (ofK c c.n.toNat).d<=29
  omega
def ExL(d:Dg) : Prop:=-30<=d.r->d.r<=30->exD d<=60
theorem ExQ.l{d:Dg}(h:ExQ d) : ExL d:=fun _ _=>by have:=h.2;omega
theorem X4i{n t r:Int}{ns ns':List Nd}{ws:List Wr}{a b:Int}(h:ExL ⟨n,ns,ws,t,r⟩) : ExL ⟨n,ns',ws++[⟨a,b,false⟩],t,r⟩:=fun h1 h2=>by
 have:=h h1 h2
 unfold exD at this ⊢
 dsimp only at this ⊢
 rw [Xce,Xcf]
 show hdN ws+(0+0)-r<=60
 omega
theorem X3v{n t r:Int}{ns ns':List Nd}{ws:List Wr}(h:ExL ⟨n,ns,ws,t,r⟩)(k:Nat) : ExL ⟨n,ns',ws.drop k,t,r⟩:=fun h1 h2=>by
 have:=h h1 h2
 unfold exD at this ⊢
 dsimp only at this ⊢
 have h3:hdN ws=hdN (ws.take k)+hdN (ws.drop k):=by rw [<- Xce,W9]
 have h4:=Xhi (ws.take k)
 omega
theorem X7j{d:Dg}(h:d.r < -30∨30<d.r) : ExL d:=fun h1 h2=>by omega
def hadW(q:Nat)(w:St) : St:=fun b=>gf true (b q) false*w (upB b q false)+gf true (b q) true*w (upB b q true)
def hT:List Bool->Nat->St->St
 | [],_,w=>w
 | h::l,k,w=>if h=true then hadW k (hT l (k+1) w) else hT l (k+1) w
theorem Y4n(a b c d p q r s:Rg) : a*(c*p+d*q)+b*(c*r+d*s)=c*(a*p+b*r)+d*(a*q+b*s):=by
 simp only [X16,X0k,X13,X0a,Xb]
theorem Xcg{p q:Nat}(h:p≠q)(w:St) : hadW p (hadW q w)=hadW q (hadW p w):=by
 funext b
 unfold hadW
 rw [X4h (β:=b) (k:=p) (j:=q) (x:=false) (fun e=>h e.symm),X4h (β:=b) (k:=p) (j:=q) (x:=true) (fun e=>h e.symm),X4h (β:=b) (k:=q) (j:=p) (x:=false) h,X4h (β:=b) (k:=q) (j:=p) (x:=true) h]
 rw [X8r (β:=b) (i:=q) (j:=p) (fun e=>h e.symm),X8r (β:=b) (i:=q) (j:=p) (fun e=>h e.symm),X8r (β:=b) (i:=q) (j:=p) (fun e=>h e.symm),X8r (β:=b) (i:=q) (j:=p) (fun e=>h e.symm)]
 exact Y4n _ _ _ _ _ _ _ _
theorem Xhq(y:Rg) : y+omZ 4*y=0:=by
 rw [show omZ 4=(⟨-1,0,0,0⟩ : Rg) by decide]
 have e1:(0:Rg).a=0:=rfl
 have e2:(0:Rg).b=0:=rfl
 have e3:(0:Rg).c=0:=rfl
 have e4:(0:Rg).d=0:=rfl
 apply X3c<;>simp only [Xdd,Xde,Xdf,Xdg,X7t,X7u,X7v,X7w,e1,e2,e3,e4]<;>omega
theorem Xmp(y:Rg) : omZ 4*(omZ 4*y)=y:=by rw [<- Xe,show omZ 4*omZ 4=1 by decide,Xk]
theorem Xtc(u:Bool)(x y:Rg) : gf true u false*(gf true false false*x+gf true false true*y)+gf true u true*(gf true true false*x+gf true true true*y)=(1+1)*(if u=true then y else x):=by
 cases u
 ·show 1*(1*x+1*y)+1*(1*x+omZ 4*y)=(1+1)*x
  simp only [Xk,X1s]
  rw [show x+y+(x+omZ 4*y)=x+x+(y+omZ 4*y) by simp only [X0k,X0a],Xhq,X0l]
 ·show 1*(1*x+1*y)+omZ 4*(1*x+omZ 4*y)=(1+1)*y
  simp only [Xk,X1s,X16,Xmp]
  rw [show x+y+(omZ 4*x+y)=y+y+(x+omZ 4*x) by simp only [X0k,X0a,X13],Xhq,X0l]
theorem Y2u(w:St)(b:Nat->Bool)(q:Nat) : (if b q=true then w (upB b q true) else w (upB b q false))=w b:=by
 cases h:b q
 ·rw [Q3 O4,X6u b q h]
 ·rw [Q4 O,X6u b q h]
theorem Y1m(q:Nat)(w:St) : hadW q (hadW q w)=fun b=>s2^2*w b:=by
 funext b
 unfold hadW
 simp only [X8q,Xnx]
 rw [Xtc,Y2u,Xfx]
theorem Xwp{q:Nat}{φ w:St}(h:∀ b t,φ (upB b q t)=φ b) : hadW q (fun b=>φ b*w b)=fun b=>φ b*hadW q w b:=by
 funext b
 show gf true (b q) false*(φ (upB b q false)*w (upB b q false))+gf true (b q) true*(φ (upB b q true)*w (upB b q true))=φ b*(gf true (b q) false*w (upB b q false)+gf true (b q) true*w (upB b q true))
 rw [h,h,X16]
 congr 1<;>rw [Xb]
theorem X8c:∀ (l:List Bool) (k:Nat) {φ w:St},(∀ i,l.getD i false=true->∀ b t,φ (upB b (k+i) t)=φ b)->hT l k (fun b=>φ b*w b)=fun b=>φ b*hT l k w b
 | [],_,_,_,_=>rfl
 | h::l,k,φ,w,hl=>by
  have ih:=X8c l (k+1) (φ:=φ) (w:=w) fun i hi b t=>by
   have:=hl (i+1) (by simpa using hi) b t
   rwa [show k+(i+1)=k+1+i by omega] at this
  unfold hT
  rw [ih]
  cases h
  ·rfl
  ·exact Xwp fun b t=>hl 0 O b t
theorem Xcc(c:Rg)(l:List Bool)(k:Nat)(w:St) : hT l k (fun b=>c*w b)=fun b=>c*hT l k w b:=X8c l k (φ:=fun _=>c) fun _ _ _ _=>rfl
theorem Xtd{j:Nat} : ∀ (l:List Bool) (k:Nat) (w:St),j<k->hT l k (hadW j w)=hadW j (hT l k w)
 | [],_,_,_=>rfl
 | h::l,k,w,hj=>by
  unfold hT
  rw [Xtd l (k+1) w Z]
  cases h
  ·rfl
  ·exact Xcg Z _
theorem Xlf:∀ (l:List Bool) (k q:Nat) (w:St),q<l.length->l.getD q false=false->hT (l.set q true) k w=hT l k (hadW (k+q) w)
 | [],_,_,_,h,_=>by simp at h
 | h::l,k,0,w,_,h0=>by
  have h0:h=false:=h0
  subst h0
  show hadW k (hT l (k+1) w)=hT l (k+1) (hadW k w)
  rw [Xtd l (k+1) w Z]
 | h::l,k,q+1,w,hl,h0=>by
  have ih:=Xlf l (k+1) q w (by simpa using hl) (by simpa using h0)
  show hT (h::l.set q true) k w=hT (h::l) k (hadW (k+(q+1)) w)
  unfold hT
  rw [ih,show k+1+q=k+(q+1) by omega]
theorem X9z:∀ (l:List Bool) (k q:Nat) (w:St),l.getD q false=true->hT l k w=hadW (k+q) (hT (l.set q false) k w)
 | [],_,_,_,h0=>by simp at h0
 | h::l,k,0,w,h0=>by
  have h0:h=true:=h0
  subst h0
  rfl
 | h::l,k,q+1,w,h0=>by
  have ih:=X9z l (k+1) q w (by simpa using h0)
  show hT (h::l) k w=hadW (k+(q+1)) (hT (h::l.set q false) k w)
  unfold hT
  rw [ih,show k+1+q=k+(q+1) by omega]
  cases h
  ·rfl
  ·exact Xcg Z _
theorem X67{l:List Bool}{q:Nat}{c:Bool}(hl:l.getD q false=c)(hql:q<l.length) : l.set q c=l:=by
 apply List.ext_getElem?
 intro i
 rw [List.getElem?_set]
 split
 ·rename_i e
  subst e
  first|rw [Q4 hql,Qc hql]|rw [Qc hql]
  rw [Qa,Qc hql] at hl
  exact congrArg some hl.symm
 ·rfl
theorem X2p(l:List Bool)(i j:Nat)(v:Bool) : (l.set i v).getD j false=if i=j/\i<l.length then v else l.getD j false:=by grind
def swB(a c:Nat)(b:Nat->Bool) : Nat->Bool:=fun q=>if q=a then b c else if q=c then b a else b q
theorem Xic{a c p:Nat}(b:Nat->Bool)(t:Bool)(h1:p≠a)(h2:p≠c) : swB a c (upB b p t)=upB (swB a c b) p t:=by grind [swB,upB]
theorem Xia{a c:Nat}(b:Nat->Bool)(t:Bool)(h:a≠c) : swB a c (upB b a t)=upB (swB a c b) c t:=by grind [swB,upB]
theorem Xib{a c:Nat}(b:Nat->Bool)(t:Bool)(h:a≠c) : swB a c (upB b c t)=upB (swB a c b) a t:=by grind [swB,upB]
theorem Xra{a c p:Nat}(w:St)(h1:p≠a)(h2:p≠c) : hadW p (fun b=>w (swB a c b))=fun b=>hadW p w (swB a c b):=by
 funext b
 simp only [hadW]
 rw [Xic b _ h1 h2,Xic b _ h1 h2]
 have e:swB a c b p=b p:=by unfold swB;rw [Q3 h1,Q3 h2]
 rw [e]
theorem Xr8{a c:Nat}(w:St)(h:a≠c) : hadW a (fun b=>w (swB a c b))=fun b=>hadW c w (swB a c b):=by
 funext b
 simp only [hadW]
 rw [Xia b _ h,Xia b _ h]
 have e:swB a c b c=b a:=by unfold swB;rw [Q3 (fun e=>h e.symm),Q4 rfl]
 rw [e]
theorem Xr9{a c:Nat}(w:St)(h:a≠c) : hadW c (fun b=>w (swB a c b))=fun b=>hadW a w (swB a c b):=by
 funext b
 simp only [hadW]
 rw [Xib b _ h,Xib b _ h]
 have e:swB a c b a=b c:=by unfold swB;rw [Q4 rfl]
 rw [e]
theorem Xte{a c:Nat} : ∀ (l:List Bool) (k:Nat) (w:St),(∀ i,l.getD i false=true->k+i≠a/\k+i≠c)->hT l k (fun b=>w (swB a c b))=fun b=>hT l k w (swB a c b)
 | [],_,_,_=>rfl
 | h::l,k,w,hl=>by
  have ih:=Xte (a:=a) (c:=c) l (k+1) w fun i hi=>by
   have:=hl (i+1) (by simpa using hi)
   omega
  unfold hT
  rw [ih]
  cases h
  ·rfl
  ·have:=hl 0 O
   exact Xra _ Z Z
def hqc(c:Bool)(q:Nat)(w:St) : St:=if c=true then hadW q w else w
theorem Xlg{l:List Bool}{a c:Nat}(hac:a≠c)(ha:a<l.length)(hc:c<l.length)(w:St) : hT l 0 w=hqc (l.getD a false) a (hqc (l.getD c false) c (hT ((l.set a false).set c false) 0 w)):=by
 have e1:hT l 0 w=hqc (l.getD a false) a (hT (l.set a false) 0 w):=by
  unfold hqc
  cases h:l.getD a false
  ·rw [X67 h ha];rfl
  ·rw [Q4 O,X9z l 0 a w h,Nat.zero_add]
 have e2:hT (l.set a false) 0 w=hqc (l.getD c false) c (hT ((l.set a false).set c false) 0 w):=by
  have e3:(l.set a false).getD c false=l.getD c false:=by rw [X2p,Q3 fun h=>hac h.1]
  unfold hqc
  cases h:l.getD c false
  ·rw [X67 (e3.trans h) (by rw [List.length_set];exact hc)];rfl
  ·rw [Q4 O,X9z (l.set a false) 0 c w (e3.trans h),Nat.zero_add]
 rw [e1,e2]
theorem Xlk{a c:Nat}(x:Bool)(w:St)(h:a≠c) : hqc x a (fun b=>w (swB a c b))=fun b=>hqc x c w (swB a c b):=by
 cases x
 ·rfl
 ·exact Xr8 w h
theorem Xll{a c:Nat}(x:Bool)(w:St)(h:a≠c) : hqc x c (fun b=>w (swB a c b))=fun b=>hqc x a w (swB a c b):=by
 cases x
 ·rfl
 ·exact Xr9 w h
theorem Xlj{p q:Nat}(h:p≠q)(x y:Bool)(w:St) : hqc x p (hqc y q w)=hqc y q (hqc x p w):=by
 cases x<;>cases y<;>first|rfl|exact Xcg h w
theorem Xr6{l:List Bool}{a c:Nat}(hac:a≠c)(ha:a<l.length)(hc:c<l.length)(w:St) : hT l 0 (fun b=>w (swB a c b))=fun b=>hT ((l.set a (l.getD c false)).set c (l.getD a false)) 0 w (swB a c b):=by
 have e0:(((l.set a (l.getD c false)).set c (l.getD a false)).set a false).set c false=(l.set a false).set c false:=by
  apply List.ext_getElem?
  intro i
  simp only [List.getElem?_set,List.length_set]
  repeat' split
  all_goals first|rfl|omega
 have g1:((l.set a (l.getD c false)).set c (l.getD a false)).getD a false=l.getD c false:=by
  rw [X2p,Q3 (fun h=>hac h.1.symm),X2p,Q4 ⟨O,ha⟩]
 have g2:((l.set a (l.getD c false)).set c (l.getD a false)).getD c false=l.getD a false:=by
  rw [X2p,Q4 ⟨O,by rw [List.length_set];exact hc⟩]
 rw [Xlg hac ha hc,Xlg (l:=(l.set a (l.getD c false)).set c (l.getD a false)) hac (by simpa using ha) (by simpa using hc),e0,g1,g2]
 rw [Xte _ 0 w fun i hi=>?_,Xll _ _ hac,Xlk _ _ hac]
 ·funext b
  rw [Xlj (fun e=>hac e.symm)]
 ·rw [X2p,X2p] at hi
  rw [Nat.zero_add]
  constructor
  ·intro e
   subst e
   rw [Q3 (fun h=>hac h.1.symm),Q4 ⟨O,ha⟩] at hi
   cases hi
  ·intro e
   subst e
   rw [Q4 ⟨O,by rw [List.length_set];exact hc⟩] at hi
   cases hi
def lB(n:Nat)(x:Br)(β:Nat->Bool) : Nat->Bool:=fun q=>if q<n then β (x.la.getD q 0).toNat else false
def gB(n:Nat)(x:Br)(w:St)(β:Nat->Bool) : Rg:=fD x.d β*hT x.hd 0 w (lB n x β)
def semB(n:Nat)(x:Br)(w:St)(β:Nat->Bool) : Rg:=zL (spS x.d.ns) (gB n x w) β
theorem X9i{ns:List Nd}(x:Nd) : (ns++[x]).getD ns.length nZ=x:=by grind
theorem Xgh{ns:List Nd}(x:Nd){i:Nat}(h:i<ns.length) : (ns++[x]).getD i nZ=ns.getD i nZ:=by grind
theorem Xi3(ns:List Nd)(x:Nd) : spS (ns++[x])=spS ns++(if (x.k==3)=true then [ns.length] else []):=by
 unfold spS
 rw [Qh,List.length_singleton,List.range_succ,List.filter_append]
 congr 1
 ·refine List.filter_congr fun i hi=>?_
  rw [Xgh x (W2.1 hi)]
 ·rw [List.filter_cons,X9i]
  split<;>rfl
theorem Xnp{ns:List Nd}{i:Nat}(h:i ∈ spS ns) : i<ns.length:=W2.1 (List.mem_filter.1 h).1
theorem Xma:∀ (ns:List Nd) (k:Nat) (x:Nd) (β:Nat->Bool),nP (ns++[x]) k β=nP ns k β*nf x (β (k+ns.length))
 | [],k,x,β=>by
  show nf x (β k)*1=1*nf x (β (k+0))
  rw [X07]
  rfl
 | y::ns,k,x,β=>by
  show nf y (β k)*nP (ns++[x]) (k+1) β=nf y (β k)*nP ns (k+1) β*nf x (β (k+(ns.length+1)))
  rw [Xma ns (k+1) x β,Xe,show k+1+ns.length=k+(ns.length+1) by omega]
theorem Xf8(x:Br)(k p q:Int)(β:Nat->Bool) : fD (nodB x k p q).d β=gf (x.hd.getD q.toNat false) (β (x.la.getD q.toNat 0).toNat) (β x.d.ns.length)*(nf ⟨k,p⟩ (β x.d.ns.length)*fD x.d β):=by
 unfold fD nodB
 dsimp only
 rw [Xma,Xu8,Qj,Nat.zero_add]
 simp only [Xe,X07,Xb]
theorem Xku{d:Dg}(hg:RgW d.ns.length d.ws){k:Nat}(hk:d.ns.length<=k)(β:Nat->Bool)(t:Bool) : fD d (upB β k t)=fD d β:=by
 unfold fD
 rw [Xto,Xu9]
 ·intro w hw
  have:=hg w hw
  omega
 ·intro i y hy hi
  have:=(Qg.1 hy).1
  omega
theorem Xfj{n:Nat}{x:Br}(h:BrOk n x){q:Int}(hq:0<=q/\q.toNat<n)(k p:Int)(β:Nat->Bool) : lB n (nodB x k p q) β=upB (lB n x β) q.toNat (β x.d.ns.length):=by
 funext j
 simp only [lB,upB]
 by_cases hj:j<n
 ·rw [Q4 hj,Q4 hj]
  show β (((x.la.set q.toNat (x.d.ns.length:Int)).getD j 0).toNat)=_
  rw [X4t]
  by_cases e:j=q.toNat
  ·rw [Q4 e,Q4 ⟨e.symm,by rw [h.la];omega⟩,Qj]
  ·rw [Q3 e,Q3 fun h2=>e h2.1.symm]
 ·rw [Q3 hj,Q3 hj,Q3 Z]
theorem Xtl{n:Nat}{x:Br}(h:BrOk n x){k:Nat}(hk:x.d.ns.length<=k)(β:Nat->Bool)(t:Bool) : lB n x (upB β k t)=lB n x β:=by
 funext j
 unfold lB
 by_cases hj:j<n
 ·rw [Q4 hj,Q4 hj]
  have:=Xex h hj
  exact X4h Z
 ·rw [Q3 hj,Q3 hj]
theorem Xe5{n:Nat}{x:Br}{q:Int}(hq:q.toNat<n)(β:Nat->Bool) : lB n x β q.toNat=β (x.la.getD q.toNat 0).toNat:=by unfold lB;rw [Q4 hq]
theorem Xo2:∀ (l:List Nat) {G H:(Nat->Bool)->Rg} (β:Nat->Bool),(∀ γ,(∀ k,k ∉ l->γ k=β k)->G γ=H γ)->zL l G β=zL l H β
 | [],_,_,β,h=>h β fun _ _=>rfl
 | i::l,G,H,β,h=>by
  unfold zL
  have key:∀ t,zL l G (upB β i t)=zL l H (upB β i t):=fun t=>Xo2 l _ fun γ hγ=>h γ fun k hk=>by
   have h1:=hγ k fun hm=>hk (by simp [hm])
   rw [h1]
   exact X4h fun e=>hk (by simp [e])
  rw [key,key]
theorem Xtp(b:Bool) : nf ⟨3,0⟩ b=1:=by cases b<;>rfl
theorem Y4i(p:Int)(b:Bool) : nf ⟨2,p⟩ b=1:=by unfold nf;rfl
theorem Xwi(u:Bool)(x:Bool->Rg) : gf false u false*x false+gf false u true*x true=x u:=by
 cases u
 ·show 1*x false+0*x true=x false
  rw [Xk,X0c,X0l]
 ·show 0*x false+1*x true=x true
  rw [Xk,X0c,X14]
theorem Xng{n:Nat}{x:Br}(h:BrOk n x)(hg:BrG x){q:Int}(hq:0<=q/\q.toNat<n)(w:St)(β:Nat->Bool) : semB n (nodB x 3 0 q) w β=semB n x w β:=by
 have hN:x.d.ns.length ∉ spS x.d.ns:=fun hm=>by have:=Xnp hm;omega
 have hla:=h.at hq
 unfold semB
 rw [show (nodB x 3 0 q).d.ns=x.d.ns++[⟨3,0⟩] from O,Xi3,show (if ((⟨3,0⟩ : Nd).k==3)=true then [x.d.ns.length] else [])=[x.d.ns.length] from O,Xij List.perm_append_comm]
 show zL (x.d.ns.length::spS x.d.ns) _ β=_
 rw [Xo3 _ _ _ hN]
 refine X36 _ _ fun γ=>?_
 unfold gB
 rw [Xf8,Xf8,Xfj h hq,Xfj h hq,Xku hg (Qb _),Xku hg (Qb _),Xtl h (Qb _),Xtl h (Qb _),X8q,X8q,Xtp,Xtp,X4h Z,X4h Z,Xk]
 rw [<- Xe5 (x:=x) hq.2 γ]
 generalize lB n x γ=L
 generalize fD x.d γ=F
 show gf (x.hd.getD q.toNat false) (L q.toNat) false*F*hT (x.hd.set q.toNat false) 0 w (upB L q.toNat false)+gf (x.hd.getD q.toNat false) (L q.toNat) true*F*hT (x.hd.set q.toNat false) 0 w (upB L q.toNat true)=F*hT x.hd 0 w L
 cases hh:x.hd.getD q.toNat false
 ·rw [X67 hh (by rw [h.hd];omega)]
  have:=Xwi (L q.toNat) fun t=>F*hT x.hd 0 w (upB L q.toNat t)
  rw [Xe,Xe,this,X6u L _ rfl]
 ·rw [X9z x.hd 0 q.toNat w hh,Nat.zero_add]
  unfold hadW
  rw [X16]
  congr 1<;>simp only [Xe,X07,Xb]
theorem Xnh{n:Nat}{x:Br}(h:BrOk n x){q:Int}(hq:0<=q/\q.toNat<n)(p:Int)(w:St)(β:Nat->Bool) : semB n (nodB x 2 p q) w β=semB n x (fun b=>gf false (b q.toNat) (β x.d.ns.length)*w b) β:=by
 have hN:x.d.ns.length ∉ spS x.d.ns:=fun hm=>by have:=Xnp hm;omega
 unfold semB
 rw [show (nodB x 2 p q).d.ns=x.d.ns++[⟨2,p⟩] from O,Xi3,show (if ((⟨2,p⟩ : Nd).k==3)=true then [x.d.ns.length] else [])=[] from O,List.append_nil]
 refine Xo2 _ _ fun γ hγ=>?_
 unfold gB
 rw [Xf8,Xfj h hq,Y4i,Xk,<- hγ _ hN,<- Xe5 (x:=x) hq.2 γ]
 generalize lB n x γ=L
 generalize fD x.d γ=F
 generalize γ x.d.ns.length=o
 show gf (x.hd.getD q.toNat false) (L q.toNat) o*F*hT (x.hd.set q.toNat false) 0 w (upB L q.toNat o)=F*hT x.hd 0 (fun b=>gf false (b q.toNat) o*w b) L
 cases hh:x.hd.getD q.toNat false
 ·rw [X67 hh (by rw [h.hd];omega),X8c x.hd 0 (φ:=fun b=>gf false (b q.toNat) o) (fun i hi b t=>by
   rw [X4h fun e=>by rw [Nat.zero_add] at e;rw [<- e] at hi;rw [hh] at hi;cases hi])]
  dsimp only
  by_cases e:L q.toNat=o
  ·rw [X6u L _ e]
   simp only [Xe,X07,Xb]
  ·have e2:gf false (L q.toNat) o=0:=by unfold gf;rw [Q3 O4,Q3 (by simpa using e)]
   rw [e2,X0c,X0c,X0c,X08]
 ·have e3:hT (x.hd.set q.toNat false) 0 (fun b=>gf false (b q.toNat) o*w b)=fun b=>gf false (b q.toNat) o*hT (x.hd.set q.toNat false) 0 w b:=
   X8c (x.hd.set q.toNat false) 0 (φ:=fun b=>gf false (b q.toNat) o) fun i hi b t=>by
    rw [X4h fun e=>by
     rw [Nat.zero_add] at e
     rw [<- e,X2p] at hi
     split at hi
     ·cases hi
     ·rename_i h9
      exact h9 ⟨O,by rw [h.hd];omega⟩]
  rw [X9z x.hd 0 q.toNat _ hh,Nat.zero_add,e3]
  show _=F*(gf true (L q.toNat) false*(gf false (upB L q.toNat false q.toNat) o*hT (x.hd.set q.toNat false) 0 w (upB L q.toNat false))+gf true (L q.toNat) true*(gf false (upB L q.toNat true q.toNat) o*hT (x.hd.set q.toNat false) 0 w (upB L q.toNat true)))
  rw [X8q,X8q]
  cases o
  ·show _=F*(_*(1*_)+_*(0*_))
   rw [Xk,X0c,X08,X0l]
   simp only [Xe,X07,Xb]
  ·show _=F*(_*(0*_)+_*(1*_))
   rw [Xk,X0c,X08,X14]
   simp only [Xe,X07,Xb]
def phW(q:Nat)(m:Int)(w:St) : St:=fun b=>(if b q=true then omZ m else 1)*w b
def czW(p q:Nat)(w:St) : St:=fun b=>gf true (b p) (b q)*w b
theorem Xrq{n:Nat}{x:Br}{q:Int}(hq:0<=q/\q.toNat<n)(hs:spI x.d.ns (x.la.getD q.toNat 0)=true)(hh:x.hd.getD q.toNat false=false)(m:Int)(w:St)(β:Nat->Bool) : semB n { x with d:={ x.d with ns:=adN x.d.ns (x.la.getD q.toNat 0) m } } w β=semB n x (phW q.toNat m w) β:=by
 unfold semB
 show zL (spS (adN x.d.ns (x.la.getD q.toNat 0) m)) _ β=_
 rw [Xxp]
 refine X36 _ _ fun γ=>?_
 unfold gB phW
 rw [X8c x.hd 0 (φ:=fun b=>if b q.toNat=true then omZ m else 1) fun i hi b t=>by
  rw [X4h fun e=>by rw [Nat.zero_add] at e;rw [<- e,hh] at hi;cases hi]]
 dsimp only
 rw [Xe5 hq.2]
 unfold fD
 dsimp only
 rw [Y1t hs]
 show omZ x.d.t*((if γ (x.la.getD q.toNat 0).toNat=true then omZ m else 1)*nP x.d.ns 0 γ*wP x.d.ws γ)*hT x.hd 0 w (lB n x γ)=_
 simp only [Xe,X07,Xb]
theorem Xhx{n:Nat}{x:Br}{p q:Int}(hp:0<=p/\p.toNat<n)(hq:0<=q/\q.toNat<n)(h1:x.hd.getD p.toNat false=false)(h2:x.hd.getD q.toNat false=false){D:Dg}(hn:D.ns=x.d.ns)(hD:∀ γ,fD D γ=gf true (γ (x.la.getD p.toNat 0).toNat) (γ (x.la.getD q.toNat 0).toNat)*fD x.d γ)(w:St)(β:Nat->Bool) : semB n { x with d:=D } w β=semB n x (czW p.toNat q.toNat w) β:=by
 unfold semB
 show zL (spS D.ns) _ β=_
 rw [hn]
 refine X36 _ _ fun γ=>?_
 unfold gB czW
 rw [X8c x.hd 0 (φ:=fun b=>gf true (b p.toNat) (b q.toNat)) fun i hi b t=>by
  have hne:∀ r:Nat,x.hd.getD r false=false->r≠0+i:=fun r hr e=>by
   rw [Nat.zero_add] at e
   rw [<- e,hr] at hi
   cases hi
  rw [X4h (hne _ h1),X4h (hne _ h2)]]
 dsimp only
 rw [Xe5 hp.2,Xe5 hq.2,hD]
 show _*hT x.hd 0 w (lB n x γ)=_
 simp only [Xe,X07,Xb]
theorem Xne{n:Nat}{x:Br}{q:Int}(hq:q.toNat<x.hd.length)(hh:x.hd.getD q.toNat false=false)(w:St)(β:Nat->Bool) : semB n (flpB x q) w β=semB n x (hadW q.toNat w) β:=by
 unfold semB
 refine X36 _ _ fun γ=>?_
 unfold gB flpB
 dsimp only
 rw [hh]
 show fD x.d γ*hT (x.hd.set q.toNat true) 0 w (lB n x γ)=_
 rw [Xlf x.hd 0 q.toNat w hq hh,Nat.zero_add]
theorem Xnf{n:Nat}{x:Br}{q:Int}(hq:q.toNat<x.hd.length)(hh:x.hd.getD q.toNat false=true)(w:St)(β:Nat->Bool) : s2^2*semB n (flpB x q) w β=semB n x (hadW q.toNat w) β:=by
 unfold semB
 rw [<- Xd5]
 refine X36 _ _ fun γ=>?_
 unfold gB flpB
 dsimp only
 rw [hh]
 have e:(x.hd.set q.toNat false).set q.toNat true=x.hd:=by rw [List.set_set,X67 hh hq]
 have e2:=Xlf (x.hd.set q.toNat false) 0 q.toNat (hadW q.toNat w) (by rw [List.length_set];exact hq) (by rw [X2p,Q4 ⟨rfl,hq⟩])
 rw [e,Nat.zero_add,Y1m,Xcc] at e2
 rw [e2]
 show s2^2*(fD x.d γ*hT (x.hd.set q.toNat false) 0 w (lB n x γ))=fD x.d γ*(s2^2*hT (x.hd.set q.toNat false) 0 w (lB n x γ))
 rw [Xb]
theorem Xrr{n:Nat}{x:Br}{k:Int}(hk:wr (x.d.t+k)=x.d.t+k)(w:St)(β:Nat->Bool) : semB n (tnB x k) w β=semB n x (fun b=>omZ k*w b) β:=by
 unfold semB
 refine X36 _ _ fun γ=>?_
 unfold gB tnB
 dsimp only
 rw [Xcc]
 unfold fD
 dsimp only
 rw [hk,X6p]
 show _*hT x.hd 0 w (lB n x γ)=_
 simp only [Xe,X07,Xb]
theorem Xwt{n:Nat}{x:Br}(h:BrOk n x){a c:Int}(ha:0<=a/\a.toNat<n)(hc:0<=c/\c.toNat<n)(β:Nat->Bool) : lB n (swpB x a c) β=swB a.toNat c.toNat (lB n x β):=by
 funext j
 simp only [lB,swB]
 by_cases hj:j<n
 ·rw [Q4 hj]
  show β (((x.la.set a.toNat (x.la.getD c.toNat 0)).set c.toNat (x.la.getD a.toNat 0)).getD j 0).toNat=_
  rw [X4t,X4t,List.length_set,h.la]
  by_cases e1:j=a.toNat
  ·rw [Q4 e1,Q4 hc.2]
   by_cases e2:c.toNat=j
   ·rw [Q4 ⟨e2,hc.2⟩,e2,<- e1]
   ·rw [Q3 fun h9=>e2 h9.1,Q4 ⟨e1.symm,ha.2⟩]
  ·rw [Q3 e1]
   by_cases e2:j=c.toNat
   ·rw [Q4 ⟨e2.symm,hc.2⟩,Q4 e2,Q4 ha.2]
   ·rw [Q3 fun h9=>e2 h9.1.symm,Q3 fun h9=>e1 h9.1.symm,Q3 e2,Q4 hj]
 ·rw [Q3 hj,Q3 Z,Q3 Z,Q3 hj]
theorem Xni{n:Nat}{x:Br}(h:BrOk n x){a c:Int}(ha:0<=a/\a.toNat<n)(hc:0<=c/\c.toNat<n)(hac:a≠c)(w:St)(β:Nat->Bool) : semB n (swpB x a c) w β=semB n x (fun b=>w (swB a.toNat c.toNat b)) β:=by
 unfold semB
 refine X36 _ _ fun γ=>?_
 unfold gB
 rw [Xwt h ha hc,Xr6 Z (by rw [h.hd];omega) (by rw [h.hd];omega)]
 rfl
def cF(l:List Bool) : Int:=((l.filter id).length:Int)
theorem X7f(x:Bool)(l:List Bool) : cF (x::l)=(if x=true then 1 else 0)+cF l:=by grind [cF]
theorem Y0r(l:List Bool) : 0<=cF l:=by unfold cF;omega
theorem X9l:∀ (l:List Bool) (q:Nat) (v:Bool),q<l.length->cF (l.set q v)+(if l.getD q false=true then 1 else 0)=cF l+(if v=true then 1 else 0)
 | [],_,_,h=>by simp at h
 | x::l,0,v,_=>by
  show cF (v::l)+(if x=true then 1 else 0)=cF (x::l)+_
  rw [X7f,X7f]
  omega
 | x::l,q+1,v,h=>by
  have ih:=X9l l q v (by simpa using h)
  show cF (x::l.set q v)+(if l.getD q false=true then 1 else 0)=cF (x::l)+_
  rw [X7f,X7f]
  omega
def BrH(n:Nat)(x:Br) : Prop:=∀ w ∈ x.d.ws,∀ p q:Nat,p<n->q<n->w.a=x.la.getD p 0->w.b=x.la.getD q 0->w.h=true
structure BrF (n m e:Nat) (x:Br) : Prop where
 a:BrA n x
 h:BrH n x
 r:-(m:Int)<=x.d.r/\x.d.r<=m
 t:0<=x.d.t/\x.d.t<=2*(m:Int)
 z:0<=exD x.d
 e:(e:Int)=exD x.d+cF x.hd
theorem BrF.mono{n m m' e:Nat}{x:Br}(h:BrF n m e x)(hm:m<=m') : BrF n m' e x:=⟨h.a,h.h,by have:=h.r;omega,by have:=h.t;omega,h.z,h.e⟩
theorem Y1y{n:Nat}{x:Br}(ha:BrA n x)(h:BrH n x){q:Int}(hq:0<=q/\q.toNat<n)(k p:Int) : BrH n (nodB x k p q):=by
 intro w hw i j hi hj ea eb;have hN:=Xex ha.ok hq.2;have hlen:=ha.ok.la
 have ea:w.a=(x.la.set q.toNat (x.d.ns.length:Int)).getD i 0:=ea
 have eb:w.b=(x.la.set q.toNat (x.d.ns.length:Int)).getD j 0:=eb
 rw [X4t] at ea eb
 rcases Xa1.1 hw with rfl|hw
 ·exfalso
  dsimp only at ea eb
  have hi2:=Xex ha.ok hi
  split at ea
  ·omega
  ·rename_i h9
   have:=ha.l.1 q.toNat i hq.2 hi Z
   omega
 ·have hr:=ha.s.2 w hw
  split at ea
  ·omega
  ·split at eb
   ·omega
   ·exact h w hw i j hi hj ea eb
theorem Xvo(x:Br)(k p q:Int) : exD (nodB x k p q).d=(if x.hd.getD q.toNat false=true then 1 else 0)+exD x.d:=by
 unfold exD
 show hdN (jnW _ _ _ _)-x.d.r=_
 rw [Xaz]
 omega
theorem Xtr{n m e:Nat}{x:Br}(h:BrF n m e x){k p q:Int}(hq:0<=q/\q.toNat<n)(hp:0<=p/\p<=7) : BrF n m e (nodB x k p q):=by
 have h1:=Xvo x k p q
 have h2:=X9l x.hd q.toNat false (by rw [h.a.ok.hd];exact hq.2)
 have h3:=h.z;have h4:=h.e
 have h5:0<=exD (nodB x k p q).d/\exD (nodB x k p q).d+cF (x.hd.set q.toNat false)=exD x.d+cF x.hd:=by
  cases hh:x.hd.getD q.toNat false
  ·rw [hh] at h1 h2
   simp only [Bool.false_eq_true,if_false] at h1 h2
   omega
  ·rw [hh] at h1 h2
   simp only [Bool.false_eq_true,if_false,if_true] at h1 h2
   omega
 refine ⟨⟨X77 h.a.ok hp,Xho h.a.ok h.a.s hq,Xmg h.a.ok h.a.l hq⟩,Y1y h.a h.h hq k p,h.r,h.t,h5.1,?_⟩
 show (e:Int)=exD (nodB x k p q).d+cF (x.hd.set q.toNat false)
 omega
theorem Xfn{n m e:Nat}{x:Br}(h:BrF n m e x){q:Int}(hq:0<=q/\q.toNat<n) : BrF n m e (plcB x q)/\∀ w β,semB n (plcB x q) w β=semB n x w β:=by
 unfold plcB
 split
 ·exact ⟨Xtr h hq O4,fun w β=>Xng h.a.ok h.a.s.2 hq w β⟩
 ·exact ⟨h,fun _ _=>rfl⟩
theorem Xfo{n:Nat}{x:Br}(h:BrOk n x){q:Int}(hq:0<=q/\q.toNat<n) : (plcB x q).hd.getD q.toNat false=false:=by
 unfold plcB
 split
 ·show (x.hd.set q.toNat false).getD q.toNat false=false
  rw [X2p,Q4 ⟨O,by rw [h.hd];exact hq.2⟩]
 ·rename_i h9
  rw [Bool.not_eq_true,Bool.or_eq_false_iff] at h9
  exact h9.1
theorem Xxe{x:Br}{q:Int}{p:Nat}(h:p≠q.toNat) : (plcB x q).hd.getD p false=x.hd.getD p false:=by
 unfold plcB
 split
 ·show (x.hd.set q.toNat false).getD p false=_
  rw [X2p,Q3 fun h2=>h h2.1.symm]
 ·rfl
theorem Xmx{n:Nat}{x:Br}(h:BrOk n x){q:Int}(hq:0<=q/\q.toNat<n) : spI (plcB x q).d.ns ((plcB x q).la.getD q.toNat 0)=true:=by
 have hN:=Xex h hq.2
 unfold plcB
 split
 ·show spI (x.d.ns++[⟨3,0⟩]) ((x.la.set q.toNat (x.d.ns.length:Int)).getD q.toNat 0)=true
  rw [X4t,Q4 ⟨O,by rw [h.la];exact hq.2⟩]
  unfold spI
  rw [Qj,X9i,X0o.2 ⟨by omega,by rw [Qh,List.length_singleton];omega⟩]
  rfl
 ·rename_i h9
  rw [Bool.not_eq_true,Bool.or_eq_false_iff] at h9
  unfold spI
  rw [X0o.2 ⟨by omega,by omega⟩]
  simpa using h9.2
theorem Xif{n m e:Nat}{x:Br}(h:BrF n m e x){q:Int}(hq:0<=q/\q.toNat<n)(u:Int) : BrF n m e (trnB x q u)/\∀ w β,semB n (trnB x q u) w β=semB n x (phW q.toNat u w) β:=by
 have hp:=Xfn h hq
 refine ⟨⟨⟨X4f h.a.ok _ _,Xba h.a.ok h.a.s hq _,Xeu h.a.ok h.a.l hq _⟩,hp.1.h,hp.1.r,hp.1.t,hp.1.z,hp.1.e⟩,fun w β=>?_⟩
 rw [<- hp.2]
 exact Xrq hq (Xmx h.a.ok hq) (Xfo h.a.ok hq) u w β
theorem Xta{n:Nat}{x:Br}(h:BrA n x)(q:Int) : BrA n (flpB x q):=⟨X20 h.ok q,h.s,h.l⟩
theorem X9v{n m e:Nat}{x:Br}(h:BrF n m e x){q:Int}(hq:0<=q/\q.toNat<n) : ∃ e',BrF n m e' (flpB x q)/\∀ w β,s2^(e+1)*semB n (flpB x q) w β=s2^e'*semB n x (hadW q.toNat w) β:=by
 have hl:q.toNat<x.hd.length:=by rw [h.a.ok.hd];exact hq.2
 have h2:=X9l x.hd q.toNat (!(x.hd.getD q.toNat false)) hl;have h3:=h.e;have hx:=h.z
 cases hh:x.hd.getD q.toNat false with
 | false=>
  rw [hh] at h2
  simp only [Bool.not_false,if_true,Bool.false_eq_true,if_false] at h2
  refine ⟨e+1,⟨Xta h.a q,h.h,h.r,h.t,h.z,?_⟩,fun w β=>by rw [Xne hl hh]⟩
  show ((e+1:Nat) : Int)=exD x.d+cF (x.hd.set q.toNat (!(x.hd.getD q.toNat false)))
  rw [hh]
  simp only [Bool.not_false]
  omega
 | true=>
  rw [hh] at h2
  simp only [Bool.not_true,if_true,Bool.false_eq_true,if_false] at h2
  have h4:=Y0r (x.hd.set q.toNat false)
  obtain ⟨e0,rfl⟩ : ∃ e0,e=e0+1:=⟨e-1,by omega⟩
  refine ⟨e0,⟨Xta h.a q,h.h,h.r,h.t,h.z,?_⟩,fun w β=>by rw [<- Xnf hl hh,<- Xe,<- X2r]⟩
  show ((e0:Nat) : Int)=exD x.d+cF (x.hd.set q.toNat (!(x.hd.getD q.toNat false)))
  rw [hh]
  simp only [Bool.not_true]
  omega
theorem Y1i(u v:Bool)(z:Rg) : gf true u v*(gf true u v*z)=z:=by
 rw [<- Xe,show gf true u v*gf true u v=1 by cases u<;>cases v<;>decide,Xk]
theorem Xvp{d:Dg}{u v:Bool}{ws:List Wr}{r:Int}{γ:Nat->Bool}(h:wP d.ws γ=gf true u v*wP ws γ) : fD { d with ws:=ws,r:=r } γ=gf true u v*fD d γ:=by
 unfold fD
 dsimp only
 rw [h]
 generalize omZ d.t=T
 generalize nP d.ns 0 γ=N
 generalize wP ws γ=P
 have e:∀ g:Rg,g*(T*(N*(g*P)))=g*(g*(T*(N*P))):=fun g=>by simp only [Xe,X07,Xb]
 rw [e,Y1i]
theorem Xph{d:Dg}{a b:Int}{r:Int}{γ:Nat->Bool} : fD { d with ws:=jnW d.ws a b true,r:=r } γ=gf true (γ a.toNat) (γ b.toNat)*fD d γ:=by
 unfold fD
 dsimp only
 rw [Xu8,Xb (nP d.ns 0 γ),Xb (omZ d.t)]
def czY(y:Br)(a b:Int) : Br:=if 0<=fdW y.d.ws a b then { y with d:={ y.d with ws:=ctW y.d.ws (fdW y.d.ws a b).toNat,r:=wr (y.d.r-1) } } else { y with d:={ y.d with ws:=jnW y.d.ws a b true,r:=wr (y.d.r+1) } }
theorem Xop{n m e:Nat}{y:Br}(h:BrF n m e y)(hm:m<=1000){p q:Int}(hp:0<=p/\p.toNat<n)(hq:0<=q/\q.toNat<n)(f1:y.hd.getD p.toNat false=false)(f2:y.hd.getD q.toNat false=false){a b:Int}(ha:y.la.getD p.toNat 0=a)(hb:y.la.getD q.toNat 0=b)(hA:BrA n (czY y a b)) : BrF n (m+1) e (czY y a b)/\∀ w β,semB n (czY y a b) w β=semB n y (czW p.toNat q.toNat w) β:=by
 have hr:=h.r;have ht:=h.t;have hx:=h.z;have he:=h.e
 have e1:wr (y.d.r-1)=y.d.r-1:=X0v Z Z
 have e2:wr (y.d.r+1)=y.d.r+1:=X0v Z Z
 unfold czY at hA ⊢
 by_cases hf:0<=fdW y.d.ws a b
 ·rw [Q4 hf] at hA ⊢
  obtain ⟨w9,k1,k2,_⟩:=Xt7 hf
  have hw9:w9.h=true:=by
   have h9:=X7r.1 k2
   rcases Int.le_total a b with hle|hle
   ·exact h.h w9 (Qe k1) p.toNat q.toNat hp.2 hq.2 Z Z
   ·exact h.h w9 (Qe k1) q.toNat p.toNat hq.2 hp.2 Z Z
  have hc:=Xtg k1
  rw [hw9,Q4 rfl] at hc
  refine ⟨⟨hA,fun w hw i j hi hj ea eb=>h.h w ((X89 _ _).subset hw) i j hi hj ea eb,by dsimp only;omega,by dsimp only;omega,?_,?_⟩,fun w β=>?_⟩
  ·unfold exD at hx ⊢
   dsimp only
   omega
  ·unfold exD at he ⊢
   dsimp only
   omega
  ·refine Xhx (x:=y) (D:={ y.d with ws:=ctW y.d.ws (fdW y.d.ws a b).toNat,r:=wr (y.d.r-1) }) hp hq f1 f2 O (fun γ=>?_) w β
   have hwp:=Y2t k1 γ
   rw [Y2v k2,hw9] at hwp
   rw [ha,hb]
   exact Xvp hwp
 ·rw [Q3 hf] at hA ⊢
  refine ⟨⟨hA,fun w hw i j hi hj ea eb=>?_,by dsimp only;omega,by dsimp only;omega,?_,?_⟩,fun w β=>?_⟩
  ·rcases Xa1.1 hw with rfl|hw
   ·rfl
   ·exact h.h w hw i j hi hj ea eb
  ·unfold exD at hx ⊢
   dsimp only
   rw [Xaz,Q4 rfl]
   omega
  ·unfold exD at he ⊢
   dsimp only
   rw [Xaz,Q4 rfl]
   omega
  ·refine Xhx (x:=y) (D:={ y.d with ws:=jnW y.d.ws a b true,r:=wr (y.d.r+1) }) hp hq f1 f2 O (fun γ=>?_) w β
   rw [ha,hb]
   exact Xph
theorem Xt3{n m e:Nat}{x:Br}(h:BrF n m e x)(hm:m<=1000){p q:Int}(hp:0<=p/\p.toNat<n)(hq:0<=q/\q.toNat<n)(hpq:p≠q) : BrF n (m+1) e (czB x p q)/\∀ w β,semB n (czB x p q) w β=semB n x (czW p.toNat q.toNat w) β:=by
 have hp1:=Xfn h hp;have hp2:=Xfn hp1.1 hq
 have hpn:p.toNat≠q.toNat:=by omega
 have hla:=Xfp (x:=plcB x p) hpn
 have f1:(plcB (plcB x p) q).hd.getD p.toNat false=false:=(Xxe hpn).trans (Xfo h.a.ok hp)
 have f2:(plcB (plcB x p) q).hd.getD q.toNat false=false:=Xfo hp1.1.a.ok hq
 have hA:BrA n (czB x p q):=⟨Xk7 h.a.ok _ _,Xuw h.a.ok h.a.s hp hq,Xuv h.a.ok h.a.l hp hq hpq⟩
 have hc:czB x p q=czY (plcB (plcB x p) q) ((plcB x p).la.getD p.toNat 0) ((plcB (plcB x p) q).la.getD q.toNat 0):=rfl
 rw [hc] at hA ⊢
 have hk:=Xop hp2.1 hm hp hq f1 f2 hla O hA;exact ⟨hk.1,fun w β=>(hk.2 w β).trans ((hp2.2 _ β).trans (hp1.2 _ β))⟩
theorem Y2m{n m e:Nat}{x:Br}(h:BrF n m e x)(hm:m<=1000){k:Int}(hk:0<=k/\k<=2) : BrF n (m+1) e (tnB x k)/\∀ w β,semB n (tnB x k) w β=semB n x (fun b=>omZ k*w b) β:=by
 have ht:=h.t;have hr:=h.r
 have e1:wr (x.d.t+k)=x.d.t+k:=X0v Z Z
 refine ⟨⟨⟨Xnu h.a.ok k,h.a.s,h.a.l⟩,h.h,?_,?_,h.z,h.e⟩,fun w β=>Xrr e1 w β⟩
 ·show _<=x.d.r/\x.d.r<=_
  omega
 ·show 0<=wr (x.d.t+k)/\wr (x.d.t+k)<=_
  omega
theorem Y2k{n m e:Nat}{x:Br}(h:BrF n m e x){a c:Int}(ha:0<=a/\a.toNat<n)(hc:0<=c/\c.toNat<n)(hac:a≠c) : BrF n m e (swpB x a c)/\∀ w β,semB n (swpB x a c) w β=semB n x (fun b=>w (swB a.toNat c.toNat b)) β:=by
 have hlen:=h.a.ok.la
 have key:∀ p,p<n->∃ p',p'<n/\(swpB x a c).la.getD p 0=x.la.getD p' 0:=fun p hp=>by
  refine ⟨if p=c.toNat then a.toNat else if p=a.toNat then c.toNat else p,by split;omega;split<;>omega,?_⟩
  show ((x.la.set a.toNat (x.la.getD c.toNat 0)).set c.toNat (x.la.getD a.toNat 0)).getD p 0=_
  rw [X4t,X4t,List.length_set]
  by_cases h1:p=c.toNat
  ·rw [Q4 ⟨h1.symm,by omega⟩,Q4 h1]
  ·rw [Q3 (fun h9=>h1 h9.1.symm),Q3 h1]
   by_cases h2:p=a.toNat
   ·rw [Q4 ⟨h2.symm,by omega⟩,Q4 h2]
   ·rw [Q3 (fun h9=>h2 h9.1.symm),Q3 h2]
 refine ⟨⟨⟨Xnr h.a.ok ha hc,h.a.s,Xu6 h.a.ok h.a.l ha hc⟩,fun w hw i j hi hj ea eb=>?_,h.r,h.t,h.z,?_⟩,fun w β=>Xni h.a.ok ha hc hac w β⟩
 ·obtain ⟨i',hi',ei⟩:=key i hi;obtain ⟨j',hj',ej⟩:=key j hj;exact h.h w hw i' j' hi' hj' (ea.trans ei) (eb.trans ej)
 ·have h3:=h.e;have hhd:=h.a.ok.hd
  have c1:=X9l x.hd a.toNat (x.hd.getD c.toNat false) Z
  have c2:=X9l (x.hd.set a.toNat (x.hd.getD c.toNat false)) c.toNat (x.hd.getD a.toNat false) O9
  have hne:¬ a.toNat=c.toNat:=by omega
  have g2:(x.hd.set a.toNat (x.hd.getD c.toNat false)).getD c.toNat false=x.hd.getD c.toNat false:=by rw [X2p,Q3 (fun h9=>hne h9.1)]
  rw [g2] at c2
  generalize (if x.hd.getD a.toNat false=true then (1:Int) else 0)=u at c1 c2
  generalize (if x.hd.getD c.toNat false=true then (1:Int) else 0)=v at c1 c2
  show (e:Int)=exD x.d+cF ((x.hd.set a.toNat (x.hd.getD c.toNat false)).set c.toNat (x.hd.getD a.toNat false))
  omega
theorem Xtf(u c:Bool)(x y:Rg) : gf true u false*(gf true c false*(gf true false false*x+gf true false true*y))+gf true u true*(gf true c true*(gf true true false*x+gf true true true*y))=(1+1)*(if (u != c)=true then y else x):=by
 cases c
 ·have h:∀ s z,gf true false s*z=z:=fun s z=>by rw [show gf true false s=1 by cases s<;>rfl,Xk]
  rw [h false (gf true false false*x+gf true false true*y),h true (gf true true false*x+gf true true true*y),Xtc]
  cases u<;>rfl
 ·cases u
  ·show 1*(1*(1*x+1*y))+1*(omZ 4*(1*x+omZ 4*y))=(1+1)*y
   simp only [Xk,X1s,X16,Xmp]
   rw [show x+y+(omZ 4*x+y)=y+y+(x+omZ 4*x) by simp only [X0k,X0a,X13],Xhq,X0l]
  ·show 1*(1*(1*x+1*y))+omZ 4*(omZ 4*(1*x+omZ 4*y))=(1+1)*x
   rw [Xmp]
   simp only [Xk,X1s]
   rw [show x+y+(x+omZ 4*y)=x+x+(y+omZ 4*y) by simp only [X0k,X0a],Xhq,X0l]
theorem Xu7(w:St)(b:Nat->Bool)(q:Nat)(c:Bool) : (if (b q != c)=true then w (upB b q true) else w (upB b q false))=w (if c=true then flipB b q else b):=by
 cases c
 ·rw [Q3 (by decide:¬ false=true),Bool.bne_false]
  exact Y2u w b q
 ·rw [Q4 O,Xhd]
  cases h:b q<;>rfl
theorem Xlh(q:Nat)(w:St) : hadW q (phW q 4 (hadW q w))=fun b=>s2^2*w (flipB b q):=by
 funext b
 have h:=Xtf (b q) true (w (upB b q false)) (w (upB b q true))
 have e:∀ v,phW q 4 v=fun b=>gf true true (b q)*v b:=fun v=>by
  funext b
  unfold phW
  cases b q<;>rfl
 rw [e]
 simp only [hadW,X8q,Xnx]
 rw [h,Xu7,Q4 O,Xfx]
theorem Xwm{p q:Nat}(hpq:p≠q)(w:St) : hadW q (czW p q (hadW q w))=fun b=>s2^2*w (if b p=true then flipB b q else b):=by
 funext b
 have h:=Xtf (b q) (b p) (w (upB b q false)) (w (upB b q true))
 simp only [hadW,czW,X8q,Xnx,X4h (β:=b) (k:=q) hpq]
 rw [h,Xu7,Xfx]
theorem X8g{n:Nat}{x:Br}(c:Rg)(w:St)(β:Nat->Bool) : semB n x (fun b=>c*w b) β=c*semB n x w β:=by
 unfold semB
 rw [<- Xd5]
 refine X36 _ _ fun γ=>?_
 unfold gB
 rw [Xcc]
 rw [Xb]
theorem Xcd{e e1 e3:Nat}{P Q R T:Rg}(h1:s2^(e+1)*P=s2^e1*Q)(h3:s2^(e1+1)*R=s2^e3*P)(hQ:Q=s2^2*T) : s2^e*R=s2^e3*T:=by
 apply X3j (e1+2)
 have k1:s2^(e1+2)*(s2^e*R)=s2^(e+1)*(s2^(e1+1)*R):=by
  rw [<- Xe,<- Xe,<- X2r,<- X2r,show e1+2+e=e+1+(e1+1) by omega]
 have k2:s2^(e1+2)*(s2^e3*T)=s2^e3*(s2^e1*(s2^2*T)):=by
  rw [X2r]
  simp only [Xe,X07,Xb]
 rw [k1,h3,Xb,h1,hQ,k2]
theorem Y45{n m e:Nat}{x:Br}(h:BrF n m e x)(hm:m<=1000){g:Gt}(hg:gOk (n:Int) g=true) : ∃ e',BrF n (m+1) e' (gtB x g)/\∀ w β,s2^(e+hN g)*semB n (gtB x g) w β=s2^e'*semB n x (tact g w) β:=by
 have ha:=X5x hg;have hb:=X5o hg;have hs:=X2i hg
 cases h1:(g.k==1) with
 | true=>
  have k1:g.k=1:=by simpa using h1
  obtain ⟨e',h2,h3⟩:=X9v h ha
  rw [Xr2 h1,show hN g=1 from Q4 k1]
  refine ⟨e',h2.mono Z,fun w β=>?_⟩
  rw [h3]
  congr 2
  funext b
  rw [Xxr k1]
  unfold hadW
  rw [Xhd]
  cases hb9:b g.a.toNat
  ·rw [X6u b _ hb9]
   rfl
  ·rw [X6u b _ hb9]
   show gf true true false*_+gf true true true*_=u1 1 true true*_+u1 1 true false*_
   rw [X13]
   rfl
 | false=>
 have hN0:hN g=0:=Q3 (by simpa using h1)
 rw [hN0,Nat.add_zero]
 have k1:g.k≠1:=by simpa using h1
 cases h2:(g.k==2) with
 | true=>
  have k2:g.k=2:=by simpa using h2
  rw [Xr3 h1 h2]
  obtain ⟨e1,r1,s1⟩:=X9v h ha;obtain ⟨r2,s3⟩:=Xif r1 ha 4;obtain ⟨e3,r3,s4⟩:=X9v r2 ha
  refine ⟨e3,r3.mono Z,fun w β=>Xcd (s1 _ β) ((s4 w β).trans (by rw [s3])) ?_⟩
  rw [Xlh,X8g]
  congr 2
  funext b
  rw [Xaa,Q3 Z,Xk]
  unfold act
  rw [Q3 Z,Q3 Z,Q3 Z,Q3 Z,k2,(Y2o _).1,(Y2o _).2,X0c,X14,Xk]
 | false=>
 have k2:g.k≠2:=by simpa using h2
 cases h3:(g.k==3) with
 | true=>
  have k3:g.k=3:=by simpa using h3
  rw [Xr4 h1 h2 h3]
  obtain ⟨r1,s1⟩:=Xif h ha 4;obtain ⟨e2,r2,s2'⟩:=X9v r1 ha;obtain ⟨r3,s3⟩:=Xif r2 ha 4;obtain ⟨e4,r4,s4⟩:=X9v r3 ha
  obtain ⟨r5,s5⟩:=Y2m (x:=yyB x g.a) (k:=2) r4 hm O4
  refine ⟨e4,r5,fun w β=>?_⟩
  rw [s5]
  refine Xcd (s2' _ β) ((s4 _ β).trans (by rw [s3])) ?_
  rw [s1,Xlh]
  rw [show phW g.a.toNat 4 (fun b=>s2^2*(omZ 2*w (flipB b g.a.toNat)))=fun b=>s2^2*tact g w b from ?_,X8g]
  funext b
  unfold phW
  rw [Xb]
  congr 1
  have hact:act g w b=(if b g.a.toNat=true then om^2 else om^6)*w (flipB b g.a.toNat):=by
   unfold act
   rw [Q3 Z,Q3 Z,Q3 Z,Q3 Z,k3,(Y2p _).1,(Y2p _).2,X0c,X14]
  rw [Xaa,Q4 k3,hact,<- Xe,<- Xe]
  congr 1
  cases b g.a.toNat<;>decide
 | false=>
 have k3:g.k≠3:=by simpa using h3
 have htact:∀ w,tact g w=act g w:=fun w=>by unfold tact;rw [Q3 k3]
 cases h9:(g.k==9) with
 | true=>
  have k9:g.k=9:=by simpa using h9
  have hab:=(hs.2.2.2 Z).2.2
  rw [Xr5 h1 h2 h3 h9]
  obtain ⟨e1,r1,s1⟩:=X9v h hb;obtain ⟨r2,s3⟩:=Xt3 r1 hm ha hb hab;obtain ⟨e3,r3,s4⟩:=X9v r2 hb
  refine ⟨e3,r3,fun w β=>Xcd (s1 _ β) ((s4 w β).trans (by rw [s3])) ?_⟩
  rw [Xwm Z,X8g,htact]
  congr 2
  funext b
  have hact:act g w b=w (if b g.a.toNat=true then flipB b g.b.toNat else b):=by
   unfold act
   rw [Q3 Z,Q4 k9]
  exact hact.symm
 | false=>
 have k9:g.k≠9:=by simpa using h9
 cases h10:(g.k==10) with
 | true=>
  have k10:g.k=10:=by simpa using h10
  have hab:=(hs.2.2.2 Z).2.2
  rw [Xhf h1 h2 h3 h9 h10]
  obtain ⟨r2,s3⟩:=Xt3 h hm ha hb hab
  refine ⟨e,r2,fun w β=>?_⟩
  rw [s3,htact]
  congr 2
  funext b
  unfold act
  rw [Q3 Z,Q3 k9,Q4 k10]
  rfl
 | false=>
 have k10:g.k≠10:=by simpa using h10
 cases h11:(g.k==11) with
 | true=>
  have k11:g.k=11:=by simpa using h11
  have hab:=(hs.2.2.2 Z).2.2
  rw [Xhg h1 h2 h3 h9 h10 h11]
  obtain ⟨r2,s3⟩:=Y2k h ha hb hab
  refine ⟨e,r2.mono Z,fun w β=>?_⟩
  rw [s3,htact]
  congr 2
  funext b
  unfold act
  rw [Q3 Z,Q3 k9,Q3 k10,Q4 k11]
  congr 1
  have hne:g.a.toNat≠g.b.toNat:=by omega
  funext q
  unfold swB
  split
  ·rename_i e9
   subst e9
   split
   ·rename_i e8;exact e8.symm
   ·rename_i e8
    unfold flipB
    rw [Q3 hne,Q4 rfl]
    cases hx:b g.a.toNat<;>cases hy:b g.b.toNat<;>simp_all
  ·rename_i e9
   split
   ·rename_i e8
    subst e8
    split
    ·rename_i e7;exact e7
    ·rename_i e7
     unfold flipB
     rw [Q4 O,Q3 (fun h=>hne h.symm)]
     cases hx:b g.a.toNat<;>cases hy:b g.b.toNat<;>simp_all
   ·rename_i e8
    split
    ·rfl
    ·unfold flipB
     rw [Q3 e8,Q3 e9]
 | false=>
 have k11:g.k≠11:=by simpa using h11
 cases h12:(g.k==12) with
 | true=>
  have k12:g.k=12:=by simpa using h12
  rw [Xhh h1 h2 h3 h9 h10 h11 h12]
  obtain ⟨r2,s3⟩:=Y2m h hm (k:=1) O4
  refine ⟨e,r2,fun w β=>?_⟩
  rw [s3,htact]
  congr 2
  funext b
  unfold act
  rw [Q4 k12]
  rfl
 | false=>
  have k12:g.k≠12:=by simpa using h12
  rw [Xr1 h1 h2 h3 h9 h10 h11 h12]
  obtain ⟨r2,s3⟩:=Xif h ha (rotC g.k)
  refine ⟨e,r2.mono Z,fun w β=>?_⟩
  rw [s3,htact]
  congr 2
  funext b
  have hu:=Y4s (k:=g.k) Z (b g.a.toNat)
  unfold act
  rw [Q3 k12,Q3 k9,Q3 k10,Q3 k11,hu.1,hu.2,X0c,X0l]
  unfold phW
  cases b g.a.toNat
  ·rw [show rotC g.k*(if false=true then (1:Int) else 0)=0 by simp]
   rfl
  ·rw [show rotC g.k*(if true=true then (1:Int) else 0)=rotC g.k by simp]
   rfl
theorem Xl9{n:Nat} : ∀ (l:List Gt) {m e:Nat} {x:Br},BrF n m e x->m+l.length<=1000->(∀ g ∈ l,gOk (n:Int) g=true)->∃ e',BrF n (m+l.length) e' (l.foldl gtB x)/\∀ w β,s2^(e+hs l)*semB n (l.foldl gtB x) w β=s2^e'*semB n x (trun l w) β
 | [],m,e,x,h,_,_=>⟨e,h,fun _ _=>rfl⟩
 | g::l,m,e,x,h,hm,hl=>by
  rw [Qs] at hm ⊢
  obtain ⟨e1,r1,s1⟩:=Y45 h Z (hl g O5)
  obtain ⟨e',r2,s3⟩:=Xl9 l r1 Z fun z hz=>hl z (by simp [hz])
  refine ⟨e',by rw [show m+(l.length+1)=m+1+l.length by omega];exact r2,fun w β=>?_⟩
  apply X3j e1
  have k1:=s1 (trun l w) β
  have k2:=s3 w β
  show s2^e1*(s2^(e+(hN g+hs l))*semB n (l.foldl gtB (gtB x g)) w β)=s2^e1*(s2^e'*semB n x (tact g (trun l w)) β)
  rw [Xb (s2^e1) (s2^e'),<- k1,Xb (s2^e'),<- k2,<- Xe,<- Xe,<- X2r,<- X2r,show e1+(e+(hN g+hs l))=e+hN g+(e1+hs l) by omega]
theorem Xmb:∀ (ns:List Nd) (k:Nat) (β:Nat->Bool),(∀ x ∈ ns,x.k≠3)->nP ns k β=1
 | [],_,_,_=>rfl
 | x::ns,k,β,h=>by
  have h0:=h x O5
  show nf x (β k)*nP ns (k+1) β=1
  rw [Xmb ns (k+1) β fun y hy=>h y (by simp [hy]),X0t]
  unfold nf
  rw [show (x.k==3)=false from by simpa using h0]
  rfl
theorem Xrt{ns:List Nd}(h:∀ x ∈ ns,x.k≠3) : spS ns=[]:=by simp_all [spS]
theorem Xfh:∀ (l:List Bool) (k:Nat) (w:St),(∀ i,i<l.length->l.getD i false=false)->hT l k w=w
 | [],_,_,_=>rfl
 | x::l,k,w,h=>by
  have h0:x=false:=h 0 O5
  subst h0
  show hT l (k+1) w=w
  exact Xfh l (k+1) w fun i hi=>h (i+1) (by simpa using hi)
theorem Xf2:∀ (l:List Bool),(∀ i,i<l.length->l.getD i false=false)->cF l=0
 | [],_=>rfl
 | x::l,h=>by
  have h0:x=false:=h 0 O5
  subst h0
  rw [X7f,Xf2 l fun i hi=>h (i+1) (by simpa using hi)]
  rfl
theorem Xhv(n i:Nat) : (List.replicate n false).getD i false=false:=by grind
theorem Xxj{n i:Nat}(h:i<n) : (ranI n).getD i 0=(i:Int):=by grind [ranI]
theorem Xlm{n i:Nat}(h:i<n) : (inN n).getD i nZ=⟨1,(i:Int)⟩:=by grind [inN,nZ]
theorem Xti(n:Nat) : ∀ x ∈ inN n,x.k≠3:=by simp [inN]
def lwB(n:Nat)(β:Nat->Bool) : Nat->Bool:=fun q=>if q<n then β q else false
theorem Xmi{c:Cx}(hn:1<=c.n/\c.n<=5) : BrF c.n.toNat 0 0 (ofB0 c)/\∀ w β,semB c.n.toNat (ofB0 c) w β=w (lwB c.n.toNat β):=by
 refine ⟨⟨Xmh hn,(fun w hw=>by cases hw),?_,?_,?_,?_⟩,fun w β=>?_⟩
 ·show -((0:Nat) : Int)<=0/\(0:Int)<=((0:Nat) : Int)
  omega
 ·show (0:Int)<=0/\(0:Int)<=2*((0:Nat) : Int)
  omega
 ·show 0<=((([] : List Wr).filter fun w=>w.h).length:Int)-0
  simp
 ·show ((0:Nat) : Int)=((([] : List Wr).filter fun w=>w.h).length:Int)-0+cF (List.replicate c.n.toNat false)
  rw [Xf2 _ fun i _=>Xhv _ i]
  simp
 ·unfold semB
  rw [show spS (ofB0 c).d.ns=[] from Xrt (Xti _)]
  show omZ 0*(nP (inN c.n.toNat) 0 β*1)*hT (List.replicate c.n.toNat false) 0 w (lB c.n.toNat (ofB0 c) β)=_
  rw [Xmb _ _ _ (Xti _),Xfh _ _ _ fun i _=>Xhv _ i,Xec,X0t,Xk]
  rw [Xk]
  congr 1
  funext q
  simp only [lB,lwB]
  by_cases hq:q<c.n.toNat
  ·rw [Q4 hq,Q4 hq]
   show β ((ranI c.n.toNat).getD q 0).toNat=β q
   rw [Xxj hq,Qj]
  ·rw [Q3 hq,Q3 hq]
def BrI(n:Nat)(x:Br) : Prop:=∀ i,i<n->i<x.d.ns.length/\x.d.ns.getD i nZ=⟨1,(i:Int)⟩
theorem Xts{n:Nat}{x:Br}(h:BrI n x)(k p q:Int) : BrI n (nodB x k p q):=by grind [BrI,nodB]
theorem Xmv{n:Nat}{x:Br}(h:BrI n x)(q:Int) : BrI n (plcB x q):=by
 unfold plcB
 split
 ·exact Xts h _ _ _
 ·exact h
theorem Xig{n:Nat}{x:Br}(hk:BrOk n x)(h:BrI n x){q:Int}(hq:0<=q/\q.toNat<n)(m:Int) : BrI n (trnB x q m):=fun i hi=>by
 have h1:=Xmv h q i hi;have h2:=Xi5 (Xmx hk hq)
 refine ⟨?_,?_⟩
 ·show i<(adN _ _ _).length
  rw [X9h];exact h1.1
 ·show (adN (plcB x q).d.ns _ _).getD i nZ=_
  rw [Xoi fun e=>by rw [e,h1.2] at h2;exact absurd h2.2.2 (show ¬ (1:Int)=3 by decide)]
  exact h1.2
theorem Y16{n:Nat}{x:Br}(h:BrI n x)(p q:Int) : BrI n (czB x p q):=by
 have:=Xmv (Xmv h p) q
 unfold czB
 dsimp only
 split<;>exact this
theorem Y47{n:Nat}{x:Br}(hk:BrOk n x)(h:BrI n x){g:Gt}(hg:gOk (n:Int) g=true) : BrI n (gtB x g):=by
 have ha:=X5x hg
 unfold gtB
 split
 ·exact h
 split
 ·exact Xig (x:=flpB x g.a) (X20 hk _) h ha 4
 split
 ·exact Xig (x:=flpB (trnB x g.a 4) g.a) (X20 (X4f hk _ _) _) (Xig hk h ha 4) ha 4
 split
 ·exact Y16 (x:=flpB x g.b) h _ _
 split
 ·exact Y16 h _ _
 split
 ·exact h
 split
 ·exact h
 ·exact Xig hk h ha _
theorem Xfd{n:Nat} : ∀ (l:List Gt) {x:Br},BrOk n x->BrI n x->(∀ g ∈ l,gOk (n:Int) g=true)->BrI n (l.foldl gtB x)
 | [],_,_,h,_=>h
 | g::l,x,hk,h,hl=>Xfd l (Xay hk (hl g O5)) (Y47 hk h (hl g O5)) fun z hz=>hl z (by simp [hz])
def dlt(o:Nat->Bool) : Nat->St
 | 0=>fun _=>1
 | j+1=>fun b=>dlt o j b*gf false (b j) (o j)
theorem Xk9{o b:Nat->Bool} : ∀ n,dlt o n b=if ∀ q,q<n->b q=o q then 1 else 0
 | 0=>by rw [Q4 fun q hq=>by omega];rfl
 | n+1=>by
  show dlt o n b*gf false (b n) (o n)=_
  rw [Xk9 n]
  by_cases h:∀ q,q<n->b q=o q
  ·rw [Q4 h,Xk]
   by_cases h2:b n=o n
   ·rw [Q4 fun q hq=>by rcases W4 q n with h3|h3;exact h q h3;rw [show q=n by omega];exact h2]
    unfold gf
    rw [Q3 O4,Q4 (by simpa using h2)]
   ·rw [Q3 fun h3=>h2 (h3 n Z)]
    unfold gf
    rw [Q3 O4,Q3 (by simpa using h2)]
  ·rw [Q3 h,Q3 fun h3=>h fun q hq=>h3 q Z,X0c]
structure OfK (c:Cx) (m e j:Nat) : Prop where
 f:BrF c.n.toNat m e (ofK c j)
 l:(ofK c j).d.ns.length=(ofK c 0).d.ns.length+j
 h:∀ i,i<j->(ofK c j).hd.getD i false=false
 i:BrI c.n.toNat (ofK c j)
 o:∀ i,i<j->(ofK c j).d.ns.getD ((ofK c 0).d.ns.length+i) nZ=⟨2,(i:Int)⟩
 s:∀ w β,semB c.n.toNat (ofK c j) w β=semB c.n.toNat (ofK c 0) (fun b=>dlt (fun i=>β ((ofK c 0).d.ns.length+i)) j b*w b) β
theorem Xtw{c:Cx}(hn:1<=c.n/\c.n<=5){m e:Nat}(h0:BrF c.n.toNat m e (ofK c 0))(hi:BrI c.n.toNat (ofK c 0)) : ∀ j,j<=c.n.toNat->OfK c m e j
 | 0,_=>⟨h0,rfl,fun i hi=>by omega,hi,fun i hi=>by omega,fun w β=>by
  congr 1
  funext b
  show w b=1*w b
  rw [Xk]⟩
 | j+1,hj=>by
  have ih:=Xtw hn h0 hi j Z
  have hq:0<=(j:Int)/\((j:Int)).toNat<c.n.toNat:=by omega
  have hl:=ih.l
  have e:=X7y c j
  refine ⟨?_,?_,?_,?_,?_,?_⟩
  ·rw [e];exact Xtr ih.f hq Z
  ·rw [e,(X5k _ _ _ _).1];omega
  ·intro i hi
   rw [e]
   show ((ofK c j).hd.set ((j:Int)).toNat false).getD i false=false
   rw [X2p]
   split
   ·rfl
   ·rename_i h9
    refine ih.h i ?_
    have:=ih.f.a.ok.hd
    rcases W4 i j with h8|h8
    ·exact h8
    ·exact absurd ⟨by omega,by omega⟩ h9
  ·rw [e];exact Xts ih.i _ _ _
  ·intro i hi
   rw [e]
   show ((ofK c j).d.ns++[(⟨2,(j:Int)⟩ : Nd)]).getD _ nZ=_
   rcases W4 i j with h8|h8
   ·rw [Xgh _ Z];exact ih.o i h8
   ·rw [show i=j by omega,<- hl,X9i]
  ·intro w β
   rw [e,Xnh ih.f.a.ok hq,ih.s,hl,Qj]
   congr 1
   funext b
   show dlt _ j b*(gf false (b j) (β ((ofK c 0).d.ns.length+j))*w b)=dlt _ j b*gf false (b j) (β ((ofK c 0).d.ns.length+j))*w b
   rw [Xe]
theorem X9m{c:Cx}(hc:cOk c=true) : (1<=c.n/\c.n<=5)/\c.n=((c.n.toNat:Nat) : Int):=by
 obtain ⟨n9,hn9,hn1,hn5⟩:=X6v hc
 omega
theorem Xbn{c:Cx}(hc:cOk c=true) : ∀ g ∈ c.gs,gOk ((c.n.toNat:Nat) : Int) g=true:=fun g hg=>by
 obtain ⟨i,hi⟩:=List.mem_iff_getElem?.1 hg;exact Xaq hc (X9m hc).2 hi
theorem Xrj{c:Cx}(hc:cOk c=true) : ∃ e,OfK c c.gs.length e c.n.toNat/\∀ w β,s2^hs c.gs*semB c.n.toNat (ofK c 0) w β=s2^e*trun c.gs w (lwB c.n.toNat β):=by
 have hn:=X9m hc;have hl:=X7g hc;have h0:=Xmi hn.1
 obtain ⟨e,h1,h2⟩:=Xl9 c.gs h0.1 Z (Xbn hc)
 rw [Nat.zero_add] at h1
 have hi0:BrI c.n.toNat (ofB0 c):=fun i hi=>⟨by show i<(inN c.n.toNat).length;rw [X48];exact hi,Xlm hi⟩
 refine ⟨e,Xtw hn.1 h1 (Xfd c.gs h0.1.a.ok hi0 (Xbn hc)) _ (Qb _),fun w β=>?_⟩
 have:=h2 w β
 rw [h0.2,Nat.zero_add] at this
 exact this
theorem Xx7{c:Cx}(hc:cOk c=true) : ∃ e N:Nat,(e:Int)=exD (ofD c)/\c.n.toNat<=N/\(ofD c).ns.length=N+c.n.toNat/\(∀ i,i<c.n.toNat->(ofD c).ns.getD i nZ=⟨1,(i:Int)⟩/\(ofD c).ns.getD (N+i) nZ=⟨2,(i:Int)⟩)/\
  ∀ β,s2^hs c.gs*smD (ofD c) β=s2^e*trun c.gs (dlt (fun i=>β (N+i)) c.n.toNat) (lwB c.n.toNat β):=by
 obtain ⟨e,hK,hs9⟩:=Xrj hc;have hn:=X9m hc
 have hoff:∀ i,i<(ofK c c.n.toNat).hd.length->(ofK c c.n.toNat).hd.getD i false=false:=fun i hi=>hK.h i (by rw [hK.f.a.ok.hd] at hi;exact hi)
 have he:=hK.f.e
 rw [Xf2 _ hoff] at he
 have hlen:=hK.l
 have hN:c.n.toNat<=(ofK c 0).d.ns.length:=by
  have h0:=(hK.i (c.n.toNat-1) Z)
  have h9:BrI c.n.toNat (ofK c 0):=by
   have hi0:BrI c.n.toNat (ofB0 c):=fun i hi=>⟨by show i<(inN c.n.toNat).length;rw [X48];exact hi,Xlm hi⟩
   exact Xfd c.gs (Xmi hn.1).1.a.ok hi0 (Xbn hc)
  have:=(h9 (c.n.toNat-1) Z).1
  omega
 refine ⟨e,(ofK c 0).d.ns.length,?_,hN,hlen,fun i hi=>⟨(hK.i i hi).2,hK.o i hi⟩,fun β=>?_⟩
 ·show (e:Int)=exD (ofK c c.n.toNat).d
  omega
 ·have h1:smD (ofD c) β=semB c.n.toNat (ofK c c.n.toNat) (fun _=>1) β:=by
   unfold smD semB
   show zL (spS (ofK c c.n.toNat).d.ns) _ β=_
   refine X36 _ _ fun γ=>?_
   unfold gB
   rw [Xfh _ _ _ hoff,X0t]
   show omZ ((ofK c c.n.toNat).d.t.tmod 8)*_=omZ (ofK c c.n.toNat).d.t*_
   rw [Int.tmod_eq_emod_of_nonneg hK.f.t.1,Xa3 (Cg.mod _)]
   rfl
  rw [h1,hK.s,hs9]
  congr 2
  funext b
  rw [X0t]
theorem Xb4(x:Br)(q:Int) : (plcB x q).d.n=x.d.n:=by unfold plcB;split<;>rfl
theorem Y49(x:Br)(g:Gt) : (gtB x g).d.n=x.d.n:=by
 have hcz:∀ y p q,(czB y p q).d.n=y.d.n:=fun y p q=>by
  have:(plcB (plcB y p) q).d.n=y.d.n:=(Xb4 _ _).trans (Xb4 _ _)
  unfold czB
  dsimp only
  split<;>exact this
 unfold gtB
 split
 ·rfl
 split
 ·exact Xb4 (flpB x g.a) g.a
 split
 ·exact (Xb4 (flpB (trnB x g.a 4) g.a) g.a).trans (Xb4 x g.a)
 split
 ·exact hcz (flpB x g.b) g.a g.b
 split
 ·exact hcz _ _ _
 split
 ·rfl
 split
 ·rfl
 ·exact Xb4 x g.a
theorem Y24(c:Cx) : (ofD c).n=c.n:=by
 have h1:∀ (l:List Gt) (x:Br),(l.foldl gtB x).d.n=x.d.n:=fun l=>by
  induction l with
  | nil=>intro x;rfl
  | cons g l ih=>intro x;exact (ih (gtB x g)).trans (Y49 x g)
 have h2:∀ j,(ofK c j).d.n=c.n:=fun j=>by
  induction j with
  | zero=>exact h1 c.gs (ofB0 c)
  | succ j ih=>rw [X7y];exact ih
 exact h2 _
theorem Xzj(E:World)(d:Dg)(md:Nat)(bJ:md=d.ns.length)(Ad:Option Addr)(cd:Nat)(aM:Rd E E.heap.size 64 encNd Ad d.ns)(Bd:Option Addr)(dd:Nat)(aN:Rd E E.heap.size 72 encWr Bd d.ws)(q:d.ws.length<=dd)(Al:Option Addr)(cl:Nat)(l:List Int)(ml:Nat)(B:Rd E E.heap.size 3 encI Al l)(aO:ml=l.length)(hG:goodD d=true)(β:Nat->Bool)(hl:l=bsO β d.ns.length) : Ret Tryz.prog 135 [.agg #[vi d.n,.slice Ad md cd,.slice Bd d.ws.length dd,vi d.t,vi d.r],.slice Al ml cl] E (fun v w=>v=vi (tmL d l)/\Below E.heap.size E w):=by
 subst aO
 have hD:=X3k hG;have bM:=hD.len;have bN:=hD.m;have bO:=(X22 hG).2.2.1
 have bP:l.length=d.ns.length:=by rw [hl];exact X3b _ _
 refine enter Tryz.func135 O 72 O O ?_;intro a f
 have g:=bz E
 refine Zs f fun _ b3=>?_;refine Zf (X0u (zs:=[vi d.n,.slice Ad md cd,.slice Bd d.ws.length dd,vi d.t,vi d.r]) O O) ?_;rintro _ w1 ⟨b5,rfl,b4,C,o⟩;have bK:=Q0 g.size b4;have g:=btr g C;refine Za O<|Zx b3 fun a f _ b6=>?_;refine Ze (Vd O X0w 3)<|Ze (X0 O X2 (o.at 3))<|Za O<|ZX b6 fun a f _ b7=>?_;refine Zs f fun _ b8=>?_;refine Ze (Vd O Xv 2)<|Ze (X0 O X12 (o.at 2))<|Ze (X11 O Xx)<|Zm O<|Zt b8 fun a f=>?_;refine Q8<|X00 (σ:=Nat×Int) (fun (s:Nat×Int) (a:Act) (w:World)=>match s with|(k,c)=>Fr a 72 [(1,.slice Al l.length cl),(2,(pZ9 b5)),(5,vi c),(13,.slice Bd d.ws.length dd),(14,vi (d.ws.length:Int)),(15,vi (k:Int))]/\(k<=d.ws.length)/\(c=sWd l d.t (d.ws.take k))/\((d.ws.take k).all (okL l)=true)/\(0<=c/\c<=7+4*k)/\Blk w b5 31 [vi d.n,.slice Ad md cd,.slice Bd d.ws.length dd,vi d.t,vi d.r]/\d.ws.length<=dd/\Below E.heap.size E w) (fun (s:Nat×Int)=>match s with|(k,c)=>d.ws.length-k) (0,d.t) ?_ ?_
 ·exact ⟨f.sb,(Qf _),O,O,Z,o,q,g⟩
 rintro ⟨k,c⟩ a w2 ⟨f,hk,hc,G,bQ,o,q,g⟩;refine Zs f fun _ b9=>?_;refine Ze (X1a O O)<|ZX b9 fun a f _ aP=>?_
 refine X0z f O (fun a7 I=>?_) (fun a7 I=>?_)
 ·obtain ⟨bR,bL⟩:=X8 (l:=d.ws) (k:=k) Z
  obtain ⟨z,D⟩:=X8 (l:=d.ws) (k:=k) (by have:=I;omega)
  have ue:=hD.e z (Qe D)
  have ul:=hD.w.l z (Qe D)
  have ga:g0 l z.a=0∨g0 l z.a=1:=by rw [hl];exact g01 _
  have gb:g0 l z.b=0∨g0 l z.b=1:=by rw [hl];exact g01 _
  have gm:=Xb1 (x:=g0 l z.b) (y:=4*g0 l z.a) gb Z
  have J:=Xek (bs:=l) D d.t;refine Q7<|aP _ _<|Q5 fun _ U=>?_;refine Q8<|Zs f fun _ aQ=>?_;refine Zi (k:=k) (u:=z) (enc:=encWr) (l:=d.ws) tv0 O O Xx X0s X06 (aN.bx g) D O ?_;intro bS a8;refine Ze (X09 (l:=[vi z.a,vi z.b,.bool z.h]) O X1y a8 O) ?_;refine ZB [vi z.a,vi z.b,.bool z.h] X3n X0s fun bU w4 aR C i=>?_;have bC:=Q0 g.size aR;have o:=o.bw C;have g:=btr g C;refine Zt aQ fun a f=>?_;refine Q8<|Zs f fun _ aS=>?_;refine Ze (Vd O X55 2)<|Ze (X0 O X4d (i.at 2))<|Za O<|Zt aS fun a f=>?_
  refine Xz f O (fun H=>?_) (fun H=>?_)
  ·have aA:=Xty (bs:=l) H;have aB:=Y2s (bs:=l) (s:=c) H;refine Xl none (fun _=>false) mixed ?_;intro w5 C;have o:=o.bw C;have i:=i.bw C;have g:=btr g C;refine Yb f<|Yo 0 O (fun _=>X3 O)<|Yo 1 O (fun _=>X3 O)<|Yo 2 O (fun _=>Vd O X1k 0)<|Ye 3 O (X0 O X2 (i.at 0))<|Yi (k:=z.a.toNat) (u:=(g0 l z.a)) (enc:=encI) (l:=l) 4 O tv0 O O Xy X0e Xn (B.bx g) (Xf (d:=0) Z) Z ?_;intro bW aC;refine Ye 5 O (X0 O X2 aC)<|Yo 6 O (fun _=>X5t O O Z Z)<|Yo 7 O (fun _=>X3 O)<|Yo 8 O (fun _=>Vd O X1n 1)<|Ye 9 O (X0 O X2 (i.at 1))<|Yi (k:=z.b.toNat) (u:=(g0 l z.b)) (enc:=encI) (l:=l) 10 O tv0 O O Xy X0e Xn (B.bx g) (Xf (d:=0) Z) Z ?_;intro bX aD;refine Ye 11 O (X0 O X2 aD)<|Yo 12 O (fun _=>X5t O O Z Z)<|Yo 13 O (fun _=>Xr O O Z Z)<|Yo 14 O (fun _=>X19 O) ?_;refine Yd fun a f=>?_;refine X6<|X6<|U _ _<|Zr f ?_;refine Ze (Xr O O Z Z)<|Zm O ?_;refine Zn fun a f=>?_;refine Xc ?_;exact ⟨(k+1,c+((4*(g0 l z.a))*(g0 l z.b))),⟨f.sb,Z,(by rw [J,<- hc,aB]),(X6b D G aA),Z,o,q,g⟩,O0⟩
  have hh:=H;have aB:=Y2r (bs:=l) (s:=c) hh;refine Q5 fun _ aT=>?_;refine Xl none (fun _=>false) mixed ?_;intro w6 C;have o:=o.bw C;have i:=i.bw C;have g:=btr g C;refine Yb f<|Yo 0 O (fun _=>X3 O)<|Yo 1 O (fun _=>Vd O X1k 0)<|Ye 2 O (X0 O X2 (i.at 0))<|Yi (k:=z.a.toNat) (u:=(g0 l z.a)) (enc:=encI) (l:=l) 3 O tv0 O O Xy X0e Xn (B.bx g) (Xf (d:=0) Z) Z ?_;intro bY aE;refine Ye 4 O (X0 O X2 aE)<|Yo 5 O (fun _=>X3 O)<|Yo 6 O (fun _=>Vd O X1n 1)<|Ye 7 O (X0 O X2 (i.at 1))<|Yi (k:=z.b.toNat) (u:=(g0 l z.b)) (enc:=encI) (l:=l) 8 O tv0 O O Xy X0e Xn (B.bx g) (Xf (d:=0) Z) Z ?_;intro bZ aF;refine Ye 9 O (X0 O X2 aF)<|Yo 10 O (fun _=>X3t O O)<|Yo 11 O (fun _=>X19 O) ?_;refine Yd fun a f=>?_;refine aT _ _ ?_
  refine Xz f O (fun L=>?_) (fun L=>?_)
  ·have bD:d.ws.all (okL l)=false:=Xgf D (by rw [Xhp hh];have h8:=L;simpa using h8)
   have M:tmL d l = -1:=by unfold tmL;rw [bD];rfl
   refine Zs f fun _ aU=>?_;refine Za O<|Zt aU fun a f=>?_;refine Q6<|X05<|X05<|X7 ?_;refine X7<|X05<|X7<|X4 f (Xo f O O) ?_;exact ⟨by rw [M],g⟩
  have aA:okL l z=true:=by rw [Xhp hh];have h8:=L;simpa using h8
  refine Q7<|X6<|X6<|U _ _ ?_;refine Zr f<|Ze (Xr O O Z Z)<|Zm O ?_;refine Zn fun a f=>?_;refine Xc ?_;exact ⟨(k+1,c),⟨f.sb,Z,(by rw [J,<- hc,aB]),(X6b D G aA),Z,o,q,g⟩,O0⟩
 have bE:d.ws.take k=d.ws:=Qi (by have:=I;omega)
 rw [bE] at hc G
 refine Q9<|Xg<|Xg<|X01 ?_;refine b7 _ _<|Q5 fun _ aV=>?_;refine Zs f fun _ aW=>?_;refine Ze (Vd O Xi 1)<|Ze (X0 O X0b (o.at 1))<|Ze (X11 O Xp)<|Zm O<|Zt aW fun a f=>?_;refine Q8<|X00 (σ:=Nat×Int) (fun (s:Nat×Int) (a:Act) (w:World)=>match s with|(j,s)=>Fr a 72 [(1,.slice Al l.length cl),(5,vi s),(50,.slice Ad md cd),(51,vi (md:Int)),(52,vi (j:Int))]/\(j<=d.ns.length)/\(s=sNd d.ns l c j)/\(0<=s/\s<=7+4*d.ws.length+7*j)/\d.ws.length<=dd/\Below E.heap.size E w) (fun (s:Nat×Int)=>match s with|(j,s)=>d.ns.length-j) (0,c) ?_ ?_
 ·exact ⟨f.sb,(Qf _),O,Z,q,g⟩
 rintro ⟨j,s⟩ a w7 ⟨f,hj,hs,cA,q,g⟩;refine Zs f fun _ aX=>?_;refine Ze (X1a O O)<|ZX aX fun a f _ aY=>?_
 refine X0z f O (fun aG N=>?_) (fun aG N=>?_)
 ·obtain ⟨u8,aH⟩:=X8 (l:=d.ns) (k:=j) (by have:=N;omega)
  have bF:=hD.p u8 (Qe aH)
  have bG:l.getD j 0=0∨l.getD j 0=1:=by rw [hl];exact g01 _
  have cB:=Xb1 (x:=l.getD j 0) (y:=u8.p) bG bF.1
  have W:d.ns.getD j nZ=u8:=by rw [Qa,aH];rfl
  have J:=Xej d.ns l c j;refine Q7<|aY _ _<|Q5 fun _ a6=>?_;refine Q8<|Zs f fun _ aZ=>?_;refine Zm O<|Zj (k:=j) (u:=u8) (enc:=encNd) (l:=d.ns) tv0 O Z O Xp X0g X02 (aM.bx g) aH O ?_;intro cC aI;refine Ze (X09 (l:=[vi u8.k,vi u8.p]) O X23 aI O)<|Zf (X03 (zs:=[vi 0,vi 0]) X40 O) ?_;rintro _ w8 ⟨cD,rfl,b0,C,A⟩;have aJ:=Q0 g.size b0;have g:=btr g C;refine Za O<|Zo (Vw [vi u8.k,vi u8.p] X0g A) ?_;rintro _ w9 ⟨ho,hb⟩;have g:=Below.oy g ho aJ;have A:=hb;refine Zx aZ fun a f _ b1=>?_;refine Ze (Vd O X0y 0)<|Ze (X0 O X2 (A.at 0))<|Ze (X0f O O)<|Zt b1 fun a f=>?_
  refine Xz f O (fun Q=>?_) (fun Q=>?_)
  ·have aK:nL d.ns l s j=s+u8.p*l.getD j 0:=by unfold nL;rw [W,Q4 Q]
   refine Xl none (fun _=>false) mixed ?_;intro cE C;have A:=A.bw C;have g:=btr g C;refine Yb f<|Yo 0 O (fun _=>X3 O)<|Yo 1 O (fun _=>Vd O X0x 1)<|Ye 2 O (X0 O X2 (A.at 1))<|Yo 3 O (fun _=>X3 O)<|Yo 4 O (fun _=>X3 O)<|Yi (k:=j) (u:=(l.getD j 0)) (enc:=encI) (l:=l) 5 O tv0 O O Xy X0e Xn (B.bx g) (Xf (d:=0) Z) Z ?_;intro cG aL;refine Ye 6 O (X0 O X2 aL)<|Yo 7 O (fun _=>X5t O O Z Z)<|Yo 8 O (fun _=>Xr O O Z Z)<|Yo 9 O (fun _=>X19 O) ?_;refine Yd fun a f=>?_;refine X6<|a6 _ _<|Zr f<|Ze (Xr O O Z Z)<|Zm O ?_;refine Zn fun a f=>?_;refine Xc ?_;exact ⟨(j+1,s+(u8.p*(l.getD j 0))),⟨f.sb,Z,(by rw [J,<- hs,aK]),Z,q,g⟩,O0⟩
  have aK:nL d.ns l s j=s:=by unfold nL;rw [W,Q3 (by rw [Q];decide)]
  refine Q7<|X6<|a6 _ _<|Zr f ?_;refine Ze (Xr O O Z Z)<|Zm O ?_;refine Zn fun a f=>?_;refine Xc ?_;exact ⟨(j+1,s),⟨f.sb,Z,(by rw [J,<- hs,aK]),Z,q,g⟩,O0⟩
 have bH:j=d.ns.length:=by have:=N;omega
 have M:tmL d l=s.tmod 8:=by unfold tmL;rw [Q4 G,<- bH,hs,hc];try rfl
 refine Q9<|Xg<|Xg<|X01 ?_;refine aV _ _<|Zs f fun _ b2=>?_;refine Zm O<|Ze (X4n O O O)<|Za O<|Zt b2 fun a f=>?_
 refine Q6 (X4 f (Xo f O O) ?_)
 exact ⟨by rw [M],g⟩
theorem Xzf(H:World)(d:Dg)(md:Nat)(aN:md=d.ns.length)(Ad:Option Addr)(cd:Nat)(aO:Rd H H.heap.size 64 encNd Ad d.ns)(Bd:Option Addr)(dd:Nat)(aP:Rd H H.heap.size 72 encWr Bd d.ws)(q:d.ws.length<=dd)(Al:Option Addr)(cl:Nat)(l:List Int)(ml:Nat)(C:Rd H H.heap.size 3 encI Al l)(aQ:ml=l.length)(hG:goodD d=true)(β:Nat->Bool)(hl:l=bsO β d.ns.length) : Ret Tryz.prog 80 [.agg #[vi d.n,.slice Ad md cd,.slice Bd d.ws.length dd,vi d.t,vi d.r],.slice Al ml cl] H (fun v w=>v=.tuple #[vi (fcL d l),.bool (d.ws.all (okL l))]/\Below H.heap.size H w):=by
 subst aQ
 subst aN
 have hD:=X3k hG;have bO:=hD.len;have bP:=hD.m;have bQ:=(X22 hG).2.2.1
 have bR:l.length=d.ns.length:=by rw [hl];exact X3b _ _
 refine enter Tryz.func80 O 71 O O ?_;intro a f
 have g:=bz H
 refine Zs f fun _ b7=>?_;refine Zf (X0u (zs:=[vi d.n,.slice Ad d.ns.length cd,.slice Bd d.ws.length dd,vi d.t,vi d.r]) O O) ?_;rintro _ w1 ⟨b5,rfl,b8,E,o⟩;have bL:=Q0 g.size b8;have g:=btr g E;refine Za O<|Za O<|Zx b7 fun a f _ b9=>?_;refine Za O<|ZX b9 fun a f _ bC=>?_;refine Zs f fun _ bD=>?_;refine Ze (Vd O Xi 1)<|Ze (X0 O X0b (o.at 1))<|Ze (X11 O Xp)<|Zm O<|Zt bD fun a f=>?_;refine Q8<|X00 (σ:=Nat×Int) (fun (s:Nat×Int) (a:Act) (w:World)=>match s with|(j,z)=>Fr a 71 [(1,.slice Al l.length cl),(2,(pZ9 b5)),(6,vi z),(12,.slice Ad d.ns.length cd),(13,vi (d.ns.length:Int)),(14,vi (j:Int))]/\(j<=d.ns.length)/\(z=sNd d.ns l 0 j)/\(0<=z/\z<=7*j)/\Blk w b5 31 [vi d.n,.slice Ad d.ns.length cd,.slice Bd d.ws.length dd,vi d.t,vi d.r]/\d.ws.length<=dd/\Below H.heap.size H w) (fun (s:Nat×Int)=>match s with|(j,z)=>d.ns.length-j) (0,0) ?_ ?_
 ·exact ⟨f.sb,(Qf _),O,Z,o,q,g⟩
 rintro ⟨j,z⟩ a w2 ⟨f,hj,hs,bS,o,q,g⟩;refine Zs f fun _ bE=>?_;refine Ze (X1a O O)<|ZX bE fun a f _ aR=>?_
 refine X0z f O (fun a8 J=>?_) (fun a8 J=>?_)
 ·obtain ⟨bU,bM⟩:=X8 (l:=d.ns) (k:=j) Z
  obtain ⟨u8,aA⟩:=X8 (l:=d.ns) (k:=j) (by have:=J;omega)
  have bF:=hD.p u8 (Qe aA)
  have bG:l.getD j 0=0∨l.getD j 0=1:=by rw [hl];exact g01 _
  have bW:=Xb1 (x:=l.getD j 0) (y:=u8.p) bG bF.1
  have W:d.ns.getD j nZ=u8:=by rw [Qa,aA];rfl
  have L:=Xej d.ns l 0 j;refine Q7<|aR _ _<|Q5 fun _ a6=>?_;refine Q8<|Zs f fun _ aS=>?_;refine Zm O<|Zi (k:=j) (u:=u8) (enc:=encNd) (l:=d.ns) tv0 O O Xp X0g X02 (aO.bx g) aA O ?_;intro bX aB;refine Ze (X09 (l:=[vi u8.k,vi u8.p]) O X23 aB O)<|Zf (X03 (zs:=[vi 0,vi 0]) X40 O) ?_;rintro _ w3 ⟨bY,rfl,aT,E,B⟩;have aC:=Q0 g.size aT;have o:=o.bw E;have g:=btr g E;refine Za O<|Zo (Vw [vi u8.k,vi u8.p] X0g B) ?_;rintro _ w4 ⟨ho,hb⟩;have o:=o.oz ho B O;have g:=Below.oy g ho aC;have B:=hb;refine Zx aS fun a f _ aU=>?_;refine Ze (Vd O X0y 0)<|Ze (X0 O X2 (B.at 0))<|Ze (X0f O O)<|Zt aU fun a f=>?_
  refine Xz f O (fun M=>?_) (fun M=>?_)
  ·have aD:nL d.ns l z j=z+u8.p*l.getD j 0:=by unfold nL;rw [W,Q4 M]
   refine Xl none (fun _=>false) mixed ?_;intro w5 E;have o:=o.bw E;have B:=B.bw E;have g:=btr g E;refine Yb f<|Yo 0 O (fun _=>X3 O)<|Yo 1 O (fun _=>Vd O X0x 1)<|Ye 2 O (X0 O X2 (B.at 1))<|Yo 3 O (fun _=>X3 O)<|Yo 4 O (fun _=>X3 O)<|Yi (k:=j) (u:=(l.getD j 0)) (enc:=encI) (l:=l) 5 O tv0 O O Xy X0e Xn (C.bx g) (Xf (d:=0) Z) Z ?_;intro bZ aE;refine Ye 6 O (X0 O X2 aE)<|Yo 7 O (fun _=>X5t O O Z Z)<|Yo 8 O (fun _=>Xr O O Z Z)<|Yo 9 O (fun _=>X19 O) ?_;refine Yd fun a f=>?_;refine X6<|a6 _ _<|Zr f<|Ze (Xr O O Z Z)<|Zm O ?_;refine Zn fun a f=>?_;refine Xc ?_;exact ⟨(j+1,z+(u8.p*(l.getD j 0))),⟨f.sb,Z,(by rw [L,<- hs,aD]),Z,o,q,g⟩,O0⟩
  have aD:nL d.ns l z j=z:=by unfold nL;rw [W,Q3 (by rw [M];decide)]
  refine Q7<|X6<|a6 _ _<|Zr f ?_;refine Ze (Xr O O Z Z)<|Zm O ?_;refine Zn fun a f=>?_;refine Xc ?_;exact ⟨(j+1,z),⟨f.sb,Z,(by rw [L,<- hs,aD]),Z,o,q,g⟩,O0⟩
 have bH:j=d.ns.length:=by have:=J;omega
 refine Q9<|Xg<|Xg<|X01 ?_;refine bC _ _<|Q5 fun _ aV=>?_;refine Zs f fun _ aW=>?_;refine Ze (Vd O Xv 2)<|Ze (X0 O X12 (o.at 2))<|Ze (X11 O Xx)<|Zm O<|Zt aW fun a f=>?_;refine Q8<|X00 (σ:=Nat×Int) (fun (s:Nat×Int) (a:Act) (w:World)=>match s with|(k,c)=>Fr a 71 [(1,.slice Al l.length cl),(6,vi c),(33,.slice Bd d.ws.length dd),(34,vi (d.ws.length:Int)),(35,vi (k:Int))]/\(k<=d.ws.length)/\(c=sWd l z (d.ws.take k))/\((d.ws.take k).all (okL l)=true)/\(0<=c/\c<=7*d.ns.length+4*k)/\d.ws.length<=dd/\Below H.heap.size H w) (fun (s:Nat×Int)=>match s with|(k,c)=>d.ws.length-k) (0,z) ?_ ?_
 ·exact ⟨f.sb,(Qf _),O,O,Z,q,g⟩
 rintro ⟨k,c⟩ a w6 ⟨f,hk,hc,D,cA,q,g⟩;refine Zs f fun _ aX=>?_;refine Ze (X1a O O)<|ZX aX fun a f _ aY=>?_
 refine X0z f O (fun aF N=>?_) (fun aF N=>?_)
 ·obtain ⟨cB,bN⟩:=X8 (l:=d.ws) (k:=k) Z
  obtain ⟨A,G⟩:=X8 (l:=d.ws) (k:=k) (by have:=N;omega)
  have ue:=hD.e A (Qe G)
  have ul:=hD.w.l A (Qe G)
  have ga:g0 l A.a=0∨g0 l A.a=1:=by rw [hl];exact g01 _
  have gb:g0 l A.b=0∨g0 l A.b=1:=by rw [hl];exact g01 _
  have gm:=Xb1 (x:=g0 l A.b) (y:=4*g0 l A.a) gb Z
  have L:=Xek (bs:=l) G z;refine Q7<|aY _ _<|Q5 fun _ a7=>?_;refine Q8<|Zs f fun _ aZ=>?_;refine Zi (k:=k) (u:=A) (enc:=encWr) (l:=d.ws) tv0 O O Xx X0s X06 (aP.bx g) G O ?_;intro cC aG;refine Ze (X09 (l:=[vi A.a,vi A.b,.bool A.h]) O X1y aG O) ?_;refine ZB [vi A.a,vi A.b,.bool A.h] X3n X0s fun cD w8 b0 E i=>?_;have bJ:=Q0 g.size b0;have g:=btr g E;refine Zt aZ fun a f=>?_;refine Q8<|Zs f fun _ b1=>?_;refine Ze (Vd O X55 2)<|Ze (X0 O X4d (i.at 2))<|Za O<|Zt b1 fun a f=>?_
  refine Xz f O (fun I=>?_) (fun I=>?_)
  ·have aH:=Xty (bs:=l) I;have aI:=Y2s (bs:=l) (s:=c) I;refine Xl none (fun _=>false) mixed ?_;intro w9 E;have i:=i.bw E;have g:=btr g E;refine Yb f<|Yo 0 O (fun _=>X3 O)<|Yo 1 O (fun _=>X3 O)<|Yo 2 O (fun _=>Vd O X1k 0)<|Ye 3 O (X0 O X2 (i.at 0))<|Yi (k:=A.a.toNat) (u:=(g0 l A.a)) (enc:=encI) (l:=l) 4 O tv0 O O Xy X0e Xn (C.bx g) (Xf (d:=0) Z) Z ?_;intro cE aJ;refine Ye 5 O (X0 O X2 aJ)<|Yo 6 O (fun _=>X5t O O Z Z)<|Yo 7 O (fun _=>X3 O)<|Yo 8 O (fun _=>Vd O X1n 1)<|Ye 9 O (X0 O X2 (i.at 1))<|Yi (k:=A.b.toNat) (u:=(g0 l A.b)) (enc:=encI) (l:=l) 10 O tv0 O O Xy X0e Xn (C.bx g) (Xf (d:=0) Z) Z ?_;intro cG aK;refine Ye 11 O (X0 O X2 aK)<|Yo 12 O (fun _=>X5t O O Z Z)<|Yo 13 O (fun _=>Xr O O Z Z)<|Yo 14 O (fun _=>X19 O) ?_;refine Yd fun a f=>?_;refine X6<|X6<|a7 _ _<|Zr f ?_;refine Ze (Xr O O Z Z)<|Zm O ?_;refine Zn fun a f=>?_;refine Xc ?_;exact ⟨(k+1,c+((4*(g0 l A.a))*(g0 l A.b))),⟨f.sb,Z,(by rw [L,<- hc,aI]),(X6b G D aH),Z,q,g⟩,O0⟩
  have hh:=I;have aI:=Y2r (bs:=l) (s:=c) hh;refine Q5 fun _ b2=>?_;refine Xl none (fun _=>false) mixed ?_;intro cH E;have i:=i.bw E;have g:=btr g E;refine Yb f<|Yo 0 O (fun _=>X3 O)<|Yo 1 O (fun _=>Vd O X1k 0)<|Ye 2 O (X0 O X2 (i.at 0))<|Yi (k:=A.a.toNat) (u:=(g0 l A.a)) (enc:=encI) (l:=l) 3 O tv0 O O Xy X0e Xn (C.bx g) (Xf (d:=0) Z) Z ?_;intro cI aL;refine Ye 4 O (X0 O X2 aL)<|Yo 5 O (fun _=>X3 O)<|Yo 6 O (fun _=>Vd O X1n 1)<|Ye 7 O (X0 O X2 (i.at 1))<|Yi (k:=A.b.toNat) (u:=(g0 l A.b)) (enc:=encI) (l:=l) 8 O tv0 O O Xy X0e Xn (C.bx g) (Xf (d:=0) Z) Z ?_;intro cJ aM;refine Ye 9 O (X0 O X2 aM)<|Yo 10 O (fun _=>X3t O O)<|Yo 11 O (fun _=>X19 O) ?_;refine Yd fun a f=>?_;refine b2 _ _ ?_
  refine Xz f O (fun Q=>?_) (fun Q=>?_)
  ·have b3:d.ws.all (okL l)=false:=Xgf G (by rw [Xhp hh];have h8:=Q;simpa using h8)
   have U:fcL d l=0:=by unfold fcL;rw [b3];rfl
   refine Zs f fun _ b4=>?_;refine Za O<|Za O<|Zt b4 fun a f=>?_;refine Q6<|X05<|X05<|X7 ?_;refine X7<|X05<|X7<|X4 f (X2u f O O O) ?_;exact ⟨by rw [U,b3],g⟩
  have aH:okL l A=true:=by rw [Xhp hh];have h8:=Q;simpa using h8
  refine Q7<|X6<|X6<|a7 _ _ ?_;refine Zr f<|Ze (Xr O O Z Z)<|Zm O ?_;refine Zn fun a f=>?_;refine Xc ?_;exact ⟨(k+1,c),⟨f.sb,Z,(by rw [L,<- hc,aI]),(X6b G D aH),Z,q,g⟩,O0⟩
 have bK:d.ws.take k=d.ws:=Qi (by have:=N;omega)
 rw [bK] at hc D
 have U:fcL d l=c.tmod 8:=by unfold fcL;rw [Q4 D,<- bH,<- hs,<- hc]
 refine Q9<|Xg<|Xg<|X01 ?_;refine aV _ _<|Zs f fun _ b6=>?_;refine Zm O<|Ze (X4n O O O)<|Za O<|Za O<|Zt b6 fun a f=>?_
 refine Q6 (X4 f (X2u f O O O) ?_)
 exact ⟨by rw [U,D],g⟩
theorem Xth{ws:List Wr}{k:Nat}{u:Wr}(h:ws[k]? = some u) : hdN (ws.take (k+1))=hdN (ws.take k)+(if u.h=true then 1 else 0):=by
 rw [Qt,h,Option.toList_some]
 unfold hdN
 rw [List.filter_append,Qh,List.filter_cons]
 split<;>simp
theorem Xzg(m:World)(d:Dg)(md:Nat)(a8:md=d.ns.length)(Ad:Option Addr)(cd:Nat)(aS:Rd m m.heap.size 64 encNd Ad d.ns)(Bd:Option Addr)(dd:Nat)(aA:Rd m m.heap.size 72 encWr Bd d.ws)(g:d.ws.length<=dd)(aV:d.ws.length<=1000000000) : Ret Tryz.prog 83 [.agg #[vi d.n,.slice Ad md cd,.slice Bd d.ws.length dd,vi d.t,vi d.r]] m (fun v w=>v=vi (hdN d.ws)/\Below m.heap.size m w):=by
 subst a8
 refine enter Tryz.func83 O 20 O O ?_;intro a e
 have i:=bz m
 refine Zs e fun _ aI=>?_;refine Zf (X0u (zs:=[vi d.n,.slice Ad d.ns.length cd,.slice Bd d.ws.length dd,vi d.t,vi d.r]) O O) ?_;rintro _ w1 ⟨b4,rfl,aJ,hE,aK⟩;have aT:=Q0 i.size aJ;have i:=btr i hE;refine Za O<|Zx aI fun a e _ aL=>?_;refine Za O<|ZX aL fun a e _ aM=>?_;refine Zs e fun _ aN=>?_;refine Ze (Vd O Xv 2)<|Ze (X0 O X12 (aK.at 2))<|Ze (X11 O Xx)<|Zm O<|Zt aN fun a e=>?_;refine Q8<|X00 (σ:=Nat×Int) (fun (s:Nat×Int) (a:Act) (w:World)=>match s with|(k,c)=>Fr a 20 [(3,vi c),(7,.slice Bd d.ws.length dd),(8,vi (d.ws.length:Int)),(9,vi (k:Int))]/\(k<=d.ws.length)/\(c=hdN (d.ws.take k))/\(0<=c/\c<=k)/\d.ws.length<=dd/\Below m.heap.size m w) (fun (s:Nat×Int)=>match s with|(k,c)=>d.ws.length-k) (0,0) ?_ ?_
 ·exact ⟨e.sb,(Qf _),O,Z,g,i⟩
 rintro ⟨k,c⟩ a w2 ⟨e,hk,hc,aW,g,i⟩;refine Zs e fun _ aO=>?_;refine Ze (X1a O O)<|ZX aO fun a e _ aP=>?_
 refine X0z e O (fun a6 j=>?_) (fun a6 j=>?_)
 ·obtain ⟨aX,aU⟩:=X8 (l:=d.ws) (k:=k) Z
  obtain ⟨f,aB⟩:=X8 (l:=d.ws) (k:=k) (by have:=j;omega)
  have aQ:hdN (d.ws.take (k+1))=hdN (d.ws.take k)+(if f.h=true then 1 else 0):=Xth aB
  have aY:0<=(if f.h=true then (1:Int) else 0)/\(if f.h=true then (1:Int) else 0)<=1:=by split<;>omega
  refine Q7<|aP _ _<|Q5 fun _ aC=>?_;refine Q8<|Zs e fun _ aD=>?_;refine Zi (k:=k) (u:=f) (enc:=encWr) (l:=d.ws) tv0 O O Xx X0s X06 (aA.bx i) aB O ?_;intro aZ a7;refine Ze (X09 (l:=[vi f.a,vi f.b,.bool f.h]) O X1y a7 O) ?_;refine ZB [vi f.a,vi f.b,.bool f.h] X3n X0s fun b0 w4 aE hE aF=>?_;have aR:=Q0 i.size aE;have i:=btr i hE;refine Zt aD fun a e=>?_;refine Zr e<|Zm O<|Ze (Vd O X55 2)<|Ze (X0 O X4d (aF.at 2))<|Zf (Vc (F59 _ f.h) Xt9) ?_;rintro _ _ ⟨rfl,rfl⟩;refine Ze (Xr O O Z Z)<|Za O ?_;refine Zn fun a e=>?_;refine X6<|aC _ _<|Zr e<|Ze (Xr O O Z Z)<|Zm O ?_;refine Zn fun a e=>?_;refine Xc ?_;exact ⟨(k+1,c+(if f.h=true then 1 else 0)),⟨e.sb,Z,(by rw [aQ,hc]),Z,g,i⟩,O0⟩
 have aG:hdN d.ws=c:=by rw [hc,Qi (by have:=j;omega)]
 refine Q9<|Xg<|Xg<|X01 ?_;refine aM _ _<|Zs e fun _ aH=>?_;refine Zm O<|Za O<|Zt aH fun a e=>?_
 refine Q6 (X4 e (Xo e O O) ?_)
 exact ⟨by rw [aG],i⟩
theorem Y3l(w0:World)(x:Rg)(m:Int)(hm:m<=1000000) : Ret Tryz.prog 139 [.agg #[vi x.a,vi x.b,vi x.c,vi x.d],vi m] w0 (fun v w=>v=dV (dLow x m)/\Below w0.heap.size w0 w):=by
 refine enter Tryz.func139 O 18 O O ?_;intro a i
 have k:=bz w0
 refine Zs i fun _ aB=>?_;refine Zf (X0u (zs:=[vi x.a,vi x.b,vi x.c,vi x.d]) O O) ?_;rintro _ w1 ⟨b2,rfl,aC,o,e⟩;have a6:=Q0 k.size aC;have k:=btr k o;refine Zf (X03 (zs:=[vi 0,vi 0,vi 0,vi 0,vi 0]) X3d O) ?_;rintro _ w2 ⟨b3,rfl,aD,o,f⟩;have a7:=Q0 k.size aD;have e:=e.bw o;have k:=btr k o;refine ZX aB fun a i _ aE=>?_;refine Q8<|X00 (σ:=Rg×Int) (fun (s:Rg×Int) (a:Act) (w:World)=>match s with|(y,j)=>Fr a 18 [(1,vi j),(2,(pZ9 b2)),(4,(pZ9 b3))]/\(dLow y j=dLow x m)/\(j<=1000000)/\Blk w b2 76 [vi y.a,vi y.b,vi y.c,vi y.d]/\Blk w b3 78 [vi 0,vi 0,vi 0,vi 0,vi 0]/\Below w0.heap.size w0 w) (fun (s:Rg×Int)=>match s with|(y,j)=>j.toNat) (x,m) ?_ ?_
 ·exact ⟨i.sb,O,hm,e,f,k⟩
 rintro ⟨y,j⟩ a w3 ⟨i,t,aK,e,f,k⟩;refine Q5 fun _ aF=>?_;refine Q5 fun _ aG=>?_;refine X0p (fun a w=>Fr a 18 [(1,vi j),(2,(pZ9 b2)),(4,(pZ9 b3)),(10,.bool ((decide (0<j))&&(rEven y)))]/\Below w3.heap.size w3 w) ?_ ?_
 ·have q:Below w3.heap.size w3 w3:=Below.refl _ _
  refine Zr i<|Zm O<|Ze (X4e O O)<|Zm O ?_
  refine Zg 7 O (fun g=>?_) (fun g=>?_)
  ·refine Zv (gW g) (Vn X0j e) ?_;refine Zk (gW g) (Vc (Xug _ y) Xfc) ?_;rintro _ w4 ⟨rfl,o⟩;have k:=btr k o;have q:=btr q o;refine Ze (Xa O g O) ?_;refine Zn fun a i=>?_;exact ⟨i.sub ⟨O,O,O,X1 O (by first|rfl|(simp only [g,bs];done)|simp [g]),trivial⟩,q⟩
  (iterate 2 refine Zp (gP g) ?_);refine Ze (Xh O g O) ?_;refine Zn fun a i=>?_;exact ⟨i.sub ⟨O,O,O,X1 O (by first|rfl|(simp only [g,bs];done)|simp [g]),trivial⟩,q⟩
 rintro a w5 ⟨i,o⟩;have e:=e.bw o;have f:=f.bw o;have k:=btr k o;refine aG _ _ ?_
 refine Xz i O (fun p=>?_) (fun p=>?_)
 ·have a8:=p
  have aL:0<j:=by revert p;simp;omega
  have aH:rEven y=true:=by revert p;cases rEven y<;>simp
  refine Q7<|aF _ _<|Q8<|Zs i fun _ aI=>?_;refine Ze (Vn X0j e)<|Zf (Vc (Xza _ y) Xl6) ?_;rintro _ w6 ⟨rfl,o⟩;have e:=e.bw o;have f:=f.bw o;have k:=btr k o;refine Zo (Vw [vi ((rHalf y).a),vi ((rHalf y).b),vi ((rHalf y).c),vi ((rHalf y).d)] X2a e) ?_;rintro _ w7 ⟨ho,hb⟩;have f:=f.oz ho e O;have k:=Below.oy k ho a6;have e:=hb;refine Zt aI fun a i=>?_;refine Zr i<|Zm O<|Ze (X1c O O Z Z)<|Za O ?_;refine Zn fun a i=>?_;refine X6<|Xc ?_;exact ⟨(rHalf y,j-1),⟨i.sb,(by rw [<- t];exact (X43 Z aH).symm),Z,e,f,k⟩,O0⟩
 have a8:=p
 have aJ:dLow y j=⟨y,j⟩:=X2w (by intro h0;revert p;simp [h0])
 refine Q9<|Xg<|Xg<|X01 ?_;refine aE _ _<|Zs i fun _ aA=>?_;refine Ze (Vn X0j e)<|Zm O<|Ze (Xt (ps:=[(0,.agg #[vi y.a,vi y.b,vi y.c,vi y.d]),(1,vi j)]) (cs:=[vi y.a,vi y.b,vi y.c,vi y.d,vi j]) O (fun _=>by first|rfl|kernel_rfl))<|Zo (Vw [vi y.a,vi y.b,vi y.c,vi y.d,vi j] X0i f) ?_;rintro _ w8 ⟨ho,hb⟩;have k:=Below.oy k ho a7;have f:=hb;refine Zt aA fun a i=>?_
 refine Q6 (X4 i (Xo i O (ResV.cellN (l:=[vi y.a,vi y.b,vi y.c,vi y.d,vi j]) O X04 (f.at 0) O)) ?_)
 refine ⟨?_,k⟩
 rw [<- t,aJ]
theorem Xzd(w0:World)(bV:Nat)(f:Bool)(g:Blk w0 bV 84 [.bool f])(d:Dg)(md:Nat)(aE:md=d.ns.length)(Ad:Option Addr)(cd:Nat)(C:Rd w0 w0.heap.size 64 encNd Ad d.ns)(Bd:Option Addr)(dd:Nat)(B:Rd w0 w0.heap.size 72 encWr Bd d.ws)(M:d.ws.length<=dd)(i:Int)(j:Int)(hG:goodD d=true)(bR:(((spL d.ns).length:Nat) : Int)+2*d.n<=16) : Ret Tryz.prog 96 [(pZ9 bV),.agg #[vi d.n,.slice Ad md cd,.slice Bd d.ws.length dd,vi d.t,vi d.r],vi i,vi j] w0 (fun v w=>v=dV (zcV (smD d (bdB d i j)) (exD d))/\Kept bV w0.heap.size w0 w/\Blk w bV 84 [.bool (f||zcB (smD d (bdB d i j)) (exD d))]):=by
 have eO:=g.lt;have hD:=X3k hG;have eT:=hD.len;have eU:=hD.m;have eV:=X22 hG;have dY:=Xi4 d.ns
 have eX:=Xn0 bR Z
 have eY:=Xkt hG
 have eZ:(List.replicate d.ns.length (0:Int)).length=d.ns.length:=List.length_replicate
 refine enter Tryz.func96 O 142 O O ?_;intro a D
 have I:Kept bV w0.heap.size w0 w0:=Kept.refl _ _ _
 refine Zs D fun _ eA=>?_;refine Zf (X0u (zs:=[vi d.n,.slice Ad md cd,.slice Bd d.ws.length dd,vi d.t,vi d.r]) O O) ?_;rintro _ w1 ⟨b4,rfl,eB,E,H⟩;have eP:=Q0 I.size eB;have g:=g.bw E;have C:=C.bw E;have B:=B.bw E;have I:=ktr I E;refine Zf (X03 (zs:=[vi 0,vi 0,vi 0,vi 0,vi 0]) X3d O) ?_;rintro _ w2 ⟨b5,rfl,eC,E,o⟩;have aF:=Q0 I.size eC;have g:=g.bw E;have H:=H.bw E;have C:=C.bw E;have B:=B.bw E;have I:=ktr I E;refine Zx eA fun a D _ eD=>?_;refine Ze (Vn Xm H)<|Zf (Vc (Xji _ d md aE Ad cd C.top Bd dd B.top M Z) Xc1) ?_;rintro _ w3 ⟨A7,c7,rfl,J,E⟩;have J:=J.lower I.size;have g:=g.bw E;have H:=H.bw E;have o:=o.bw E;have C:=C.bw E;have B:=B.bw E;have I:=ktr I E;refine Za O<|Zx eD fun a D _ eE=>?_;refine Ze (Vd O Xi 1)<|Ze (X0 O X0b (H.at 1))<|Ze (X11 O Xp)<|Zf (X41 (m:=md) (enc:=encI) (z0:=0) O O Xy X2j z_3 O Xn (by first|omega|(simp only [maxLen];omega)) Z) ?_;rintro _ w4 ⟨b9,rfl,bS,E,G⟩;have aJ:=Q0 I.size bS;have aC:=J.away bS;have g:=g.bw E;have H:=H.bw E;have o:=o.bw E;have C:=C.bw E;have B:=B.bw E;have J:=J.bw E;have I:=ktr I E;refine Za O<|ZX eE fun a D _ bU=>?_;refine Zs D fun _ bW=>?_;refine Ze (Vd O Xi 1)<|Ze (X0 O X0b (H.at 1))<|Ze (X11 O Xp)<|Zm O<|Zt bW fun a D=>?_;refine Q8<|X00 (σ:=Nat×(List Int)) (fun (s:Nat×(List Int)) (a:Act) (w:World)=>match s with|(k,m)=>Fr a 142 [(0,(pZ9 bV)),(2,vi i),(3,vi j),(5,(pZ9 b4)),(8,(pZ9 b5)),(9,.slice A7 (spL d.ns).length c7),(10,.slice (some ⟨b9,0,none⟩) md md),(29,.slice Ad md cd),(30,vi (md:Int)),(31,vi (k:Int))]/\(k<=d.ns.length)/\(m=bsO (cutB (bdB d i j) k) d.ns.length)/\Blk w bV 84 [.bool f]/\Blk w b4 31 [vi d.n,.slice Ad md cd,.slice Bd d.ws.length dd,vi d.t,vi d.r]/\Blk w b5 78 [vi 0,vi 0,vi 0,vi 0,vi 0]/\Blk w b9 3 (m.flatMap encI)/\Rd w w0.heap.size 64 encNd Ad d.ns/\Rd w w0.heap.size 72 encWr Bd d.ws/\Own w w0.heap.size 3 1 encI A7 c7 (spL d.ns)/\d.ws.length<=dd/\Kept bV w0.heap.size w0 w) (fun (s:Nat×(List Int))=>match s with|(k,m)=>d.ns.length-k) (0,List.replicate md 0) ?_ ?_
 ·exact ⟨D.sb,(Qf _),(by rw [aE];exact (Xt2 _ _).symm),g,H,o,G,C,B,J,M,I⟩
 rintro ⟨k,m⟩ a w5 ⟨D,hk,hm,g,H,o,G,C,B,J,M,I⟩;refine Zs D fun _ bX=>?_;refine Ze (X1a O O)<|ZX bX fun a D _ bY=>?_
 refine X0z D O (fun a6 aK=>?_) (fun a6 aK=>?_)
 ·obtain ⟨u9,aI⟩:=X8 (l:=d.ns) (k:=k) (by have:=aK;omega)
  refine Q7<|bY _ _<|Q5 fun _ aL=>?_;refine Q8<|Zs D fun _ bZ=>?_;refine Zm O<|Zj (k:=k) (u:=u9) (enc:=encNd) (l:=d.ns) tv0 O aE O Xp X0g X02 C aI Z ?_;intro f0 bG;refine Ze (X09 (l:=[vi u9.k,vi u9.p]) O X23 bG O)<|Zf (X03 (zs:=[vi 0,vi 0]) X40 O) ?_;rintro _ w6 ⟨f4,rfl,cA,E,Q⟩;have aM:=Q0 I.size cA;have g:=g.bw E;have H:=H.bw E;have o:=o.bw E;have G:=G.bw E;have C:=C.bw E;have B:=B.bw E;have J:=J.bw E;have I:=ktr I E;refine Za O<|Zo (Vw [vi u9.k,vi u9.p] X0g Q) ?_;rintro _ w7 ⟨L,hb⟩;have g:=g.oz L Q O;have H:=H.oz L Q O;have o:=o.oz L Q O;have G:=G.oz L Q O;have C:=C.oy L aM;have B:=B.oT L Q O;have J:=J.oT L Q O;have I:=Kept.oy I L aM;have Q:=hb;refine Zx bZ fun a D _ cB=>?_;refine Ze (Vd O X0y 0)<|Ze (X0 O X2 (Q.at 0))<|Zt cB fun a D=>?_;refine Q8<|Zs D fun _ cC=>?_;refine Ze (X0f O O)<|Za O<|Zt cC fun a D=>?_
  refine Xz D O (fun aG=>?_) (fun aG=>?_)
  ·have bH:=Y0o (i:=i) (j:=j) aI aG
   have eF:=Xom hG aI (.inl (by simpa using aG))
   have U:bsO (cutB (bdB d i j) (k+1)) d.ns.length=m.set k (bitF d.n j u9.p):=by rw [bH,hm];exact (X8w _ _ _).symm
   refine Zr D<|Zm O<|Zm O<|Ze (Vd O X1e 0)<|Ze (X0 O X2 (H.at 0))<|Zm O<|Ze (Vd O X0x 1)<|Ze (X0 O X2 (Q.at 1))<|Zf (Vc (Xbe _ d.n j u9.p Z Z Z) X5e) ?_;rintro _ _ ⟨rfl,rfl⟩;refine Ze (X5b (k:=k) (off:=k*1) O O Xy X0e O (by first|(rw [hm,X3b];omega)|omega) O)<|Zo (X4v (enc:=encI) (l:=m) (u:=bitF d.n j u9.p) (k:=k) O O X0e G Xn X33 O (by first|(rw [hm,X3b];omega)|omega)) ?_;rintro _ w8 ⟨L,hb⟩;have g:=g.oz L G O;have H:=H.oz L G O;have o:=o.oz L G O;have C:=C.oT L G O;have B:=B.oT L G O;have J:=J.onlyA L aC;have I:=Kept.oy I L aJ;have G:=hb;refine Zn fun a D=>?_;refine X6<|X6<|aL _ _<|Zr D ?_;refine Ze (Xr O O Z Z)<|Zm O ?_;refine Zn fun a D=>?_;refine Xc ?_;exact ⟨(k+1,(m.set k (bitF d.n j u9.p))),⟨D.sb,Z,U.symm,g,H,o,G,C,B,J,M,I⟩,O0⟩
  have cD:=aG;refine Zs D fun _ cE=>?_;refine Ze (X0f O O)<|Za O<|Zt cE fun a D=>?_
  refine Xz D O (fun aH=>?_) (fun aH=>?_)
  ·have bH:=Y0p (i:=i) (j:=j) aI cD aH
   have eF:=Xom hG aI (.inr (by simpa using aH))
   have U:bsO (cutB (bdB d i j) (k+1)) d.ns.length=m.set k (bitF d.n i u9.p):=by rw [bH,hm];exact (X8w _ _ _).symm
   refine Zr D<|Zm O<|Zm O<|Ze (Vd O X1e 0)<|Ze (X0 O X2 (H.at 0))<|Zm O<|Ze (Vd O X0x 1)<|Ze (X0 O X2 (Q.at 1))<|Zf (Vc (Xbe _ d.n i u9.p Z Z Z) X5e) ?_;rintro _ _ ⟨rfl,rfl⟩;refine Ze (X5b (k:=k) (off:=k*1) O O Xy X0e O (by first|(rw [hm,X3b];omega)|omega) O)<|Zo (X4v (enc:=encI) (l:=m) (u:=bitF d.n i u9.p) (k:=k) O O X0e G Xn X33 O (by first|(rw [hm,X3b];omega)|omega)) ?_;rintro _ w9 ⟨L,hb⟩;have g:=g.oz L G O;have H:=H.oz L G O;have o:=o.oz L G O;have C:=C.oT L G O;have B:=B.oT L G O;have J:=J.onlyA L aC;have I:=Kept.oy I L aJ;have G:=hb;refine Zn fun a D=>?_;refine X6<|X6<|aL _ _<|Zr D ?_;refine Ze (Xr O O Z Z)<|Zm O ?_;refine Zn fun a D=>?_;refine Xc ?_;exact ⟨(k+1,(m.set k (bitF d.n i u9.p))),⟨D.sb,Z,U.symm,g,H,o,G,C,B,J,M,I⟩,O0⟩
  have eG:=Y0n (i:=i) (j:=j) aI cD aH
  have U:bsO (cutB (bdB d i j) (k+1)) d.ns.length=m:=by rw [hm,Xdl eG]
  refine Q7<|X6<|X6<|aL _ _ ?_;refine Zr D<|Ze (Xr O O Z Z)<|Zm O ?_;refine Zn fun a D=>?_;refine Xc ?_;exact ⟨(k+1,m),⟨D.sb,Z,U.symm,g,H,o,G,C,B,J,M,I⟩,O0⟩
 have eH:m=bsO (bdB d i j) d.ns.length:=by rw [hm];exact Xgn (by have:=aK;omega)
 refine Q9<|Xg<|Xg<|X01 ?_;refine bU _ _<|Zs D fun _ cG=>?_;refine Ze (Xt (ps:=[]) (cs:=[vi 0,vi 0,vi 0,vi 0]) O (fun _=>by first|rfl|kernel_rfl)) ?_;refine ZB [vi 0,vi 0,vi 0,vi 0] X4u X2a fun aD f5 cH E A=>?_;have aN:=Q0 I.size cH;have g:=g.bw E;have H:=H.bw E;have o:=o.bw E;have G:=G.bw E;have C:=C.bw E;have B:=B.bw E;have J:=J.bw E;have I:=ktr I E;refine ZX cG fun a D _ cI=>?_;refine Zs D fun _ cJ=>?_;refine Za O<|Zt cJ fun a D=>?_;refine Q8<|X00 (σ:=Nat×Rg×(Nat->Bool)×(List Int)) (fun (s:Nat×Rg×(Nat->Bool)×(List Int)) (a:Act) (w:World)=>match s with|(n,z,be,r)=>Fr a 142 [(0,(pZ9 bV)),(5,(pZ9 b4)),(8,(pZ9 b5)),(9,.slice A7 (spL d.ns).length c7),(10,.slice (some ⟨b9,0,none⟩) md md),(13,(pZ9 aD)),(14,vi (n:Int))]/\(n<=2^(spL d.ns).length)/\(z=smK d i j n)/\(r=bsO be d.ns.length)/\(∀ x,x ∉ spS d.ns->be x=(bdB d i j) x)/\Blk w bV 84 [.bool f]/\Blk w b4 31 [vi d.n,.slice Ad md cd,.slice Bd d.ws.length dd,vi d.t,vi d.r]/\Blk w b5 78 [vi 0,vi 0,vi 0,vi 0,vi 0]/\Blk w b9 3 (r.flatMap encI)/\Blk w aD 76 [vi z.a,vi z.b,vi z.c,vi z.d]/\Rd w w0.heap.size 64 encNd Ad d.ns/\Rd w w0.heap.size 72 encWr Bd d.ws/\Own w w0.heap.size 3 1 encI A7 c7 (spL d.ns)/\d.ws.length<=dd/\Kept bV w0.heap.size w0 w) (fun (s:Nat×Rg×(Nat->Bool)×(List Int))=>match s with|(n,z,be,r)=>2^(spL d.ns).length-n) (0,rZ,(bdB d i j),m) ?_ ?_
 ·exact ⟨D.sb,(Qf _),O,eH,(fun _ _=>rfl),g,H,o,G,A,C,B,J,M,I⟩
 rintro ⟨n,z,be,r⟩ a f7 ⟨D,hn,hz,hr,bJ,g,H,o,G,A,C,B,J,M,I⟩;refine Q5 fun _ cK=>?_;refine Zs D fun _ cL=>?_;refine Zm O<|Zm O<|Ze (X11 O Xy)<|Ze (Xju (m:=(spL d.ns).length) Tryz.underlying3 Tryz.underlying87 O O Z)<|Ze (Vx (Xbk (m:=(spL d.ns).length) O O O Z) (Xa7 Z))<|Ze (X1a O O)<|Zt cL fun a D=>?_
 refine X0z D O (fun a7 aO=>?_) (fun a7 aO=>?_)
 ·have f8:n<2^(spL d.ns).length:=by have:=aO;omega
  refine Q7<|cK _ _<|Q5 fun _ bD=>?_;refine Q8<|Q5 fun _ cM=>?_;refine Zs D fun _ cN=>?_;refine Zm O<|Ze (X11 O Xy)<|Zm O<|Zt cN fun a D=>?_;refine Q8<|X00 (σ:=Nat×(List Int)) (fun (s:Nat×(List Int)) (a:Act) (w:World)=>match s with|(q,r2)=>Fr a 142 [(0,(pZ9 bV)),(5,(pZ9 b4)),(8,(pZ9 b5)),(9,.slice A7 (spL d.ns).length c7),(10,.slice (some ⟨b9,0,none⟩) md md),(13,(pZ9 aD)),(14,vi (n:Int)),(70,.slice A7 (spL d.ns).length c7),(71,vi ((spL d.ns).length:Int)),(72,vi (q:Int))]/\(q<=(spL d.ns).length)/\(r2=bsO (asK ((spS d.ns).take q) n be) d.ns.length)/\Blk w bV 84 [.bool f]/\Blk w b4 31 [vi d.n,.slice Ad md cd,.slice Bd d.ws.length dd,vi d.t,vi d.r]/\Blk w b5 78 [vi 0,vi 0,vi 0,vi 0,vi 0]/\Blk w b9 3 (r2.flatMap encI)/\Blk w aD 76 [vi z.a,vi z.b,vi z.c,vi z.d]/\Rd w w0.heap.size 64 encNd Ad d.ns/\Rd w w0.heap.size 72 encWr Bd d.ws/\Own w w0.heap.size 3 1 encI A7 c7 (spL d.ns)/\d.ws.length<=dd/\Kept bV w0.heap.size w0 w) (fun (s:Nat×(List Int))=>match s with|(q,r2)=>(spL d.ns).length-q) (0,r) ?_ ?_
  ·exact ⟨D.sb,(Qf _),hr,g,H,o,G,A,C,B,J,M,I⟩
  rintro ⟨q,r2⟩ a f9 ⟨D,hq,b0,g,H,o,G,A,C,B,J,M,I⟩;refine Zs D fun _ cO=>?_;refine Ze (X1a O O)<|ZX cO fun a D _ cP=>?_
  refine X0z D O (fun bK aP=>?_) (fun bK aP=>?_)
  ·obtain ⟨fA,eQ⟩:=X8 (l:=(spL d.ns)) (k:=q) Z
   obtain ⟨x8,cQ⟩:=X8 (l:=spS d.ns) (k:=q) (by have:=aP;omega)
   have cR:=Xno cQ;have eR:=cR.2;have U:=Xgi (β:=be) (N:=d.ns.length) (m:=n) cQ
   rw [<- b0] at U
   refine Q7<|cP _ _<|Q5 fun _ cS=>?_;refine Q8<|Zs D fun _ cT=>?_;refine Zm O<|Zi (k:=q) (u:=((x8:Nat) : Int)) (enc:=encI) (l:=(spL d.ns)) tv0 O O Xy X0e Xn J.rd cR.1 O ?_;intro fB bL;refine Ze (X0 O X2 bL)<|Za O<|Za O<|Zt cT fun a D=>?_;refine Zr D<|Zm O<|Zm O<|Zm O<|Zm O<|Ze (Xju (m:=q) Tryz.underlying3 Tryz.underlying87 O O Z)<|Ze (Xod (m:=q) O O O Z)<|Ze (Vx (Xjq O O) (Xe7 Z))<|Ze (X5b (k:=x8) (off:=x8*1) O O Xy X0e O (by first|(rw [b0,X3b];omega)|omega) O)<|Zo (X4v (enc:=encI) (l:=r2) (u:=(b1 (n.testBit q))) (k:=x8) O O X0e G Xn X33 O (by first|(rw [b0,X3b];omega)|omega)) ?_;rintro _ fC ⟨L,hb⟩;have g:=g.oz L G O;have H:=H.oz L G O;have o:=o.oz L G O;have A:=A.oz L G O;have C:=C.oT L G O;have B:=B.oT L G O;have J:=J.onlyA L aC;have I:=Kept.oy I L aJ;have G:=hb;refine Zn fun a D=>?_;refine X6<|cS _ _<|Zr D<|Ze (Xr O O Z Z)<|Zm O ?_;refine Zn fun a D=>?_;refine Xc ?_;exact ⟨(q+1,(r2.set x8 (b1 (n.testBit q)))),⟨D.sb,Z,U,g,H,o,G,A,C,B,J,M,I⟩,O0⟩
  have b2:r2=bsO (asK (spS d.ns) n be) d.ns.length:=by rw [b0,Qi (by have:=aP;omega)]
  have cU:r2=bsO (asK (spS d.ns) n (bdB d i j)) d.ns.length:=by rw [b2,Xbl _ _ bJ]
  have aQ:=cU.symm;refine Q9<|Xg<|Xg<|X01 ?_;refine cM _ _<|Zs D fun _ cV=>?_;refine Ze (Vn Xm H)<|Zm O<|Zf (Vc (Xzj _ d md aE Ad cd C.top Bd dd B.top M (some ⟨b9,0,none⟩) md r2 md (Rd.of_blk G O _ G.lt) (by rw [b2,X3b];omega) hG (asK (spS d.ns) n (bdB d i j)) cU) Xqk) ?_;rintro _ fE ⟨rfl,E⟩;have g:=g.bw E;have H:=H.bw E;have o:=o.bw E;have G:=G.bw E;have A:=A.bw E;have C:=C.bw E;have B:=B.bw E;have J:=J.bw E;have I:=ktr I E;refine Za O<|Zx cV fun a D _ cW=>?_;refine Zm O<|Ze (X8s O O)<|Zt cW fun a D=>?_
  refine X0z D O (fun bM aR=>?_) (fun bM aR=>?_)
  ·have U:=Y2j (i:=i) (j:=j) (n:=n) hG Z (by rw [aQ];have h8:=aR;omega)
   rw [aQ,<- hz] at U
   refine Xl none (fun j=>[5].contains j) mixed ?_;intro fF E;have g:=g.bw E;have H:=H.bw E;have o:=o.bw E;have G:=G.bw E;have A:=A.bw E;have C:=C.bw E;have B:=B.bw E;have J:=J.bw E;have I:=ktr I E;refine Yb D<|Ye 0 O (Vn X0j A)<|Yo 1 O (fun _=>Xt (ps:=[(0,vi 1)]) (cs:=[vi 1,vi 0,vi 0,vi 0]) O (fun _=>by first|rfl|kernel_rfl))<|Yo 2 O (fun _=>X3 O)<|Y1 3 ?_;refine Yk O tv0 (Vc (Xyf _ (⟨1,0,0,0⟩ : Rg) (tmL d r2)) Xl1) (fun _ _ ⟨_,E⟩=>E) ?_;rintro _ fG ⟨rfl,E⟩;have g:=g.bw E;have H:=H.bw E;have o:=o.bw E;have G:=G.bw E;have A:=A.bw E;have C:=C.bw E;have B:=B.bw E;have J:=J.bw E;have I:=ktr I E;refine Y1 4<|Yk O tv0 (Vc (Xyp _ z (rTurn (⟨1,0,0,0⟩ : Rg) (tmL d r2))) Xl4) (fun _ _ ⟨_,E⟩=>E) ?_;rintro _ fH ⟨rfl,E⟩;have g:=g.bw E;have H:=H.bw E;have o:=o.bw E;have G:=G.bw E;have A:=A.bw E;have C:=C.bw E;have B:=B.bw E;have J:=J.bw E;have I:=ktr I E;refine Y1 5<|Yh O tv0 O (Vw [vi ((rAdd z (rTurn (⟨1,0,0,0⟩ : Rg) (tmL d r2))).a),vi ((rAdd z (rTurn (⟨1,0,0,0⟩ : Rg) (tmL d r2))).b),vi ((rAdd z (rTurn (⟨1,0,0,0⟩ : Rg) (tmL d r2))).c),vi ((rAdd z (rTurn (⟨1,0,0,0⟩ : Rg) (tmL d r2))).d)] X2a A) ?_;rintro _ fI ⟨L,hb⟩;have g:=g.oz L A O;have H:=H.oz L A O;have o:=o.oz L A O;have G:=G.oz L A O;have C:=C.oT L A O;have B:=B.oT L A O;have J:=J.oT L A O;have I:=Kept.oy I L aN
   have A:=hb;refine Yd fun a D=>?_;refine X6<|bD _ _<|Zr D<|Zm O<|Ze (Xr O O Z Z)<|Za O ?_;refine Zn fun a D=>?_;refine Xc ?_;exact ⟨(n+1,(rAdd z (rTurn (⟨1,0,0,0⟩ : Rg) (tmL d r2))),(asK (spS d.ns) n be),r2),⟨D.sb,Z,U,b2,(fun x hx=>by rw [X9k _ _ _ hx];exact bJ x hx),g,H,o,G,A,C,B,J,M,I⟩,O0⟩
  have U:=Y2i (i:=i) (j:=j) (n:=n) hG (by rw [aQ];have h8:=aR;omega)
  rw [<- hz] at U
  refine Q7<|X6<|bD _ _<|Zr D ?_;refine Zm O<|Ze (Xr O O Z Z)<|Za O ?_;refine Zn fun a D=>?_;refine Xc ?_;exact ⟨(n+1,z,(asK (spS d.ns) n be),r2),⟨D.sb,Z,U,b2,(fun x hx=>by rw [X9k _ _ _ hx];exact bJ x hx),g,H,o,G,A,C,B,J,M,I⟩,O0⟩
 have eI:n=2^(spS d.ns).length:=by have:=aO;rw [dY];omega
 have aS:z=(smD d (bdB d i j)):=by rw [hz,eI];exact Xel _ _ _
 have eJ:rOk z=true:=by rw [aS];exact Xem hG bR _
 refine Q9<|Xg<|Xg<|X01 ?_;refine cI _ _<|Zs D fun _ cX=>?_;refine Ze (Vd O X1f 4)<|Ze (X0 O X2 (H.at 4))<|Ze (Vx (Xbi O) (X0v Z Z))<|Za O<|ZX cX fun a D _ cY=>?_;refine Zs D fun _ cZ=>?_;refine Ze (Vd O Xv 2)<|Ze (X0 O X12 (H.at 2))<|Ze (X11 O Xx)<|Zm O<|Zt cZ fun a D=>?_;refine Q8<|X00 (σ:=Nat×Int) (fun (s:Nat×Int) (a:Act) (w:World)=>match s with|(k2,e)=>Fr a 142 [(0,(pZ9 bV)),(8,(pZ9 b5)),(13,(pZ9 aD)),(18,vi e),(100,.slice Bd d.ws.length dd),(101,vi (d.ws.length:Int)),(102,vi (k2:Int))]/\(k2<=d.ws.length)/\(e=hdN (d.ws.take k2)-d.r)/\(-60<=e/\e<=60+k2)/\Blk w bV 84 [.bool f]/\Blk w b5 78 [vi 0,vi 0,vi 0,vi 0,vi 0]/\Blk w aD 76 [vi z.a,vi z.b,vi z.c,vi z.d]/\Rd w w0.heap.size 72 encWr Bd d.ws/\d.ws.length<=dd/\Kept bV w0.heap.size w0 w) (fun (s:Nat×Int)=>match s with|(k2,e)=>d.ws.length-k2) (0,(-d.r)) ?_ ?_
 ·exact ⟨D.sb,(Qf _),(by show -d.r=0-d.r;omega),Z,g,o,A,B,M,I⟩
 rintro ⟨k2,e⟩ a fJ ⟨D,fK,he,fL,g,o,A,B,M,I⟩;refine Zs D fun _ d5=>?_;refine Ze (X1a O O)<|ZX d5 fun a D _ d6=>?_
 refine X0z D O (fun a8 aT=>?_) (fun a8 aT=>?_)
 ·obtain ⟨fM,eS⟩:=X8 (l:=d.ws) (k:=k2) Z
  obtain ⟨u7,d7⟩:=X8 (l:=d.ws) (k:=k2) (by have:=aT;omega)
  have U:=Xth d7;refine Q7<|d6 _ _<|Q5 fun _ bE=>?_;refine Q8<|Zs D fun _ d8=>?_;refine Zi (k:=k2) (u:=u7) (enc:=encWr) (l:=d.ws) tv0 O O Xx X0s X06 B d7 O ?_;intro fN bN;refine Ze (X09 (l:=[vi u7.a,vi u7.b,.bool u7.h]) O X1y bN O) ?_;refine ZB [vi u7.a,vi u7.b,.bool u7.h] X3n X0s fun fO fP dA E dB=>?_;have eK:=Q0 I.size dA;have g:=g.bw E;have o:=o.bw E;have A:=A.bw E;have B:=B.bw E;have I:=ktr I E;refine Zx d8 fun a D _ dC=>?_;refine Ze (Vd O X55 2)<|Ze (X0 O X4d (dB.at 2))<|Zt dC fun a D=>?_
  refine Xz D O (fun aU=>?_) (fun aU=>?_)
  ·have aV:hdN (d.ws.take (k2+1))-d.r=e+1:=by rw [U,Q4 aU];omega
   refine Zr D<|Zm O<|Ze (Xr O O Z Z)<|Za O ?_;refine Zn fun a D=>?_;refine X6<|bE _ _<|Zr D<|Ze (Xr O O Z Z)<|Zm O ?_;refine Zn fun a D=>?_;refine Xc ?_;exact ⟨(k2+1,e+1),⟨D.sb,Z,(by rw [aV]),Z,g,o,A,B,M,I⟩,O0⟩
  have aV:hdN (d.ws.take (k2+1))-d.r=e:=by rw [U,Q3 (by rw [aU];decide)];omega
  refine Q7<|X6<|bE _ _<|Zr D ?_;refine Ze (Xr O O Z Z)<|Zm O ?_;refine Zn fun a D=>?_;refine Xc ?_;exact ⟨(k2+1,e),⟨D.sb,Z,(by rw [aV]),Z,g,o,A,B,M,I⟩,O0⟩
 have b3:e=exD d:=by rw [he,Qi (by have:=aT;omega)];rfl
 refine Q9<|Xg<|Xg<|X01 ?_;refine cY _ _<|Q5 fun _ dD=>?_;refine Zs D fun _ dE=>?_;refine Ze (Vn X0j A)<|Ze (Xt (ps:=[]) (cs:=[vi 0,vi 0,vi 0,vi 0]) O (fun _=>by first|rfl|kernel_rfl))<|Ze (Xjr O O Xlc (fun w=>eqR 9998 z (⟨0,0,0,0⟩ : Rg) w))<|Zt dE fun a D=>?_
 refine X0z D O (fun aA aW=>?_) (fun aA aW=>?_)
 ·have b6:z=rZ:=by show z=⟨0,0,0,0⟩;have h8:=aW;simpa using h8
  have dF:=Y4u (e:=e) b6;refine Zs D fun _ dG=>?_;refine Ze (Xt (ps:=[]) (cs:=[vi 0,vi 0,vi 0,vi 0,vi 0]) O (fun _=>by first|rfl|kernel_rfl))<|Zo (Vw [vi 0,vi 0,vi 0,vi 0,vi 0] X0i o) ?_;rintro _ fQ ⟨L,hb⟩;have g:=g.oz L o O;have I:=Kept.oy I L aF;have o:=hb;refine Zt dG fun a D=>?_;refine Q6<|X7<|X4 D (Xo D O (ResV.cellN (l:=[vi 0,vi 0,vi 0,vi 0,vi 0]) O X04 (o.at 0) O)) ?_
  rw [<- aS,<- b3,dF.1,dF.2,Bool.or_false]
  exact ⟨O,I,g⟩
 have b6:¬ z=rZ:=by show ¬ z=⟨0,0,0,0⟩;have h8:=aW;simpa using h8
 refine Q7<|dD _ _<|Q5 fun _ dH=>?_;refine Q8<|X00 (σ:=Rg×Int) (fun (s:Rg×Int) (a:Act) (w:World)=>match s with|(y,e4)=>Fr a 142 [(0,(pZ9 bV)),(8,(pZ9 b5)),(13,(pZ9 aD)),(18,vi e4)]/\(RsI z (-e).toNat y e4)/\(e4=e∨(e<0/\e4<=0))/\(-60<=e4/\e4<=1700)/\Blk w bV 84 [.bool f]/\Blk w b5 78 [vi 0,vi 0,vi 0,vi 0,vi 0]/\Blk w aD 76 [vi y.a,vi y.b,vi y.c,vi y.d]/\Kept bV w0.heap.size w0 w) (fun (s:Rg×Int)=>match s with|(y,e4)=>(-e4).toNat) (z,e) ?_ ?_
 ·exact ⟨D.sb,(RsI.start eJ O),(.inl O),Z,g,o,A,I⟩
 rintro ⟨y,e4⟩ a w24 ⟨D,bO,eL,fR,g,o,A,I⟩;refine Q5 fun _ dI=>?_;refine Q5 fun _ dJ=>?_;refine X0p (fun a w=>Fr a 142 [(0,(pZ9 bV)),(8,(pZ9 b5)),(13,(pZ9 aD)),(18,vi e4),(120,.bool ((decide (e4<0))&&(rOk y)))]/\Below w24.heap.size w24 w) ?_ ?_
 ·have b7:Below w24.heap.size w24 w24:=Below.refl _ _
  refine Zr D<|Zm O<|Ze (X1a O O)<|Zm O ?_
  refine Zg 117 O (fun W=>?_) (fun W=>?_)
  ·refine Zv (gW W) (Vn X0j A) ?_;refine Zk (gW W) (Vc (Xo8 _ y) Xc2) ?_;rintro _ fS ⟨rfl,E⟩;have I:=ktr I E;have b7:=btr b7 E;refine Ze (Xa O W O) ?_;refine Zn fun a D=>?_;exact ⟨D.sub ⟨O,O,O,O,X1 O (by first|rfl|(simp only [a6,a7,a8,aA,W,bs];done)|simp [a6,a7,a8,aA,W]),trivial⟩,b7⟩
  (iterate 2 refine Zp (gP W) ?_);refine Ze (Xh O W O) ?_;refine Zn fun a D=>?_;exact ⟨D.sub ⟨O,O,O,O,X1 O (by first|rfl|(simp only [a6,a7,a8,aA,W,bs];done)|simp [a6,a7,a8,aA,W]),trivial⟩,b7⟩
 rintro a fT ⟨D,E⟩;have g:=g.bw E;have o:=o.bw E;have A:=A.bw E;have I:=ktr I E;refine dJ _ _ ?_
 refine Xz D O (fun aX=>?_) (fun aX=>?_)
 ·have b8:e4<0/\rOk y=true:=by have h8:=aX;revert h8;cases rOk y<;>simp
  refine Q7<|dI _ _<|Q8<|Zs D fun _ dK=>?_;refine Ze (Vn X0j A)<|Zf (Vc (Xo6 _ y) Xbx) ?_;rintro _ fU ⟨rfl,E⟩;have g:=g.bw E;have o:=o.bw E;have A:=A.bw E;have I:=ktr I E;refine Zo (Vw [vi ((rRoot y).a),vi ((rRoot y).b),vi ((rRoot y).c),vi ((rRoot y).d)] X2a A) ?_;rintro _ fV ⟨L,hb⟩;have g:=g.oz L A O;have o:=o.oz L A O;have I:=Kept.oy I L aN;have A:=hb;refine Zt dK fun a D=>?_;refine Zr D<|Zm O<|Ze (Xr O O Z Z)<|Za O ?_;refine Zn fun a D=>?_;refine X6<|Xc ?_;exact ⟨((rRoot y),e4+1),⟨D.sb,(bO.step b8.1 b8.2),Z,Z,g,o,A,I⟩,O0⟩
 have b8:rOk y=true->0<=e4:=by have h8:=aX;revert h8;cases rOk y<;>simp
 refine Q9<|Xg<|Xg<|X01 ?_;refine dH _ _<|Q5 fun _ dL=>?_;refine Zs D fun _ dM=>?_;refine Ze (Vn X0j A)<|Zf (Vc (Xo8 _ y) Xc2) ?_;rintro _ fW ⟨rfl,E⟩;have g:=g.bw E;have o:=o.bw E;have A:=A.bw E;have I:=ktr I E;refine Ze (X1w O)<|Zt dM fun a D=>?_
 refine Xz D O (fun aY=>?_) (fun aY=>?_)
 ·have dN:=bO.bad2 O b6 (by have h8:=aY;simpa using h8)
  refine Zs D fun _ dO=>?_;refine Zm O<|Ze (Xw O)<|Ze (Vd O X3w 0)<|Zo (X1m (vs:=[.bool true]) (l':=[.bool true]) O O X2k g O O O O O) ?_;rintro _ fX ⟨L,hb⟩;have o:=o.oz L g O;have I:=I.self L;have g:=hb;refine Zx dO fun a D _ dP=>?_;refine Ze (Xt (ps:=[]) (cs:=[vi 0,vi 0,vi 0,vi 0,vi 0]) O (fun _=>by first|rfl|kernel_rfl))<|Zo (Vw [vi 0,vi 0,vi 0,vi 0,vi 0] X0i o) ?_;rintro _ fY ⟨L,hb⟩;have g:=g.oz L o O;have I:=Kept.oy I L aF;have o:=hb;refine Zt dP fun a D=>?_;refine Q6<|X7<|X4 D (Xo D O (ResV.cellN (l:=[vi 0,vi 0,vi 0,vi 0,vi 0]) O X04 (o.at 0) O)) ?_
  rw [<- aS,<- b3,dN.1,dN.2,Bool.or_true]
  exact ⟨O,I,g⟩
 have dQ:rOk y=true:=by have h8:=aY;simpa using h8
 have bC:=bO.fin2 O b6 dQ (b8 dQ) eL;refine Q7<|dL _ _<|Zs D fun _ dR=>?_;refine Ze (Vn X0j A)<|Zm O<|Zf (X2b (vs:=[.agg #[vi y.a,vi y.b,vi y.c,vi y.d],vi e4]) O Xfb (Y3l _ y e4 Z)) ?_;rintro _ fZ ⟨rfl,E⟩;have g:=g.bw E;have o:=o.bw E;have I:=ktr I E;refine ZB [vi ((dLow y e4).num.a),vi ((dLow y e4).num.b),vi ((dLow y e4).num.c),vi ((dLow y e4).num.d),vi ((dLow y e4).exp)] X3d X0i fun b77 g5 dS E aB=>?_
 have dT:b5≠b77:=by have:=o.lt;omega
 have eM:=Q0 I.size dS;have g:=g.bw E;have o:=o.bw E;have I:=ktr I E;refine ZX dR fun a D _ bF=>?_;refine Zs D fun _ dU=>?_;refine Ze (Vd O X26 4)<|Ze (X0 O X2 (aB.at 4))<|Ze (X4e O O)<|Zt dU fun a D=>?_
 refine X0z D O (fun bP aZ=>?_) (fun bP aZ=>?_)
 ·have bQ:zcB z e=true:=by rw [bC.1];exact decide_eq_true (by have h8:=aZ;simpa using h8)
  refine Zr D<|Zm O<|Ze (Xw O)<|Ze (Vd O X3w 0)<|Zo (X1m (vs:=[.bool true]) (l':=[.bool true]) O O X2k g O O O O O) ?_;rintro _ g6 ⟨L,hb⟩;have o:=o.oz L g O;have aB:=aB.oz L g O;have I:=I.self L;have g:=hb;refine Zx bF fun a D _ dW=>?_;refine Ze (Vn X04 aB)<|Zo (Vw [vi ((dLow y e4).num.a),vi ((dLow y e4).num.b),vi ((dLow y e4).num.c),vi ((dLow y e4).num.d),vi ((dLow y e4).exp)] X0i o) ?_;rintro _ g7 ⟨L,hb⟩;have g:=g.oz L o O;have I:=Kept.oy I L aF;have o:=hb;refine Zt dW fun a D=>?_
  refine Q6 (X4 D (Xo D O (ResV.cellN (l:=[vi ((dLow y e4).num.a),vi ((dLow y e4).num.b),vi ((dLow y e4).num.c),vi ((dLow y e4).num.d),vi ((dLow y e4).exp)]) O X04 (o.at 0) O)) ?_)
  rw [<- aS,<- b3,bQ,bC.2]
  first|(rw [Bool.or_true];exact ⟨rfl,I,g⟩)|(rw [Bool.or_false];exact ⟨rfl,I,g⟩)
 have bQ:zcB z e=false:=by rw [bC.1];exact decide_eq_false (by have h8:=aZ;simpa using h8)
 refine Q7<|bF _ _<|Zs D fun _ dX=>?_;refine Ze (Vn X04 aB)<|Zo (Vw [vi ((dLow y e4).num.a),vi ((dLow y e4).num.b),vi ((dLow y e4).num.c),vi ((dLow y e4).num.d),vi ((dLow y e4).exp)] X0i o) ?_;rintro _ g8 ⟨L,hb⟩;have g:=g.oz L o O;have I:=Kept.oy I L aF;have o:=hb;refine Zt dX fun a D=>?_
 refine Q6 (X4 D (Xo D O (ResV.cellN (l:=[vi ((dLow y e4).num.a),vi ((dLow y e4).num.b),vi ((dLow y e4).num.c),vi ((dLow y e4).num.d),vi ((dLow y e4).exp)]) O X04 (o.at 0) O)) ?_)
 rw [<- aS,<- b3,bQ,bC.2]
 first|(rw [Bool.or_true];exact ⟨rfl,I,g⟩)|(rw [Bool.or_false];exact ⟨rfl,I,g⟩)
theorem Y29{k n:Nat}(hk:k<=1000000) : wr ((k:Int).tdiv (n:Int))=((k/n:Nat) : Int):=by
 rw [show (k:Int).tdiv (n:Int)=((k/n:Nat) : Int) from rfl]
 have h1:=Nat.div_le_self k n
 generalize k/n=m at h1 ⊢
 exact X0v Z Z
theorem Y2c(k n:Nat) : (k:Int).tmod (n:Int)=((k % n:Nat) : Int):=rfl
theorem Xyw(w0:World)(bV:Nat)(f:Bool)(o:Blk w0 bV 84 [.bool f])(d:Dg)(md:Nat)(aE:md=d.ns.length)(Ad:Option Addr)(cd:Nat)(g:Rd w0 w0.heap.size 64 encNd Ad d.ns)(Bd:Option Addr)(dd:Nat)(i:Rd w0 w0.heap.size 72 encWr Bd d.ws)(G:d.ws.length<=dd)(hG:goodD d=true)(aS:(((spL d.ns).length:Nat) : Int)+2*d.n<=16) : Ret Tryz.prog 49 [(pZ9 bV),.agg #[vi d.n,.slice Ad md cd,.slice Bd d.ws.length dd,vi d.t,vi d.r]] w0 (fun v w=>∃ A c1,v=mV A c1 (mgM d f)/\Own w w0.heap.size 78 5 encD A c1 (mgM d f).cells/\Kept bV w0.heap.size w0 w/\Blk w bV 84 [.bool (mgF d f)]):=by
 have b5:=o.lt;have b8:=X22 hG
 have U:2^d.n.toNat<=32:=Nat.pow_le_pow_right (n:=2) O4 (show d.n.toNat<=5 by omega)
 have b9:0<2^d.n.toNat:=Nat.pow_pos O4
 have bC:=X30 U U
 have aF:(((2^d.n.toNat:Nat) : Int)==0)=false:=by rw [beq_eq_false_iff_ne];omega
 refine enter Tryz.func49 O 44 O O ?_;intro a D
 have B:Kept bV w0.heap.size w0 w0:=Kept.refl _ _ _
 refine Zs D fun _ aT=>?_;refine Zf (X0u (zs:=[vi d.n,.slice Ad md cd,.slice Bd d.ws.length dd,vi d.t,vi d.r]) O O) ?_;rintro _ w1 ⟨b4,rfl,aU,x,q⟩;have b7:=Q0 B.size aU;have o:=o.bw x;have g:=g.bw x;have i:=i.bw x;have B:=ktr B x;refine Zf (X03 (zs:=[vi 0,vi 0,.slice none 0 0]) X3a O) ?_;rintro _ w2 ⟨b6,rfl,aV,x,u⟩;have aG:=Q0 B.size aV;have o:=o.bw x;have q:=q.bw x;have g:=g.bw x;have i:=i.bw x;have B:=ktr B x;refine Zx aT fun a D _ aW=>?_;refine Ze (Vd O X1e 0)<|Ze (X0 O X2 (q.at 0))<|Ze (Xju (m:=d.n.toNat) Tryz.underlying3 Tryz.underlying87 O Z Z)<|Ze (Vx (Xbk (m:=d.n.toNat) O O O Z) (Xa7 Z))<|Za O<|Zx aW fun a D _ aX=>?_;refine Zm O<|Zm O<|Ze (Xt (ps:=[(0,vi ((2^d.n.toNat:Nat) : Int)),(1,vi ((2^d.n.toNat:Nat) : Int))]) (cs:=[vi ((2^d.n.toNat:Nat) : Int),vi ((2^d.n.toNat:Nat) : Int),.slice none 0 0]) O (fun _=>by first|rfl|kernel_rfl)) ?_;refine ZB [vi ((2^d.n.toNat:Nat) : Int),vi ((2^d.n.toNat:Nat) : Int),.slice none 0 0] X3a X1o fun b11 w4 aH x e=>?_
 have aI:b6≠b11:=by have:=u.lt;omega
 have a8:=Q0 B.size aH;have o:=o.bw x;have q:=q.bw x;have u:=u.bw x;have g:=g.bw x;have i:=i.bw x;have B:=ktr B x;refine ZX aX fun a D _ aJ=>?_;refine Zs D fun _ aK=>?_;refine Za O<|Zt aK fun a D=>?_;refine Q8<|X00 (σ:=Nat×(List Dy)×Bool) (fun (s:Nat×(List Dy)×Bool) (a:Act) (w:World)=>match s with|(k,l,f1)=>∃ I J,Fr a 44 [(0,(pZ9 bV)),(3,(pZ9 b4)),(4,(pZ9 b6)),(5,vi ((2^d.n.toNat:Nat) : Int)),(6,(pZ9 b11)),(7,vi (k:Int))]/\(k<=2^d.n.toNat*2^d.n.toNat)/\(mgL d f k=(f1,l))/\Blk w bV 84 [.bool f1]/\Blk w b4 31 [vi d.n,.slice Ad md cd,.slice Bd d.ws.length dd,vi d.t,vi d.r]/\Blk w b6 37 [vi 0,vi 0,.slice none 0 0]/\Blk w b11 37 [vi ((2^d.n.toNat:Nat) : Int),vi ((2^d.n.toNat:Nat) : Int),.slice I l.length J]/\Rd w w0.heap.size 64 encNd Ad d.ns/\Rd w w0.heap.size 72 encWr Bd d.ws/\Own w w0.heap.size 78 5 encD I J l/\d.ws.length<=dd/\Kept bV w0.heap.size w0 w) (fun (s:Nat×(List Dy)×Bool)=>match s with|(k,l,f1)=>2^d.n.toNat*2^d.n.toNat-k) (0,[],f) ?_ ?_
 ·exact ⟨none,0,D.sb,(Qf _),O,o,q,u,e,g,i,(Own.nil _ _ _ _ _),G,B⟩
 rintro ⟨k,l,f1⟩ a w5 ⟨I,J,D,hk,hl,o,q,u,e,g,i,z,G,B⟩;refine Q5 fun _ aL=>?_;refine Q5 fun _ aM=>?_;refine X0p (fun a w=>Fr a 44 [(0,(pZ9 bV)),(3,(pZ9 b4)),(4,(pZ9 b6)),(5,vi ((2^d.n.toNat:Nat) : Int)),(6,(pZ9 b11)),(7,vi (k:Int)),(26,.bool ((decide ((k:Int)<((2^d.n.toNat*2^d.n.toNat:Nat) : Int)))&&(!f1)))]/\w5=w) ?_ ?_
 ·refine Zr D<|Zm O<|Zm O<|Zm O<|Ze (Xal (m:=2^d.n.toNat) (k:=2^d.n.toNat) O O Z)<|Ze (X1a O O)<|Zm O ?_
  refine Zg 20 O (fun p=>?_) (fun p=>?_)
  ·refine Zv (gW p) (X3 O) ?_;refine Zv (gW p) (Xw O) ?_;refine Zv (gW p) (Vd O X3w 0) ?_;refine Zv (gW p) (X0 O X4d (o.at 0)) ?_;refine Zv (gW p) (X1w O) ?_;refine Ze (Xa O p O) ?_;refine Zn fun a D=>?_;exact ⟨D.sub ⟨O,O,O,O,O,O,X1 O (by first|rfl|(simp only [p,bs];done)|simp [p]),trivial⟩,O⟩
  (iterate 5 refine Zp (gP p) ?_);refine Ze (Xh O p O) ?_;refine Zn fun a D=>?_;exact ⟨D.sub ⟨O,O,O,O,O,O,X1 O (by first|rfl|(simp only [p,bs];done)|simp [p]),trivial⟩,O⟩
 rintro a _ ⟨D,rfl⟩;refine aM _ _ ?_
 refine Xz D O (fun H=>?_) (fun H=>?_)
 ·have aY:(k:Int)<(2^d.n.toNat*2^d.n.toNat:Nat)/\f1=false:=by simpa using H
  have bD:k<2^d.n.toNat*2^d.n.toNat:=by omega
  have aZ:=Xrg hl aY.2;have aN:=Xm3 (d:=d) (f:=f) k
  rw [hl] at aN
  dsimp only at aN
  refine Q7<|aL _ _<|Q5 fun _ aO=>?_;refine Q8<|Xl (some bV) (fun j=>[12,14].contains j) mixed ?_;intro w6 x;have o:=o.bw x;have q:=q.bw x;have u:=u.bw x;have e:=e.bw x;have g:=g.bw x;have i:=i.bw x;have z:=z.bw x;have B:=ktr B x;refine Yb D<|Yo 0 O (fun _=>Vd O X1q 2) ?_;refine Yw 1 O tv0 (fun w1 h1=>X0 O X3i ((e.oz h1 o O).at 2)) ?_;refine Yo 2 O (fun _=>X3 O) ?_;refine Yw 3 O tv0 (fun w1 h1=>X09 (l:=[vi d.n,.slice Ad md cd,.slice Bd d.ws.length dd,vi d.t,vi d.r]) O Xm ((q.oz h1 o O).at 0) O) ?_;refine Yo 4 O (fun _=>X3 O)<|Yo 5 O (fun _=>X3 O)<|Yo 6 O (fun _=>Vx (Xbj O O aF) (Y29 Z))<|Yo 7 O (fun _=>X3 O)<|Yo 8 O (fun _=>X3 O)<|Yo 9 O (fun _=>Vx (X4n O O aF) (Y2c _ _))<|Y1 10 ?_;refine Yf O tv0 (EfW.mono (Vc (Xzd _ bV f1 o d md aE Ad cd g.top Bd dd i.top G ((k/2^d.n.toNat:Nat) : Int) ((k % 2^d.n.toNat:Nat) : Int) hG aS) Xqe) (fun _ _ h=>⟨fun _=>by obtain ⟨rfl,hK,aA⟩:=h;exact hK.keep,h⟩)) ?_;rintro _ w7 ⟨rfl,hK,aA⟩;obtain ⟨wm,W,hm,x⟩:=hK.mid;clear hm;have E:=o;have q:=q.oz W E O;have u:=u.oz W E O;have e:=e.oz W E O;have g:=g.oT W E O;have i:=i.oT W E O;have z:=z.oT W E O;have B:=B.self W;have q:=q.bw x;have u:=u.bw x;have e:=e.bw x;have g:=g.bw x;have i:=i.bw x;have z:=z.bw x;have B:=ktr B x
  clear E x W hK;have o:=aA;clear aA;refine Y1 11<|Yf O tv0 (EfW.mono (X9 (k:=1) (vs:=[.agg #[vi ((zcV (smD d (bdB d ((k/2^d.n.toNat:Nat) : Int) ((k % 2^d.n.toNat:Nat) : Int))) (exD d)).num.a),vi ((zcV (smD d (bdB d ((k/2^d.n.toNat:Nat) : Int) ((k % 2^d.n.toNat:Nat) : Int))) (exD d)).num.b),vi ((zcV (smD d (bdB d ((k/2^d.n.toNat:Nat) : Int) ((k % 2^d.n.toNat:Nat) : Int))) (exD d)).num.c),vi ((zcV (smD d (bdB d ((k/2^d.n.toNat:Nat) : Int) ((k % 2^d.n.toNat:Nat) : Int))) (exD d)).num.d),vi ((zcV (smD d (bdB d ((k/2^d.n.toNat:Nat) : Int) ((k % 2^d.n.toNat:Nat) : Int))) (exD d)).exp)]]) (zs:=[vi ((zcV (smD d (bdB d ((k/2^d.n.toNat:Nat) : Int) ((k % 2^d.n.toNat:Nat) : Int))) (exD d)).num.a),vi ((zcV (smD d (bdB d ((k/2^d.n.toNat:Nat) : Int) ((k % 2^d.n.toNat:Nat) : Int))) (exD d)).num.b),vi ((zcV (smD d (bdB d ((k/2^d.n.toNat:Nat) : Int) ((k % 2^d.n.toNat:Nat) : Int))) (exD d)).num.c),vi ((zcV (smD d (bdB d ((k/2^d.n.toNat:Nat) : Int) ((k % 2^d.n.toNat:Nat) : Int))) (exD d)).num.d),vi ((zcV (smD d (bdB d ((k/2^d.n.toNat:Nat) : Int) ((k % 2^d.n.toNat:Nat) : Int))) (exD d)).exp)]) O X21 X31 O O) (fun _ _ h=>⟨fun _=>by obtain ⟨_,_,_,x,_⟩:=h;exact Keep.of_below x,h⟩)) ?_;rintro _ w8 ⟨bE,rfl,a6,x,M⟩;have b0:=Q0 B.size a6;have L:=z.away a6;have o:=o.bw x;have q:=q.bw x;have u:=u.bw x;have e:=e.bw x;have g:=g.bw x;have i:=i.bw x;have z:=z.bw x;have B:=ktr B x;refine Y1 12<|Yt O tv0 O (X15 (enc:=encD) (l:=(l)) (l2:=([(zcV (smD d (bdB d ((k/2^d.n.toNat:Nat) : Int) ((k % 2^d.n.toNat:Nat) : Int))) (exD d))])) (B0:=w0.heap.size) O O X21 X31 X1x X54 z (Rd.of_blk M O _ M.lt) (by simp only [maxLen];simp;omega) O6 B.size) ?_;rintro _ w9 ⟨aB,aC,rfl,N,hg,aP⟩
  have C:Own _ w0.heap.size 78 5 encD _ _ (l):=z
  have aD:=aP _ M.lt L;clear aP;have o:=o.appT C hg O;have q:=q.appT C hg O;have u:=u.appT C hg O;have e:=e.appT C hg O;have g:=g.appT C hg O;have i:=i.appT C hg O;have B:=Kept.app B C hg (Qb _) B.size;clear C hg;refine Yo 13 O (fun _=>Vd O X1q 2)<|Y1 14 ?_;refine Yh O tv0 O (Vu (vs:=[.slice aB (l++([(zcV (smD d (bdB d ((k/2^d.n.toNat:Nat) : Int) ((k % 2^d.n.toNat:Nat) : Int))) (exD d))])).length aC]) (l':=[vi ((2^d.n.toNat:Nat) : Int),vi ((2^d.n.toNat:Nat) : Int),.slice aB (l++([(zcV (smD d (bdB d ((k/2^d.n.toNat:Nat) : Int) ((k % 2^d.n.toNat:Nat) : Int))) (exD d))])).length aC]) O O Xa9 e) ?_;rintro _ bF ⟨Q,hb⟩;have o:=o.oz Q e O;have q:=q.oz Q e O;have u:=u.oy Q Z;have g:=g.oT Q e O;have i:=i.oT Q e O;have N:=N.oT Q e O;have B:=Kept.oy B Q a8;have e:=hb;refine Yd fun a D=>?_;refine X6<|aO _ _<|Zr D<|Zm O<|Ze (Xr O O Z Z)<|Za O ?_;refine Zn fun a D=>?_;refine Xc ?_;exact ⟨(k+1,l++([(zcV (smD d (bdB d ((k/2^d.n.toNat:Nat) : Int) ((k % 2^d.n.toNat:Nat) : Int))) (exD d))]),(f1||zcB (smD d (bdB d ((k/2^d.n.toNat:Nat) : Int) ((k % 2^d.n.toNat:Nat) : Int))) (exD d))),⟨aB,aC,D.sb,Z,aZ,o,q,u,e,g,i,N,G,B⟩,O0⟩
 have b1:=H
 have aQ:f1=true∨k=2^d.n.toNat*2^d.n.toNat:=by (cases f1 with|true=>exact .inl rfl|false=>exact .inr (by have h9:¬ (k:Int)<(2^d.n.toNat*2^d.n.toNat:Nat):=(by simpa using H);omega))
 have a7:=Xwz hl hk aQ;refine Q9<|Xg<|Xg<|X01 ?_;refine aJ _ _<|Zs D fun _ aR=>?_;refine Ze (Vn X1d e)<|Zo (Vw [vi ((2^d.n.toNat:Nat) : Int),vi ((2^d.n.toNat:Nat) : Int),.slice I l.length J] X1o u) ?_;rintro _ bG ⟨Q,hb⟩;have o:=o.oz Q u O;have z:=z.oT Q u O;have B:=Kept.oy B Q aG;have u:=hb;refine Zt aR fun a D=>?_
 refine Q6 (X4 D (Xo D O (ResV.cellN (l:=[vi ((2^d.n.toNat:Nat) : Int),vi ((2^d.n.toNat:Nat) : Int),.slice I l.length J]) O X1d (u.at 0) O)) ?_)
 have b2:mgM d f=⟨((2^d.n.toNat:Nat) : Int),((2^d.n.toNat:Nat) : Int),l⟩:=by unfold mgM;rw [a7]
 have b3:mgF d f=f1:=by unfold mgF;rw [a7]
 rw [b2,b3]
 exact ⟨I,J,O,z,B,o⟩
theorem Xyr(G:World)(d:Dg)(md:Nat)(u:md=d.ns.length)(Ad:Option Addr)(cd:Nat)(z:Rd G G.heap.size 64 encNd Ad d.ns)(Bd:Option Addr)(dd:Nat)(h:Rd G G.heap.size 72 encWr Bd d.ws)(B:d.ws.length<=dd)(b0:d.ws.length<=900000000)(aO:∀ x ∈ d.ws,-1000000<=x.b/\x.b<=1000000)(hN:md<=1000) : Ret Tryz.prog 17 [.agg #[vi d.n,.slice Ad md cd,.slice Bd d.ws.length dd,vi d.t,vi d.r]] G (fun v w=>∃ A c,v=.tuple #[mV A c (((mnO d)).getD mZ),.bool ((mnO d)).isSome]/\Own w G.heap.size 78 5 encD A c (((mnO d)).getD mZ).cells/\Below G.heap.size G w):=by
 refine enter Tryz.func17 O 31 O O ?_;intro a k
 have g:=bz G
 refine Zs k fun _ aP=>?_;refine Zf (X0u (zs:=[vi d.n,.slice Ad md cd,.slice Bd d.ws.length dd,vi d.t,vi d.r]) O O) ?_;rintro _ w1 ⟨b4,rfl,aQ,i,j⟩;have aY:=Q0 g.size aQ;have g:=btr g i;refine Zf (X03 (zs:=[vi 0,vi 0,.slice none 0 0]) X3a O) ?_;rintro _ w2 ⟨b6,rfl,aR,i,f⟩;have C:=Q0 g.size aR;have j:=j.bw i;have g:=btr g i;refine Za O<|ZX aP fun a k _ aS=>?_;refine Q5 fun _ aT=>?_;refine X0p (fun a w=>Fr a 31 [(1,(pZ9 b4)),(2,(pZ9 b6)),(18,.bool ((!(goodD d))||(decide (16<(((spL d.ns).length:Int)+(2*d.n))))))]/\Below w2.heap.size w2 w) ?_ ?_
 ·have p:Below w2.heap.size w2 w2:=Below.refl _ _
  refine Xl none (fun _=>false) mixed ?_;intro w3 i;have j:=j.bw i;have g:=btr g i;have p:=btr p i;refine Yb k<|Ye 0 O (Vn Xm j)<|Y1 1 ?_;refine Yk O tv0 (Vc (Xjh _ d md u Ad cd (z.bx g).top Bd dd (h.bx g).top B Z aO) Xc0) (fun _ _ ⟨_,i⟩=>i) ?_;rintro _ w4 ⟨rfl,i⟩;have j:=j.bw i;have g:=btr g i;have p:=btr p i;refine Yo 2 O (fun _=>X1w O)<|Yo 3 O (fun _=>X3 O) ?_
  refine Yl 9 O (fun e=>?_) (fun e=>?_)
  ·refine Yp 4 O (gP e) ?_;refine Yp 7 O (gP e) ?_;refine Yp 8 O (gP e) ?_;refine Yp 9 O (gP e) ?_;refine Y1 5<|Yq O ⟨_,_,O,O,e⟩ ?_;refine Yp 6 O (gP e) ?_;refine Yp 10 O (gP e) ?_;refine Yp 11 O (gP e) ?_;refine Yo 12 O (fun _=>Xa O e O) ?_;refine Yd fun a k=>?_;exact ⟨k.sub ⟨O,O,X1 O (by first|rfl|(simp only [e,bs];done)|simp [e]),trivial⟩,p⟩
  have b1:=X22 (d:=d) (by have H:=e;simpa using H)
  have aZ:(spL d.ns).length<=d.ns.length:=X86 d.ns d.ns.length
  refine Yv 4 O (gW e) (Vn Xm j) ?_;refine Yu 7 O (gW e) (fun _=>Vd O X1e 0) ?_;refine Yv 8 O (gW e) (X0 O X2 (j.at 0)) ?_;refine Yu 9 O (gW e) (fun _=>X5t O O Z Z) ?_;refine Y1 5<|Yk O ⟨_,_,O,O,e⟩ (Vc (Xji _ d md u Ad cd (z.bx g).top Bd dd (h.bx g).top B hN) Xc1) (fun _ _ ⟨aU,aV,_,D,i⟩=>i) ?_;rintro _ w5 ⟨aU,aV,rfl,D,i⟩;have D:=D.lower g.size;have g:=btr g i;have p:=btr p i;refine Yu 6 O (gW e) (fun _=>X11 O Xy) ?_;refine Yu 10 O (gW e) (fun _=>Xr O O Z Z) ?_;refine Yu 11 O (gW e) (fun _=>X4e O O) ?_;refine Yo 12 O (fun _=>Xh O e O) ?_;refine Yd fun a k=>?_;exact ⟨k.sub ⟨O,O,X1 O (by first|rfl|(simp only [e,bs];done)|simp [e]),trivial⟩,p⟩
 rintro a w6 ⟨k,i⟩;have j:=j.bw i;have f:=f.bw i;have g:=btr g i;refine aT _ _ ?_
 refine Xz k O (fun q=>?_) (fun q=>?_)
 ·have a6:mnO d=none:=by
   cases e:goodD d with
   | false=>exact Xm6 e
   | true=>exact Xm7 (by have H:=q;rw [e] at H;simp at H;omega)
  refine Zs k fun _ aA=>?_;refine Ze (Xt (ps:=[]) (cs:=[vi 0,vi 0,.slice none 0 0]) O (fun _=>by first|rfl|kernel_rfl))<|Zo (Vw [vi 0,vi 0,.slice none 0 0] X1o f) ?_;rintro _ w7 ⟨ho,hb⟩;have g:=Below.oy g ho C;have f:=hb;refine Za O<|Zt aA fun a k=>?_;refine Q6<|X7<|X4 k (X2u k O (ResV.cellN (l:=[vi 0,vi 0,.slice none 0 0]) O X1d (f.at 0) O) O) ?_
  rw [a6]
  exact ⟨none,0,O,(Own.nil _ _ _ _ _),g⟩
 have hG:goodD d=true:=by have H:=q;revert H;cases goodD d<;>simp
 have a7:(((spL d.ns).length:Nat) : Int)+2*d.n<=16:=by have H:=q;rw [hG] at H;simp at H;omega
 refine Q7<|aS _ _<|Zs k fun _ aB=>?_;refine Ze (Xt (ps:=[]) (cs:=[.bool false]) O (fun _=>by first|rfl|kernel_rfl))<|Zf (X0u (zs:=[.bool false]) O O) ?_;rintro _ w8 ⟨aW,rfl,aC,i,o⟩;have a8:=Q0 g.size aC;have j:=j.bw i;have f:=f.bw i;have g:=btr g i;refine Za O<|Zx aB fun a k _ aD=>?_;refine Zm O<|Ze (Vn Xm j)<|Zf (Vc (Xyw _ aW false o d md u Ad cd (z.bx g).top Bd dd (h.bx g).top B hG a7) Xpz) ?_;rintro _ w9 ⟨I,J,rfl,m,hK,aE⟩;have aF:=g.size;obtain ⟨wm,hO,hm,i⟩:=hK.mid;clear hm;have L:=o;have f:=f.oz hO L O;have g:=Below.oy g hO a8;have f:=f.bw i;have g:=btr g i
 clear L i hO hK;have o:=aE;clear aE
 have m:=m.lower aF;clear aF;refine ZB [vi ((mgM d false).rows),vi ((mgM d false).cols),.slice I ((mgM d false).cells).length J] X3a X1o fun b19 b2 aG i aH=>?_
 have aI:b6≠b19:=by have:=f.lt;omega
 have aX:=Q0 g.size aG;have f:=f.bw i;have o:=o.bw i;have m:=m.bw i;have g:=btr g i;refine ZX aD fun a k _ aJ=>?_;refine Zs k fun _ aK=>?_;refine Zm O<|Ze (Xw O)<|Ze (Vd O X3w 0)<|Ze (X0 O X4d (o.at 0))<|Zt aK fun a k=>?_
 refine Xz k O (fun E=>?_) (fun E=>?_)
 ·have a6:mnO d=none:=by rw [Xtn hG a7];exact Q4 E
  refine Zs k fun _ aL=>?_;refine Ze (Xt (ps:=[]) (cs:=[vi 0,vi 0,.slice none 0 0]) O (fun _=>by first|rfl|kernel_rfl))<|Zo (Vw [vi 0,vi 0,.slice none 0 0] X1o f) ?_;rintro _ b3 ⟨ho,hb⟩;have g:=Below.oy g ho C;have f:=hb;refine Za O<|Zt aL fun a k=>?_;refine Q6<|X7<|X4 k (X2u k O (ResV.cellN (l:=[vi 0,vi 0,.slice none 0 0]) O X1d (f.at 0) O) O) ?_
  rw [a6]
  exact ⟨none,0,O,(Own.nil _ _ _ _ _),g⟩
 have aM:mnO d=some (mgM d false):=by rw [Xtn hG a7];exact Q3 (by rw [E];decide)
 refine Q7<|aJ _ _<|Zs k fun _ aN=>?_;refine Ze (Vn X1d aH)<|Zo (Vw [vi ((mgM d false).rows),vi ((mgM d false).cols),.slice I ((mgM d false).cells).length J] X1o f) ?_;rintro _ b5 ⟨ho,hb⟩;have m:=m.oT ho f O;have g:=Below.oy g ho C;have f:=hb;refine Za O<|Zt aN fun a k=>?_
 refine Q6 (X4 k (X2u k O (ResV.cellN (l:=[vi ((mgM d false).rows),vi ((mgM d false).cols),.slice I ((mgM d false).cells).length J]) O X1d (f.at 0) O) O) ?_)
 rw [aM]
 exact ⟨I,J,O,m,g⟩
section
variable {z x y : Rg} {m i j : Int} {b : Bool} (hz0 : ¬ z = rZ) (h : (if b = true then raiseI (-j).toNat y else (y, false)) = raiseI (-m).toNat z) (hjb : b = true -> 0 <= j)
variable (hjm : j = m ∨ m < 0 /\ j <= 0) (hin : dLow x i = dLow y j) (hst : dLow x i = ⟨x, i⟩)
include hz0 h hjb hjm hin hst
theorem Xhw:sclI z m=if (b&&dOk ⟨x,i⟩)=true then some ⟨x,i⟩ else none:=by
 unfold sclI
 rw [Q3 hz0]
 cases b with
 | false=>
  rw [Q3 O4] at h
  rw [<- h]
  rfl
 | true=>
  have h0:=hjb O
  rw [Q4 O,show (-j).toNat=0 from by omega] at h
  rw [<- h]
  have e:max m 0=j:=by omega
  rw [show (raiseI 0 y)=(y,true) from O,e,<- hin,hst]
theorem Xnb:(b&&dOk ⟨x,i⟩)=(sclI z m).isSome:=by
 rw [Xhw hz0 h hjb hjm hin hst]
 cases (b&&dOk ⟨x,i⟩)<;>rfl
theorem Xnc{d:Dy}(hd:sclI z m=some d) : ⟨x,i⟩=d:=by
 rw [Xhw hz0 h hjb hjm hin hst] at hd
 split at hd
 ·exact Option.some.inj hd
 ·cases hd
end
theorem Y01(J:World)(z:Rg)(m:Int)(hm:-60<=m/\m<=1700)(aN:rOk z=true) : Ret Tryz.prog 81 [.agg #[vi z.a,vi z.b,vi z.c,vi z.d],vi m] J (fun v w=>∃ d:Dy,v=.tuple #[dV d,.bool (sclI z m).isSome]/\(∀ y,sclI z m=some y->d=y)/\Below J.heap.size J w):=by
 refine enter Tryz.func81 O 46 O O ?_;intro a g
 have k:=bz J
 refine Zs g fun _ aO=>?_;refine Zf (X0u (zs:=[vi z.a,vi z.b,vi z.c,vi z.d]) O O) ?_;rintro _ w1 ⟨b2,rfl,aP,h,f⟩;have N:=Q0 k.size aP;have k:=btr k h;refine Zf (X03 (zs:=[vi 0,vi 0,vi 0,vi 0,vi 0]) X3d O) ?_;rintro _ w2 ⟨L,rfl,aQ,h,e⟩;have E:=Q0 k.size aQ;have f:=f.bw h;have k:=btr k h;refine Za O<|ZX aO fun a g _ aR=>?_;refine Zs g fun _ aS=>?_;refine Ze (Vn X0j f)<|Ze (Xt (ps:=[]) (cs:=[vi 0,vi 0,vi 0,vi 0]) O (fun _=>by first|rfl|kernel_rfl))<|Ze (Xjr O O Xlc (fun w=>eqR 9998 z (⟨0,0,0,0⟩ : Rg) w))<|Zt aS fun a g=>?_
 refine X0z g O (fun o a6=>?_) (fun o a6=>?_)
 ·have G:z=rZ:=a6
  refine Zs g fun _ aT=>?_;refine Ze (Xt (ps:=[]) (cs:=[vi 0,vi 0,vi 0,vi 0,vi 0]) O (fun _=>by first|rfl|kernel_rfl))<|Zo (Vw [vi 0,vi 0,vi 0,vi 0,vi 0] X0i e) ?_;rintro _ w3 ⟨C,D⟩;have k:=Below.oy k C E;have e:=D;clear D C;refine Za O<|Zt aT fun a g=>?_;refine Q6<|X7<|X4 g (X2u g O (ResV.cellN (l:=[vi 0,vi 0,vi 0,vi 0,vi 0]) O X04 (e.at 0) O) O) ?_;exact ⟨dZ,by rw [Xu3 G];rfl,fun y hy=>(by rw [Xu3 G] at hy;exact Option.some.inj hy),k⟩
 have G:¬ z=rZ:=a6
 refine Q7<|aR _ _<|Zs g fun _ aU=>?_;refine Za O<|ZX aU fun a g _ aV=>?_;refine Q8<|X00 (σ:=Rg×Int×Bool) (fun (s:Rg×Int×Bool) (a:Act) (w:World)=>match s with|(y,j,b)=>Fr a 46 [(1,vi j),(2,(pZ9 b2)),(4,(pZ9 L)),(6,.bool b)]/\((if b=true then raiseI (-j).toNat y else (y,false))=raiseI (-m).toNat z)/\(-60<=j/\j<=1700/\(j=m∨m<0/\j<=0))/\(rOk y=true)/\Blk w b2 76 [vi y.a,vi y.b,vi y.c,vi y.d]/\Blk w L 78 [vi 0,vi 0,vi 0,vi 0,vi 0]/\Below J.heap.size J w) (fun (s:Rg×Int×Bool)=>match s with|(y,j,b)=>(61-j).toNat) (z,m,true) ?_ ?_
 ·exact ⟨g.sb,O,Z,aN,f,e,k⟩
 rintro ⟨y,j,b⟩ a w4 ⟨g,H,a7,aW,f,e,k⟩;refine Q5 fun _ a8=>?_;refine Q5 fun _ aA=>?_;refine X0p (fun a w=>Fr a 46 [(1,vi j),(2,(pZ9 b2)),(4,(pZ9 L)),(6,.bool b),(16,.bool ((decide (j<0))&&b))]/\w4=w) ?_ ?_
 ·refine Zr g<|Zm O<|Ze (X1a O O)<|Zm O ?_
  refine Zg 14 O (fun A=>?_) (fun A=>?_)
  ·refine Zv (gW A) (X3 O) ?_;refine Ze (Xa O A O) ?_;refine Zn fun a g=>?_;exact ⟨g.sub ⟨O,O,O,O,X1 O (by first|rfl|(simp only [o,A,bs];done)|simp [o,A]),trivial⟩,O⟩
  refine Zp (gP A) ?_;refine Ze (Xh O A O) ?_;refine Zn fun a g=>?_;exact ⟨g.sub ⟨O,O,O,O,X1 O (by first|rfl|(simp only [o,A,bs];done)|simp [o,A]),trivial⟩,O⟩
 rintro a _ ⟨g,rfl⟩;refine aA _ _ ?_
 refine Xz g O (fun q=>?_) (fun q=>?_)
 ·have D:b=true:=by have:=q;revert this;cases b<;>simp
  have aX:j<0:=by have:=q;revert this;cases b<;>simp
  refine Q7<|a8 _ _<|Q5 fun _ aB=>?_;refine Q8<|Zr g<|Ze (Vn X0j f)<|Zf (Vc (Y3j _ y) Xwf) ?_;rintro _ w5 ⟨rfl,h⟩;have f:=f.bw h;have e:=e.bw h;have k:=btr k h;refine Zm O<|Ze (Xj (vs:=[.agg #[vi ((rIf1 (rRoot y) [y]).a),vi ((rIf1 (rRoot y) [y]).b),vi ((rIf1 (rRoot y) [y]).c),vi ((rIf1 (rRoot y) [y]).d)],.bool (rIf2 (rRoot y) [y])]) O O)<|Ze (Xj (vs:=[.agg #[vi ((rIf1 (rRoot y) [y]).a),vi ((rIf1 (rRoot y) [y]).b),vi ((rIf1 (rRoot y) [y]).c),vi ((rIf1 (rRoot y) [y]).d)],.bool (rIf2 (rRoot y) [y])]) O O)<|Zo (Vw [vi ((rIf1 (rRoot y) [y]).a),vi ((rIf1 (rRoot y) [y]).b),vi ((rIf1 (rRoot y) [y]).c),vi ((rIf1 (rRoot y) [y]).d)] X2a f) ?_;rintro _ w6 ⟨C,D⟩;have e:=e.oz C f O;have k:=Below.oy k C N;have f:=D;clear D C;refine Za O ?_;refine Zn fun a g=>?_;refine X6<|aB _ _<|Zr g<|Zm O<|Ze (Xr O O Z Z)<|Za O ?_;refine Zn fun a g=>?_;refine Xc ?_;exact ⟨(rIf1 (rRoot y) [y],j+1,rIf2 (rRoot y) [y]),⟨g.sb,(Xnd H D aX),Z,(Xrm _ _),f,e,k⟩,O0⟩
 have aC:b=true->0<=j:=by have:=q;revert this;cases b<;>simp
 refine Q9<|Xg<|Xg<|X01 ?_;refine aV _ _<|Q5 fun _ aD=>?_;refine Q8<|X00 (σ:=Rg×Int) (fun (s:Rg×Int) (a:Act) (w:World)=>match s with|(x,i)=>Fr a 46 [(1,vi i),(2,(pZ9 b2)),(4,(pZ9 L)),(6,.bool b)]/\(dLow x i=dLow y j)/\(i<=1700)/\(rOk x=true)/\Blk w b2 76 [vi x.a,vi x.b,vi x.c,vi x.d]/\Blk w L 78 [vi 0,vi 0,vi 0,vi 0,vi 0]/\Below J.heap.size J w) (fun (s:Rg×Int)=>match s with|(x,i)=>i.toNat) (y,j) ?_ ?_
 ·exact ⟨g.sb,O,Z,aW,f,e,k⟩
 rintro ⟨x,i⟩ a w7 ⟨g,I,aZ,Q,f,e,k⟩;refine Q5 fun _ aE=>?_;refine Q5 fun _ aF=>?_;refine X0p (fun a w=>Fr a 46 [(1,vi i),(2,(pZ9 b2)),(4,(pZ9 L)),(6,.bool b),(29,.bool ((decide (0<i))&&(rEven x)))]/\Below w7.heap.size w7 w) ?_ ?_
 ·have M:Below w7.heap.size w7 w7:=Below.refl _ _
  refine Zr g<|Zm O<|Ze (X4e O O)<|Zm O ?_
  refine Zg 26 O (fun t=>?_) (fun t=>?_)
  ·refine Zv (gW t) (Vn X0j f) ?_;refine Zk (gW t) (Vc (Xuf _ x) Xfa) ?_;rintro _ w8 ⟨rfl,h⟩;have k:=btr k h;have M:=btr M h;refine Ze (Xa O t O) ?_;refine Zn fun a g=>?_;exact ⟨g.sub ⟨O,O,O,O,X1 O (by first|rfl|(simp only [o,q,t,bs];done)|simp [o,q,t]),trivial⟩,M⟩
  (iterate 2 refine Zp (gP t) ?_);refine Ze (Xh O t O) ?_;refine Zn fun a g=>?_;exact ⟨g.sub ⟨O,O,O,O,X1 O (by first|rfl|(simp only [o,q,t,bs];done)|simp [o,q,t]),trivial⟩,M⟩
 rintro a w9 ⟨g,h⟩;have f:=f.bw h;have e:=e.bw h;have k:=btr k h;refine aF _ _ ?_
 refine Xz g O (fun B=>?_) (fun B=>?_)
 ·have b0:0<i:=by have:=B;revert this;simp;omega
  have aG:rEven x=true:=by have:=B;revert this;cases rEven x<;>simp
  refine Q7<|aE _ _<|Q8<|Zs g fun _ aH=>?_;refine Ze (Vn X0j f)<|Zf (Vc (Y3f _ x) Xwb) ?_;rintro _ b1 ⟨rfl,h⟩;have f:=f.bw h;have e:=e.bw h;have k:=btr k h;refine Zm O<|Ze (Xj (vs:=[.agg #[vi ((rDiv1 x).a),vi ((rDiv1 x).b),vi ((rDiv1 x).c),vi ((rDiv1 x).d)],.bool (rDiv2 x)]) O O)<|Ze (Xj (vs:=[.agg #[vi ((rDiv1 x).a),vi ((rDiv1 x).b),vi ((rDiv1 x).c),vi ((rDiv1 x).d)],.bool (rDiv2 x)]) O O)<|Zo (Vw [vi ((rDiv1 x).a),vi ((rDiv1 x).b),vi ((rDiv1 x).c),vi ((rDiv1 x).d)] X2a f) ?_;rintro _ b4 ⟨C,D⟩;have e:=e.oz C f O;have k:=Below.oy k C N;have f:=D;clear D C;refine Zt aH fun a g=>?_;refine Zr g<|Zm O<|Ze (X1c O O Z Z)<|Za O ?_;refine Zn fun a g=>?_;refine X6 ?_
  rw [rDiv1,rDiv2,Q,aG,Bool.and_self,Q4 rfl] at f
  refine Xc ?_;exact ⟨(rHalf x,i-1),⟨g.sb,(by rw [<- I];exact (X43 Z aG).symm),Z,(X63 Q),f,e,k⟩,O0⟩
 have aI:dLow x i=⟨x,i⟩:=X2w (by intro h0;have:=B;revert this;simp [h0])
 refine Q9<|Xg<|Xg<|X01 ?_;refine aD _ _<|Zs g fun _ aJ=>?_;refine Ze (Vn X0j f)<|Zm O<|Ze (Xt (ps:=[(0,.agg #[vi x.a,vi x.b,vi x.c,vi x.d]),(1,vi i)]) (cs:=[vi x.a,vi x.b,vi x.c,vi x.d,vi i]) O (fun _=>by first|rfl|kernel_rfl)) ?_;refine ZB [vi x.a,vi x.b,vi x.c,vi x.d,vi i] X3d X0i fun b22 b5 aK h p=>?_
 have aL:L≠b22:=by have:=e.lt;omega
 have aY:=Q0 k.size aK;have e:=e.bw h;have k:=btr k h;refine ZX aJ fun a g _ aM=>?_;refine X0p (fun a w=>Fr a 46 [(4,(pZ9 L)),(5,.bool (b&&(dOk (⟨x,i⟩ : Dy))))]/\Blk w L 78 [vi x.a,vi x.b,vi x.c,vi x.d,vi i]/\Blk w b22 78 [vi x.a,vi x.b,vi x.c,vi x.d,vi i]/\Below J.heap.size J w) ?_ ?_
 ·refine Xl none (fun j=>[6].contains j) mixed ?_;intro b6 h;have e:=e.bw h;have p:=p.bw h;have k:=btr k h;refine Yb g<|Ye 0 O (Vn X04 p)<|Yo 1 O (fun _=>X3 O)<|Yo 2 O (fun _=>X3 O) ?_
  refine Yl 42 O (fun u=>?_) (fun u=>?_)
  ·refine Yv 3 O (gW u) (Vn X04 p) ?_;refine Y1 4<|Yk O ⟨_,_,O,O,u⟩ (Vc (Y39 _ (⟨x,i⟩ : Dy)) Xw5) (fun _ _ ⟨_,h⟩=>h) ?_;rintro _ b7 ⟨rfl,h⟩;have e:=e.bw h;have p:=p.bw h;have k:=btr k h;refine Yo 5 O (fun _=>Xa O u O)<|Y1 6 ?_;refine Yh O tv0 O (Vw [vi x.a,vi x.b,vi x.c,vi x.d,vi i] X0i e) ?_;rintro _ b8 ⟨C,D⟩;have p:=p.oy C Z;have k:=Below.oy k C E;have e:=D;clear D C;refine Yo 7 O (fun _=>X19 O) ?_;refine Yd fun a g=>?_;exact ⟨g.sub ⟨O,X1 O (by first|rfl|(simp only [o,q,B,u,bs];done)|simp [o,q,B,u]),trivial⟩,e,p,k⟩
  refine Yp 3 O (gP u) ?_;refine Y1 4<|Yq O ⟨_,_,O,O,u⟩ ?_;refine Yo 5 O (fun _=>Xh O u O)<|Y1 6 ?_;refine Yh O tv0 O (Vw [vi x.a,vi x.b,vi x.c,vi x.d,vi i] X0i e) ?_;rintro _ b9 ⟨C,D⟩;have p:=p.oy C Z;have k:=Below.oy k C E;have e:=D;clear D C;refine Yo 7 O (fun _=>X19 O) ?_;refine Yd fun a g=>?_;exact ⟨g.sub ⟨O,X1 O (by first|rfl|(simp only [o,q,B,u,bs];done)|simp [o,q,B,u]),trivial⟩,e,p,k⟩
 rintro a bC ⟨g,e,p,k⟩;refine aM _ _ ?_
 refine Q6 (X4 g (X2u g O (ResV.cellN (l:=[vi x.a,vi x.b,vi x.c,vi x.d,vi i]) O X04 (e.at 0) O) O) ?_)
 exact ⟨⟨x,i⟩,by rw [<- Xnb G H aC a7.2.2 I aI],fun d hd=>Xnc G H aC a7.2.2 I aI hd,k⟩
theorem Y02(w0:World)(u:Oc)(d:∀ k,k<8->0<=u.f k/\u.f k<=1000000) : Ret Tryz.prog 82 [.agg #[vi (u.f 0),vi (u.f 1),vi (u.f 2),vi (u.f 3),vi (u.f 4),vi (u.f 5),vi (u.f 6),vi (u.f 7)]] w0 (fun v w=>v=rV (oSum u)/\Below w0.heap.size w0 w):=by
 have h0:=d 0 O4
 have h1:=d 1 O4
 have h2:=d 2 O4
 have h3:=d 3 O4
 have h4:=d 4 O4
 have h5:=d 5 O4
 have h6:=d 6 O4
 have h7:=d 7 O4
 refine enter Tryz.func82 O 24 O O ?_;intro a hf
 have c:=bz w0
 refine Zs hf fun _ a8=>?_;refine Zf (X0u (zs:=[vi (u.f 0),vi (u.f 1),vi (u.f 2),vi (u.f 3),vi (u.f 4),vi (u.f 5),vi (u.f 6),vi (u.f 7)]) O O) ?_;rintro _ w1 ⟨b2,rfl,aA,hE,b⟩;have aD:=Q0 c.size aA;have c:=btr c hE;refine Zf (X03 (zs:=[vi 0,vi 0,vi 0,vi 0]) X4u O) ?_;rintro _ w2 ⟨b3,rfl,aB,hE,a6⟩;have a7:=Q0 c.size aB;have b:=b.bw hE;have c:=btr c hE;refine Zx a8 fun a hf _ aC=>?_;refine Ze (X37 (k:=0) (sz:=1) O O Tryz.underlying128 X0e O O4 (m:=0) O)<|Ze (X0 O X2 (b.at 0))<|Ze (X37 (k:=4) (sz:=1) O O Tryz.underlying128 X0e O O4 (m:=4) O)<|Ze (X0 O X2 (b.at 4))<|Ze (X1c O O Z Z)<|Ze (X37 (k:=1) (sz:=1) O O Tryz.underlying128 X0e O O4 (m:=1) O)<|Ze (X0 O X2 (b.at 1))<|Ze (X37 (k:=5) (sz:=1) O O Tryz.underlying128 X0e O O4 (m:=5) O)<|Ze (X0 O X2 (b.at 5))<|Ze (X1c O O Z Z) ?_;refine Ze (X37 (k:=2) (sz:=1) O O Tryz.underlying128 X0e O O4 (m:=2) O)<|Ze (X0 O X2 (b.at 2))<|Ze (X37 (k:=6) (sz:=1) O O Tryz.underlying128 X0e O O4 (m:=6) O)<|Ze (X0 O X2 (b.at 6))<|Ze (X1c O O Z Z)<|Ze (X37 (k:=3) (sz:=1) O O Tryz.underlying128 X0e O O4 (m:=3) O)<|Ze (X0 O X2 (b.at 3))<|Ze (X37 (k:=7) (sz:=1) O O Tryz.underlying128 X0e O O4 (m:=7) O)<|Ze (X0 O X2 (b.at 7))<|Ze (X1c O O Z Z) ?_;refine Ze (Xt (ps:=[(0,vi ((u.f 0)-(u.f 4))),(1,vi ((u.f 1)-(u.f 5))),(2,vi ((u.f 2)-(u.f 6))),(3,vi ((u.f 3)-(u.f 7)))]) (cs:=[vi ((u.f 0)-(u.f 4)),vi ((u.f 1)-(u.f 5)),vi ((u.f 2)-(u.f 6)),vi ((u.f 3)-(u.f 7))]) O (fun _=>by first|rfl|kernel_rfl))<|Zo (Vw [vi ((u.f 0)-(u.f 4)),vi ((u.f 1)-(u.f 5)),vi ((u.f 2)-(u.f 6)),vi ((u.f 3)-(u.f 7))] X2a a6) ?_;rintro _ w3 ⟨ho,hb⟩
 have c:=Below.oy c ho a7;have a6:=hb;refine Zt aC fun a hf=>?_
 refine Q6 (X4 hf (Xo hf O (ResV.cellN (l:=[vi ((u.f 0)-(u.f 4)),vi ((u.f 1)-(u.f 5)),vi ((u.f 2)-(u.f 6)),vi ((u.f 3)-(u.f 7))]) O X0j (a6.at 0) O)) ?_)
 exact ⟨O,c⟩
theorem Xz0(Q:World)(d:Dg)(md:Nat)(aV:md=d.ns.length)(Ad:Option Addr)(cd:Nat)(aA:Rd Q Q.heap.size 64 encNd Ad d.ns)(Bd:Option Addr)(dd:Nat)(aJ:Rd Q Q.heap.size 72 encWr Bd d.ws)(D:d.ws.length<=dd)(i:Int)(j:Int)(Al:Option Addr)(cl:Nat)(l:List Int)(aW:Rd Q Q.heap.size 3 encI Al l)(hG:goodD d=true)(aX:(((spL d.ns).length:Nat) : Int)+2*d.n<=16)(aY:l=spL d.ns) : Ret Tryz.prog 34 [.agg #[vi d.n,.slice Ad md cd,.slice Bd d.ws.length dd,vi d.t,vi d.r],vi i,vi j,.slice Al l.length cl] Q (fun v w=>∃ c:Dy,v=.tuple #[dV c,.bool (sclI (smD d (bdB d i j)) (exD d)).isSome]/\(∀ y,sclI (smD d (bdB d i j)) (exD d)=some y->c=y)/\Below Q.heap.size Q w):=by
 subst aV
 have hD:=X3k hG;have cX:=hD.len;have cY:=hD.m;have cZ:=X22 hG;have cE:=Xi4 d.ns
 have aZ:l.length=(spL d.ns).length:=by rw [aY]
 have cG:=Xn0 aX Z
 rw [<- aZ] at cG
 have cH:-60<=hdN d.ws-d.r/\hdN d.ws-d.r<=1700:=Xkt hG
 have d5:=Xhi d.ws
 have d6:(List.replicate d.ns.length (0:Int)).length=d.ns.length:=List.length_replicate
 refine enter Tryz.func34 O 105 O O ?_;intro a A
 have B:=bz Q
 refine Zs A fun _ cI=>?_;refine Zf (X0u (zs:=[vi d.n,.slice Ad d.ns.length cd,.slice Bd d.ws.length dd,vi d.t,vi d.r]) O O) ?_;rintro _ w1 ⟨b5,rfl,cJ,C,o⟩;have cS:=Q0 B.size cJ;have B:=btr B C;refine Zf (X03 (zs:=[vi 0,vi 0,vi 0,vi 0,vi 0]) X3d O) ?_;rintro _ w2 ⟨b6,rfl,cK,C,z⟩;have b0:=Q0 B.size cK;have o:=o.bw C;have B:=btr B C;refine Za O<|Zx cI fun a A _ cL=>?_;refine Ze (Vd O Xi 1)<|Ze (X0 O X0b (o.at 1))<|Ze (X11 O Xp)<|Zf (X41 (m:=d.ns.length) (enc:=encI) (z0:=0) O O Xy X2j z_3 O Xn (by first|omega|(simp only [maxLen];omega)) Z) ?_;rintro _ w3 ⟨b8,rfl,cM,C,h⟩;have aB:=Q0 B.size cM;have o:=o.bw C;have z:=z.bw C;have B:=btr B C;refine Ze (Xt (ps:=[]) (cs:=[vi 0,vi 0,vi 0,vi 0,vi 0,vi 0,vi 0,vi 0]) O (fun _=>by first|rfl|kernel_rfl))<|Zf (X03 (zs:=[vi 0,vi 0,vi 0,vi 0,vi 0,vi 0,vi 0,vi 0]) Xy5 O) ?_;rintro _ w4 ⟨a7,rfl,b2,C,g⟩;have aC:=Q0 B.size b2;have o:=o.bw C;have z:=z.bw C;have h:=h.bw C;have B:=btr B C;refine Za O<|Zo (Vw [vi 0,vi 0,vi 0,vi 0,vi 0,vi 0,vi 0,vi 0] Xru g) ?_;rintro _ w5 ⟨E,hb⟩;have o:=o.oz E g O;have z:=z.oz E g O;have h:=h.oz E g O;have B:=Below.oy B E aC;have g:=hb;refine ZX cL fun a A _ b3=>?_;refine Zs A fun _ b4=>?_;refine Ze (Vd O Xi 1)<|Ze (X0 O X0b (o.at 1))<|Ze (X11 O Xp)<|Zm O<|Zt b4 fun a A=>?_;refine Q8<|X00 (σ:=Nat×(List Int)) (fun (s:Nat×(List Int)) (a:Act) (w:World)=>match s with|(k,m)=>Fr a 105 [(1,vi i),(2,vi j),(3,.slice Al l.length cl),(4,(pZ9 b5)),(8,(pZ9 b6)),(10,.slice (some ⟨b8,0,none⟩) d.ns.length d.ns.length),(11,(pZ9 a7)),(25,.slice Ad d.ns.length cd),(26,vi (d.ns.length:Int)),(27,vi (k:Int))]/\(k<=d.ns.length)/\(m=bsO (cutB (bdB d i j) k) d.ns.length)/\Blk w b5 31 [vi d.n,.slice Ad d.ns.length cd,.slice Bd d.ws.length dd,vi d.t,vi d.r]/\Blk w b6 78 [vi 0,vi 0,vi 0,vi 0,vi 0]/\Blk w b8 3 (m.flatMap encI)/\Blk w a7 128 [vi 0,vi 0,vi 0,vi 0,vi 0,vi 0,vi 0,vi 0]/\d.ws.length<=dd/\Below Q.heap.size Q w) (fun (s:Nat×(List Int))=>match s with|(k,m)=>d.ns.length-k) (0,List.replicate d.ns.length 0) ?_ ?_
 ·exact ⟨A.sb,(Qf _),(Xt2 _ _).symm,o,z,h,g,D,B⟩
 rintro ⟨k,m⟩ a w6 ⟨A,hk,hm,o,z,h,g,D,B⟩;refine Zs A fun _ b7=>?_;refine Ze (X1a O O)<|ZX b7 fun a A _ b9=>?_
 refine X0z A O (fun aL aD=>?_) (fun aL aD=>?_)
 ·obtain ⟨d7,cT⟩:=X8 (l:=d.ns) (k:=k) Z
  obtain ⟨u9,a8⟩:=X8 (l:=d.ns) (k:=k) (by have:=aD;omega)
  refine Q7<|b9 _ _<|Q5 fun _ aE=>?_;refine Q8<|Zs A fun _ bC=>?_;refine Zm O<|Zi (k:=k) (u:=u9) (enc:=encNd) (l:=d.ns) tv0 O O Xp X0g X02 (aA.bx B) a8 Z ?_;intro d8 aM;refine Ze (X09 (l:=[vi u9.k,vi u9.p]) O X23 aM O)<|Zf (X03 (zs:=[vi 0,vi 0]) X40 O) ?_;rintro _ w7 ⟨dA,rfl,bD,C,G⟩;have aN:=Q0 B.size bD;have o:=o.bw C;have z:=z.bw C;have h:=h.bw C;have g:=g.bw C;have B:=btr B C;refine Za O<|Zo (Vw [vi u9.k,vi u9.p] X0g G) ?_;rintro _ w8 ⟨E,hb⟩;have o:=o.oz E G O;have z:=z.oz E G O;have h:=h.oz E G O;have g:=g.oz E G O;have B:=Below.oy B E aN;have G:=hb;refine Zx bC fun a A _ bE=>?_;refine Ze (Vd O X0y 0)<|Ze (X0 O X2 (G.at 0))<|Zt bE fun a A=>?_;refine Q8<|Zs A fun _ bF=>?_;refine Ze (X0f O O)<|Za O<|Zt bF fun a A=>?_
  refine Xz A O (fun W=>?_) (fun W=>?_)
  ·have aO:=Y0o (i:=i) (j:=j) a8 W
   have cN:=Xom hG a8 (.inl (by simpa using W))
   have I:bsO (cutB (bdB d i j) (k+1)) d.ns.length=m.set k (bitF d.n j u9.p):=by rw [aO,hm];exact (X8w _ _ _).symm
   refine Zr A<|Zm O<|Zm O<|Ze (Vd O X1e 0)<|Ze (X0 O X2 (o.at 0))<|Zm O<|Ze (Vd O X0x 1)<|Ze (X0 O X2 (G.at 1))<|Zf (Vc (Xyj _ d.n j u9.p Z Z Z) Xl3) ?_;rintro _ _ ⟨rfl,rfl⟩;refine Ze (X5b (k:=k) (off:=k*1) O O Xy X0e O (by first|(rw [hm,X3b];omega)|omega) O)<|Zo (X4v (enc:=encI) (l:=m) (u:=bitF d.n j u9.p) (k:=k) O O X0e h Xn X33 O (by first|(rw [hm,X3b];omega)|omega)) ?_;rintro _ w9 ⟨E,hb⟩;have o:=o.oz E h O;have z:=z.oz E h O;have g:=g.oz E h O;have B:=Below.oy B E aB;have h:=hb;refine Zn fun a A=>?_;refine X6<|X6<|aE _ _<|Zr A ?_;refine Ze (Xr O O Z Z)<|Zm O ?_;refine Zn fun a A=>?_;refine Xc ?_;exact ⟨(k+1,(m.set k (bitF d.n j u9.p))),⟨A.sb,Z,I.symm,o,z,h,g,D,B⟩,O0⟩
  have bG:=W;refine Zs A fun _ bH=>?_;refine Ze (X0f O O)<|Za O<|Zt bH fun a A=>?_
  refine Xz A O (fun a6=>?_) (fun a6=>?_)
  ·have aO:=Y0p (i:=i) (j:=j) a8 bG a6
   have cN:=Xom hG a8 (.inr (by simpa using a6))
   have I:bsO (cutB (bdB d i j) (k+1)) d.ns.length=m.set k (bitF d.n i u9.p):=by rw [aO,hm];exact (X8w _ _ _).symm
   refine Zr A<|Zm O<|Zm O<|Ze (Vd O X1e 0)<|Ze (X0 O X2 (o.at 0))<|Zm O<|Ze (Vd O X0x 1)<|Ze (X0 O X2 (G.at 1))<|Zf (Vc (Xyj _ d.n i u9.p Z Z Z) Xl3) ?_;rintro _ _ ⟨rfl,rfl⟩;refine Ze (X5b (k:=k) (off:=k*1) O O Xy X0e O (by first|(rw [hm,X3b];omega)|omega) O)<|Zo (X4v (enc:=encI) (l:=m) (u:=bitF d.n i u9.p) (k:=k) O O X0e h Xn X33 O (by first|(rw [hm,X3b];omega)|omega)) ?_;rintro _ dB ⟨E,hb⟩;have o:=o.oz E h O;have z:=z.oz E h O;have g:=g.oz E h O;have B:=Below.oy B E aB;have h:=hb;refine Zn fun a A=>?_;refine X6<|X6<|aE _ _<|Zr A ?_;refine Ze (Xr O O Z Z)<|Zm O ?_;refine Zn fun a A=>?_;refine Xc ?_;exact ⟨(k+1,(m.set k (bitF d.n i u9.p))),⟨A.sb,Z,I.symm,o,z,h,g,D,B⟩,O0⟩
  have cO:=Y0n (i:=i) (j:=j) a8 bG a6
  have I:bsO (cutB (bdB d i j) (k+1)) d.ns.length=m:=by rw [hm,Xdl cO]
  refine Q7<|X6<|X6<|aE _ _ ?_;refine Zr A<|Ze (Xr O O Z Z)<|Zm O ?_;refine Zn fun a A=>?_;refine Xc ?_;exact ⟨(k+1,m),⟨A.sb,Z,I.symm,o,z,h,g,D,B⟩,O0⟩
 have cP:m=bsO (bdB d i j) d.ns.length:=by rw [hm];exact Xgn (by have:=aD;omega)
 refine Q9<|Xg<|Xg<|X01 ?_;refine b3 _ _<|Q5 fun _ bJ=>?_;refine Zs A fun _ bK=>?_;refine Zm O<|Ze (X11 O Xy)<|Ze (Vx (Xbk (m:=l.length) O O O Z) (Xa7 Z))<|Zm O<|Zt bK fun a A=>?_;refine Q8<|X00 (σ:=Nat×(Nat->Bool)×(List Int)×(List Int)) (fun (s:Nat×(Nat->Bool)×(List Int)×(List Int)) (a:Act) (w:World)=>match s with|(n,be,r,ct)=>Fr a 105 [(3,.slice Al l.length cl),(4,(pZ9 b5)),(8,(pZ9 b6)),(10,.slice (some ⟨b8,0,none⟩) d.ns.length d.ns.length),(11,(pZ9 a7)),(59,vi ((2^l.length:Nat) : Int)),(60,vi (n:Int))]/\(n<=2^l.length)/\(r=bsO be d.ns.length)/\(∀ x,x ∉ spS d.ns->be x=(bdB d i j) x)/\(Tl d i j n ct)/\Blk w b5 31 [vi d.n,.slice Ad d.ns.length cd,.slice Bd d.ws.length dd,vi d.t,vi d.r]/\Blk w b6 78 [vi 0,vi 0,vi 0,vi 0,vi 0]/\Blk w b8 3 (r.flatMap encI)/\Blk w a7 128 (ct.flatMap encI)/\d.ws.length<=dd/\Below Q.heap.size Q w) (fun (s:Nat×(Nat->Bool)×(List Int)×(List Int))=>match s with|(n,be,r,ct)=>2^l.length-n) (0,(bdB d i j),m,[0,0,0,0,0,0,0,0]) ?_ ?_
 ·exact ⟨A.sb,(Qf _),cP,(fun _ _=>rfl),(Y4r d i j),o,z,h,g,D,B⟩
 rintro ⟨n,be,r,ct⟩ a dC ⟨A,hn,hr,aP,U,o,z,h,g,D,B⟩;refine Zs A fun _ bL=>?_;refine Ze (X1a O O)<|ZX bL fun a A _ bM=>?_
 refine X0z A O (fun aQ aF=>?_) (fun aQ aF=>?_)
 ·have dD:n<2^l.length:=by have:=aF;omega
  refine Q7<|bM _ _<|Q5 fun _ aK=>?_;refine Q8<|Zs A fun _ bN=>?_;refine Zm O<|Za O<|ZX bN fun a A _ bO=>?_;refine Zs A fun _ bP=>?_;refine Zm O<|Ze (X11 O Xy)<|Zm O<|Zt bP fun a A=>?_;refine Q8<|X00 (σ:=Nat×(List Int)) (fun (s:Nat×(List Int)) (a:Act) (w:World)=>match s with|(q,H)=>Fr a 105 [(3,.slice Al l.length cl),(4,(pZ9 b5)),(8,(pZ9 b6)),(10,.slice (some ⟨b8,0,none⟩) d.ns.length d.ns.length),(11,(pZ9 a7)),(14,vi (n:Int)),(59,vi ((2^l.length:Nat) : Int)),(60,vi (n:Int)),(63,.slice Al l.length cl),(64,vi (l.length:Int)),(65,vi (q:Int))]/\(q<=l.length)/\(H=bsO (asK ((spS d.ns).take q) n be) d.ns.length)/\Blk w b5 31 [vi d.n,.slice Ad d.ns.length cd,.slice Bd d.ws.length dd,vi d.t,vi d.r]/\Blk w b6 78 [vi 0,vi 0,vi 0,vi 0,vi 0]/\Blk w b8 3 (H.flatMap encI)/\Blk w a7 128 (ct.flatMap encI)/\d.ws.length<=dd/\Below Q.heap.size Q w) (fun (s:Nat×(List Int))=>match s with|(q,H)=>l.length-q) (0,r) ?_ ?_
  ·exact ⟨A.sb,(Qf _),hr,o,z,h,g,D,B⟩
  rintro ⟨q,H⟩ a dE ⟨A,hq,aH,o,z,h,g,D,B⟩;refine Zs A fun _ bQ=>?_;refine Ze (X1a O O)<|ZX bQ fun a A _ bR=>?_
  refine X0z A O (fun aR aG=>?_) (fun aR aG=>?_)
  ·obtain ⟨dF,cU⟩:=X8 (l:=l) (k:=q) Z
   obtain ⟨x8,bS⟩:=X8 (l:=spS d.ns) (k:=q) (by have:=aG;omega)
   have aS:=Xno bS
   rw [<- aY] at aS
   have cV:=aS.2;have I:=Xgi (β:=be) (N:=d.ns.length) (m:=n) bS
   rw [<- aH] at I
   refine Q7<|bR _ _<|Q5 fun _ bU=>?_;refine Q8<|Zs A fun _ bW=>?_;refine Zm O<|Zi (k:=q) (u:=((x8:Nat) : Int)) (enc:=encI) (l:=l) tv0 O O Xy X0e Xn (aW.bx B) aS.1 O ?_;intro dG aT;refine Ze (X0 O X2 aT)<|Za O<|Za O<|Zt bW fun a A=>?_;refine Zr A<|Zm O<|Zm O<|Zm O<|Zm O<|Ze (Xod (m:=q) O O O Z)<|Ze (Vx (Xjq O O) (Xe7 Z))<|Ze (X5b (k:=x8) (off:=x8*1) O O Xy X0e O (by first|(rw [aH,X3b];omega)|omega) O)<|Zo (X4v (enc:=encI) (l:=H) (u:=(b1 (n.testBit q))) (k:=x8) O O X0e h Xn X33 O (by first|(rw [aH,X3b];omega)|omega)) ?_;rintro _ dH ⟨E,hb⟩;have o:=o.oz E h O;have z:=z.oz E h O;have g:=g.oz E h O;have B:=Below.oy B E aB;have h:=hb;refine Zn fun a A=>?_;refine X6<|bU _ _<|Zr A<|Ze (Xr O O Z Z)<|Zm O ?_;refine Zn fun a A=>?_;refine Xc ?_;exact ⟨(q+1,(H.set x8 (b1 (n.testBit q)))),⟨A.sb,Z,I,o,z,h,g,D,B⟩,O0⟩
  have aI:H=bsO (asK (spS d.ns) n be) d.ns.length:=by rw [aH,Qi (by have:=aG;omega)]
  have bX:H=bsO (asK (spS d.ns) n (bdB d i j)) d.ns.length:=by rw [aI,Xbl _ _ aP]
  have L:=bX.symm;refine Q9<|Xg<|Xg<|X01 ?_;refine bO _ _<|Zs A fun _ bY=>?_;refine Ze (Vn Xm o)<|Zm O<|Zf (Vc (Xzf _ d d.ns.length O Ad cd (aA.bx B).top Bd dd (aJ.bx B).top D (some ⟨b8,0,none⟩) d.ns.length H d.ns.length (Rd.of_blk h O _ h.lt) (by rw [aI,X3b]) hG (asK (spS d.ns) n (bdB d i j)) bX) Xqg) ?_;rintro _ dI ⟨rfl,C⟩;have o:=o.bw C;have z:=z.bw C;have h:=h.bw C;have g:=g.bw C;have B:=btr B C;refine Zm O<|Ze (Xj (vs:=[vi (fcL d H),.bool (d.ws.all (okL H))]) O O)<|Ze (Xj (vs:=[vi (fcL d H),.bool (d.ws.all (okL H))]) O O)<|Za O<|Za O<|Zx bY fun a A _ bZ=>?_;refine Zm O<|Zt bZ fun a A=>?_
  refine Xz A O (fun M=>?_) (fun M=>?_)
  ·have cA:=Xkw hG (asK (spS d.ns) n (bdB d i j)) (by rw [L];exact M)
   rw [L] at cA
   have cB:=Xad hG (asK (spS d.ns) n (bdB d i j))
   rw [L] at cB
   have dJ:0<=(fcL d H+d.t).tmod 8/\(fcL d H+d.t).tmod 8<=7:=by
    rw [cA.2]
    rcases cB with h9|h9
    ·exact ⟨h9.2.1,h9.2.2.1⟩
    ·have h8:=h9.1;rw [M] at h8;cases h8
   have I:=U.y hG (by rw [L];exact M) (e:=(fcL d H+d.t).tmod 8) (by rw [L])
   have dK:=U.bd ((fcL d H+d.t).tmod 8).toNat;have cW:=U.len;refine Zr A<|Zm O<|Ze (Vd O X0w 3)<|Ze (X0 O X2 (o.at 3))<|Ze (Xr O O Z Z)<|Ze (X4n O O O)<|Ze (X37 (k:=((fcL d H+d.t).tmod 8).toNat) O O Tryz.underlying128 X0e Z Z (Nat.zero_add _))<|Ze (Xuk (enc:=encI) (l:=ct) (u:=(ct.getD ((fcL d H+d.t).tmod 8).toNat 0)) (k:=((fcL d H+d.t).tmod 8).toNat) O X2 g Xn (X5y Z) O)<|Ze (Xr O O Z Z)<|Ze (X37 (k:=((fcL d H+d.t).tmod 8).toNat) O O Tryz.underlying128 X0e Z Z (Nat.zero_add _))<|Zo (X4v (enc:=encI) (l:=ct) (u:=(ct.getD ((fcL d H+d.t).tmod 8).toNat 0)+1) (k:=((fcL d H+d.t).tmod 8).toNat) O O X0e g Xn X33 O Z) ?_;rintro _ dL ⟨E,hb⟩;have o:=o.oz E g O;have z:=z.oz E g O;have h:=h.oz E g O;have B:=Below.oy B E aC;have g:=hb;refine Zn fun a A=>?_;refine X6<|aK _ _<|Zr A<|Ze (Xr O O Z Z)<|Zm O ?_;refine Zn fun a A=>?_;refine Xc ?_;exact ⟨(n+1,(asK (spS d.ns) n be),H,(ct.set (((fcL d H+d.t).tmod 8).toNat) ((ct.getD ((fcL d H+d.t).tmod 8).toNat 0)+1))),⟨A.sb,Z,aI,(fun x hx=>by rw [X9k _ _ _ hx];exact aP x hx),I,o,z,h,g,D,B⟩,O0⟩
  have I:=U.n hG (by rw [L];exact M)
  refine Q7<|X6<|aK _ _<|Zr A ?_;refine Ze (Xr O O Z Z)<|Zm O ?_;refine Zn fun a A=>?_;refine Xc ?_;exact ⟨(n+1,(asK (spS d.ns) n be),H,ct),⟨A.sb,Z,aI,(fun x hx=>by rw [X9k _ _ _ hx];exact aP x hx),I,o,z,h,g,D,B⟩,O0⟩
 have cQ:n=2^(spS d.ns).length:=by have:=aF;rw [cE,<- aZ];omega
 have aU:oSum (oF ct)=(smD d (bdB d i j)):=by rw [U.sum,cQ];exact Xel _ _ _
 have cR:rOk (oSum (oF ct))=true:=by rw [aU];exact Xem hG aX _
 rw [fl8 U.len] at g
 refine Q9<|Xg<|Xg<|X01 ?_;refine bJ _ _<|Q5 fun _ cC=>?_;refine Xl none (fun j=>[10].contains j) mixed ?_;intro dM C;have o:=o.bw C;have z:=z.bw C;have g:=g.bw C;have B:=btr B C;refine Yb A<|Ye 0 O (Vn Xrv g)<|Ye 2 O (Vn Xm o)<|Yo 4 O (fun _=>Vd O X1f 4)<|Ye 5 O (X0 O X2 (o.at 4))<|Y1 1 ?_;refine Yk O tv0 (X2b (vs:=[.agg #[vi ((oF ct).f 0),vi ((oF ct).f 1),vi ((oF ct).f 2),vi ((oF ct).f 3),vi ((oF ct).f 4),vi ((oF ct).f 5),vi ((oF ct).f 6),vi ((oF ct).f 7)]]) O Xpm (Y02 _ (oF ct) (fun k _=>by have:=U.bd k;show 0<=ct.getD k 0/\ct.getD k 0<=1000000;omega))) (fun _ _ ⟨_,C⟩=>C) ?_;rintro _ dN ⟨rfl,C⟩;have z:=z.bw C;have B:=btr B C;refine Y1 3<|Yk O tv0 (Vc (Xzg _ d d.ns.length O Ad cd (aA.bx B).top Bd dd (aJ.bx B).top D Z) Xqh) (fun _ _ ⟨_,C⟩=>C) ?_;rintro _ dO ⟨rfl,C⟩;have z:=z.bw C;have B:=btr B C;refine Yo 6 O (fun _=>X1c O O Z Z)<|Y1 7 ?_;refine Yk O tv0 (X2b (vs:=[.agg #[vi ((oSum (oF ct)).a),vi ((oSum (oF ct)).b),vi ((oSum (oF ct)).c),vi ((oSum (oF ct)).d)],vi ((hdN d.ws)-d.r)]) O Xpl (Y01 _ (oSum (oF ct)) ((hdN d.ws)-d.r) cH cR)) (fun _ _ ⟨J,_,cD,C⟩=>C) ?_;rintro _ dP ⟨J,rfl,cD,C⟩;have z:=z.bw C;have B:=btr B C;refine Yo 8 O (fun _=>Xj (vs:=[.agg #[vi J.num.a,vi J.num.b,vi J.num.c,vi J.num.d,vi J.exp],.bool ((sclI (oSum (oF ct)) ((hdN d.ws)-d.r)).isSome)]) O O)<|Yo 9 O (fun _=>Xj (vs:=[.agg #[vi J.num.a,vi J.num.b,vi J.num.c,vi J.num.d,vi J.exp],.bool ((sclI (oSum (oF ct)) ((hdN d.ws)-d.r)).isSome)]) O O)<|Y1 10 ?_;refine Yh O tv0 O (Vw [vi J.num.a,vi J.num.b,vi J.num.c,vi J.num.d,vi J.exp] X0i z) ?_;rintro _ dQ ⟨E,hb⟩
 have B:=Below.oy B E b0;have z:=hb;refine Yo 11 O (fun _=>X19 O) ?_;refine Yd fun a A=>?_;refine cC _ _ ?_
 refine Q6 (X4 A (X2u A O (ResV.cellN (l:=[vi J.num.a,vi J.num.b,vi J.num.c,vi J.num.d,vi J.exp]) O X04 (z.at 0) O) O) ?_)
 exact ⟨J,by rw [<- aU];rfl,by rw [<- aU];exact cD,B⟩
theorem Xyz(f:World)(i j:Nat)(d:Dg)(md:Nat)(a6:md=d.ns.length)(Ad:Option Addr)(cd:Nat)(a7:Rd f f.heap.size 64 encNd Ad d.ns)(Bd:Option Addr)(dd:Nat)(a8:Rd f f.heap.size 72 encWr Bd d.ws)(aA:d.ws.length<=dd)(Al:Option Addr)(cl:Nat)(l:List Int)(aB:Rd f f.heap.size 3 encI Al l)(ba bb:Nat)(m:Blk f ba 31 [vi d.n,.slice Ad md cd,.slice Bd d.ws.length dd,vi d.t,vi d.r])(o:Blk f bb 56 [.slice Al l.length cl])(hG:goodD d=true)(aD:(((spL d.ns).length:Nat) : Int)+2*d.n<=16)(aE:l=spL d.ns) : Ret Tryz.prog 33 [vi (i:Int),vi (j:Int),(pZ9 ba),(pZ9 bb)] f (fun v w=>∃ c:Dy,v=.tuple #[dV c,.bool (cellD d i j).isSome]/\(∀ y,cellD d i j=some y->c=y)/\Below f.heap.size f w):=by
 have aF:=m.lt;have aG:=o.lt;refine enter Tryz.func33 O 15 O O ?_;intro a hf
 have g:=bz f
 refine Zs hf fun _ aH=>?_;refine Zf (X03 (zs:=[vi 0,vi 0,vi 0,vi 0,vi 0]) X3d O) ?_;rintro _ w1 ⟨b5,rfl,aI,hE,k⟩;have aC:=Q0 g.size aI;have m:=m.bw hE;have o:=o.bw hE;have g:=btr g hE;refine Za O<|Zx aH fun a hf _ aJ=>?_;refine Ze (X09 (l:=[vi d.n,.slice Ad md cd,.slice Bd d.ws.length dd,vi d.t,vi d.r]) O Xm (m.at 0) O)<|Zm O<|Zm O<|Ze (X0 O X2d (o.at 0))<|Zf (Vc (Xz0 _ d md a6 Ad cd (a7.bx g).top Bd dd (a8.bx g).top aA (i:Int) (j:Int) Al cl l (aB.bx g).top hG aD aE) Xq3) ?_;rintro _ w2 ⟨e,rfl,aK,hE⟩;have k:=k.bw hE;have g:=btr g hE;refine Ze (Xj (vs:=[.agg #[vi e.num.a,vi e.num.b,vi e.num.c,vi e.num.d,vi e.exp],.bool ((sclI (smD d (bdB d (i:Int) (j:Int))) (exD d)).isSome)]) O O)<|Ze (Xj (vs:=[.agg #[vi e.num.a,vi e.num.b,vi e.num.c,vi e.num.d,vi e.exp],.bool ((sclI (smD d (bdB d (i:Int) (j:Int))) (exD d)).isSome)]) O O)<|Zo (Vw [vi e.num.a,vi e.num.b,vi e.num.c,vi e.num.d,vi e.exp] X0i k) ?_;rintro _ w3 ⟨ho,hb⟩;have g:=Below.oy g ho aC;have k:=hb;refine Za O<|Zt aJ fun a hf=>?_
 refine Q6 (X4 hf (X2u hf O (ResV.cellN (l:=[vi e.num.a,vi e.num.b,vi e.num.c,vi e.num.d,vi e.exp]) O X04 (k.at 0) O) O) ?_)
 exact ⟨e,O,aK,g⟩
theorem Xs8(E:World)(d:Dg)(md:Nat)(aA:md=d.ns.length)(Ad:Option Addr)(cd:Nat)(z:Rd E E.heap.size 64 encNd Ad d.ns)(Bd:Option Addr)(dd:Nat)(h:Rd E E.heap.size 72 encWr Bd d.ws)(B:d.ws.length<=dd)(aL:d.ws.length<=1000000000)(hN:md<=1000) : Ret Tryz.prog 9 [.agg #[vi d.n,.slice Ad md cd,.slice Bd d.ws.length dd,vi d.t,vi d.r]] E (fun v w=>∃ A c,v=.tuple #[mV A c (((mnO d)).getD mZ),.bool ((mnO d)).isSome]/\Own w E.heap.size 78 5 encD A c (((mnO d)).getD mZ).cells/\Below E.heap.size E w):=by
 subst aA
 have aS:(spL d.ns).length<=d.ns.length:=X86 d.ns d.ns.length
 refine enter Tryz.func9 O 29 O O ?_;intro a o
 have e:=bz E
 refine Zs o fun _ aM=>?_;refine Zf (X0u (zs:=[vi d.n,.slice Ad d.ns.length cd,.slice Bd d.ws.length dd,vi d.t,vi d.r]) O O) ?_;rintro _ w1 ⟨b4,rfl,aN,g,f⟩;have aT:=Q0 e.size aN;have e:=btr e g;refine Zf (X03 (zs:=[vi 0,vi 0,.slice none 0 0]) X3a O) ?_;rintro _ w2 ⟨b6,rfl,aO,g,b⟩;have C:=Q0 e.size aO;have f:=f.bw g;have e:=btr e g;refine Za O<|ZX aM fun a o _ aP=>?_;refine Zs o fun _ aQ=>?_;refine Ze (Vn Xm f)<|Zf (Vc (Xg8 _ d d.ns.length O Ad cd (z.bx e).top Bd dd (h.bx e).top B aL) X91) ?_;rintro _ w3 ⟨rfl,g⟩;have f:=f.bw g;have b:=b.bw g;have e:=btr e g;refine Ze (X1w O)<|Zt aQ fun a o=>?_
 refine Xz o O (fun a6=>?_) (fun a6=>?_)
 ·have a7:mnO d=none:=Xm6 (by rw [<- X6o];have h8:=a6;simpa using h8)
  refine Zs o fun _ aB=>?_;refine Ze (Xt (ps:=[]) (cs:=[vi 0,vi 0,.slice none 0 0]) O (fun _=>by first|rfl|kernel_rfl))<|Zo (Vw [vi 0,vi 0,.slice none 0 0] X1o b) ?_;rintro _ w4 ⟨ho,hb⟩;have e:=Below.oy e ho C;have b:=hb;refine Za O<|Zt aB fun a o=>?_;refine Q6<|X7<|X4 o (X2u o O (ResV.cellN (l:=[vi 0,vi 0,.slice none 0 0]) O X1d (b.at 0) O) O) ?_
  rw [a7]
  exact ⟨none,0,O,(Own.nil _ _ _ _ _),e⟩
 have hG:goodD d=true:=by rw [<- X6o];have h8:=a6;simpa using h8
 have aU:=X22 hG;refine Q7<|aP _ _<|Zs o fun _ aC=>?_;refine Ze (Vn Xm f)<|Zf (Vc (Xyy _ d d.ns.length O Ad cd (z.bx e).top Bd dd (h.bx e).top B hN) Xq1) ?_;rintro _ w5 ⟨aD,aE,rfl,k,g⟩;have k:=k.lower e.size;have f:=f.bw g;have b:=b.bw g;have e:=btr e g;refine ZB [.slice aD (spL d.ns).length aE] Y4t Xid fun G w7 aF g q=>?_;have aR:=Q0 e.size aF;have f:=f.bw g;have b:=b.bw g;have k:=k.bw g;have e:=btr e g;refine ZX aC fun a o _ aG=>?_;refine Zs o fun _ aH=>?_;refine Ze (X0 O X2d (q.at 0))<|Ze (X11 O Xy)<|Ze (Vd O X1e 0)<|Ze (X0 O X2 (f.at 0))<|Ze (X5t O O Z Z)<|Ze (Xr O O Z Z)<|Ze (X4e O O)<|Zt aH fun a o=>?_
 refine X0z o O (fun a8 D=>?_) (fun a8 D=>?_)
 ·have a7:mnO d=none:=Xm7 (by have:=D;omega)
  refine Zs o fun _ aI=>?_;refine Ze (Xt (ps:=[]) (cs:=[vi 0,vi 0,.slice none 0 0]) O (fun _=>by first|rfl|kernel_rfl))<|Zo (Vw [vi 0,vi 0,.slice none 0 0] X1o b) ?_;rintro _ w8 ⟨ho,hb⟩;have e:=Below.oy e ho C;have b:=hb;refine Za O<|Zt aI fun a o=>?_;refine Q6<|X7<|X4 o (X2u o O (ResV.cellN (l:=[vi 0,vi 0,.slice none 0 0]) O X1d (b.at 0) O) O) ?_
  rw [a7]
  exact ⟨none,0,O,(Own.nil _ _ _ _ _),e⟩
 have aJ:(((spL d.ns).length:Nat) : Int)+2*d.n<=16:=by have:=D;omega
 have he:mnO d=matOf ((2^d.n.toNat:Nat) : Int) ((2^d.n.toNat:Nat) : Int) (cellD d):=by unfold mnO;rw [hG,Qw,Q4 (decide_eq_true aJ)]
 refine Q7<|aG _ _<|Q5 fun _ aK=>?_;refine Xl none (fun j=>[10].contains j) mixed ?_;intro w9 g;have f:=f.bw g;have b:=b.bw g;have q:=q.bw g;have k:=k.bw g;have e:=btr e g;refine Yb o<|Yo 0 O (fun _=>Vd O X1e 0)<|Ye 1 O (X0 O X2 (f.at 0))<|Yo 2 O (fun _=>Vx (Xbk (m:=d.n.toNat) O O Z Z) (Xa7 Z))<|Yo 3 O (fun _=>Vd O X1e 0)<|Ye 4 O (X0 O X2 (f.at 0))<|Yo 5 O (fun _=>Vx (Xbk (m:=d.n.toNat) O O Z Z) (Xa7 Z))<|Yo 6 O (fun _=>X6a (vs:=[(pZ9 b4),(pZ9 G)]) O)<|Y1 7 ?_;refine Yk O tv0 (X2b (vs:=[vi ((2^d.n.toNat:Nat) : Int),vi ((2^d.n.toNat:Nat) : Int),.func (.func 33) #[] #[(pZ9 b4),(pZ9 G)]]) O Xw4 (Y3k _ ((2^d.n.toNat:Nat) : Int) ((2^d.n.toNat:Nat) : Int) 33 [(pZ9 b4),(pZ9 G)] Xq2 (cellD d) (fun i j w' hi hj hE'=>Xyz w' i j d _ O Ad cd (((z.bx e).top).bw hE').top Bd dd (((h.bx e).top).bw hE').top B aD aE (spL d.ns) ((k.rd.top).bw hE').top b4 G (f.bw hE') (q.bw hE') hG aJ O))) (fun _ _ ⟨u,x,_,p,g⟩=>g) ?_;rintro _ aV ⟨u,x,rfl,p,g⟩;have p:=p.lower e.size;have b:=b.bw g;have e:=btr e g;refine Yo 8 O (fun _=>Xj (vs:=[.agg #[vi (((matOf ((2^d.n.toNat:Nat) : Int) ((2^d.n.toNat:Nat) : Int) (cellD d)).getD mZ).rows),vi (((matOf ((2^d.n.toNat:Nat) : Int) ((2^d.n.toNat:Nat) : Int) (cellD d)).getD mZ).cols),.slice u (((matOf ((2^d.n.toNat:Nat) : Int) ((2^d.n.toNat:Nat) : Int) (cellD d)).getD mZ).cells).length x],.bool ((matOf ((2^d.n.toNat:Nat) : Int) ((2^d.n.toNat:Nat) : Int) (cellD d)).isSome)]) O O)<|Yo 9 O (fun _=>Xj (vs:=[.agg #[vi (((matOf ((2^d.n.toNat:Nat) : Int) ((2^d.n.toNat:Nat) : Int) (cellD d)).getD mZ).rows),vi (((matOf ((2^d.n.toNat:Nat) : Int) ((2^d.n.toNat:Nat) : Int) (cellD d)).getD mZ).cols),.slice u (((matOf ((2^d.n.toNat:Nat) : Int) ((2^d.n.toNat:Nat) : Int) (cellD d)).getD mZ).cells).length x],.bool ((matOf ((2^d.n.toNat:Nat) : Int) ((2^d.n.toNat:Nat) : Int) (cellD d)).isSome)]) O O)<|Y1 10 ?_
 refine Yh O tv0 O (Vw [vi (((matOf ((2^d.n.toNat:Nat) : Int) ((2^d.n.toNat:Nat) : Int) (cellD d)).getD mZ).rows),vi (((matOf ((2^d.n.toNat:Nat) : Int) ((2^d.n.toNat:Nat) : Int) (cellD d)).getD mZ).cols),.slice u (((matOf ((2^d.n.toNat:Nat) : Int) ((2^d.n.toNat:Nat) : Int) (cellD d)).getD mZ).cells).length x] X1o b) ?_;rintro _ aW ⟨ho,hb⟩;have p:=p.oT ho b O;have e:=Below.oy e ho C;have b:=hb;refine Yo 11 O (fun _=>X19 O) ?_;refine Yd fun a o=>?_;refine aK _ _ ?_
 refine Q6 (X4 o (X2u o O (ResV.cellN (l:=[vi (((matOf ((2^d.n.toNat:Nat) : Int) ((2^d.n.toNat:Nat) : Int) (cellD d)).getD mZ).rows),vi (((matOf ((2^d.n.toNat:Nat) : Int) ((2^d.n.toNat:Nat) : Int) (cellD d)).getD mZ).cols),.slice u (((matOf ((2^d.n.toNat:Nat) : Int) ((2^d.n.toNat:Nat) : Int) (cellD d)).getD mZ).cells).length x]) O X1d (b.at 0) O) O) ?_)
 rw [he]
 exact ⟨u,x,O,p,e⟩
def Drq(w:World)(b B0:Nat)(A0:Option Addr)(c0:Nat)(BW:Option Addr)(eW:Nat)(A1:Option Addr)(c1:Nat)(A2:Option Addr)(c2 m n:Nat)(x:Br) : Prop:=
 Blk w b 119 [vi x.d.n,.slice A0 m c0,.slice BW x.d.ws.length eW,vi x.d.t,vi x.d.r,.slice A1 n c1,.slice A2 n c2]/\Own w B0 64 2 encNd A0 c0 x.d.ns/\Own w B0 72 3 encWr BW eW x.d.ws/\Own w B0 3 1 encI A1 c1 x.la/\Own w B0 4 1 encB A2 c2 x.hd/\m=x.d.ns.length/\n=x.la.length/\n=x.hd.length
theorem X9f(w0:World)(bV B0:Nat)(A0:Option Addr)(c0:Nat)(BW:Option Addr)(eW:Nat)(A1:Option Addr)(c1:Nat)(A2:Option Addr)(c2 m0 n0:Nat)(x:Br)(a7:Drq w0 bV B0 A0 c0 BW eW A1 c1 A2 c2 m0 n0 x)(aF:B0<=w0.heap.size)(q:Int)(hq:0<=q/\q.toNat<n0) : Ret Tryz.prog 106 [(pZ9 bV),vi q] w0 (fun v w=>∃ A c B e m,TurnS (SB bV [A0,BW,A1,A2]) w0 w/\Us (SB bV [A0,BW,A1,A2]) w0 A/\Us (SB bV [A0,BW,A1,A2]) w0 B/\Drq w bV B0 A c B e A1 c1 A2 c2 m n0 (flpB x q)):=by
 obtain ⟨f,i,o,p,b,a8,aA,a6⟩:=a7;have aE:=f.lt
 have aB:Us (SB bV [A0,BW,A1,A2]) w0 A0:=SB.us O5
 have aC:Us (SB bV [A0,BW,A1,A2]) w0 BW:=SB.us O5
 have aG:Us (SB bV [A0,BW,A1,A2]) w0 A1:=SB.us O5
 have aD:Us (SB bV [A0,BW,A1,A2]) w0 A2:=SB.us O5
 refine enter Tryz.func106 O 18 O O ?_;intro a hf
 have hW:TurnS (SB bV [A0,BW,A1,A2]) w0 w0:=TurnS.refl _ _
 refine Xl none (fun j=>[14].contains j) mixed ?_;intro w1 hE;have f:=f.bw hE;have i:=i.bw hE;have o:=o.bw hE;have p:=p.bw hE;have b:=b.bw hE;have hW:=tsbel hW hE;refine Yb hf<|Yo 0 O (fun _=>X3 O)<|Yo 1 O (fun _=>Xw O)<|Yo 2 O (fun _=>Vd O X1p 6)<|Ye 3 O (X0 O X27 (f.at 6))<|Yo 4 O (fun _=>X3 O)<|Yo 5 O (fun _=>X3 O)<|Yo 6 O (fun _=>Xw O)<|Yo 7 O (fun _=>Vd O X1p 6)<|Ye 8 O (X0 O X27 (f.at 6))<|Yo 9 O (fun _=>X3 O) ?_;refine Yo 10 O (fun _=>Xd (k:=q.toNat) O O X1t X2k b a6 Z Z)<|Ye 11 O (X0 O X4d (X17 b X0n (Xf (d:=false) Z) 0 O))<|Yo 12 O (fun _=>X1w O)<|Yo 13 O (fun _=>Xd (k:=q.toNat) O O X1t X2k b a6 Z Z)<|Y1 14 ?_;refine Yh O tv0 O (X0d (enc:=encB) (l:=x.hd) (vs:=[.bool (!(x.hd.getD q.toNat false))]) (x0:=(x.hd.getD q.toNat false)) (u:=!(x.hd.getD q.toNat false)) (k:=q.toNat) (j:=0) (n1:=1) O O X2k b X0n O O O O O4 (Xf (d:=false) Z) O) ?_;rintro _ w2 ⟨t,hg⟩;have g:=b;have f:=f.appT g hg O;have i:=i.appT g hg O;have o:=o.appT g hg O;have p:=p.appT g hg O;have hW:=tsrow hW hg aD
 clear g hg;clear b;have b:=t;clear t;refine Yd fun a hf=>?_;refine X1u hf (X2s O) ?_;exact ⟨A0,c0,BW,eW,m0,hW,aB,aC,⟨f,i,o,p,b,a8,aA,(a6.trans List.length_set.symm)⟩⟩
theorem Xsk(w0:World)(bV B0:Nat)(A0:Option Addr)(c0:Nat)(BW:Option Addr)(eW:Nat)(A1:Option Addr)(c1:Nat)(A2:Option Addr)(c2 m0 n0:Nat)(x:Br)(aH:Drq w0 bV B0 A0 c0 BW eW A1 c1 A2 c2 m0 n0 x)(aB:B0<=w0.heap.size)(k:Int)(p:Int)(q:Int)(hq:0<=q/\q.toNat<n0)(aQ:x.d.ns.length<=100000000/\x.d.ws.length<=100000000) : Ret Tryz.prog 68 [(pZ9 bV),vi k,vi p,vi q] w0 (fun v w=>∃ A c B e m,TurnS (SB bV [A0,BW,A1,A2]) w0 w/\Us (SB bV [A0,BW,A1,A2]) w0 A/\Us (SB bV [A0,BW,A1,A2]) w0 B/\Drq w bV B0 A c B e A1 c1 A2 c2 m n0 (nodB x k p q)):=by
 obtain ⟨b,H,h,g,i,aI,a6,a7⟩:=aH;have aO:=b.lt
 subst aI
 have aC:Us (SB bV [A0,BW,A1,A2]) w0 A0:=SB.us O5
 have aR:Us (SB bV [A0,BW,A1,A2]) w0 BW:=SB.us O5
 have aJ:Us (SB bV [A0,BW,A1,A2]) w0 A1:=SB.us O5
 have aK:Us (SB bV [A0,BW,A1,A2]) w0 A2:=SB.us O5
 have aS:(x.d.ns++[(⟨k,p⟩ : Nd)]).length=x.d.ns.length+1:=by simp
 refine enter Tryz.func68 O 68 O O ?_;intro a J
 have C:TurnS (SB bV [A0,BW,A1,A2]) w0 w0:=TurnS.refl _ _
 refine Zs J fun _ aL=>?_;refine Zm O<|Zm O<|Ze (Xw O)<|Ze (Vd O Xu 0)<|Ze (Vd O Xi 1)<|Ze (X0 O X0b (b.at 1))<|Zm O<|Zm O<|Ze (Xt (ps:=[(0,vi k),(1,vi p)]) (cs:=[vi k,vi p]) O (fun _=>by first|rfl|kernel_rfl))<|Zf (X9 (k:=1) (vs:=[.agg #[vi k,vi p]]) (zs:=[vi k,vi p]) O Xp X1r O O) ?_;rintro _ w1 ⟨b6,rfl,aD,D,a8⟩;have aP:=Q0 C.size aD;have L:=H.away aD;have b:=b.bw D;have H:=H.bw D;have h:=h.bw D;have g:=g.bw D;have i:=i.bw D;have C:=tsbel C D;refine Zf (X15 (enc:=encNd) (l:=(x.d.ns)) (l2:=([(⟨k,p⟩ : Nd)])) (B0:=B0) O O Xp X1r X02 X2x H (Rd.of_blk a8 O _ a8.lt) (by simp only [maxLen];simp;omega) O6 (Q0 aB C.size)) ?_;rintro _ w2 ⟨A8,c8,rfl,z,E,aA⟩
 have f:Own _ B0 64 2 encNd _ _ (x.d.ns):=H
 have aG:=aA _ a8.lt L;have aM:=Us.app aC aA C.size;clear aA;have b:=b.appT f E O;have h:=h.appT f E O;have g:=g.appT f E O;have i:=i.appT f E O;have C:=tsrow C E aC;clear f E;refine Ze (Xw O)<|Ze (Vd O Xu 0)<|Ze (Vd O Xi 1)<|Zo (X1m (vs:=[.slice A8 (x.d.ns++([(⟨k,p⟩ : Nd)])).length c8]) (l':=[vi x.d.n,.slice A8 (x.d.ns++([(⟨k,p⟩ : Nd)])).length c8,.slice BW x.d.ws.length eW,vi x.d.t,vi x.d.r,.slice A1 n0 c1,.slice A2 n0 c2]) O O X3x b O O O O O) ?_;rintro _ w3 ⟨I,hb⟩;have h:=h.oT I b O;have g:=g.oT I b O;have i:=i.oT I b O;have z:=z.oT I b O;have C:=tsonly C I (.inl (.inl O));have b:=hb;refine Zx aL fun a J _ aN=>?_;refine Zm O<|Ze (Xw O)<|Ze (Vd O Xu 0)<|Ze (Vd O Xi 1)<|Ze (X0 O X0b (b.at 1))<|Ze (X11 O Xp)<|Ze (Vx (X1c O O Z Z) (show _=(x.d.ns.length:Int) from Z))<|Za O<|ZX aN fun a J _ aE=>?_;refine Xl none (fun j=>[25].contains j) mixed ?_;intro w4 D;have b:=b.bw D;have h:=h.bw D;have g:=g.bw D;have i:=i.bw D;have z:=z.bw D;have C:=tsbel C D;refine Yb J<|Yo 0 O (fun _=>X3 O)<|Yo 1 O (fun _=>X3 O)<|Yo 2 O (fun _=>Xw O)<|Yo 3 O (fun _=>Vd O Xu 0)<|Yo 4 O (fun _=>Vd O Xv 2)<|Ye 5 O (X0 O X12 (b.at 2))<|Yo 6 O (fun _=>X3 O)<|Yo 7 O (fun _=>Xw O)<|Yo 8 O (fun _=>Vd O X18 5)<|Ye 9 O (X0 O X2d (b.at 5)) ?_;refine Yo 10 O (fun _=>X3 O)<|Yo 11 O (fun _=>Xd (k:=q.toNat) O O Xy X0e g a6 Z Z)<|Ye 12 O (X0 O X2 (X17 g Xn (Xf (d:=(0:Int)) Z) 0 O))<|Yo 13 O (fun _=>X3 O)<|Yo 14 O (fun _=>X3 O)<|Yo 15 O (fun _=>Xw O)<|Yo 16 O (fun _=>Vd O X1p 6)<|Ye 17 O (X0 O X27 (b.at 6))<|Yo 18 O (fun _=>X3 O)<|Yo 19 O (fun _=>Xd (k:=q.toNat) O O X1t X2k i a7 Z Z) ?_
 refine Ye 20 O (X0 O X4d (X17 i X0n (Xf (d:=false) Z) 0 O))<|Y1 21 ?_;refine Yk O tv0 (Vc (Xda _ BW eW x.d.ws h.rd.top (x.la.getD q.toNat 0) (x.d.ns.length:Int) (x.hd.getD q.toNat false) Z h.cap) X7n) (fun _ _ ⟨M,N,_,o,D⟩=>D) ?_;rintro _ w5 ⟨M,N,rfl,o,D⟩;have o:=o.lower C.size;have b:=b.bw D;have g:=g.bw D;have i:=i.bw D;have z:=z.bw D;have C:=tsbel C D;refine Yo 22 O (fun _=>Xw O)<|Yo 23 O (fun _=>Vd O Xu 0)<|Yo 24 O (fun _=>Vd O Xv 2)<|Y1 25 ?_;refine Yh O tv0 O (X1m (vs:=[.slice M (jnW x.d.ws (x.la.getD q.toNat 0) (x.d.ns.length:Int) (x.hd.getD q.toNat false)).length N]) (l':=[vi x.d.n,.slice A8 (x.d.ns++([(⟨k,p⟩ : Nd)])).length c8,.slice M (jnW x.d.ws (x.la.getD q.toNat 0) (x.d.ns.length:Int) (x.hd.getD q.toNat false)).length N,vi x.d.t,vi x.d.r,.slice A1 n0 c1,.slice A2 n0 c2]) O O X32 b O O O O O) ?_;rintro _ w6 ⟨I,hb⟩;have g:=g.oT I b O;have i:=i.oT I b O;have z:=z.oT I b O;have o:=o.oT I b O;have C:=tsonly C I (.inl (.inl O));have b:=hb;refine Yd fun a J=>?_;refine aE _ _<|Zs J fun _ aF=>?_;refine Zm O<|Ze (Xw O)<|Ze (Vd O X18 5)<|Ze (X0 O X2d (b.at 5))<|Zm O<|Zm O<|Ze (Xd (k:=q.toNat) O O Xy X0e g a6 Z Z)<|Zo (X0d (enc:=encI) (l:=x.la) (vs:=[vi (x.d.ns.length:Int)]) (x0:=(x.la.getD q.toNat 0)) (u:=(x.d.ns.length:Int)) (k:=q.toNat) (j:=0) (n1:=1) O O X0e g Xn O O O O O4 (Xf (d:=(0:Int)) Z) O) ?_;rintro _ w7 ⟨G,E⟩;have f:=g;have b:=b.appT f E O;have i:=i.appT f E O;have z:=z.appT f E O
 have o:=o.appT f E O;have C:=tsrow C E aJ
 clear f E;clear g;have g:=G;clear G;refine Zt aF fun a J=>?_;refine Zr J<|Zm O<|Ze (Xw O)<|Ze (Vd O X1p 6)<|Ze (X0 O X27 (b.at 6))<|Zm O<|Ze (Xd (k:=q.toNat) O O X1t X2k i a7 Z Z)<|Zo (X0d (enc:=encB) (l:=x.hd) (vs:=[.bool false]) (x0:=(x.hd.getD q.toNat false)) (u:=false) (k:=q.toNat) (j:=0) (n1:=1) O O X2k i X0n O O O O O4 (Xf (d:=false) Z) O) ?_;rintro _ w8 ⟨G,E⟩;have f:=i;have b:=b.appT f E O;have z:=z.appT f E O;have o:=o.appT f E O;have g:=g.appT f E O;have C:=tsrow C E aK
 clear f E;clear i;have i:=G;clear G;refine Zn fun a J=>?_;refine X1u J (X2s O) ?_;exact ⟨A8,c8,M,N,((x.d.ns++([(⟨k,p⟩ : Nd)])).length),C,aM,(Us.new o),⟨b,z,(o.lower aB),g,i,O,(a6.trans List.length_set.symm),(a7.trans List.length_set.symm)⟩⟩
theorem Xjo(w0:World)(bV B0:Nat)(A0:Option Addr)(c0:Nat)(BW:Option Addr)(eW:Nat)(A1:Option Addr)(c1:Nat)(A2:Option Addr)(c2 m0 n0:Nat)(x:Br)(aM:Drq w0 bV B0 A0 c0 BW eW A1 c1 A2 c2 m0 n0 x)(aN:B0<=w0.heap.size)(q:Int)(hq:0<=q/\q.toNat<n0)(aO:BrOk n0 x)(aZ:x.d.ns.length<=90000000/\x.d.ws.length<=90000000) : Ret Tryz.prog 148 [(pZ9 bV),vi q] w0 (fun v w=>∃ A c B e m,v=vi ((plcB x q).la.getD q.toNat 0)/\TurnS (SB bV [A0,BW,A1,A2]) w0 w/\Us (SB bV [A0,BW,A1,A2]) w0 A/\Us (SB bV [A0,BW,A1,A2]) w0 B/\Drq w bV B0 A c B e A1 c1 A2 c2 m n0 (plcB x q)):=by
 obtain ⟨f,o,C,g,i,a6,D,a7⟩:=aM;have aY:=f.lt
 have aC:Us (SB bV [A0,BW,A1,A2]) w0 A0:=SB.us O5
 have aD:Us (SB bV [A0,BW,A1,A2]) w0 BW:=SB.us O5
 have aP:Us (SB bV [A0,BW,A1,A2]) w0 A1:=SB.us O5
 have aQ:Us (SB bV [A0,BW,A1,A2]) w0 A2:=SB.us O5
 have b0:=aO.at hq;refine enter Tryz.func148 O 40 O O ?_;intro a j
 have z:TurnS (SB bV [A0,BW,A1,A2]) w0 w0:=TurnS.refl _ _
 refine Zs j fun _ aR=>?_;refine Za O<|ZX aR fun a j _ aE=>?_;refine Q5 fun _ aS=>?_;refine X0p (fun a w=>Fr a 40 [(0,(pZ9 bV)),(1,vi q),(29,.bool ((x.hd.getD q.toNat false)||(((x.d.ns.getD (x.la.getD q.toNat 0).toNat nZ).k) != 3)))]/\Below w0.heap.size w0 w) ?_ ?_
 ·have E:=bz w0
  refine Xl none (fun _=>false) mixed ?_;intro w1 u;have f:=f.bw u;have o:=o.bw u;have g:=g.bw u;have i:=i.bw u;have z:=tsbel z u;have E:=btr E u;refine Yb j<|Yo 0 O (fun _=>X3 O)<|Yo 1 O (fun _=>Xw O)<|Yo 2 O (fun _=>Vd O X1p 6)<|Ye 3 O (X0 O X27 (f.at 6))<|Yo 4 O (fun _=>X3 O)<|Yo 5 O (fun _=>Xd (k:=q.toNat) O O X1t X2k i a7 Z Z)<|Ye 6 O (X0 O X4d (X17 i X0n (Xf (d:=false) Z) 0 O))<|Yo 7 O (fun _=>X3 O) ?_
  refine Yl 12 O (fun b=>?_) (fun b=>?_)
  ·refine Yp 8 O (gP b) ?_;refine Yp 9 O (gP b) ?_;refine Yp 10 O (gP b) ?_;refine Yp 11 O (gP b) ?_;refine Yp 12 O (gP b) ?_;refine Yp 13 O (gP b) ?_;refine Yp 14 O (gP b) ?_;refine Yp 15 O (gP b) ?_;refine Yp 16 O (gP b) ?_;refine Yp 17 O (gP b) ?_;refine Yp 18 O (gP b) ?_;refine Yp 19 O (gP b) ?_;refine Yp 20 O (gP b) ?_;refine Yp 21 O (gP b) ?_;refine Yp 22 O (gP b) ?_;refine Yp 23 O (gP b) ?_;refine Yo 24 O (fun _=>Xa O b O) ?_;refine Yd fun a j=>?_;exact ⟨j.sub ⟨O,O,X1 O (by first|rfl|(simp only [b,bs];done)|simp [b]),trivial⟩,E⟩
  refine Yu 8 O (gW b) (fun _=>X3 O) ?_;refine Yu 9 O (gW b) (fun _=>Xw O) ?_;refine Yu 10 O (gW b) (fun _=>Vd O Xu 0) ?_;refine Yu 11 O (gW b) (fun _=>Vd O Xi 1) ?_;refine Yv 12 O (gW b) (X0 O X0b (f.at 1)) ?_;refine Yu 13 O (gW b) (fun _=>X3 O) ?_;refine Yu 14 O (gW b) (fun _=>Xw O) ?_;refine Yu 15 O (gW b) (fun _=>Vd O X18 5) ?_;refine Yv 16 O (gW b) (X0 O X2d (f.at 5)) ?_;refine Yu 17 O (gW b) (fun _=>X3 O) ?_;refine Yu 18 O (gW b) (fun _=>Xd (k:=q.toNat) O O Xy X0e g D Z Z) ?_;refine Yv 19 O (gW b) (X0 O X2 (X17 g Xn (Xf (d:=(0:Int)) Z) 0 O)) ?_;refine Yu 20 O (gW b) (fun _=>Xd (k:=(x.la.getD q.toNat 0).toNat) O O Xp X0g o a6 Z Z) ?_;refine Yu 21 O (gW b) (fun _=>X1z O X0y (m':=(x.la.getD q.toNat 0).toNat*2+0) O) ?_;refine Yv 22 O (gW b) (X0 O X2 (X17 o X02 (Xf (d:=nZ) Z) 0 O)) ?_;refine Yu 23 O (gW b) (fun _=>X3t O O) ?_;refine Yo 24 O (fun _=>Xh O b O) ?_;refine Yd fun a j=>?_;exact ⟨j.sub ⟨O,O,X1 O (by first|rfl|(simp only [b,bs];done)|simp [b]),trivial⟩,E⟩
 rintro a w2 ⟨j,u⟩;have f:=f.bw u;have o:=o.bw u;have C:=C.bw u;have g:=g.bw u;have i:=i.bw u;have z:=tsbel z u;refine aS _ _ ?_
 refine Xz j O (fun a8=>?_) (fun a8=>?_)
 ·have aA:=Xmy a8;refine Zr j<|Zm O<|Zm O<|Zf (X2b (vs:=[(pZ9 bV),vi 3,vi 0,vi q]) O X92 (Xsk _ bV B0 A0 c0 BW eW A1 c1 A2 c2 m0 n0 x ⟨f,o,C,g,i,a6,D,a7⟩ (Q0 aN z.size) 3 0 q hq Z)) ?_;rintro _ w3 ⟨aT,aU,aV,aW,aX,aF,p,t,aG,aH,aI,H,I,aJ,h,aB⟩;have G:=SB.lift (S:=SB bV [A0,BW,A1,A2]) (w0:=w0) (.inl (.inl O)) (alc aC (alc aD (alc aP (alc aQ al0))));have p:=Us.trans p G z.size;have t:=Us.trans t G z.size
  have z:=tstr z aF G;clear G
  clear aF f;have f:=aG;clear aG
  clear g;have g:=H;clear H
  clear i;have i:=I;clear I;refine Zx aE fun a j _ aK=>?_;refine Zm O<|Ze (Xw O)<|Ze (Vd O X18 5)<|Ze (X0 O X2d (f.at 5))<|Zm O<|Ze (Xd (k:=q.toNat) O O Xy X0e g h Z Z)<|Ze (X0 O X2 (X17 g Xn (Xf (d:=(0:Int)) Z) 0 O))<|Za O<|Zt aK fun a j=>?_
  refine Q6 (X4 j (Xo j O O) ?_)
  rw [aA]
  exact ⟨aT,aU,aV,aW,aX,O,z,p,t,⟨f,aH,aI,g,i,aJ,h,aB⟩⟩
 have aA:=Xmt a8;refine Q7<|aE _ _<|Zs j fun _ aL=>?_;refine Zm O<|Ze (Xw O)<|Ze (Vd O X18 5)<|Ze (X0 O X2d (f.at 5))<|Zm O<|Ze (Xd (k:=q.toNat) O O Xy X0e g D Z Z)<|Ze (X0 O X2 (X17 g Xn (Xf (d:=(0:Int)) Z) 0 O))<|Za O<|Zt aL fun a j=>?_
 refine Q6 (X4 j (Xo j O O) ?_)
 rw [aA]
 exact ⟨A0,c0,BW,eW,m0,O,z,aC,aD,⟨f,o,C,g,i,a6,D,a7⟩⟩
theorem Xgb(w0:World)(bV B0:Nat)(A0:Option Addr)(c0:Nat)(BW:Option Addr)(eW:Nat)(A1:Option Addr)(c1:Nat)(A2:Option Addr)(c2 m0 n0:Nat)(x:Br)(aD:Drq w0 bV B0 A0 c0 BW eW A1 c1 A2 c2 m0 n0 x)(aE:B0<=w0.heap.size)(q:Int)(f:Int)(hq:0<=q/\q.toNat<n0)(a7:BrOk n0 x)(aQ:x.d.ns.length<=80000000/\x.d.ws.length<=80000000)(aR:0<=f/\f<=900) : Ret Tryz.prog 107 [(pZ9 bV),vi q,vi f] w0 (fun v w=>∃ A c B e m,TurnS (SB bV [A0,BW,A1,A2]) w0 w/\Us (SB bV [A0,BW,A1,A2]) w0 A/\Us (SB bV [A0,BW,A1,A2]) w0 B/\Drq w bV B0 A c B e A1 c1 A2 c2 m n0 (trnB x q f)):=by
 obtain ⟨b,aF,aG,i,o,aH,aI,aJ⟩:=aD;have aP:=b.lt
 have aK:Us (SB bV [A0,BW,A1,A2]) w0 A0:=SB.us O5
 have aL:Us (SB bV [A0,BW,A1,A2]) w0 BW:=SB.us O5
 have aM:Us (SB bV [A0,BW,A1,A2]) w0 A1:=SB.us O5
 have aN:Us (SB bV [A0,BW,A1,A2]) w0 A2:=SB.us O5
 have G:=X3h a7 q;have aS:=G.at hq;have aT:=X3f x q;have aU:=Xee G.p ((plcB x q).la.getD q.toNat 0).toNat;refine enter Tryz.func107 O 30 O O ?_;intro a hf
 have D:TurnS (SB bV [A0,BW,A1,A2]) w0 w0:=TurnS.refl _ _
 refine Zs hf fun _ aO=>?_;refine Zm O<|Zm O<|Zf (X2b (vs:=[(pZ9 bV),vi q]) O X6i (Xjo _ bV B0 A0 c0 BW eW A1 c1 A2 c2 m0 n0 x ⟨b,aF,aG,i,o,aH,aI,aJ⟩ (Q0 aE D.size) q hq a7 Z)) ?_;rintro _ w1 ⟨A6,c6,A7,c7,m6,rfl,a8,z,h,aA,g,C,H,I,a6,aB,aC⟩;have E:=SB.lift (S:=SB bV [A0,BW,A1,A2]) (w0:=w0) (.inl (.inl O)) (alc aK (alc aL (alc aM (alc aN al0))));have z:=Us.trans z E D.size;have h:=Us.trans h E D.size
 have D:=tstr D a8 E;clear E
 clear a8 b;have b:=aA;clear aA
 clear i;have i:=H;clear H
 clear o;have o:=I;clear I;refine Za O<|Zt aO fun a hf=>?_;refine Xl none (fun j=>[20].contains j) mixed ?_;intro w2 hE;have b:=b.bw hE;have i:=i.bw hE;have o:=o.bw hE;have g:=g.bw hE;have C:=C.bw hE;have D:=tsbel D hE;refine Yb hf<|Yo 0 O (fun _=>X3 O)<|Yo 1 O (fun _=>Xw O)<|Yo 2 O (fun _=>Vd O Xu 0)<|Yo 3 O (fun _=>Vd O Xi 1)<|Ye 4 O (X0 O X0b (b.at 1))<|Yo 5 O (fun _=>X3 O)<|Yo 6 O (fun _=>X3 O)<|Yo 7 O (fun _=>Xw O)<|Yo 8 O (fun _=>Vd O Xu 0)<|Yo 9 O (fun _=>Vd O Xi 1) ?_;refine Ye 10 O (X0 O X0b (b.at 1))<|Yo 11 O (fun _=>X3 O)<|Yo 12 O (fun _=>Xd (k:=((plcB x q).la.getD q.toNat 0).toNat) O O Xp X0g g a6 Z Z)<|Yo 13 O (fun _=>X1z O X0x (m':=((plcB x q).la.getD q.toNat 0).toNat*2+1) O)<|Ye 14 O (X0 O X2 (X17 g X02 (Xf (d:=nZ) Z) 1 O))<|Yo 15 O (fun _=>X3 O)<|Yo 16 O (fun _=>Xr O O Z Z)<|Yo 17 O (fun _=>Vx (X4n O O O) (tm8 Z))<|Yo 18 O (fun _=>Xd (k:=((plcB x q).la.getD q.toNat 0).toNat) O O Xp X0g g a6 Z Z)<|Yo 19 O (fun _=>X1z O X0x (m':=((plcB x q).la.getD q.toNat 0).toNat*2+1) O) ?_;refine Y1 20<|Yh O tv0 O (X0d (enc:=encNd) (l:=(plcB x q).d.ns) (vs:=[vi ((((plcB x q).d.ns.getD ((plcB x q).la.getD q.toNat 0).toNat nZ).p+f) % 8)]) (x0:=((plcB x q).d.ns.getD ((plcB x q).la.getD q.toNat 0).toNat nZ)) (u:=(⟨((plcB x q).d.ns.getD ((plcB x q).la.getD q.toNat 0).toNat nZ).k,((((plcB x q).d.ns.getD ((plcB x q).la.getD q.toNat 0).toNat nZ).p+f) % 8)⟩ : Nd)) (k:=((plcB x q).la.getD q.toNat 0).toNat) (j:=1) (n1:=1) O O X0e g X02 O O O O O4 (Xf (d:=nZ) Z) O) ?_;rintro _ w3 ⟨J,hg⟩
 have t:=g;have b:=b.appT t hg O;have i:=i.appT t hg O;have o:=o.appT t hg O;have C:=C.appT t hg O;have D:=tsrow D hg z
 clear t hg;clear g;have g:=J;clear J;refine Yd fun a hf=>?_;refine X1u hf (X2s O) ?_;exact ⟨A6,c6,A7,c7,m6,D,z,h,⟨b,g,C,i,o,(a6.trans List.length_set.symm),aB,aC⟩⟩
theorem Xsl(w0:World)(bV B0:Nat)(A0:Option Addr)(c0:Nat)(BW:Option Addr)(eW:Nat)(A1:Option Addr)(c1:Nat)(A2:Option Addr)(c2 m0 H:Nat)(x:Br)(aV:Drq w0 bV B0 A0 c0 BW eW A1 c1 A2 c2 m0 H x)(W:B0<=w0.heap.size)(p:Int)(q:Int)(hp:0<=p/\p.toNat<H)(hq:0<=q/\q.toNat<H)(aI:BrOk H x)(bE:x.d.ns.length<=80000000/\x.d.ws.length<=80000000) : Ret Tryz.prog 108 [(pZ9 bV),vi p,vi q] w0 (fun v w=>∃ A c B e m,TurnS (SB bV [A0,BW,A1,A2]) w0 w/\Us (SB bV [A0,BW,A1,A2]) w0 A/\Us (SB bV [A0,BW,A1,A2]) w0 B/\Drq w bV B0 A c B e A1 c1 A2 c2 m H (czB x p q)):=by
 obtain ⟨b,aW,aX,f,g,aY,aZ,b0⟩:=aV;have b8:=b.lt
 have b1:Us (SB bV [A0,BW,A1,A2]) w0 A0:=SB.us O5
 have b2:Us (SB bV [A0,BW,A1,A2]) w0 BW:=SB.us O5
 have aJ:Us (SB bV [A0,BW,A1,A2]) w0 A1:=SB.us O5
 have aK:Us (SB bV [A0,BW,A1,A2]) w0 A2:=SB.us O5
 have aB:=X3h aI p;have b9:=X3f x p;have bC:=X3h aB q;have bD:=X3f (plcB x p) q;have aL:=Xgt (plcB (plcB x p) q).d.ws ((plcB x p).la.getD p.toNat 0) ((plcB (plcB x p) q).la.getD q.toNat 0);refine enter Tryz.func108 O 66 O O ?_;intro a G
 have j:TurnS (SB bV [A0,BW,A1,A2]) w0 w0:=TurnS.refl _ _
 refine Zs G fun _ b3=>?_;refine Zm O<|Zm O<|Zf (X2b (vs:=[(pZ9 bV),vi p]) O X6i (Xjo _ bV B0 A0 c0 BW eW A1 c1 A2 c2 m0 H x ⟨b,aW,aX,f,g,aY,aZ,b0⟩ (Q0 W j.size) p hp aI Z)) ?_;rintro _ w1 ⟨A6,c6,A7,c7,m6,rfl,J,L,M,N,b4,b5,D,E,b6,aM,aN⟩;have h:=SB.lift (S:=SB bV [A0,BW,A1,A2]) (w0:=w0) (.inl (.inl O)) (alc b1 (alc b2 (alc aJ (alc aK al0))));have L:=Us.trans L h j.size;have M:=Us.trans M h j.size
 have j:=tstr j J h;clear h
 clear J b;have b:=N;clear N
 clear f;have f:=D;clear D
 clear g;have g:=E;clear E;refine Za O<|Zx b3 fun a G _ b7=>?_;refine Zm O<|Zm O<|Zf (X2b (vs:=[(pZ9 bV),vi q]) O X6i (Xjo _ bV B0 A6 c6 A7 c7 A1 c1 A2 c2 m6 H (plcB x p) ⟨b,b4,b5,f,g,b6,aM,aN⟩ (Q0 W j.size) q hq aB Z)) ?_;rintro _ w2 ⟨A9,c9,aE,aF,m9,rfl,J,I,Q,N,i,u,D,E,aO,aC,aD⟩;have h:=SB.lift (S:=SB bV [A0,BW,A1,A2]) (w0:=w0) (.inl (.inl O)) (alc L (alc M (alc aJ (alc aK al0))));have I:=Us.trans I h j.size;have Q:=Us.trans Q h j.size
 have j:=tstr j J h;clear h
 clear J b;have b:=N;clear N
 clear f;have f:=D;clear D
 clear g;have g:=E;clear E;refine Za O<|ZX b7 fun a G _ aP=>?_;refine Zs G fun _ aQ=>?_;refine Zm O<|Ze (Xw O)<|Ze (Vd O Xu 0)<|Ze (Vd O Xv 2)<|Ze (X0 O X12 (b.at 2))<|Zm O<|Zm O<|Zf (Vc (Xjj _ aE aF ((plcB (plcB x p) q).d.ws) u.rd.top ((plcB x p).la.getD p.toNat 0) ((plcB (plcB x p) q).la.getD q.toNat 0) Z) Xc3) ?_;rintro _ w3 ⟨rfl,C⟩;have b:=b.bw C;have f:=f.bw C;have g:=g.bw C;have i:=i.bw C;have u:=u.bw C;have j:=tsbel j C;refine Za O<|Zx aQ fun a G _ aR=>?_;refine Zm O<|Ze (X8s O O)<|Zt aR fun a G=>?_
 refine X0z G O (fun aG U=>?_) (fun aG U=>?_)
 ·have aH:=Xor U;refine Zs G fun _ aS=>?_;refine Zm O<|Zm O<|Ze (Xw O)<|Ze (Vd O Xu 0)<|Ze (Vd O Xv 2)<|Ze (X0 O X12 (b.at 2))<|Zm O<|Zf (Vc (Xsc _ aE aF ((plcB (plcB x p) q).d.ws) u.rd.top (fdW ((plcB (plcB x p) q).d.ws) ((plcB x p).la.getD p.toNat 0) ((plcB (plcB x p) q).la.getD q.toNat 0)) Z u.cap ⟨by omega,aL⟩) Xh6) ?_;rintro _ w4 ⟨a6,a7,rfl,k,C⟩;have k:=k.lower j.size;have b:=b.bw C;have f:=f.bw C;have g:=g.bw C;have i:=i.bw C;have j:=tsbel j C;refine Ze (Xw O)<|Ze (Vd O Xu 0)<|Ze (Vd O Xv 2)<|Zo (X1m (vs:=[.slice a6 (ctW ((plcB (plcB x p) q).d.ws) (fdW ((plcB (plcB x p) q).d.ws) ((plcB x p).la.getD p.toNat 0) ((plcB (plcB x p) q).la.getD q.toNat 0)).toNat).length a7]) (l':=[vi ((plcB (plcB x p) q).d.n),.slice A9 m9 c9,.slice a6 (ctW ((plcB (plcB x p) q).d.ws) (fdW ((plcB (plcB x p) q).d.ws) ((plcB x p).la.getD p.toNat 0) ((plcB (plcB x p) q).la.getD q.toNat 0)).toNat).length a7,vi ((plcB (plcB x p) q).d.t),vi ((plcB (plcB x p) q).d.r),.slice A1 H c1,.slice A2 H c2]) O O X32 b O O O O O) ?_;rintro _ w5 ⟨z,hb⟩;have f:=f.oT z b O;have g:=g.oT z b O;have i:=i.oT z b O;have k:=k.oT z b O;have j:=tsonly j z (.inl (.inl O));have b:=hb;refine Zx aS fun a G _ aT=>?_;refine Zm O<|Ze (Xw O)<|Ze (Vd O Xu 0)<|Ze (Vd O X1f 4)<|Ze (X0 O X2 (b.at 4))<|Ze (X5u O O)<|Ze (Xw O)<|Ze (Vd O Xu 0)<|Ze (Vd O X1f 4)<|Zo (X1m (vs:=[vi (wr (((plcB (plcB x p) q).d.r)-1))]) (l':=[vi ((plcB (plcB x p) q).d.n),.slice A9 m9 c9,.slice a6 (ctW ((plcB (plcB x p) q).d.ws) (fdW ((plcB (plcB x p) q).d.ws) ((plcB x p).la.getD p.toNat 0) ((plcB (plcB x p) q).la.getD q.toNat 0)).toNat).length a7,vi ((plcB (plcB x p) q).d.t),vi (wr (((plcB (plcB x p) q).d.r)-1)),.slice A1 H c1,.slice A2 H c2]) O O X0e b O O O O O) ?_;rintro _ w6 ⟨z,hb⟩
  have f:=f.oT z b O;have g:=g.oT z b O;have i:=i.oT z b O;have k:=k.oT z b O;have j:=tsonly j z (.inl (.inl O));have b:=hb;refine Zt aT fun a G=>?_;refine Q6<|X7<|X4 G (X2s O) ?_
  rw [aH]
  exact ⟨A9,c9,a6,a7,m9,j,I,(Us.new k),⟨b,i,(k.lower W),f,g,aO,aC,aD⟩⟩
 have aH:=Xoq U;refine Q7<|aP _ _<|Zs G fun _ aU=>?_;refine Zm O<|Zm O<|Ze (Xw O)<|Ze (Vd O Xu 0)<|Ze (Vd O Xv 2)<|Ze (X0 O X12 (b.at 2))<|Zm O<|Zm O<|Zf (Vc (Xda _ aE aF ((plcB (plcB x p) q).d.ws) u.rd.top ((plcB x p).la.getD p.toNat 0) ((plcB (plcB x p) q).la.getD q.toNat 0) true Z u.cap) X7n) ?_;rintro _ w7 ⟨a8,aA,rfl,o,C⟩;have o:=o.lower j.size;have b:=b.bw C;have f:=f.bw C;have g:=g.bw C;have i:=i.bw C;have j:=tsbel j C;refine Ze (Xw O)<|Ze (Vd O Xu 0)<|Ze (Vd O Xv 2)<|Zo (X1m (vs:=[.slice a8 (jnW ((plcB (plcB x p) q).d.ws) ((plcB x p).la.getD p.toNat 0) ((plcB (plcB x p) q).la.getD q.toNat 0) true).length aA]) (l':=[vi ((plcB (plcB x p) q).d.n),.slice A9 m9 c9,.slice a8 (jnW ((plcB (plcB x p) q).d.ws) ((plcB x p).la.getD p.toNat 0) ((plcB (plcB x p) q).la.getD q.toNat 0) true).length aA,vi ((plcB (plcB x p) q).d.t),vi ((plcB (plcB x p) q).d.r),.slice A1 H c1,.slice A2 H c2]) O O X32 b O O O O O) ?_;rintro _ w8 ⟨z,hb⟩;have f:=f.oT z b O;have g:=g.oT z b O;have i:=i.oT z b O;have o:=o.oT z b O;have j:=tsonly j z (.inl (.inl O));have b:=hb;refine Zt aU fun a G=>?_;refine Zr G<|Zm O<|Ze (Xw O)<|Ze (Vd O Xu 0)<|Ze (Vd O X1f 4)<|Ze (X0 O X2 (b.at 4))<|Ze (X3s O O)<|Ze (Xw O)<|Ze (Vd O Xu 0)<|Ze (Vd O X1f 4)<|Zo (X1m (vs:=[vi (wr (((plcB (plcB x p) q).d.r)+1))]) (l':=[vi ((plcB (plcB x p) q).d.n),.slice A9 m9 c9,.slice a8 (jnW ((plcB (plcB x p) q).d.ws) ((plcB x p).la.getD p.toNat 0) ((plcB (plcB x p) q).la.getD q.toNat 0) true).length aA,vi ((plcB (plcB x p) q).d.t),vi (wr (((plcB (plcB x p) q).d.r)+1)),.slice A1 H c1,.slice A2 H c2]) O O X0e b O O O O O) ?_;rintro _ w9 ⟨z,hb⟩
 have f:=f.oT z b O;have g:=g.oT z b O;have i:=i.oT z b O;have o:=o.oT z b O;have j:=tsonly j z (.inl (.inl O));have b:=hb;refine Zn fun a G=>?_;refine X1u G (X2s O) ?_
 rw [aH]
 exact ⟨A9,c9,a8,aA,m9,j,I,(Us.new o),⟨b,i,(o.lower W),f,g,aO,aC,aD⟩⟩
theorem Y05(w0:World)(bV B0:Nat)(A0:Option Addr)(c0:Nat)(BW:Option Addr)(eW:Nat)(A1:Option Addr)(c1:Nat)(A2:Option Addr)(c2 m0 n0:Nat)(x:Br)(f8:Drq w0 bV B0 A0 c0 BW eW A1 c1 A2 c2 m0 n0 x)(a7:B0<=w0.heap.size)(g:Gt)(aC:BrOk n0 x)(iK:x.d.ns.length<=70000000/\x.d.ws.length<=70000000)(Q:gOk (n0:Int) g=true) : Ret Tryz.prog 67 [(pZ9 bV),.agg #[vi g.k,vi g.a,vi g.b]] w0 (fun v w=>∃ A c B e m,TurnS (SB bV [A0,BW,A1,A2]) w0 w/\Us (SB bV [A0,BW,A1,A2]) w0 A/\Us (SB bV [A0,BW,A1,A2]) w0 B/\Drq w bV B0 A c B e A1 c1 A2 c2 m n0 (gtB x g)):=by
 obtain ⟨i,G,H,o,p,aD,a8,aA⟩:=f8;have iG:=i.lt
 have aE:Us (SB bV [A0,BW,A1,A2]) w0 A0:=SB.us O5
 have aF:Us (SB bV [A0,BW,A1,A2]) w0 BW:=SB.us O5
 have U:Us (SB bV [A0,BW,A1,A2]) w0 A1:=SB.us O5
 have W:Us (SB bV [A0,BW,A1,A2]) w0 A2:=SB.us O5
 have aB:=X5x Q;have bJ:=X5o Q;have iM:=X2i Q
 have b7:x.d.ns.length<=80000000/\x.d.ws.length<=80000000:=by omega
 have o1:=X4f aC g.a 4
 have l1:=X5m x g.a 4
 have iH:=aC.la;have iI:=aC.hd;refine enter Tryz.func67 O 164 O O ?_;intro a L
 have D:TurnS (SB bV [A0,BW,A1,A2]) w0 w0:=TurnS.refl _ _
 refine Zs L fun _ f9=>?_;refine Zf (X0u (zs:=[vi g.k,vi g.a,vi g.b]) O O) ?_;rintro _ w1 ⟨b6,rfl,fA,M,f⟩;have iJ:=Q0 D.size fA;have i:=i.bw M;have G:=G.bw M;have H:=H.bw M;have o:=o.bw M;have p:=p.bw M;have D:=tsbel D M;refine Zx f9 fun a L _ fB=>?_;refine Ze (Vd O X25 0)<|Ze (X0 O X2 (f.at 0))<|Zt fB fun a L=>?_;refine Q8<|Zs L fun _ fC=>?_;refine Ze (X0f O O)<|Za O<|Zt fC fun a L=>?_
 refine Xz L O (fun cC=>?_) (fun cC=>?_)
 ·have a6:=Xr2 (x:=x) cC;refine Zr L<|Zm O<|Ze (Vd O Xs 1)<|Ze (X0 O X2 (f.at 1))<|Zf (X2b (vs:=[(pZ9 bV),vi g.a]) O X39 (X9f _ bV B0 A0 c0 BW eW A1 c1 A2 c2 m0 n0 x ⟨i,G,H,o,p,aD,a8,aA⟩ (Q0 a7 D.size) g.a aB)) ?_;rintro _ w2 ⟨fE,fF,fG,fH,fI,E,aG,aH,J,dC,dD,z,C,dE,cD,cE⟩;have f:=f.tu E i O (alc (nrow G f O) (alc (nrow H f O) (alc (nrow o f O) (alc (nrow p f O) al0))));have q:=SB.lift (S:=SB bV [A0,BW,A1,A2]) (w0:=w0) (.inl (.inl O)) (alc aE (alc aF (alc U (alc W al0))));have aG:=Us.trans aG q D.size;have aH:=Us.trans aH q D.size
  have D:=tstr D E q;clear q
  clear E i;have i:=J;clear J
  clear o;have o:=z;clear z
  clear p;have p:=C;clear C;refine Zn fun a L=>?_;refine X6<|X1u L (X2s O) ?_
  rw [a6]
  exact ⟨fE,fF,fG,fH,fI,D,aG,aH,⟨i,dC,dD,o,p,dE,cD,cE⟩⟩
 have g1:=cC
 refine Zs L fun _ dF=>?_;refine Ze (X0f O O)<|Za O<|Zt dF fun a L=>?_
 refine Xz L O (fun b8=>?_) (fun b8=>?_)
 ·have a6:=Xr3 (x:=x) g1 b8;refine Zs L fun _ dG=>?_;refine Zm O<|Ze (Vd O Xs 1)<|Ze (X0 O X2 (f.at 1))<|Zf (X2b (vs:=[(pZ9 bV),vi g.a]) O X39 (X9f _ bV B0 A0 c0 BW eW A1 c1 A2 c2 m0 n0 x ⟨i,G,H,o,p,aD,a8,aA⟩ (Q0 a7 D.size) g.a aB)) ?_;rintro _ w3 ⟨fJ,fK,fL,fM,fN,E,aI,aJ,J,bL,bM,z,C,dH,cG,cH⟩;have f:=f.tu E i O (alc (nrow G f O) (alc (nrow H f O) (alc (nrow o f O) (alc (nrow p f O) al0))));have q:=SB.lift (S:=SB bV [A0,BW,A1,A2]) (w0:=w0) (.inl (.inl O)) (alc aE (alc aF (alc U (alc W al0))));have aI:=Us.trans aI q D.size;have aJ:=Us.trans aJ q D.size
  have D:=tstr D E q;clear q
  clear E i;have i:=J;clear J
  clear o;have o:=z;clear z
  clear p;have p:=C;clear C;refine Zx dG fun a L _ dI=>?_;refine Zm O<|Ze (Vd O Xs 1)<|Ze (X0 O X2 (f.at 1))<|Zf (X2b (vs:=[(pZ9 bV),vi g.a,vi 4]) O X4x (Xgb _ bV B0 fJ fK fL fM A1 c1 A2 c2 fN n0 (flpB x g.a) ⟨i,bL,bM,o,p,dH,cG,cH⟩ (Q0 a7 D.size) g.a 4 aB (X20 aC g.a) b7 ⟨by decide,by decide⟩)) ?_;rintro _ w4 ⟨fO,fP,fQ,fR,fS,E,aK,aL,J,bN,bO,z,C,dJ,cI,cJ⟩;have f:=f.tu E i O (alc (nrow bL f O) (alc (nrow bM f O) (alc (nrow o f O) (alc (nrow p f O) al0))));have q:=SB.lift (S:=SB bV [A0,BW,A1,A2]) (w0:=w0) (.inl (.inl O)) (alc aI (alc aJ (alc U (alc W al0))));have aK:=Us.trans aK q D.size;have aL:=Us.trans aL q D.size
  have D:=tstr D E q;clear q
  clear E i;have i:=J;clear J
  clear o;have o:=z;clear z
  clear p;have p:=C;clear C;refine Zt dI fun a L=>?_;refine Zr L<|Zm O<|Ze (Vd O Xs 1)<|Ze (X0 O X2 (f.at 1))<|Zf (X2b (vs:=[(pZ9 bV),vi g.a]) O X39 (X9f _ bV B0 fO fP fQ fR A1 c1 A2 c2 fS n0 (trnB (flpB x g.a) g.a 4) ⟨i,bN,bO,o,p,dJ,cI,cJ⟩ (Q0 a7 D.size) g.a aB)) ?_;rintro _ w5 ⟨fT,fU,fV,fW,fX,E,aM,aN,J,dK,dL,z,C,dM,cK,cL⟩;have f:=f.tu E i O (alc (nrow bN f O) (alc (nrow bO f O) (alc (nrow o f O) (alc (nrow p f O) al0))));have q:=SB.lift (S:=SB bV [A0,BW,A1,A2]) (w0:=w0) (.inl (.inl O)) (alc aK (alc aL (alc U (alc W al0))));have aM:=Us.trans aM q D.size;have aN:=Us.trans aN q D.size
  have D:=tstr D E q;clear q
  clear E i;have i:=J;clear J
  clear o;have o:=z;clear z
  clear p;have p:=C;clear C;refine Zn fun a L=>?_;refine X6<|X1u L (X2s O) ?_
  rw [a6]
  exact ⟨fT,fU,fV,fW,fX,D,aM,aN,⟨i,dK,dL,o,p,dM,cK,cL⟩⟩
 have g2:=b8
 refine Zs L fun _ dN=>?_;refine Ze (X0f O O)<|Za O<|Zt dN fun a L=>?_
 refine Xz L O (fun b9=>?_) (fun b9=>?_)
 ·have a6:=Xr4 (x:=x) g1 g2 b9;refine Zs L fun _ dO=>?_;refine Zm O<|Ze (Vd O Xs 1)<|Ze (X0 O X2 (f.at 1))<|Zf (X2b (vs:=[(pZ9 bV),vi g.a,vi 4]) O X4x (Xgb _ bV B0 A0 c0 BW eW A1 c1 A2 c2 m0 n0 x ⟨i,G,H,o,p,aD,a8,aA⟩ (Q0 a7 D.size) g.a 4 aB aC b7 ⟨by decide,by decide⟩)) ?_;rintro _ w6 ⟨fY,fZ,g5,g6,g7,E,aO,aP,J,bP,bQ,z,C,dP,cM,cN⟩;have f:=f.tu E i O (alc (nrow G f O) (alc (nrow H f O) (alc (nrow o f O) (alc (nrow p f O) al0))));have q:=SB.lift (S:=SB bV [A0,BW,A1,A2]) (w0:=w0) (.inl (.inl O)) (alc aE (alc aF (alc U (alc W al0))));have aO:=Us.trans aO q D.size;have aP:=Us.trans aP q D.size
  have D:=tstr D E q;clear q
  clear E i;have i:=J;clear J
  clear o;have o:=z;clear z
  clear p;have p:=C;clear C;refine Zx dO fun a L _ dQ=>?_;refine Zm O<|Ze (Vd O Xs 1)<|Ze (X0 O X2 (f.at 1))<|Zf (X2b (vs:=[(pZ9 bV),vi g.a]) O X39 (X9f _ bV B0 fY fZ g5 g6 A1 c1 A2 c2 g7 n0 (trnB x g.a 4) ⟨i,bP,bQ,o,p,dP,cM,cN⟩ (Q0 a7 D.size) g.a aB)) ?_;rintro _ w7 ⟨g8,gA,gC,gD,gE,E,aQ,aR,J,bR,bS,z,C,dR,cO,cP⟩;have f:=f.tu E i O (alc (nrow bP f O) (alc (nrow bQ f O) (alc (nrow o f O) (alc (nrow p f O) al0))));have q:=SB.lift (S:=SB bV [A0,BW,A1,A2]) (w0:=w0) (.inl (.inl O)) (alc aO (alc aP (alc U (alc W al0))));have aQ:=Us.trans aQ q D.size;have aR:=Us.trans aR q D.size
  have D:=tstr D E q;clear q
  clear E i;have i:=J;clear J
  clear o;have o:=z;clear z
  clear p;have p:=C;clear C;refine Zx dQ fun a L _ dS=>?_;refine Zm O<|Ze (Vd O Xs 1)<|Ze (X0 O X2 (f.at 1))<|Zf (X2b (vs:=[(pZ9 bV),vi g.a,vi 4]) O X4x (Xgb _ bV B0 g8 gA gC gD A1 c1 A2 c2 gE n0 (flpB (trnB x g.a 4) g.a) ⟨i,bR,bS,o,p,dR,cO,cP⟩ (Q0 a7 D.size) g.a 4 aB (X20 o1 g.a) (show (trnB x g.a 4).d.ns.length<=_/\(trnB x g.a 4).d.ws.length<=_ by omega) ⟨by decide,by decide⟩)) ?_;rintro _ w8 ⟨gF,gG,gH,gI,gJ,E,aS,aT,J,bU,bW,z,C,dT,cQ,cR⟩;have f:=f.tu E i O (alc (nrow bR f O) (alc (nrow bS f O) (alc (nrow o f O) (alc (nrow p f O) al0))));have q:=SB.lift (S:=SB bV [A0,BW,A1,A2]) (w0:=w0) (.inl (.inl O)) (alc aQ (alc aR (alc U (alc W al0))));have aS:=Us.trans aS q D.size;have aT:=Us.trans aT q D.size
  have D:=tstr D E q;clear q
  clear E i;have i:=J;clear J
  clear o;have o:=z;clear z
  clear p;have p:=C;clear C;refine Zx dS fun a L _ dU=>?_;refine Zm O<|Ze (Vd O Xs 1)<|Ze (X0 O X2 (f.at 1))<|Zf (X2b (vs:=[(pZ9 bV),vi g.a]) O X39 (X9f _ bV B0 gF gG gH gI A1 c1 A2 c2 gJ n0 (trnB (flpB (trnB x g.a 4) g.a) g.a 4) ⟨i,bU,bW,o,p,dT,cQ,cR⟩ (Q0 a7 D.size) g.a aB)) ?_;rintro _ w9 ⟨dW,dX,dY,eA,eB,E,aU,aV,J,bC,bD,z,C,eC,cS,cT⟩;have f:=f.tu E i O (alc (nrow bU f O) (alc (nrow bW f O) (alc (nrow o f O) (alc (nrow p f O) al0))));have q:=SB.lift (S:=SB bV [A0,BW,A1,A2]) (w0:=w0) (.inl (.inl O)) (alc aS (alc aT (alc U (alc W al0))));have aU:=Us.trans aU q D.size;have aV:=Us.trans aV q D.size
  have D:=tstr D E q;clear q
  clear E i;have i:=J;clear J
  clear o;have o:=z;clear z
  clear p;have p:=C;clear C;refine Zt dU fun a L=>?_;refine Zr L<|Zm O<|Ze (Xw O)<|Ze (Vd O Xu 0)<|Ze (Vd O X0w 3)<|Ze (X0 O X2 (i.at 3))<|Ze (X3s O O)<|Ze (Xw O)<|Ze (Vd O Xu 0)<|Ze (Vd O X0w 3)<|Zo (X1m (vs:=[vi (wr (((flpB (trnB (flpB (trnB x g.a 4) g.a) g.a 4) g.a).d.t)+2))]) (l':=[vi ((flpB (trnB (flpB (trnB x g.a 4) g.a) g.a 4) g.a).d.n),.slice dW eB dX,.slice dY ((flpB (trnB (flpB (trnB x g.a 4) g.a) g.a 4) g.a).d.ws).length eA,vi (wr (((flpB (trnB (flpB (trnB x g.a 4) g.a) g.a 4) g.a).d.t)+2)),vi ((flpB (trnB (flpB (trnB x g.a 4) g.a) g.a 4) g.a).d.r),.slice A1 n0 c1,.slice A2 n0 c2]) O O X0e i O O O O O) ?_;rintro _ iN ⟨ho,hb⟩;have o:=o.oT ho i O;have p:=p.oT ho i O;have bC:=bC.oT ho i O;have bD:=bD.oT ho i O;have D:=tsonly D ho (.inl (.inl O));have i:=hb;refine Zn fun a L=>?_;refine X6<|X1u L (X2s O) ?_
  rw [a6]
  exact ⟨dW,dX,dY,eA,eB,D,aU,aV,⟨i,bC,bD,o,p,eC,cS,cT⟩⟩
 have g3:=b9
 refine Zs L fun _ eD=>?_;refine Ze (X0f O O)<|Za O<|Zt eD fun a L=>?_
 refine Xz L O (fun bE=>?_) (fun bE=>?_)
 ·have a6:=Xr5 (x:=x) g1 g2 g3 bE;refine Zs L fun _ eE=>?_;refine Zm O<|Ze (Vd O X0h 2)<|Ze (X0 O X2 (f.at 2))<|Zf (X2b (vs:=[(pZ9 bV),vi g.b]) O X39 (X9f _ bV B0 A0 c0 BW eW A1 c1 A2 c2 m0 n0 x ⟨i,G,H,o,p,aD,a8,aA⟩ (Q0 a7 D.size) g.b bJ)) ?_;rintro _ iO ⟨gK,gL,gM,gN,gO,E,aW,aX,J,bX,bY,z,C,eF,cU,cV⟩;have f:=f.tu E i O (alc (nrow G f O) (alc (nrow H f O) (alc (nrow o f O) (alc (nrow p f O) al0))));have q:=SB.lift (S:=SB bV [A0,BW,A1,A2]) (w0:=w0) (.inl (.inl O)) (alc aE (alc aF (alc U (alc W al0))));have aW:=Us.trans aW q D.size;have aX:=Us.trans aX q D.size
  have D:=tstr D E q;clear q
  clear E i;have i:=J;clear J
  clear o;have o:=z;clear z
  clear p;have p:=C;clear C;refine Zx eE fun a L _ eG=>?_;refine Zm O<|Ze (Vd O Xs 1)<|Ze (X0 O X2 (f.at 1))<|Ze (Vd O X0h 2)<|Ze (X0 O X2 (f.at 2))<|Zf (X2b (vs:=[(pZ9 bV),vi g.a,vi g.b]) O X94 (Xsl _ bV B0 gK gL gM gN A1 c1 A2 c2 gO n0 (flpB x g.b) ⟨i,bX,bY,o,p,eF,cU,cV⟩ (Q0 a7 D.size) g.a g.b aB bJ (X20 aC g.b) b7)) ?_;rintro _ iP ⟨gQ,gR,gS,gT,gU,E,aY,aZ,J,bZ,cA,z,C,eH,cW,cX⟩;have f:=f.tu E i O (alc (nrow bX f O) (alc (nrow bY f O) (alc (nrow o f O) (alc (nrow p f O) al0))));have q:=SB.lift (S:=SB bV [A0,BW,A1,A2]) (w0:=w0) (.inl (.inl O)) (alc aW (alc aX (alc U (alc W al0))));have aY:=Us.trans aY q D.size;have aZ:=Us.trans aZ q D.size
  have D:=tstr D E q;clear q
  clear E i;have i:=J;clear J
  clear o;have o:=z;clear z
  clear p;have p:=C;clear C;refine Zt eG fun a L=>?_;refine Zr L<|Zm O<|Ze (Vd O X0h 2)<|Ze (X0 O X2 (f.at 2))<|Zf (X2b (vs:=[(pZ9 bV),vi g.b]) O X39 (X9f _ bV B0 gQ gR gS gT A1 c1 A2 c2 gU n0 (czB (flpB x g.b) g.a g.b) ⟨i,bZ,cA,o,p,eH,cW,cX⟩ (Q0 a7 D.size) g.b bJ)) ?_;rintro _ iQ ⟨gX,gY,gZ,hJ,hP,E,b0,b1,J,eI,eJ,z,C,eK,cY,cZ⟩;have f:=f.tu E i O (alc (nrow bZ f O) (alc (nrow cA f O) (alc (nrow o f O) (alc (nrow p f O) al0))));have q:=SB.lift (S:=SB bV [A0,BW,A1,A2]) (w0:=w0) (.inl (.inl O)) (alc aY (alc aZ (alc U (alc W al0))));have b0:=Us.trans b0 q D.size;have b1:=Us.trans b1 q D.size
  have D:=tstr D E q;clear q
  clear E i;have i:=J;clear J
  clear o;have o:=z;clear z
  clear p;have p:=C;clear C;refine Zn fun a L=>?_;refine X6<|X1u L (X2s O) ?_
  rw [a6]
  exact ⟨gX,gY,gZ,hJ,hP,D,b0,b1,⟨i,eI,eJ,o,p,eK,cY,cZ⟩⟩
 have g9:=bE
 refine Zs L fun _ eL=>?_;refine Ze (X0f O O)<|Za O<|Zt eL fun a L=>?_
 refine Xz L O (fun bF=>?_) (fun bF=>?_)
 ·have a6:=Xhf (x:=x) g1 g2 g3 g9 bF;refine Zr L<|Zm O<|Ze (Vd O Xs 1)<|Ze (X0 O X2 (f.at 1))<|Ze (Vd O X0h 2)<|Ze (X0 O X2 (f.at 2))<|Zf (X2b (vs:=[(pZ9 bV),vi g.a,vi g.b]) O X94 (Xsl _ bV B0 A0 c0 BW eW A1 c1 A2 c2 m0 n0 x ⟨i,G,H,o,p,aD,a8,aA⟩ (Q0 a7 D.size) g.a g.b aB bJ aC b7)) ?_;rintro _ iS ⟨hY,i1,i6,i7,i8,E,b2,b3,J,eM,eO,z,C,eP,d5,d6⟩;have f:=f.tu E i O (alc (nrow G f O) (alc (nrow H f O) (alc (nrow o f O) (alc (nrow p f O) al0))));have q:=SB.lift (S:=SB bV [A0,BW,A1,A2]) (w0:=w0) (.inl (.inl O)) (alc aE (alc aF (alc U (alc W al0))));have b2:=Us.trans b2 q D.size;have b3:=Us.trans b3 q D.size
  have D:=tstr D E q;clear q
  clear E i;have i:=J;clear J
  clear o;have o:=z;clear z
  clear p;have p:=C;clear C;refine Zn fun a L=>?_;refine X6<|X1u L (X2s O) ?_
  rw [a6]
  exact ⟨hY,i1,i6,i7,i8,D,b2,b3,⟨i,eM,eO,o,p,eP,d5,d6⟩⟩
 have bK:=bF
 refine Zs L fun _ eQ=>?_;refine Ze (X0f O O)<|Za O<|Zt eQ fun a L=>?_
 refine Xz L O (fun bG=>?_) (fun bG=>?_)
 ·have a6:=Xhg (x:=x) g1 g2 g3 g9 bK bG;refine Q5 fun _ eR=>?_;refine Xl none (fun _=>false) mixed ?_;intro iT M;have i:=i.bw M;have f:=f.bw M;have G:=G.bw M;have H:=H.bw M;have o:=o.bw M;have p:=p.bw M;have D:=tsbel D M;refine Yb L<|Yo 0 O (fun _=>X3 O)<|Yo 1 O (fun _=>Xw O)<|Yo 2 O (fun _=>Vd O X18 5)<|Ye 3 O (X0 O X2d (i.at 5))<|Yo 4 O (fun _=>Vd O Xs 1)<|Ye 5 O (X0 O X2 (f.at 1))<|Yo 6 O (fun _=>Xd (k:=g.a.toNat) O O Xy X0e o a8 Z O2)<|Ye 7 O (X0 O X2 (X17 o Xn (Xf (d:=(0:Int)) O2) 0 O))<|Yo 8 O (fun _=>X3 O)<|Yo 9 O (fun _=>Xw O) ?_;refine Yo 10 O (fun _=>Vd O X1p 6)<|Ye 11 O (X0 O X27 (i.at 6))<|Yo 12 O (fun _=>Vd O Xs 1)<|Ye 13 O (X0 O X2 (f.at 1))<|Yo 14 O (fun _=>Xd (k:=g.a.toNat) O O X1t X2k p aA Z O2)<|Ye 15 O (X0 O X4d (X17 p X0n (Xf (d:=false) O2) 0 O))<|Yo 16 O (fun _=>X19 O)<|Yo 17 O (fun _=>X19 O) ?_;refine Yd fun a L=>?_;refine eR _ _<|Q5 fun _ eS=>?_;refine Xl none (fun j=>[15].contains j) mixed ?_;intro iU M;have i:=i.bw M;have f:=f.bw M;have G:=G.bw M;have H:=H.bw M;have o:=o.bw M;have p:=p.bw M;have D:=tsbel D M;refine Yb L<|Yo 0 O (fun _=>X3 O)<|Yo 1 O (fun _=>Xw O)<|Yo 2 O (fun _=>Vd O X18 5)<|Ye 3 O (X0 O X2d (i.at 5))<|Yo 4 O (fun _=>Vd O Xs 1)<|Ye 5 O (X0 O X2 (f.at 1))<|Yo 6 O (fun _=>X3 O)<|Yo 7 O (fun _=>Xw O)<|Yo 8 O (fun _=>Vd O X18 5)<|Ye 9 O (X0 O X2d (i.at 5)) ?_
  refine Yo 10 O (fun _=>Vd O X0h 2)<|Ye 11 O (X0 O X2 (f.at 2))<|Yo 12 O (fun _=>Xd (k:=g.b.toNat) O O Xy X0e o a8 Z O2)<|Ye 13 O (X0 O X2 (X17 o Xn (Xf (d:=(0:Int)) O2) 0 O))<|Yo 14 O (fun _=>Xd (k:=g.a.toNat) O O Xy X0e o a8 Z O2)<|Y1 15 ?_;refine Yh O tv0 O (X0d (enc:=encI) (l:=x.la) (vs:=[vi (x.la.getD g.b.toNat 0)]) (x0:=(x.la.getD g.a.toNat 0)) (u:=(x.la.getD g.b.toNat 0)) (k:=g.a.toNat) (j:=0) (n1:=1) O O X0e o Xn O O O O O4 (Xf (d:=(0:Int)) O2) O) ?_;rintro _ iV ⟨N,Q⟩;have I:=o;have i:=i.appT I Q O;have f:=f.appT I Q O;have G:=G.appT I Q O;have H:=H.appT I Q O;have p:=p.appT I Q O;have D:=tsrow D Q U
  clear I Q;clear o;have o:=N;clear N;refine Yd fun a L=>?_;refine eS _ _<|Q5 fun _ eT=>?_;refine Xl none (fun j=>[15].contains j) mixed ?_;intro iW M;have i:=i.bw M;have f:=f.bw M;have G:=G.bw M;have H:=H.bw M;have p:=p.bw M;have o:=o.bw M;have D:=tsbel D M;refine Yb L<|Yo 0 O (fun _=>X3 O)<|Yo 1 O (fun _=>Xw O)<|Yo 2 O (fun _=>Vd O X1p 6)<|Ye 3 O (X0 O X27 (i.at 6))<|Yo 4 O (fun _=>Vd O Xs 1)<|Ye 5 O (X0 O X2 (f.at 1))<|Yo 6 O (fun _=>X3 O)<|Yo 7 O (fun _=>Xw O)<|Yo 8 O (fun _=>Vd O X1p 6)<|Ye 9 O (X0 O X27 (i.at 6)) ?_;refine Yo 10 O (fun _=>Vd O X0h 2)<|Ye 11 O (X0 O X2 (f.at 2))<|Yo 12 O (fun _=>Xd (k:=g.b.toNat) O O X1t X2k p aA Z O2)<|Ye 13 O (X0 O X4d (X17 p X0n (Xf (d:=false) O2) 0 O))<|Yo 14 O (fun _=>Xd (k:=g.a.toNat) O O X1t X2k p aA Z O2)<|Y1 15 ?_;refine Yh O tv0 O (X0d (enc:=encB) (l:=x.hd) (vs:=[.bool (x.hd.getD g.b.toNat false)]) (x0:=(x.hd.getD g.a.toNat false)) (u:=(x.hd.getD g.b.toNat false)) (k:=g.a.toNat) (j:=0) (n1:=1) O O X2k p X0n O O O O O4 (Xf (d:=false) O2) O) ?_;rintro _ iX ⟨N,Q⟩;have I:=p;have i:=i.appT I Q O;have f:=f.appT I Q O;have G:=G.appT I Q O;have H:=H.appT I Q O;have o:=o.appT I Q O;have D:=tsrow D Q W
  clear I Q;clear p;have p:=N;clear N;refine Yd fun a L=>?_;refine eT _ _<|Q5 fun _ eU=>?_;refine Xl none (fun j=>[8].contains j) mixed ?_;intro iY M;have i:=i.bw M;have f:=f.bw M;have G:=G.bw M;have H:=H.bw M;have o:=o.bw M;have p:=p.bw M;have D:=tsbel D M;refine Yb L<|Yo 0 O (fun _=>X3 O)<|Yo 1 O (fun _=>Xw O)<|Yo 2 O (fun _=>Vd O X18 5)<|Ye 3 O (X0 O X2d (i.at 5))<|Yo 4 O (fun _=>Vd O X0h 2)<|Ye 5 O (X0 O X2 (f.at 2))<|Yo 6 O (fun _=>X3 O)<|Yo 7 O (fun _=>Xd (k:=g.b.toNat) O O Xy X0e o (a8.trans List.length_set.symm) Z O2)<|Y1 8 ?_;refine Yh O tv0 O (X0d (enc:=encI) (l:=(x.la.set g.a.toNat (x.la.getD g.b.toNat 0))) (vs:=[vi (x.la.getD g.a.toNat 0)]) (x0:=((x.la.set g.a.toNat (x.la.getD g.b.toNat 0)).getD g.b.toNat 0)) (u:=(x.la.getD g.a.toNat 0)) (k:=g.b.toNat) (j:=0) (n1:=1) O O X0e o Xn O O O O O4 (Xf (d:=(0:Int)) O2) O) ?_;rintro _ iZ ⟨N,Q⟩;have I:=o;have i:=i.appT I Q O;have f:=f.appT I Q O;have G:=G.appT I Q O;have H:=H.appT I Q O;have p:=p.appT I Q O;have D:=tsrow D Q U
  clear I Q;clear o;have o:=N;clear N;refine Yd fun a L=>?_;refine eU _ _<|Xl none (fun j=>[8].contains j) mixed ?_;intro j0 M;have i:=i.bw M;have f:=f.bw M;have G:=G.bw M;have H:=H.bw M;have p:=p.bw M;have o:=o.bw M;have D:=tsbel D M;refine Yb L<|Yo 0 O (fun _=>X3 O)<|Yo 1 O (fun _=>Xw O)<|Yo 2 O (fun _=>Vd O X1p 6)<|Ye 3 O (X0 O X27 (i.at 6))<|Yo 4 O (fun _=>Vd O X0h 2)<|Ye 5 O (X0 O X2 (f.at 2))<|Yo 6 O (fun _=>X3 O)<|Yo 7 O (fun _=>Xd (k:=g.b.toNat) O O X1t X2k p (aA.trans List.length_set.symm) Z O2)<|Y1 8 ?_;refine Yh O tv0 O (X0d (enc:=encB) (l:=(x.hd.set g.a.toNat (x.hd.getD g.b.toNat false))) (vs:=[.bool (x.hd.getD g.a.toNat false)]) (x0:=((x.hd.set g.a.toNat (x.hd.getD g.b.toNat false)).getD g.b.toNat false)) (u:=(x.hd.getD g.a.toNat false)) (k:=g.b.toNat) (j:=0) (n1:=1) O O X2k p X0n O O O O O4 (Xf (d:=false) O2) O) ?_;rintro _ j1 ⟨N,Q⟩;have I:=p;have i:=i.appT I Q O;have G:=G.appT I Q O;have H:=H.appT I Q O;have o:=o.appT I Q O;have D:=tsrow D Q W
  clear I Q;clear p;have p:=N;clear N;refine Yd fun a L=>?_;refine X6<|X1u L (X2s O) ?_
  rw [a6]
  exact ⟨A0,c0,BW,eW,m0,D,aE,aF,⟨i,G,H,o,p,aD,((a8.trans List.length_set.symm).trans List.length_set.symm),((aA.trans List.length_set.symm).trans List.length_set.symm)⟩⟩
 have d7:=bG
 refine Zs L fun _ eV=>?_;refine Ze (X0f O O)<|Za O<|Zt eV fun a L=>?_
 refine Xz L O (fun bH=>?_) (fun bH=>?_)
 ·have a6:=Xhh (x:=x) g1 g2 g3 g9 bK d7 bH;refine Zr L<|Zm O<|Ze (Xw O)<|Ze (Vd O Xu 0)<|Ze (Vd O X0w 3)<|Ze (X0 O X2 (i.at 3))<|Ze (X3s O O)<|Ze (Xw O)<|Ze (Vd O Xu 0)<|Ze (Vd O X0w 3)<|Zo (X1m (vs:=[vi (wr (x.d.t+1))]) (l':=[vi x.d.n,.slice A0 m0 c0,.slice BW x.d.ws.length eW,vi (wr (x.d.t+1)),vi x.d.r,.slice A1 n0 c1,.slice A2 n0 c2]) O O X0e i O O O O O) ?_;rintro _ j3 ⟨ho,hb⟩;have G:=G.oT ho i O;have H:=H.oT ho i O;have o:=o.oT ho i O;have p:=p.oT ho i O;have D:=tsonly D ho (.inl (.inl O));have i:=hb;refine Zn fun a L=>?_;refine X6<|X1u L (X2s O) ?_
  rw [a6]
  exact ⟨A0,c0,BW,eW,m0,D,aE,aF,⟨i,G,H,o,p,aD,a8,aA⟩⟩
 have eX:=bH
 have a6:=Xr1 (x:=x) g1 g2 g3 g9 bK d7 eX
 have eY:4<=g.k/\g.k<=8:=by simp only [beq_eq_false_iff_ne] at g1 g2 g3 g9 bK d7 eX;omega
 have eZ:=Xfw eY;refine Xl none (fun j=>[9].contains j) mixed ?_;intro j4 M;have i:=i.bw M;have f:=f.bw M;have G:=G.bw M;have H:=H.bw M;have o:=o.bw M;have p:=p.bw M;have D:=tsbel D M;refine Yb L<|Yo 0 O (fun _=>X3 O)<|Yo 1 O (fun _=>Vd O Xs 1)<|Ye 2 O (X0 O X2 (f.at 1))<|Yo 4 O (fun _=>Vd O X25 0)<|Ye 5 O (X0 O X2 (f.at 0))<|Yo 6 O (fun _=>X1c O O Z Z)<|Y1 3 ?_;refine Yk O tv0 (X9 (k:=5) (vs:=[vi 4,vi 2,vi 6,vi 1,vi 7]) (zs:=[vi 4,vi 2,vi 6,vi 1,vi 7]) O Xy X2j O O) (fun _ _ ⟨_,_,_,h,_⟩=>h) ?_;rintro _ j5 ⟨j6,rfl,f0,M,cB⟩;have iA:=Q0 D.size f0;have i:=i.bw M;have f:=f.bw M;have G:=G.bw M;have H:=H.bw M;have o:=o.bw M;have p:=p.bw M;have D:=tsbel D M;refine Yi (k:=(g.k-4).toNat) (u:=(rotC g.k)) (enc:=encI) (l:=[4,2,6,1,7]) 7 O tv0 O O Xy X0e Xn (Rd.of_blk cB O _ cB.lt) eZ.1 Z ?_;intro j7 d8;refine Ye 8 O (X0 O X2 d8)<|Y1 9 ?_;refine Yt O tv0 O (X2b (vs:=[(pZ9 bV),vi g.a,vi (rotC g.k)]) O X4x (Xgb _ bV B0 A0 c0 BW eW A1 c1 A2 c2 m0 n0 x ⟨i,G,H,o,p,aD,a8,aA⟩ (Q0 a7 D.size) g.a (rotC g.k) aB aC b7 eZ.2)) ?_;rintro _ j8 ⟨iB,iC,iD,iE,iF,E,b4,b5,J,f4,f5,z,C,f7,dA,dB⟩;have f:=f.tu E i O (alc (nrow G f O) (alc (nrow H f O) (alc (nrow o f O) (alc (nrow p f O) al0))));have q:=SB.lift (S:=SB bV [A0,BW,A1,A2]) (w0:=w0) (.inl (.inl O)) (alc aE (alc aF (alc U (alc W al0))));have b4:=Us.trans b4 q D.size;have b5:=Us.trans b5 q D.size
 have D:=tstr D E q;clear q
 clear E i;have i:=J;clear J
 clear o;have o:=z;clear z
 clear p;have p:=C;clear C;refine Yd fun a L=>?_;refine X6<|X1u L (X2s O) ?_
 rw [a6]
 exact ⟨iB,iC,iD,iE,iF,D,b4,b5,⟨i,f4,f5,o,p,f7,dA,dB⟩⟩
theorem Y03(I:World)(c:Cx)(Ac:Option Addr)(cc:Nat)(cI:Rd I I.heap.size 66 encG Ac c.gs)(hc:cOk c=true) : Ret Tryz.prog 28 [.agg #[vi c.n,.slice Ac c.gs.length cc]] I (fun v w=>∃ A c1 B e,v=.agg #[vi (ofD c).n,.slice A (ofD c).ns.length c1,.slice B (ofD c).ws.length e,vi (ofD c).t,vi (ofD c).r]/\Own w I.heap.size 64 2 encNd A c1 (ofD c).ns/\Own w I.heap.size 72 3 encWr B e (ofD c).ws/\Below I.heap.size I w):=by
 obtain ⟨n9,eY,eZ,f0⟩:=X6v hc
 have cJ:c.n=((c.n.toNat:Nat) : Int):=by omega
 have f4:=X7g hc
 have cK:(List.replicate (c.n.toNat:Nat) false).length=(c.n.toNat:Nat):=List.length_replicate
 have cL:(c.n.toNat:Nat)<=maxLen:=by simp only [maxLen];omega
 refine enter Tryz.func28 O 79 O O ?_;intro a q
 have p:=bz I
 refine Zs q fun _ dY=>?_;refine Zf (X0u (zs:=[vi c.n,.slice Ac c.gs.length cc]) O O) ?_;rintro _ w1 ⟨b3,rfl,eA,D,o⟩;have eV:=Q0 p.size eA;have p:=btr p D;refine Zf (X03 (zs:=[vi 0,.slice none 0 0,.slice none 0 0,vi 0,vi 0]) X2l O) ?_;rintro _ w2 ⟨b6,rfl,eB,D,i⟩;have cM:=Q0 p.size eB;have o:=o.bw D;have p:=btr p D;refine ZX dY fun a q _ eC=>?_;refine Xl none (fun _=>false) mixed ?_;intro w3 D;have o:=o.bw D;have i:=i.bw D;have p:=btr p D;refine Yb q<|Yo 0 O (fun _=>Vd O X2f 0)<|Ye 1 O (X0 O X2 (o.at 0))<|Yo 2 O (fun _=>Xt (ps:=[(0,vi c.n)]) (cs:=[vi c.n,.slice none 0 0,.slice none 0 0,vi 0,vi 0]) O (fun _=>by first|rfl|kernel_rfl))<|Yo 3 O (fun _=>Vd O X2f 0)<|Ye 4 O (Vx (X0 O X2 (o.at 0)) cJ)<|Y1 5 ?_;refine Yk O tv0 (X41 (m:=(c.n.toNat:Nat)) (enc:=encB) (z0:=false) O O X1t Xlo z_4 O X0n Z Z) (fun _ _ ⟨_,_,_,h,_⟩=>h) ?_;rintro _ w4 ⟨bE,rfl,cN,D,aU⟩;have bN:=Q0 p.size cN;have o:=o.bw D;have i:=i.bw D;have p:=btr p D;refine Yo 6 O (fun _=>Xt (ps:=[(0,.agg #[vi c.n,.slice none 0 0,.slice none 0 0,vi 0,vi 0]),(2,.slice (some ⟨bE,0,none⟩) (c.n.toNat:Nat) (c.n.toNat:Nat))]) (cs:=[vi c.n,.slice none 0 0,.slice none 0 0,vi 0,vi 0,.slice none 0 0,.slice (some ⟨bE,0,none⟩) (c.n.toNat:Nat) (c.n.toNat:Nat)]) O (fun _=>by first|rfl|kernel_rfl))<|Y1 7 ?_;refine Yk O tv0 (X0u (zs:=[vi c.n,.slice none 0 0,.slice none 0 0,vi 0,vi 0,.slice none 0 0,.slice (some ⟨bE,0,none⟩) (c.n.toNat:Nat) (c.n.toNat:Nat)]) O O) (fun _ _ ⟨_,_,_,h,_⟩=>h) ?_;rintro _ w5 ⟨a8,rfl,cO,D,g⟩;have U:=Q0 p.size cO
 have o:=o.bw D;have i:=i.bw D;have aU:=aU.bw D;have p:=btr p D;refine Yo 8 O (fun _=>X19 O) ?_;refine Yd fun a q=>?_;refine eC _ _<|Q5 fun _ cP=>?_;refine Zs q fun _ cQ=>?_;refine Za O<|Zt cQ fun a q=>?_;refine Q8<|X00 (σ:=Nat×(List Nd)×(List Int)) (fun (s:Nat×(List Nd)×(List Int)) (a:Act) (w:World)=>match s with|(k,u,v)=>∃ bF bG aV aW aI aJ,Fr a 79 [(1,(pZ9 b3)),(2,(pZ9 b6)),(3,(pZ9 a8)),(4,vi (k:Int))]/\(k<=c.n.toNat)/\(u=inN k)/\(v=ranI k)/\Blk w b3 26 [vi c.n,.slice Ac c.gs.length cc]/\Blk w b6 31 [vi 0,.slice none 0 0,.slice none 0 0,vi 0,vi 0]/\Blk w a8 119 [vi c.n,.slice bF u.length bG,.slice none 0 0,vi 0,vi 0,.slice aV v.length aW,.slice aI (c.n.toNat:Nat) aJ]/\Own w I.heap.size 64 2 encNd bF bG u/\Own w I.heap.size 3 1 encI aV aW v/\Own w I.heap.size 4 1 encB aI aJ (List.replicate (c.n.toNat:Nat) false)/\Below I.heap.size I w) (fun (s:Nat×(List Nd)×(List Int))=>match s with|(k,u,v)=>c.n.toNat-k) (0,[],[]) ?_ ?_
 ·exact ⟨none,0,none,0,some ⟨bE,0,none⟩,(c.n.toNat:Nat),q.sb,(Qf _),O,O,o,i,g,(Own.nil _ _ _ _ _),(Own.nil _ _ _ _ _),(Own.of_flat X0n aU bN cK cL),p⟩
 rintro ⟨k,u,v⟩ a w6 ⟨bF,bG,aV,aW,aI,aJ,q,hk,hu,hv,o,i,g,aB,E,C,p⟩;have cR:=X48 k;have cS:=X4q k
 rw [<- hu] at cR
 rw [<- hv] at cS
 refine Q5 fun _ cT=>?_;refine Zs q fun _ cU=>?_;refine Zm O<|Ze (Vd O X2f 0)<|Ze (X0 O X2 (o.at 0))<|Ze (X1a O O)<|Zt cU fun a q=>?_
 refine X0z q O (fun bO aX=>?_) (fun bO aX=>?_)
 ·have bH:k<c.n.toNat:=by have:=aX;omega
  refine Q7<|cT _ _<|Q5 fun _ cV=>?_;refine Q8<|Zs q fun _ cW=>?_;refine Zm O<|Zm O<|Ze (Xw O)<|Ze (Vd O Xu 0)<|Ze (Vd O Xi 1)<|Ze (X0 O X0b (g.at 1))<|Zm O<|Ze (Xt (ps:=[(0,vi 1),(1,vi (k:Int))]) (cs:=[vi 1,vi (k:Int)]) O (fun _=>by first|rfl|kernel_rfl))<|Zf (X9 (k:=1) (vs:=[.agg #[vi 1,vi (k:Int)]]) (zs:=[vi 1,vi (k:Int)]) O Xp X1r O O) ?_;rintro _ w7 ⟨f5,rfl,bL,D,aY⟩;have eD:=Q0 p.size bL;have aK:=aB.away bL;have o:=o.bw D;have i:=i.bw D;have g:=g.bw D;have aB:=aB.bw D;have E:=E.bw D;have C:=C.bw D;have p:=btr p D;refine Zf (X15 (enc:=encNd) (l:=(u)) (l2:=([(⟨1,(k:Int)⟩ : Nd)])) (B0:=I.heap.size) O O Xp X1r X02 X2x aB (Rd.of_blk aY O _ aY.lt) (by simp only [maxLen];simp;omega) O6 p.size) ?_;rintro _ w8 ⟨bJ,bK,rfl,J,hg,aZ⟩
  have z:Own _ I.heap.size 64 2 encNd _ _ (u):=aB
  have cG:=aZ _ aY.lt aK;clear aZ;have o:=o.appT z hg O;have i:=i.appT z hg O;have g:=g.appT z hg O;have E:=E.appT z hg O;have C:=C.appT z hg O;have p:=Below.app p z hg (Qb _) p.size;clear z hg;refine Ze (Xw O)<|Ze (Vd O Xu 0)<|Ze (Vd O Xi 1)<|Zo (Vu (vs:=[.slice bJ (u++([(⟨1,(k:Int)⟩ : Nd)])).length bK]) (l':=[vi c.n,.slice bJ (u++([(⟨1,(k:Int)⟩ : Nd)])).length bK,.slice none 0 0,vi 0,vi 0,.slice aV v.length aW,.slice aI (c.n.toNat:Nat) aJ]) O O X3x g) ?_;rintro _ w9 ⟨ho,hb⟩;have o:=o.oz ho g O;have i:=i.oz ho g O;have E:=E.oT ho g O;have C:=C.oT ho g O;have J:=J.oT ho g O;have p:=Below.oy p ho U;have g:=hb;refine Zt cW fun a q=>?_;refine Zr q<|Zm O<|Zm O<|Ze (Xw O)<|Ze (Vd O X18 5)<|Ze (X0 O X2d (g.at 5))<|Zm O<|Zf (X9 (k:=1) (vs:=[vi (k:Int)]) (zs:=[vi (k:Int)]) O Xy X2j O O) ?_;rintro _ f7 ⟨f8,rfl,bM,D,b0⟩;have eE:=Q0 p.size bM;have aL:=E.away bM;have o:=o.bw D;have i:=i.bw D;have g:=g.bw D;have E:=E.bw D;have C:=C.bw D;have J:=J.bw D;have p:=btr p D;refine Zf (X15 (enc:=encI) (l:=(v)) (l2:=([(k:Int)])) (B0:=I.heap.size) O O Xy X2j Xn X33 E (Rd.of_blk b0 O _ b0.lt) (by simp only [maxLen];simp;omega) O6 p.size) ?_;rintro _ f9 ⟨bP,bQ,rfl,b1,hg,aZ⟩
  have z:Own _ I.heap.size 3 1 encI _ _ (v):=E
  have cH:=aZ _ b0.lt aL;clear aZ;have o:=o.appT z hg O;have i:=i.appT z hg O;have g:=g.appT z hg O;have C:=C.appT z hg O;have J:=J.appT z hg O;have p:=Below.app p z hg (Qb _) p.size;clear z hg;refine Ze (Xw O)<|Ze (Vd O X18 5)<|Zo (Vu (vs:=[.slice bP (v++([(k:Int)])).length bQ]) (l':=[vi c.n,.slice bJ (u++([(⟨1,(k:Int)⟩ : Nd)])).length bK,.slice none 0 0,vi 0,vi 0,.slice bP (v++([(k:Int)])).length bQ,.slice aI (c.n.toNat:Nat) aJ]) O O Xid g) ?_;rintro _ fA ⟨ho,hb⟩;have o:=o.oz ho g O;have i:=i.oz ho g O;have C:=C.oT ho g O;have J:=J.oT ho g O;have b1:=b1.oT ho g O;have p:=Below.oy p ho U;have g:=hb;refine Zn fun a q=>?_;refine X6<|cV _ _<|Zr q<|Zm O<|Ze (Xr O O Z Z)<|Za O ?_;refine Zn fun a q=>?_;refine Xc ?_;exact ⟨(k+1,u++([(⟨1,(k:Int)⟩ : Nd)]),v++([(k:Int)])),⟨bJ,bK,bP,bQ,aI,aJ,q.sb,Z,(by rw [Xln,<- hu]),(by rw [Xfv,<- hv]),o,i,g,J,b1,C,p⟩,O0⟩
 have bH:k=c.n.toNat:=by have:=aX;omega
 have cX:v.length=c.n.toNat:=by rw [hv,bH];exact X4q _
 have cY:(⟨⟨c.n,u,[],0,0⟩,v,List.replicate c.n.toNat false⟩ : Br)=ofB0 c:=by rw [hu,hv,bH];rfl
 have fB:u.length=c.n.toNat:=by rw [hu,bH];exact X48 _
 refine Q9<|Xg<|Xg<|X01 ?_;refine cP _ _<|Q5 fun _ cZ=>?_;refine Zs q fun _ d5=>?_;refine Ze (Vd O X38 1)<|Ze (X0 O X69 (o.at 1))<|Ze (X11 O X3q)<|Zm O<|Zt d5 fun a q=>?_;refine Q8 ?_
 rw [cX] at g
 refine X00 (σ:=Nat×Br×Nat) (fun (s:Nat×Br×Nat) (a:Act) (w:World)=>match s with|(k,x,mz)=>∃ b2 b4 b5 b7 aM aN aO aP,Fr a 79 [(1,(pZ9 b3)),(2,(pZ9 b6)),(3,(pZ9 a8)),(46,.slice Ac c.gs.length cc),(47,vi (c.gs.length:Int)),(48,vi (k:Int))]/\(k<=c.gs.length)/\(x=(c.gs.take k).foldl gtB (ofB0 c))/\(BrOk c.n.toNat x)/\(c.n.toNat=x.la.length)/\(c.n.toNat=x.hd.length)/\(mz=x.d.ns.length)/\(x.d.ns.length<=5+3*k/\x.d.ws.length<=3*k)/\Blk w b3 26 [vi c.n,.slice Ac c.gs.length cc]/\Blk w b6 31 [vi 0,.slice none 0 0,.slice none 0 0,vi 0,vi 0]/\Blk w a8 119 [vi x.d.n,.slice b2 mz b4,.slice b5 x.d.ws.length b7,vi x.d.t,vi x.d.r,.slice aM c.n.toNat aN,.slice aO c.n.toNat aP]/\Own w I.heap.size 64 2 encNd b2 b4 x.d.ns/\Own w I.heap.size 72 3 encWr b5 b7 x.d.ws/\Own w I.heap.size 3 1 encI aM aN x.la/\Own w I.heap.size 4 1 encB aO aP x.hd/\Below I.heap.size I w) (fun (s:Nat×Br×Nat)=>match s with|(k,x,mz)=>c.gs.length-k) (0,⟨⟨c.n,u,[],0,0⟩,v,List.replicate c.n.toNat false⟩,u.length) ?_ ?_
 ·exact ⟨bF,bG,none,0,aV,aW,aI,aJ,q.sb,(Qf _),cY,(cY▸X7x ⟨by omega,by omega⟩),cX.symm,cK.symm,O,⟨by show u.length<=_;omega,Qb _⟩,o,i,g,aB,(Own.nil _ _ _ _ _),E,C,p⟩
 rintro ⟨k,x,mz⟩ a fC ⟨b2,b4,b5,b7,aM,aN,aO,aP,q,hk,hx,b8,d6,d7,d8,eF,o,i,g,N,Q,G,H,p⟩;refine Zs q fun _ dA=>?_;refine Ze (X1a O O)<|ZX dA fun a q _ dB=>?_
 refine X0z q O (fun bR b9=>?_) (fun bR b9=>?_)
 ·obtain ⟨fE,eX⟩:=X8 (l:=c.gs) (k:=k) Z
  obtain ⟨u9,bS⟩:=X8 (l:=c.gs) (k:=k) (by have:=b9;omega)
  have dC:gOk (c.n.toNat:Int) u9=true:=Xaq hc cJ bS
  have dD:=X74 (f:=gtB) (b:=ofB0 c) bS
  rw [<- hx] at dD
  refine Q7<|dB _ _<|Q5 fun _ dE=>?_;refine Q8<|Zs q fun _ dF=>?_;refine Zi (k:=k) (u:=u9) (enc:=encG) (l:=c.gs) tv0 O O X3q X2t X3u (cI.bx p) bS O ?_;intro fF bU;refine Ze (X09 (l:=[vi u9.k,vi u9.a,vi u9.b]) O X28 bU O) ?_;refine ZB [vi u9.k,vi u9.a,vi u9.b] X87 X2t fun fG fH dG D W=>?_;have eG:=Q0 p.size dG;have o:=o.bw D;have i:=i.bw D;have g:=g.bw D;have N:=N.bw D;have Q:=Q.bw D;have G:=G.bw D;have H:=H.bw D;have p:=btr p D;refine Zt dF fun a q=>?_;refine Zr q<|Zm O<|Ze (Vn X28 W)<|Zf (X2b (vs:=[(pZ9 a8),.agg #[vi u9.k,vi u9.a,vi u9.b]]) O Xh7 (Y05 _ a8 I.heap.size b2 b4 b5 b7 aM aN aO aP mz c.n.toNat x ⟨g,N,Q,G,H,d8,d6,d7⟩ p.size u9 b8 Z dC)) ?_;rintro _ fI ⟨eH,eI,eJ,eK,eL,aA,bW,bX,bC,dH,dI,aG,aH,dJ,bY,bZ⟩;have o:=o.tu aA g O (alc (nrow N o O) (alc (nrow Q o O) (alc (nrow G o O) (alc (nrow H o O) al0))));have i:=i.tu aA g O (alc (nrow N i O) (alc (nrow Q i O) (alc (nrow G i O) (alc (nrow H i O) al0))));have W:=W.tu aA g O (alc (nrow N W O) (alc (nrow Q W O) (alc (nrow G W O) (alc (nrow H W O) al0))))
  have p:=Below.ts p aA (SB.ge U (alc (fun _ h9=>X2g N h9) (alc (fun _ h9=>X2g Q h9) (alc (fun _ h9=>X2g G h9) (alc (fun _ h9=>X2g H h9) al0))))) p.size
  clear bW;clear bX
  clear aA g;have g:=bC;clear bC
  clear G;have G:=aG;clear aG
  clear H;have H:=aH;clear aH;refine Zn fun a q=>?_;refine X6<|dE _ _<|Zr q<|Ze (Xr O O Z Z)<|Zm O ?_;refine Zn fun a q=>?_;refine Xc ?_;exact ⟨(k+1,(gtB x u9),eL),⟨eH,eI,eJ,eK,aM,aN,aO,aP,q.sb,Z,(by rw [dD]),(Xay b8 dC),bY,bZ,dJ,(by have:=Xcb x u9;omega),o,i,g,dH,dI,G,H,p⟩,O0⟩
 have eM:x=ofB1 c:=by rw [hx,Qi (by have:=b9;omega)];rfl
 refine Q9<|Xg<|Xg<|X01 ?_;refine cZ _ _<|Q5 fun _ dK=>?_;refine Zs q fun _ dL=>?_;refine Za O<|Zt dL fun a q=>?_;refine Q8<|X00 (σ:=Nat×Br×Nat) (fun (s:Nat×Br×Nat) (a:Act) (w:World)=>match s with|(j,y,my)=>∃ aC aD aE aF aQ aR aS aT,Fr a 79 [(1,(pZ9 b3)),(2,(pZ9 b6)),(3,(pZ9 a8)),(7,vi (j:Int))]/\(j<=c.n.toNat)/\(y=ofK c j)/\(BrOk c.n.toNat y)/\(c.n.toNat=y.la.length)/\(c.n.toNat=y.hd.length)/\(my=y.d.ns.length)/\(y.d.ns.length<=5+3*400+j/\y.d.ws.length<=3*400+j)/\Blk w b3 26 [vi c.n,.slice Ac c.gs.length cc]/\Blk w b6 31 [vi 0,.slice none 0 0,.slice none 0 0,vi 0,vi 0]/\Blk w a8 119 [vi y.d.n,.slice aC my aD,.slice aE y.d.ws.length aF,vi y.d.t,vi y.d.r,.slice aQ c.n.toNat aR,.slice aS c.n.toNat aT]/\Own w I.heap.size 64 2 encNd aC aD y.d.ns/\Own w I.heap.size 72 3 encWr aE aF y.d.ws/\Own w I.heap.size 3 1 encI aQ aR y.la/\Own w I.heap.size 4 1 encB aS aT y.hd/\Below I.heap.size I w) (fun (s:Nat×Br×Nat)=>match s with|(j,y,my)=>c.n.toNat-j) (0,x,mz) ?_ ?_
 ·exact ⟨b2,b4,b5,b7,aM,aN,aO,aP,q.sb,(Qf _),eM,b8,d6,d7,d8,Z,o,i,g,N,Q,G,H,p⟩
 rintro ⟨j,y,my⟩ a fJ ⟨aC,aD,aE,aF,aQ,aR,aS,aT,q,hj,hy,b8,eO,eP,dM,eF,o,i,g,L,M,a6,a7,p⟩;refine Q5 fun _ dN=>?_;refine Zs q fun _ dO=>?_;refine Zm O<|Ze (Vd O X2f 0)<|Ze (X0 O X2 (o.at 0))<|Ze (X1a O O)<|Zt dO fun a q=>?_
 refine X0z q O (fun cA bD=>?_) (fun cA bD=>?_)
 ·have dP:j<c.n.toNat:=by have:=bD;omega
  refine Q7<|dN _ _<|Q5 fun _ dQ=>?_;refine Q8<|Zr q<|Zm O<|Zm O<|Zm O<|Zf (X2b (vs:=[(pZ9 a8),vi 2,vi (j:Int),vi (j:Int)]) O X92 (Xsk _ a8 I.heap.size aC aD aE aF aQ aR aS aT my c.n.toNat y ⟨g,L,M,a6,a7,dM,eO,eP⟩ p.size 2 (j:Int) (j:Int) ⟨by omega,by omega⟩ Z)) ?_;rintro _ fK ⟨eQ,eR,eS,eT,eU,aA,cB,cC,bC,dR,dS,aG,aH,dT,cD,cE⟩;have o:=o.tu aA g O (alc (nrow L o O) (alc (nrow M o O) (alc (nrow a6 o O) (alc (nrow a7 o O) al0))));have i:=i.tu aA g O (alc (nrow L i O) (alc (nrow M i O) (alc (nrow a6 i O) (alc (nrow a7 i O) al0))))
  have p:=Below.ts p aA (SB.ge U (alc (fun _ h9=>X2g L h9) (alc (fun _ h9=>X2g M h9) (alc (fun _ h9=>X2g a6 h9) (alc (fun _ h9=>X2g a7 h9) al0))))) p.size
  clear cB;clear cC
  clear aA g;have g:=bC;clear bC
  clear a6;have a6:=aG;clear aG
  clear a7;have a7:=aH;clear aH;refine Zn fun a q=>?_;refine X6<|dQ _ _<|Zr q<|Zm O<|Ze (Xr O O Z Z)<|Za O ?_;refine Zn fun a q=>?_;refine Xc ?_;exact ⟨(j+1,(nodB y 2 (j:Int) (j:Int)),eU),⟨eQ,eR,eS,eT,aQ,aR,aS,aT,q.sb,Z,(by rw [X7y,<- hy]),(X77 b8 ⟨by omega,by omega⟩),cD,cE,dT,(by have:=X5k y 2 (j:Int) (j:Int);omega),o,i,g,dR,dS,a6,a7,p⟩,O0⟩
 have dP:j=c.n.toNat:=by have:=bD;omega
 have dU:outD y.d=ofD c:=by rw [hy,dP];rfl
 refine Q9<|Xg<|Xg<|X01 ?_;refine dK _ _<|Zs q fun _ dW=>?_;refine Zm O<|Ze (Xw O)<|Ze (Vd O Xu 0)<|Ze (Vd O X0w 3)<|Ze (X0 O X2 (g.at 3))<|Ze (X4n O O O)<|Ze (Xw O)<|Ze (Vd O Xu 0)<|Ze (Vd O X0w 3)<|Zo (Vu (vs:=[vi (y.d.t.tmod 8)]) (l':=[vi y.d.n,.slice aC my aD,.slice aE y.d.ws.length aF,vi (y.d.t.tmod 8),vi y.d.r,.slice aQ c.n.toNat aR,.slice aS c.n.toNat aT]) O O X0e g) ?_;rintro _ fL ⟨ho,hb⟩;have i:=i.oz ho g O;have L:=L.oT ho g O;have M:=M.oT ho g O;have p:=Below.oy p ho U;have g:=hb;refine Zx dW fun a q _ dX=>?_;refine Zm O<|Ze (Xw O)<|Ze (Vd O Xu 0)<|Ze (X09 (l:=[vi y.d.n,.slice aC my aD,.slice aE y.d.ws.length aF,vi (y.d.t.tmod 8),vi y.d.r]) O Xm ((g.at 0).take 5) O)<|Zo (Vw [vi y.d.n,.slice aC my aD,.slice aE y.d.ws.length aF,vi (y.d.t.tmod 8),vi y.d.r] X10 i) ?_;rintro _ fM ⟨ho,hb⟩;have L:=L.oT ho i O;have M:=M.oT ho i O;have p:=Below.oy p ho cM;have i:=hb;refine Zt dX fun a q=>?_
 refine Q6 (X4 q (Xo q O (ResV.cellN (l:=[vi y.d.n,.slice aC my aD,.slice aE y.d.ws.length aF,vi (y.d.t.tmod 8),vi y.d.r]) O Xm (i.at 0) O)) ?_)
 rw [<- dU]
 subst dM
 exact ⟨aC,aD,aE,aF,O,L,M,p⟩
theorem Xze(w0:World)(bV:Nat){bN:TypeId}(aA:Option Addr)(aD:Nat)(J:List Int)(b:Rd w0 w0.heap.size bN encU aA J)(aI:∀ x ∈ J,0<=x/\x<=255)(a8:AwayR J aA bV)(t:Nat)(sd:Int)(q:Blk w0 bV 52 [.slice aA J.length aD,vi (t:Int),.int .u64 sd])(ht:t+100<=100000000) : Ret Tryz.prog 133 [(pZ9 bV)] w0 (fun v w=>∃ (d:Dg) (A:Option Addr) (c1:Nat) (B:Option Addr) (e:Nat) (t1:Nat) (s1:Int),v=.agg #[vi d.n,.slice A d.ns.length c1,.slice B d.ws.length e,vi d.t,vi d.r]/\(InD d/\1<=d.ns.length/\1<=d.ws.length/\d.ns.length<=310/\d.ws.length<=320/\ExQ d)/\(t<=t1/\t1<=t+100)/\Own w w0.heap.size 64 2 encNd A c1 d.ns/\Own w w0.heap.size 72 3 encWr B e d.ws/\Kept bV w0.heap.size w0 w/\Blk w bV 52 [.slice aA J.length aD,vi (t1:Int),.int .u64 s1]):=by
 have eC:=q.lt;refine enter Tryz.func133 O 88 O O ?_;intro a L
 have D:Kept bV w0.heap.size w0 w0:=Kept.refl _ _ _
 refine Zs L fun _ dJ=>?_;refine Zf (X03 (zs:=[vi 0,.slice none 0 0,.slice none 0 0,vi 0,vi 0]) X2l O) ?_;rintro _ w1 ⟨b5,rfl,dK,p,o⟩;have cG:=Q0 D.size dK;have q:=q.bw p;have b:=b.bw p;have D:=ktr D p;refine Zx dJ fun a L _ dL=>?_;refine Zm O<|Zm O<|Zf (Vc (X2h _ bV aA aD J b.top aI a8 t sd q 2 Z) X1b) ?_;rintro _ w2 ⟨b4,cH,cI,rfl,dM,dN,hK,G⟩;obtain ⟨wm,E,hm,p⟩:=hK.mid;clear hm;have i:=q;have o:=o.oz E i O;have b:=b.onlyA E a8;have D:=D.self E;have o:=o.bw p;have b:=b.bw p;have D:=ktr D p
 clear i p E hK;have q:=G;clear G;refine Ze (Xr O O Z Z)<|Zf (X9 (k:=15) (vs:=[vi 1,vi 1,vi 7,vi 7,vi 5,vi 3,vi 8,vi 9,vi 9,vi 10,vi 10,vi 11,vi 12,vi 2,vi 4]) (zs:=[vi 1,vi 1,vi 7,vi 7,vi 5,vi 3,vi 8,vi 9,vi 9,vi 10,vi 10,vi 11,vi 12,vi 2,vi 4]) O Xy X2j O O) ?_;rintro _ w3 ⟨b7,rfl,dO,p,cJ⟩;have eD:=Q0 D.size dO;have q:=q.bw p;have o:=o.bw p;have b:=b.bw p;have D:=ktr D p;refine Zf (X2b (vs:=[(pZ9 bV),vi (1+b4),vi 9,.slice (some ⟨b7,0,none⟩) ([1,1,7,7,5,3,8,9,9,10,10,11,12,2,4]).length 15]) O X8z (Y00 _ bV aA aD J b.top aI a8 cH cI q (1+b4) 9 (some ⟨b7,0,none⟩) 15 ([1,1,7,7,5,3,8,9,9,10,10,11,12,2,4]) (Rd.of_blk cJ O _ cJ.lt) Z O4 Z O5 O5 Z)) ?_;rintro _ w4 ⟨f,b6,b8,cK,cL,rfl,aS,dP,aL,hK,G⟩;have cM:=D.size;obtain ⟨wm,E,hm,p⟩:=hK.mid;clear hm;have i:=q;have o:=o.oz E i O;have b:=b.onlyA E a8;have D:=D.self E;have o:=o.bw p;have b:=b.bw p;have D:=ktr D p
 clear i p E hK;have q:=G;clear G
 have aL:=aL.lower cM;clear cM
 have cN:cOk f=true:=Y3q Z Z (by rw [aS.1];exact aS.2.2)
 obtain ⟨dQ,eG,eH,eI,eJ⟩:=Y23 cN Z
 have cO:=Y22 (c:=f) Z Z
 have eE:(spL (ofD f).ns).length<=(ofD f).ns.length:=X86 _ _
 refine Zf (X2b (vs:=[.agg #[vi f.n,.slice b6 f.gs.length b8]]) O Xh1 (Y03 _ f b6 b8 aL.rd.top cN)) ?_;rintro _ w5 ⟨aQ,aR,bO,bP,rfl,C,a6,p⟩;have C:=C.lower D.size;have a6:=a6.lower D.size;have q:=q.bw p;have o:=o.bw p;have b:=b.bw p;have D:=ktr D p;refine ZB [vi ((ofD f).n),.slice aQ ((ofD f).ns).length aR,.slice bO ((ofD f).ws).length bP,vi ((ofD f).t),vi ((ofD f).r)] X2l X10 fun b14 w7 cP p g=>?_
 have cQ:b5≠b14:=by have:=o.lt;omega
 have aT:=Q0 D.size cP;have q:=q.bw p;have o:=o.bw p;have b:=b.bw p;have C:=C.bw p;have a6:=a6.bw p;have D:=ktr D p;refine Zx dL fun a L _ cR=>?_;refine Ze (Vn Xm g)<|Zf (Vc (Xji _ (ofD f) (((ofD f).ns).length) O aQ aR C.rd.top bO bP a6.rd.top a6.cap Z) Xc1) ?_;rintro _ w8 ⟨aM,aN,rfl,m,p⟩;have m:=m.lower D.size;have q:=q.bw p;have o:=o.bw p;have g:=g.bw p;have b:=b.bw p;have C:=C.bw p;have a6:=a6.bw p;have D:=ktr D p;refine Za O<|ZX cR fun a L _ cS=>?_;refine Zs L fun _ cT=>?_;refine Zm O<|Zf (Vc (X2h _ bV aA aD J b.top aI a8 cK cL q 3 Z) X1b) ?_;rintro _ w9 ⟨cU,cV,cW,rfl,dR,dS,hK,G⟩;obtain ⟨wm,E,hm,p⟩:=hK.mid;clear hm;have i:=q;have o:=o.oz E i O;have g:=g.oz E i O;have b:=b.onlyA E a8;have C:=C.oT E i O;have a6:=a6.oT E i O;have m:=m.oT E i O;have D:=D.self E;have o:=o.bw p;have g:=g.bw p;have b:=b.bw p;have C:=C.bw p;have a6:=a6.bw p;have m:=m.bw p;have D:=ktr D p
 clear i p E hK;have q:=G;clear G;refine Za O<|Zt cT fun a L=>?_;refine Q8<|X00 (σ:=Int×(List Wr)×Nat×Int) (fun (s:Int×(List Wr)×Nat×Int) (a:Act) (w:World)=>match s with|(j,W,t2,s2)=>∃ aF aG,Fr a 88 [(0,(pZ9 bV)),(2,(pZ9 b5)),(3,(pZ9 b14)),(4,.slice aM (spL (ofD f).ns).length aN),(5,vi j)]/\(0<=j/\j<=2)/\(1<=W.length/\W.length+j.toNat<=313)/\(InD ⟨(ofD f).n,(ofD f).ns,W,(ofD f).t,(ofD f).r⟩)/\(t<=t2/\t2+6*j.toNat<=t+80)/\(hdN W+j<=hdN (ofD f).ws+2)/\Blk w bV 52 [.slice aA J.length aD,vi (t2:Int),.int .u64 s2]/\Blk w b5 31 [vi 0,.slice none 0 0,.slice none 0 0,vi 0,vi 0]/\Blk w b14 31 [vi ((ofD f).n),.slice aQ ((ofD f).ns).length aR,.slice aF W.length aG,vi ((ofD f).t),vi ((ofD f).r)]/\Rd w w0.heap.size bN encU aA J/\Own w w0.heap.size 64 2 encNd aQ aR ((ofD f).ns)/\Own w w0.heap.size 3 1 encI aM aN (spL (ofD f).ns)/\Own w w0.heap.size 72 3 encWr aF aG W/\Kept bV w0.heap.size w0 w) (fun (s:Int×(List Wr)×Nat×Int)=>match s with|(j,W,t2,s2)=>j.toNat) (cU,(ofD f).ws,cV,cW) ?_ ?_
 ·exact ⟨bO,bP,L.sb,Z,Z,dQ,Z,Z,q,o,g,b,C,m,a6,D⟩
 rintro ⟨j,W,t2,s2⟩ a dT ⟨aF,aG,L,hj,eK,hI,eL,eM,q,o,g,b,C,m,z,D⟩;refine Q5 fun _ cX=>?_;refine Q5 fun _ cY=>?_;refine X0p (fun a w=>Fr a 88 [(0,(pZ9 bV)),(2,(pZ9 b5)),(3,(pZ9 b14)),(4,.slice aM (spL (ofD f).ns).length aN),(5,vi j),(26,.bool ((decide (0<j))&&(decide (1<((spL (ofD f).ns).length:Int)))))]/\dT=w) ?_ ?_
 ·refine Zr L<|Zm O<|Ze (X4e O O)<|Zm O ?_
  refine Zg 22 O (fun M=>?_) (fun M=>?_)
  ·have eO:=M;refine Zv (gW M) (X3 O) ?_;refine Zv (gW M) (X11 O Xy) ?_;refine Zv (gW M) (X4e O O) ?_;refine Ze (Xa O M O) ?_;refine Zn fun a L=>?_;exact ⟨L.sub ⟨O,O,O,O,O,X1 O (by first|rfl|(simp only [M,bs];done)|simp [M]),trivial⟩,O⟩
  (iterate 3 refine Zp (gP M) ?_);refine Ze (Xh O M O) ?_;refine Zn fun a L=>?_;exact ⟨L.sub ⟨O,O,O,O,O,X1 O (by first|rfl|(simp only [M,bs];done)|simp [M]),trivial⟩,O⟩
 rintro a _ ⟨L,rfl⟩;refine cY _ _ ?_
 refine Xz L O (fun aC=>?_) (fun aC=>?_)
 ·have eP:0<j/\1<(spL (ofD f).ns).length:=by have h8:=aC;simp at h8;omega
  refine Q7<|cX _ _<|Q5 fun _ b9=>?_;refine Q8<|Q5 fun _ cZ=>?_;refine Xl (some bV) (fun _=>false) mixed ?_;intro eQ p;have q:=q.bw p;have o:=o.bw p;have g:=g.bw p;have b:=b.bw p;have C:=C.bw p;have m:=m.bw p;have z:=z.bw p;have D:=ktr D p;refine Yb L<|Yo 0 O (fun _=>X3 O)<|Yo 1 O (fun _=>X3 O)<|Yo 2 O (fun _=>X3 O)<|Yo 3 O (fun _=>X11 O Xy)<|Yo 7 O (fun _=>X3 O)<|Yo 8 O (fun _=>X3 O)<|Yo 9 O (fun _=>X3 O)<|Yo 10 O (fun _=>X11 O Xy)<|Y1 4 ?_;refine Yf O tv0 (EfW.mono (Vc (X2h _ bV aA aD J b.top aI a8 t2 s2 q ((spL (ofD f).ns).length:Int) Z) X1b) (fun _ _ h=>⟨fun _=>by obtain ⟨Q,bC,bD,rfl,bQ,bR,hK,G⟩:=h;exact hK.keep,h⟩)) ?_;rintro _ eR ⟨Q,bC,bD,rfl,bQ,bR,hK,G⟩;obtain ⟨wm,E,hm,p⟩:=hK.mid;clear hm;have i:=q;have o:=o.oz E i O;have g:=g.oz E i O;have b:=b.onlyA E a8;have C:=C.oT E i O;have m:=m.oT E i O;have z:=z.oT E i O;have D:=D.self E;have o:=o.bw p;have g:=g.bw p;have b:=b.bw p;have C:=C.bw p;have m:=m.bw p;have z:=z.bw p;have D:=ktr D p
  clear i p E hK;have q:=G;clear G;refine Ya (k:=Q.toNat) (u:=((spL (ofD f).ns).getD Q.toNat 0)) (enc:=encI) (l:=(spL (ofD f).ns)) 5 O tv0 q O O O Xy X0e Xn m.rd (Xf Z) Z ?_;intro eS bS aY;refine Yw 6 O tv0 (fun w1 h1=>X0 O X2 (bS.oy h1 aY)) ?_;refine Y1 11<|Yf O tv0 (EfW.mono (Vc (X2h _ bV aA aD J b.top aI a8 bC bD q ((spL (ofD f).ns).length:Int) Z) X1b) (fun _ _ h=>⟨fun _=>by obtain ⟨U,aU,aV,rfl,bU,bW,hK,G⟩:=h;exact hK.keep,h⟩)) ?_;rintro _ w13 ⟨U,aU,aV,rfl,bU,bW,hK,G⟩;obtain ⟨wm,E,hm,p⟩:=hK.mid;clear hm;have i:=q;have o:=o.oz E i O;have g:=g.oz E i O;have b:=b.onlyA E a8;have C:=C.oT E i O;have m:=m.oT E i O;have z:=z.oT E i O;have D:=D.self E;have o:=o.bw p;have g:=g.bw p;have b:=b.bw p;have C:=C.bw p;have m:=m.bw p;have z:=z.bw p;have D:=ktr D p
  clear i p E hK;have q:=G;clear G;refine Ya (k:=U.toNat) (u:=((spL (ofD f).ns).getD U.toNat 0)) (enc:=encI) (l:=(spL (ofD f).ns)) 12 O tv0 q O O O Xy X0e Xn m.rd (Xf Z) Z ?_;intro eT bX aZ;refine Yw 13 O tv0 (fun w1 h1=>X0 O X2 (bX.oy h1 aZ)) ?_;refine Yo 14 O (fun _=>X19 O)<|Yo 15 O (fun _=>X19 O) ?_;refine Yd fun a L=>?_;refine cZ _ _<|Q5 fun _ d5=>?_;refine X0p (fun a w=>Fr a 88 [(0,(pZ9 bV)),(2,(pZ9 b5)),(3,(pZ9 b14)),(4,.slice aM (spL (ofD f).ns).length aN),(5,vi j),(6,vi ((spL (ofD f).ns).getD Q.toNat 0)),(7,vi ((spL (ofD f).ns).getD U.toNat 0)),(53,.bool ((((spL (ofD f).ns).getD Q.toNat 0) != ((spL (ofD f).ns).getD U.toNat 0))&&(decide ((fdW W ((spL (ofD f).ns).getD Q.toNat 0) ((spL (ofD f).ns).getD U.toNat 0))<0))))]/\Below w13.heap.size w13 w) ?_ ?_
  ·have b0:Below w13.heap.size w13 w13:=Below.refl _ _
   refine Zr L<|Zm O<|Zm O<|Ze (X3t O O)<|Zm O ?_
   refine Zg 46 O (fun H=>?_) (fun H=>?_)
   ·refine Zv (gW H) (Vd O Xv 2) ?_;refine Zv (gW H) (X0 O X12 (g.at 2)) ?_;refine Zv (gW H) (X3 O) ?_;refine Zv (gW H) (X3 O) ?_;refine Zk (gW H) (Vc (Xjj _ aF aG W z.rd.top ((spL (ofD f).ns).getD Q.toNat 0) ((spL (ofD f).ns).getD U.toNat 0) Z) Xc3) ?_;rintro _ eU ⟨rfl,p⟩;have D:=ktr D p;have b0:=btr b0 p;refine Zv (gW H) (X1a O O) ?_;refine Ze (Xa O H O) ?_;refine Zn fun a L=>?_;exact ⟨L.sub ⟨O,O,O,O,O,O,O,X1 O (by first|rfl|(simp only [aC,H,bs];done)|simp [aC,H]),trivial⟩,b0⟩
   (iterate 6 refine Zp (gP H) ?_);refine Ze (Xh O H O) ?_;refine Zn fun a L=>?_;exact ⟨L.sub ⟨O,O,O,O,O,O,O,X1 O (by first|rfl|(simp only [aC,H,bs];done)|simp [aC,H]),trivial⟩,b0⟩
  rintro a eV ⟨L,p⟩;have q:=q.bw p;have o:=o.bw p;have g:=g.bw p;have b:=b.bw p;have C:=C.bw p;have m:=m.bw p;have z:=z.bw p;have D:=ktr D p;refine d5 _ _ ?_
  refine Xz L O (fun aW=>?_) (fun aW=>?_)
  ·have d6:=Xfy (ns:=(ofD f).ns) (Xf (d:=(0:Int)) (l:=(spL (ofD f).ns)) (k:=Q.toNat) Z)
   have d7:=Xfy (ns:=(ofD f).ns) (Xf (d:=(0:Int)) (l:=(spL (ofD f).ns)) (k:=U.toNat) Z)
   have dU:(((spL (ofD f).ns).getD Q.toNat 0) != ((spL (ofD f).ns).getD U.toNat 0))=true:=by have h8:=aW;rw [Qd] at h8;exact h8.1
   have dW:fdW W ((spL (ofD f).ns).getD Q.toNat 0) ((spL (ofD f).ns).getD U.toNat 0)<0:=by have h8:=aW;rw [Qd] at h8;exact Q2 h8.2
   refine Xl (some bV) (fun j=>[9].contains j) mixed ?_;intro eX p;have q:=q.bw p;have o:=o.bw p;have g:=g.bw p;have b:=b.bw p;have C:=C.bw p;have m:=m.bw p;have z:=z.bw p;have D:=ktr D p;refine Yb L<|Yo 0 O (fun _=>Vd O Xv 2) ?_;refine Yw 1 O tv0 (fun w1 h1=>X0 O X12 ((g.oz h1 q O).at 2)) ?_;refine Yo 2 O (fun _=>X3 O)<|Yo 3 O (fun _=>X3 O)<|Yo 4 O (fun _=>X3 O)<|Y1 5 ?_;refine Yf O tv0 (EfW.mono (Vc (X2h _ bV aA aD J b.top aI a8 aU aV q 3 Z) X1b) (fun _ _ h=>⟨fun _=>by obtain ⟨aJ,bE,bF,rfl,bY,bZ,hK,G⟩:=h;exact hK.keep,h⟩)) ?_;rintro _ eY ⟨aJ,bE,bF,rfl,bY,bZ,hK,G⟩;obtain ⟨wm,E,hm,p⟩:=hK.mid;clear hm;have i:=q;have o:=o.oz E i O;have g:=g.oz E i O;have b:=b.onlyA E a8;have C:=C.oT E i O;have m:=m.oT E i O;have z:=z.oT E i O;have D:=D.self E;have o:=o.bw p;have g:=g.bw p;have b:=b.bw p;have C:=C.bw p;have m:=m.bw p;have z:=z.bw p;have D:=ktr D p
   clear i p E hK;have q:=G;clear G;refine Yo 6 O (fun _=>X4e O O)<|Y1 7 ?_;refine Yf O tv0 (EfW.mono (Vc (Xda _ aF aG W z.rd.top ((spL (ofD f).ns).getD Q.toNat 0) ((spL (ofD f).ns).getD U.toNat 0) (decide (0<aJ)) Z z.cap) X7n) (fun _ _ h=>⟨fun _=>by obtain ⟨b1,b2,rfl,aH,p⟩:=h;exact Keep.of_below p,h⟩)) ?_;rintro _ eZ ⟨b1,b2,rfl,aH,p⟩;have aH:=aH.lower D.size;have q:=q.bw p;have o:=o.bw p;have g:=g.bw p;have b:=b.bw p;have C:=C.bw p;have m:=m.bw p;have D:=ktr D p;refine Yo 8 O (fun _=>Vd O Xv 2)<|Y1 9 ?_;refine Yh O tv0 O (Vu (vs:=[.slice b1 (jnW W ((spL (ofD f).ns).getD Q.toNat 0) ((spL (ofD f).ns).getD U.toNat 0) (decide (0<aJ))).length b2]) (l':=[vi ((ofD f).n),.slice aQ ((ofD f).ns).length aR,.slice b1 (jnW W ((spL (ofD f).ns).getD Q.toNat 0) ((spL (ofD f).ns).getD U.toNat 0) (decide (0<aJ))).length b2,vi ((ofD f).t),vi ((ofD f).r)]) O O X32 g) ?_;rintro _ f0 ⟨ho,hb⟩;have q:=q.oz ho g O;have o:=o.oy ho Z;have b:=b.oy ho aT;have C:=C.oT ho g O;have m:=m.oT ho g O;have aH:=aH.oT ho g O;have D:=Kept.oy D ho aT;have g:=hb;refine Yd fun a L=>?_;refine X6<|b9 _ _<|Zr L<|Zm O<|Ze (X1c O O Z Z)<|Za O ?_;refine Zn fun a L=>?_;refine Xc ?_;exact ⟨(j-1,(jnW W ((spL (ofD f).ns).getD Q.toNat 0) ((spL (ofD f).ns).getD U.toNat 0) (decide (0<aJ))),bE,bF),⟨b1,b2,L.sb,Z,(by rw [X75];omega),(Y1o hI ⟨d6.1,by omega⟩ ⟨d7.1,by omega⟩ dU dW _),Z,(by rw [Xaz];split<;>omega),q,o,g,b,C,m,aH,D⟩,O0⟩
  refine Q7<|X6<|b9 _ _<|Zr L ?_;refine Zm O<|Ze (X1c O O Z Z)<|Za O ?_;refine Zn fun a L=>?_;refine Xc ?_;exact ⟨(j-1,W,aU,aV),⟨aF,aG,L.sb,Z,(by have:=X75 W 0 0 true;omega),hI,Z,Z,q,o,g,b,C,m,z,D⟩,O0⟩
 refine Q9<|Xg<|Xg<|X01 ?_;refine cS _ _<|Q5 fun _ d8=>?_;refine Zs L fun _ dA=>?_;refine Zm O<|Zf (Vc (X2h _ bV aA aD J b.top aI a8 t2 s2 q 2 Z) X1b) ?_;rintro _ f4 ⟨dB,dC,dD,rfl,dX,dY,hK,G⟩;obtain ⟨wm,E,hm,p⟩:=hK.mid;clear hm;have i:=q;have o:=o.oz E i O;have g:=g.oz E i O;have b:=b.onlyA E a8;have C:=C.oT E i O;have m:=m.oT E i O;have z:=z.oT E i O;have D:=D.self E;have o:=o.bw p;have g:=g.bw p;have b:=b.bw p;have C:=C.bw p;have m:=m.bw p;have z:=z.bw p;have D:=ktr D p
 clear i p E hK;have q:=G;clear G;refine Za O<|Zt dA fun a L=>?_;refine Q8<|X00 (σ:=Int×(List Nd)×Nat×Nat×Int) (fun (s:Int×(List Nd)×Nat×Nat×Int) (a:Act) (w:World)=>match s with|(j2,N,mz,t3,s3)=>∃ aO aP,Fr a 88 [(0,(pZ9 bV)),(2,(pZ9 b5)),(3,(pZ9 b14)),(4,.slice aM (spL (ofD f).ns).length aN),(8,vi j2)]/\(0<=j2/\j2<=1)/\(mz=N.length)/\(N.length=(ofD f).ns.length)/\(InD ⟨(ofD f).n,N,W,(ofD f).t,(ofD f).r⟩)/\(t<=t3/\t3+4*j2.toNat<=t+90)/\Blk w bV 52 [.slice aA J.length aD,vi (t3:Int),.int .u64 s3]/\Blk w b5 31 [vi 0,.slice none 0 0,.slice none 0 0,vi 0,vi 0]/\Blk w b14 31 [vi ((ofD f).n),.slice aO mz aP,.slice aF W.length aG,vi ((ofD f).t),vi ((ofD f).r)]/\Rd w w0.heap.size bN encU aA J/\Own w w0.heap.size 3 1 encI aM aN (spL (ofD f).ns)/\Own w w0.heap.size 72 3 encWr aF aG W/\Own w w0.heap.size 64 2 encNd aO aP N/\Kept bV w0.heap.size w0 w) (fun (s:Int×(List Nd)×Nat×Nat×Int)=>match s with|(j2,N,mz,t3,s3)=>j2.toNat) (dB,(ofD f).ns,(ofD f).ns.length,dC,dD) ?_ ?_
 ·exact ⟨aQ,aR,L.sb,Z,O,O,hI,Z,q,o,g,b,m,z,C,D⟩
 rintro ⟨j2,N,mz,t3,s3⟩ a eA ⟨aO,aP,L,f5,cA,eB,dE,f7,q,o,g,b,m,z,I,D⟩;refine Q5 fun _ dF=>?_;refine Q5 fun _ dG=>?_;refine X0p (fun a w=>Fr a 88 [(0,(pZ9 bV)),(2,(pZ9 b5)),(3,(pZ9 b14)),(4,.slice aM (spL (ofD f).ns).length aN),(8,vi j2),(71,.bool ((decide (0<j2))&&(decide (0<((spL (ofD f).ns).length:Int)))))]/\eA=w) ?_ ?_
 ·refine Zr L<|Zm O<|Ze (X4e O O)<|Zm O ?_
  refine Zg 67 O (fun a7=>?_) (fun a7=>?_)
  ·refine Zv (gW a7) (X3 O) ?_;refine Zv (gW a7) (X11 O Xy) ?_;refine Zv (gW a7) (X4e O O) ?_;refine Ze (Xa O a7 O) ?_;refine Zn fun a L=>?_;exact ⟨L.sub ⟨O,O,O,O,O,X1 O (by first|rfl|(simp only [aC,a7,bs];done)|simp [aC,a7]),trivial⟩,O⟩
  (iterate 3 refine Zp (gP a7) ?_);refine Ze (Xh O a7 O) ?_;refine Zn fun a L=>?_;exact ⟨L.sub ⟨O,O,O,O,O,X1 O (by first|rfl|(simp only [aC,a7,bs];done)|simp [aC,a7]),trivial⟩,O⟩
 rintro a _ ⟨L,rfl⟩;refine dG _ _ ?_
 refine Xz L O (fun bG=>?_) (fun bG=>?_)
 ·have f8:0<j2/\0<(spL (ofD f).ns).length:=by have h8:=bG;simp at h8;omega
  refine Q7<|dF _ _<|Q5 fun _ dH=>?_;refine Q8<|Xl (some bV) (fun j=>[13].contains j) mixed ?_;intro f9 p;have q:=q.bw p;have o:=o.bw p;have g:=g.bw p;have b:=b.bw p;have m:=m.bw p;have z:=z.bw p;have I:=I.bw p;have D:=ktr D p;refine Yb L<|Yo 0 O (fun _=>Vd O Xi 1) ?_;refine Yw 1 O tv0 (fun w1 h1=>X0 O X0b ((g.oz h1 q O).at 1)) ?_;refine Yo 2 O (fun _=>X3 O)<|Yo 3 O (fun _=>X3 O)<|Yo 4 O (fun _=>X3 O)<|Yo 5 O (fun _=>X11 O Xy)<|Yo 9 O (fun _=>X3 O)<|Y1 6 ?_;refine Yf O tv0 (EfW.mono (Vc (X2h _ bV aA aD J b.top aI a8 t3 s3 q ((spL (ofD f).ns).length:Int) Z) X1b) (fun _ _ h=>⟨fun _=>by obtain ⟨aB,bH,bJ,rfl,cB,cC,hK,G⟩:=h;exact hK.keep,h⟩)) ?_;rintro _ fA ⟨aB,bH,bJ,rfl,cB,cC,hK,G⟩;obtain ⟨wm,E,hm,p⟩:=hK.mid;clear hm;have i:=q;have o:=o.oz E i O;have g:=g.oz E i O;have b:=b.onlyA E a8;have m:=m.oT E i O;have z:=z.oT E i O;have I:=I.oT E i O;have D:=D.self E;have o:=o.bw p;have g:=g.bw p;have b:=b.bw p;have m:=m.bw p;have z:=z.bw p;have I:=I.bw p;have D:=ktr D p
  clear i p E hK;have q:=G;clear G
  have eF:=Xfy (ns:=(ofD f).ns) (Xf (d:=(0:Int)) (l:=(spL (ofD f).ns)) (k:=aB.toNat) Z)
  refine Ya (k:=aB.toNat) (u:=((spL (ofD f).ns).getD aB.toNat 0)) (enc:=encI) (l:=(spL (ofD f).ns)) 7 O tv0 q O O O Xy X0e Xn m.rd (Xf Z) Z ?_;intro fB cD b3;refine Yw 8 O tv0 (fun w1 h1=>X0 O X2 (cD.oy h1 b3)) ?_;refine Y1 10<|Yf O tv0 (EfW.mono (Vc (X2h _ bV aA aD J b.top aI a8 bH bJ q 8 Z) X1b) (fun _ _ h=>⟨fun _=>by obtain ⟨aK,bK,bL,rfl,aX,cE,hK,G⟩:=h;exact hK.keep,h⟩)) ?_;rintro _ fC ⟨aK,bK,bL,rfl,aX,cE,hK,G⟩;obtain ⟨wm,E,hm,p⟩:=hK.mid;clear hm;have i:=q;have o:=o.oz E i O;have g:=g.oz E i O;have b:=b.onlyA E a8;have m:=m.oT E i O;have z:=z.oT E i O;have I:=I.oT E i O;have D:=D.self E;have o:=o.bw p;have g:=g.bw p;have b:=b.bw p;have m:=m.bw p;have z:=z.bw p;have I:=I.bw p;have D:=ktr D p
  clear i p E hK;have q:=G;clear G;refine Yo 11 O (fun _=>Xd (k:=((spL (ofD f).ns).getD aB.toNat 0).toNat) O O Xp X0g I cA Z Z)<|Yo 12 O (fun _=>X1z O X0x (m':=((spL (ofD f).ns).getD aB.toNat 0).toNat*2+1) O)<|Y1 13 ?_;refine Yh O tv0 O (X0d (enc:=encNd) (l:=N) (vs:=[vi aK]) (x0:=(N.getD ((spL (ofD f).ns).getD aB.toNat 0).toNat nZ)) (u:=(⟨(N.getD ((spL (ofD f).ns).getD aB.toNat 0).toNat nZ).k,aK⟩ : Nd)) (k:=((spL (ofD f).ns).getD aB.toNat 0).toNat) (j:=1) (n1:=1) O O X0e I X02 O O O O O4 (Xf (d:=nZ) Z) O) ?_;rintro _ fE ⟨bM,hg⟩;have aE:=I;have q:=q.appT aE hg O;have o:=o.appT aE hg O;have g:=g.appT aE hg O;have b:=b.appB aE hg (Qb _);have m:=m.appT aE hg O;have z:=z.appT aE hg O;have D:=Kept.app D aE hg (Qb _) D.size
  clear aE hg;clear I;have I:=bM;clear bM;refine Yd fun a L=>?_;refine X6<|dH _ _<|Zr L<|Zm O<|Ze (X1c O O Z Z)<|Za O ?_;refine Zn fun a L=>?_;refine Xc ?_;exact ⟨(j2-1,(N.set (((spL (ofD f).ns).getD aB.toNat 0).toNat) (⟨(N.getD ((spL (ofD f).ns).getD aB.toNat 0).toNat nZ).k,aK⟩ : Nd)),mz,bK,bL),⟨aO,aP,L.sb,Z,(cA.trans List.length_set.symm),(by rw [List.length_set];exact eB),(Y1p dE _ ⟨aX.1,by show aK<=7;omega⟩),Z,q,o,g,b,m,z,I,D⟩,O0⟩
 refine Q9<|Xg<|Xg<|X01 ?_;refine d8 _ _<|Zs L fun _ dI=>?_;refine Ze (Vn Xm g)<|Zo (Vw [vi ((ofD f).n),.slice aO mz aP,.slice aF W.length aG,vi ((ofD f).t),vi ((ofD f).r)] X10 o) ?_;rintro _ fF ⟨ho,hb⟩;have q:=q.oz ho o O;have z:=z.oT ho o O;have I:=I.oT ho o O;have D:=Kept.oy D ho cG;have o:=hb;refine Zt dI fun a L=>?_
 refine Q6 (X4 L (Xo L O (ResV.cellN (l:=[vi ((ofD f).n),.slice aO mz aP,.slice aF W.length aG,vi ((ofD f).t),vi ((ofD f).r)]) O Xm (o.at 0) O)) ?_)
 subst cA
 exact ⟨(⟨(ofD f).n,N,W,(ofD f).t,(ofD f).r⟩ : Dg),aO,aP,aF,aG,_,_,O7,⟨dE,by show 1<=N.length;omega,by show 1<=W.length;omega,by show N.length<=310;omega,by show W.length<=320;omega,cO.1,by show -1000<=hdN W-(ofD f).r/\hdN W-(ofD f).r<=31;have h8:=Xhi W;have h9:hdN (ofD f).ws-(ofD f).r<=29:=cO.2.2;omega⟩,⟨by omega,by omega⟩,I,z,D,q⟩
theorem Xyx(w0:World)(bV:Nat){dP:TypeId}(aD:Option Addr)(aH:Nat)(a6:List Int)(o:Rd w0 w0.heap.size dP encU aD a6)(aL:∀ x ∈ a6,0<=x/\x<=255)(aB:AwayR a6 aD bV)(t:Nat)(sd:Int)(z:Blk w0 bV 52 [.slice aD a6.length aH,vi (t:Int),.int .u64 sd])(ht:t+120<=100000000) : Ret Tryz.prog 95 [(pZ9 bV)] w0 (fun v w=>∃ (d:Dg) (A:Option Addr) (c1:Nat) (B:Option Addr) (e:Nat) (t1:Nat) (s1:Int),v=.agg #[vi d.n,.slice A d.ns.length c1,.slice B d.ws.length e,vi d.t,vi d.r]/\(d.ns.length<=400/\d.ws.length<=400/\(∀ x ∈ d.ws,-1000000<=x.b/\x.b<=1000000)/\ExL d)/\(t<=t1/\t1<=t+120)/\Rd w w.heap.size 64 encNd A d.ns/\Rd w w.heap.size 72 encWr B d.ws/\d.ws.length<=e/\Kept bV w0.heap.size w0 w/\Blk w bV 52 [.slice aD a6.length aH,vi (t1:Int),.int .u64 s1]):=by
 have eK:=z.lt;refine enter Tryz.func95 O 80 O O ?_;intro a L
 have E:Kept bV w0.heap.size w0 w0:=Kept.refl _ _ _
 refine Zs L fun _ dQ=>?_;refine Zf (X03 (zs:=[vi 0,.slice none 0 0,.slice none 0 0,vi 0,vi 0]) X2l O) ?_;rintro _ w1 ⟨b5,rfl,dR,D,q⟩;have aI:=Q0 E.size dR;have z:=z.bw D;have o:=o.bw D;have E:=ktr E D;refine Zx dQ fun a L _ dS=>?_;refine Zm O<|Zf (Vc (Xze _ bV aD aH a6 o.top aL aB t sd z Z) Xqf) ?_;rintro _ w2 ⟨m,U,W,Q,N,dT,dU,rfl,bK,eL,g,i,hK,H⟩;have b4:=E.size;have b4:=E.size;obtain ⟨wm,I,hm,D⟩:=hK.mid;clear hm;have C:=z;have q:=q.oz I C O;have o:=o.onlyA I aB;have E:=E.self I;have q:=q.bw D;have o:=o.bw D;have E:=ktr E D
 clear C D I hK;have z:=H;clear H
 have g:=g.lower b4;clear b4
 have i:=i.lower b4;clear b4;have a7:=Y1n bK.1;have a8:=bK.2.2.2.2.2.l;have eM:=i.cap;refine ZB [vi m.n,.slice U m.ns.length W,.slice Q m.ws.length N,vi m.t,vi m.r] X2l X10 fun b11 w4 cJ D f=>?_
 have cK:b5≠b11:=by have:=q.lt;omega
 have aO:=Q0 E.size cJ;have z:=z.bw D;have q:=q.bw D;have o:=o.bw D;have g:=g.bw D;have i:=i.bw D;have E:=ktr E D;refine ZX dS fun a L _ aJ=>?_;refine Zs L fun _ cL=>?_;refine Zm O<|Zf (Vc (X2h _ bV aD aH a6 o.top aL aB dT dU z 24 Z) X1b) ?_;rintro _ w5 ⟨eU,aX,aY,rfl,eO,eP,hK,H⟩;obtain ⟨wm,I,hm,D⟩:=hK.mid;clear hm;have C:=z;have q:=q.oz I C O;have f:=f.oz I C O;have o:=o.onlyA I aB;have g:=g.oT I C O;have i:=i.oT I C O;have E:=E.self I;have q:=q.bw D;have f:=f.bw D;have o:=o.bw D;have g:=g.bw D;have i:=i.bw D;have E:=ktr E D
 clear C D I hK;have z:=H;clear H;refine Zt cL fun a L=>?_;refine Q8<|Zs L fun _ cM=>?_;refine Ze (X0f O O)<|Za O<|Zt cM fun a L=>?_
 refine Xz L O (fun cN=>?_) (fun cN=>?_)
 ·refine Xl (some bV) (fun j=>[12].contains j) mixed ?_;intro w6 D;have z:=z.bw D;have q:=q.bw D;have f:=f.bw D;have o:=o.bw D;have g:=g.bw D;have i:=i.bw D;have E:=ktr E D;refine Yb L<|Yo 0 O (fun _=>Vd O Xi 1) ?_;refine Yw 1 O tv0 (fun w1 h1=>X0 O X0b ((f.oz h1 z O).at 1)) ?_;refine Yo 2 O (fun _=>X3 O)<|Yo 3 O (fun _=>Vd O Xi 1) ?_;refine Yw 4 O tv0 (fun w1 h1=>X0 O X0b ((f.oz h1 z O).at 1)) ?_;refine Yo 5 O (fun _=>X11 O Xp)<|Yo 7 O (fun _=>X3 O) ?_;refine Y2 6 8 ?_ ?_
  ·refine Yf O tv0 (EfW.mono (Vc (X2h _ bV aD aH a6 o.top aL aB aX aY z (m.ns.length:Int) Z) X1b) (fun _ _ h=>⟨fun _=>by obtain ⟨aA,aR,aS,rfl,aZ,b0,hK,H⟩:=h;exact hK.keep,h⟩)) ?_;rintro _ w7 ⟨aA,aR,aS,rfl,aZ,b0,hK,H⟩;obtain ⟨wm,I,hm,D⟩:=hK.mid;clear hm;have C:=z;have q:=q.oz I C O;have f:=f.oz I C O;have o:=o.onlyA I aB;have g:=g.oT I C O;have i:=i.oT I C O;have E:=E.self I;have q:=q.bw D;have f:=f.bw D;have o:=o.bw D;have g:=g.bw D;have i:=i.bw D;have E:=ktr E D
   clear C D I hK;have z:=H;clear H;refine Y1 8<|Yf O tv0 (EfW.mono (X9 (k:=4) (vs:=[vi 8,vi 3,vi 1,vi (-1)]) (zs:=[vi 8,vi 3,vi 1,vi (-1)]) O Xy X2j O O) (fun _ _ h=>⟨fun _=>by obtain ⟨_,_,_,D,_⟩:=h;exact Keep.of_below D,h⟩)) ?_;rintro _ w8 ⟨dW,rfl,cO,D,bL⟩;have dX:=Q0 E.size cO;have z:=z.bw D;have q:=q.bw D;have f:=f.bw D;have o:=o.bw D;have g:=g.bw D;have i:=i.bw D;have E:=ktr E D;refine Y1 9<|Yf O tv0 (EfW.mono (Vc (Xak _ bV aD aH a6 o.top aL aB aR aS z (some ⟨dW,0,none⟩) 4 ([8,3,1,-1]) (Rd.of_blk bL O _ bL.lt) O5 O5 Z) X6h) (fun _ _ h=>⟨fun _=>by obtain ⟨aK,b6,b7,rfl,b1,b2,hK,H⟩:=h;exact hK.keep,h⟩)) ?_;rintro _ w9 ⟨aK,b6,b7,rfl,b1,b2,hK,H⟩;obtain ⟨wm,I,hm,D⟩:=hK.mid;clear hm;have C:=z;have q:=q.oz I C O;have f:=f.oz I C O;have g:=g.oT I C O;have i:=i.oT I C O;have E:=E.self I;have q:=q.bw D;have f:=f.bw D;have g:=g.bw D;have i:=i.bw D;have E:=ktr E D
   clear C D I hK;have z:=H;clear H;refine Yo 10 O (fun _=>Xd (k:=aA.toNat) O O Xp X0g g O Z Z)<|Yo 11 O (fun _=>X1z O X0x (m':=aA.toNat*2+1) O)<|Y1 12 ?_;refine Yh O tv0 O (X0d (enc:=encNd) (l:=m.ns) (vs:=[vi aK]) (x0:=(m.ns.getD aA.toNat nZ)) (u:=(⟨(m.ns.getD aA.toNat nZ).k,aK⟩ : Nd)) (k:=aA.toNat) (j:=1) (n1:=1) O O X0e g X02 O O O O O4 (Xf (d:=nZ) Z) O) ?_;rintro _ eV ⟨aM,hg⟩;have G:=g;have z:=z.appT G hg O;have q:=q.appT G hg O;have f:=f.appT G hg O;have i:=i.appT G hg O;have E:=Kept.app E G hg (Qb _) E.size
   clear G hg;clear g;have g:=aM;clear aM;refine Yd fun a L=>?_;refine X6<|aJ _ _<|Zs L fun _ cP=>?_;refine Ze (Vn Xm f)<|Zo (Vw [vi m.n,.slice U m.ns.length W,.slice Q m.ws.length N,vi m.t,vi m.r] X10 q) ?_;rintro _ eX ⟨M,hb⟩;have z:=z.oz M q O;have i:=i.oT M q O;have g:=g.oT M q O;have E:=Kept.oy E M aI;have q:=hb;refine Zt cP fun a L=>?_
   refine Q6 (X4 L (Xo L O (ResV.cellN (l:=[vi m.n,.slice U m.ns.length W,.slice Q m.ws.length N,vi m.t,vi m.r]) O Xm (q.at 0) O)) ?_)
   exact ⟨(⟨m.n,(m.ns.set aA.toNat (⟨(m.ns.getD aA.toNat nZ).k,aK⟩ : Nd)),m.ws,m.t,m.r⟩ : Dg),U,W,Q,N,_,_,O7,⟨(by (try dsimp only);first|omega|(simp only [List.length_set,Qh,List.length_drop,List.length_singleton];omega)),(by (try dsimp only);first|omega|(simp only [List.length_set,Qh,List.length_drop,List.length_singleton];omega)),(by first|exact a7|exact (fun x J=>a7 x (List.mem_of_mem_drop J))|exact (fun x J=>by rcases Qu.1 J with J|J;exact a7 x J;rw [Qm] at J;subst J;dsimp only;omega)),(by first|exact a8|exact X3v a8 _|exact X4i a8|exact X7j (by have h8:=aC;simp only [Qv,List.not_mem_nil,or_false] at h8;dsimp only;omega))⟩,⟨by omega,by omega⟩,g.rd.top,i.rd.top,i.cap,E,z⟩
  refine Yf O tv0 (EfW.mono (X9 (k:=4) (vs:=[vi 8,vi 3,vi 1,vi (-1)]) (zs:=[vi 8,vi 3,vi 1,vi (-1)]) O Xy X2j O O) (fun _ _ h=>⟨fun _=>by obtain ⟨_,_,_,D,_⟩:=h;exact Keep.of_below D,h⟩)) ?_;rintro _ eY ⟨dY,rfl,cQ,D,aP⟩;have eA:=Q0 E.size cQ;have z:=z.bw D;have q:=q.bw D;have f:=f.bw D;have o:=o.bw D;have g:=g.bw D;have i:=i.bw D;have E:=ktr E D;refine Y1 6<|Yf O tv0 (EfW.mono (Vc (X2h _ bV aD aH a6 o.top aL aB aX aY z (m.ns.length:Int) Z) X1b) (fun _ _ h=>⟨fun _=>by obtain ⟨aA,aR,aS,rfl,aZ,b0,hK,H⟩:=h;exact hK.keep,h⟩)) ?_;rintro _ eZ ⟨aA,aR,aS,rfl,aZ,b0,hK,H⟩;obtain ⟨wm,I,hm,D⟩:=hK.mid;clear hm;have C:=z;have q:=q.oz I C O;have f:=f.oz I C O;have aP:=aP.oz I C O;have o:=o.onlyA I aB;have g:=g.oT I C O;have i:=i.oT I C O;have E:=E.self I;have q:=q.bw D;have f:=f.bw D;have aP:=aP.bw D;have o:=o.bw D;have g:=g.bw D;have i:=i.bw D;have E:=ktr E D
  clear C D I hK;have z:=H;clear H;refine Y1 9<|Yf O tv0 (EfW.mono (Vc (Xak _ bV aD aH a6 o.top aL aB aR aS z (some ⟨dY,0,none⟩) 4 ([8,3,1,-1]) (Rd.of_blk aP O _ aP.lt) O5 O5 Z) X6h) (fun _ _ h=>⟨fun _=>by obtain ⟨aK,b6,b7,rfl,b1,b2,hK,H⟩:=h;exact hK.keep,h⟩)) ?_;rintro _ f0 ⟨aK,b6,b7,rfl,b1,b2,hK,H⟩;obtain ⟨wm,I,hm,D⟩:=hK.mid;clear hm;have C:=z;have q:=q.oz I C O;have f:=f.oz I C O;have g:=g.oT I C O;have i:=i.oT I C O;have E:=E.self I;have q:=q.bw D;have f:=f.bw D;have g:=g.bw D;have i:=i.bw D;have E:=ktr E D
  clear C D I hK;have z:=H;clear H;refine Yo 10 O (fun _=>Xd (k:=aA.toNat) O O Xp X0g g O Z Z)<|Yo 11 O (fun _=>X1z O X0x (m':=aA.toNat*2+1) O)<|Y1 12 ?_;refine Yh O tv0 O (X0d (enc:=encNd) (l:=m.ns) (vs:=[vi aK]) (x0:=(m.ns.getD aA.toNat nZ)) (u:=(⟨(m.ns.getD aA.toNat nZ).k,aK⟩ : Nd)) (k:=aA.toNat) (j:=1) (n1:=1) O O X0e g X02 O O O O O4 (Xf (d:=nZ) Z) O) ?_;rintro _ f4 ⟨aM,hg⟩;have G:=g;have z:=z.appT G hg O;have q:=q.appT G hg O;have f:=f.appT G hg O;have i:=i.appT G hg O;have E:=Kept.app E G hg (Qb _) E.size
  clear G hg;clear g;have g:=aM;clear aM;refine Yd fun a L=>?_;refine X6<|aJ _ _<|Zs L fun _ cR=>?_;refine Ze (Vn Xm f)<|Zo (Vw [vi m.n,.slice U m.ns.length W,.slice Q m.ws.length N,vi m.t,vi m.r] X10 q) ?_;rintro _ f5 ⟨M,hb⟩;have z:=z.oz M q O;have i:=i.oT M q O;have g:=g.oT M q O;have E:=Kept.oy E M aI;have q:=hb;refine Zt cR fun a L=>?_
  refine Q6 (X4 L (Xo L O (ResV.cellN (l:=[vi m.n,.slice U m.ns.length W,.slice Q m.ws.length N,vi m.t,vi m.r]) O Xm (q.at 0) O)) ?_)
  exact ⟨(⟨m.n,(m.ns.set aA.toNat (⟨(m.ns.getD aA.toNat nZ).k,aK⟩ : Nd)),m.ws,m.t,m.r⟩ : Dg),U,W,Q,N,_,_,O7,⟨(by (try dsimp only);first|omega|(simp only [List.length_set,Qh,List.length_drop,List.length_singleton];omega)),(by (try dsimp only);first|omega|(simp only [List.length_set,Qh,List.length_drop,List.length_singleton];omega)),(by first|exact a7|exact (fun x J=>a7 x (List.mem_of_mem_drop J))|exact (fun x J=>by rcases Qu.1 J with J|J;exact a7 x J;rw [Qm] at J;subst J;dsimp only;omega)),(by first|exact a8|exact X3v a8 _|exact X4i a8|exact X7j (by have h8:=aC;simp only [Qv,List.not_mem_nil,or_false] at h8;dsimp only;omega))⟩,⟨by omega,by omega⟩,g.rd.top,i.rd.top,i.cap,E,z⟩
 refine Zs L fun _ cS=>?_;refine Ze (X0f O O)<|Za O<|Zt cS fun a L=>?_
 refine Xz L O (fun cT=>?_) (fun cT=>?_)
 ·refine Xl (some bV) (fun j=>[11].contains j) mixed ?_;intro f7 D;have z:=z.bw D;have q:=q.bw D;have f:=f.bw D;have o:=o.bw D;have g:=g.bw D;have i:=i.bw D;have E:=ktr E D;refine Yb L<|Yo 0 O (fun _=>Vd O Xi 1) ?_;refine Yw 1 O tv0 (fun w1 h1=>X0 O X0b ((f.oz h1 z O).at 1)) ?_;refine Yo 2 O (fun _=>X3 O)<|Yo 3 O (fun _=>Vd O Xi 1) ?_;refine Yw 4 O tv0 (fun w1 h1=>X0 O X0b ((f.oz h1 z O).at 1)) ?_;refine Yo 5 O (fun _=>X11 O Xp)<|Yo 7 O (fun _=>X3 O)<|Y1 6 ?_;refine Yf O tv0 (EfW.mono (Vc (X2h _ bV aD aH a6 o.top aL aB aX aY z (m.ns.length:Int) Z) X1b) (fun _ _ h=>⟨fun _=>by obtain ⟨aN,bM,bN,rfl,bW,bX,hK,H⟩:=h;exact hK.keep,h⟩)) ?_;rintro _ f8 ⟨aN,bM,bN,rfl,bW,bX,hK,H⟩;obtain ⟨wm,I,hm,D⟩:=hK.mid;clear hm;have C:=z;have q:=q.oz I C O;have f:=f.oz I C O;have o:=o.onlyA I aB;have g:=g.oT I C O;have i:=i.oT I C O;have E:=E.self I;have q:=q.bw D;have f:=f.bw D;have o:=o.bw D;have g:=g.bw D;have i:=i.bw D;have E:=ktr E D
  clear C D I hK;have z:=H;clear H;refine Y1 8<|Yf O tv0 (EfW.mono (Vc (X2h _ bV aD aH a6 o.top aL aB bM bN z 5 Z) X1b) (fun _ _ h=>⟨fun _=>by obtain ⟨b3,cU,cV,rfl,bY,bZ,hK,H⟩:=h;exact hK.keep,h⟩)) ?_;rintro _ f9 ⟨b3,cU,cV,rfl,bY,bZ,hK,H⟩;obtain ⟨wm,I,hm,D⟩:=hK.mid;clear hm;have C:=z;have q:=q.oz I C O;have f:=f.oz I C O;have g:=g.oT I C O;have i:=i.oT I C O;have E:=E.self I;have q:=q.bw D;have f:=f.bw D;have g:=g.bw D;have i:=i.bw D;have E:=ktr E D
  clear C D I hK;have z:=H;clear H;refine Yo 9 O (fun _=>Xd (k:=aN.toNat) O O Xp X0g g O Z Z)<|Yo 10 O (fun _=>X1z O X0y (m':=aN.toNat*2+0) O)<|Y1 11 ?_;refine Yh O tv0 O (X0d (enc:=encNd) (l:=m.ns) (vs:=[vi b3]) (x0:=(m.ns.getD aN.toNat nZ)) (u:=(⟨b3,(m.ns.getD aN.toNat nZ).p⟩ : Nd)) (k:=aN.toNat) (j:=0) (n1:=1) O O X0e g X02 O O O O O4 (Xf (d:=nZ) Z) O) ?_;rintro _ fA ⟨aM,hg⟩;have G:=g;have z:=z.appT G hg O;have q:=q.appT G hg O;have f:=f.appT G hg O;have i:=i.appT G hg O;have E:=Kept.app E G hg (Qb _) E.size
  clear G hg;clear g;have g:=aM;clear aM;refine Yd fun a L=>?_;refine X6<|aJ _ _<|Zs L fun _ cW=>?_;refine Ze (Vn Xm f)<|Zo (Vw [vi m.n,.slice U m.ns.length W,.slice Q m.ws.length N,vi m.t,vi m.r] X10 q) ?_;rintro _ fB ⟨M,hb⟩;have z:=z.oz M q O;have i:=i.oT M q O;have g:=g.oT M q O;have E:=Kept.oy E M aI;have q:=hb;refine Zt cW fun a L=>?_
  refine Q6 (X4 L (Xo L O (ResV.cellN (l:=[vi m.n,.slice U m.ns.length W,.slice Q m.ws.length N,vi m.t,vi m.r]) O Xm (q.at 0) O)) ?_)
  exact ⟨(⟨m.n,(m.ns.set aN.toNat (⟨b3,(m.ns.getD aN.toNat nZ).p⟩ : Nd)),m.ws,m.t,m.r⟩ : Dg),U,W,Q,N,_,_,O7,⟨(by (try dsimp only);first|omega|(simp only [List.length_set,Qh,List.length_drop,List.length_singleton];omega)),(by (try dsimp only);first|omega|(simp only [List.length_set,Qh,List.length_drop,List.length_singleton];omega)),(by first|exact a7|exact (fun x J=>a7 x (List.mem_of_mem_drop J))|exact (fun x J=>by rcases Qu.1 J with J|J;exact a7 x J;rw [Qm] at J;subst J;dsimp only;omega)),(by first|exact a8|exact X3v a8 _|exact X4i a8|exact X7j (by have h8:=aC;simp only [Qv,List.not_mem_nil,or_false] at h8;dsimp only;omega))⟩,⟨by omega,by omega⟩,g.rd.top,i.rd.top,i.cap,E,z⟩
 refine Zs L fun _ cX=>?_;refine Ze (X0f O O)<|Za O<|Zt cX fun a L=>?_
 refine Xz L O (fun cY=>?_) (fun cY=>?_)
 ·refine Xl (some bV) (fun j=>[12,14].contains j) mixed ?_;intro fC D;have z:=z.bw D;have q:=q.bw D;have f:=f.bw D;have o:=o.bw D;have g:=g.bw D;have i:=i.bw D;have E:=ktr E D;refine Yb L<|Yo 0 O (fun _=>Vd O Xv 2) ?_;refine Yw 1 O tv0 (fun w1 h1=>X0 O X12 ((f.oz h1 z O).at 2)) ?_;refine Yo 2 O (fun _=>X3 O)<|Yo 4 O (fun _=>X3 O)<|Yo 5 O (fun _=>Vd O Xi 1) ?_;refine Yw 6 O tv0 (fun w1 h1=>X0 O X0b ((f.oz h1 z O).at 1)) ?_;refine Yo 7 O (fun _=>X11 O Xp)<|Yo 8 O (fun _=>Xr O O Z Z)<|Y1 3 ?_;refine Yf O tv0 (EfW.mono (Vc (X2h _ bV aD aH a6 o.top aL aB aX aY z 3 Z) X1b) (fun _ _ h=>⟨fun _=>by obtain ⟨aE,bO,bP,rfl,cA,cB,hK,H⟩:=h;exact hK.keep,h⟩)) ?_;rintro _ fE ⟨aE,bO,bP,rfl,cA,cB,hK,H⟩;obtain ⟨wm,I,hm,D⟩:=hK.mid;clear hm;have C:=z;have q:=q.oz I C O;have f:=f.oz I C O;have o:=o.onlyA I aB;have g:=g.oT I C O;have i:=i.oT I C O;have E:=E.self I;have q:=q.bw D;have f:=f.bw D;have o:=o.bw D;have g:=g.bw D;have i:=i.bw D;have E:=ktr E D
  clear C D I hK;have z:=H;clear H;refine Y1 9<|Yf O tv0 (EfW.mono (Vc (X2h _ bV aD aH a6 o.top aL aB bO bP z ((m.ns.length:Int)+1) Z) X1b) (fun _ _ h=>⟨fun _=>by obtain ⟨aF,cZ,d5,rfl,cC,cD,hK,H⟩:=h;exact hK.keep,h⟩)) ?_;rintro _ fF ⟨aF,cZ,d5,rfl,cC,cD,hK,H⟩;obtain ⟨wm,I,hm,D⟩:=hK.mid;clear hm;have C:=z;have q:=q.oz I C O;have f:=f.oz I C O;have g:=g.oT I C O;have i:=i.oT I C O;have E:=E.self I;have q:=q.bw D;have f:=f.bw D;have g:=g.bw D;have i:=i.bw D;have E:=ktr E D
  clear C D I hK;have z:=H;clear H;refine Yo 10 O (fun _=>Xt (ps:=[(0,vi aE),(1,vi aF)]) (cs:=[vi aE,vi aF,.bool false]) O (fun _=>by first|rfl|kernel_rfl))<|Y1 11 ?_;refine Yf O tv0 (EfW.mono (X9 (k:=1) (vs:=[.agg #[vi aE,vi aF,.bool false]]) (zs:=[vi aE,vi aF,.bool false]) O Xx X1v O O) (fun _ _ h=>⟨fun _=>by obtain ⟨_,_,_,D,_⟩:=h;exact Keep.of_below D,h⟩)) ?_;rintro _ fG ⟨fH,rfl,bQ,D,b8⟩;have eB:=Q0 E.size bQ;have b9:=i.away bQ;have z:=z.bw D;have q:=q.bw D;have f:=f.bw D;have g:=g.bw D;have i:=i.bw D;have E:=ktr E D;refine Y1 12<|Yt O tv0 O (X15 (enc:=encWr) (l:=(m.ws)) (l2:=([(⟨aE,aF,false⟩ : Wr)])) (B0:=w0.heap.size) O O Xx X1v X06 X2n i (Rd.of_blk b8 O _ b8.lt) (by simp only [maxLen];simp;omega) O6 E.size) ?_;rintro _ fI ⟨bC,bD,rfl,aQ,hg,bE⟩
  have G:Own _ w0.heap.size 72 3 encWr _ _ (m.ws):=i
  have cH:=bE _ b8.lt b9;clear bE;have z:=z.appT G hg O;have q:=q.appT G hg O;have f:=f.appT G hg O;have g:=g.appT G hg O;have E:=Kept.app E G hg (Qb _) E.size;clear G hg;refine Yo 13 O (fun _=>Vd O Xv 2)<|Y1 14 ?_;refine Yh O tv0 O (Vu (vs:=[.slice bC (m.ws++([(⟨aE,aF,false⟩ : Wr)])).length bD]) (l':=[vi m.n,.slice U m.ns.length W,.slice bC (m.ws++([(⟨aE,aF,false⟩ : Wr)])).length bD,vi m.t,vi m.r]) O O X32 f) ?_;rintro _ fJ ⟨M,hb⟩;have z:=z.oz M f O;have q:=q.oy M Z;have g:=g.oT M f O;have aQ:=aQ.oT M f O;have E:=Kept.oy E M aO;have f:=hb;refine Yd fun a L=>?_;refine X6<|aJ _ _<|Zs L fun _ d6=>?_;refine Ze (Vn Xm f)<|Zo (Vw [vi m.n,.slice U m.ns.length W,.slice bC (m.ws++([(⟨aE,aF,false⟩ : Wr)])).length bD,vi m.t,vi m.r] X10 q) ?_;rintro _ fK ⟨M,hb⟩;have z:=z.oz M q O;have g:=g.oT M q O;have aQ:=aQ.oT M q O;have E:=Kept.oy E M aI;have q:=hb;refine Zt d6 fun a L=>?_
  refine Q6 (X4 L (Xo L O (ResV.cellN (l:=[vi m.n,.slice U m.ns.length W,.slice bC (m.ws++([(⟨aE,aF,false⟩ : Wr)])).length bD,vi m.t,vi m.r]) O Xm (q.at 0) O)) ?_)
  exact ⟨(⟨m.n,m.ns,m.ws++([(⟨aE,aF,false⟩ : Wr)]),m.t,m.r⟩ : Dg),U,W,bC,bD,_,_,O7,⟨(by (try dsimp only);first|omega|(simp only [List.length_set,Qh,List.length_drop,List.length_singleton];omega)),(by (try dsimp only);first|omega|(simp only [List.length_set,Qh,List.length_drop,List.length_singleton];omega)),(by first|exact a7|exact (fun x J=>a7 x (List.mem_of_mem_drop J))|exact (fun x J=>by rcases Qu.1 J with J|J;exact a7 x J;rw [Qm] at J;subst J;dsimp only;omega)),(by first|exact a8|exact X3v a8 _|exact X4i a8|exact X7j (by have h8:=aC;simp only [Qv,List.not_mem_nil,or_false] at h8;dsimp only;omega))⟩,⟨by omega,by omega⟩,g.rd.top,aQ.rd.top,aQ.cap,E,z⟩
 refine Zs L fun _ d7=>?_;refine Ze (X0f O O)<|Za O<|Zt d7 fun a L=>?_
 refine Xz L O (fun d8=>?_) (fun d8=>?_)
 ·refine Zr L<|Ze (Vd O Xv 2)<|Ze (X0 O X12 (f.at 2)) ?_;have aT:=(i.rd.top).dropK X06 (c:=N) i.cap 1;refine Ze (Xbh (l:=m.ws) (k:=1) O O Xx X0s O Z)<|Ze (Vd O Xv 2)<|Zo (Vu (vs:=[.slice (if N=1 then Q else Q.map (·.add (1*3))) (m.ws.drop 1).length (N-1)]) (l':=[vi m.n,.slice U m.ns.length W,.slice (if N=1 then Q else Q.map (·.add (1*3))) (m.ws.drop 1).length (N-1),vi m.t,vi m.r]) O O X32 f) ?_;rintro _ fL ⟨M,hb⟩;have z:=z.oz M f O;have q:=q.oy M Z;have g:=g.oT M f O;have aT:=aT.oT M f O;have E:=Kept.oy E M aO;have f:=hb;refine Zn fun a L=>?_;refine X6<|aJ _ _<|Zs L fun _ dA=>?_;refine Ze (Vn Xm f)<|Zo (Vw [vi m.n,.slice U m.ns.length W,.slice (if N=1 then Q else Q.map (·.add (1*3))) (m.ws.drop 1).length (N-1),vi m.t,vi m.r] X10 q) ?_;rintro _ fM ⟨M,hb⟩;have z:=z.oz M q O;have g:=g.oT M q O;have aT:=aT.oT M q O;have E:=Kept.oy E M aI;have q:=hb;refine Zt dA fun a L=>?_
  refine Q6 (X4 L (Xo L O (ResV.cellN (l:=[vi m.n,.slice U m.ns.length W,.slice (if N=1 then Q else Q.map (·.add (1*3))) (m.ws.drop 1).length (N-1),vi m.t,vi m.r]) O Xm (q.at 0) O)) ?_)
  exact ⟨(⟨m.n,m.ns,(m.ws.drop 1),m.t,m.r⟩ : Dg),U,W,(if N=1 then Q else Q.map (·.add (1*3))),(N-1),_,_,O7,⟨(by (try dsimp only);first|omega|(simp only [List.length_set,Qh,List.length_drop,List.length_singleton];omega)),(by (try dsimp only);first|omega|(simp only [List.length_set,Qh,List.length_drop,List.length_singleton];omega)),(by first|exact a7|exact (fun x J=>a7 x (List.mem_of_mem_drop J))|exact (fun x J=>by rcases Qu.1 J with J|J;exact a7 x J;rw [Qm] at J;subst J;dsimp only;omega)),(by first|exact a8|exact X3v a8 _|exact X4i a8|exact X7j (by have h8:=aC;simp only [Qv,List.not_mem_nil,or_false] at h8;dsimp only;omega))⟩,⟨by omega,by omega⟩,g.rd.top,aT.top,(by rw [List.length_drop];omega),E,z⟩
 refine Zs L fun _ dB=>?_;refine Ze (X0f O O)<|Za O<|Zt dB fun a L=>?_
 refine Xz L O (fun dC=>?_) (fun dC=>?_)
 ·refine Zr L<|Zm O<|Zf (X9 (k:=2) (vs:=[vi 8,vi (-1)]) (zs:=[vi 8,vi (-1)]) O Xy X2j O O) ?_;rintro _ fN ⟨eC,rfl,dD,D,bR⟩;have eD:=Q0 E.size dD;have z:=z.bw D;have q:=q.bw D;have f:=f.bw D;have o:=o.bw D;have g:=g.bw D;have i:=i.bw D;have E:=ktr E D;refine Zf (Vc (Xak _ bV aD aH a6 o.top aL aB aX aY z (some ⟨eC,0,none⟩) 2 ([8,-1]) (Rd.of_blk bR O _ bR.lt) O5 O5 Z) X6h) ?_;rintro _ fO ⟨aU,eQ,eR,rfl,eE,eF,hK,H⟩;obtain ⟨wm,I,hm,D⟩:=hK.mid;clear hm;have C:=z;have q:=q.oz I C O;have f:=f.oz I C O;have g:=g.oT I C O;have i:=i.oT I C O;have E:=E.self I;have q:=q.bw D;have f:=f.bw D;have g:=g.bw D;have i:=i.bw D;have E:=ktr E D
  clear C D I hK;have z:=H;clear H;refine Ze (Vd O X0w 3)<|Zo (Vu (vs:=[vi aU]) (l':=[vi m.n,.slice U m.ns.length W,.slice Q m.ws.length N,vi aU,vi m.r]) O O X0e f) ?_;rintro _ fP ⟨M,hb⟩;have z:=z.oz M f O;have q:=q.oy M Z;have g:=g.oT M f O;have i:=i.oT M f O;have E:=Kept.oy E M aO;have f:=hb;refine Zn fun a L=>?_;refine X6<|aJ _ _<|Zs L fun _ dE=>?_;refine Ze (Vn Xm f)<|Zo (Vw [vi m.n,.slice U m.ns.length W,.slice Q m.ws.length N,vi aU,vi m.r] X10 q) ?_;rintro _ fQ ⟨M,hb⟩;have z:=z.oz M q O;have g:=g.oT M q O;have i:=i.oT M q O;have E:=Kept.oy E M aI;have q:=hb;refine Zt dE fun a L=>?_
  refine Q6 (X4 L (Xo L O (ResV.cellN (l:=[vi m.n,.slice U m.ns.length W,.slice Q m.ws.length N,vi aU,vi m.r]) O Xm (q.at 0) O)) ?_)
  exact ⟨(⟨m.n,m.ns,m.ws,aU,m.r⟩ : Dg),U,W,Q,N,_,_,O7,⟨(by (try dsimp only);first|omega|(simp only [List.length_set,Qh,List.length_drop,List.length_singleton];omega)),(by (try dsimp only);first|omega|(simp only [List.length_set,Qh,List.length_drop,List.length_singleton];omega)),(by first|exact a7|exact (fun x J=>a7 x (List.mem_of_mem_drop J))|exact (fun x J=>by rcases Qu.1 J with J|J;exact a7 x J;rw [Qm] at J;subst J;dsimp only;omega)),(by first|exact a8|exact X3v a8 _|exact X4i a8|exact X7j (by have h8:=aC;simp only [Qv,List.not_mem_nil,or_false] at h8;dsimp only;omega))⟩,⟨by omega,by omega⟩,g.rd.top,i.rd.top,i.cap,E,z⟩
 refine Zs L fun _ dF=>?_;refine Ze (X0f O O)<|Za O<|Zt dF fun a L=>?_
 refine Xz L O (fun dG=>?_) (fun dG=>?_)
 ·refine Zr L<|Zm O<|Zf (X9 (k:=4) (vs:=[vi 61,vi (-61),vi 60,vi (-60)]) (zs:=[vi 61,vi (-61),vi 60,vi (-60)]) O Xy X2j O O) ?_;rintro _ fR ⟨eG,rfl,dH,D,bS⟩;have eH:=Q0 E.size dH;have z:=z.bw D;have q:=q.bw D;have f:=f.bw D;have o:=o.bw D;have g:=g.bw D;have i:=i.bw D;have E:=ktr E D;refine Zf (Vc (Xak _ bV aD aH a6 o.top aL aB aX aY z (some ⟨eG,0,none⟩) 4 ([61,-61,60,-60]) (Rd.of_blk bS O _ bS.lt) O5 O5 Z) X6h) ?_;rintro _ fS ⟨aV,eS,eT,rfl,aC,eI,hK,H⟩;obtain ⟨wm,I,hm,D⟩:=hK.mid;clear hm;have C:=z;have q:=q.oz I C O;have f:=f.oz I C O;have g:=g.oT I C O;have i:=i.oT I C O;have E:=E.self I;have q:=q.bw D;have f:=f.bw D;have g:=g.bw D;have i:=i.bw D;have E:=ktr E D
  clear C D I hK;have z:=H;clear H;refine Ze (Vd O X1f 4)<|Zo (Vu (vs:=[vi aV]) (l':=[vi m.n,.slice U m.ns.length W,.slice Q m.ws.length N,vi m.t,vi aV]) O O X0e f) ?_;rintro _ fT ⟨M,hb⟩;have z:=z.oz M f O;have q:=q.oy M Z;have g:=g.oT M f O;have i:=i.oT M f O;have E:=Kept.oy E M aO;have f:=hb;refine Zn fun a L=>?_;refine X6<|aJ _ _<|Zs L fun _ dI=>?_;refine Ze (Vn Xm f)<|Zo (Vw [vi m.n,.slice U m.ns.length W,.slice Q m.ws.length N,vi m.t,vi aV] X10 q) ?_;rintro _ fU ⟨M,hb⟩;have z:=z.oz M q O;have g:=g.oT M q O;have i:=i.oT M q O;have E:=Kept.oy E M aI;have q:=hb;refine Zt dI fun a L=>?_
  refine Q6 (X4 L (Xo L O (ResV.cellN (l:=[vi m.n,.slice U m.ns.length W,.slice Q m.ws.length N,vi m.t,vi aV]) O Xm (q.at 0) O)) ?_)
  exact ⟨(⟨m.n,m.ns,m.ws,m.t,aV⟩ : Dg),U,W,Q,N,_,_,O7,⟨(by (try dsimp only);first|omega|(simp only [List.length_set,Qh,List.length_drop,List.length_singleton];omega)),(by (try dsimp only);first|omega|(simp only [List.length_set,Qh,List.length_drop,List.length_singleton];omega)),(by first|exact a7|exact (fun x J=>a7 x (List.mem_of_mem_drop J))|exact (fun x J=>by rcases Qu.1 J with J|J;exact a7 x J;rw [Qm] at J;subst J;dsimp only;omega)),(by first|exact a8|exact X3v a8 _|exact X4i a8|exact X7j (by have h8:=aC;simp only [Qv,List.not_mem_nil,or_false] at h8;dsimp only;omega))⟩,⟨by omega,by omega⟩,g.rd.top,i.rd.top,i.cap,E,z⟩
 refine Zs L fun _ dJ=>?_;refine Ze (X0f O O)<|Za O<|Zt dJ fun a L=>?_
 refine Xz L O (fun dK=>?_) (fun dK=>?_)
 ·refine Xl (some bV) (fun j=>[6,8].contains j) mixed ?_;intro fV D;have z:=z.bw D;have q:=q.bw D;have f:=f.bw D;have o:=o.bw D;have g:=g.bw D;have i:=i.bw D;have E:=ktr E D;refine Yb L<|Yo 0 O (fun _=>Vd O Xi 1) ?_;refine Yw 1 O tv0 (fun w1 h1=>X0 O X0b ((f.oz h1 z O).at 1)) ?_;refine Yo 2 O (fun _=>X3 O)<|Y1 3 ?_;refine Yf O tv0 (EfW.mono (Vc (X2h _ bV aD aH a6 o.top aL aB aX aY z 4 Z) X1b) (fun _ _ h=>⟨fun _=>by obtain ⟨aG,dL,dM,rfl,cE,cG,hK,H⟩:=h;exact hK.keep,h⟩)) ?_;rintro _ fW ⟨aG,dL,dM,rfl,cE,cG,hK,H⟩;obtain ⟨wm,I,hm,D⟩:=hK.mid;clear hm;have C:=z;have q:=q.oz I C O;have f:=f.oz I C O;have g:=g.oT I C O;have i:=i.oT I C O;have E:=E.self I;have q:=q.bw D;have f:=f.bw D;have g:=g.bw D;have i:=i.bw D;have E:=ktr E D
  clear C D I hK;have z:=H;clear H;refine Yo 4 O (fun _=>Xt (ps:=[(0,vi aG)]) (cs:=[vi aG,vi 0]) O (fun _=>by first|rfl|kernel_rfl))<|Y1 5 ?_;refine Yf O tv0 (EfW.mono (X9 (k:=1) (vs:=[.agg #[vi aG,vi 0]]) (zs:=[vi aG,vi 0]) O Xp X1r O O) (fun _ _ h=>⟨fun _=>by obtain ⟨_,_,_,D,_⟩:=h;exact Keep.of_below D,h⟩)) ?_;rintro _ fX ⟨fY,rfl,bU,D,bF⟩;have eJ:=Q0 E.size bU;have bG:=g.away bU;have z:=z.bw D;have q:=q.bw D;have f:=f.bw D;have g:=g.bw D;have i:=i.bw D;have E:=ktr E D;refine Y1 6<|Yt O tv0 O (X15 (enc:=encNd) (l:=(m.ns)) (l2:=([(⟨aG,0⟩ : Nd)])) (B0:=w0.heap.size) O O Xp X1r X02 X2x g (Rd.of_blk bF O _ bF.lt) (by simp only [maxLen];simp;omega) O6 E.size) ?_;rintro _ fZ ⟨bH,bJ,rfl,aW,hg,bE⟩
  have G:Own _ w0.heap.size 64 2 encNd _ _ (m.ns):=g
  have cI:=bE _ bF.lt bG;clear bE;have z:=z.appT G hg O;have q:=q.appT G hg O;have f:=f.appT G hg O;have i:=i.appT G hg O;have E:=Kept.app E G hg (Qb _) E.size;clear G hg;refine Yo 7 O (fun _=>Vd O Xi 1)<|Y1 8 ?_;refine Yh O tv0 O (Vu (vs:=[.slice bH (m.ns++([(⟨aG,0⟩ : Nd)])).length bJ]) (l':=[vi m.n,.slice bH (m.ns++([(⟨aG,0⟩ : Nd)])).length bJ,.slice Q m.ws.length N,vi m.t,vi m.r]) O O X3x f) ?_;rintro _ g5 ⟨M,hb⟩;have z:=z.oz M f O;have q:=q.oy M Z;have i:=i.oT M f O;have aW:=aW.oT M f O;have E:=Kept.oy E M aO;have f:=hb;refine Yd fun a L=>?_;refine X6<|aJ _ _<|Zs L fun _ dN=>?_;refine Ze (Vn Xm f)<|Zo (Vw [vi m.n,.slice bH (m.ns++([(⟨aG,0⟩ : Nd)])).length bJ,.slice Q m.ws.length N,vi m.t,vi m.r] X10 q) ?_;rintro _ g6 ⟨M,hb⟩;have z:=z.oz M q O;have i:=i.oT M q O;have aW:=aW.oT M q O;have E:=Kept.oy E M aI;have q:=hb;refine Zt dN fun a L=>?_
  refine Q6 (X4 L (Xo L O (ResV.cellN (l:=[vi m.n,.slice bH (m.ns++([(⟨aG,0⟩ : Nd)])).length bJ,.slice Q m.ws.length N,vi m.t,vi m.r]) O Xm (q.at 0) O)) ?_)
  exact ⟨(⟨m.n,m.ns++([(⟨aG,0⟩ : Nd)]),m.ws,m.t,m.r⟩ : Dg),bH,bJ,Q,N,_,_,O7,⟨(by (try dsimp only);first|omega|(simp only [List.length_set,Qh,List.length_drop,List.length_singleton];omega)),(by (try dsimp only);first|omega|(simp only [List.length_set,Qh,List.length_drop,List.length_singleton];omega)),(by first|exact a7|exact (fun x J=>a7 x (List.mem_of_mem_drop J))|exact (fun x J=>by rcases Qu.1 J with J|J;exact a7 x J;rw [Qm] at J;subst J;dsimp only;omega)),(by first|exact a8|exact X3v a8 _|exact X4i a8|exact X7j (by have h8:=aC;simp only [Qv,List.not_mem_nil,or_false] at h8;dsimp only;omega))⟩,⟨by omega,by omega⟩,aW.rd.top,i.rd.top,i.cap,E,z⟩
 refine Q7<|X6<|aJ _ _<|Zs L fun _ dO=>?_;refine Ze (Vn Xm f)<|Zo (Vw [vi m.n,.slice U m.ns.length W,.slice Q m.ws.length N,vi m.t,vi m.r] X10 q) ?_;rintro _ g7 ⟨M,hb⟩;have z:=z.oz M q O;have g:=g.oT M q O;have i:=i.oT M q O;have E:=Kept.oy E M aI;have q:=hb;refine Zt dO fun a L=>?_
 refine Q6 (X4 L (Xo L O (ResV.cellN (l:=[vi m.n,.slice U m.ns.length W,.slice Q m.ws.length N,vi m.t,vi m.r]) O Xm (q.at 0) O)) ?_)
 exact ⟨m,U,W,Q,N,_,_,O7,⟨(by (try dsimp only);first|omega|(simp only [List.length_set,Qh,List.length_drop,List.length_singleton];omega)),(by (try dsimp only);first|omega|(simp only [List.length_set,Qh,List.length_drop,List.length_singleton];omega)),(by first|exact a7|exact (fun x J=>a7 x (List.mem_of_mem_drop J))|exact (fun x J=>by rcases Qu.1 J with J|J;exact a7 x J;rw [Qm] at J;subst J;dsimp only;omega)),(by first|exact a8|exact X3v a8 _|exact X4i a8|exact X7j (by have h8:=aC;simp only [Qv,List.not_mem_nil,or_false] at h8;dsimp only;omega))⟩,⟨by omega,by omega⟩,g.rd.top,i.rd.top,i.cap,E,z⟩
theorem Xos{d e:Dg}(h1:d.n=e.n)(h2:d.ns=e.ns)(h3:d.ws=e.ws)(h4:d.t=e.t)(h5:d.r=e.r) : d=e:=by
 obtain ⟨a,b,c,p,q⟩:=d;obtain ⟨a2,b2,c2,p2,q2⟩:=e
 dsimp only at *
 rw [h1,h2,h3,h4,h5]
theorem Xs7(E:World)(d:Dg)(md:Nat)(aF:md=d.ns.length)(Ad:Option Addr)(cd:Nat)(aG:Rd E E.heap.size 64 encNd Ad d.ns)(Bd:Option Addr)(dd:Nat)(aH:Rd E E.heap.size 72 encWr Bd d.ws)(A:d.ws.length<=dd)(e:Dg)(me:Nat)(aI:me=e.ns.length)(Ae:Option Addr)(ce:Nat)(aJ:Rd E E.heap.size 64 encNd Ae e.ns)(Be:Option Addr)(de:Nat)(aK:Rd E E.heap.size 72 encWr Be e.ws)(B:e.ws.length<=de)(bM:d.ws.length<=1000000000)(bN:md<=1000000000) : Ret Tryz.prog 8 [.agg #[vi d.n,.slice Ad md cd,.slice Bd d.ws.length dd,vi d.t,vi d.r],.agg #[vi e.n,.slice Ae me ce,.slice Be e.ws.length de,vi e.t,vi e.r]] E (fun v w=>v=.bool (decide (d=e))/\Below E.heap.size E w):=by
 subst aF
 subst aI
 refine enter Tryz.func8 O 80 O O ?_;intro a m
 have x:=bz E
 refine Zs m fun _ b4=>?_;refine Zf (X0u (zs:=[vi d.n,.slice Ad d.ns.length cd,.slice Bd d.ws.length dd,vi d.t,vi d.r]) O O) ?_;rintro _ w1 ⟨b6,rfl,b5,G,o⟩;have bH:=Q0 x.size b5;have x:=btr x G;refine Zf (X0u (zs:=[vi e.n,.slice Ae e.ns.length ce,.slice Be e.ws.length de,vi e.t,vi e.r]) O O) ?_;rintro _ w2 ⟨b7,rfl,b8,G,q⟩
 have b3:b6≠b7:=by have:=o.lt;omega
 have bJ:=Q0 x.size b8;have o:=o.bw G;have x:=btr x G;refine Za O<|ZX b4 fun a m _ b9=>?_;refine Q5 fun _ bC=>?_;refine X0p (fun a w=>Fr a 80 [(2,(pZ9 b6)),(3,(pZ9 b7)),(43,.bool (((((d.n != e.n)||(d.t != e.t))||(d.r != e.r))||((d.ns.length:Int) != (e.ns.length:Int)))||((d.ws.length:Int) != (e.ws.length:Int))))]/\w2=w) ?_ ?_
 ·refine Zr m<|Ze (Vd O X1e 0)<|Ze (X0 O X2 (o.at 0))<|Ze (Vd O X1e 0)<|Ze (X0 O X2 (q.at 0))<|Ze (X3t O O)<|Zm O ?_
  refine Zg 12 O (fun c=>?_) (fun c=>?_)
  ·(iterate 5 refine Zp (gP c) ?_);refine Ze (Xa O c O)<|Zm O<|Zp (gP O) ?_;(iterate 4 refine Zp (gP O) ?_);refine Ze (Xa O O O)<|Zm O<|Zp (gP O) ?_;(iterate 6 refine Zp (gP O) ?_);refine Ze (Xa O O O)<|Zm O<|Zp (gP O) ?_;(iterate 6 refine Zp (gP O) ?_);refine Ze (Xa O O O) ?_;refine Zn fun a m=>?_;exact ⟨m.sub ⟨O,O,X1 O (by first|rfl|(simp only [c,bs];done)|simp [c]),trivial⟩,O⟩
  refine Zv (gW c) (Vd O X0w 3) ?_;refine Zv (gW c) (X0 O X2 (o.at 3)) ?_;refine Zv (gW c) (Vd O X0w 3) ?_;refine Zv (gW c) (X0 O X2 (q.at 3)) ?_;refine Zv (gW c) (X3t O O) ?_;refine Ze (Xh O c O)<|Zm O ?_
  refine Zg 19 O (fun g=>?_) (fun g=>?_)
  ·(iterate 5 refine Zp (gP g) ?_);refine Ze (Xa O g O)<|Zm O<|Zp (gP O) ?_;(iterate 6 refine Zp (gP O) ?_);refine Ze (Xa O O O)<|Zm O<|Zp (gP O) ?_;(iterate 6 refine Zp (gP O) ?_);refine Ze (Xa O O O) ?_;refine Zn fun a m=>?_;exact ⟨m.sub ⟨O,O,X1 O (by first|rfl|(simp only [c,g,bs];done)|simp [c,g]),trivial⟩,O⟩
  refine Zv (gW g) (Vd O X1f 4) ?_;refine Zv (gW g) (X0 O X2 (o.at 4)) ?_;refine Zv (gW g) (Vd O X1f 4) ?_;refine Zv (gW g) (X0 O X2 (q.at 4)) ?_;refine Zv (gW g) (X3t O O) ?_;refine Ze (Xh O g O)<|Zm O ?_
  refine Zg 26 O (fun f=>?_) (fun f=>?_)
  ·(iterate 7 refine Zp (gP f) ?_);refine Ze (Xa O f O)<|Zm O<|Zp (gP O) ?_;(iterate 6 refine Zp (gP O) ?_);refine Ze (Xa O O O) ?_;refine Zn fun a m=>?_;exact ⟨m.sub ⟨O,O,X1 O (by first|rfl|(simp only [c,g,f,bs];done)|simp [c,g,f]),trivial⟩,O⟩
  refine Zv (gW f) (Vd O Xi 1) ?_;refine Zv (gW f) (X0 O X0b (o.at 1)) ?_;refine Zv (gW f) (X11 O Xp) ?_;refine Zv (gW f) (Vd O Xi 1) ?_;refine Zv (gW f) (X0 O X0b (q.at 1)) ?_;refine Zv (gW f) (X11 O Xp) ?_;refine Zv (gW f) (X3t O O) ?_;refine Ze (Xh O f O)<|Zm O ?_
  refine Zg 35 O (fun i=>?_) (fun i=>?_)
  ·(iterate 7 refine Zp (gP i) ?_);refine Ze (Xa O i O) ?_;refine Zn fun a m=>?_;exact ⟨m.sub ⟨O,O,X1 O (by first|rfl|(simp only [c,g,f,i,bs];done)|simp [c,g,f,i]),trivial⟩,O⟩
  refine Zv (gW i) (Vd O Xv 2) ?_;refine Zv (gW i) (X0 O X12 (o.at 2)) ?_;refine Zv (gW i) (X11 O Xx) ?_;refine Zv (gW i) (Vd O Xv 2) ?_;refine Zv (gW i) (X0 O X12 (q.at 2)) ?_;refine Zv (gW i) (X11 O Xx) ?_;refine Zv (gW i) (X3t O O) ?_;refine Ze (Xh O i O) ?_;refine Zn fun a m=>?_;exact ⟨m.sub ⟨O,O,X1 O (by first|rfl|(simp only [c,g,f,i,bs];done)|simp [c,g,f,i]),trivial⟩,O⟩
 rintro a _ ⟨m,rfl⟩;refine bC _ _ ?_
 refine Xz m O (fun H=>?_) (fun H=>?_)
 ·have z:decide (d=e)=false:=by apply decide_eq_false;rintro rfl;have h8:=H;simp at h8
  refine Zs m fun _ aL=>?_;refine Za O<|Zt aL fun a m=>?_;refine Q6<|X7<|X4 m (Xo m O O) ?_;exact ⟨by rw [z],x⟩
 have hq:=H
 simp at hq
 have en:d.n=e.n:=by omega
 have et:d.t=e.t:=by omega
 have er:d.r=e.r:=by omega
 have eN:d.ns.length=e.ns.length:=by omega
 have eW:d.ws.length=e.ws.length:=by omega
 refine Q7<|b9 _ _<|Q5 fun _ aM=>?_;refine Zs m fun _ aN=>?_;refine Ze (Vd O Xi 1)<|Ze (X0 O X0b (o.at 1))<|Ze (X11 O Xp)<|Zm O<|Zt aN fun a m=>?_;refine Q8<|X00 (σ:=Nat) (fun (k:Nat) (a:Act) (w:World)=>Fr a 80 [(2,(pZ9 b6)),(3,(pZ9 b7)),(46,vi (d.ns.length:Int)),(47,vi (k:Int))]/\(k<=d.ns.length)/\(d.ns.take k=e.ns.take k)/\Blk w b6 31 [vi d.n,.slice Ad d.ns.length cd,.slice Bd d.ws.length dd,vi d.t,vi d.r]/\Blk w b7 31 [vi e.n,.slice Ae e.ns.length ce,.slice Be e.ws.length de,vi e.t,vi e.r]/\d.ws.length<=dd/\e.ws.length<=de/\Below E.heap.size E w) (fun (k:Nat)=>d.ns.length-k) 0 ?_ ?_
 ·exact ⟨m.sb,(Qf _),O,o,q,A,B,x⟩
 rintro k a w3 ⟨m,hk,I,o,q,A,B,x⟩;refine Zs m fun _ aO=>?_;refine Ze (X1a O O)<|ZX aO fun a m _ aP=>?_
 refine X0z m O (fun a6 C=>?_) (fun a6 C=>?_)
 ·obtain ⟨bO,bK⟩:=X8 (l:=d.ns) (k:=k) Z
  obtain ⟨u9,a7⟩:=X8 (l:=d.ns) (k:=k) (by have:=C;omega)
  obtain ⟨v9,N⟩:=X8 (l:=e.ns) (k:=k) (by have:=C;omega)
  refine Q7<|aP _ _<|Q5 fun _ aQ=>?_;refine Q8<|Zs m fun _ aR=>?_;refine Zm O<|Za O<|ZX aR fun a m _ aS=>?_;refine Xl none (fun _=>false) mixed ?_;intro w4 G;have o:=o.bw G;have q:=q.bw G;have x:=btr x G;refine Yb m<|Yo 0 O (fun _=>Vd O Xi 1)<|Ye 1 O (X0 O X0b (o.at 1))<|Yo 2 O (fun _=>X3 O)<|Yi (k:=k) (u:=u9) (enc:=encNd) (l:=d.ns) 3 O tv0 O O Xp X0g X02 (aG.bx x) a7 O ?_;intro bP a8;refine Ye 4 O (X09 (l:=[vi u9.k,vi u9.p]) O X23 a8 O)<|Yo 5 O (fun _=>Vd O Xi 1)<|Ye 6 O (X0 O X0b (q.at 1))<|Yo 7 O (fun _=>X3 O)<|Yi (k:=k) (u:=v9) (enc:=encNd) (l:=e.ns) 8 O tv0 O O Xp X0g X02 (aJ.bx x) N O ?_;intro bQ aA;refine Ye 9 O (X09 (l:=[vi v9.k,vi v9.p]) O X23 aA O)<|Yo 10 O (fun _=>Xjt O O Xhe (fun w=>Xgr 9998 u9 v9 w)) ?_;refine Yd fun a m=>?_;refine aS _ _ ?_
  refine Xz m O (fun J=>?_) (fun J=>?_)
  ·have z:decide (d=e)=false:=by apply decide_eq_false;rintro rfl;rw [a7] at N;injection N with h9;subst h9;have h8:=J;simp at h8
   refine Zs m fun _ aT=>?_;refine Za O<|Zt aT fun a m=>?_;refine Q6<|X05<|X7<|X7 ?_;refine X05<|X7<|X4 m (Xo m O O) ?_;exact ⟨by rw [z],x⟩
  have bD:u9=v9:=by simpa using J
  refine Q7<|X6<|aQ _ _<|Zr m ?_;refine Ze (Xr O O Z Z)<|Zm O ?_;refine Zn fun a m=>?_;refine Xc ?_;exact ⟨k+1,⟨m.sb,Z,(Xer I a7 N bD),o,q,A,B,x⟩,Z⟩
 have bE:d.ns=e.ns:=by rw [Qi (by have:=C;omega),Qi (by have:=C;omega)] at I;exact I
 refine Q9<|Xg<|Xg<|X01 ?_;refine aM _ _<|Q5 fun _ aU=>?_;refine Zs m fun _ aV=>?_;refine Ze (Vd O Xv 2)<|Ze (X0 O X12 (o.at 2))<|Ze (X11 O Xx)<|Zm O<|Zt aV fun a m=>?_;refine Q8<|X00 (σ:=Nat) (fun (j:Nat) (a:Act) (w:World)=>Fr a 80 [(2,(pZ9 b6)),(3,(pZ9 b7)),(64,vi (d.ws.length:Int)),(65,vi (j:Int))]/\(j<=d.ws.length)/\(d.ws.take j=e.ws.take j)/\Blk w b6 31 [vi d.n,.slice Ad d.ns.length cd,.slice Bd d.ws.length dd,vi d.t,vi d.r]/\Blk w b7 31 [vi e.n,.slice Ae e.ns.length ce,.slice Be e.ws.length de,vi e.t,vi e.r]/\d.ws.length<=dd/\e.ws.length<=de/\Below E.heap.size E w) (fun (j:Nat)=>d.ws.length-j) 0 ?_ ?_
 ·exact ⟨m.sb,(Qf _),O,o,q,A,B,x⟩
 rintro j a w5 ⟨m,hj,L,o,q,A,B,x⟩;refine Zs m fun _ aW=>?_;refine Ze (X1a O O)<|ZX aW fun a m _ aX=>?_
 refine X0z m O (fun aB D=>?_) (fun aB D=>?_)
 ·obtain ⟨bR,bL⟩:=X8 (l:=d.ws) (k:=j) Z
  obtain ⟨u8,aC⟩:=X8 (l:=d.ws) (k:=j) (by have:=D;omega)
  obtain ⟨v8,Q⟩:=X8 (l:=e.ws) (k:=j) (by have:=D;omega)
  refine Q7<|aX _ _<|Q5 fun _ aY=>?_;refine Q8<|Zs m fun _ aZ=>?_;refine Zm O<|Za O<|ZX aZ fun a m _ b0=>?_;refine Xl none (fun _=>false) mixed ?_;intro w6 G;have o:=o.bw G;have q:=q.bw G;have x:=btr x G;refine Yb m<|Yo 0 O (fun _=>Vd O Xv 2)<|Ye 1 O (X0 O X12 (o.at 2))<|Yo 2 O (fun _=>X3 O)<|Yi (k:=j) (u:=u8) (enc:=encWr) (l:=d.ws) 3 O tv0 O O Xx X0s X06 (aH.bx x) aC O ?_;intro bS aD;refine Ye 4 O (X09 (l:=[vi u8.a,vi u8.b,.bool u8.h]) O X1y aD O)<|Yo 5 O (fun _=>Vd O Xv 2)<|Ye 6 O (X0 O X12 (q.at 2))<|Yo 7 O (fun _=>X3 O)<|Yi (k:=j) (u:=v8) (enc:=encWr) (l:=e.ws) 8 O tv0 O O Xx X0s X06 (aK.bx x) Q O ?_;intro bU aE;refine Ye 9 O (X09 (l:=[vi v8.a,vi v8.b,.bool v8.h]) O X1y aE O)<|Yo 10 O (fun _=>Xjt O O Xqz (fun w=>Xox 9998 u8 v8 w)) ?_;refine Yd fun a m=>?_;refine b0 _ _ ?_
  refine Xz m O (fun M=>?_) (fun M=>?_)
  ·have z:decide (d=e)=false:=by apply decide_eq_false;rintro rfl;rw [aC] at Q;injection Q with h9;subst h9;have h8:=M;simp at h8
   refine Zs m fun _ b1=>?_;refine Za O<|Zt b1 fun a m=>?_;refine Q6<|X05<|X7<|X7 ?_;refine X05<|X7<|X4 m (Xo m O O) ?_;exact ⟨by rw [z],x⟩
  have bF:u8=v8:=by simpa using M
  refine Q7<|X6<|aY _ _<|Zr m ?_;refine Ze (Xr O O Z Z)<|Zm O ?_;refine Zn fun a m=>?_;refine Xc ?_;exact ⟨j+1,⟨m.sb,Z,(Xer L aC Q bF),o,q,A,B,x⟩,Z⟩
 have bG:d.ws=e.ws:=by rw [Qi (by have:=D;omega),Qi (by have:=D;omega)] at L;exact L
 have z:decide (d=e)=true:=decide_eq_true (Xos en bE bG et er)
 refine Q9<|Xg<|Xg<|X01 ?_;refine aU _ _<|Zs m fun _ b2=>?_;refine Za O<|Zt b2 fun a m=>?_
 refine Q6 (X4 m (Xo m O O) ?_)
 exact ⟨by rw [z],x⟩
theorem Xys(c:World)(d:Dg)(md:Nat)(a6:md=d.ns.length)(Ad:Option Addr)(cd:Nat)(a7:Rd c c.heap.size 64 encNd Ad d.ns)(Bd:Option Addr)(dd:Nat)(a8:Rd c c.heap.size 72 encWr Bd d.ws)(aA:d.ws.length<=dd)(aB:d.ws.length<=1000000000)(aC:∀ x ∈ d.ws,-1000000<=x.b/\x.b<=1000000) : Ret Tryz.prog 16 [.agg #[vi d.n,.slice Ad md cd,.slice Bd d.ws.length dd,vi d.t,vi d.r]] c (fun v w=>v=.bool (goodD d)/\Below c.heap.size c w):=by
 refine enter Tryz.func16 O 5 O O ?_;intro a hf
 have e:=bz c
 refine Zs hf fun _ aD=>?_;refine Zf (X0u (zs:=[vi d.n,.slice Ad md cd,.slice Bd d.ws.length dd,vi d.t,vi d.r]) O O) ?_;rintro _ w1 ⟨b4,rfl,aE,hE,aF⟩;have aH:=Q0 e.size aE;have e:=btr e hE;refine Za O<|Zx aD fun a hf _ aG=>?_;refine Ze (Vn Xm aF)<|Zf (Vc (Xjh _ d md a6 Ad cd (a7.bx e).top Bd dd (a8.bx e).top aA aB aC) Xc0) ?_;rintro _ w2 ⟨rfl,hE⟩;have e:=btr e hE;refine Za O<|Zt aG fun a hf=>?_
 refine Q6 (X4 hf (Xo hf O O) ?_)
 exact ⟨O,e⟩
theorem Xzp(w0:World){aT:TypeId}(q:Option Addr)(B:Nat)(j:List Int)(g:Rd w0 w0.heap.size aT encU q j)(L:∀ x ∈ j,0<=x/\x<=255) : Ret Tryz.prog 5 [.slice q j.length B] w0 (fun v w=>∃ (c:Cx) (A:Option Addr) (e:Nat),v=.agg #[vi c.n,.slice A c.gs.length e]/\(c.gs.length<=60)/\Own w w0.heap.size 66 3 encG A e c.gs/\Below w0.heap.size w0 w):=by
 refine enter Tryz.func5 O 22 O O ?_;intro a C
 have d:=bz w0
 refine Zs C fun _ aU=>?_;refine Zf (X03 (zs:=[vi 0,.slice none 0 0]) Xd6 O) ?_;rintro _ w1 ⟨b4,rfl,aV,m,b⟩;have M:=Q0 d.size aV;have d:=btr d m;refine Zx aU fun a C _ aW=>?_;refine Zm O<|Ze (Xt (ps:=[(0,.slice q j.length B)]) (cs:=[.slice q j.length B,vi 0,.int .u64 0]) O (fun _=>by first|rfl|kernel_rfl))<|Zf (X0u (zs:=[.slice q j.length B,vi 0,.int .u64 0]) O O) ?_;rintro _ w2 ⟨b7,rfl,aE,m,i⟩;have D:=Q0 d.size aE;have p:=(g.bx d).away aE;have b:=b.bw m;have d:=btr d m;refine Za O<|ZX aW fun a C _ aX=>?_;refine Zs C fun _ aY=>?_;refine Zm O<|Zf (Vc (Xs3 _ b7 q B j (g.bx d).top L p 0 0 i 10 Z) Xgu) ?_;rintro _ w3 ⟨bR,aF,aG,rfl,bH,bJ,E,o⟩;obtain ⟨wm,t,N,m⟩:=E.mid;clear N;have f:=i;have b:=b.oz t f O;have d:=Below.oy d t D;have b:=b.bw m;have d:=btr d m
 clear f m t E;have i:=o;clear o;refine Zt aY fun a C=>?_
 refine Xz C O (fun aH=>?_) (fun aH=>?_)
 ·refine Zs C fun _ aI=>?_;refine Zm O<|Zf (Vc (Xyc _ b7 q B j (g.bx d).top L p aF aG i Z) Xpj) ?_;rintro _ w4 ⟨H,Q,U,bK,bL,rfl,aZ,b0,u,E,o⟩;have G:=d.size;obtain ⟨wm,t,N,m⟩:=E.mid;clear N;have f:=i;have b:=b.oz t f O;have d:=Below.oy d t D;have b:=b.bw m;have d:=btr d m
  clear f m t E;have i:=o;clear o
  have u:=u.lower G;clear G;refine Zo (Vw [vi H.n,.slice Q H.gs.length U] X59 b) ?_;rintro _ w5 ⟨ho,hb⟩;have u:=u.oT ho b O;have d:=Below.oy d ho M;have b:=hb;refine Zt aI fun a C=>?_;refine Q6<|X7<|X4 C (Xo C O (ResV.cellN (l:=[vi H.n,.slice Q H.gs.length U]) O X3g (b.at 0) O)) ?_;exact ⟨_,Q,U,O,Z,u,d⟩
 refine Q7<|aX _ _<|Q5 fun _ aJ=>?_;refine Zs C fun _ aK=>?_;refine Zm O<|Zf (Vc (Xs3 _ b7 q B j (g.bx d).top L p aF aG i 16 Z) Xgu) ?_;rintro _ w6 ⟨bM,aA,aB,rfl,b1,b2,E,o⟩;obtain ⟨wm,t,N,m⟩:=E.mid;clear N;have f:=i;have b:=b.oz t f O;have d:=Below.oy d t D;have b:=b.bw m;have d:=btr d m
 clear f m t E;have i:=o;clear o;refine Zt aK fun a C=>?_
 refine Xz C O (fun aL=>?_) (fun aL=>?_)
 ·refine Zs C fun _ aM=>?_;refine Zm O<|Zf (X9 (k:=4) (vs:=[vi 1,vi 7,vi 9,vi 2]) (zs:=[vi 1,vi 7,vi 9,vi 2]) O Xy X2j O O) ?_;rintro _ w7 ⟨b3,rfl,aN,m,aC⟩;have b5:=Q0 d.size aN;have b:=b.bw m;have i:=i.bw m;have d:=btr d m;refine Zf (Vc (Xje _ b7 q B j (g.bx d).top L p aA aB i 3 60 (some ⟨b3,0,none⟩) 4 ([1,7,9,2]) (Rd.of_blk aC O _ aC.lt) Z Z O5 O5 Z) X8z) ?_;rintro _ w8 ⟨I,W,a6,bN,bO,rfl,b6,b8,z,E,o⟩;have G:=d.size;obtain ⟨wm,t,N,m⟩:=E.mid;clear N;have f:=i;have b:=b.oz t f O;have d:=Below.oy d t D;have b:=b.bw m;have d:=btr d m
  clear f m t E;have i:=o;clear o
  have z:=z.lower G;clear G;refine Zo (Vw [vi I.n,.slice W I.gs.length a6] X59 b) ?_;rintro _ w9 ⟨ho,hb⟩;have z:=z.oT ho b O;have d:=Below.oy d ho M;have b:=hb;refine Zt aM fun a C=>?_;refine Q6<|X7<|X4 C (Xo C O (ResV.cellN (l:=[vi I.n,.slice W I.gs.length a6]) O X3g (b.at 0) O)) ?_;exact ⟨_,W,a6,O,Z,z,d⟩
 refine Q7<|aJ _ _<|Zs C fun _ aO=>?_;refine Zm O<|Zm O<|Zf (Vc (X2h _ b7 q B j (g.bx d).top L p aA aB i 3 Z) X1b) ?_;rintro _ bS ⟨aP,aQ,aR,rfl,b9,bC,E,o⟩;obtain ⟨wm,t,N,m⟩:=E.mid;clear N;have f:=i;have b:=b.oz t f O;have d:=Below.oy d t D;have b:=b.bw m;have d:=btr d m
 clear f m t E;have i:=o;clear o;refine Ze (Xr O O Z Z)<|Zf (X9 (k:=15) (vs:=[vi 1,vi 1,vi 7,vi 7,vi 5,vi 3,vi 8,vi 9,vi 9,vi 10,vi 10,vi 11,vi 12,vi 2,vi 4]) (zs:=[vi 1,vi 1,vi 7,vi 7,vi 5,vi 3,vi 8,vi 9,vi 9,vi 10,vi 10,vi 11,vi 12,vi 2,vi 4]) O Xy X2j O O) ?_;rintro _ bU ⟨bD,rfl,aS,m,aD⟩;have bE:=Q0 d.size aS;have b:=b.bw m;have i:=i.bw m;have d:=btr d m;refine Zf (Vc (Xje _ b7 q B j (g.bx d).top L p aQ aR i (1+aP) 10 (some ⟨bD,0,none⟩) 15 ([1,1,7,7,5,3,8,9,9,10,10,11,12,2,4]) (Rd.of_blk aD O _ aD.lt) Z Z O5 O5 Z) X8z) ?_;rintro _ bW ⟨J,a7,a8,bP,bQ,rfl,bF,bG,h,E,o⟩;have G:=d.size;obtain ⟨wm,t,N,m⟩:=E.mid;clear N;have f:=i;have b:=b.oz t f O;have d:=Below.oy d t D;have b:=b.bw m;have d:=btr d m
 clear f m t E;have i:=o;clear o
 have h:=h.lower G;clear G;refine Zo (Vw [vi J.n,.slice a7 J.gs.length a8] X59 b) ?_;rintro _ bX ⟨ho,hb⟩;have h:=h.oT ho b O;have d:=Below.oy d ho M;have b:=hb;refine Zt aO fun a C=>?_
 refine Q6 (X4 C (Xo C O (ResV.cellN (l:=[vi J.n,.slice a7 J.gs.length a8]) O X3g (b.at 0) O)) ?_)
 exact ⟨_,a7,a8,O,Z,h,d⟩
theorem Xsj(w0:World)(bV B0:Nat)(A0:Option Addr)(c0:Nat)(A1:Option Addr)(c1:Nat)(v5 v6:Value)(m0:Nat)(d:Dg)(aF:Dg7 w0 bV B0 A0 c0 A1 c1 v5 v6 m0 d)(aG:B0<=w0.heap.size)(p:Int)(q:Int)(x:Bool)(aH:WSd d.ws)(aI:fdW d.ws p q<0)(aO:d.ws.length<=90000000) : Ret Tryz.prog 64 [(pZ9 bV),vi p,vi q,.bool x] w0 (fun v w=>∃ A c,TurnS (SB bV [A0,A1]) w0 w/\Us (SB bV [A0,A1]) w0 A/\Dg7 w bV B0 A0 c0 A c v5 v6 m0 ({ d with ws:=jnW d.ws p q x } : Dg)):=by
 obtain ⟨b,f,j,aJ⟩:=aF;have aM:=b.lt
 have aP:Us (SB bV [A0,A1]) w0 A0:=SB.us O5
 have aA:Us (SB bV [A0,A1]) w0 A1:=SB.us O5
 refine enter Tryz.func64 O 30 O O ?_;intro a hf
 have i:TurnS (SB bV [A0,A1]) w0 w0:=TurnS.refl _ _
 refine Zs hf fun _ aK=>?_;refine Zm O<|Zm O<|Ze (Xw O)<|Ze (Vd O Xv 2)<|Ze (X0 O X12 (b.at 2))<|Zm O<|Zm O<|Ze (Y0d O O)<|Zm O<|Zm O ?_;refine Ze (Y0c O O)<|Zm O<|Ze (Xt (ps:=[(0,vi (min p q)),(1,vi (max p q)),(2,.bool x)]) (cs:=[vi (min p q),vi (max p q),.bool x]) O (fun _=>by first|rfl|kernel_rfl))<|Zf (X9 (k:=1) (vs:=[.agg #[vi (min p q),vi (max p q),.bool x]]) (zs:=[vi (min p q),vi (max p q),.bool x]) O Xx X1v O O) ?_;rintro _ w1 ⟨b4,rfl,aB,hE,a6⟩;have aN:=Q0 i.size aB;have m:=j.away aB;have b:=b.bw hE;have f:=f.bw hE;have j:=j.bw hE;have i:=tsbel i hE;refine Zf (X15 (enc:=encWr) (l:=(d.ws)) (l2:=([(⟨min p q,max p q,x⟩ : Wr)])) (B0:=B0) O O Xx X1v X06 X2n j (Rd.of_blk a6 O _ a6.lt) (by simp only [maxLen];simp;omega) O6 (Q0 aG i.size)) ?_;rintro _ w2 ⟨A6,c6,rfl,g,o,a7⟩
 have e:Own _ B0 72 3 encWr _ _ (d.ws):=j
 have aE:=a7 _ a6.lt m;have aC:=Us.app aA a7 i.size;clear a7;have b:=b.appT e o O;have f:=f.appT e o O;have i:=tsrow i o aA;clear e o;refine Ze (Xw O)<|Ze (Vd O Xv 2)<|Zo (X1m (vs:=[.slice A6 (d.ws++([(⟨min p q,max p q,x⟩ : Wr)])).length c6]) (l':=[vi d.n,.slice A0 m0 c0,.slice A6 (d.ws++([(⟨min p q,max p q,x⟩ : Wr)])).length c6,vi d.t,vi d.r,v5,v6]) O O X32 b O O O O O) ?_;rintro _ w3 ⟨ho,hb⟩;have f:=f.oT ho b O;have g:=g.oT ho b O;have i:=tsonly i ho (.inl (.inl O));have b:=hb;refine Zt aK fun a hf=>?_;refine Zr hf<|Zm O<|Ze (Xw O)<|Ze (Vd O Xv 2)<|Ze (X0 O X12 (b.at 2))<|Zf (Vc (Xzm _ B0 A6 c6 (d.ws++([(⟨min p q,max p q,x⟩ : Wr)])) g O6) Xqn) ?_;rintro _ w4 ⟨rfl,⟨aL,u,z,h⟩,o⟩;have e:=g;have b:=b.appT e o O;have f:=f.appT e o O;have i:=tsrow i o aC
 clear e o;clear g;have g:=h;clear h;refine Zn fun a hf=>?_;refine X1u hf (X2s O) ?_
 have aD:aL=jnW d.ws p q x:=Xnm u z aH (Xvq aI)
 subst aD
 have a8:(d.ws++[(⟨min p q,max p q,x⟩ : Wr)]).length=(jnW d.ws p q x).length:=by rw [X75,Qh];rfl
 rw [a8] at b
 exact ⟨A6,c6,i,aC,⟨b,f,g,aJ⟩⟩
theorem Y04(w0:World)(bV B0:Nat)(A0:Option Addr)(c0:Nat)(A1:Option Addr)(c1:Nat)(v5 v6:Value)(m0:Nat)(d:Dg)(aD:Dg7 w0 bV B0 A0 c0 A1 c1 v5 v6 m0 d)(aE:B0<=w0.heap.size)(p:Int)(q:Int)(aI:d.ws.length<=90000000) : Ret Tryz.prog 104 [(pZ9 bV),vi p,vi q] w0 (fun v w=>∃ A c,TurnS (SB bV [A0,A1]) w0 w/\Us (SB bV [A0,A1]) w0 A/\Dg7 w bV B0 A0 c0 A c v5 v6 m0 ({ d with ws:=ctO d.ws p q } : Dg)):=by
 obtain ⟨b,f,e,a6⟩:=aD;have aH:=b.lt
 have aJ:Us (SB bV [A0,A1]) w0 A0:=SB.us O5
 have a7:Us (SB bV [A0,A1]) w0 A1:=SB.us O5
 have aB:=Xgt d.ws p q;refine enter Tryz.func104 O 26 O O ?_;intro a j
 have i:TurnS (SB bV [A0,A1]) w0 w0:=TurnS.refl _ _
 refine Zs j fun _ aF=>?_;refine Zm O<|Ze (Xw O)<|Ze (X09 (l:=[vi d.n,.slice A0 m0 c0,.slice A1 d.ws.length c1,vi d.t,vi d.r]) O Xm ((b.at 0).take 5) O)<|Zm O<|Zm O<|Zf (Vc (Xsg _ d m0 a6 A0 c0 f.rd.top A1 c1 e.rd.top e.cap p q Z) Xha) ?_;rintro _ w1 ⟨rfl,hE⟩;have b:=b.bw hE;have f:=f.bw hE;have e:=e.bw hE;have i:=tsbel i hE;refine Za O<|Zx aF fun a j _ aG=>?_;refine Zm O<|Ze (X8s O O)<|Zt aG fun a j=>?_
 refine X0z j O (fun aC a8=>?_) (fun aC a8=>?_)
 ·have aA:=Xt1 a8;refine Zr j<|Zm O<|Zm O<|Ze (Xw O)<|Ze (Vd O Xv 2)<|Ze (X0 O X12 (b.at 2))<|Zm O<|Zm O<|Ze (Xr O O Z Z)<|Zf (Vc (Xzn _ A1 c1 B0 d.ws e (Q0 aE i.size) (fdW d.ws p q) ⟨by omega,aB⟩ Z) Xqo) ?_;rintro _ w2 ⟨rfl,k,hg⟩;have g:=e;have b:=b.appT g hg O;have f:=f.appT g hg O;have i:=tsrow i hg a7
  clear g hg;clear e;have e:=k;clear k;refine Ze (Xw O)<|Ze (Vd O Xv 2)<|Zo (X1m (vs:=[.slice A1 (ctW d.ws (fdW d.ws p q).toNat).length c1]) (l':=[vi d.n,.slice A0 m0 c0,.slice A1 (ctW d.ws (fdW d.ws p q).toNat).length c1,vi d.t,vi d.r,v5,v6]) O O X32 b O O O O O) ?_;rintro _ w3 ⟨ho,hb⟩;have f:=f.oT ho b O;have e:=e.oT ho b O;have i:=tsonly i ho (.inl (.inl O));have b:=hb;refine Zn fun a j=>?_;refine X1u j (X2s O) ?_
  rw [aA]
  exact ⟨A1,c1,i,a7,⟨b,f,e,a6⟩⟩
 have aA:=Y12 (ws:=d.ws) (p:=p) (q:=q) (by have:=a8;omega)
 refine Q7<|X1u j (X2s O) ?_
 rw [aA]
 exact ⟨A1,c1,i,a7,⟨b,f,e,a6⟩⟩
end Go.Proofs.YtgobkmhhckhbfaaGreatDoor
