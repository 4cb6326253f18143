/-
  For every drawn circuit, the certificate of the peephole pass is accepted, gates and T gates do not become more, and nothing is left to replace. Conditions: none beside the variables' values, which the card ties to the program's text.
-/
import Derived.Test.YtfkokcbjcndjpaaGreatDoorP1
import Derived.Test.YtfkokcbjcndjpaaGreatDoorP3
import Derived.Lib.ItoaNum
import Derived.Lib.Join
import Derived.Shelf.Strings.OnBuilder
import Derived.Shelf.LaysM
import Derived.Ground.NamesProg
import Derived.Shelf.Strconv.Itoa3
import Derived.Ground.Names2Prog
import Derived.Test.YtfkokcbjcndjpaaGreatDoorProg
import Derived.Test.YtfkokcbjcndjpaaGreatDoorP2
import Derived.Lib.ItoaLen
import Derived.Test.YtfkokcbjcndjpaaGreatDoorRows
import Derived.Lib.LaidU8
import Derived.Lib.AppendIntMem
import Derived.MakeChecks
set_option linter.unusedVariables false
set_option linter.unusedSimpArgs false
set_option maxHeartbeats 1000000
set_option maxRecDepth 20000
set_option linter.unusedSectionVars false
namespace Go.Proofs.YtfkokcbjcndjpaaGreatDoor
section
variable {G K : Type} [DecidableEq K]
def wds(gs:List G) : Nat->List (List G)
 | 0=>[[]]
 | k+1=>(wds gs k).flatMap fun u=>gs.map fun g=>u++[g]
def skW(gs:List G)(P:List G->Bool) : Nat->List G->Option (List G)
 | 0,p=>if P p then some p else none
 | k+1,p=>gs.findSome? fun g=>skW gs P k (p++[g])
theorem X8d{α β γ:Type}(f:β->Option γ)(h:α->List β)(l:List α) :
  (l.flatMap h).findSome? f=l.findSome? fun a=>(h a).findSome? f:=by
 induction l with
 | nil=>rfl
 | cons a l ih=>simp only [Wc,List.findSome?_append,List.findSome?_cons,ih];cases (h a).findSome? f<;>rfl
theorem Xtx(gs:List G)(k:Nat) : ∀ (F:List G->Option (List G)) (j:Nat),
  (wds gs (j+k)).findSome? F=(wds gs j).findSome? fun u=>Nat.rec (motive:=fun _=>List G->Option (List G)) F (fun _ r p=>gs.findSome? fun g=>r (p++[g])) k u:=by
 induction k with
 | zero=>intro F j;rfl
 | succ k ih=>
  intro F j
  show (wds gs (j+k+1)).findSome? F=_
  rw [wds,X8d]
  have:=ih (fun u=>(gs.map fun g=>u++[g]).findSome? F) j
  rw [this];congr 1;funext u
  clear this ih
  induction k generalizing u with
  | zero=>simp only [List.findSome?_map,Function.comp_def];rfl
  | succ k ih=>simp only [];congr 1;funext g;exact ih (u++[g])
theorem Xyt(gs:List G)(P:List G->Bool)(k:Nat)(p:List G) :
  skW gs P k p=Nat.rec (motive:=fun _=>List G->Option (List G)) (fun q=>if P q then some q else none) (fun _ r p=>gs.findSome? fun g=>r (p++[g])) k p:=by
 induction k generalizing p with
 | zero=>rfl
 | succ k ih=>simp only [skW];congr 1;funext g;exact ih _
theorem Xao{α:Type}(P:α->Bool)(l:List α) : l.findSome? (fun q=>if P q then some q else none)=l.find? P:=by
 induction l with
 | nil=>rfl
 | cons a l ih=>simp only [List.findSome?_cons,List.find?_cons];cases P a<;>simp [ih]
theorem Xqa(gs:List G)(P:List G->Bool)(k:Nat) : skW gs P k []=(wds gs k).find? P:=by
 have h:=Xtx gs k (fun q=>if P q then some q else none) 0
 rw [Nat.zero_add] at h
 rw [<- Xao,h,Xyt];simp [wds]
def lsW(gs:List G)(P:List G->Bool) : Nat->Option (List G)
 | 0=>(wds gs 0).find? P
 | k+1=>(lsW gs P k).or ((wds gs (k+1)).find? P)
def enT(ky:List G->K)(T:K->Option (List G)) : List (List G)->(K->Option (List G))×List (List G)
 | []=>(T,[])
 | w::l=>match T (ky w) with
  | some _=>enT ky T l
  | none=>let r:=enT ky (fun q=>if q=ky w then some w else T q) l;(r.1,w::r.2)
def grT(gs:List G)(ky:List G->K) : Nat->(K->Option (List G))×List (List G)
 | 0=>((fun q=>if q=ky [] then some [] else none),[[]])
 | k+1=>enT ky (grT gs ky k).1 ((grT gs ky k).2.flatMap fun u=>gs.map fun g=>u++[g])
theorem Xno(ky:List G->K)(l:List (List G)) : ∀ (T:K->Option (List G)) (q:K),
  (enT ky T l).1 q=(T q).or (l.find? fun w=>ky w=q):=by
 induction l with
 | nil=>intro T q;simp [enT]
 | cons w l ih=>
  intro T q
  simp only [enT]
  cases h:T (ky w) with
  | some x=>
   simp only [ih]
   by_cases e:ky w=q
   ·subst e;simp [h]
   ·simp [e]
  | none=>
   simp only [ih]
   by_cases e:ky w=q
   ·subst e;simp [h]
   ·have e':¬ q=ky w:=fun h=>e h.symm
    simp [e,e']
theorem Xnp(ky:List G->K)(F:List G->Option (List G))(l:List (List G)) : ∀ (T:K->Option (List G)),
  (∀ w,w ∈ l->(T (ky w)).isSome->F w=none)->
  (∀ w v,w ∈ l->v ∈ l->ky w=ky v->(F w).isSome=(F v).isSome)->
  (enT ky T l).2.findSome? F=l.findSome? F:=by
 induction l with
 | nil=>intro T h1 h2;rfl
 | cons w l ih=>
  intro T h1 h2
  simp only [enT]
  cases h:T (ky w) with
  | some x=>
   simp only []
   rw [ih T (fun v hv=>h1 v (Ql _ hv)) (fun u v hu hv=>h2 u v (Ql _ hu) (Ql _ hv))]
   simp [List.findSome?_cons,h1 w (Qk ..) (by simp [h])]
  | none=>
   simp only [List.findSome?_cons]
   cases hF:F w with
   | some y=>rfl
   | none=>
    simp only []
    apply ih
    ·intro v hv hs
     by_cases e:ky v=ky w
     ·have:=h2 v w (Ql _ hv) (Qk ..) e
      rw [hF] at this;simpa using this
     ·rw [Q3 e] at hs;exact h1 v (Ql _ hv) hs
    ·exact fun u v hu hv=>h2 u v (Ql _ hu) (Ql _ hv)
theorem X9y(gs:List G)(k:Nat) : ∀ w,w ∈ wds gs k->w.length=k:=by
 induction k with
 | zero=>intro w h;simp [wds] at h;simp [h]
 | succ k ih=>
  intro w h
  simp only [wds,List.mem_flatMap,W6] at h
  obtain ⟨u,hu,g,hg,rfl⟩:=h
  simp [ih u hu]
theorem Xrp(ky:List G->K)(l:List (List G)) : ∀ (T:K->Option (List G)) w,w ∈ (enT ky T l).2->w ∈ l:=by
 induction l with
 | nil=>intro T w h;simp [enT] at h
 | cons v l ih=>
  intro T w h
  simp only [enT] at h
  cases hv:T (ky v) with
  | some x=>rw [hv] at h;exact Ql _ (ih _ _ h)
  | none=>
   rw [hv] at h;simp only [] at h
   rcases Qv.mp h with h|h
   ·subst h;exact Qk ..
   ·exact Ql _ (ih _ _ h)
theorem Xjn(gs:List G)(ky:List G->K)(k:Nat) : ∀ w,w ∈ (grT gs ky k).2->w ∈ wds gs k:=by
 induction k with
 | zero=>intro w h;simpa [grT,wds] using h
 | succ k ih=>
  intro w h
  have:=Xrp ky _ _ w h
  simp only [List.mem_flatMap] at this
  obtain ⟨u,hu,hw⟩:=this
  simp only [wds,List.mem_flatMap];exact ⟨u,ih u hu,hw⟩
theorem Xg1(gs:List G)(P:List G->Bool)(k:Nat) : (lsW gs P k).isSome↔∃ j w,j<=k/\w ∈ wds gs j/\P w=true:=by
 induction k with
 | zero=>
  simp only [lsW,List.find?_isSome]
  constructor
  ·rintro ⟨w,hw,hp⟩;exact ⟨0,w,Qb _,hw,hp⟩
  ·rintro ⟨j,w,hj,hw,hp⟩;cases Nat.le_zero.mp hj;exact ⟨w,hw,hp⟩
 | succ k ih=>
  simp only [lsW,Option.isSome_or,Bool.or_eq_true,ih,List.find?_isSome]
  constructor
  ·rintro (⟨j,w,hj,hw,hp⟩|⟨w,hw,hp⟩)
   ·exact ⟨j,w,Nat.le_succ_of_le hj,hw,hp⟩
   ·exact ⟨k+1,w,Qb _,hw,hp⟩
  ·rintro ⟨j,w,hj,hw,hp⟩
   rcases W4 k j with h|h
   ·have:j=k+1:=by omega
    subst this;exact Or.inr ⟨w,hw,hp⟩
   ·exact Or.inl ⟨j,w,h,hw,hp⟩
theorem Xox(gs:List G)(ky:List G->K)(B:Nat)
  (hc:∀ i j u v g,i<B->j<B->u ∈ wds gs i->v ∈ wds gs j->g ∈ gs->ky u=ky v->ky (u++[g])=ky (v++[g])) (k:Nat) (hk:k<=B) :
  (∀ q,(grT gs ky k).1 q=lsW gs (fun w=>ky w=q) k)/\
  (∀ F:List G->Option (List G),
   (∀ w v,w ∈ wds gs k->v ∈ wds gs k->ky w=ky v->(F w).isSome=(F v).isSome)->
   (∀ w j v,w ∈ wds gs k->j<k->v ∈ wds gs j->ky v=ky w->F w=none)->
   (grT gs ky k).2.findSome? F=(wds gs k).findSome? F):=by
 induction k with
 | zero=>
  refine ⟨?_,?_⟩
  ·intro q
   by_cases e:q=ky []
   ·subst e;simp [grT,lsW,wds]
   ·have e':¬ ky []=q:=fun h=>e h.symm
    simp [grT,lsW,wds,e,e']
  ·intro F _ _;rfl
 | succ k ih=>
  obtain ⟨i1,i2⟩:=ih Z
  have key:∀ F:List G->Option (List G),
   (∀ w v,w ∈ wds gs (k+1)->v ∈ wds gs (k+1)->ky w=ky v->(F w).isSome=(F v).isSome)->
   (∀ w j v,w ∈ wds gs (k+1)->j<k+1->v ∈ wds gs j->ky v=ky w->F w=none)->
   ((grT gs ky k).2.flatMap fun u=>gs.map fun g=>u++[g]).findSome? F=(wds gs (k+1)).findSome? F:=by
   intro F f1 f2
   have hin:∀ u g,u ∈ wds gs k->g ∈ gs->u++[g] ∈ wds gs (k+1):=by
    intro u g hu hg;simp only [wds,List.mem_flatMap,W6];exact ⟨u,hu,g,hg,O⟩
   have hin':∀ j u g,u ∈ wds gs j->g ∈ gs->u++[g] ∈ wds gs (j+1):=by
    intro j u g hu hg;simp only [wds,List.mem_flatMap,W6];exact ⟨u,hu,g,hg,O⟩
   rw [X8d,wds,X8d]
   apply i2
   ·intro w v hw hv e
    rw [Bool.eq_iff_iff]
    simp only [List.findSome?_isSome_iff,W6]
    constructor
    ·rintro ⟨x,⟨g,hg,rfl⟩,hx⟩
     refine ⟨v++[g],⟨g,hg,O⟩,?_⟩
     rw [<- f1 _ _ (hin w g hw hg) (hin v g hv hg) (hc k k w v g Z Z hw hv hg e)];exact hx
    ·rintro ⟨x,⟨g,hg,rfl⟩,hx⟩
     refine ⟨w++[g],⟨g,hg,O⟩,?_⟩
     rw [f1 _ _ (hin w g hw hg) (hin v g hv hg) (hc k k w v g Z Z hw hv hg e)];exact hx
   ·intro w j v hw hj hv e
    rw [List.findSome?_eq_none_iff]
    intro x hx;obtain ⟨g,hg,rfl⟩:=W6.mp hx;exact f2 _ (j+1) (v++[g]) (hin w g hw hg) Z (hin' j v g hv hg)
     (hc j k v w g Z Z hv hw hg e)
  have sub:∀ w,w ∈ ((grT gs ky k).2.flatMap fun u=>gs.map fun g=>u++[g])->w ∈ wds gs (k+1):=by
   intro w h
   simp only [List.mem_flatMap] at h
   obtain ⟨u,hu,hw⟩:=h
   simp only [wds,List.mem_flatMap];exact ⟨u,Xjn gs ky k u hu,hw⟩
  refine ⟨?_,?_⟩
  ·intro q
   show (enT ky (grT gs ky k).1 _).1 q=_
   rw [Xno,i1 q,lsW]
   cases hq:lsW gs (fun w=>ky w=q) k with
   | some x=>rfl
   | none=>
    show List.find? _ _=List.find? _ _
    rw [<- Xao,<- Xao]
    apply key
    ·intro w v _ _ e;by_cases h:ky v=q<;>simp [e,h]
    ·intro w j v hw hj hv e
     have h:¬ ky w=q:=by
      intro h
      have:(lsW gs (fun w=>decide (ky w=q)) k).isSome:=(Xg1 ..).mpr ⟨j,v,by omega,hv,by simp [e,h]⟩
      rw [hq] at this;cases this
     simp [h]
  ·intro F f1 f2
   show (enT ky (grT gs ky k).1 _).2.findSome? F=_
   rw [Xnp,key F f1 f2]
   ·intro w hw hs
    rw [i1] at hs
    obtain ⟨j,v,hj,hv,e⟩:=(Xg1 ..).mp hs;exact f2 w j v (sub w hw) Z hv (by simpa using e)
   ·intro w v hw hv;exact f1 w v (sub w hw) (sub v hv)
end
def rLess(x y:Rg) : Bool:=if x.a≠y.a then decide (x.a<y.a) else if x.b≠y.b then decide (x.b<y.b) else if x.c≠y.c then decide (x.c<y.c) else decide (x.d<y.d)
theorem X6a(x y:Rg) : rLess x y=true↔x.a<y.a∨(x.a=y.a/\(x.b<y.b∨(x.b=y.b/\(x.c<y.c∨(x.c=y.c/\x.d<y.d))))):=by grind [rLess]
theorem Xgd{x y z:Rg}(h1:rLess x y=true)(h2:rLess y z=true) : rLess x z=true:=by
 rw [X6a] at *;omega
theorem Xct(x:Rg) : rLess x x=false:=by
 rw [Bool.eq_false_iff,Ne,X6a];omega
theorem Xm2{x y:Rg}(h1:rLess x y=false)(h2:rLess y x=false) : x=y:=by
 rw [Bool.eq_false_iff,Ne,X6a] at h1 h2
 obtain ⟨a,b,c,d⟩:=x;obtain ⟨a',b',c',d'⟩:=y
 simp only [Rg.mk.injEq] at *;omega
def bestT(x:Rg) : Nat->Nat
 | 0=>0
 | n+1=>if rLess (rTurnN (bestT x n) x) (rTurnN (n+1) x)=true then n+1 else bestT x n
theorem Xfb(x:Rg) : ∀ n,bestT x n<=n
 | 0=>Qb _
 | n+1=>by unfold bestT;have:=Xfb x n;split<;>omega
theorem X5r(x:Rg) : ∀ n j,j<=n->rLess (rTurnN (bestT x n) x) (rTurnN j x)=false
 | 0,j,h=>by cases Nat.le_zero.mp h;exact Xct _
 | n+1,j,h=>by
  unfold bestT
  by_cases e:rLess (rTurnN (bestT x n) x) (rTurnN (n+1) x)=true
  ·rw [Q4 e]
   by_cases hj:j=n+1
   ·subst hj;exact Xct _
   ·have:=X5r x n j Z
    rw [Bool.eq_false_iff];intro h2
    rw [Xgd e h2] at this;cases this
  ·rw [Q3 e]
   by_cases hj:j=n+1
   ·subst hj;simpa using e
   ·exact X5r x n j Z
def turnK(x:Rg) : Nat:=bestT x 7
theorem X5m(x:Rg) : turnK x<8:=Nat.lt_succ_of_le (Xfb x 7)
theorem X5t{k:Nat}(hk:k<8)(x:Dy) : dTurn k x=⟨rTurnN k x.num,x.exp⟩:=by
 have:(turns (k:Int)).toNat=k:=by
  rcases (by omega:k=0∨k=1∨k=2∨k=3∨k=4∨k=5∨k=6∨k=7) with rfl|rfl|rfl|rfl|rfl|rfl|rfl|rfl<;>decide
 unfold dTurn rTurn;rw [this]
theorem Xng{x:Dy}(h:dOk x=true)(k:Int) : dOk (dTurn k x)=true:=by
 have hz:=X1t.1 h;obtain ⟨h1,h2⟩:=X7p hz.1 k;exact X1t.2 ⟨h1,hz.2.1,by rcases hz.2.2 with h|h;exact .inl h;exact .inr (h2.trans h)⟩
theorem X35{x:Rg}(h:rOk x=true)(i j:Nat) : rTurnN i (rTurnN j x)=rTurnN ((i+j) % 8) x:=by
 rw [X5n i _ (X6b j x h).1,X5n j x h,X5n _ x h,<- X8g,X1p,Xe]
theorem X6r{x:Dy}(h:dOk x=true){i j:Nat}(hi:i<8)(hj:j<8) : dTurn i (dTurn j x)=dTurn ((i+j) % 8:Nat) x:=by
 rw [X5t hj,X5t hi,X5t (Nat.mod_lt _ O4),X35 (X1t.1 h).1]
theorem Xi0(z:Rg)(j:Nat)(h0:0<j)(hj:j<8)(h:rOk z=true)(e:rTurnN j z=z) : z=⟨0,0,0,0⟩:=by
 obtain ⟨a,b,c,d⟩:=z
 simp only [rOk,inR,Qd,Qr] at h
 have wn:∀ x:Int,-1000000000<=x/\x<=1000000000->wr (-x) = -x:=fun x hx=>X11 Z Z
 rcases (by omega:j=1∨j=2∨j=3∨j=4∨j=5∨j=6∨j=7) with rfl|rfl|rfl|rfl|rfl|rfl|rfl <;>
 ·simp only [rTurnN,rOm,Rg.mk.injEq] at e ⊢
  have ha:=wn a Z;have hb:=wn b Z;have hc:=wn c Z;have hd:=wn d Z
  simp only [ha,hb,hc,hd,wn (-a) Z,wn (-b) Z,wn (-c) Z,wn (-d) Z] at e
  omega
def canK(l:List Dy) : Option Nat:=(l.find? fun x=>decide (x≠dZ)).map fun x=>turnK x.num
def canL(l:List Dy) : Option (List Dy):=(canK l).map fun (k:Nat)=>l.map (dTurn (k:Int))
theorem Y10{x:Dy}(h:dOk x=true)(e:x.num=⟨0,0,0,0⟩) : x=dZ:=by
 obtain ⟨z,m⟩:=x
 simp only at e;subst e
 have:=(X1t.1 h).2.2
 rcases this with h|h
 ·simp only at h;subst h;rfl
 ·exact absurd h (by simp only;decide)
theorem Xab{k:Nat}(hk:k<8) : dTurn k dZ=dZ:=by
 rcases (by omega:k=0∨k=1∨k=2∨k=3∨k=4∨k=5∨k=6∨k=7) with rfl|rfl|rfl|rfl|rfl|rfl|rfl|rfl<;>decide
theorem Xlb{x:Dy}(h:dOk x=true) : dTurn (0:Nat) x=x:=by rw [X5t O4];rfl
theorem Xaa{x:Dy}(h:dOk x=true){k:Nat}(hk:k<8) : dTurn ((8-k) % 8:Nat) (dTurn k x)=x:=by
 rw [X6r h (Nat.mod_lt _ O4) hk,show ((8-k) % 8+k) % 8=0 from by omega,Xlb h]
theorem Xnf{x:Dy}(h:dOk x=true){k:Nat}(hk:k<8) : dTurn k x=dZ↔x=dZ:=
 ⟨fun e=>by rw [<- Xaa h hk,e,Xab (Nat.mod_lt _ O4)],fun e=>by rw [e,Xab hk]⟩
theorem Xc9{k:Nat}(hk:k<8) : ∀ l:List Dy,(∀ x ∈ l,dOk x=true)->(l.map (dTurn k)).find? (fun x=>decide (x≠dZ))=(l.find? fun x=>decide (x≠dZ)).map (dTurn k)
 | [],_=>rfl
 | x::l,h=>by
  rw [List.map_cons,List.find?_cons,List.find?_cons,Xc9 hk l fun y hy=>h y (Ql _ hy)]
  have:=Xnf (h x (Qk ..)) hk
  by_cases e:x=dZ
  ·simp [e,Xab hk]
  ·have e':¬ dTurn k x=dZ:=fun h=>e (this.1 h)
   simp [e,e']
theorem Xi7{x:Rg}(h:rOk x=true){k:Nat}(hk:k<8) : rTurnN (turnK (rTurnN k x)) (rTurnN k x)=rTurnN (turnK x) x:=by
 have hy:=(X6b k x h).1;refine Xm2 ?_ ?_
 ·have hb:=X5r (rTurnN k x) 7 ((turnK x+(8-k)) % 8) Z
  rw [X35 h ((turnK x+(8-k)) % 8) k,show ((turnK x+(8-k)) % 8+k) % 8=turnK x from by have:=X5m x;omega] at hb
  exact hb
 ·have hb:=X5r x 7 ((turnK (rTurnN k x)+k) % 8) Z
  rw [<- X35 h] at hb
  exact hb
theorem Xmb{x:Rg}(h:rOk x=true)(hx:x≠⟨0,0,0,0⟩){k:Nat}(hk:k<8) : (turnK (rTurnN k x)+k) % 8=turnK x:=by
 have e:=Xi7 h hk
 rw [X35 h] at e
 generalize hi:(turnK (rTurnN k x)+k) % 8=i at e
 have hi8:i<8:=by omega
 have hj8:=X5m x
 generalize turnK x=j at e hj8
 have e2:rTurnN ((8-j+i) % 8) x=x:=by
  have:=congrArg (rTurnN (8-j)) e
  rw [X35 h,X35 h,show (8-j+j) % 8=0 from by omega] at this
  exact this
 by_cases h0:(8-j+i) % 8=0
 ·omega
 ·exact absurd (Xi0 x _ Z (Nat.mod_lt _ O4) h e2) hx
theorem Xl9{k:Nat}(hk:k<8){l:List Dy}(h:∀ x ∈ l,dOk x=true) : canL (l.map (dTurn k))=canL l:=by
 unfold canL canK
 rw [Xc9 hk l h]
 cases e:l.find? fun x=>decide (x≠dZ) with
 | none=>rfl
 | some x=>
  have hm:=h x (List.mem_of_find?_eq_some e)
  have hx:x≠dZ:=by simpa using List.find?_some e
  simp only [Option.map_some,List.map_map,Option.some.injEq]
  apply List.map_congr_left
  intro y hy
  show dTurn _ (dTurn k y)=_
  rw [X6r (h y hy) (X5m _) hk,X5t hk,Xmb (X1t.1 hm).1 (fun e=>hx (Y10 hm e)) hk]
theorem Xn7{l r:List Dy}(hl:∀ x ∈ l,dOk x=true)(hr:∀ x ∈ r,dOk x=true)(hn:canL r≠none) : canL l=canL r↔∃ k:Nat,k<8/\l=r.map (dTurn k):=by
 constructor
 ·intro e
  unfold canL at e hn
  cases h2:canK r with
  | none=>rw [h2] at hn;exact absurd rfl hn
  | some j=>
   cases h1:canK l with
   | none=>rw [h1,h2] at e;cases e
   | some i=>
    rw [h1,h2] at e
    simp only [Option.map_some,Option.some.injEq] at e
    have hi:i<8:=by unfold canK at h1;obtain ⟨x,_,rfl⟩:=Option.map_eq_some_iff.1 h1;exact X5m _
    have hj:j<8:=by unfold canK at h2;obtain ⟨x,_,rfl⟩:=Option.map_eq_some_iff.1 h2;exact X5m _
    refine ⟨((8-i) % 8+j) % 8,Nat.mod_lt _ O4,?_⟩
    have:=congrArg (List.map (dTurn ((8-i) % 8:Nat))) e
    rw [List.map_map,List.map_map] at this
    have hb:l.map (dTurn ((8-i) % 8:Nat) ∘ dTurn i)=l:=(List.map_congr_left (g:=id) (fun y hy=>Xaa (hl y hy) hi)).trans (List.map_id _)
    rw [hb] at this;rw [this]
    apply List.map_congr_left
    intro y hy;exact X6r (hr y hy) (Nat.mod_lt _ O4) hj
 ·rintro ⟨k,hk,rfl⟩;exact Xl9 hk hr
theorem Xhv{p q:Mx}(hp:∀ x ∈ p.cells,dOk x=true)(hq:∀ x ∈ q.cells,dOk x=true)(e1:p.rows=q.rows)(e2:p.cols=q.cols)(hn:canL q.cells≠none) : phaseS p q=true↔canL p.cells=canL q.cells:=by
 rw [Xn7 hp hq hn]
 unfold phaseS turnedS
 simp only [List.any_eq_true,W2,Qd,Qr]
 constructor
 ·rintro ⟨k,hk,_,h⟩;exact ⟨k,hk,h⟩
 ·rintro ⟨k,hk,h⟩;exact ⟨k,hk,⟨e1,e2⟩,h⟩
theorem Xqq{z:Rg}(h:(2:Rg)*z=0) : z=0:=by
 rw [<- Xyo] at h
 refine X2o 2 (h.trans ?_)
 decide
theorem Xq2:∀ (l:List Gt) (v:St),(∀ g ∈ l,TwoQ g/\1<=g.k/\g.k<=11)->(∀ β,run l v β=0)->∀ β,v β=0
 | [],v,_,h=>h
 | g::l,v,hg,h=>by
  have h1:=Xq2 l (act g v) (fun x hx=>hg x (Ql _ hx)) h
  intro β;obtain ⟨g1,g2⟩:=hg g (Qk ..);have h2:=Xrc g1 g2 v β
  have e:act g v=fun _=>0:=funext h1
  rw [e] at h2
  have h3:act (bkG g) (fun _=>0) β=0:=congrFun (Xgp [bkG g]) β
  rw [h3] at h2
  split at h2
  ·exact Xqq h2.symm
  ·rw [Xk] at h2;exact h2.symm
theorem Xla{l:List Dy}(h:canL l=none) : ∀ x ∈ l,x=dZ:=by
 unfold canL canK at h
 cases e:l.find? fun x=>decide (x≠dZ) with
 | some x=>rw [e] at h;cases h
 | none=>
  intro x hx
  have:=List.find?_eq_none.1 e x hx
  simpa using this
theorem Xvh{c:Cx}{N:Nat}{M:Mx}(hn:c.n=N)(h:opI c=some M)(hg:∀ g ∈ c.gs,g.k<=11) : canL M.cells≠none:=by
 intro e
 have hc:=X10 (c:=c) (by unfold opI at h;split at h;assumption;cases h)
 have hz:=Xla e
 have hat:∀ i j,M.at i j=dZ:=by
  intro i j
  unfold Mx.at
  rw [Qa]
  cases e2:M.cells[i*M.cols.toNat+j]? with
  | none=>rfl
  | some x=>exact hz x (Qe e2)
 obtain ⟨h1,_,_,_⟩:=Xax hn h
 have hN:N<=5:=by have:=hc.1;omega
 have hr:∀ β,run c.gs (fun _=>1) β=0:=by
  intro β
  obtain ⟨i,hi,_,h2⟩:=run_basis' hN (fun _=>1) β
  rw [h2 c.gs fun g hg'=>Xhs (by rw [<- hn];exact hc.2.2 g hg')]
  apply Xbc
  intro j hj;have h3:=h1 i j hi hj
  rw [hat] at h3
  rw [h3.fun (X53 _)]
  exact Xw _
 have h4:=Xq2 c.gs _ (fun g hg'=>by
  have:=Xes (hc.2.2 g hg');exact ⟨this.1,this.2.1,hg g hg'⟩) hr (fun _=>false)
 exact absurd h4 O4
def gsT(n:Nat) : List Gt:=if n=2 then [⟨1,0,0⟩,⟨1,1,0⟩,⟨5,0,0⟩,⟨5,1,0⟩,⟨7,0,0⟩,⟨7,1,0⟩,⟨9,0,1⟩,⟨9,1,0⟩] else [⟨1,0,0⟩,⟨5,0,0⟩,⟨7,0,0⟩]
theorem X6v{n:Nat}(hn:n=1∨n=2) : ∀ g ∈ gsT n,gOk n g=true/\g.k<=11:=by
 rcases hn with rfl|rfl<;>decide
theorem X9z{G:Type}(gs:List G)(k:Nat) : ∀ w,w ∈ wds gs k->∀ g ∈ w,g ∈ gs:=by
 induction k with
 | zero=>intro w h;simp [wds] at h;simp [h]
 | succ k ih=>
  intro w h
  simp only [wds,List.mem_flatMap,W6] at h
  obtain ⟨u,hu,g,hg,rfl⟩:=h;intro x hx
  rcases Qu.1 hx with hx|hx
  ·exact ih u hu x hx
  ·cases Qm.1 hx;exact hg
def valW(n:Nat)(w:List Gt) : Mx:=(opI ⟨n,w⟩).getD mZ
theorem X2m{n:Nat}(hn:n=1∨n=2){k:Nat}(hk:k<=8){w:List Gt}(hw:w ∈ wds (gsT n) k) : opI ⟨n,w⟩=some (valW n w):=by
 have hl:=X9y _ _ _ hw;have hm:=X9z _ _ _ hw
 have hc:cOk ⟨n,w⟩=true:=by
  simp only [cOk,Qd,X0b,Qr,Bool.not_eq_true',W7]
  refine ⟨⟨by omega,by omega⟩,fun g hg=>?_⟩
  have:=(X6v hn g (hm g hg)).1
  simp [this]
 obtain ⟨M,hM⟩:=X7j hc (by have:=Xfu w;simp only;omega)
 unfold valW;rw [hM];rfl
theorem Xa6(n:Int)(g:Gt) : ∀ (l:List Gt) (m:Mx),applI n (l++[g]) m=(applI n l m).bind fun x=>mulI ((gateI n g).getD mZ) x
 | [],m=>by simp [applI]
 | h::l,m=>by
  rw [Wa];unfold applI
  cases mulI ((gateI n h).getD mZ) m with
  | none=>rfl
  | some x=>exact Xa6 n g l x
theorem X3f{G:Type}{gs:List G}{k:Nat}{w:List G}{g:G}(hw:w ∈ wds gs k)(hg:g ∈ gs) : w++[g] ∈ wds gs (k+1):=by grind [wds]
theorem X7x(n:Nat)(hn:n=1∨n=2) : valW n []=unitS (2^n):=by
 have h:=X2m hn (k:=0) Z (w:=[]) (by simp [wds])
 unfold opI at h
 rw [Q4 (by rcases hn with rfl|rfl<;>decide)] at h
 have hi:=(X3d (d:=2^n) (X2j (n:=(n:Int)) Z)).1
 rw [show ((2^(n:Int).toNat:Nat) : Int)=((2^n:Nat) : Int) from O,hi] at h
 injection h with h;exact h.symm
theorem Xd7{n:Nat}(hn:n=1∨n=2){k:Nat}(hk:k<8){w:List Gt}(hw:w ∈ wds (gsT n) k){g:Gt}(hg:g ∈ gsT n) : mulI (gateS n g) (valW n w)=some (valW n (w++[g])):=by
 have h1:=X2m hn Z hw
 have h2:=X2m hn Z (X3f hw hg)
 have c1:cOk ⟨n,w⟩=true:=by unfold opI at h1;split at h1;assumption;cases h1
 have c2:cOk ⟨n,w++[g]⟩=true:=by unfold opI at h2;split at h2;assumption;cases h2
 unfold opI at h1 h2
 rw [Q4 c1] at h1;rw [Q4 c2] at h2
 obtain ⟨m,hm,h1⟩:=Option.bind_eq_some_iff.1 h1
 rw [hm,Qz,Xa6,h1,Qz,(X39 (X6v hn g hg).1).1] at h2
 exact h2
theorem X2l{n:Nat}(hn:n=1∨n=2){k:Nat}(hk:k<=8){w:List Gt}(hw:w ∈ wds (gsT n) k) : mOk (valW n w)=true/\(valW n w).rows=((2^n:Nat) : Int)/\(valW n w).cols=((2^n:Nat) : Int)/\canL (valW n w).cells≠none:=by
 have h1:=X2m hn hk hw;obtain ⟨_,h2,h3,h4⟩:=Xax (N:=n) O h1;exact ⟨h2,h3,h4,Xvh (N:=n) O h1 fun g hg=>(X6v hn g (X9z _ _ _ hw g hg)).2⟩
theorem X8o{n:Nat}(hn:n=1∨n=2){k:Nat}(hk:k<=8){w:List Gt}(hw:w ∈ wds (gsT n) k){M:Mx}(hM:mOk M=true)(hr:M.rows=((2^n:Nat) : Int))(hc:M.cols=((2^n:Nat) : Int))(hz:canL M.cells≠none) : phaseS (valW n w) M=true↔canL (valW n w).cells=canL M.cells:=by
 obtain ⟨h1,h2,h3,h4⟩:=X2l hn hk hw;exact Xhv (X25 h1) (X25 hM) (by rw [h2,hr]) (by rw [h3,hc]) hz
theorem Xgo(g:Gt) : ∀ (l:List Gt) (v:St),run (l++[g]) v=act g (run l v)
 | [],_=>rfl
 | h::l,v=>Xgo g l (act h v)
theorem Xjp(g:Gt) : ∀ (l:List Gt),hs (l++[g])=hs l+hN g
 | []=>by simp [hs]
 | h::l=>by rw [Wa];unfold hs;rw [Xjp g l];omega
theorem Xme{n:Nat}(hn:n=1∨n=2){i j:Nat}(hi:i<8)(hj:j<8){u v:List Gt}(hu:u ∈ wds (gsT n) i)(hv:v ∈ wds (gsT n) j){g:Gt}(hg:g ∈ gsT n)(e:canL (valW n u).cells=canL (valW n v).cells) : canL (valW n (u++[g])).cells=canL (valW n (v++[g])).cells:=by
 obtain ⟨b1,b2,b3,b4⟩:=X2l hn (Nat.le_of_lt hj) hv;obtain ⟨d1,d2,d3,d4⟩:=X2l hn hj (X3f hv hg)
 rw [<- X8o hn (Nat.le_of_lt hi) hu b1 b2 b3 b4,X3u (N:=n) O O (X2m hn (Nat.le_of_lt hi) hu) (X2m hn (Nat.le_of_lt hj) hv)] at e
 rw [<- X8o hn hi (X3f hu hg) d1 d2 d3 d4,X3u (N:=n) O O (X2m hn hi (X3f hu hg)) (X2m hn hj (X3f hv hg))]
 obtain ⟨k,hk,h⟩:=e
 refine ⟨k,hk,fun x β=>?_⟩
 simp only [Xgo,Xjp,X1p] at *
 have hf:(fun γ=>s2^hs v*run u x γ)=fun γ=>(om^k*s2^hs u)*run v x γ:=funext fun γ=>by rw [h x γ,Xe]
 have h2:=congrFun (congrArg (act g) hf) β
 rw [Xa5,Xa5] at h2
 simp only [] at h2
 rw [Xp (s2^hs v),Xp (s2^hs u),Xe,Xe,h2,Xe]
 rw [<- Xe (s2^hN g),Xp (s2^hN g) (om^k),Xe]
def kyW(n:Nat)(w:List Gt) : Option (List Dy):=canL (valW n w).cells
theorem X6u{α:Type}{P Q:α->Bool} : ∀ l:List α,(∀ x ∈ l,P x=Q x)->l.find? P=l.find? Q
 | [],_=>rfl
 | x::l,h=>by rw [List.find?_cons,List.find?_cons,h x (Qk ..),X6u l fun y hy=>h y (Ql _ hy)]
theorem Xck{G:Type}{gs:List G}{P Q:List G->Bool} : ∀ k,(∀ j w,j<=k->w ∈ wds gs j->P w=Q w)->lsW gs P k=lsW gs Q k
 | 0,h=>X6u _ fun w hw=>h 0 w (Qb _) hw
 | k+1,h=>by unfold lsW;rw [Xck k fun j w hj hw=>h j w Z hw,X6u _ fun w hw=>h (k+1) w (Qb _) hw]
theorem Xyb{n:Nat}(hn:n=1∨n=2){K:Type}(f:Option (List Dy)->K)(hf:∀ i j u v,i<=8->j<=8->u ∈ wds (gsT n) i->v ∈ wds (gsT n) j->f (kyW n u)=f (kyW n v)->kyW n u=kyW n v) :
  ∀ i j u v g,i<8->j<8->u ∈ wds (gsT n) i->v ∈ wds (gsT n) j->g ∈ gsT n->f (kyW n u)=f (kyW n v)->f (kyW n (u++[g]))=f (kyW n (v++[g])):=
 fun i j u v g hi hj hu hv hg e=>congrArg f (Xme hn hi hj hu hv hg (hf i j u v Z Z hu hv e))
theorem Xqg{n:Nat}(hn:n=1∨n=2){K:Type}[DecidableEq K](f:Option (List Dy)->K)(hf:∀ i j u v,i<=8->j<=8->u ∈ wds (gsT n) i->v ∈ wds (gsT n) j->f (kyW n u)=f (kyW n v)->kyW n u=kyW n v)
  {M:Mx} (hM:mOk M=true) (hr:M.rows=((2^n:Nat) : Int)) (hc:M.cols=((2^n:Nat) : Int)) (hz:canL M.cells≠none) (hfM:∀ i u,i<=8->u ∈ wds (gsT n) i->f (kyW n u)=f (canL M.cells)->kyW n u=canL M.cells) {k:Nat} (hk:k<=8) :
  (grT (gsT n) (fun w=>f (kyW n w)) k).1 (f (canL M.cells))=lsW (gsT n) (fun w=>phaseS (valW n w) M) k:=by
 rw [(Xox (gsT n) (fun w=>f (kyW n w)) 8 (Xyb hn f hf) k hk).1]
 apply Xck
 intro j w hj hw
 rw [Bool.eq_iff_iff,Qr,X8o hn Z hw hM hr hc hz]
 exact ⟨fun e=>hfM j w Z hw e,fun e=>congrArg f e⟩
def fdS(n:Nat)(M:Mx) : Nat->Mx->Option (List Gt)
 | 0,x=>if phaseS x M=true then some [] else none
 | k+1,x=>(gsT n).findSome? fun g=>(fdS n M k (timesS false (gateS n g) x).2).map (g :: ·)
theorem Xd1{n:Nat}(hn:n=1∨n=2){k:Nat}(hk:k<8){w:List Gt}(hw:w ∈ wds (gsT n) k){g:Gt}(hg:g ∈ gsT n) : timesS false (gateS n g) (valW n w)=(false,valW n (w++[g])):=by
 obtain ⟨h1,h2,h3,_⟩:=X2l hn (Nat.le_of_lt hk) hw;have h4:=Xd7 hn hk hw hg;exact ((X4g (X39 (X6v hn g hg).1).2 h1 (by rw [h2];rfl)).1 _ h4).1
theorem Xo7{n:Nat}(hn:n=1∨n=2)(M:Mx) : ∀ (k j:Nat) (w:List Gt),j+k<=8->w ∈ wds (gsT n) j->skW (gsT n) (fun w=>phaseS (valW n w) M) k w=(fdS n M k (valW n w)).map (w ++ ·)
 | 0,j,w,_,hw=>by
  unfold skW fdS
  split<;>simp
 | k+1,j,w,hk,hw=>by
  unfold skW fdS
  have:∀ l:List Gt,(∀ g ∈ l,g ∈ gsT n)->l.findSome? (fun g=>skW (gsT n) (fun w=>phaseS (valW n w) M) k (w++[g]))=(l.findSome? fun g=>(fdS n M k (timesS false (gateS n g) (valW n w)).2).map (g :: ·)).map (w ++ ·):=by
   intro l
   induction l with
   | nil=>intro _;rfl
   | cons g l ih=>
    intro hl;have hg:=hl g (Qk ..)
    rw [List.findSome?_cons,List.findSome?_cons,ih fun x hx=>hl x (Ql _ hx),Xo7 hn M k (j+1) (w++[g]) Z (X3f hw hg),Xd1 hn Z hw hg]
    cases fdS n M k (valW n (w++[g])) with
    | none=>rfl
    | some x=>simp
  exact this _ fun _ h=>h
theorem Xah{n:Nat}(hn:n=1∨n=2)(M:Mx){k:Nat}(hk:k<=8) : fdS n M k (unitS (2^n))=(wds (gsT n) k).find? fun w=>phaseS (valW n w) M:=by
 have h:=Xo7 hn M k 0 [] Z (by simp [wds])
 rw [X7x n hn] at h
 rw [<- Xqa,h]
 cases fdS n M k (unitS (2^n))<;>simp
end Go.Proofs.YtfkokcbjcndjpaaGreatDoor
namespace Go.Proofs.YtfkokcbjcndjpaaGreatDoor
open Go
theorem X83{s:UInt8} : ∀ {u v r t:List UInt8},s ∉ u->s ∉ v->u++s::r=v++s::t->u=v/\r=t
 | [],[],r,t,_,_,e=>by simpa using e
 | [],b::v,r,t,_,hv,e=>by
  simp only [List.nil_append,Wa,List.cons.injEq] at e
  exact absurd (by rw [e.1];exact Qk ..) hv
 | a::u,[],r,t,hu,_,e=>by
  simp only [List.nil_append,Wa,List.cons.injEq] at e
  exact absurd (by rw [<- e.1];exact Qk ..) hu
 | a::u,b::v,r,t,hu,hv,e=>by
  simp only [Wa,List.cons.injEq] at e
  obtain ⟨h1,h2⟩:=X83 (fun h=>hu (Ql _ h)) (fun h=>hv (Ql _ h)) e.2
  exact ⟨by rw [e.1,h1],h2⟩
theorem X4f(s:List UInt8)(x y:List UInt8)(l:List (List UInt8)) : s.intercalate (x::y::l)=x++(s++s.intercalate (y::l)):=by
 simp [List.intercalate,List.intersperse]
theorem Xe6(s:List UInt8)(x:List UInt8) : s.intercalate [x]=x:=by
 simp [List.intercalate,List.intersperse]
theorem Xjq{s:UInt8} : ∀ (l r:List (List UInt8)),l.length=r.length->(∀ x ∈ l,s ∉ x)->(∀ x ∈ r,s ∉ x)->[s].intercalate l=[s].intercalate r->l=r
 | [],[],_,_,_,_=>rfl
 | [],_::_,h,_,_,_=>by cases h
 | _::_,[],h,_,_,_=>by cases h
 | [x],[y],_,_,_,e=>by rw [Xe6,Xe6] at e;rw [e]
 | [x],y::z::r,h,_,_,_=>by simp at h
 | x::z::l,[y],h,_,_,_=>by simp at h
 | x::z::l,y::w::r,h,hl,hr,e=>by
  rw [X4f,X4f] at e
  obtain ⟨h1,h2⟩:=X83 (hl x (Qk ..)) (hr y (Qk ..)) e
  rw [h1,Xjq (z::l) (w::r) (by simpa using h) (fun x hx=>hl x (Ql _ hx)) (fun x hx=>hr x (Ql _ hx)) h2]
def dgV(l:List UInt8) : Nat:=l.foldl (fun a b=>10*a+(b.toNat-48)) 0
theorem X5u{i:Nat}(h:i<10) : (UInt8.ofNat (48+i)).toNat=48+i:=by
 rw [UInt8.toNat_ofNat'];exact Nat.mod_eq_of_lt Z
theorem X9c:∀ u:Nat,dgV (Lib.decDigits u)=u:=fun u=>by
 induction u using Nat.strongRecOn with
 | _ u ih=>
  rw [Lib.decDigits]
  by_cases h:u<10
  ·rw [dif_pos h];simp only [dgV,List.foldl_cons,List.foldl_nil,X5u h];omega
  ·rw [dif_neg h]
   have:=ih (u/10) Z
   unfold dgV at this ⊢
   rw [List.foldl_append,this]
   simp only [List.foldl_cons,List.foldl_nil,X5u (Nat.mod_lt u (by decide:0<10))]
   omega
theorem Xdf:∀ u:Nat,∀ b ∈ Lib.decDigits u,48<=b.toNat/\b.toNat<=57:=fun u=>by
 induction u using Nat.strongRecOn with
 | _ u ih=>
  intro b hb
  rw [Lib.decDigits] at hb
  by_cases h:u<10
  ·rw [dif_pos h] at hb;cases Qm.1 hb;rw [X5u h];omega
  ·rw [dif_neg h] at hb
   rcases Qu.1 hb with hb|hb
   ·exact ih (u/10) Z b hb
   ·cases Qm.1 hb;have:=Nat.mod_lt u (by decide:0<10);rw [X5u this];omega
theorem Xp5(n:Int) : ∀ b ∈ Lib.itoa n,b.toNat=45∨(48<=b.toNat/\b.toNat<=57):=by
 intro b hb
 unfold Lib.itoa at hb
 split at hb
 ·rcases Qv.1 hb with rfl|hb
  ·exact .inl O
  ·exact .inr (Xdf _ b hb)
 ·exact .inr (Xdf _ b hb)
theorem X59{n m:Int}(e:Lib.itoa n=Lib.itoa m) : n=m:=by
 have hne:∀ (u v:Nat),45::Lib.decDigits u≠Lib.decDigits v:=fun u v e=>by
  have:=Xdf v 45 (by rw [<- e];exact Qk ..)
  exact absurd this O4
 unfold Lib.itoa at e
 split at e<;>split at e
 ·injection e with _ e
  have:=congrArg dgV e
  rw [X9c,X9c] at this;omega
 ·exact absurd e (hne _ _)
 ·exact absurd e.symm (hne _ _)
 ·have:=congrArg dgV e
  rw [X9c,X9c] at this;omega
def txR(z:Rg) : List UInt8:=Lib.join [Lib.itoa z.a,Lib.itoa z.b,Lib.itoa z.c,Lib.itoa z.d] [32]
def txD(x:Dy) : List UInt8:=txR x.num++[47]++Lib.itoa x.exp
def txK(l:List Dy) : List UInt8:=Lib.join (l.map txD) [44]
theorem Xe8(n:Int)(s:UInt8)(h:s.toNat=32∨s.toNat=47∨s.toNat=44) : s ∉ Lib.itoa n:=fun hm=>by
 have:=Xp5 n s hm;omega
theorem Xet(z:Rg) : txR z=Lib.itoa z.a++32::(Lib.itoa z.b++32::(Lib.itoa z.c++32::Lib.itoa z.d)):=by
 unfold txR Lib.join
 rw [X4f,X4f,X4f,Xe6];rfl
theorem Xia(z:Rg)(s:UInt8)(h:s.toNat=47∨s.toNat=44) : s ∉ txR z:=fun hm=>by
 have hs:s≠32:=fun e=>by subst e;revert h;decide
 have hi:=fun n=>Xe8 n s (.inr h)
 rw [Xet] at hm
 simp only [Qu,Qv] at hm
 rcases hm with hm|hm|hm|hm|hm|hm|hm
 ·exact hi _ hm
 ·exact hs hm
 ·exact hi _ hm
 ·exact hs hm
 ·exact hi _ hm
 ·exact hs hm
 ·exact hi _ hm
theorem Xqr(x:Dy) : (44:UInt8) ∉ txD x:=fun hm=>by
 unfold txD at hm
 simp only [Qu,Qv,List.not_mem_nil,or_false] at hm
 rcases hm with (hm|hm)|hm
 ·exact Xia x.num 44 (.inr O) hm
 ·exact absurd hm O4
 ·exact Xe8 _ 44 (.inr (.inr O)) hm
theorem Xuc{z w:Rg}(e:txR z=txR w) : z=w:=by
 rw [Xet,Xet] at e
 have hi:=fun n=>Xe8 n 32 (.inl O)
 obtain ⟨h1,e⟩:=X83 (hi _) (hi _) e;obtain ⟨h2,e⟩:=X83 (hi _) (hi _) e;obtain ⟨h3,h4⟩:=X83 (hi _) (hi _) e;obtain ⟨a,b,c,d⟩:=z;obtain ⟨a',b',c',d'⟩:=w
 simp only at h1 h2 h3 h4
 rw [X59 h1,X59 h2,X59 h3,X59 h4]
theorem Xu9{x y:Dy}(e:txD x=txD y) : x=y:=by
 unfold txD at e
 rw [Qx,Qx] at e
 obtain ⟨h1,h2⟩:=X83 (Xia x.num 47 (.inl O)) (Xia y.num 47 (.inl O)) e;obtain ⟨z,m⟩:=x;obtain ⟨w,n⟩:=y
 simp only at h1 h2
 rw [Xuc h1,X59 h2]
theorem Xub{l r:List Dy}(h:l.length=r.length)(e:txK l=txK r) : l=r:=by
 unfold txK Lib.join at e
 have:=Xjq (l.map txD) (r.map txD) (by simpa using h) (fun x hx=>by obtain ⟨y,_,rfl⟩:=W6.1 hx;exact Xqr y) (fun x hx=>by obtain ⟨y,_,rfl⟩:=W6.1 hx;exact Xqr y) e
 clear e
 induction l generalizing r with
 | nil=>cases r with
  | nil=>rfl
  | cons y r=>cases h
 | cons x l ih=>cases r with
  | nil=>cases h
  | cons y r=>
   simp only [List.map_cons,List.cons.injEq] at this
   rw [Xu9 this.1,ih (by simpa using h) this.2]
end Go.Proofs.YtfkokcbjcndjpaaGreatDoor
namespace Go.Proofs.YtfkokcbjcndjpaaGreatDoor
open Go.RowKit
def entS(p:ByteArray×Value×Nat) : MapEntry:={ key:=.string p.1,val:=p.2.1,born:=p.2.2 }
def findS(l:List (ByteArray×Value×Nat))(s:ByteArray) : Option Value:=(l.find? fun p=>decide (p.1=s)).map fun p=>p.2.1
def MapS(w:World)(b:Nat)(f:ByteArray->Option Value) : Prop:=∃ l clock,w.heap[b]? = some (.map (l.map entS).toArray clock)/\∀ s,findS l s=f s
def updS(f:ByteArray->Option Value)(s:ByteArray)(v:Value) : ByteArray->Option Value:=fun x=>if x=s then some v else f x
theorem Y0w(x y:ByteArray) : (x==y)=decide (x=y):=by
 rw [Bool.eq_iff_iff,Qr];simp [MapKept.bytes_beq]
theorem Xam{s:ByteArray} : ∀ (l:List (ByteArray×Value×Nat)) (i:Nat),(findS l s=none/\Instr.findNow .string (.string s) (l.map entS) i=some none)∨∃ v j,findS l s=some v/\Instr.findNow .string (.string s) (l.map entS) i=some (some (j,v))
 | [],_=>.inl ⟨rfl,rfl⟩
 | p::l,i=>by
  by_cases hx:p.1=s
  ·have h2:(s==p.1)=true:=by rw [Y0w];exact decide_eq_true hx.symm
   have h3:decide (p.1=s)=true:=decide_eq_true hx
   exact .inr ⟨p.2.1,i,by simp [findS,List.find?_cons,h3],by simp only [List.map_cons,Instr.findNow,entS,Instr.sameNow,h2]⟩
  ·have h2:(s==p.1)=false:=by rw [Y0w];exact decide_eq_false fun e=>hx (Eq.symm e)
   have h3:decide (p.1=s)=false:=decide_eq_false hx
   have hs:Instr.findNow .string (.string s) ((p::l).map entS) i=Instr.findNow .string (.string s) (l.map entS) (i+1):=by
    simp only [List.map_cons,Instr.findNow,entS,Instr.sameNow,h2]
   have hf:findS (p::l) s=findS l s:=by simp [findS,List.find?_cons,h3]
   rw [hs,hf]
   exact Xam l (i+1)
section
variable {w w' : World} {b b' : Nat} {f : ByteArray -> Option Value}
theorem MapS.lt(h:MapS w b f) : b<w.heap.size:=by grind [MapS]
theorem MapS.keep(h:MapS w b f)(e:w'.heap[b]? = w.heap[b]?) : MapS w' b f:=let ⟨l,c,h,g⟩:=h;⟨l,c,e.trans h,g⟩
theorem MapS.bw(h:MapS w b f)(hb:Below w.heap.size w w') : MapS w' b f:=h.keep (hb.block b h.lt)
theorem MapS.oy(h:MapS w b f)(ho:Only b' w w')(hne:b≠b') : MapS w' b f:=h.keep (ho.block b hne)
theorem MapS.nc(h:MapS w b f) : NC w b:=by grind [MapS,NC]
theorem MapS.ne{T:TypeId}{l:List Value}(h:MapS w b f)(h':Blk w b' T l) : b≠b':=by grind [Blk,MapS]
theorem MapS.app{α:Type}{B:Nat}{E:TypeId}{enc:α->List Value}{A:Option Addr}{l:List α}{sz n c c':Nat}(h:MapS w b f)(ho:Own w B E sz enc A c l)(hg:w.grownBy w' (Value.slice A n c').ownBlock) : MapS w' b f:=h.keep (h.nc.app h.lt ho hg)
end
section
variable {P : Program} {a : Act} {w : World} {n : Nat} {e : Env} {ty : TypeId} {pos : String} {af : Array Edge} {g : Option (Nat × Bool)} {d : Option Tmp} {b : Nat} {f : ByteArray -> Option Value} {T K E : TypeId}
theorem Xo1{m x:Operand}{s:ByteArray}{z:Value}(hf:Fr a n e)(hm:ev e m=some (.map (some b)))(hx:ev e x=some (.string s))(hT:P.underlying T=some (.map K E))(hK:P.underlying K=some .string)(hz:∀ w,(zeroValue E).run P w=.ok z w)(h:MapS w b f) :
  Ev P ⟨d,.lookup T m x true,ty,pos,af,g⟩ a w (.tuple #[(f s).getD z,.bool (f s).isSome]):=fun w' hw=>by
 obtain ⟨l,clock,hL,hl⟩:=h.bw hw
 have hck:∀ em,(Instr.checkKey em 10000 K (.string s)).run P w'=.ok () w':=fun em=>MapKept.run_checkKey hK (show MapKept.IsKey .string (.string s) from trivial) em 9999
 rcases Xam (s:=s) l 0 with ⟨h1,h2⟩|⟨v,j,h1,h2⟩
 ·rw [<- hl s,h1]
  simp [execOp,Instr.lookup,hf.ev hm,hf.ev hx,X0t hT,getObj,Sem.run,hL,hck,Instr.findKey,X0t hK,h2,hz]
 ·rw [<- hl s,h1]
  simp [execOp,Instr.lookup,hf.ev hm,hf.ev hx,X0t hT,getObj,Sem.run,hL,hck,Instr.findKey,X0t hK,h2]
theorem Xit{m x y:Operand}{s:ByteArray}{v:Value}(hf:Fr a n e)(hm:ev e m=some (.map (some b)))(hx:ev e x=some (.string s))(hy:ev e y=some v)(hT:P.underlying T=some (.map K E))(hK:P.underlying K=some .string)(h:MapS w b f)(hnew:f s=none) :
  Ef P ⟨d,.mapUpdate T m x y,ty,pos,af,g⟩ a w (fun _ w'=>Only b w w'/\MapS w' b (updS f s v)):=by
 have hlt:=h.lt;obtain ⟨l,clock,hL,hl⟩:=h
 have hck:∀ em,(Instr.checkKey em 10000 K (.string s)).run P w=.ok () w:=fun em=>MapKept.run_checkKey hK (show MapKept.IsKey .string (.string s) from trivial) em 9999
 rcases Xam (s:=s) l 0 with ⟨h1,h2⟩|⟨u,j,h1,h2⟩
 ·refine (Ef.of_skip (w':={ w with heap:=w.heap.setIfInBounds b (.map ((l++[(s,v,clock)]).map entS).toArray (clock+1)) }) ?_).mono fun _ w' ⟨_,e2⟩=>?_
  ·simp [execOp,Instr.mapUpdate,hf.ev hm,hf.ev hx,hf.ev hy,X0t hT,getObj,hL,hck,Instr.findKey,X0t hK,h2,setObj,Sem.run,entS]
  ·subst e2
   refine ⟨Xpi,l++[(s,v,clock)],clock+1,?_,fun x=>?_⟩
   ·show (w.heap.setIfInBounds b _)[b]? = _
    simp [hlt]
   ·have hx0:=hl x
    unfold findS updS at *
    by_cases e:x=s
    ·subst e;rw [List.find?_append,Option.map_or,hx0,hnew];simp
    ·have e2:¬ s=x:=fun h=>e h.symm
     rw [List.find?_append,Option.map_or,hx0,Q3 e];simp [e2]
 ·rw [hl s,hnew] at h1;cases h1
theorem Xrn{m x y:Operand}{s:ByteArray}{v:Value}(hf:Fr a n e)(hm:ev e m=some (.map (some b)))(hx:ev e x=some (.string s))(hy:ev e y=some v)(hT:P.underlying T=some (.map K E))(hK:P.underlying K=some .string)(h:MapS w b f)(hnew:f s=none) :
  Ef P ⟨d,.insert T m x y,ty,pos,af,g⟩ a w (fun _ w'=>Only b w w'/\MapS w' b (updS f s v)):=Xit (ty:=ty) (pos:=pos) (af:=af) (g:=g) (d:=d) hf hm hx hy hT hK h hnew
theorem Xnm:Ef P ⟨d,.makeMap T none,ty,pos,af,g⟩ a w (fun v w'=>∃ b,v=.map (some b)/\w.heap.size<=b/\Below w.heap.size w w'/\MapS w' b (fun _=>none)):=
 Xaf.mono fun _ _ ⟨b,h1,h2,h3,h4⟩=>⟨b,h1,h2,h3,[],0,h4,fun _=>rfl⟩
theorem Y0p{m x y:Operand}{s:ByteArray}{v:Value}(hm:ev e m=some (.map (some b)))(hx:ev e x=some (.string s))(hy:ev e y=some v)(hT:P.underlying T=some (.map K E))(hK:P.underlying K=some .string)(h:MapS w b f)(hnew:f s=none) : EfW P ⟨d,.mapUpdate T m x y,ty,pos,af,g⟩ n e w (fun _ w'=>Only b w w'/\MapS w' b (updS f s v)):=fun _ hf=>Xit hf hm hx hy hT hK h hnew
theorem Y0o{m x y:Operand}{s:ByteArray}{v:Value}(hm:ev e m=some (.map (some b)))(hx:ev e x=some (.string s))(hy:ev e y=some v)(hT:P.underlying T=some (.map K E))(hK:P.underlying K=some .string)(h:MapS w b f)(hnew:f s=none) : EfW P ⟨d,.insert T m x y,ty,pos,af,g⟩ n e w (fun _ w'=>Only b w w'/\MapS w' b (updS f s v)):=fun _ hf=>Xrn hf hm hx hy hT hK h hnew
theorem Xw0:EfW P ⟨d,.makeMap T none,ty,pos,af,g⟩ n e w (fun v w'=>∃ b,v=.map (some b)/\w.heap.size<=b/\Below w.heap.size w w'/\MapS w' b (fun _=>none)):=fun _ _=>Xnm
end
theorem Xa8{l r:List Dy}(h:canL l=some r) : r.length=l.length:=by
 unfold canL at h
 obtain ⟨k,_,rfl⟩:=Option.map_eq_some_iff.1 h;exact Qo ..
def kyT(o:Option (List Dy)) : ByteArray:=⟨(txK (o.getD [])).toArray⟩
theorem Xju{l r:List Dy}(hl:canL l≠none)(hr:canL r≠none)(hn:l.length=r.length)(e:kyT (canL l)=kyT (canL r)) : canL l=canL r:=by
 cases h1:canL l with
 | none=>exact absurd h1 hl
 | some x=>
  cases h2:canL r with
  | none=>exact absurd h2 hr
  | some y=>
   rw [h1,h2] at e
   unfold kyT at e
   injection e with e
   simp only [Qq,Array.mk.injEq,List.toArray_inj] at e
   rw [Xub (by rw [Xa8 h1,Xa8 h2,hn]) e]
theorem Xi3{n:Nat}(hn:n=1∨n=2){M:Mx}(hM:mOk M=true)(hr:M.rows=((2^n:Nat) : Int))(hc:M.cols=((2^n:Nat) : Int)) : M.cells.length=2^n*2^n:=by
 unfold mOk at hM
 simp only [Qd,beq_iff_eq] at hM
 have:=hM.1.2
 rw [hr,hc] at this
 rcases hn with rfl|rfl
 ·rw [show wr (((2^1:Nat) : Int)*((2^1:Nat) : Int))=4 from by decide] at this;omega
 ·rw [show wr (((2^2:Nat) : Int)*((2^2:Nat) : Int))=16 from by decide] at this;omega
theorem X5o{n:Nat}(hn:n=1∨n=2){k:Nat}(hk:k<=8){w:List Gt}(hw:w ∈ wds (gsT n) k) : (valW n w).cells.length=2^n*2^n:=by
 obtain ⟨h1,h2,h3,_⟩:=X2l hn hk hw;exact Xi3 hn h1 h2 h3
def tbW(n k:Nat) : (ByteArray->Option (List Gt))×List (List Gt):=grT (gsT n) (fun w=>kyT (kyW n w)) k
theorem Xlt{n:Nat}(hn:n=1∨n=2) : ∀ i j u v,i<=8->j<=8->u ∈ wds (gsT n) i->v ∈ wds (gsT n) j->kyT (kyW n u)=kyT (kyW n v)->kyW n u=kyW n v:=
 fun _ _ _ _ hi hj hu hv e=>Xju (X2l hn hi hu).2.2.2 (X2l hn hj hv).2.2.2 (by rw [X5o hn hi hu,X5o hn hj hv]) e
theorem Xqi{n:Nat}(hn:n=1∨n=2){M:Mx}(hM:mOk M=true)(hr:M.rows=((2^n:Nat) : Int))(hc:M.cols=((2^n:Nat) : Int))(hz:canL M.cells≠none){k:Nat}(hk:k<=8) :
  (tbW n k).1 (kyT (canL M.cells))=lsW (gsT n) (fun w=>phaseS (valW n w) M) k:=
 Xqg hn kyT (Xlt hn) hM hr hc hz (fun _ _ hi hu e=>Xju (X2l hn hi hu).2.2.2 hz (by rw [X5o hn hi hu,Xi3 hn hM hr hc]) e) hk
theorem Xu5{n:Nat}(k:Nat) : ∀ w,w ∈ (tbW n k).2->w ∈ wds (gsT n) k:=fun w h=>Xjn (gsT n) (fun w=>kyT (kyW n w)) k w h
theorem X9e{G K:Type}[DecidableEq K](ky:List G->K) : ∀ (l m:List (List G)) (T:K->Option (List G)),enT ky T (l++m)=((enT ky (enT ky T l).1 m).1,(enT ky T l).2++(enT ky (enT ky T l).1 m).2)
 | [],m,T=>by simp [enT]
 | w::l,m,T=>by
  rw [Wa]
  simp only [enT]
  cases T (ky w) with
  | some x=>exact X9e ky l m T
  | none=>simp only [X9e ky l m,Wa]
theorem Xlg{G K:Type}[DecidableEq K]{ky:List G->K}{T:K->Option (List G)}{w:List G}(h:(T (ky w)).isSome=true) : enT ky T [w]=(T,[]):=by grind [enT]
theorem Xro{G K:Type}[DecidableEq K]{ky:List G->K}{T:K->Option (List G)}{w:List G}(h:T (ky w)=none) : enT ky T [w]=((fun q=>if q=ky w then some w else T q),[w]):=by grind [enT]
def rndW{G:Type}(gs:List G)(lev:List (List G))(i j:Nat) : List (List G):=((lev.take i).flatMap fun u=>gs.map fun g=>u++[g])++((gs.take j).map fun g=>(lev.getD i [])++[g])
theorem Xm4{G:Type}(gs:List G)(lev:List (List G)) : rndW gs lev 0 0=[]:=by simp [rndW]
theorem Xcv{G:Type}{gs:List G}{lev:List (List G)}{i j:Nat}{g:G}(hg:gs[j]? = some g) : rndW gs lev i (j+1)=rndW gs lev i j++[(lev.getD i [])++[g]]:=by
 unfold rndW
 rw [Qx,Qt,hg]
 simp
theorem Xm3{G:Type}{gs:List G}{lev:List (List G)}{i:Nat}(hi:i<lev.length) : rndW gs lev (i+1) 0=rndW gs lev i gs.length:=by
 have e:lev.getD i []=lev[i]:=by rw [Qa,Qc hi];rfl
 unfold rndW
 rw [Qt,Qc hi,e]
 simp only [List.flatMap_append,Option.toList_some,Wc,List.flatMap_nil,List.append_nil,List.take_zero,List.map_nil,List.take_length]
theorem Xgf{G:Type}(gs:List G)(lev:List (List G)) : rndW gs lev lev.length 0=lev.flatMap fun u=>gs.map fun g=>u++[g]:=by simp [rndW]
structure Tw where (A:Option Addr) (c:Nat) (w:List Gt) (m:Mx) (B:Option Addr) (d:Nat)
def encTw(t:Tw) : List Value:=[.slice t.A t.w.length t.c,.int .i64 t.m.rows,.int .i64 t.m.cols,.slice t.B t.m.cells.length t.d]
theorem X85:∀ x,(encTw x).length=4:=fun _=>rfl
theorem Xlh:∀ x,(encTw x).all one=true:=fun _=>rfl
def DeepT(w:World)(B:Nat)(E F:TypeId)(l:List Tw) : Prop:=∀ t ∈ l,Rd w B E encG t.A t.w/\Rd w B F encD t.B t.m.cells
structure Sq where (A:Option Addr) (c:Nat) (w:List Gt)
abbrev Sq.v(s:Sq) : Value:=.slice s.A s.w.length s.c
def DeepM(w:World)(B:Nat)(E:TypeId)(f:ByteArray->Option Sq) : Prop:=∀ s x,f s=some x->Rd w B E encG x.A x.w
def sgF(f:ByteArray->Option Sq) : ByteArray->Option Value:=fun s=>(f s).map Sq.v
def sgL(f:ByteArray->Option Sq) : ByteArray->Option (List Gt):=fun s=>(f s).map Sq.w
def updG(f:ByteArray->Option Sq)(s:ByteArray)(x:Sq) : ByteArray->Option Sq:=fun q=>if q=s then some x else f q
theorem Xki(f:ByteArray->Option Sq)(s:ByteArray)(x:Sq) : updS (sgF f) s x.v=sgF (updG f s x):=funext fun q=>by
 unfold updS sgF updG;split<;>rfl
theorem Xkj(f:ByteArray->Option Sq)(s:ByteArray)(x:Sq) : sgL (updG f s x)=fun q=>if q=s then some x.w else sgL f q:=funext fun q=>by
 unfold sgL updG;split<;>rfl
section
variable {w w' : World} {B : Nat} {E F : TypeId} {l : List Tw} {f : ByteArray -> Option Sq}
theorem DeepT.nil(w:World)(B:Nat)(E F:TypeId) : DeepT w B E F []:=fun s hs=>by simp at hs
theorem DeepT.snoc{x:Tw}(h:DeepT w B E F l)(h1:Rd w B E encG x.A x.w)(h2:Rd w B F encD x.B x.m.cells) : DeepT w B E F (l++[x]):=by grind [DeepT,Rd,encD,encG]
theorem DeepT.bw(h:DeepT w B E F l)(hb:Below w.heap.size w w') : DeepT w' B E F l:=fun s hs=>⟨(h s hs).1.bw hb,(h s hs).2.bw hb⟩
theorem DeepT.top(h:DeepT w B E F l) : DeepT w w.heap.size E F l:=fun s hs=>⟨(h s hs).1.top,(h s hs).2.top⟩
theorem DeepT.oy{b:Nat}(h:DeepT w B E F l)(ho:Only b w w')(hB:B<=b) : DeepT w' B E F l:=fun s hs=>⟨(h s hs).1.oy ho hB,(h s hs).2.oy ho hB⟩
theorem DeepT.onlyN{b:Nat}(h:DeepT w B E F l)(ho:Only b w w')(hm:NC w b) : DeepT w' B E F l:=fun s hs=>⟨(h s hs).1.onlyN ho hm,(h s hs).2.onlyN ho hm⟩
theorem DeepT.oT{b:Nat}{T:TypeId}{lc:List Value}(h:DeepT w B E F l)(ho:Only b w w')(hb:Blk w b T lc)(hT:Nat.beq E T=false)(hT':Nat.beq F T=false) : DeepT w' B E F l:=fun s hs=>⟨(h s hs).1.oT ho hb hT,(h s hs).2.oT ho hb hT'⟩
theorem DeepT.appT{B0:Nat}{E':TypeId}{sz:Nat}{α:Type}{enc:α->List Value}{A:Option Addr}{c:Nat}{m:List α}(h:DeepT w B E F l)(ho:Own w B0 E' sz enc A c m)(hg:w.grownBy w' (Value.slice A m.length c).ownBlock)(hT:Nat.beq E' E=false)(hT':Nat.beq E' F=false) : DeepT w' B E F l:=fun s hs=>⟨(h s hs).1.appT ho hg hT,(h s hs).2.appT ho hg hT'⟩
theorem DeepT.one{x:Tw}(h1:Rd w B E encG x.A x.w)(h2:Rd w B F encD x.B x.m.cells) : DeepT w B E F [x]:=DeepT.snoc (DeepT.nil w B E F) h1 h2
theorem DeepM.bw(h:DeepM w B E f)(hb:Below w.heap.size w w') : DeepM w' B E f:=fun s x hs=>(h s x hs).bw hb
theorem DeepM.top(h:DeepM w B E f) : DeepM w w.heap.size E f:=fun s x hs=>(h s x hs).top
theorem DeepM.oy{b:Nat}(h:DeepM w B E f)(ho:Only b w w')(hB:B<=b) : DeepM w' B E f:=fun s x hs=>(h s x hs).oy ho hB
theorem DeepM.onlyN{b:Nat}(h:DeepM w B E f)(ho:Only b w w')(hm:NC w b) : DeepM w' B E f:=fun s x hs=>(h s x hs).onlyN ho hm
theorem DeepM.oT{b:Nat}{T:TypeId}{lc:List Value}(h:DeepM w B E f)(ho:Only b w w')(hb:Blk w b T lc)(hT:Nat.beq E T=false) : DeepM w' B E f:=fun s x hs=>(h s x hs).oT ho hb hT
theorem DeepM.appT{B0:Nat}{E':TypeId}{sz:Nat}{α:Type}{enc:α->List Value}{A:Option Addr}{c:Nat}{m:List α}(h:DeepM w B E f)(ho:Own w B0 E' sz enc A c m)(hg:w.grownBy w' (Value.slice A m.length c).ownBlock)(hT:Nat.beq E' E=false) : DeepM w' B E f:=fun s x hs=>(h s x hs).appT ho hg hT
theorem DeepM.none(w:World)(B:Nat)(E:TypeId) : DeepM w B E (fun _=>Option.none):=fun _ _ h=>by cases h
theorem Xeb(h:DeepM w B E f)(s:ByteArray) : ∃ A c,((sgF f) s).getD (.slice Option.none 0 0)=.slice A (((sgL f) s).getD []).length c/\((sgF f) s).isSome=((sgL f) s).isSome/\Rd w B E encG A (((sgL f) s).getD []):=by
 unfold sgF sgL
 cases e:f s with
 | none=>exact ⟨Option.none,0,rfl,rfl,Rd.nil _ _ _ _ _⟩
 | some x=>exact ⟨x.A,x.c,rfl,rfl,h s x e⟩
theorem Xq8{f:ByteArray->Option Sq}{s:ByteArray}(h:sgL f s=Option.none) : sgF f s=Option.none:=by simp_all [sgF,sgL]
theorem DeepM.upd{s:ByteArray}{x:Sq}(h:DeepM w B E f)(hx:Rd w B E encG x.A x.w) : DeepM w B E (updG f s x):=by grind [DeepM,Rd,encG,updG]
end
end Go.Proofs.YtfkokcbjcndjpaaGreatDoor
namespace Go.Proofs.YtfkokcbjcndjpaaGreatDoor
theorem X9l{G:Type}{gs:List G}{P:List G->Bool}{w:List G} : ∀ {k},lsW gs P k=some w->∃ j,j<=k/\w ∈ wds gs j/\P w=true
 | 0,h=>⟨0,Qb _,List.mem_of_find?_eq_some h,List.find?_some h⟩
 | k+1,h=>by
  unfold lsW at h
  cases e:lsW gs P k with
  | some x=>
   rw [e] at h
   obtain rfl:x=w:=by simpa using h
   obtain ⟨j,hj,h1⟩:=X9l e;exact ⟨j,by omega,h1⟩
  | none=>
   rw [e,Option.none_or] at h
   exact ⟨k+1,Qb _,List.mem_of_find?_eq_some h,List.find?_some h⟩
def srS(n:Nat)(M:Mx) : Nat->Option (List Gt)
 | 0=>fdS n M 0 (unitS (2^n))
 | k+1=>(srS n M k).or (fdS n M (k+1) (unitS (2^n)))
theorem Xqc{n:Nat}(hn:n=1∨n=2)(M:Mx) : ∀ k,k<=8->srS n M k=lsW (gsT n) (fun w=>phaseS (valW n w) M) k
 | 0,h=>Xah hn M h
 | k+1,h=>by unfold srS lsW;rw [Xqc hn M k Z,Xah hn M h]
def cmI(x y:Int) : Int:=if x<y then -1 else if y<x then 1 else 0
def cmL:List Int->List Int->Int
 | [],[]=>0
 | [],_::_=>-1
 | _::_,[]=>1
 | x::l,y::r=>if cmI x y≠0 then cmI x y else cmL l r
theorem Xnd{p q:List Int}{k:Nat}{u v:Int}(hp:p[k]? = some u)(hq:q[k]? = some v) : cmL (p.drop k) (q.drop k)=if cmI u v≠0 then cmI u v else cmL (p.drop (k+1)) (q.drop (k+1)):=by
 obtain ⟨h1,h2⟩:=Qg.1 hp;obtain ⟨h3,h4⟩:=Qg.1 hq
 rw [Qy h1,Qy h3,cmL,h2,h4]
theorem Xnc{p q:List Int}{k:Nat}{u:Int}(hp:p[k]? = some u)(hq:q.length<=k) : cmL (p.drop k) (q.drop k)=1:=by
 obtain ⟨h1,h2⟩:=Qg.1 hp
 rw [Qy h1,W3 hq,cmL]
theorem Xin{p q:List Int}{k:Nat}(hp:p.length<=k)(hk:k<=q.length) : cmL (p.drop k) (q.drop k)=if k<q.length then -1 else 0:=by
 rw [W3 hp]
 by_cases h:k<q.length
 ·rw [Qy h,cmL,Q4 h]
 ·rw [W3 Z,cmL,Q3 h]
def cmR(x y:Rg) : Int:=cmL [x.a,x.b,x.c,x.d] [y.a,y.b,y.c,y.d]
theorem X9b(x y:Int) : 0<cmI x y↔y<x:=by unfold cmI;split<;>(try split)<;>omega
theorem X75(x y:Int) : cmI x y=0↔x=y:=by unfold cmI;split<;>(try split)<;>omega
theorem Xio(x y:Rg) : decide (0<cmR x y)=rLess y x:=by
 rw [Bool.eq_iff_iff,Qr,X6a]
 unfold cmR
 simp only [cmL]
 have za:=X75 x.a y.a;have zb:=X75 x.b y.b;have zc:=X75 x.c y.c;have zd:=X75 x.d y.d
 have pa:=X9b x.a y.a;have pb:=X9b x.b y.b;have pc:=X9b x.c y.c;have pd:=X9b x.d y.d
 by_cases h1:cmI x.a y.a=0
 ·by_cases h2:cmI x.b y.b=0
  ·by_cases h3:cmI x.c y.c=0
   ·by_cases h4:cmI x.d y.d=0
    ·simp only [h1,h2,h3,h4];simp;omega
    ·simp only [h1,h2,h3];simp [h4];omega
   ·simp only [h1,h2];simp [h3];omega
  ·simp only [h1];simp [h2];omega
 ·simp [h1];omega
def idxF{α:Type}(l:List α)(q:α->Bool) : Int:=match l.findIdx? q with
 | some k=>(k:Int)
 | none=>-1
theorem Xy8{α:Type}{q:α->Bool} : ∀ {l:List α} {k:Nat} {u:α},((l.take k).all fun x=>!q x)=true->l[k]? = some u->q u=true->idxF l q=(k:Int):=by
 intro l k u h1 h2 h3;obtain ⟨h4,h5⟩:=Qg.1 h2
 have:l.findIdx? q=some k:=by
  rw [List.findIdx?_eq_some_iff_getElem]
  refine ⟨h4,by rw [h5];exact h3,fun j hj=>?_⟩
  have:=W1.1 h1 l[j] (by rw [List.mem_iff_getElem];exact ⟨j,by simp;omega,by simp⟩)
  simpa using this
 unfold idxF;rw [this]
theorem Xoz{α:Type}{q:α->Bool}{l:List α}(h:l.any q=false) : idxF l q = -1:=by grind [idxF]
end Go.Proofs.YtfkokcbjcndjpaaGreatDoor
namespace Go.Proofs
open Go.Shelf
def Tryz.lays156_ren:Go.Shelf.Ren:=⟨fun|156=>104|165=>152|166=>153|169=>154|240=>192|241=>193|276=>221|277=>222|n=>n,fun|31=>135|9=>9|3=>3|4=>4|0=>0|20=>20|72=>189|76=>193|70=>187|37=>22|75=>192|127=>224|164=>250|5=>5|80=>195|n=>n,fun|n=>n⟩
theorem Tryz.lays156:Go.Proofs.Lays.n156 Tryz.prog Tryz.lays156_ren:={
  mixed:=by kernel_rfl
  f156:=Tryz.func104.trans (congrArg some (by kernel_rfl))
  f165:=Tryz.func152.trans (congrArg some (by kernel_rfl))
  f166:=Tryz.func153.trans (congrArg some (by kernel_rfl))
  f169:=Tryz.func154.trans (congrArg some (by kernel_rfl))
  f240:=Tryz.func192.trans (congrArg some (by kernel_rfl))
  f241:=Tryz.func193.trans (congrArg some (by kernel_rfl))
  f276:=Tryz.func221.trans (congrArg some (by kernel_rfl))
  f277:=Tryz.func222.trans (congrArg some (by kernel_rfl))
  t0:=Tryz.underlying0
  a0:=Tryz.isAgg0
  z0:=Tryz.sizeOf0
  v0:=Tryz.zeroValue0
  t3:=Tryz.underlying3
  a3:=Tryz.isAgg3
  z3:=Tryz.sizeOf3
  v3:=Tryz.zeroValue3
  t4:=Tryz.underlying4
  a4:=Tryz.isAgg4
  z4:=Tryz.sizeOf4
  v4:=Tryz.zeroValue4
  t9:=Tryz.underlying9
  a9:=Tryz.isAgg9
  z9:=Tryz.sizeOf9
  v9:=Tryz.zeroValue9
  t20:=Tryz.underlying20
  a20:=Tryz.isAgg20
  z20:=Tryz.sizeOf20
  v20:=Tryz.zeroValue20
  t31:=Tryz.underlying135
  a31:=Tryz.isAgg135
  z31:=Tryz.sizeOf135
  v31:=Tryz.zeroValue135
  t37:=Tryz.underlying22
  a37:=Tryz.isAgg22
  z37:=Tryz.sizeOf22
  v37:=Tryz.zeroValue22
  t70:=Tryz.underlying187
  a70:=Tryz.isAgg187
  z70:=Tryz.sizeOf187
  v70:=Tryz.zeroValue187
  t72:=Tryz.underlying189
  a72:=Tryz.isAgg189
  z72:=Tryz.sizeOf189
  v72:=Tryz.zeroValue189
  t75:=Tryz.underlying192
  a75:=Tryz.isAgg192
  z75:=Tryz.sizeOf192
  v75:=Tryz.zeroValue192
  t76:=Tryz.underlying193
  a76:=Tryz.isAgg193
  z76:=Tryz.sizeOf193
  v76:=Tryz.zeroValue193
  t127:=Tryz.underlying224
  a127:=Tryz.isAgg224
  z127:=Tryz.sizeOf224
  v127:=Tryz.zeroValue224
  t164:=Tryz.underlying250
  a164:=Tryz.isAgg250
  z164:=Tryz.sizeOf250
  v164:=Tryz.zeroValue250 }
theorem Tryz.Builder_Extra_156:Builder.Extra Tryz.prog Tryz.lays156_ren:={
  sizeBuilder:=by kernel_rfl
  liesBuilder:=by kernel_rfl
  t5:=Tryz.underlying5
  a5:=Tryz.isAgg5
  z5:=Tryz.sizeOf5
  v5:=Tryz.zeroValue5
  infoByte:=by kernel_rfl
  cellsByte:=by kernel_rfl
  sizeByte:=by kernel_rfl
  neB5:=by decide }
open Go.RowKit in
theorem Tryz.strings_Join_none(a:Option Addr)(c:Nat)(sep:ByteArray)(w:World) :
    Calls Tryz.prog 104 #[.slice a 0 c,.string sep] w fun e w'=>e=.returned (.string ⟨#[]⟩)/\w'=w:=Any.strings_Join_none Tryz.lays156 Tryz.Builder_Extra_156 a c sep w
open Go.RowKit in
theorem Tryz.strings_Join(bk o c:Nat)(xs:List ByteArray)(sep:ByteArray)(w:World)(hcells:∀ (j:Nat) x,xs[j]? = some x->w.cell? ⟨bk,o+j,none⟩=some (.string x))(hbk:bk<w.heap.size)(hN:xs.length<=140737488355328)(hcap:xs.length<=c)(hlen:(Lib.join (xs.map (·.data.toList)) sep.data.toList).length<=140737488355328) :
    Calls Tryz.prog 104 #[.slice (some ⟨bk,o,none⟩) xs.length c,.string sep] w fun e w'=>e=.returned (.string ⟨(Lib.join (xs.map (·.data.toList)) sep.data.toList).toArray⟩)/\Below w.heap.size w w':=Any.strings_Join Tryz.lays156 Tryz.Builder_Extra_156 bk o c xs sep w hcells hbk hN hcap hlen
def Tryz.laysM171_ren:Go.Shelf.Ren:=⟨fun|171=>151|243=>191|246=>220|283=>234|284=>235|285=>236|286=>237|129=>172|317=>243|318=>244|319=>245|320=>246|337=>248|338=>249|n=>n,fun|3=>3|9=>9|2=>2|4=>4|171=>259|0=>0|53=>70|37=>22|5=>5|173=>261|212=>263|51=>210|20=>20|213=>264|46=>151|232=>265|233=>266|n=>n,fun|17=>1|18=>2|19=>3|n=>n⟩
theorem Tryz.laysM171:Go.Proofs.LaysM.n171 Tryz.prog Tryz.laysM171_ren:={
  mixed:=by kernel_rfl
  f129:=Tryz.func172.trans (congrArg some (by kernel_rfl))
  f171:=Tryz.func151.trans (congrArg some (by kernel_rfl))
  f243:=Tryz.func191.trans (congrArg some (by kernel_rfl))
  f246:=Tryz.func220.trans (congrArg some (by kernel_rfl))
  f283:=Tryz.func234.trans (congrArg some (by kernel_rfl))
  f284:=Tryz.func235.trans (congrArg some (by kernel_rfl))
  f285:=Tryz.func236.trans (congrArg some (by kernel_rfl))
  f286:=Tryz.func237.trans (congrArg some (by kernel_rfl))
  f317:=Tryz.func243.trans (congrArg some (by kernel_rfl))
  f318:=Tryz.func244.trans (congrArg some (by kernel_rfl))
  f319:=Tryz.func245.trans (congrArg some (by kernel_rfl))
  f320:=Tryz.func246.trans (congrArg some (by kernel_rfl))
  f337:=Tryz.func248.trans (congrArg some (by kernel_rfl))
  f338:=Tryz.func249.trans (congrArg some (by kernel_rfl))
  t0:=Tryz.underlying0
  a0:=Tryz.isAgg0
  z0:=Tryz.sizeOf0
  v0:=Tryz.zeroValue0
  t2:=Tryz.underlying2
  a2:=Tryz.isAgg2
  z2:=Tryz.sizeOf2
  v2:=Tryz.zeroValue2
  t3:=Tryz.underlying3
  a3:=Tryz.isAgg3
  z3:=Tryz.sizeOf3
  v3:=Tryz.zeroValue3
  t4:=Tryz.underlying4
  a4:=Tryz.isAgg4
  z4:=Tryz.sizeOf4
  v4:=Tryz.zeroValue4
  t5:=Tryz.underlying5
  a5:=Tryz.isAgg5
  z5:=Tryz.sizeOf5
  v5:=Tryz.zeroValue5
  t9:=Tryz.underlying9
  a9:=Tryz.isAgg9
  z9:=Tryz.sizeOf9
  v9:=Tryz.zeroValue9
  t20:=Tryz.underlying20
  a20:=Tryz.isAgg20
  z20:=Tryz.sizeOf20
  v20:=Tryz.zeroValue20
  t37:=Tryz.underlying22
  a37:=Tryz.isAgg22
  z37:=Tryz.sizeOf22
  v37:=Tryz.zeroValue22
  t46:=Tryz.underlying151
  a46:=Tryz.isAgg151
  z46:=Tryz.sizeOf151
  v46:=Tryz.zeroValue151
  t51:=Tryz.underlying210
  a51:=Tryz.isAgg210
  z51:=Tryz.sizeOf210
  v51:=Tryz.zeroValue210
  t53:=Tryz.underlying70
  a53:=Tryz.isAgg70
  z53:=Tryz.sizeOf70
  v53:=Tryz.zeroValue70
  t171:=Tryz.underlying259
  a171:=Tryz.isAgg259
  z171:=Tryz.sizeOf259
  v171:=Tryz.zeroValue259
  t173:=Tryz.underlying261
  a173:=Tryz.isAgg261
  z173:=Tryz.sizeOf261
  v173:=Tryz.zeroValue261
  t212:=Tryz.underlying263
  a212:=Tryz.isAgg263
  z212:=Tryz.sizeOf263
  v212:=Tryz.zeroValue263
  t213:=Tryz.underlying264
  a213:=Tryz.isAgg264
  z213:=Tryz.sizeOf264
  t232:=Tryz.underlying265
  a232:=Tryz.isAgg265
  z232:=Tryz.sizeOf265
  v232:=Tryz.zeroValue265
  t233:=Tryz.underlying266
  a233:=Tryz.isAgg266
  z233:=Tryz.sizeOf266
  v233:=Tryz.zeroValue266
  g17:=by kernel_rfl
  g18:=by kernel_rfl
  g19:=by kernel_rfl
  i0:=by kernel_rfl
  i2:=by kernel_rfl
  i3:=by kernel_rfl
  i4:=by kernel_rfl
  i5:=by kernel_rfl
  i9:=by kernel_rfl
  i20:=by kernel_rfl
  i37:=by kernel_rfl
  i46:=by kernel_rfl
  i51:=by kernel_rfl
  i53:=by kernel_rfl
  i171:=by kernel_rfl
  i173:=by kernel_rfl
  i212:=by kernel_rfl
  i232:=by kernel_rfl
  i233:=by kernel_rfl
  m17:=by kernel_rfl
  m18:=by kernel_rfl
  m19:=by kernel_rfl }
open Go.RowKit Go.Sort Go.Lib in
theorem Tryz.strconv_Itoa (n : Int) (h0 : -9223372036854775808 <= n) (h1 : n <= 9223372036854775807) (w : World) (htab : Lib.TabIs Tryz.prog w "internal/strconv.uint64pow10" .u64 Lib.pow10Tab) :
    Calls Tryz.prog 151 #[.int .i64 n] w fun e w'=>e=.returned (.string ⟨(Lib.itoa n).toArray⟩)/\∃ k os,w'=grow (w.drewN k) os:=Any.strconv_Itoa Tryz.laysM171 n h0 h1 w htab
end Go.Proofs
namespace Go.Proofs.YtfkokcbjcndjpaaGreatDoor
open Go.RowKit Go.Sort
def PowT (w : World) : Prop := ∀ w', Below w.heap.size w w' -> Lib.TabIs Tryz.prog w' "internal/strconv.uint64pow10" .u64 Lib.pow10Tab
theorem PowT.of{w0 w:World}(h:PowT w0)(hW:Below w0.heap.size w0 w) : PowT w:=fun w' hw=>h w' (hW.trans (hw.mono hW.size))
theorem Xfa(w:World)(k:Nat)(os:Array Obj) : Below w.heap.size w (grow (w.drewN k) os):=
 ⟨rfl,rfl,rfl,by simp [grow,World.drewN],fun i hi=>by simp only [grow,World.drewN];rw [Array.getElem?_append_left hi]⟩
section
variable {P : Program} {a : Act} {w : World} {n : Nat} {e : Env} {ty : TypeId} {pos : String} {af : Array Edge} {g : Option (Nat × Bool)} {d : Option Tmp} {t t' : TypeId}
theorem Xo0{T K E:TypeId}{b c k:Nat}{o:Bool}{A:Option Addr}{f:ByteArray->Option Sq}{m x:Operand}{s:ByteArray}(hf:Fr a n e)(hm:ev e m=some (.map (some b)))(hx:ev e x=some (.string s))(hT:P.underlying T=some (.map K E))(hK:P.underlying K=some .string)(hz:ZeroT P E (.slice none 0 0))(h:MapS w b (sgF f))(hv:(sgF f s).getD (.slice none 0 0)=.slice A k c)(hb:(sgF f s).isSome=o) :
  Ev P ⟨d,.lookup T m x true,ty,pos,af,g⟩ a w (.tuple #[.slice A k c,.bool o]):=by
 have hq:=Xo1 (d:=d) (ty:=ty) (pos:=pos) (af:=af) (g:=g) hf hm hx hT hK (X6o hz) h
 rw [hv,hb] at hq
 exact hq
theorem Xh2{T K E:TypeId}{b c k:Nat}{o:Bool}{A:Option Addr}{f:ByteArray->Option Sq}{m x:Operand}{s:ByteArray}(hm:ev e m=some (.map (some b)))(hx:ev e x=some (.string s))(hT:P.underlying T=some (.map K E))(hK:P.underlying K=some .string)(hz:ZeroT P E (.slice none 0 0))(h:MapS w b (sgF f))(hv:(sgF f s).getD (.slice none 0 0)=.slice A k c)(hb:(sgF f s).isSome=o) :
  EvW P ⟨d,.lookup T m x true,ty,pos,af,g⟩ n e w (.tuple #[.slice A k c,.bool o]):=fun _ hf=>Xo0 hf hm hx hT hK hz h hv hb
end
theorem Xqw:ZeroT Tryz.prog 23 (.slice none 0 0):=X1y O2
theorem Xur(w:World)(n:Int)(h0:-9223372036854775808<=n)(h1:n<=9223372036854775807)(hp:PowT w) : Ret Tryz.prog 151 [.int .i64 n] w (fun v w'=>v=.string (tx (Lib.itoa n))/\Below w.heap.size w w'):=
 Calls.mono (Tryz.strconv_Itoa n h0 h1 w (hp w (Below.refl _ _))) fun _ _ ⟨he,k,os,hw⟩=>⟨_,he,rfl,by subst hw;exact Xfa w k os⟩
def joT(l:List ByteArray)(s:ByteArray) : ByteArray:=tx (Lib.join (l.map (·.data.toList)) s.data.toList)
theorem Xuq(w:World){B:Nat}{E:TypeId}(A:Option Addr)(c:Nat)(l:List ByteArray)(s:ByteArray)(hr:Rd w B E encTx A l)(hc:l.length<=c)(hl:l.length<=1048576)(hb:(Lib.join (l.map (·.data.toList)) s.data.toList).length<=140737488355328) :
  Ret Tryz.prog 104 [.slice A l.length c,.string s] w (fun v w'=>v=.string (joT l s)/\Below w.heap.size w w'):=by
 by_cases h:l=[]
 ·subst h
  exact Calls.mono (Tryz.strings_Join_none A c s w) fun _ _ ⟨he,hw⟩=>⟨_,he,O,by rw [hw];exact Below.refl _ _⟩
 ·obtain ⟨b,off,cs,fz,rfl,h2,h3,h4⟩:=hr h
  have hlt:b<w.heap.size:=(Qp.1 h3).1
  refine Calls.mono (Tryz.strings_Join b off c l s w (fun j x hj=>?_) hlt Z hc hb) fun _ _ ⟨he,hw⟩=>⟨_,he,O,hw⟩
  have h5:=h4 j (.string x) (by
   have:=X4s X86 l j x hj 0 (.string x) O
   simpa using this)
  simp only [World.cell?,h3]
  simpa using h5
end Go.Proofs.YtfkokcbjcndjpaaGreatDoor
namespace Go.Proofs.YtfkokcbjcndjpaaGreatDoor
open Go.RowKit
theorem X3r{n:Int}(h0:-9223372036854775808<=n)(h1:n<=9223372036854775807) : (Lib.itoa n).length<=21:=by
 unfold Lib.itoa
 split
 ·rw [Qs,Lib.decDigits_length]
  have:=Lib.nDigits_le20 n.natAbs Z;omega
 ·rw [Lib.decDigits_length]
  have:=Lib.nDigits_le20 n.toNat Z;omega
theorem Xe9{K:Nat}(sep:List UInt8) : ∀ xs:List (List UInt8),(∀ x ∈ xs,x.length<=K)->(Lib.join xs sep).length<=xs.length*(K+sep.length)
 | [],_=>by simp [Lib.join]
 | [x],h=>by rw [Lib.join_one];have:=h x (Qk ..);simp;omega
 | x::y::l,h=>by
  have ih:=Xe9 sep (y::l) fun z hz=>h z (Ql _ hz)
  have e:Lib.join (x::y::l) sep=x++(sep++Lib.join (y::l) sep):=X4f sep x y l
  rw [e,Qh,Qh]
  have:=h x (Qk ..)
  rw [Qs (a:=x),Wb];omega
def jnI(l:List Int)(s:ByteArray) : ByteArray:=joT (l.map fun n=>tx (Lib.itoa n)) s
theorem Xls{l:List Int}{s:ByteArray}(hl:l.length<=1000)(hs:s.size<=100)(hb:∀ n ∈ l,-9223372036854775808<=n/\n<=9223372036854775807) : (Lib.join ((l.map fun n=>tx (Lib.itoa n)).map (·.data.toList)) s.data.toList).length<=140737488355328:=by
 have h:=Xe9 (K:=21) s.data.toList ((l.map fun n=>tx (Lib.itoa n)).map (·.data.toList)) (fun x hx=>by
  simp only [List.map_map,W6,Function.comp_apply] at hx
  obtain ⟨n,hn,rfl⟩:=hx
  exact X3r (hb n hn).1 (hb n hn).2)
 have h2:s.data.toList.length=s.size:=rfl
 rw [Qo,Qo,h2] at h
 have:l.length*(21+s.size)<=1000*121:=Nat.mul_le_mul hl Z
 omega
theorem Xpx{x:Rg}(h:rOk x=true) : ∀ n ∈ [x.a,x.b,x.c,x.d],-9223372036854775808<=n/\n<=9223372036854775807:=by
 simp only [rOk,inR,Qd,Qr] at h
 intro n hn
 simp only [Qv,List.not_mem_nil,or_false] at hn
 rcases hn with rfl|rfl|rfl|rfl<;>omega
def fmR(x:Rg) : ByteArray:=if rOk x=true then tx (txR x) else tx []
def fmD(x:Dy) : ByteArray:=if dOk x=true then tx (txD x) else tx []
theorem Xe3{x:Rg}(h:rOk x=true) : fmR x=tx (txR x):=Q4 h
theorem Xy7{x:Rg}(h:¬ rOk x=true) : fmR x=tx []:=Q3 h
theorem Xos{x:Dy}(h:dOk x=true) : fmD x=tx (txD x):=Q4 h
theorem Xy6{x:Dy}(h:¬ dOk x=true) : fmD x=tx []:=Q3 h
theorem X5s{x:Dy}(h:dOk x=true) : rOk x.num=true:=(X1t.1 h).1
theorem X84{x:Dy}(h:dOk x=true) : -9223372036854775808<=x.exp/\x.exp<=9223372036854775807:=by
 have:=(X1t.1 h).2.1;omega
theorem Xeu{x:Rg}(h:rOk x=true) : (txR x).length<=100:=by
 have hb:=Xpx h
 rw [Xet]
 have:=X3r (hb x.a O5).1 (hb x.a O5).2
 have:=X3r (hb x.b O5).1 (hb x.b O5).2
 have:=X3r (hb x.c O5).1 (hb x.c O5).2
 have:=X3r (hb x.d O5).1 (hb x.d O5).2
 simp only [Qh,Qs];omega
theorem Xua{x:Dy}(h:dOk x=true) : (txD x).length<=150:=by
 have:=Xeu (X5s h)
 have:=X3r (X84 h).1 (X84 h).2
 unfold txD
 simp only [Qh,Qs,List.length_nil];omega
theorem Xt6(x:Dy) : (fmD x).size<=150:=by
 unfold fmD
 split
 ·rw [X6h];exact Xua O6
 ·rw [X6h];simp
theorem Xt7{x:Rg}(h:rOk x=true) : (fmR x).size<=100:=by rw [Xe3 h,X6h];exact Xeu h
theorem Xy4{x:Dy}(h:dOk x=true) : (fmR x.num).size+(tx [47]).size<=9223372036854775807:=by
 have:=Xt7 (X5s h);rw [X6h];simp only [List.length_singleton];omega
theorem Xy5{x:Dy}(h:dOk x=true) : (fmR x.num++tx [47]).size+(tx (Lib.itoa x.exp)).size<=9223372036854775807:=by
 have h1:=X3r (X84 h).1 (X84 h).2;have h2:=Xeu (X5s h)
 rw [Xe3 (X5s h),Xib,X6h,X6h,Qh];simp only [List.length_singleton];omega
theorem Xt5{x:Dy}(h:dOk x=true) : fmR x.num++tx [47]++tx (Lib.itoa x.exp)=fmD x:=by
 rw [Xos h,Xe3 (X5s h),Xib,Xib];rfl
theorem Xk0{x:Rg}(h:rOk x=true){k:Nat}(hk:k<8) : mulOm1 x (k:Int)=rTurnN k x/\mulOm2 x (k:Int)=true:=by
 have h2:mulOm2 x (k:Int)=true:=by unfold mulOm2 inR;rw [h];simp;omega
 refine ⟨?_,h2⟩
 unfold mulOm1;rw [Q4 h2]
 have:=congrArg Dy.num (X5t hk ⟨x,0⟩)
 exact this
def canM(m:Mx) : Mx:=if mOk m=true then match canL m.cells with|some l=>⟨m.rows,m.cols,l⟩|none=>mZ else mZ
def canT(m:Mx) : Int:=if mOk m=true then match canK m.cells with|some k=>(k:Int)|none=>0 else 0
def canY(m:Mx) : Bool:=mOk m&&(canL m.cells).isSome
theorem Xrh{m:Mx}(h:mOk m=false) : canM m=mZ/\canT m=0/\canY m=false:=by
 unfold canM canT canY;rw [h];exact ⟨O,O,O⟩
theorem Xrf{l:List Dy}{k:Nat}(h:canK l=some k) : canL l=some (l.map (dTurn (k:Int))):=by unfold canL;rw [h];rfl
theorem Xn9{m:Mx}(h:canK m.cells=none) : canM m=mZ/\canT m=0/\canY m=false:=by
 have h2:canL m.cells=none:=by unfold canL;rw [h];rfl
 unfold canM canT canY;rw [h,h2]
 refine ⟨?_,?_,?_⟩
 ·split<;>rfl
 ·split<;>rfl
 ·simp
theorem Xna{m:Mx}{k:Nat}(hm:mOk m=true)(h:canK m.cells=some k) : canM m=⟨m.rows,m.cols,m.cells.map (dTurn (k:Int))⟩/\canT m=(k:Int)/\canY m=true:=by
 unfold canM canT canY;rw [hm,h,Xrf h];exact ⟨O,O,O⟩
theorem Xp0{α:Type}{q:α->Bool}{l:List α}{k:Nat}{u:α}(hi:idxF l q=(k:Int))(h:l[k]? = some u) : l.find? q=some u:=by
 unfold idxF at hi
 cases e:l.findIdx? q with
 | none=>rw [e] at hi;simp only at hi;omega
 | some j=>
  rw [e] at hi
  obtain rfl:j=k:=by simp only at hi;omega
  obtain ⟨h1,h2,h3⟩:=List.findIdx?_eq_some_iff_getElem.1 e;obtain ⟨h4,h5⟩:=Qg.1 h
  rw [List.find?_eq_some_iff_getElem]
  refine ⟨by rw [<- h5];exact h2,j,h1,h5,fun i hi=>by have:=h3 i hi;simpa using this⟩
theorem Xtd{α:Type}{q:α->Bool}{l:List α}(hi:idxF l q<0) : l.find? q=none:=by
 unfold idxF at hi
 cases e:l.findIdx? q with
 | some j=>rw [e] at hi;simp only at hi;omega
 | none=>
  rw [List.findIdx?_eq_none_iff] at e
  rw [List.find?_eq_none];intro x hx;rw [e x hx];simp
theorem Xte{α:Type}{q:α->Bool}{l:List α}(hi:¬ idxF l q<0) : ∃ k u,idxF l q=((k:Nat) : Int)/\l[k]? = some u:=by
 unfold idxF at *
 cases e:l.findIdx? q with
 | none=>rw [e] at hi;simp only at hi;omega
 | some j=>
  obtain ⟨h1,_⟩:=List.findIdx?_eq_some_iff_getElem.1 e;exact ⟨j,l[j],O,Qc h1⟩
theorem Xn5{l:List Dy}{k:Nat}{u:Dy}(hi:idxF l (fun x=>decide (x≠dZ))=(k:Int))(h:l[k]? = some u) : canK l=some (turnK u.num):=by
 unfold canK;rw [Xp0 hi h];rfl
theorem Xn6{l:List Dy}(hi:idxF l (fun x=>decide (x≠dZ))<0) : canK l=none:=by
 unfold canK;rw [Xtd hi];rfl
theorem Xg2{α β:Type}{f:α->β}{l:List α}{k:Nat}{q:List β}{u:α}(h:q=(l.take k).map f)(hu:l[k]? = some u) : q++[f u]=(l.take (k+1)).map f:=by
 rw [h,Qt,hu];simp
theorem Xn8(m:Mx) : (canM m).cells.length<=1024:=by
 unfold canM
 split
 ·rename_i hm
  have hl:=X3b hm
  have hle:m.cells.length<=1024:=by
   have h1:=hl.2.2
   have:m.rows.toNat*m.cols.toNat<=32*32:=Nat.mul_le_mul Z Z
   first|omega|(rw [h1];omega)
  cases e:canL m.cells with
  | none=>simp [mZ]
  | some l=>simp only;rw [Xa8 e];exact hle
 ·simp [mZ]
def tgL(n i j:Nat) : List Gt:=(([1,5,7] : List Int).take i).flatMap (fun k=>(List.range n).map fun (q:Nat)=>(⟨k,(q:Int),0⟩ : Gt))++(List.range j).map fun (q:Nat)=>(⟨([1,5,7] : List Int).getD i 0,(q:Int),0⟩ : Gt)
theorem Xqn(n:Nat){i j:Nat}{u:Int}(hu:([1,5,7] : List Int)[i]? = some u) : tgL n i j++[⟨u,(j:Int),0⟩]=tgL n i (j+1):=by
 unfold tgL
 rw [Qx,List.range_succ,List.map_append,Qa,hu];rfl
theorem Xu8(n:Nat){i:Nat}(hi:i<3) : tgL n i n=tgL n (i+1) 0:=by
 unfold tgL
 rcases (by omega:i=0∨i=1∨i=2) with rfl|rfl|rfl<;>simp
theorem Xkv(n i j:Nat) : (tgL n i j).length<=3*n+j:=by
 unfold tgL
 have h:∀ l:List Int,(l.flatMap (fun k=>(List.range n).map fun (q:Nat)=>(⟨k,(q:Int),0⟩ : Gt))).length=l.length*n:=by
  intro l;induction l with
  | nil=>simp
  | cons x l ih=>rw [Wc,Qh,ih,Qs,Wb];simp;omega
 rw [Qh,h,Qo,List.length_range]
 have h2:(([1,5,7] : List Int).take i).length<=3:=by simp;omega
 have:=Nat.mul_le_mul_right n h2
 omega
def keyM(m:Mx) : ByteArray:=joT ((canM m).cells.map fmD) (tx [44])
theorem Xrg{m:Mx} : ∀ x ∈ (canM m).cells,dOk x=true:=by
 unfold canM
 split
 ·rename_i hm
  intro x hx
  cases e:canL m.cells with
  | none=>rw [e] at hx;simp [mZ] at hx
  | some l=>
   rw [e] at hx
   unfold canL at e
   obtain ⟨k,_,rfl⟩:=Option.map_eq_some_iff.1 e;obtain ⟨y,hy,rfl⟩:=W6.1 hx;exact Xng (X25 hm y hy) _
 ·intro x hx;simp [mZ] at hx
theorem Xjt{m:Mx}(h:mOk m=true) : keyM m=kyT (canL m.cells):=by
 unfold keyM joT kyT
 have h1:((canM m).cells.map fmD).map (·.data.toList)=(canM m).cells.map txD:=by
  rw [List.map_map]
  exact List.map_congr_left fun x hx=>by simp only [Function.comp_apply,Xos (Xrg x hx),Xev]
 rw [h1]
 have h2:(canM m).cells=(canL m.cells).getD []:=by
  unfold canM;rw [Q4 h]
  cases canL m.cells<;>rfl
 rw [h2];rfl
theorem Xhr(m:Mx)(h:(canM m).cells.length<=1000000) : (Lib.join (((canM m).cells.map fmD).map (·.data.toList)) (tx [44]).data.toList).length<=140737488355328:=by
 have h1:=Xe9 (K:=150) (tx [44]).data.toList (((canM m).cells.map fmD).map (·.data.toList)) (fun x hx=>by
  simp only [List.map_map,W6,Function.comp_apply] at hx
  obtain ⟨n,hn,rfl⟩:=hx
  have:=Xt6 n
  exact this)
 rw [Qo,Qo,Xev] at h1
 have:(canM m).cells.length*(150+[44].length)<=1000000*151:=Nat.mul_le_mul h O5
 have e:([44] : List UInt8).length=1:=rfl
 rw [e] at h1
 simp only [List.length_singleton] at this
 rw [Xev];omega
theorem Xzn(w0:World)(x:Int) : Ret Tryz.prog 206 [vi x] w0 (fun v w=>v=.bool false/\w0=w):=by
 refine enter Tryz.func206 O 6 O O ?_;intro a hf
 have hW:=bz w0
 refine Zs hf fun _ aA=>?_;refine Za O<|Zx aA fun a hf _ aB=>?_;refine Zm O<|Zm O<|Ze (X47 O O)<|Za O<|Zt aB fun a hf=>?_
 refine Q6 (X4 hf (Xv hf O O) ?_)
 exact ⟨by simp,rfl⟩
theorem Xzx(w0:World)(x:Int)(y:Int) : Ret Tryz.prog 219 [vi x,vi y] w0 (fun v w=>v=vi (cmI x y)/\w0=w):=by
 refine enter Tryz.func219 O 20 O O ?_;intro a b
 have hW:=bz w0
 refine Zs b fun _ aI=>?_;refine Za O<|Zx aI fun a b _ aJ=>?_;refine Zm O<|Zf (Vc (Xzn _ x) Xoj) ?_;rintro _ _ ⟨rfl,rfl⟩;refine Za O<|Zx aJ fun a b _ aK=>?_;refine Zm O<|Zf (Vc (Xzn _ y) Xoj) ?_;rintro _ _ ⟨rfl,rfl⟩;refine Za O<|ZX aK fun a b _ aL=>?_;refine Zs b fun _ aM=>?_;refine Zm O<|Zt aM fun a b=>?_;refine X40 b O ?_;refine Q7<|aL _ _<|Q5 fun _ aN=>?_;refine Zs b fun _ aO=>?_;refine Zm O<|Zt aO fun a b=>?_;refine X40 b O ?_;refine Q7<|aN _ _<|Q5 fun _ aP=>?_;refine Zs b fun _ aQ=>?_;refine Zm O<|Zm O<|Ze (X16 O O)<|Zt aQ fun a b=>?_
 refine X12 b O (fun aA d=>?_) (fun aA d=>?_)
 ·have c:cmI x y = -1:=by rw [cmI,Q4 d]
  refine Zs b fun _ aC=>?_;refine Za O<|Zt aC fun a b=>?_;refine Q6<|X5<|X4 b (Xv b O O) ?_;exact ⟨by rw [c],rfl⟩
 have aD:=d;refine Q7<|aP _ _<|Q5 fun _ aE=>?_;refine Zs b fun _ aF=>?_;refine Zm O<|Zm O<|Ze (X29 O O)<|Zt aF fun a b=>?_
 refine X12 b O (fun aB e=>?_) (fun aB e=>?_)
 ·have c:cmI x y=1:=by rw [cmI,Q3 aD,Q4 e]
  refine Zs b fun _ aG=>?_;refine Za O<|Zt aG fun a b=>?_;refine Q6<|X5<|X4 b (Xv b O O) ?_;exact ⟨by rw [c],rfl⟩
 have c:cmI x y=0:=by rw [cmI,Q3 aD,Q3 e]
 refine Q7<|aE _ _<|Zs b fun _ aH=>?_;refine Za O<|Zt aH fun a b=>?_
 refine Q6 (X4 b (Xv b O O) ?_)
 exact ⟨by rw [c],rfl⟩
theorem Xzv(f:World)(Ap:Option Addr)(cp:Nat)(p:List Int)(aH:Rd f f.heap.size 3 encI Ap p)(Aq:Option Addr)(cq:Nat)(q:List Int)(aI:Rd f f.heap.size 3 encI Aq q)(b6:p.length<=2305843009213693951)(b7:q.length<=2305843009213693951) : Ret Tryz.prog 188 [.slice Ap p.length cp,.slice Aq q.length cq] f (fun v w=>v=vi (cmL p q)/\Below f.heap.size f w):=by
 refine enter Tryz.func188 O 36 O O ?_;intro a b
 have g:=bz f
 refine Zs b fun _ b0=>?_;refine Za O<|ZX b0 fun a b _ b1=>?_;refine Zs b fun _ b2=>?_;refine Zm O<|Ze (X0o O Xy)<|Zm O<|Zt b2 fun a b=>?_;refine Q8<|X0d (σ:=Nat) (fun (k:Nat) (a:Act) (w:World)=>Fr a 36 [(0,.slice Ap p.length cp),(1,.slice Aq q.length cq),(9,.slice Ap p.length cp),(10,vi (p.length:Int)),(11,vi (k:Int))]/\(k<=p.length)/\(k<=q.length)/\(cmL (p.drop k) (q.drop k)=cmL p q)/\Below f.heap.size f w) (fun (k:Nat)=>p.length-k) 0 ?_ ?_
 ·exact ⟨b.sb,(Qf _),(Qf _),O,g⟩
 rintro k a w1 ⟨b,hk,b8,d,g⟩;refine Zs b fun _ b3=>?_;refine Ze (X16 O O)<|ZX b3 fun a b _ b4=>?_
 refine X12 b O (fun aJ b5=>?_) (fun aJ b5=>?_)
 ·obtain ⟨u9,aA⟩:=Xj (l:=p) (k:=k) Z
  refine Q7<|b4 _ _<|Q5 fun _ aK=>?_;refine Q8<|Zs b fun _ aL=>?_;refine Zm O<|Zi (k:=k) (u:=u9) (enc:=encI) (l:=p) tv0 O O Xy X1o Xt (aH.bx g) aA O ?_;intro b9 aB;refine Ze (X0 O X8 aB)<|Za O<|Za O<|ZX aL fun a b _ aM=>?_;refine Zs b fun _ aN=>?_;refine Zm O<|Zm O<|Ze (X0o O Xy)<|Ze (Xa2 O O)<|Zt aN fun a b=>?_
  refine X12 b O (fun aC aO=>?_) (fun aC aO=>?_)
  ·have c:cmL p q=1:=by rw [<- d];exact Xnc aA Z
   refine Zs b fun _ aP=>?_;refine Za O<|Zt aP fun a b=>?_;refine Q6<|X5<|Xo<|X5 ?_;refine X5<|Xo<|X5<|X4 b (Xv b O O) ?_;exact ⟨by rw [c],g⟩
  obtain ⟨v9,aQ⟩:=Xj (l:=q) (k:=k) Z
  have aD:=Xnd aA aQ;refine Q7<|aM _ _<|Zs b fun _ aR=>?_;refine Zm O<|Zm O<|Zi (k:=k) (u:=v9) (enc:=encI) (l:=q) tv0 O O Xy X1o Xt (aI.bx g) aQ O ?_;intro bC aE;refine Ze (X0 O X8 aE)<|Za O<|Zx aR fun a b _ aS=>?_;refine Zm O<|Zm O<|Zf (Vc (Xzx _ u9 v9) Xsj) ?_;rintro _ _ ⟨rfl,rfl⟩;refine Za O<|Zx aS fun a b _ aT=>?_;refine Zm O<|Ze (X47 O O)<|Zt aT fun a b=>?_
  refine X04 b O (fun e=>?_) (fun e=>?_)
  ·have aF:cmI u9 v9≠0:=by simpa using e
   have c:cmL p q=cmI u9 v9:=by rw [<- d,aD,Q4 aF]
   refine Zs b fun _ aU=>?_;refine Zm O<|Za O<|Zt aU fun a b=>?_;refine Q6<|Xo<|X5<|X5 ?_;refine Xo<|X5<|X4 b (Xv b O O) ?_;exact ⟨by rw [c],g⟩
  have aF:¬ cmI u9 v9≠0:=by simpa using e
  rw [Q3 aF] at aD
  refine Q7<|Xn<|aK _ _<|Zr b ?_;refine Ze (X03 O O Z Z)<|Zm O ?_;refine Zn fun a b=>?_;refine Xd ?_;exact ⟨k+1,⟨b.sb,Z,Z,(by rw [<- aD,d]),g⟩,Z⟩
 refine Q9<|Xm<|Xm<|X0a ?_;refine b1 _ _<|Q5 fun _ aV=>?_;refine Zs b fun _ aW=>?_;refine Zm O<|Ze (X0o O Xy)<|Zm O<|Ze (X0o O Xy)<|Ze (X16 O O)<|Zt aW fun a b=>?_
 refine X12 b O (fun aG aX=>?_) (fun aG aX=>?_)
 ·have c:cmL p q = -1:=by rw [<- d,Xin Z Z,Q4 Z]
  refine Zs b fun _ aY=>?_;refine Za O<|Zt aY fun a b=>?_;refine Q6<|X5<|X4 b (Xv b O O) ?_;exact ⟨by rw [c],g⟩
 have c:cmL p q=0:=by rw [<- d,Xin Z Z,Q3 Z]
 refine Q7<|aV _ _<|Zs b fun _ aZ=>?_;refine Za O<|Zt aZ fun a b=>?_
 refine Q6 (X4 b (Xv b O O) ?_)
 exact ⟨by rw [c],g⟩
theorem Xzt(w0:World)(x:Rg)(y:Rg) : Ret Tryz.prog 148 [.agg #[vi x.a,vi x.b,vi x.c,vi x.d],.agg #[vi y.a,vi y.b,vi y.c,vi y.d]] w0 (fun v w=>v=vi (cmR x y)/\Below w0.heap.size w0 w):=by
 refine enter Tryz.func148 O 24 O O ?_;intro a hf
 have e:=bz w0
 refine Zs hf fun _ aD=>?_;refine Zf (X0m (zs:=[vi x.a,vi x.b,vi x.c,vi x.d]) O O) ?_;rintro _ w1 ⟨b2,rfl,aE,i,f⟩;have aJ:=Q0 e.size aE;have e:=btr e i;refine Zf (X0m (zs:=[vi y.a,vi y.b,vi y.c,vi y.d]) O O) ?_;rintro _ w2 ⟨b3,rfl,aF,i,g⟩
 have aB:b2≠b3:=by have:=f.lt;omega
 have aK:=Q0 e.size aF;have f:=f.bw i;have e:=btr e i;refine Za O<|Zx aD fun a hf _ aG=>?_;refine Ze (Vd O X0s 0)<|Ze (X0 O X8 (f.at 0))<|Ze (Vd O X0u 1)<|Ze (X0 O X8 (f.at 1))<|Ze (Vd O X0v 2)<|Ze (X0 O X8 (f.at 2))<|Ze (Vd O X0w 3)<|Ze (X0 O X8 (f.at 3))<|Zf (X2 (k:=4) (vs:=[vi x.a,vi x.b,vi x.c,vi x.d]) (zs:=[vi x.a,vi x.b,vi x.c,vi x.d]) O Xy X1a O O) ?_;rintro _ w3 ⟨b5,rfl,aH,i,j⟩;have aL:=Q0 e.size aH;have g:=g.bw i;have e:=btr e i;refine Ze (Vd O X0s 0)<|Ze (X0 O X8 (g.at 0))<|Ze (Vd O X0u 1)<|Ze (X0 O X8 (g.at 1))<|Ze (Vd O X0v 2)<|Ze (X0 O X8 (g.at 2))<|Ze (Vd O X0w 3)<|Ze (X0 O X8 (g.at 3))<|Zf (X2 (k:=4) (vs:=[vi y.a,vi y.b,vi y.c,vi y.d]) (zs:=[vi y.a,vi y.b,vi y.c,vi y.d]) O Xy X1a O O) ?_;rintro _ w4 ⟨b7,rfl,aI,i,aA⟩
 have aC:b5≠b7:=by have:=j.lt;omega
 have aM:=Q0 e.size aI;have j:=j.bw i;have e:=btr e i;refine Zf (Vc (Xzv _ (some ⟨b5,0,none⟩) 4 ([x.a,x.b,x.c,x.d]) (Rd.of_blk j O _ j.lt) (some ⟨b7,0,none⟩) 4 ([y.a,y.b,y.c,y.d]) (Rd.of_blk aA O _ aA.lt) O5 O5) Xsh) ?_;rintro _ w5 ⟨rfl,i⟩;have e:=btr e i;refine Za O<|Zt aG fun a hf=>?_
 refine Q6 (X4 hf (Xv hf O O) ?_)
 exact ⟨O,e⟩
theorem Xzs(w0:World)(x:Dy) : Ret Tryz.prog 146 [.agg #[vi x.num.a,vi x.num.b,vi x.num.c,vi x.num.d,vi x.exp]] w0 (fun v w=>v=.bool (decide (x≠dZ))/\Below w0.heap.size w0 w):=by
 refine enter Tryz.func146 O 6 O O ?_;intro a hf
 have hW:=bz w0
 refine Zs hf fun _ aA=>?_;refine Zf (X0m (zs:=[vi x.num.a,vi x.num.b,vi x.num.c,vi x.num.d,vi x.exp]) O O) ?_;rintro _ w1 ⟨b2,rfl,aB,hE,aC⟩;have aE:=Q0 hW.size aB;have hW:=btr hW hE;refine Za O<|Zx aA fun a hf _ aD=>?_;refine Ze (Vn Xr aC)<|Ze (Xi (ps:=[]) (cs:=[vi 0,vi 0,vi 0,vi 0,vi 0]) O (fun _=>by first|rfl|kernel_rfl))<|Ze (Xf6 O O Xho (fun w=>eqD 9997 x (⟨(⟨0,0,0,0⟩ : Rg),0⟩ : Dy) w))<|Za O<|Zt aD fun a hf=>?_
 refine Q6 (X4 hf (Xv hf O O) ?_)
 exact ⟨by cases x;simp [dZ, *],hW⟩
theorem Xzr(w0:World)(n:Int)(hn:n=1∨n=2) : Ret Tryz.prog 111 [vi n] w0 (fun v w=>∃ A c,v=.slice A (gsT n.toNat).length c/\Own w w0.heap.size 59 3 encG A c (gsT n.toNat)/\Below w0.heap.size w0 w):=by
 refine enter Tryz.func111 O 18 O O ?_;intro a b
 have d:=bz w0
 refine Zs b fun _ aF=>?_;refine Za O<|ZX aF fun a b _ aG=>?_;refine Zs b fun _ aH=>?_;refine Zm O<|Ze (X13 O O)<|Zt aH fun a b=>?_
 refine X04 b O (fun aA=>?_) (fun aA=>?_)
 ·have aI:n=1:=by simpa using aA
  refine Zs b fun _ aJ=>?_;refine Ze (Xi (ps:=[(0,vi 1)]) (cs:=[vi 1,vi 0,vi 0]) O (fun _=>by first|rfl|kernel_rfl))<|Ze (Xi (ps:=[(0,vi 5)]) (cs:=[vi 5,vi 0,vi 0]) O (fun _=>by first|rfl|kernel_rfl))<|Ze (Xi (ps:=[(0,vi 7)]) (cs:=[vi 7,vi 0,vi 0]) O (fun _=>by first|rfl|kernel_rfl))<|Zf (X2 (k:=3) (vs:=[.agg #[vi 1,vi 0,vi 0],.agg #[vi 5,vi 0,vi 0],.agg #[vi 7,vi 0,vi 0]]) (zs:=[vi 1,vi 0,vi 0,vi 5,vi 0,vi 0,vi 7,vi 0,vi 0]) O Xa Xc O O) ?_;rintro _ w1 ⟨b7,rfl,aK,hE,aL⟩;have aC:=Q0 d.size aK;have d:=btr d hE;refine Za O<|Zt aJ fun a b=>?_;refine Q6<|X5<|X4 b (Xv b O O) ?_
  subst aI
  exact ⟨(some ⟨b7,0,none⟩),3,O,((Own.of_blkL X9 aL aC O O O4) : Own _ _ _ _ encG _ _ (gsT 1)),d⟩
 have aM:n=2:=by have h9:¬ n=1:=(by simpa using aA);omega
 refine Q7<|aG _ _<|Zs b fun _ aN=>?_;refine Ze (Xi (ps:=[(0,vi 1)]) (cs:=[vi 1,vi 0,vi 0]) O (fun _=>by first|rfl|kernel_rfl))<|Ze (Xi (ps:=[(0,vi 1),(1,vi 1)]) (cs:=[vi 1,vi 1,vi 0]) O (fun _=>by first|rfl|kernel_rfl))<|Ze (Xi (ps:=[(0,vi 5)]) (cs:=[vi 5,vi 0,vi 0]) O (fun _=>by first|rfl|kernel_rfl))<|Ze (Xi (ps:=[(0,vi 5),(1,vi 1)]) (cs:=[vi 5,vi 1,vi 0]) O (fun _=>by first|rfl|kernel_rfl))<|Ze (Xi (ps:=[(0,vi 7)]) (cs:=[vi 7,vi 0,vi 0]) O (fun _=>by first|rfl|kernel_rfl))<|Ze (Xi (ps:=[(0,vi 7),(1,vi 1)]) (cs:=[vi 7,vi 1,vi 0]) O (fun _=>by first|rfl|kernel_rfl))<|Ze (Xi (ps:=[(0,vi 9),(2,vi 1)]) (cs:=[vi 9,vi 0,vi 1]) O (fun _=>by first|rfl|kernel_rfl))<|Ze (Xi (ps:=[(0,vi 9),(1,vi 1)]) (cs:=[vi 9,vi 1,vi 0]) O (fun _=>by first|rfl|kernel_rfl))<|Zf (X2 (k:=8) (vs:=[.agg #[vi 1,vi 0,vi 0],.agg #[vi 1,vi 1,vi 0],.agg #[vi 5,vi 0,vi 0],.agg #[vi 5,vi 1,vi 0],.agg #[vi 7,vi 0,vi 0],.agg #[vi 7,vi 1,vi 0],.agg #[vi 9,vi 0,vi 1],.agg #[vi 9,vi 1,vi 0]]) (zs:=[vi 1,vi 0,vi 0,vi 1,vi 1,vi 0,vi 5,vi 0,vi 0,vi 5,vi 1,vi 0,vi 7,vi 0,vi 0,vi 7,vi 1,vi 0,vi 9,vi 0,vi 1,vi 9,vi 1,vi 0]) O Xa Xc O O) ?_;rintro _ w2 ⟨aO,rfl,aD,hE,aE⟩;have aB:=Q0 d.size aD;have d:=btr d hE;refine Za O<|Zt aN fun a b=>?_
 refine Q6 (X4 b (Xv b O O) ?_)
 subst aM
 exact ⟨(some ⟨aO,0,none⟩),8,O,((Own.of_blkL X9 aE aB O O O4) : Own _ _ _ _ encG _ _ (gsT 2)),d⟩
theorem Y2w(m:World)(Al:Option Addr)(cl:Nat)(l:List Dy)(aC:Rd m m.heap.size 139 encD Al l)(kq:FuncId)(pq:List Value)(Fq:FuncF Tryz.prog kq)(q:Dy->Bool)(hq:∀ x w,Below m.heap.size m w->Ret Tryz.prog kq ([dV x]++pq) w (fun v w'=>v=.bool (q x)/\Below w.heap.size w w'))(aR:l.length<=2305843009213693951) : Ret Tryz.prog 145 [.slice Al l.length cl,.func (.func kq) #[] pq.toArray] m (fun v w=>v=vi (idxF l q)/\Below m.heap.size m w):=by
 refine enter Tryz.func145 O 19 O O ?_;intro a e
 have n:=bz m
 refine Zs e fun _ aI=>?_;refine Za O<|ZX aI fun a e _ aJ=>?_;refine Zs e fun _ aK=>?_;refine Zm O<|Ze (X0o O X1h)<|Zm O<|Zt aK fun a e=>?_;refine Q8<|X0d (σ:=Nat) (fun (k:Nat) (a:Act) (w:World)=>Fr a 19 [(0,.slice Al l.length cl),(1,.func (.func kq) #[] pq.toArray),(7,vi (l.length:Int)),(8,vi (k:Int))]/\(k<=l.length)/\((l.take k).all (fun x=>!q x)=true)/\Below m.heap.size m w) (fun (k:Nat)=>l.length+1-k) 0 ?_ ?_
 ·exact ⟨e.sb,(Qf _),O5,n⟩
 rintro k a w1 ⟨e,hk,i,n⟩;refine Zs e fun _ aL=>?_;refine Ze (X16 O O)<|ZX aL fun a e _ aM=>?_
 refine X12 e O (fun aD aN=>?_) (fun aD aN=>?_)
 ·obtain ⟨f,aA⟩:=Xj (l:=l) (k:=k) Z
  refine Q7<|aM _ _<|Q5 fun _ aO=>?_;refine Q8<|Zs e fun _ aE=>?_;refine Zm O<|Za O<|Zx aE fun a e _ aF=>?_;refine Zm O<|Zm O<|Zm O<|Zi (k:=k) (u:=f) (enc:=encD) (l:=l) tv0 O O X1h X09 X1e (aC.bx n) aA O ?_;intro aS aB;refine Ze (Xx (l:=[vi f.num.a,vi f.num.b,vi f.num.c,vi f.num.d,vi f.exp]) O Xr aB O)<|Zf (X6p (cs:=pq) (vs:=[.agg #[vi f.num.a,vi f.num.b,vi f.num.c,vi f.num.d,vi f.exp]]) O O Fq (hq f _ n)) ?_;rintro _ w2 ⟨rfl,hE⟩;have n:=btr n hE;refine Zt aF fun a e=>?_
  refine X04 e O (fun g=>?_) (fun g=>?_)
  ·have j:idxF l q=(k:Int):=Xy8 i aA g
   refine Zs e fun _ aG=>?_;refine Zm O<|Za O<|Zt aG fun a e=>?_;refine Q6<|Xo<|X5<|X5 ?_;refine Xo<|X5<|X4 e (Xv e O O) ?_;exact ⟨by rw [j],n⟩
  have aP:=g
  have aQ:(!q f)=true:=by revert g;cases q f<;>simp
  refine Q7<|Xn<|aO _ _<|Zr e ?_;refine Ze (X03 O O Z Z)<|Zm O ?_;refine Zn fun a e=>?_;refine Xd ?_;exact ⟨k+1,⟨e.sb,Z,(X2g i aA aQ),n⟩,Z⟩
 refine Q9<|Xm<|Xm<|X0a ?_;refine aJ _ _<|Zs e fun _ aH=>?_;refine Za O<|Zt aH fun a e=>?_
 refine Q6 (X4 e (Xv e O O) ?_)
 have j:idxF l q = -1:=Xoz (X2w (X28 i Z))
 exact ⟨by rw [j],n⟩
theorem Xzo(W:World)(m:Mx)(Am:Option Addr)(cm:Nat)(G:Rd W W.heap.size 139 encD Am m.cells)(aS:m.cells.length<=2305843009213693951) : Ret Tryz.prog 102 [.agg #[vi m.rows,vi m.cols,.slice Am m.cells.length cm]] W (fun v w=>∃ A c,v=.tuple #[mV A c (canM m),vi (canT m),.bool (canY m)]/\Own w W.heap.size 139 5 encD A c (canM m).cells/\Below W.heap.size W w):=by
 refine enter Tryz.func102 O 61 O O ?_;intro a q
 have n:=bz W
 refine Zs q fun _ cR=>?_;refine Zf (X0m (zs:=[vi m.rows,vi m.cols,.slice Am m.cells.length cm]) O O) ?_;rintro _ w1 ⟨b3,rfl,cS,e,g⟩;have dB:=Q0 n.size cS;have n:=btr n e;refine Zf (Xl (zs:=[vi 0,vi 0,.slice none 0 0]) X1r O) ?_;rintro _ w2 ⟨b5,rfl,cT,e,f⟩
 have cQ:b3≠b5:=by have:=g.lt;omega
 have aY:=Q0 n.size cT;have g:=g.bw e;have n:=btr n e;refine Za O<|Za O<|Zx cR fun a q _ cU=>?_;refine Ze (Vd O X1l 2)<|Ze (X0 O X2f (g.at 2))<|Zf (X23 (vs:=[.slice Am m.cells.length cm,.func (.func 146) #[] #[]]) O Xok (Y2w _ Am cm m.cells (G.bx n).top 146 [] Xse (fun x=>decide (x≠dZ)) (fun x w1 dC=>Xzs w1 x) aS)) ?_;rintro _ w3 ⟨rfl,e⟩;have g:=g.bw e;have f:=f.bw e;have n:=btr n e;refine Za O<|ZX cU fun a q _ cV=>?_;refine Q5 fun _ cW=>?_;refine X0f (fun a w=>Fr a 61 [(1,(pZ9 b3)),(2,(pZ9 b5)),(5,vi (idxF m.cells (fun x=>decide (x≠dZ)))),(22,.bool ((!(mOk m))||(decide ((idxF m.cells (fun x=>decide (x≠dZ)))<0))))]/\Below w3.heap.size w3 w) ?_ ?_
 ·have p:Below w3.heap.size w3 w3:=Below.refl _ _
  refine Zr q<|Ze (Vn X0j g)<|Zf (Vc (Xl1 _ m Am cm (G.bx n).top aS) X87) ?_;rintro _ w4 ⟨rfl,e⟩;have n:=btr n e;have p:=btr p e;refine Ze (X0x O)<|Zm O ?_
  refine Zg 19 O (fun D=>?_) (fun D=>?_)
  ·(iterate 2 refine Zp (gP D) ?_);refine Ze (Xf O D O) ?_;refine Zn fun a q=>?_;exact ⟨q.sub ⟨O,O,O,X1 O (by first|rfl|(simp only [D,bs];done)|simp [D]),trivial⟩,p⟩
  refine Zv (gW D) (X7 O) ?_;refine Zv (gW D) (X16 O O) ?_;refine Ze (Xb O D O) ?_;refine Zn fun a q=>?_;exact ⟨q.sub ⟨O,O,O,X1 O (by first|rfl|(simp only [D,bs];done)|simp [D]),trivial⟩,p⟩
 rintro a w5 ⟨q,e⟩;have g:=g.bw e;have f:=f.bw e;have n:=btr n e;refine cW _ _ ?_
 refine X04 q O (fun aA=>?_) (fun aA=>?_)
 ·have cX:=aA
  have bY:canM m=mZ/\canT m=0/\canY m=false:=by
   rcases (by simpa using aA:mOk m=false∨idxF m.cells (fun x=>decide (x≠dZ))<0) with h9|h9
   ·exact Xrh h9
   ·exact Xn9 (Xn6 h9)
  refine Zs q fun _ bZ=>?_;refine Ze (Xi (ps:=[]) (cs:=[vi 0,vi 0,.slice none 0 0]) O (fun _=>by first|rfl|kernel_rfl))<|Zo (Vw [vi 0,vi 0,.slice none 0 0] X19 f) ?_;rintro _ w6 ⟨M,hb⟩;have n:=Below.oy n M aY;have f:=hb;refine Za O<|Za O<|Zt bZ fun a q=>?_;refine Q6<|X5<|X4 q (X99 q O (ResV.cellN (l:=[vi 0,vi 0,.slice none 0 0]) O X0j (f.at 0) O) O O) ?_;obtain ⟨aC,b2,b4⟩:=bY;exact ⟨none,0,by rw [aC,b2,b4];rfl,by rw [aC];exact (Own.nil _ _ _ _ _),n⟩
 have cY:mOk m=true/\¬ idxF m.cells (fun x=>decide (x≠dZ))<0:=by simpa using aA
 obtain ⟨b6,d5⟩:=cY;obtain ⟨j0,y,b7,aT⟩:=Xte d5
 have c4:rOk y.num=true:=X5s (X25 b6 y (Qe aT))
 have d6:=Xn5 b7 aT;refine Q7<|cV _ _<|Q5 fun _ cA=>?_;refine X08 none (fun j=>[8].contains j) mixed ?_;intro w7 e;have g:=g.bw e;have f:=f.bw e;have n:=btr n e;refine Yb q<|Yo 0 O (fun _=>Vd O X1l 2)<|Ye 1 O (X0 O X2f (g.at 2))<|Yo 2 O (fun _=>X7 O)<|Yi (k:=j0) (u:=y) (enc:=encD) (l:=m.cells) 3 O tv0 O O X1h X09 X1e (G.bx n) aT b7 ?_;intro dD b8;refine Yo 4 O (fun _=>Xmt O X1q)<|Ye 5 O (Xx (l:=[vi y.num.a,vi y.num.b,vi y.num.c,vi y.num.d]) O X0k ((b8.drop 0).take 4) O)<|Y1 6 ?_;refine Yk O tv0 (Xl (zs:=[vi 0,vi 0,vi 0,vi 0]) X2c O) (fun _ _ ⟨_,_,_,h,_⟩=>h) ?_;rintro _ w8 ⟨b9,rfl,cB,e,o⟩;have aD:=Q0 n.size cB;have g:=g.bw e;have f:=f.bw e;have n:=btr n e;refine Yo 7 O (fun _=>X0y O)<|Y1 8 ?_;refine Yh O tv0 O (Vw [vi y.num.a,vi y.num.b,vi y.num.c,vi y.num.d] X1c o) ?_;rintro _ w9 ⟨M,hb⟩;have g:=g.oz M o O;have f:=f.oz M o O;have n:=Below.oy n M aD;have o:=hb;refine Yd fun a q=>?_;refine cA _ _<|Q5 fun _ cC=>?_;refine Zs q fun _ cD=>?_;refine Za O<|Zt cD fun a q=>?_;refine Q8<|X0d (σ:=Nat×Nat) (fun (s:Nat×Nat) (a:Act) (w:World)=>match s with|(i,b)=>Fr a 61 [(1,(pZ9 b3)),(2,(pZ9 b5)),(5,vi (idxF m.cells (fun x=>decide (x≠dZ)))),(6,vi (b:Int)),(7,(pZ9 b9)),(8,vi ((i+1:Nat) : Int))]/\(i<=7)/\(b<=7)/\(b=bestT y.num i)/\Blk w b3 92 [vi m.rows,vi m.cols,.slice Am m.cells.length cm]/\Blk w b5 92 [vi 0,vi 0,.slice none 0 0]/\Blk w b9 137 [vi ((rTurnN b y.num).a),vi ((rTurnN b y.num).b),vi ((rTurnN b y.num).c),vi ((rTurnN b y.num).d)]/\Below W.heap.size W w) (fun (s:Nat×Nat)=>match s with|(i,b)=>7-i) (0,0) ?_ ?_
 ·exact ⟨q.sb,Z,Z,O,g,f,o,n⟩
 rintro ⟨i,b⟩ a w10 ⟨q,dE,dF,bC,g,f,o,n⟩;refine Q5 fun _ cE=>?_;refine Zs q fun _ cF=>?_;refine Zm O<|Ze (X16 O O)<|Zt cF fun a q=>?_
 refine X12 q O (fun bD cG=>?_) (fun bD cG=>?_)
 ·refine Q7<|cE _ _<|Q5 fun _ aZ=>?_;refine Q8<|Zs q fun _ cH=>?_;refine Ze (Vd O X1l 2)<|Ze (X0 O X2f (g.at 2))<|Zm O<|Zi (k:=j0) (u:=y) (enc:=encD) (l:=m.cells) tv0 O O X1h X09 X1e (G.bx n) aT b7 ?_;intro dG bE;refine Ze (Xmt O X1q)<|Ze (Xx (l:=[vi y.num.a,vi y.num.b,vi y.num.c,vi y.num.d]) O X0k ((bE.drop 0).take 4) O)<|Zm O<|Zf (X23 (vs:=[.agg #[vi y.num.a,vi y.num.b,vi y.num.c,vi y.num.d],vi ((i+1:Nat) : Int)]) O Xoh (by have hq:=Xzg w10 y.num ((i+1:Nat) : Int);rw [(Xk0 c4 (by omega:i+1<8)).1,(Xk0 c4 (by omega:i+1<8)).2] at hq;exact hq)) ?_;rintro _ dH ⟨rfl,e⟩;have g:=g.bw e;have f:=f.bw e;have o:=o.bw e;have n:=btr n e;refine Zm O<|Ze (X3 (vs:=[.agg #[vi ((rTurnN (i+1) y.num).a),vi ((rTurnN (i+1) y.num).b),vi ((rTurnN (i+1) y.num).c),vi ((rTurnN (i+1) y.num).d)],.bool true]) O O)<|Ze (X3 (vs:=[.agg #[vi ((rTurnN (i+1) y.num).a),vi ((rTurnN (i+1) y.num).b),vi ((rTurnN (i+1) y.num).c),vi ((rTurnN (i+1) y.num).d)],.bool true]) O O) ?_;refine ZB [vi ((rTurnN (i+1) y.num).a),vi ((rTurnN (i+1) y.num).b),vi ((rTurnN (i+1) y.num).c),vi ((rTurnN (i+1) y.num).d)] X2c X1c fun b26 dI cI e H=>?_
  have bX:b9≠b26:=by have:=o.lt;omega
  have d7:=Q0 n.size cI;have g:=g.bw e;have f:=f.bw e;have o:=o.bw e;have n:=btr n e;refine Za O<|Zx cH fun a q _ cJ=>?_;refine Ze (Vn X0k H)<|Ze (Vn X0k o)<|Zf (Vc (Xzt _ (rTurnN (i+1) y.num) (rTurnN b y.num)) Xsf) ?_;rintro _ dJ ⟨rfl,e⟩;have g:=g.bw e;have f:=f.bw e;have o:=o.bw e;have H:=H.bw e;have n:=btr n e;refine Ze (X29 O O)<|Zt cJ fun a q=>?_
  refine X12 q O (fun bF aE=>?_) (fun bF aE=>?_)
  ·have bG:i+1=bestT y.num (i+1):=by subst bC;have h8:=decide_eq_true aE;rw [Xio] at h8;rw [bestT,Q4 h8]
   refine X08 none (fun j=>[3].contains j) mixed ?_;intro dK e;have g:=g.bw e;have f:=f.bw e;have o:=o.bw e;have H:=H.bw e;have n:=btr n e;refine Yb q<|Yo 0 O (fun _=>X7 O)<|Ye 1 O (Vn X0k H)<|Yo 2 O (fun _=>X0y O)<|Y1 3 ?_;refine Yh O tv0 O (Vw [vi ((rTurnN (i+1) y.num).a),vi ((rTurnN (i+1) y.num).b),vi ((rTurnN (i+1) y.num).c),vi ((rTurnN (i+1) y.num).d)] X1c o) ?_;rintro _ dL ⟨M,hb⟩;have g:=g.oz M o O;have f:=f.oz M o O;have n:=Below.oy n M aD;have o:=hb;refine Yd fun a q=>?_;refine Xn<|aZ _ _<|Zr q<|Zm O<|Ze (X03 O O Z Z)<|Za O ?_;refine Zn fun a q=>?_;refine Xd ?_;exact ⟨(i+1,i+1),⟨q.sb,Z,Z,bG,g,f,o,n⟩,O1⟩
  have bG:b=bestT y.num (i+1):=by subst bC;have h8:=decide_eq_false aE;rw [Xio] at h8;rw [bestT,Q3 (by rw [h8];decide)]
  refine Q7<|Xn<|aZ _ _<|Zr q ?_;refine Zm O<|Ze (X03 O O Z Z)<|Za O ?_;refine Zn fun a q=>?_;refine Xd ?_;exact ⟨(i+1,b),⟨q.sb,Z,Z,bG,g,f,o,n⟩,O1⟩
 have d8:i=7:=by omega
 have cK:turnK y.num=b:=by rw [bC,d8];rfl
 have cL:scaleI m (dPow (b:Int))=some ⟨m.rows,m.cols,m.cells.map (dTurn (b:Int))⟩:=X71 b6 Z
 refine Q9<|Xm<|Xm<|X0a ?_;refine cC _ _<|Q5 fun _ cM=>?_;refine X0f (fun a w=>∃ z B C,Fr a 61 [(2,(pZ9 b5)),(6,vi (b:Int)),(11,(pZ9 z)),(12,.bool true)]/\W.heap.size<=z/\Blk w z 92 [vi m.rows,vi m.cols,.slice B (m.cells.map (dTurn (b:Int))).length C]/\b3≠z/\b5≠z/\Own w W.heap.size 139 5 encD B C (m.cells.map (dTurn (b:Int)))/\Below w10.heap.size w10 w) ?_ ?_
 ·have p:Below w10.heap.size w10 w10:=Below.refl _ _
  refine X08 none (fun j=>[8].contains j) mixed ?_;intro w17 e;have g:=g.bw e;have f:=f.bw e;have n:=btr n e;have p:=btr p e;refine Yb q<|Ye 0 O (Vn X0j g)<|Yo 1 O (fun _=>X7 O) ?_
  have t:Below w17.heap.size w17 w17:=Below.refl _ _
  refine Yc [0,1,2,3,4,5,6,7] 2 (fun a w=>∃ z B C,Fr a 61 [(2,(pZ9 b5)),(6,vi (b:Int)),(11,(pZ9 z)),(56,.agg #[vi m.rows,vi m.cols,.slice B (m.cells.map (dTurn (b:Int))).length C]),(57,.bool true)]/\W.heap.size<=z/\Blk w z 92 [vi 0,vi 0,.slice none 0 0]/\b3≠z/\b5≠z/\w17.heap.size<=z/\w10.heap.size<=z/\Own w W.heap.size 139 5 encD B C (m.cells.map (dTurn (b:Int)))/\Below w17.heap.size w17 w) ?_ ?_
  ·rintro a dM ⟨z,B,C,q,U,I,N,Q,bH,bI,E,e⟩;clear t;have t:=e;have n:=btr n e;have p:=btr p e;refine Yb q<|Y1 8<|Yh O tv0 O (Vw [vi m.rows,vi m.cols,.slice B (m.cells.map (dTurn (b:Int))).length C] X19 I) ?_;rintro _ dN ⟨M,hb⟩;have E:=E.oT M I O;have p:=Below.oy p M bI;have t:=Below.oy t M bH;have n:=Below.oy n M U;have I:=hb;refine Yo 9 O (fun _=>X0y O) ?_;refine Yd fun a q=>?_;exact ⟨z,B,C,q.sb,U,I,N,Q,E,p⟩
  intro b0;refine Yc [0,1,2,7] 6 (fun a w=>∃ L,Fr a 61 [(2,(pZ9 b5)),(6,vi (b:Int)),(11,(pZ9 L)),(52,.agg #[vi m.rows,vi m.cols,.slice Am m.cells.length cm]),(54,.agg #[vi ((dPow (b:Int)).num.a),vi ((dPow (b:Int)).num.b),vi ((dPow (b:Int)).num.c),vi ((dPow (b:Int)).num.d),vi ((dPow (b:Int)).exp)])]/\W.heap.size<=L/\Blk w L 92 [vi 0,vi 0,.slice none 0 0]/\b3≠L/\b5≠L/\w17.heap.size<=L/\w10.heap.size<=L/\Below w17.heap.size w17 w) ?_ ?_
  ·rintro a d9 ⟨L,q,bJ,aF,aG,aH,bK,bL,e⟩;clear t;have t:=e;have n:=btr n e;have p:=btr p e;refine Yb q<|Y1 3<|Yf O tv0 (EfW.mono (X23 (vs:=[.agg #[vi m.rows,vi m.cols,.slice Am m.cells.length cm],.agg #[vi ((dPow (b:Int)).num.a),vi ((dPow (b:Int)).num.b),vi ((dPow (b:Int)).num.c),vi ((dPow (b:Int)).num.d),vi ((dPow (b:Int)).exp)]]) O Xdm (by have hq:=Xqy d9 m Am cm (G.bx n).top (dPow (b:Int)) aS;rw [cL,Qq,Option.isSome_some] at hq;exact hq)) (fun _ _ h=>⟨fun _=>by obtain ⟨aU,aV,rfl,aB,e⟩:=h;exact e,h⟩)) ?_;rintro _ dO ⟨aU,aV,rfl,aB,e⟩;have aB:=aB.lower n.size;have aF:=aF.bw e;have n:=btr n e;have p:=btr p e;have t:=btr t e;refine Yo 4 O (fun _=>X7 O)<|Yo 5 O (fun _=>X3 (vs:=[.agg #[vi m.rows,vi m.cols,.slice aU (m.cells.map (dTurn (b:Int))).length aV],.bool true]) O O)<|Yo 6 O (fun _=>X3 (vs:=[.agg #[vi m.rows,vi m.cols,.slice aU (m.cells.map (dTurn (b:Int))).length aV],.bool true]) O O) ?_;exact fun a q=>b0 _ a _ O ⟨L,aU,aV,q.sb,bJ,aF,aG,aH,bK,bL,aB,t⟩
  intro b1;refine Y2 2 7 ?_ ?_
  ·refine Yk O tv0 (Vc (Xbh _ (b:Int) (by unfold inR;simp;omega)) X48) (fun _ _ ⟨_,e⟩=>e) ?_;rintro _ dA ⟨rfl,e⟩;have g:=g.bw e;have f:=f.bw e;have n:=btr n e;have p:=btr p e;have t:=btr t e;refine Y2 3 7 ?_ ?_
   ·refine Yf O tv0 (EfW.mono (X23 (vs:=[.agg #[vi m.rows,vi m.cols,.slice Am m.cells.length cm],.agg #[vi ((dPow (b:Int)).num.a),vi ((dPow (b:Int)).num.b),vi ((dPow (b:Int)).num.c),vi ((dPow (b:Int)).num.d),vi ((dPow (b:Int)).exp)]]) O Xdm (by have hq:=Xqy dA m Am cm (G.bx n).top (dPow (b:Int)) aS;rw [cL,Qq,Option.isSome_some] at hq;exact hq)) (fun _ _ h=>⟨fun _=>by obtain ⟨aW,aX,rfl,J,e⟩:=h;exact e,h⟩)) ?_;rintro _ dP ⟨aW,aX,rfl,J,e⟩;have J:=J.lower n.size;have g:=g.bw e;have f:=f.bw e;have n:=btr n e;have p:=btr p e;have t:=btr t e;refine Yo 4 O (fun _=>X7 O)<|Yo 5 O (fun _=>X3 (vs:=[.agg #[vi m.rows,vi m.cols,.slice aW (m.cells.map (dTurn (b:Int))).length aX],.bool true]) O O)<|Yo 6 O (fun _=>X3 (vs:=[.agg #[vi m.rows,vi m.cols,.slice aW (m.cells.map (dTurn (b:Int))).length aX],.bool true]) O O)<|Y1 7 ?_;refine Yk O tv0 (Xl (zs:=[vi 0,vi 0,.slice none 0 0]) X1r O) (fun _ _ ⟨_,_,_,h,_⟩=>h) ?_;rintro _ dQ ⟨b37,rfl,aI,e,cN⟩
    have aJ:b3≠b37:=by have:=g.lt;omega
    have aK:b5≠b37:=by have:=f.lt;omega
    have bM:=Q0 n.size aI;have bN:=Q0 p.size aI;have bO:=Q0 t.size aI;have J:=J.bw e;have n:=btr n e;have p:=btr p e;have t:=btr t e;exact fun a q=>b0 _ a _ O ⟨b37,aW,aX,q.sb,bM,cN,aJ,aK,bO,bN,J,t⟩
   refine Yk O tv0 (Xl (zs:=[vi 0,vi 0,.slice none 0 0]) X1r O) (fun _ _ ⟨_,_,_,h,_⟩=>h) ?_;rintro _ dR ⟨b39,rfl,aL,e,cO⟩
   have aM:b3≠b39:=by have:=g.lt;omega
   have aN:b5≠b39:=by have:=f.lt;omega
   have bP:=Q0 n.size aL;have bQ:=Q0 p.size aL;have bR:=Q0 t.size aL;have n:=btr n e;have p:=btr p e;have t:=btr t e;exact fun a q=>b1 _ a _ O ⟨b39,q.sb,bP,cO,aM,aN,bR,bQ,t⟩
  refine Yk O tv0 (Xl (zs:=[vi 0,vi 0,.slice none 0 0]) X1r O) (fun _ _ ⟨_,_,_,h,_⟩=>h) ?_;rintro _ dS ⟨b41,rfl,aO,e,aP⟩
  have aQ:b3≠b41:=by have:=g.lt;omega
  have aR:b5≠b41:=by have:=f.lt;omega
  have bS:=Q0 n.size aO;have bU:=Q0 p.size aO;have bW:=Q0 t.size aO;have n:=btr n e;have p:=btr p e;have t:=btr t e;refine Y1 2<|Yk O tv0 (Vc (Xbh _ (b:Int) (by unfold inR;simp;omega)) X48) (fun _ _ ⟨_,e⟩=>e) ?_;rintro _ dT ⟨rfl,e⟩;have aP:=aP.bw e;have n:=btr n e;have p:=btr p e;have t:=btr t e;exact fun a q=>b1 _ a _ O ⟨b41,q.sb,bS,aP,aQ,aR,bW,bU,t⟩
 rintro a dU ⟨z,B,C,q,U,I,N,Q,E,e⟩;have f:=f.bw e;have n:=btr n e;refine cM _ _<|Zs q fun _ cP=>?_;refine Ze (Vn X0j I)<|Zm O<|Zm O<|Zo (Vw [vi m.rows,vi m.cols,.slice B (m.cells.map (dTurn (b:Int))).length C] X19 f) ?_;rintro _ dW ⟨M,hb⟩;have E:=E.oT M f O;have n:=Below.oy n M aY;have f:=hb;refine Za O<|Za O<|Zt cP fun a q=>?_
 refine Q6 (X4 q (X99 q O (ResV.cellN (l:=[vi m.rows,vi m.cols,.slice B (m.cells.map (dTurn (b:Int))).length C]) O X0j (f.at 0) O) O O) ?_)
 obtain ⟨aC,b2,b4⟩:=Xna b6 d6;exact ⟨B,C,by rw [aC,b2,b4,cK],by rw [aC,cK];exact E,n⟩
theorem Xzw(g:World)(Al:Option Addr)(cl:Nat)(l:List Int)(aE:Rd g g.heap.size 3 encI Al l)(z:ByteArray)(aP:l.length<=1000)(aQ:z.size<=100)(aA:∀ n ∈ l,-9223372036854775808<=n/\n<=9223372036854775807)(aF:PowT g) : Ret Tryz.prog 190 [.slice Al l.length cl,.string z] g (fun v w=>v=.string (jnI l z)/\Below g.heap.size g w):=by
 refine enter Tryz.func190 O 24 O O ?_;intro a b
 have c:=bz g
 refine Zs b fun _ aR=>?_;refine Za O<|Zx aR fun a b _ aS=>?_;refine Zf (X2 (k:=0) (vs:=[]) (zs:=[]) O X6d Xch O O) ?_;rintro _ w1 ⟨b4,rfl,aT,m,aU⟩;have aG:=Q0 c.size aT;have c:=btr c m;refine Za O<|ZX aS fun a b _ aV=>?_;refine Zs b fun _ aW=>?_;refine Zm O<|Ze (X0o O Xy)<|Zm O<|Zt aW fun a b=>?_;refine Q8<|X0d (σ:=Nat×(List ByteArray)) (fun (s:Nat×(List ByteArray)) (a:Act) (w:World)=>match s with|(k,q)=>∃ A8 c8,Fr a 24 [(1,.string z),(5,.slice A8 q.length c8),(9,.slice Al l.length cl),(10,vi (l.length:Int)),(11,vi (k:Int))]/\(k<=l.length)/\(q=(l.take k).map fun n=>tx (Lib.itoa n))/\(q.length=k)/\Own w g.heap.size 9 1 encTx A8 c8 q/\Below g.heap.size g w) (fun (s:Nat×(List ByteArray))=>match s with|(k,q)=>l.length-k) (0,[]) ?_ ?_
 ·exact ⟨some ⟨b4,0,none⟩,0,b.sb,(Qf _),O,O,(Own.empty aU aG),c⟩
 rintro ⟨k,q⟩ a w2 ⟨A8,c8,b,hk,hq,aH,d,c⟩;refine Zs b fun _ aX=>?_;refine Ze (X16 O O)<|ZX aX fun a b _ aI=>?_
 refine X12 b O (fun aB aJ=>?_) (fun aB aJ=>?_)
 ·obtain ⟨f,e⟩:=Xj (l:=l) (k:=k) Z
  refine Q7<|aI _ _<|Q5 fun _ aK=>?_;refine Q8<|Zs b fun _ aL=>?_;refine Zi (k:=k) (u:=f) (enc:=encI) (l:=l) tv0 O O Xy X1o Xt (aE.bx c) e O ?_;intro b1 aC;refine Ze (X0 O X8 aC)<|Za O<|Zt aL fun a b=>?_;refine Zr b<|Zm O<|Zm O<|Zf (Vc (Xur _ f (aA _ (Qe e)).1 (aA _ (Qe e)).2 (aF.of c)) Xj5) ?_;rintro _ w3 ⟨rfl,m⟩;have d:=d.bw m;have c:=btr c m;refine Zf (X2 (k:=1) (vs:=[.string (tx (Lib.itoa f))]) (zs:=[.string (tx (Lib.itoa f))]) O X6d Xch O O) ?_;rintro _ w4 ⟨b2,rfl,o,m,i⟩;have aY:=Q0 c.size o;have j:=d.away o;have d:=d.bw m;have c:=btr c m;refine Zf (X0i (enc:=encTx) (l:=(q)) (l2:=([tx (Lib.itoa f)])) (B0:=g.heap.size) O O X6d Xch X86 Xc1 d (Rd.of_blk i O _ i.lt) (by simp only [maxLen];simp;omega) O3 c.size) ?_;rintro _ w5 ⟨aZ,b0,rfl,aM,hg,aN⟩
  have p:Own _ g.heap.size 9 1 encTx _ _ (q):=d
  have aD:=aN _ i.lt j;clear aN;have c:=Below.app c p hg (Qb _) c.size;clear p hg;refine Za O ?_;refine Zn fun a b=>?_;refine Xn<|aK _ _<|Zr b<|Ze (X03 O O Z Z)<|Zm O ?_;refine Zn fun a b=>?_;refine Xd ?_;exact ⟨(k+1,(q++[tx (Lib.itoa f)])),⟨aZ,b0,b.sb,Z,(Xg2 hq e),(by simp;exact aH),aM,c⟩,O1⟩
 have t:q=l.map fun n=>tx (Lib.itoa n):=by rw [hq,Qi Z]
 refine Q9<|Xm<|Xm<|X0a ?_;refine aV _ _<|Zs b fun _ aO=>?_;refine Zm O<|Zm O<|Zf (Vc (Xuq _ A8 c8 q z d.rd.top d.cap (by rw [aH];omega) (by rw [t];exact Xls aP aQ aA)) Xj4) ?_;rintro _ w6 ⟨rfl,m⟩;have c:=btr c m;refine Za O<|Zt aO fun a b=>?_
 refine Q6 (X4 b (Xv b O O) ?_)
 exact ⟨by rw [t];rfl,c⟩
theorem Xzu(w0:World)(x:Rg)(aC:PowT w0) : Ret Tryz.prog 150 [.agg #[vi x.a,vi x.b,vi x.c,vi x.d]] w0 (fun v w=>v=.tuple #[.string (fmR x),.bool (rOk x)]/\Below w0.heap.size w0 w):=by
 refine enter Tryz.func150 O 17 O O ?_;intro a f
 have g:=bz w0
 refine Zs f fun _ aF=>?_;refine Zf (X0m (zs:=[vi x.a,vi x.b,vi x.c,vi x.d]) O O) ?_;rintro _ w1 ⟨b2,rfl,aG,i,e⟩;have aM:=Q0 g.size aG;have g:=btr g i;refine Za O<|Za O<|ZX aF fun a f _ aH=>?_;refine Zs f fun _ aI=>?_;refine Ze (Vn X0k e)<|Zf (Vc (Xl3 _ x) X89) ?_;rintro _ w2 ⟨rfl,i⟩;have e:=e.bw i;have g:=btr g i;refine Ze (X0x O)<|Zt aI fun a f=>?_
 refine X04 f O (fun aA=>?_) (fun aA=>?_)
 ·have aD:rOk x=false:=by simpa using aA
  refine Zs f fun _ aJ=>?_;refine Za O<|Za O<|Zt aJ fun a f=>?_;refine Q6<|X5<|X4 f (X0q f O O O) ?_;exact ⟨by rw [Xy7 (by simp [aD]),aD];rfl,g⟩
 have aB:rOk x=true:=by simpa using aA
 refine Q7<|aH _ _<|Zs f fun _ aK=>?_;refine Ze (Vd O X0s 0)<|Ze (X0 O X8 (e.at 0))<|Ze (Vd O X0u 1)<|Ze (X0 O X8 (e.at 1))<|Ze (Vd O X0v 2)<|Ze (X0 O X8 (e.at 2))<|Ze (Vd O X0w 3)<|Ze (X0 O X8 (e.at 3))<|Zf (X2 (k:=4) (vs:=[vi x.a,vi x.b,vi x.c,vi x.d]) (zs:=[vi x.a,vi x.b,vi x.c,vi x.d]) O Xy X1a O O) ?_;rintro _ w3 ⟨b8,rfl,aL,i,aE⟩;have aN:=Q0 g.size aL;have g:=btr g i;refine Zf (Vc (Xzw _ (some ⟨b8,0,none⟩) 4 ([x.a,x.b,x.c,x.d]) (Rd.of_blk aE O _ aE.lt) (tx [32]) O5 O4 (Xpx aB) (aC.of g)) Xsi) ?_;rintro _ w4 ⟨rfl,i⟩;have g:=btr g i;refine Za O<|Za O<|Zt aK fun a f=>?_
 refine Q6 (X4 f (X0q f O O O) ?_)
 exact ⟨by rw [Xe3 aB,aB];rfl,g⟩
theorem Xzp(w0:World)(x:Dy)(k:PowT w0) : Ret Tryz.prog 103 [.agg #[vi x.num.a,vi x.num.b,vi x.num.c,vi x.num.d,vi x.exp]] w0 (fun v w=>v=.tuple #[.string (fmD x),.bool (dOk x)]/\Below w0.heap.size w0 w):=by
 refine enter Tryz.func103 O 21 O O ?_;intro a f
 have g:=bz w0
 refine Zs f fun _ aC=>?_;refine Zf (X0m (zs:=[vi x.num.a,vi x.num.b,vi x.num.c,vi x.num.d,vi x.exp]) O O) ?_;rintro _ w1 ⟨b2,rfl,aD,j,e⟩;have aJ:=Q0 g.size aD;have g:=btr g j;refine Za O<|Za O<|ZX aC fun a f _ aE=>?_;refine Zs f fun _ aF=>?_;refine Ze (Vn Xr e)<|Zf (Vc (Xgy _ x) X6s) ?_;rintro _ w2 ⟨rfl,j⟩;have e:=e.bw j;have g:=btr g j;refine Ze (X0x O)<|Zt aF fun a f=>?_
 refine X04 f O (fun aA=>?_) (fun aA=>?_)
 ·have aB:dOk x=false:=by simpa using aA
  refine Zs f fun _ aG=>?_;refine Za O<|Za O<|Zt aG fun a f=>?_;refine Q6<|X5<|X4 f (X0q f O O O) ?_;exact ⟨by rw [Xy6 (by simp [aB]),aB];rfl,g⟩
 have i:dOk x=true:=by simpa using aA
 refine Q7<|aE _ _<|Zs f fun _ aH=>?_;refine Ze (Vd O X1q 0)<|Ze (Xx (l:=[vi x.num.a,vi x.num.b,vi x.num.c,vi x.num.d]) O X0k ((e.at 0).take 4) O)<|Zf (Vc (Xzu _ x.num (k.of g)) Xsg) ?_;rintro _ w3 ⟨rfl,j⟩;have e:=e.bw j;have g:=btr g j;refine Zm O<|Ze (X3 (vs:=[.string (fmR x.num),.bool (rOk x.num)]) O O)<|Ze (X3 (vs:=[.string (fmR x.num),.bool (rOk x.num)]) O O)<|Za O<|Za O<|Zx aH fun a f _ aI=>?_;refine Zm O<|Ze (Xmr O O (Xy4 i))<|Ze (Vd O X1m 4)<|Ze (X0 O X8 (e.at 4))<|Zf (Vc (Xur _ x.exp (X84 i).1 (X84 i).2 (k.of g)) Xj5) ?_;rintro _ w4 ⟨rfl,j⟩;have g:=btr g j;refine Ze (Xmr O O (Xy5 i))<|Za O<|Za O<|Zt aI fun a f=>?_
 refine Q6 (X4 f (X0q f O O O) ?_)
 exact ⟨by rw [<- Xt5 i,i];rfl,g⟩
theorem Xig(o:World)(m:Mx)(Am:Option Addr)(cm:Nat)(aE:Rd o o.heap.size 139 encD Am m.cells)(aW:m.cells.length<=2305843009213693951)(aF:PowT o) : Ret Tryz.prog 58 [.agg #[vi m.rows,vi m.cols,.slice Am m.cells.length cm]] o (fun v w=>v=.tuple #[.string (keyM m),.bool (canY m)]/\Below o.heap.size o w):=by
 have bF:=Xn8 m;refine enter Tryz.func58 O 39 O O ?_;intro a n
 have i:=bz o
 refine Zs n fun _ aX=>?_;refine Zf (X0m (zs:=[vi m.rows,vi m.cols,.slice Am m.cells.length cm]) O O) ?_;rintro _ w1 ⟨b3,rfl,aY,j,y⟩;have bD:=Q0 i.size aY;have i:=btr i j;refine Za O<|Za O<|Zx aX fun a n _ aZ=>?_;refine Ze (Vn X0j y)<|Zf (Vc (Xzo _ m Am cm (aE.bx i).top aW) Xsa) ?_;rintro _ w2 ⟨A5,c5,rfl,f,j⟩;have f:=f.lower i.size;have y:=y.bw j;have i:=btr i j;refine Zm O<|Ze (X3 (vs:=[.agg #[vi ((canM m).rows),vi ((canM m).cols),.slice A5 ((canM m).cells).length c5],vi (canT m),.bool (canY m)]) O O)<|Ze (X3 (vs:=[.agg #[vi ((canM m).rows),vi ((canM m).cols),.slice A5 ((canM m).cells).length c5],vi (canT m),.bool (canY m)]) O O)<|Ze (X3 (vs:=[.agg #[vi ((canM m).rows),vi ((canM m).cols),.slice A5 ((canM m).cells).length c5],vi (canT m),.bool (canY m)]) O O) ?_;refine ZB [vi ((canM m).rows),vi ((canM m).cols),.slice A5 ((canM m).cells).length c5] X1r X19 fun b7 w4 b0 j aA=>?_
 have aV:b3≠b7:=by have:=y.lt;omega
 have bE:=Q0 i.size b0;have f:=f.bw j;have i:=btr i j;refine Za O<|Za O<|Zx aZ fun a n _ b1=>?_;refine Zf (X2 (k:=0) (vs:=[]) (zs:=[]) O X6d Xch O O) ?_;rintro _ w5 ⟨b9,rfl,b2,j,b4⟩;have aG:=Q0 i.size b2;have aA:=aA.bw j;have f:=f.bw j;have i:=btr i j;refine Za O<|ZX b1 fun a n _ aH=>?_;refine Zs n fun _ aI=>?_;refine Ze (Vd O X1l 2)<|Ze (X0 O X2f (aA.at 2))<|Ze (X0o O X1h)<|Zm O<|Zt aI fun a n=>?_;refine Q8<|X0d (σ:=Nat×(List ByteArray)) (fun (s:Nat×(List ByteArray)) (a:Act) (w:World)=>match s with|(k,q)=>∃ z h,Fr a 39 [(6,.bool (canY m)),(7,.slice z q.length h),(20,.slice A5 ((canM m).cells).length c5),(21,vi (((canM m).cells).length:Int)),(22,vi (k:Int))]/\(k<=(canM m).cells.length)/\(q=((canM m).cells.take k).map fmD)/\(q.length=k)/\Own w o.heap.size 9 1 encTx z h q/\Own w o.heap.size 139 5 encD A5 c5 ((canM m).cells)/\Below o.heap.size o w) (fun (s:Nat×(List ByteArray))=>match s with|(k,q)=>(canM m).cells.length-k) (0,[]) ?_ ?_
 ·exact ⟨some ⟨b9,0,none⟩,0,n.sb,(Qf _),O,O,(Own.empty b4 aG),f,i⟩
 rintro ⟨k,q⟩ a w6 ⟨z,h,n,hk,hq,aJ,g,f,i⟩;refine Zs n fun _ aK=>?_;refine Ze (X16 O O)<|ZX aK fun a n _ aL=>?_
 refine X12 n O (fun aB aM=>?_) (fun aB aM=>?_)
 ·obtain ⟨e,A⟩:=Xj (l:=((canM m).cells)) (k:=k) Z
  refine Q7<|aL _ _<|Q5 fun _ aN=>?_;refine Q8<|Zs n fun _ aO=>?_;refine Zi (k:=k) (u:=e) (enc:=encD) (l:=(canM m).cells) tv0 O O X1h X09 X1e f.rd A O ?_;intro bG aC;refine Ze (Xx (l:=[vi e.num.a,vi e.num.b,vi e.num.c,vi e.num.d,vi e.exp]) O Xr aC O) ?_;refine ZB [vi e.num.a,vi e.num.b,vi e.num.c,vi e.num.d,vi e.exp] X1s X09 fun bH w8 aP j aQ=>?_;have b5:=Q0 i.size aP;have g:=g.bw j;have f:=f.bw j;have i:=btr i j;refine Zx aO fun a n _ aR=>?_;refine Ze (Vn Xr aQ)<|Zf (Vc (Xzp _ e (aF.of i)) Xsb) ?_;rintro _ w9 ⟨rfl,j⟩;have g:=g.bw j;have f:=f.bw j;have i:=btr i j;refine Zm O<|Ze (X3 (vs:=[.string (fmD e),.bool (dOk e)]) O O)<|Ze (X3 (vs:=[.string (fmD e),.bool (dOk e)]) O O)<|Za O<|Za O<|Zt aR fun a n=>?_;refine Zr n<|Zm O<|Zm O<|Zf (X2 (k:=1) (vs:=[.string (fmD e)]) (zs:=[.string (fmD e)]) O X6d Xch O O) ?_;rintro _ bI ⟨bJ,rfl,B,j,t⟩;have b6:=Q0 i.size B;have p:=g.away B;have g:=g.bw j;have f:=f.bw j;have i:=btr i j;refine Zf (X0i (enc:=encTx) (l:=(q)) (l2:=([fmD e])) (B0:=o.heap.size) O O X6d Xch X86 Xc1 g (Rd.of_blk t O _ t.lt) (by simp only [maxLen];simp;omega) O3 i.size) ?_;rintro _ bK ⟨b8,bC,rfl,aS,hg,aT⟩
  have x:Own _ o.heap.size 9 1 encTx _ _ (q):=g
  have aD:=aT _ t.lt p;clear aT;have f:=f.appT x hg O;have i:=Below.app i x hg (Qb _) i.size;clear x hg;refine Za O ?_;refine Zn fun a n=>?_;refine Xn<|aN _ _<|Zr n<|Ze (X03 O O Z Z)<|Zm O ?_;refine Zn fun a n=>?_;refine Xd ?_;exact ⟨(k+1,(q++[fmD e])),⟨b8,bC,n.sb,Z,(Xg2 hq A),(by simp;exact aJ),aS,f,i⟩,O1⟩
 have C:q=(canM m).cells.map fmD:=by rw [hq,Qi Z]
 refine Q9<|Xm<|Xm<|X0a ?_;refine aH _ _<|Zs n fun _ aU=>?_;refine Zm O<|Zf (Vc (Xuq _ z h q (tx [44]) g.rd.top g.cap (by rw [aJ];omega) (by rw [C];exact Xhr m Z)) Xj4) ?_;rintro _ bL ⟨rfl,j⟩;have i:=btr i j;refine Zm O<|Za O<|Za O<|Zt aU fun a n=>?_
 refine Q6 (X4 n (X0q n O O O) ?_)
 exact ⟨by rw [C];rfl,i⟩
theorem Xzq(o:World)(n:Nat)(hn:n=1∨n=2) : Ret Tryz.prog 87 [vi (n:Int)] o (fun v w=>∃ A c,v=.slice A (gsT n).length c/\Own w o.heap.size 59 3 encG A c (gsT n)/\Below o.heap.size o w):=by
 refine enter Tryz.func87 O 34 O O ?_;intro a b
 have d:=bz o
 refine Zs b fun _ aX=>?_;refine Za O<|Zx aX fun a b _ aY=>?_;refine Zf (X2 (k:=0) (vs:=[]) (zs:=[]) O Xa Xc O O) ?_;rintro _ w1 ⟨b4,rfl,aZ,y,aA⟩;have aG:=Q0 d.size aZ;have d:=btr d y;refine Za O<|ZX aY fun a b _ b0=>?_;refine Zs b fun _ b1=>?_;refine Zf (X2 (k:=3) (vs:=[vi 1,vi 5,vi 7]) (zs:=[vi 1,vi 5,vi 7]) O Xy X1a O O) ?_;rintro _ w2 ⟨b8,rfl,b2,y,e⟩;have bH:=Q0 d.size b2;have aA:=aA.bw y;have d:=btr d y;refine Ze (X0o O Xy)<|Zm O<|Zt b1 fun a b=>?_;refine Q8<|X0d (σ:=Nat×(List Gt)) (fun (s:Nat×(List Gt)) (a:Act) (w:World)=>match s with|(i,q)=>∃ z h,Fr a 34 [(0,vi (n:Int)),(3,.slice z q.length h),(8,.slice (some ⟨b8,0,none⟩) ([1,5,7]).length 3),(9,vi (([1,5,7]).length:Int)),(10,vi (i:Int))]/\(i<=3)/\(q=tgL n i 0)/\Blk w b8 3 [vi 1,vi 5,vi 7]/\Own w o.heap.size 59 3 encG z h q/\Below o.heap.size o w) (fun (s:Nat×(List Gt))=>match s with|(i,q)=>3-i) (0,[]) ?_ ?_
 ·exact ⟨some ⟨b4,0,none⟩,0,b.sb,Z,O,e,(Own.empty aA aG),d⟩
 rintro ⟨i,q⟩ a w3 ⟨z,h,b,hi,hq,e,f,d⟩;refine Zs b fun _ aH=>?_;refine Ze (X16 O O)<|ZX aH fun a b _ aI=>?_
 refine X12 b O (fun aB p=>?_) (fun aB p=>?_)
 ·obtain ⟨bJ,bI⟩:=Xj (l:=([1,5,7])) (k:=i) Z
  obtain ⟨L,aJ⟩:=Xj (l:=([1,5,7] : List Int)) (k:=i) (by have h9:=p;simp at h9;simp;omega)
  have bK:i<3:=by have h9:=p;simp at h9;omega
  refine Q7<|aI _ _<|Q5 fun _ aK=>?_;refine Q8<|Zs b fun _ aL=>?_;refine Zi (k:=i) (u:=L) (enc:=encI) (l:=[1,5,7]) tv0 O O Xy X1o Xt (Rd.of_blk e O _ e.lt) aJ O ?_;intro bL aC;refine Ze (X0 O X8 aC)<|Za O<|Zx aL fun a b _ aM=>?_;refine Zm O<|Zm O<|Zt aM fun a b=>?_;refine Q8<|X0d (σ:=Nat×(List Gt)) (fun (s:Nat×(List Gt)) (a:Act) (w:World)=>match s with|(j,G)=>∃ H I,Fr a 34 [(0,vi (n:Int)),(3,.slice H G.length I),(5,vi L),(8,.slice (some ⟨b8,0,none⟩) ([1,5,7]).length 3),(9,vi (([1,5,7]).length:Int)),(10,vi (i:Int)),(14,vi (n:Int)),(15,vi (j:Int))]/\(j<=n)/\(G=tgL n i j)/\Blk w b8 3 [vi 1,vi 5,vi 7]/\Own w o.heap.size 59 3 encG H I G/\Below o.heap.size o w) (fun (s:Nat×(List Gt))=>match s with|(j,G)=>n-j) (0,q) ?_ ?_
  ·exact ⟨z,h,b.sb,(Qf _),hq,e,f,d⟩
  rintro ⟨j,G⟩ a w4 ⟨H,I,b,hj,J,e,g,d⟩;refine Zs b fun _ aN=>?_;refine Ze (X16 O O)<|ZX aN fun a b _ aO=>?_
  refine X12 b O (fun aD aP=>?_) (fun aD aP=>?_)
  ·refine Q7<|aO _ _<|Q5 fun _ aQ=>?_;refine Q8<|Zs b fun _ aR=>?_;refine Zm O<|Za O<|Zt aR fun a b=>?_;refine Zr b<|Zm O<|Zm O<|Zm O<|Ze (Xi (ps:=[(0,vi L),(1,vi (j:Int))]) (cs:=[vi L,vi (j:Int),vi 0]) O (fun _=>by first|rfl|kernel_rfl))<|Zf (X2 (k:=1) (vs:=[.agg #[vi L,vi (j:Int),vi 0]]) (zs:=[vi L,vi (j:Int),vi 0]) O Xa Xc O O) ?_;rintro _ w5 ⟨bM,rfl,M,y,B⟩;have b3:=Q0 d.size M;have t:=g.away M;have e:=e.bw y;have g:=g.bw y;have d:=btr d y;refine Zf (X0i (enc:=encG) (l:=(G)) (l2:=([(⟨L,(j:Int),0⟩ : Gt)])) (B0:=o.heap.size) O O Xa Xc X9 Xq g (Rd.of_blk B O _ B.lt) (by rw [J];have:=Xkv n i j;simp only [maxLen];simp;omega) (by rw [J];have:=Xkv n i j;simp;omega) d.size) ?_;rintro _ w6 ⟨b5,b6,rfl,aS,hg,C⟩
   have m:Own _ o.heap.size 59 3 encG _ _ (G):=g
   have aE:=C _ B.lt t;clear C;have e:=e.appT m hg O;have d:=Below.app d m hg (Qb _) d.size;clear m hg;refine Za O ?_;refine Zn fun a b=>?_;refine Xn<|aQ _ _<|Zr b<|Ze (X03 O O Z Z)<|Zm O ?_;refine Zn fun a b=>?_;refine Xd ?_;exact ⟨(j+1,(G++[⟨L,(j:Int),0⟩])),⟨b5,b6,b.sb,Z,(by rw [J];exact Xqn n aJ),e,aS,d⟩,O1⟩
  have b7:j=n:=by omega
  refine Q9<|Xm<|Xm<|X0a ?_;refine Xn<|aK _ _<|Zr b<|Ze (X03 O O Z Z)<|Zm O ?_;refine Zn fun a b=>?_;refine Xd ?_;exact ⟨(i+1,G),⟨H,I,b.sb,Z,(by rw [J,b7];exact Xu8 n Z),e,g,d⟩,O1⟩
 have b9:i=3:=by have h9:=p;simp at h9;omega
 subst b9
 refine Q9<|Xm<|Xm<|X0a ?_;refine b0 _ _<|Q5 fun _ N=>?_;refine Zs b fun _ aT=>?_;refine Zm O<|Ze (X13 O O)<|Zt aT fun a b=>?_
 refine X04 b O (fun D=>?_) (fun D=>?_)
 ·have bC:n=2:=by have h9:(n:Int)=2:=(by simpa using D);omega
  subst bC
  refine Zr b<|Zm O<|Ze (Xi (ps:=[(0,vi 9),(1,vi 0),(2,vi 1)]) (cs:=[vi 9,vi 0,vi 1]) O (fun _=>by first|rfl|kernel_rfl))<|Ze (Xi (ps:=[(0,vi 9),(1,vi 1),(2,vi 0)]) (cs:=[vi 9,vi 1,vi 0]) O (fun _=>by first|rfl|kernel_rfl))<|Zf (X2 (k:=2) (vs:=[.agg #[vi 9,vi 0,vi 1],.agg #[vi 9,vi 1,vi 0]]) (zs:=[vi 9,vi 0,vi 1,vi 9,vi 1,vi 0]) O Xa Xc O O) ?_;rintro _ w7 ⟨bN,rfl,Q,y,E⟩;have bD:=Q0 d.size Q;have x:=f.away Q;have f:=f.bw y;have d:=btr d y;refine Zf (X0i (enc:=encG) (l:=(q)) (l2:=([(⟨9,0,1⟩ : Gt),(⟨9,1,0⟩ : Gt)])) (B0:=o.heap.size) O O Xa Xc X9 Xq f (Rd.of_blk E O _ E.lt) (by rw [hq];simp only [maxLen];decide) (by rw [hq];decide) d.size) ?_;rintro _ w8 ⟨bE,bF,rfl,aU,hg,C⟩
  have m:Own _ o.heap.size 59 3 encG _ _ (q):=f
  have aF:=C _ E.lt x;clear C;have d:=Below.app d m hg (Qb _) d.size;clear m hg;refine Za O<|Zx N fun a b _ aV=>?_;refine Zm O<|Za O<|Zt aV fun a b=>?_
  refine Q6 (X4 b (Xv b O O) ?_)
  subst hq
  exact ⟨bE,bF,O,aU,d⟩
 have bG:n=1:=by have h9:¬ (n:Int)=2:=(by simpa using D);omega
 subst bG
 refine Q7<|N _ _<|Zs b fun _ aW=>?_;refine Zm O<|Za O<|Zt aW fun a b=>?_
 refine Q6 (X4 b (Xv b O O) ?_)
 subst hq
 exact ⟨z,h,O,f,d⟩
abbrev kyX(n:Nat) : List Gt->ByteArray:=fun w=>kyT (kyW n w)
theorem X65{m:Mx}(h:mOk m=true) : m.cells.length<=2305843009213693951:=by
 have hl:=X3b h;have h1:=hl.2.2
 have:m.rows.toNat*m.cols.toNat<=32*32:=Nat.mul_le_mul Z Z
 first|omega|(rw [h1];omega)
theorem Xky{n:Nat}(hn:n=1∨n=2){k:Nat}(hk:k<=8){w:List Gt}(hw:w ∈ wds (gsT n) k) : keyM (valW n w)=kyX n w/\canY (valW n w)=true:=by
 obtain ⟨h1,_,_,h4⟩:=X2l hn hk hw
 refine ⟨Xjt h1,?_⟩
 unfold canY;rw [h1]
 cases e:canL (valW n w).cells with
 | none=>exact absurd e h4
 | some x=>rfl
theorem Xqk(n:Nat)(A:Option Addr)(c:Nat){s:ByteArray}(hs:s=kyX n []) : sgL (updG (fun _=>none) s ⟨A,c,[]⟩)=(tbW n 0).1:=by
 subst hs
 funext q
 rw [Xkj];rfl
theorem X9k(n:Nat) : (gsT n).length<=8:=by unfold gsT;split<;>decide
theorem Xka{G:Type}(gs:List G)(lev:List (List G))(i j:Nat) : (rndW gs lev i j).length<=i*gs.length+j:=by
 unfold rndW
 have h:∀ l:List (List G),(l.flatMap fun u=>gs.map fun g=>u++[g]).length=l.length*gs.length:=by
  intro l;induction l with
  | nil=>simp
  | cons x l ih=>rw [Wc,Qh,ih,Qs,Wb,Qo];omega
 rw [Qh,h,Qo,Qn,Qn]
 have:min i lev.length*gs.length<=i*gs.length:=Nat.mul_le_mul_right _ (Nat.min_le_left ..)
 omega
theorem X9f{G K:Type}[DecidableEq K](ky:List G->K) : ∀ (l:List (List G)) (T:K->Option (List G)),(enT ky T l).2.length<=l.length
 | [],_=>by simp [enT]
 | w::l,T=>by
  simp only [enT]
  cases T (ky w) with
  | some x=>have:=X9f ky l T;simp only [Qs];omega
  | none=>have:=X9f ky l (fun q=>if q=ky w then some w else T q);simp only [Qs];omega
def StW(n r i j:Nat)(F:ByteArray->Option Sq)(N:List Tw) : Prop:=(sgL F,N.map Tw.w)=enT (kyX n) (tbW n r).1 (rndW (gsT n) (tbW n r).2 i j)
theorem Xu3{n r:Nat}{F:ByteArray->Option Sq}(h:sgL F=(tbW n r).1) : StW n r 0 0 F []:=by
 unfold StW;rw [Xm4,h];rfl
theorem Xqe{n r i j:Nat}{F:ByteArray->Option Sq}{N L:List Tw}{u:Gt}{t:Tw}(h:StW n r i j F N)(hL:L.map Tw.w=(tbW n r).2)(ht:L[i]? = some t)(hu:(gsT n)[j]? = some u){s:ByteArray}(hs:s=kyX n (t.w++[u]))(hk:(sgL F s).isSome=true) : StW n r i (j+1) F N:=by
 unfold StW at *
 have e:(tbW n r).2.getD i []=t.w:=by rw [<- hL,Qa,List.getElem?_map,ht];rfl
 have h1:=congrArg Prod.fst h;have h2:=congrArg Prod.snd h
 simp only at h1 h2
 rw [Xcv hu,e,X9e,<- h1,Xlg (by rw [<- hs];exact hk),<- h2,List.append_nil]
theorem Xyw{n r i j:Nat}{F:ByteArray->Option Sq}{N L:List Tw}{u:Gt}{t x:Tw}{sq:Sq}(h:StW n r i j F N)(hL:L.map Tw.w=(tbW n r).2)(ht:L[i]? = some t)(hu:(gsT n)[j]? = some u){s:ByteArray}(hs:s=kyX n (t.w++[u]))(hk:(sgL F s).isSome=false)(hx:x.w=t.w++[u])(hq:sq.w=t.w++[u]) : StW n r i (j+1) (updG F s sq) (N++[x]):=by
 unfold StW at *
 have e:(tbW n r).2.getD i []=t.w:=by rw [<- hL,Qa,List.getElem?_map,ht];rfl
 have h1:=congrArg Prod.fst h;have h2:=congrArg Prod.snd h
 simp only at h1 h2
 have hk2:sgL F (kyX n (t.w++[u]))=none:=by rw [<- hs];simpa using hk
 rw [Xcv hu,e,X9e,<- h1,Xro hk2,<- h2,Xkj,hq,List.map_append,hs]
 simp [hx]
theorem Xu2{n r i:Nat}{F:ByteArray->Option Sq}{N:List Tw}(h:StW n r i (gsT n).length F N)(hi:i<(tbW n r).2.length) : StW n r (i+1) 0 F N:=by
 unfold StW at *;rw [Xm3 hi,h]
theorem Xgu{n r:Nat}{F:ByteArray->Option Sq}{N:List Tw}(h:StW n r (tbW n r).2.length 0 F N) : sgL F=(tbW n (r+1)).1/\N.map Tw.w=(tbW n (r+1)).2:=by
 unfold StW at h
 rw [Xgf] at h
 have e:tbW n (r+1)=enT (kyX n) (tbW n r).1 ((tbW n r).2.flatMap fun u=>(gsT n).map fun g=>u++[g]):=rfl
 rw [e,<- h];exact ⟨O,O⟩
theorem Xyv{n r i j:Nat}{F:ByteArray->Option Sq}{N:List Tw}(h:StW n r i j F N) : N.length<=i*8+j:=by
 unfold StW at h
 have h2:=congrArg Prod.snd h
 simp only at h2
 have h3:=congrArg List.length h2
 rw [Qo] at h3
 have:=X9f (kyX n) (rndW (gsT n) (tbW n r).2 i j) (tbW n r).1
 have:=Xka (gsT n) (tbW n r).2 i j
 have:=Nat.mul_le_mul_left i (X9k n)
 omega
theorem Xqj(n:Nat) : ∀ r,(tbW n r).2.length<=8^r
 | 0=>by simp [tbW,grT]
 | r+1=>by
  have e:tbW n (r+1)=enT (kyX n) (tbW n r).1 ((tbW n r).2.flatMap fun u=>(gsT n).map fun g=>u++[g]):=rfl
  have h1:=X9f (kyX n) ((tbW n r).2.flatMap fun u=>(gsT n).map fun g=>u++[g]) (tbW n r).1
  have h2:=Xka (gsT n) (tbW n r).2 (tbW n r).2.length 0
  rw [Xgf] at h2
  rw [e]
  have h3:=Nat.mul_le_mul (Xqj n r) (X9k n)
  rw [Nat.pow_succ];omega
theorem Xu6{n r:Nat}(hr:r<=8) : (tbW n r).2.length<=16777216:=by
 have:=Xqj n r
 have h2:8^r<=8^8:=Nat.pow_le_pow_right O4 hr
 have h3:(8:Nat)^8=16777216:=by decide
 omega
theorem Xi8{n r:Nat}{L:List Tw}(h:L.map Tw.w=(tbW n r).2) : L.length=(tbW n r).2.length:=by rw [<- h,Qo]
theorem Xyx{n r i:Nat}{L:List Tw}{t:Tw}(h:L.map Tw.w=(tbW n r).2)(ht:L[i]? = some t) : t.w ∈ wds (gsT n) r:=by
 apply Xu5 r
 rw [<- h];exact W6.2 ⟨t,Qe ht,O⟩
theorem Xu0{n r i j:Nat}(hn:n=1∨n=2)(hr:r<8){L:List Tw}{t:Tw}{u:Gt}(hL:L.map Tw.w=(tbW n r).2)(hv:∀ t ∈ L,t.m=valW n t.w)(ht:L[i]? = some t)(hu:(gsT n)[j]? = some u) :
  gateI (n:Int) u=some (gateS n u)/\mulI (gateS n u) t.m=some (valW n (t.w++[u]))/\keyM (valW n (t.w++[u]))=kyX n (t.w++[u])/\canY (valW n (t.w++[u]))=true/\(gateS n u).cells.length<=2305843009213693951/\t.m.cells.length<=2305843009213693951/\(valW n (t.w++[u])).cells.length<=2305843009213693951/\t.w.length<=8:=by
 have hm:=Qe hu;have hw:=Xyx hL ht;have hg:=X39 (X6v hn u hm).1
 have e:=hv t (Qe ht)
 have hs:=X3f hw hm
 obtain ⟨k1,k2⟩:=Xky hn (by omega:r+1<=8) hs
 refine ⟨hg.1,?_,k1,k2,X65 hg.2,?_,X65 (X2l hn (by omega:r+1<=8) hs).1,?_⟩
 ·rw [e];exact Xd7 hn hr hw hm
 ·rw [e];exact X65 (X2l hn (by omega:r<=8) hw).1
 ·have:=X9y _ _ _ hw;omega
theorem Xtc{n:Nat}{N:List Tw}{x:Tw}(h:∀ t ∈ N,t.m=valW n t.w)(hx:x.m=valW n x.w) : ∀ t ∈ N++[x],t.m=valW n t.w:=fun t ht=>by
 rcases Qu.1 ht with ht|ht
 ·exact h t ht
 ·rw [Qm.1 ht];exact hx
theorem X6j(w0:World)(Al:Option Addr)(cl:Nat)(l:List Gt)(e:Rd w0 w0.heap.size 59 encG Al l)(aM:l.length<=100000000) : Ret Tryz.prog 90 [.slice Al l.length cl] w0 (fun v w=>∃ A c,v=.slice A l.length c/\Own w w0.heap.size 59 3 encG A c l/\Below w0.heap.size w0 w):=by
 refine enter Tryz.func90 O 8 O O ?_;intro a b
 have f:=bz w0
 refine Zs b fun _ aG=>?_;refine Za O<|ZX aG fun a b _ aH=>?_;refine Zs b fun _ aI=>?_;refine Zm O<|Ze (Xl5 O O Xa)<|Zt aI fun a b=>?_
 refine X04 b O (fun aB=>?_) (fun aB=>?_)
 ·have aC:l=[]:=Rd.nil_of e aB
  refine Zs b fun _ aJ=>?_;refine Za O<|Zt aJ fun a b=>?_;refine Q6<|X5<|X4 b (Xv b O O) ?_
  subst aC
  exact ⟨none,0,O,Own.nil _ _ _ _ _,f⟩
 refine Q7<|aH _ _<|Zs b fun _ aD=>?_;refine Zf (X2 (k:=0) (vs:=[]) (zs:=[]) O Xa Xc O O) ?_;rintro _ w1 ⟨aN,rfl,aE,hE,aF⟩;have aA:=Q0 f.size aE;have f:=btr f hE;refine Zm O<|Zf (X49 (enc:=encG) (l2:=(l)) O O Xa Xc X9 Xq aF (e.bx f) (by simp only [maxLen];omega) Z) ?_;rintro _ w2 ⟨aK,aL,rfl,d,hE⟩;have d:=d.lower aA;have f:=btr f hE;refine Za O<|Zt aD fun a b=>?_
 refine Q6 (X4 b (Xv b O O) ?_)
 exact ⟨aK,aL,O,d,f⟩
theorem Xuo(w0:World)(n:Nat)(k:Nat)(hn:n=1∨n=2)(hk:k<=8)(kI:PowT w0) : Ret Tryz.prog 42 [vi (n:Int),vi (k:Int)] w0 (fun v w=>∃ b F A c zs,v=.agg #[.map (some b),.slice A zs.length c]/\MapS w b (sgF F)/\DeepM w w.heap.size 59 F/\sgL F=(tbW n k).1/\Own w w0.heap.size 3 1 encI A c zs/\w0.heap.size<=b/\Below w0.heap.size w0 w):=by
 have mT:([] : List Gt) ∈ wds (gsT n) 0:=Qm.2 O
 have oN:=X2l hn (by omega:0<=8) mT
 have mU:idI ((2^n:Nat) : Int)=some (valW n []):=by rw [X7x n hn];exact (X3d (d:=2^n) (X2j (n:=(n:Int)) Z)).1
 have pO:=X9k n
 obtain ⟨oO,pP⟩:=Xky hn (by omega:0<=8) mT
 refine enter Tryz.func42 O 125 O O ?_;intro a H
 have z:=bz w0
 refine Zs H fun _ oP=>?_;refine Zf (Xl (zs:=[.map none,.slice none 0 0]) Xqv O) ?_;rintro _ w1 ⟨b3,rfl,oQ,o,M⟩;have mW:=Q0 z.size oQ;have z:=btr z o;refine Zx oP fun a H _ oR=>?_;refine Zm O<|Ze (Xbp (m:=n) (D:=(2^n:Nat)) O O O ⟨O,by omega⟩)<|Zf (X23 (vs:=[vi ((2^n:Nat) : Int)]) O Xob (by have hq:=Xz9 w1 ((2^n:Nat) : Int);rw [mU,Qq,Option.isSome_some] at hq;exact hq)) ?_;rintro _ w2 ⟨A5,c5,rfl,b9,o⟩;have b9:=b9.lower z.size;have M:=M.bw o;have z:=btr z o;refine Zm O<|Ze (X3 (vs:=[.agg #[vi ((valW n []).rows),vi ((valW n []).cols),.slice A5 ((valW n []).cells).length c5],.bool true]) O O)<|Ze (X3 (vs:=[.agg #[vi ((valW n []).rows),vi ((valW n []).cols),.slice A5 ((valW n []).cells).length c5],.bool true]) O O) ?_;refine ZB [vi ((valW n []).rows),vi ((valW n []).cols),.slice A5 ((valW n []).cells).length c5] X1r X19 fun b7 w4 oS o bY=>?_;have pJ:=Q0 z.size oS;have M:=M.bw o;have b9:=b9.bw o;have z:=btr z o;refine Za O<|Zx oR fun a H _ oT=>?_;refine Ze (Vn X0j bY)<|Zf (Vc (Xig _ (valW n []) A5 c5 b9.rd.top (X65 oN.1) (kI.of z)) X9h) ?_;rintro _ w5 ⟨rfl,o⟩;have M:=M.bw o;have bY:=bY.bw o;have b9:=b9.bw o;have z:=btr z o;refine Zm O<|Ze (X3 (vs:=[.string (keyM (valW n [])),.bool (canY (valW n []))]) O O)<|Ze (X3 (vs:=[.string (keyM (valW n [])),.bool (canY (valW n []))]) O O)<|Za O<|Za O<|Zx oT fun a H _ oU=>?_;refine Zf (Xw0) ?_;rintro _ w6 ⟨bZ,rfl,mX,o,C⟩;have e7:=Q0 z.size mX;have M:=M.bw o;have bY:=bY.bw o;have b9:=b9.bw o;have z:=btr z o
 replace C:MapS w6 bZ (sgF (fun _=>none)):=C
 have Q:=DeepM.none w6 w6.heap.size 59;refine Zm O<|Zf (X2 (k:=0) (vs:=[]) (zs:=[]) O Xa Xc O O) ?_;rintro _ w7 ⟨iR,rfl,mY,o,pK⟩;have oV:=Q0 z.size mY;have M:=M.bw o;have bY:=bY.bw o;have C:=C.bw o;have b9:=b9.bw o;have Q:=Q.bw o;have z:=btr z o;refine Zo (Y0o (f:=sgF (fun _=>none)) (s:=keyM (valW n [])) O O O Tryz.underlying49 Tryz.underlying9 C O) ?_;rintro _ w8 ⟨ho,cN⟩;have hY:=DeepM.upd (s:=keyM (valW n [])) (x:=(⟨some ⟨iR,0,none⟩,0,([] : List Gt)⟩ : Sq)) Q.top (Rd.nil _ _ _ _ _)
 clear Q;have Q:=hY;clear hY;have b5:=C.nc;have M:=M.onlyN ho b5;have bY:=bY.onlyN ho b5;have b9:=b9.onlyN ho b5;have Q:=Q.onlyN ho b5;have z:=Below.oy z ho e7
 rw [show Value.slice (some ⟨iR,0,none⟩) 0 0=Sq.v (⟨some ⟨iR,0,none⟩,0,([] : List Gt)⟩ : Sq) from O,Xki] at cN
 have C:=cN;clear cN ho b5;refine Zm O<|Zf (X2 (k:=1) (vs:=[vi 1]) (zs:=[vi 1]) O Xy X1a O O) ?_;rintro _ w9 ⟨iS,rfl,n0,o,dP⟩;have l8:=Q0 z.size n0;have M:=M.bw o;have bY:=bY.bw o;have C:=C.bw o;have b9:=b9.bw o;have Q:=Q.bw o;have z:=btr z o;refine Ze (Xi (ps:=[(0,.map (some bZ)),(1,.slice (some ⟨iS,0,none⟩) ([1]).length 1)]) (cs:=[.map (some bZ),.slice (some ⟨iS,0,none⟩) ([1]).length 1]) O (fun _=>by first|rfl|kernel_rfl)) ?_;refine ZB [.map (some bZ),.slice (some ⟨iS,0,none⟩) ([1]).length 1] Xqv X9u fun b17 pQ n3 o I=>?_
 have n5:b3≠b17:=by have:=M.lt;omega
 have l9:=Q0 z.size n3;have M:=M.bw o;have bY:=bY.bw o;have C:=C.bw o;have dP:=dP.bw o;have b9:=b9.bw o;have Q:=Q.bw o;have z:=btr z o;refine Zx oU fun a H _ n6=>?_;refine Ze (Vn X0j bY)<|Ze (Xi (ps:=[(1,.agg #[vi ((valW n []).rows),vi ((valW n []).cols),.slice A5 ((valW n []).cells).length c5])]) (cs:=[.slice none 0 0,vi ((valW n []).rows),vi ((valW n []).cols),.slice A5 ((valW n []).cells).length c5]) O (fun _=>by first|rfl|kernel_rfl))<|Zf (X2 (k:=1) (vs:=[.agg #[.slice none 0 0,vi ((valW n []).rows),vi ((valW n []).cols),.slice A5 ((valW n []).cells).length c5]]) (zs:=[.slice none 0 0,vi ((valW n []).rows),vi ((valW n []).cols),.slice A5 ((valW n []).cells).length c5]) O X4x X7f O O) ?_;rintro _ pR ⟨oW,rfl,n7,o,n8⟩;have lA:=Q0 z.size n7;have M:=M.bw o;have C:=C.bw o;have dP:=dP.bw o;have I:=I.bw o;have b9:=b9.bw o;have Q:=Q.bw o;have z:=btr z o;refine Za O<|ZX n6 fun a H _ n9=>?_;refine Zs H fun _ nA=>?_;refine Zm O<|Zm O<|Zt nA fun a H=>?_;refine Q8<|X0d (σ:=Nat×(List Tw)×(ByteArray->Option Sq)×(List Int)) (fun (s:Nat×(List Tw)×(ByteArray->Option Sq)×(List Int)) (a:Act) (w:World)=>match s with|(r,L,Fg,zs)=>∃ aY b2 d6 d7,Fr a 125 [(0,vi (n:Int)),(4,(pZ9 b3)),(9,(pZ9 b17)),(10,.slice aY L.length b2),(45,vi (k:Int)),(46,vi (r:Int))]/\(r<=k)/\(L.map Tw.w=(tbW n r).2)/\(sgL Fg=(tbW n r).1)/\(∀ t ∈ L,t.m=valW n t.w)/\(zs.length=r+1)/\Blk w b3 51 [.map none,.slice none 0 0]/\MapS w bZ (sgF Fg)/\Blk w b17 51 [.map (some bZ),.slice d6 zs.length d7]/\Own w w0.heap.size 121 4 encTw aY b2 L/\Own w w0.heap.size 3 1 encI d6 d7 zs/\DeepT w w.heap.size 59 139 L/\DeepM w (w.heap.size) 59 Fg/\Below w0.heap.size w0 w) (fun (s:Nat×(List Tw)×(ByteArray->Option Sq)×(List Int))=>match s with|(r,L,Fg,zs)=>k-r) (0,[(⟨none,0,([] : List Gt),(valW n []),A5,c5⟩ : Tw)],(updG (fun _=>none) (keyM (valW n [])) (⟨some ⟨iR,0,none⟩,0,([] : List Gt)⟩ : Sq)),[1]) ?_ ?_
 ·exact ⟨some ⟨oW,0,none⟩,1,some ⟨iS,0,none⟩,1,H.sb,(Qf _),O,(Xqk n _ _ oO),(fun t9 lB=>by rw [Qm.1 lB]),O,M,C,I,(Own.of_blkL X85 n8 lA O O O4),(Own.of_blkL Xt dP l8 O O O4),(DeepT.one (Rd.nil _ _ _ _ _) b9.rd.top),Q.top,z⟩
 rintro ⟨r,L,Fg,zs⟩ a pS ⟨aY,b2,d6,d7,H,hr,hL,hF,hv,pT,M,C,I,aA,U,aL,Q,z⟩
 have pU:L.length<=16777216:=by rw [Xi8 hL];exact Xu6 Z
 refine Zs H fun _ nB=>?_;refine Ze (X16 O O)<|ZX nB fun a H _ nC=>?_
 refine X12 H O (fun lC nD=>?_) (fun lC nD=>?_)
 ·refine Q7<|nC _ _<|Q5 fun _ nE=>?_;refine Q8<|Zs H fun _ nF=>?_;refine Zf (X2 (k:=0) (vs:=[]) (zs:=[]) O X4x X7f O O) ?_;rintro _ pV ⟨oX,rfl,kJ,o,nG⟩;have lD:=Q0 z.size kJ;have gR:=aA.away kJ;have M:=M.bw o;have C:=C.bw o;have I:=I.bw o;have aA:=aA.bw o;have U:=U.bw o;have aL:=aL.bw o;have Q:=Q.bw o;have z:=btr z o;refine Za O<|ZX nF fun a H _ nH=>?_;refine Zs H fun _ nI=>?_;refine Zm O<|Ze (X0o O X4x)<|Zm O<|Zt nI fun a H=>?_;refine Q8<|X0d (σ:=Nat×(List Tw)×(ByteArray->Option Sq)) (fun (s:Nat×(List Tw)×(ByteArray->Option Sq)) (a:Act) (w:World)=>match s with|(i,N2,Fj)=>∃ gS hZ,Fr a 125 [(0,vi (n:Int)),(4,(pZ9 b3)),(9,(pZ9 b17)),(11,.slice gS N2.length hZ),(45,vi (k:Int)),(46,vi (r:Int)),(49,.slice aY L.length b2),(50,vi (L.length:Int)),(51,vi (i:Int))]/\(i<=L.length)/\(StW n r i 0 Fj N2)/\(∀ t ∈ N2,t.m=valW n t.w)/\Blk w b3 51 [.map none,.slice none 0 0]/\MapS w bZ (sgF Fj)/\Blk w b17 51 [.map (some bZ),.slice d6 zs.length d7]/\Own w w0.heap.size 121 4 encTw gS hZ N2/\Own w w0.heap.size 121 4 encTw aY b2 L/\Own w w0.heap.size 3 1 encI d6 d7 zs/\DeepT w w.heap.size 59 139 N2/\DeepT w w.heap.size 59 139 L/\DeepM w (w.heap.size) 59 Fj/\Apart aY gS/\Below w0.heap.size w0 w) (fun (s:Nat×(List Tw)×(ByteArray->Option Sq))=>match s with|(i,N2,Fj)=>L.length-i) (0,[],Fg) ?_ ?_
  ·exact ⟨some ⟨oX,0,none⟩,0,H.sb,(Qf _),(Xu3 hF),(fun t9 lB=>by cases lB),M,C,I,(Own.empty nG lD),aA,U,(DeepT.nil _ _ _ _),aL.top,Q.top,(Apart.of_away gR),z⟩
  rintro ⟨i,N2,Fj⟩ a pW ⟨gS,hZ,H,hi,nJ,kK,M,C,I,bC,aA,U,bH,aL,Q,gT,z⟩;refine Zs H fun _ nK=>?_;refine Ze (X16 O O)<|ZX nK fun a H _ nL=>?_
  refine X12 H O (fun lE nM=>?_) (fun lE nM=>?_)
  ·obtain ⟨e,d8⟩:=Xj (l:=L) (k:=i) Z
   skip
   refine Q7<|nL _ _<|Q5 fun _ nN=>?_;refine Q8<|Zs H fun _ nO=>?_;refine Zi (k:=i) (u:=e) (enc:=encTw) (l:=L) tv0 O O X4x Xeo X85 aA.rd d8 O ?_;intro pX lF;have y:=(aL e (Qe d8)).1;have aF:=(aL e (Qe d8)).2;refine Ze (Xx (l:=[.slice e.A e.w.length e.c,vi e.m.rows,vi e.m.cols,.slice e.B e.m.cells.length e.d]) O Xkt lF O) ?_;refine ZB [.slice e.A e.w.length e.c,vi e.m.rows,vi e.m.cols,.slice e.B e.m.cells.length e.d] X3y Xeo fun aI pY kL o G=>?_;have oY:=Q0 z.size kL;have gU:=bC.away kL;have M:=M.bw o;have C:=C.bw o;have I:=I.bw o;have bC:=bC.bw o;have aA:=aA.bw o;have U:=U.bw o;have y:=y.bw o;have aF:=aF.bw o;have bH:=bH.bw o;have aL:=aL.bw o;have Q:=Q.bw o;have z:=btr z o;refine Zx nO fun a H _ nP=>?_;refine Zm O<|Zf (Vc (Xzq _ n hn) Xsc) ?_;rintro _ pZ ⟨bI,bJ,rfl,aC,o⟩;have aC:=aC.lower z.size;have M:=M.bw o;have C:=C.bw o;have I:=I.bw o;have G:=G.bw o;have bC:=bC.bw o;have aA:=aA.bw o;have U:=U.bw o;have y:=y.bw o;have aF:=aF.bw o;have bH:=bH.bw o;have aL:=aL.bw o;have Q:=Q.bw o;have z:=btr z o;have aC:=aC.rd;refine Ze (X0o O Xa)<|Zm O<|Zt nP fun a H=>?_;refine Q8<|X0d (σ:=Nat×(List Tw)×(ByteArray->Option Sq)) (fun (s:Nat×(List Tw)×(ByteArray->Option Sq)) (a:Act) (w:World)=>match s with|(j,N3,Fk)=>∃ b4 b8,Fr a 125 [(0,vi (n:Int)),(4,(pZ9 b3)),(9,(pZ9 b17)),(11,.slice b4 N3.length b8),(13,(pZ9 aI)),(45,vi (k:Int)),(46,vi (r:Int)),(49,.slice aY L.length b2),(50,vi (L.length:Int)),(51,vi (i:Int)),(56,.slice bI (gsT n).length bJ),(57,vi ((gsT n).length:Int)),(58,vi (j:Int))]/\(j<=(gsT n).length)/\(StW n r i j Fk N3)/\(∀ t ∈ N3,t.m=valW n t.w)/\Blk w b3 51 [.map none,.slice none 0 0]/\MapS w bZ (sgF Fk)/\Blk w b17 51 [.map (some bZ),.slice d6 zs.length d7]/\Blk w aI 121 [.slice e.A e.w.length e.c,vi e.m.rows,vi e.m.cols,.slice e.B e.m.cells.length e.d]/\Own w w0.heap.size 121 4 encTw b4 b8 N3/\Own w w0.heap.size 121 4 encTw aY b2 L/\Own w w0.heap.size 3 1 encI d6 d7 zs/\Rd w w.heap.size 59 encG e.A e.w/\Rd w w.heap.size 139 encD e.B e.m.cells/\Rd w w.heap.size 59 encG bI (gsT n)/\DeepT w w.heap.size 59 139 N3/\DeepT w w.heap.size 59 139 L/\DeepM w (w.heap.size) 59 Fk/\Away b4 aI/\Apart aY b4/\Below w0.heap.size w0 w) (fun (s:Nat×(List Tw)×(ByteArray->Option Sq))=>match s with|(j,N3,Fk)=>(gsT n).length-j) (0,N2,Fj) ?_ ?_
   ·exact ⟨gS,hZ,H.sb,(Qf _),nJ,kK,M,C,I,G,bC,aA,U,y.top,aF.top,aC.top,bH.top,aL.top,Q.top,gU,gT,z⟩
   rintro ⟨j,N3,Fk⟩ a q0 ⟨b4,b8,H,hj,hS,lG,M,C,I,G,aM,aA,U,y,aF,aC,aO,aL,Q,cE,bL,z⟩;refine Zs H fun _ nQ=>?_;refine Ze (X16 O O)<|ZX nQ fun a H _ nR=>?_
   refine X12 H O (fun lH nS=>?_) (fun lH nS=>?_)
   ·obtain ⟨g,g4⟩:=Xj (l:=(gsT n)) (k:=j) Z
    obtain ⟨oZ,p5,nT,p8,nU,nV,nW,pL⟩:=Xu0 hn (by omega:r<8) hL hv d8 g4
    refine Q7<|nR _ _<|Q5 fun _ kM=>?_;refine Q8<|Zs H fun _ nX=>?_;refine Zi (k:=j) (u:=g) (enc:=encG) (l:=(gsT n)) tv0 O O Xa X0g X9 aC g4 O ?_;intro q5 lI;refine Ze (Xx (l:=[vi g.k,vi g.a,vi g.b]) O X01 lI O) ?_;have Q:=Q.top;have aO:=aO.top;have aL:=aL.top;have y:=y.top;have aC:=aC.top;refine ZB [vi g.k,vi g.a,vi g.b] X26 X0g fun aX pA nY o E=>?_;have pB:=Q0 z.size nY;have M:=M.bw o;have C:=C.bw o;have I:=I.bw o;have G:=G.bw o;have aM:=aM.bw o;have aA:=aA.bw o;have U:=U.bw o;have y:=y.bw o;have aF:=aF.bw o;have aC:=aC.bw o;have aO:=aO.bw o;have aL:=aL.bw o;have Q:=Q.bw o;have z:=btr z o;refine Zx nX fun a H _ nZ=>?_;refine Zm O<|Ze (Vn X01 E)<|Zf (X23 (vs:=[vi (n:Int),.agg #[vi g.k,vi g.a,vi g.b]]) O Xhi (by have hq:=Xvs pA (n:Int) g;rw [oZ,Qq,Option.isSome_some] at hq;exact hq)) ?_;rintro _ q6 ⟨i7,i8,rfl,dQ,o⟩;have dQ:=dQ.lower z.size;have M:=M.bw o;have C:=C.bw o;have I:=I.bw o;have G:=G.bw o;have E:=E.bw o;have aM:=aM.bw o;have aA:=aA.bw o;have U:=U.bw o;have y:=y.bw o;have aF:=aF.bw o;have aC:=aC.bw o;have aO:=aO.bw o;have aL:=aL.bw o;have Q:=Q.bw o;have z:=btr z o;refine Zm O<|Ze (X3 (vs:=[.agg #[vi ((gateS n g).rows),vi ((gateS n g).cols),.slice i7 ((gateS n g).cells).length i8],.bool true]) O O)<|Ze (X3 (vs:=[.agg #[vi ((gateS n g).rows),vi ((gateS n g).cols),.slice i7 ((gateS n g).cells).length i8],.bool true]) O O) ?_
    refine ZB [vi ((gateS n g).rows),vi ((gateS n g).cols),.slice i7 ((gateS n g).cells).length i8] X1r X19 fun pC pD o0 o g5=>?_;have pE:=Q0 z.size o0;have M:=M.bw o;have C:=C.bw o;have I:=I.bw o;have G:=G.bw o;have E:=E.bw o;have aM:=aM.bw o;have aA:=aA.bw o;have U:=U.bw o;have y:=y.bw o;have aF:=aF.bw o;have aC:=aC.bw o;have dQ:=dQ.bw o;have aO:=aO.bw o;have aL:=aL.bw o;have Q:=Q.bw o;have z:=btr z o;refine Za O<|Zx nZ fun a H _ o3=>?_;refine Ze (Vn X0j g5)<|Ze (Vd O Xln 1)<|Ze (Xx (l:=[vi e.m.rows,vi e.m.cols,.slice e.B e.m.cells.length e.d]) O X0j ((G.at 1).take 3) O)<|Zf (X23 (vs:=[.agg #[vi ((gateS n g).rows),vi ((gateS n g).cols),.slice i7 ((gateS n g).cells).length i8],.agg #[vi e.m.rows,vi e.m.cols,.slice e.B e.m.cells.length e.d]]) O Xog (by have hq:=Xzf pD (gateS n g) i7 i8 dQ.rd.top e.m e.B e.d aF.top nU nV;rw [p5,Qq,Option.isSome_some] at hq;exact hq)) ?_;rintro _ q7 ⟨aJ,aK,rfl,b6,o⟩;have b6:=b6.lower z.size;have M:=M.bw o;have C:=C.bw o;have I:=I.bw o;have G:=G.bw o;have E:=E.bw o;have g5:=g5.bw o;have aM:=aM.bw o;have aA:=aA.bw o;have U:=U.bw o;have y:=y.bw o;have aF:=aF.bw o;have aC:=aC.bw o;have aO:=aO.bw o;have aL:=aL.bw o;have Q:=Q.bw o;have z:=btr z o;refine Zm O<|Ze (X3 (vs:=[.agg #[vi ((valW n (e.w++[g])).rows),vi ((valW n (e.w++[g])).cols),.slice aJ ((valW n (e.w++[g])).cells).length aK],.bool true]) O O)<|Ze (X3 (vs:=[.agg #[vi ((valW n (e.w++[g])).rows),vi ((valW n (e.w++[g])).cols),.slice aJ ((valW n (e.w++[g])).cells).length aK],.bool true]) O O) ?_
    refine ZB [vi ((valW n (e.w++[g])).rows),vi ((valW n (e.w++[g])).cols),.slice aJ ((valW n (e.w++[g])).cells).length aK] X1r X19 fun b69 pF o4 o aB=>?_
    have mQ:pC≠b69:=by have:=g5.lt;omega
    have pG:=Q0 z.size o4;have M:=M.bw o;have C:=C.bw o;have I:=I.bw o;have G:=G.bw o;have E:=E.bw o;have aM:=aM.bw o;have aA:=aA.bw o;have U:=U.bw o;have y:=y.bw o;have aF:=aF.bw o;have aC:=aC.bw o;have b6:=b6.bw o;have aO:=aO.bw o;have aL:=aL.bw o;have Q:=Q.bw o;have z:=btr z o;refine Za O<|Zx o3 fun a H _ o5=>?_;refine Ze (Vn X0j aB)<|Zf (X23 (vs:=[.agg #[vi ((valW n (e.w++[g])).rows),vi ((valW n (e.w++[g])).cols),.slice aJ ((valW n (e.w++[g])).cells).length aK]]) O X9h (by have hq:=Xig pF (valW n (e.w++[g])) aJ aK b6.rd.top nW (kI.of z);rw [p8] at hq;exact hq)) ?_;rintro _ w28 ⟨rfl,o⟩;have M:=M.bw o;have C:=C.bw o;have I:=I.bw o;have G:=G.bw o;have E:=E.bw o;have aB:=aB.bw o;have aM:=aM.bw o;have aA:=aA.bw o;have U:=U.bw o;have y:=y.bw o;have aF:=aF.bw o;have aC:=aC.bw o;have b6:=b6.bw o;have aO:=aO.bw o;have aL:=aL.bw o;have Q:=Q.bw o;have z:=btr z o;refine Zm O<|Ze (X3 (vs:=[.string (keyM (valW n (e.w++[g]))),.bool true]) O O)<|Ze (X3 (vs:=[.string (keyM (valW n (e.w++[g]))),.bool true]) O O)<|Za O<|Za O<|ZX o5 fun a H _ o6=>?_;refine Zs H fun _ o7=>?_;refine Ze (Vd O X5x 0)<|Ze (X0 O X9w (I.at 0))<|Zm O ?_;obtain ⟨o8,o9,oA,oB,pM⟩:=Xeb Q (keyM (valW n (e.w++[g])));refine Ze (Xh2 (f:=Fk) O O Tryz.underlying49 Tryz.underlying9 Xqw C oA oB)<|Zm O<|Ze (X3 (vs:=[.slice o8 ((sgL Fk (keyM (valW n (e.w++[g])))).getD []).length o9,.bool ((sgL Fk (keyM (valW n (e.w++[g])))).isSome)]) O O)<|Ze (X3 (vs:=[.slice o8 ((sgL Fk (keyM (valW n (e.w++[g])))).getD []).length o9,.bool ((sgL Fk (keyM (valW n (e.w++[g])))).isSome)]) O O)<|Za O<|Za O<|Zt o7 fun a H=>?_
    refine Q5 fun _ oC=>?_;refine X0f (fun a w=>Fr a 125 [(0,vi (n:Int)),(4,(pZ9 b3)),(9,(pZ9 b17)),(11,.slice b4 N3.length b8),(13,(pZ9 aI)),(15,(pZ9 aX)),(18,(pZ9 b69)),(20,.string (keyM (valW n (e.w++[g])))),(45,vi (k:Int)),(46,vi (r:Int)),(49,.slice aY L.length b2),(50,vi (L.length:Int)),(51,vi (i:Int)),(56,.slice bI (gsT n).length bJ),(57,vi ((gsT n).length:Int)),(58,vi (j:Int)),(95,.bool ((sgL Fk (keyM (valW n (e.w++[g])))).isSome))]/\w28=w) ?_ ?_
    ·refine Zr H<|Zm O<|Ze (X0x O)<|Zm O<|Zv (gW O) (X7 O) ?_;refine Zv (gW O) (X0x O) ?_;refine Ze (Xb O O O)<|Zm O<|Zv (gW O) (X7 O) ?_;refine Ze (Xb O O O) ?_;refine Zn fun a H=>?_;exact ⟨H.sb,O⟩
    rintro a _ ⟨H,rfl⟩;refine oC _ _ ?_
    refine X04 H O (fun iA=>?_) (fun iA=>?_)
    ·have g6:=iA;refine Q9<|Xm<|X0a<|kM _ _ ?_;refine Zr H<|Ze (X03 O O Z Z)<|Zm O ?_;refine Zn fun a H=>?_;refine Xd ?_;exact ⟨(j+1,N3,Fk),⟨b4,b8,H.sb,Z,(Xqe hS hL d8 g4 nT g6),lG,M,C,I,G,aM,aA,U,y.top,aF.top,aC.top,aO.top,aL.top,Q.top,cE,bL,z⟩,O1⟩
    have g6:=iA;have q8:=Xyv hS;refine Q7<|o6 _ _<|Q5 fun _ oD=>?_;refine X0f (fun a w=>∃ bN aR aU,Fr a 125 [(0,vi (n:Int)),(4,(pZ9 b3)),(9,(pZ9 b17)),(11,.slice b4 N3.length b8),(13,(pZ9 aI)),(20,.string (keyM (valW n (e.w++[g])))),(24,(pZ9 bN)),(45,vi (k:Int)),(46,vi (r:Int)),(49,.slice aY L.length b2),(50,vi (L.length:Int)),(51,vi (i:Int)),(56,.slice bI (gsT n).length bJ),(57,vi ((gsT n).length:Int)),(58,vi (j:Int))]/\w0.heap.size<=bN/\Blk w bN 121 [.slice aR (e.w++([g])).length aU,vi ((valW n (e.w++[g])).rows),vi ((valW n (e.w++[g])).cols),.slice aJ ((valW n (e.w++[g])).cells).length aK]/\aI≠bN/\Own w w0.heap.size 59 3 encG aR aU (e.w++([g]))/\w28.heap.size<=bN/\Below w28.heap.size w28 w) ?_ ?_
    ·have q:Below w28.heap.size w28 w28:=Below.refl _ _
     have c4:=z.size;clear M;clear C;clear I;clear aM;clear aO;clear aA;clear aL;clear U;clear aC;clear Q;refine X08 none (fun j=>[5,9].contains j) mixed ?_;intro w29 o;have G:=G.bw o;have E:=E.bw o;have aB:=aB.bw o;have y:=y.bw o;have z:=btr z o;have q:=btr q o;refine Yb H<|Yo 0 O (fun _=>Vd O Xc3 0)<|Ye 1 O (X0 O X0l (G.at 0))<|Ye 3 O (Vn X01 E) ?_
     have p:Below w29.heap.size w29 w29:=Below.refl _ _
     have c4:=z.size;have g7:=q.size;refine Yc [0,1,2,3,4,5,6,7,8] 1 (fun a w=>∃ bN aR aU,Fr a 125 [(0,vi (n:Int)),(4,(pZ9 b3)),(9,(pZ9 b17)),(11,.slice b4 N3.length b8),(13,(pZ9 aI)),(20,.string (keyM (valW n (e.w++[g])))),(24,(pZ9 bN)),(45,vi (k:Int)),(46,vi (r:Int)),(49,.slice aY L.length b2),(50,vi (L.length:Int)),(51,vi (i:Int)),(56,.slice bI (gsT n).length bJ),(57,vi ((gsT n).length:Int)),(58,vi (j:Int)),(103,.agg #[.slice aR (e.w++([g])).length aU,vi ((valW n (e.w++[g])).rows),vi ((valW n (e.w++[g])).cols),.slice aJ ((valW n (e.w++[g])).cells).length aK])]/\w0.heap.size<=bN/\Blk w bN 121 [.slice none 0 0,vi 0,vi 0,.slice none 0 0]/\aI≠bN/\w29.heap.size<=bN/\w28.heap.size<=bN/\Own w w0.heap.size 59 3 encG aR aU (e.w++([g]))/\Away aR aX/\Below w29.heap.size w29 w) ?_ ?_
     ·rintro a q9 ⟨bN,aR,aU,H,eA,bD,d9,lJ,dA,b0,bM,o⟩;clear p;have p:=o;have z:=btr z o;have q:=btr q o;refine Yb H<|Y1 9<|Yh O tv0 O (Vw [.slice aR (e.w++([g])).length aU,vi ((valW n (e.w++[g])).rows),vi ((valW n (e.w++[g])).cols),.slice aJ ((valW n (e.w++[g])).cells).length aK] Xeo bD) ?_;rintro _ qA ⟨ho,hb⟩;have b0:=b0.oT ho bD O;have q:=Below.oy q ho dA;have p:=Below.oy p ho lJ;have z:=Below.oy z ho eA;have bD:=hb;refine Yd fun a H=>?_;exact ⟨bN,aR,aU,H.sb,eA,bD,d9,b0,dA,q⟩
     intro iB;refine Yc [0,1,2,3,4,5,6,7] 2 (fun a w=>∃ aR aU,Fr a 125 [(0,vi (n:Int)),(4,(pZ9 b3)),(9,(pZ9 b17)),(11,.slice b4 N3.length b8),(13,(pZ9 aI)),(20,.string (keyM (valW n (e.w++[g])))),(45,vi (k:Int)),(46,vi (r:Int)),(49,.slice aY L.length b2),(50,vi (L.length:Int)),(51,vi (i:Int)),(56,.slice bI (gsT n).length bJ),(57,vi ((gsT n).length:Int)),(58,vi (j:Int)),(103,.agg #[.slice aR (e.w++([g])).length aU,vi ((valW n (e.w++[g])).rows),vi ((valW n (e.w++[g])).cols),.slice aJ ((valW n (e.w++[g])).cells).length aK])]/\Own w w0.heap.size 59 3 encG aR aU (e.w++([g]))/\Away aR aX/\Below w29.heap.size w29 w) ?_ ?_
     ·rintro a qB ⟨aR,aU,H,b0,bM,o⟩;clear p;have p:=o;have G:=G.bw o;have z:=btr z o;have q:=btr q o;refine Yb H<|Y1 8<|Yk O tv0 (Xl (zs:=[.slice none 0 0,vi 0,vi 0,.slice none 0 0]) X3y O) (fun _ _ ⟨_,_,_,h,_⟩=>h) ?_;rintro _ qC ⟨b83,rfl,iC,o,oE⟩
      have gX:aI≠b83:=by have:=G.lt;omega
      have lK:=Q0 z.size iC;have lL:=Q0 q.size iC;have lM:=Q0 p.size iC;have b0:=b0.bw o;have z:=btr z o;have q:=btr q o;have p:=btr p o;exact fun a H=>iB _ a _ O ⟨b83,aR,aU,H.sb,lK,oE,gX,lM,lL,b0,bM,p⟩
     intro kN;refine Yc [0,1,2,3,4,5,8] 3 (fun a w=>∃ dR aR aU,Fr a 125 [(0,vi (n:Int)),(4,(pZ9 b3)),(9,(pZ9 b17)),(11,.slice b4 N3.length b8),(13,(pZ9 aI)),(18,(pZ9 b69)),(20,.string (keyM (valW n (e.w++[g])))),(24,(pZ9 dR)),(45,vi (k:Int)),(46,vi (r:Int)),(49,.slice aY L.length b2),(50,vi (L.length:Int)),(51,vi (i:Int)),(56,.slice bI (gsT n).length bJ),(57,vi ((gsT n).length:Int)),(58,vi (j:Int)),(101,.slice aR (e.w++([g])).length aU)]/\w0.heap.size<=dR/\Blk w dR 121 [.slice none 0 0,vi 0,vi 0,.slice none 0 0]/\aI≠dR/\w29.heap.size<=dR/\w28.heap.size<=dR/\Own w w0.heap.size 59 3 encG aR aU (e.w++([g]))/\Away aR aX/\Below w29.heap.size w29 w) ?_ ?_
     ·rintro a qD ⟨dR,aR,aU,H,lN,oF,gY,lO,lP,b0,bM,o⟩;clear p;have p:=o;have aB:=aB.bw o;have z:=btr z o;have q:=btr q o;refine Yb H<|Y1 6<|Yz O tv0 (Uev (Xx (l:=[vi ((valW n (e.w++[g])).rows),vi ((valW n (e.w++[g])).cols),.slice aJ ((valW n (e.w++[g])).cells).length aK]) O X0j (aB.at 0) O)) ?_;refine Yo 7 O (fun _=>Xi (ps:=[(0,.slice aR (e.w++([g])).length aU),(1,.agg #[vi ((valW n (e.w++[g])).rows),vi ((valW n (e.w++[g])).cols),.slice aJ ((valW n (e.w++[g])).cells).length aK])]) (cs:=[.slice aR (e.w++([g])).length aU,vi ((valW n (e.w++[g])).rows),vi ((valW n (e.w++[g])).cols),.slice aJ ((valW n (e.w++[g])).cells).length aK]) O (fun _=>by first|rfl|kernel_rfl)) ?_;exact fun a H=>iB _ a _ O ⟨dR,aR,aU,H.sb,lN,oF,gY,lO,lP,b0,bM,p⟩
     intro kO;refine Yc [0,1,2,3,4,6,8] 3 (fun a w=>∃ aG dS aD aP,Fr a 125 [(0,vi (n:Int)),(4,(pZ9 b3)),(9,(pZ9 b17)),(11,.slice b4 N3.length b8),(13,(pZ9 aI)),(20,.string (keyM (valW n (e.w++[g])))),(24,(pZ9 dS)),(45,vi (k:Int)),(46,vi (r:Int)),(49,.slice aY L.length b2),(50,vi (L.length:Int)),(51,vi (i:Int)),(56,.slice bI (gsT n).length bJ),(57,vi ((gsT n).length:Int)),(58,vi (j:Int)),(98,.slice aD e.w.length aP),(100,.slice (some ⟨aG,0,none⟩) ([g]).length 1),(102,.agg #[vi ((valW n (e.w++[g])).rows),vi ((valW n (e.w++[g])).cols),.slice aJ ((valW n (e.w++[g])).cells).length aK])]/\w0.heap.size<=aG/\Blk w aG 59 [vi g.k,vi g.a,vi g.b]/\aX≠aG/\w0.heap.size<=dS/\Blk w dS 121 [.slice none 0 0,vi 0,vi 0,.slice none 0 0]/\aI≠dS/\w29.heap.size<=aG/\w28.heap.size<=aG/\w29.heap.size<=dS/\w28.heap.size<=dS/\Own w w29.heap.size 59 3 encG aD aP e.w/\Away aD aX/\AwayR e.w e.A aG/\Away aD aG/\Below w29.heap.size w29 w) ?_ ?_
     ·rintro a qE ⟨aG,dS,aD,aP,H,bO,aQ,aV,lQ,iD,hG,bP,bQ,lR,lS,W,J,aW,aH,o⟩;clear p;have p:=o;have E:=E.bw o;have z:=btr z o;have q:=btr q o;refine Yb H<|Y1 5<|Yt O tv0 O (X0i (enc:=encG) (l:=(e.w)) (l2:=([g])) (B0:=w29.heap.size) O O Xa Xc X9 Xq W (Rd.of_blk aQ O _ aQ.lt) (by simp only [maxLen];simp;omega) O3 p.size) ?_;rintro _ qF ⟨lT,lU,rfl,iE,hg,b1⟩
      have N:Own _ w29.heap.size 59 3 encG _ _ (e.w):=W
      have hJ:=b1 _ E.lt J;have mR:=b1 _ aQ.lt aH;clear b1;have iD:=iD.appT N hg O;have z:=Below.app z N hg c4 z.size;have p:=Below.app p N hg (Qb _) p.size;have q:=Below.app q N hg g7 q.size;clear N hg;have iE:=iE.lower c4;refine Yo 7 O (fun _=>Xi (ps:=[(0,.slice lT (e.w++([g])).length lU),(1,.agg #[vi ((valW n (e.w++[g])).rows),vi ((valW n (e.w++[g])).cols),.slice aJ ((valW n (e.w++[g])).cells).length aK])]) (cs:=[.slice lT (e.w++([g])).length lU,vi ((valW n (e.w++[g])).rows),vi ((valW n (e.w++[g])).cols),.slice aJ ((valW n (e.w++[g])).cells).length aK]) O (fun _=>by first|rfl|kernel_rfl)) ?_;exact fun a H=>iB _ a _ O ⟨dS,lT,lU,H.sb,lQ,iD,hG,lR,lS,iE,hJ,p⟩
     intro g8;refine Yc [0,1,2,3,4,6] 4 (fun a w=>∃ aG aD aP,Fr a 125 [(0,vi (n:Int)),(4,(pZ9 b3)),(9,(pZ9 b17)),(11,.slice b4 N3.length b8),(13,(pZ9 aI)),(20,.string (keyM (valW n (e.w++[g])))),(45,vi (k:Int)),(46,vi (r:Int)),(49,.slice aY L.length b2),(50,vi (L.length:Int)),(51,vi (i:Int)),(56,.slice bI (gsT n).length bJ),(57,vi ((gsT n).length:Int)),(58,vi (j:Int)),(98,.slice aD e.w.length aP),(100,.slice (some ⟨aG,0,none⟩) ([g]).length 1),(102,.agg #[vi ((valW n (e.w++[g])).rows),vi ((valW n (e.w++[g])).cols),.slice aJ ((valW n (e.w++[g])).cells).length aK])]/\w0.heap.size<=aG/\Blk w aG 59 [vi g.k,vi g.a,vi g.b]/\aX≠aG/\w29.heap.size<=aG/\w28.heap.size<=aG/\Own w w29.heap.size 59 3 encG aD aP e.w/\Away aD aX/\AwayR e.w e.A aG/\Away aD aG/\Below w29.heap.size w29 w) ?_ ?_
     ·rintro a qG ⟨aG,aD,aP,H,bO,aQ,aV,bP,bQ,W,J,aW,aH,o⟩;clear p;have p:=o;have G:=G.bw o;have E:=E.bw o;have z:=btr z o;have q:=btr q o;refine Yb H<|Y2 5 8 ?_ ?_
      ·refine Yt O tv0 O (X0i (enc:=encG) (l:=(e.w)) (l2:=([g])) (B0:=w29.heap.size) O O Xa Xc X9 Xq W (Rd.of_blk aQ O _ aQ.lt) (by simp only [maxLen];simp;omega) O3 p.size) ?_;rintro _ qH ⟨lV,lW,rfl,iF,hg,b1⟩
       have N:Own _ w29.heap.size 59 3 encG _ _ (e.w):=W
       have hP:=b1 _ E.lt J;have mS:=b1 _ aQ.lt aH;clear b1;have z:=Below.app z N hg c4 z.size;have p:=Below.app p N hg (Qb _) p.size;have q:=Below.app q N hg g7 q.size;clear N hg;have iF:=iF.lower c4;refine Yo 7 O (fun _=>Xi (ps:=[(0,.slice lV (e.w++([g])).length lW),(1,.agg #[vi ((valW n (e.w++[g])).rows),vi ((valW n (e.w++[g])).cols),.slice aJ ((valW n (e.w++[g])).cells).length aK])]) (cs:=[.slice lV (e.w++([g])).length lW,vi ((valW n (e.w++[g])).rows),vi ((valW n (e.w++[g])).cols),.slice aJ ((valW n (e.w++[g])).cells).length aK]) O (fun _=>by first|rfl|kernel_rfl)) ?_;exact fun a H=>kN _ a _ O ⟨lV,lW,H.sb,iF,hP,p⟩
      refine Yk O tv0 (Xl (zs:=[.slice none 0 0,vi 0,vi 0,.slice none 0 0]) X3y O) (fun _ _ ⟨_,_,_,h,_⟩=>h) ?_;rintro _ qI ⟨b100,rfl,eB,o,lX⟩
      have eC:aI≠b100:=by have:=G.lt;omega
      have iT:=Q0 z.size eB;have iU:=Q0 q.size eB;have iV:=Q0 p.size eB;have aQ:=aQ.bw o;have W:=W.bw o;have z:=btr z o;have q:=btr q o;have p:=btr p o;exact fun a H=>g8 _ a _ O ⟨aG,b100,aD,aP,H.sb,bO,aQ,aV,iT,lX,eC,bP,bQ,iV,iU,W,J,aW,aH,p⟩
     intro iG;refine Yc [0,1,2,3,4,8] 4 (fun a w=>∃ aG cA aD aP,Fr a 125 [(0,vi (n:Int)),(4,(pZ9 b3)),(9,(pZ9 b17)),(11,.slice b4 N3.length b8),(13,(pZ9 aI)),(18,(pZ9 b69)),(20,.string (keyM (valW n (e.w++[g])))),(24,(pZ9 cA)),(45,vi (k:Int)),(46,vi (r:Int)),(49,.slice aY L.length b2),(50,vi (L.length:Int)),(51,vi (i:Int)),(56,.slice bI (gsT n).length bJ),(57,vi ((gsT n).length:Int)),(58,vi (j:Int)),(98,.slice aD e.w.length aP),(100,.slice (some ⟨aG,0,none⟩) ([g]).length 1)]/\w0.heap.size<=aG/\Blk w aG 59 [vi g.k,vi g.a,vi g.b]/\aX≠aG/\w0.heap.size<=cA/\Blk w cA 121 [.slice none 0 0,vi 0,vi 0,.slice none 0 0]/\aI≠cA/\w29.heap.size<=aG/\w28.heap.size<=aG/\w29.heap.size<=cA/\w28.heap.size<=cA/\Own w w29.heap.size 59 3 encG aD aP e.w/\Away aD aX/\AwayR e.w e.A aG/\Away aD aG/\Below w29.heap.size w29 w) ?_ ?_
     ·rintro a qJ ⟨aG,cA,aD,aP,H,bO,aQ,aV,gA,dB,cO,bP,bQ,gB,gC,W,J,aW,aH,o⟩;clear p;have p:=o;have E:=E.bw o;have aB:=aB.bw o;have z:=btr z o;have q:=btr q o;refine Yb H<|Y2 5 6 ?_ ?_
      ·refine Yt O tv0 O (X0i (enc:=encG) (l:=(e.w)) (l2:=([g])) (B0:=w29.heap.size) O O Xa Xc X9 Xq W (Rd.of_blk aQ O _ aQ.lt) (by simp only [maxLen];simp;omega) O3 p.size) ?_;rintro _ qK ⟨oG,oH,rfl,eD,hg,b1⟩
       have N:Own _ w29.heap.size 59 3 encG _ _ (e.w):=W
       have eE:=b1 _ E.lt J;have lY:=b1 _ aQ.lt aH;clear b1;have dB:=dB.appT N hg O;have z:=Below.app z N hg c4 z.size;have p:=Below.app p N hg (Qb _) p.size;have q:=Below.app q N hg g7 q.size;clear N hg;have eD:=eD.lower c4;exact fun a H=>kO _ a _ O ⟨cA,oG,oH,H.sb,gA,dB,cO,gB,gC,eD,eE,p⟩
      refine Yz O tv0 (Uev (Xx (l:=[vi ((valW n (e.w++[g])).rows),vi ((valW n (e.w++[g])).cols),.slice aJ ((valW n (e.w++[g])).cells).length aK]) O X0j (aB.at 0) O)) ?_;exact fun a H=>g8 _ a _ O ⟨aG,cA,aD,aP,H.sb,bO,aQ,aV,gA,dB,cO,bP,bQ,gB,gC,W,J,aW,aH,p⟩
     intro eF;refine Yc [0,1,2,3,6,8] 4 (fun a w=>∃ cL aD aP,Fr a 125 [(0,vi (n:Int)),(4,(pZ9 b3)),(9,(pZ9 b17)),(11,.slice b4 N3.length b8),(13,(pZ9 aI)),(20,.string (keyM (valW n (e.w++[g])))),(24,(pZ9 cL)),(45,vi (k:Int)),(46,vi (r:Int)),(49,.slice aY L.length b2),(50,vi (L.length:Int)),(51,vi (i:Int)),(56,.slice bI (gsT n).length bJ),(57,vi ((gsT n).length:Int)),(58,vi (j:Int)),(98,.slice aD e.w.length aP),(99,.agg #[vi g.k,vi g.a,vi g.b]),(102,.agg #[vi ((valW n (e.w++[g])).rows),vi ((valW n (e.w++[g])).cols),.slice aJ ((valW n (e.w++[g])).cells).length aK])]/\w0.heap.size<=cL/\Blk w cL 121 [.slice none 0 0,vi 0,vi 0,.slice none 0 0]/\aI≠cL/\w29.heap.size<=cL/\w28.heap.size<=cL/\Own w w29.heap.size 59 3 encG aD aP e.w/\Away aD aX/\Below w29.heap.size w29 w) ?_ ?_
     ·rintro a qL ⟨cL,aD,aP,H,iW,eG,eH,iX,iY,W,J,o⟩;clear p;have p:=o;have E:=E.bw o;have y:=y.bw o;have z:=btr z o;have q:=btr q o;refine Yb H<|Y1 4<|Yk O tv0 (X2 (k:=1) (vs:=[.agg #[vi g.k,vi g.a,vi g.b]]) (zs:=[vi g.k,vi g.a,vi g.b]) O Xa Xc O O) (fun _ _ ⟨_,_,_,h,_⟩=>h) ?_;rintro _ qM ⟨b106,rfl,cP,o,lZ⟩
      have eI:aX≠b106:=by have:=E.lt;omega
      have iZ:=Q0 z.size cP;have j4:=Q0 q.size cP;have j5:=Q0 p.size cP;have eJ:=y.away cP;have eK:=W.away cP;have eG:=eG.bw o;have W:=W.bw o;have z:=btr z o;have q:=btr q o;have p:=btr p o;exact fun a H=>g8 _ a _ O ⟨b106,cL,aD,aP,H.sb,iZ,lZ,eI,iW,eG,eH,j5,j4,iX,iY,W,J,eJ,eK,p⟩
     intro eL;refine Yc [0,1,3,4,6,8] 4 (fun a w=>∃ aE cM,Fr a 125 [(0,vi (n:Int)),(4,(pZ9 b3)),(9,(pZ9 b17)),(11,.slice b4 N3.length b8),(13,(pZ9 aI)),(20,.string (keyM (valW n (e.w++[g])))),(24,(pZ9 cM)),(45,vi (k:Int)),(46,vi (r:Int)),(49,.slice aY L.length b2),(50,vi (L.length:Int)),(51,vi (i:Int)),(56,.slice bI (gsT n).length bJ),(57,vi ((gsT n).length:Int)),(58,vi (j:Int)),(97,.slice e.A e.w.length e.c),(100,.slice (some ⟨aE,0,none⟩) ([g]).length 1),(102,.agg #[vi ((valW n (e.w++[g])).rows),vi ((valW n (e.w++[g])).cols),.slice aJ ((valW n (e.w++[g])).cells).length aK])]/\w0.heap.size<=aE/\Blk w aE 59 [vi g.k,vi g.a,vi g.b]/\aX≠aE/\w0.heap.size<=cM/\Blk w cM 121 [.slice none 0 0,vi 0,vi 0,.slice none 0 0]/\aI≠cM/\w29.heap.size<=aE/\w28.heap.size<=aE/\w29.heap.size<=cM/\w28.heap.size<=cM/\AwayR e.w e.A aE/\Below w29.heap.size w29 w) ?_ ?_
     ·rintro a qO ⟨aE,cM,H,bE,aN,aS,j6,eM,eN,bF,bG,j7,j8,aT,o⟩;clear p;have p:=o;have E:=E.bw o;have y:=y.bw o;have z:=btr z o;have q:=btr q o;refine Yb H<|Y1 2<|Yk O tv0 (Vc (X6j _ e.A e.c e.w y.top Z) X38) (fun _ _ ⟨kP,kQ,_,cF,o⟩=>o) ?_;rintro _ qP ⟨kP,kQ,rfl,cF,o⟩;have eO:=cF.awayNew E.lt;have dT:=cF.awayNew aN.lt;have cF:=cF.lower p.size;have aN:=aN.bw o;have eM:=eM.bw o;have z:=btr z o;have q:=btr q o;have p:=btr p o;exact fun a H=>g8 _ a _ O ⟨aE,cM,kP,kQ,H.sb,bE,aN,aS,j6,eM,eN,bF,bG,j7,j8,cF,eO,aT,dT,p⟩
     intro eP;refine Yc [0,1,2,3,4] 5 (fun a w=>∃ aG aD aP,Fr a 125 [(0,vi (n:Int)),(4,(pZ9 b3)),(9,(pZ9 b17)),(11,.slice b4 N3.length b8),(13,(pZ9 aI)),(18,(pZ9 b69)),(20,.string (keyM (valW n (e.w++[g])))),(45,vi (k:Int)),(46,vi (r:Int)),(49,.slice aY L.length b2),(50,vi (L.length:Int)),(51,vi (i:Int)),(56,.slice bI (gsT n).length bJ),(57,vi ((gsT n).length:Int)),(58,vi (j:Int)),(98,.slice aD e.w.length aP),(100,.slice (some ⟨aG,0,none⟩) ([g]).length 1)]/\w0.heap.size<=aG/\Blk w aG 59 [vi g.k,vi g.a,vi g.b]/\aX≠aG/\w29.heap.size<=aG/\w28.heap.size<=aG/\Own w w29.heap.size 59 3 encG aD aP e.w/\Away aD aX/\AwayR e.w e.A aG/\Away aD aG/\Below w29.heap.size w29 w) ?_ ?_
     ·rintro a qQ ⟨aG,aD,aP,H,bO,aQ,aV,bP,bQ,W,J,aW,aH,o⟩;clear p;have p:=o;have G:=G.bw o;have E:=E.bw o;have aB:=aB.bw o;have z:=btr z o;have q:=btr q o;refine Yb H<|Y3 5 6 8 ?_ ?_ ?_
      ·refine Yt O tv0 O (X0i (enc:=encG) (l:=(e.w)) (l2:=([g])) (B0:=w29.heap.size) O O Xa Xc X9 Xq W (Rd.of_blk aQ O _ aQ.lt) (by simp only [maxLen];simp;omega) O3 p.size) ?_;rintro _ qR ⟨gD,gE,rfl,cG,hg,b1⟩
       have N:Own _ w29.heap.size 59 3 encG _ _ (e.w):=W
       have cQ:=b1 _ E.lt J;have m3:=b1 _ aQ.lt aH;clear b1;have G:=G.appT N hg O;have aB:=aB.appT N hg O;have z:=Below.app z N hg c4 z.size;have p:=Below.app p N hg (Qb _) p.size;have q:=Below.app q N hg g7 q.size;clear N hg;have cG:=cG.lower c4;refine Y2 6 8 ?_ ?_
       ·refine Yz O tv0 (Uev (Xx (l:=[vi ((valW n (e.w++[g])).rows),vi ((valW n (e.w++[g])).cols),.slice aJ ((valW n (e.w++[g])).cells).length aK]) O X0j (aB.at 0) O)) ?_;refine Yo 7 O (fun _=>Xi (ps:=[(0,.slice gD (e.w++([g])).length gE),(1,.agg #[vi ((valW n (e.w++[g])).rows),vi ((valW n (e.w++[g])).cols),.slice aJ ((valW n (e.w++[g])).cells).length aK])]) (cs:=[.slice gD (e.w++([g])).length gE,vi ((valW n (e.w++[g])).rows),vi ((valW n (e.w++[g])).cols),.slice aJ ((valW n (e.w++[g])).cells).length aK]) O (fun _=>by first|rfl|kernel_rfl)) ?_;exact fun a H=>kN _ a _ O ⟨gD,gE,H.sb,cG,cQ,p⟩
       refine Yk O tv0 (Xl (zs:=[.slice none 0 0,vi 0,vi 0,.slice none 0 0]) X3y O) (fun _ _ ⟨_,_,_,h,_⟩=>h) ?_;rintro _ qS ⟨b118,rfl,eQ,o,m4⟩
       have eR:aI≠b118:=by have:=G.lt;omega
       have jA:=Q0 z.size eQ;have jB:=Q0 q.size eQ;have jC:=Q0 p.size eQ;have cG:=cG.bw o;have z:=btr z o;have q:=btr q o;have p:=btr p o;exact fun a H=>kO _ a _ O ⟨b118,gD,gE,H.sb,jA,m4,eR,jC,jB,cG,cQ,p⟩
      ·refine Yz O tv0 (Uev (Xx (l:=[vi ((valW n (e.w++[g])).rows),vi ((valW n (e.w++[g])).cols),.slice aJ ((valW n (e.w++[g])).cells).length aK]) O X0j (aB.at 0) O)) ?_;exact fun a H=>iG _ a _ O ⟨aG,aD,aP,H.sb,bO,aQ,aV,bP,bQ,W,J,aW,aH,p⟩
      refine Yk O tv0 (Xl (zs:=[.slice none 0 0,vi 0,vi 0,.slice none 0 0]) X3y O) (fun _ _ ⟨_,_,_,h,_⟩=>h) ?_;rintro _ qT ⟨b121,rfl,eS,o,m5⟩
      have eT:aI≠b121:=by have:=G.lt;omega
      have jD:=Q0 z.size eS;have jE:=Q0 q.size eS;have jF:=Q0 p.size eS;have aQ:=aQ.bw o;have W:=W.bw o;have z:=btr z o;have q:=btr q o;have p:=btr p o;exact fun a H=>eF _ a _ O ⟨aG,b121,aD,aP,H.sb,bO,aQ,aV,jD,m5,eT,bP,bQ,jF,jE,W,J,aW,aH,p⟩
     intro iH;refine Yc [0,1,2,3,6] 5 (fun a w=>∃ aD aP,Fr a 125 [(0,vi (n:Int)),(4,(pZ9 b3)),(9,(pZ9 b17)),(11,.slice b4 N3.length b8),(13,(pZ9 aI)),(20,.string (keyM (valW n (e.w++[g])))),(45,vi (k:Int)),(46,vi (r:Int)),(49,.slice aY L.length b2),(50,vi (L.length:Int)),(51,vi (i:Int)),(56,.slice bI (gsT n).length bJ),(57,vi ((gsT n).length:Int)),(58,vi (j:Int)),(98,.slice aD e.w.length aP),(99,.agg #[vi g.k,vi g.a,vi g.b]),(102,.agg #[vi ((valW n (e.w++[g])).rows),vi ((valW n (e.w++[g])).cols),.slice aJ ((valW n (e.w++[g])).cells).length aK])]/\Own w w29.heap.size 59 3 encG aD aP e.w/\Away aD aX/\Below w29.heap.size w29 w) ?_ ?_
     ·rintro a qU ⟨aD,aP,H,W,J,o⟩;clear p;have p:=o;have G:=G.bw o;have E:=E.bw o;have y:=y.bw o;have z:=btr z o;have q:=btr q o;refine Yb H<|Y2 4 8 ?_ ?_
      ·refine Yk O tv0 (X2 (k:=1) (vs:=[.agg #[vi g.k,vi g.a,vi g.b]]) (zs:=[vi g.k,vi g.a,vi g.b]) O Xa Xc O O) (fun _ _ ⟨_,_,_,h,_⟩=>h) ?_;rintro _ qV ⟨b124,rfl,cR,o,m6⟩
       have eU:aX≠b124:=by have:=E.lt;omega
       have jG:=Q0 z.size cR;have jH:=Q0 q.size cR;have jI:=Q0 p.size cR;have eV:=y.away cR;have eW:=W.away cR;have W:=W.bw o;have z:=btr z o;have q:=btr q o;have p:=btr p o;exact fun a H=>iG _ a _ O ⟨b124,aD,aP,H.sb,jG,m6,eU,jI,jH,W,J,eV,eW,p⟩
      refine Yk O tv0 (Xl (zs:=[.slice none 0 0,vi 0,vi 0,.slice none 0 0]) X3y O) (fun _ _ ⟨_,_,_,h,_⟩=>h) ?_;rintro _ qW ⟨b128,rfl,eX,o,m7⟩
      have eY:aI≠b128:=by have:=G.lt;omega
      have jJ:=Q0 z.size eX;have jK:=Q0 q.size eX;have jL:=Q0 p.size eX;have W:=W.bw o;have z:=btr z o;have q:=btr q o;have p:=btr p o;exact fun a H=>eL _ a _ O ⟨b128,aD,aP,H.sb,jJ,m7,eY,jL,jK,W,J,p⟩
     intro iI;refine Yc [0,1,2,3,8] 5 (fun a w=>∃ cB aD aP,Fr a 125 [(0,vi (n:Int)),(4,(pZ9 b3)),(9,(pZ9 b17)),(11,.slice b4 N3.length b8),(13,(pZ9 aI)),(18,(pZ9 b69)),(20,.string (keyM (valW n (e.w++[g])))),(24,(pZ9 cB)),(45,vi (k:Int)),(46,vi (r:Int)),(49,.slice aY L.length b2),(50,vi (L.length:Int)),(51,vi (i:Int)),(56,.slice bI (gsT n).length bJ),(57,vi ((gsT n).length:Int)),(58,vi (j:Int)),(98,.slice aD e.w.length aP),(99,.agg #[vi g.k,vi g.a,vi g.b])]/\w0.heap.size<=cB/\Blk w cB 121 [.slice none 0 0,vi 0,vi 0,.slice none 0 0]/\aI≠cB/\w29.heap.size<=cB/\w28.heap.size<=cB/\Own w w29.heap.size 59 3 encG aD aP e.w/\Away aD aX/\Below w29.heap.size w29 w) ?_ ?_
     ·rintro a qX ⟨cB,aD,aP,H,gF,dC,cS,gG,gH,W,J,o⟩;clear p;have p:=o;have E:=E.bw o;have aB:=aB.bw o;have y:=y.bw o;have z:=btr z o;have q:=btr q o;refine Yb H<|Y2 4 6 ?_ ?_
      ·refine Yk O tv0 (X2 (k:=1) (vs:=[.agg #[vi g.k,vi g.a,vi g.b]]) (zs:=[vi g.k,vi g.a,vi g.b]) O Xa Xc O O) (fun _ _ ⟨_,_,_,h,_⟩=>h) ?_;rintro _ qY ⟨b131,rfl,cT,o,m8⟩
       have eZ:aX≠b131:=by have:=E.lt;omega
       have jM:=Q0 z.size cT;have jN:=Q0 q.size cT;have jO:=Q0 p.size cT;have f0:=y.away cT;have f5:=W.away cT;have dC:=dC.bw o;have W:=W.bw o;have z:=btr z o;have q:=btr q o;have p:=btr p o;exact fun a H=>eF _ a _ O ⟨b131,cB,aD,aP,H.sb,jM,m8,eZ,gF,dC,cS,jO,jN,gG,gH,W,J,f0,f5,p⟩
      refine Yz O tv0 (Uev (Xx (l:=[vi ((valW n (e.w++[g])).rows),vi ((valW n (e.w++[g])).cols),.slice aJ ((valW n (e.w++[g])).cells).length aK]) O X0j (aB.at 0) O)) ?_;exact fun a H=>eL _ a _ O ⟨cB,aD,aP,H.sb,gF,dC,cS,gG,gH,W,J,p⟩
     intro iJ;refine Yc [0,1,3,4,6] 5 (fun a w=>∃ aE,Fr a 125 [(0,vi (n:Int)),(4,(pZ9 b3)),(9,(pZ9 b17)),(11,.slice b4 N3.length b8),(13,(pZ9 aI)),(20,.string (keyM (valW n (e.w++[g])))),(45,vi (k:Int)),(46,vi (r:Int)),(49,.slice aY L.length b2),(50,vi (L.length:Int)),(51,vi (i:Int)),(56,.slice bI (gsT n).length bJ),(57,vi ((gsT n).length:Int)),(58,vi (j:Int)),(97,.slice e.A e.w.length e.c),(100,.slice (some ⟨aE,0,none⟩) ([g]).length 1),(102,.agg #[vi ((valW n (e.w++[g])).rows),vi ((valW n (e.w++[g])).cols),.slice aJ ((valW n (e.w++[g])).cells).length aK])]/\w0.heap.size<=aE/\Blk w aE 59 [vi g.k,vi g.a,vi g.b]/\aX≠aE/\w29.heap.size<=aE/\w28.heap.size<=aE/\AwayR e.w e.A aE/\Below w29.heap.size w29 w) ?_ ?_
     ·rintro a qZ ⟨aE,H,bE,aN,aS,bF,bG,aT,o⟩;clear p;have p:=o;have G:=G.bw o;have E:=E.bw o;have y:=y.bw o;have z:=btr z o;have q:=btr q o;refine Yb H<|Y2 2 8 ?_ ?_
      ·refine Yk O tv0 (Vc (X6j _ e.A e.c e.w y.top Z) X38) (fun _ _ ⟨kR,kS,_,cH,o⟩=>o) ?_;rintro _ r0 ⟨kR,kS,rfl,cH,o⟩;have f6:=cH.awayNew E.lt;have dU:=cH.awayNew aN.lt;have cH:=cH.lower p.size;have aN:=aN.bw o;have z:=btr z o;have q:=btr q o;have p:=btr p o;exact fun a H=>iG _ a _ O ⟨aE,kR,kS,H.sb,bE,aN,aS,bF,bG,cH,f6,aT,dU,p⟩
      refine Yk O tv0 (Xl (zs:=[.slice none 0 0,vi 0,vi 0,.slice none 0 0]) X3y O) (fun _ _ ⟨_,_,_,h,_⟩=>h) ?_;rintro _ r4 ⟨b138,rfl,f7,o,m9⟩
      have f8:aI≠b138:=by have:=G.lt;omega
      have jP:=Q0 z.size f7;have jQ:=Q0 q.size f7;have jR:=Q0 p.size f7;have aN:=aN.bw o;have z:=btr z o;have q:=btr q o;have p:=btr p o;exact fun a H=>eP _ a _ O ⟨aE,b138,H.sb,bE,aN,aS,jP,m9,f8,bF,bG,jR,jQ,aT,p⟩
     intro iK;refine Yc [0,1,3,4,8] 5 (fun a w=>∃ aE cC,Fr a 125 [(0,vi (n:Int)),(4,(pZ9 b3)),(9,(pZ9 b17)),(11,.slice b4 N3.length b8),(13,(pZ9 aI)),(18,(pZ9 b69)),(20,.string (keyM (valW n (e.w++[g])))),(24,(pZ9 cC)),(45,vi (k:Int)),(46,vi (r:Int)),(49,.slice aY L.length b2),(50,vi (L.length:Int)),(51,vi (i:Int)),(56,.slice bI (gsT n).length bJ),(57,vi ((gsT n).length:Int)),(58,vi (j:Int)),(97,.slice e.A e.w.length e.c),(100,.slice (some ⟨aE,0,none⟩) ([g]).length 1)]/\w0.heap.size<=aE/\Blk w aE 59 [vi g.k,vi g.a,vi g.b]/\aX≠aE/\w0.heap.size<=cC/\Blk w cC 121 [.slice none 0 0,vi 0,vi 0,.slice none 0 0]/\aI≠cC/\w29.heap.size<=aE/\w28.heap.size<=aE/\w29.heap.size<=cC/\w28.heap.size<=cC/\AwayR e.w e.A aE/\Below w29.heap.size w29 w) ?_ ?_
     ·rintro a r5 ⟨aE,cC,H,bE,aN,aS,gI,dD,cU,bF,bG,gJ,gK,aT,o⟩;clear p;have p:=o;have E:=E.bw o;have aB:=aB.bw o;have y:=y.bw o;have z:=btr z o;have q:=btr q o;refine Yb H<|Y2 2 6 ?_ ?_
      ·refine Yk O tv0 (Vc (X6j _ e.A e.c e.w y.top Z) X38) (fun _ _ ⟨kT,kU,_,cI,o⟩=>o) ?_;rintro _ r6 ⟨kT,kU,rfl,cI,o⟩;have fA:=cI.awayNew E.lt;have dW:=cI.awayNew aN.lt;have cI:=cI.lower p.size;have aN:=aN.bw o;have dD:=dD.bw o;have z:=btr z o;have q:=btr q o;have p:=btr p o;exact fun a H=>eF _ a _ O ⟨aE,cC,kT,kU,H.sb,bE,aN,aS,gI,dD,cU,bF,bG,gJ,gK,cI,fA,aT,dW,p⟩
      refine Yz O tv0 (Uev (Xx (l:=[vi ((valW n (e.w++[g])).rows),vi ((valW n (e.w++[g])).cols),.slice aJ ((valW n (e.w++[g])).cells).length aK]) O X0j (aB.at 0) O)) ?_;exact fun a H=>eP _ a _ O ⟨aE,cC,H.sb,bE,aN,aS,gI,dD,cU,bF,bG,gJ,gK,aT,p⟩
     intro iL;refine Yc [0,1,3,6,8] 5 (fun a w=>∃ cD,Fr a 125 [(0,vi (n:Int)),(4,(pZ9 b3)),(9,(pZ9 b17)),(11,.slice b4 N3.length b8),(13,(pZ9 aI)),(20,.string (keyM (valW n (e.w++[g])))),(24,(pZ9 cD)),(45,vi (k:Int)),(46,vi (r:Int)),(49,.slice aY L.length b2),(50,vi (L.length:Int)),(51,vi (i:Int)),(56,.slice bI (gsT n).length bJ),(57,vi ((gsT n).length:Int)),(58,vi (j:Int)),(97,.slice e.A e.w.length e.c),(99,.agg #[vi g.k,vi g.a,vi g.b]),(102,.agg #[vi ((valW n (e.w++[g])).rows),vi ((valW n (e.w++[g])).cols),.slice aJ ((valW n (e.w++[g])).cells).length aK])]/\w0.heap.size<=cD/\Blk w cD 121 [.slice none 0 0,vi 0,vi 0,.slice none 0 0]/\aI≠cD/\w29.heap.size<=cD/\w28.heap.size<=cD/\Below w29.heap.size w29 w) ?_ ?_
     ·rintro a r7 ⟨cD,H,gL,cJ,cV,gM,gN,o⟩;clear p;have p:=o;have E:=E.bw o;have y:=y.bw o;have z:=btr z o;have q:=btr q o;refine Yb H<|Y2 2 4 ?_ ?_
      ·refine Yk O tv0 (Vc (X6j _ e.A e.c e.w y.top Z) X38) (fun _ _ ⟨kV,kW,_,cW,o⟩=>o) ?_;rintro _ r8 ⟨kV,kW,rfl,cW,o⟩;have fB:=cW.awayNew E.lt;have cW:=cW.lower p.size;have cJ:=cJ.bw o;have z:=btr z o;have q:=btr q o;have p:=btr p o;exact fun a H=>eL _ a _ O ⟨cD,kV,kW,H.sb,gL,cJ,cV,gM,gN,cW,fB,p⟩
      refine Yk O tv0 (X2 (k:=1) (vs:=[.agg #[vi g.k,vi g.a,vi g.b]]) (zs:=[vi g.k,vi g.a,vi g.b]) O Xa Xc O O) (fun _ _ ⟨_,_,_,h,_⟩=>h) ?_;rintro _ r9 ⟨b145,rfl,dE,o,mC⟩
      have fC:aX≠b145:=by have:=E.lt;omega
      have jS:=Q0 z.size dE;have jT:=Q0 q.size dE;have jU:=Q0 p.size dE;have fD:=y.away dE;have cJ:=cJ.bw o;have z:=btr z o;have q:=btr q o;have p:=btr p o;exact fun a H=>eP _ a _ O ⟨b145,cD,H.sb,jS,mC,fC,gL,cJ,cV,jU,jT,gM,gN,fD,p⟩
     intro iM;refine Y4 2 4 6 8 ?_ ?_ ?_ ?_
     ·refine Yk O tv0 (Vc (X6j _ e.A e.c e.w y.top Z) X38) (fun _ _ ⟨gO,gQ,_,aZ,o⟩=>o) ?_;rintro _ rA ⟨gO,gQ,rfl,aZ,o⟩;have bR:=aZ.awayNew E.lt;have aZ:=aZ.lower p.size;have G:=G.bw o;have E:=E.bw o;have aB:=aB.bw o;have y:=y.bw o;have z:=btr z o;have q:=btr q o;have p:=btr p o;refine Y3 4 6 8 ?_ ?_ ?_
      ·refine Yk O tv0 (X2 (k:=1) (vs:=[.agg #[vi g.k,vi g.a,vi g.b]]) (zs:=[vi g.k,vi g.a,vi g.b]) O Xa Xc O O) (fun _ _ ⟨_,_,_,h,_⟩=>h) ?_;rintro _ rB ⟨b148,rfl,cX,o,mD⟩
       have fE:aX≠b148:=by have:=E.lt;omega
       have jV:=Q0 z.size cX;have jW:=Q0 q.size cX;have jX:=Q0 p.size cX;have fF:=y.away cX;have dX:=aZ.away cX;have aZ:=aZ.bw o;have z:=btr z o;have q:=btr q o;have p:=btr p o;exact fun a H=>iH _ a _ O ⟨b148,gO,gQ,H.sb,jV,mD,fE,jX,jW,aZ,bR,fF,dX,p⟩
      ·refine Yz O tv0 (Uev (Xx (l:=[vi ((valW n (e.w++[g])).rows),vi ((valW n (e.w++[g])).cols),.slice aJ ((valW n (e.w++[g])).cells).length aK]) O X0j (aB.at 0) O)) ?_;exact fun a H=>iI _ a _ O ⟨gO,gQ,H.sb,aZ,bR,p⟩
      refine Yk O tv0 (Xl (zs:=[.slice none 0 0,vi 0,vi 0,.slice none 0 0]) X3y O) (fun _ _ ⟨_,_,_,h,_⟩=>h) ?_;rintro _ rC ⟨b152,rfl,fG,o,mE⟩
      have fH:aI≠b152:=by have:=G.lt;omega
      have jY:=Q0 z.size fG;have jZ:=Q0 q.size fG;have k0:=Q0 p.size fG;have aZ:=aZ.bw o;have z:=btr z o;have q:=btr q o;have p:=btr p o;exact fun a H=>iJ _ a _ O ⟨b152,gO,gQ,H.sb,jY,mE,fH,k0,jZ,aZ,bR,p⟩
     ·refine Yk O tv0 (X2 (k:=1) (vs:=[.agg #[vi g.k,vi g.a,vi g.b]]) (zs:=[vi g.k,vi g.a,vi g.b]) O Xa Xc O O) (fun _ _ ⟨_,_,_,h,_⟩=>h) ?_;rintro _ rD ⟨b153,rfl,dF,o,bK⟩
      have bS:aX≠b153:=by have:=E.lt;omega
      have dG:=Q0 z.size dF;have dH:=Q0 q.size dF;have dI:=Q0 p.size dF;have bU:=y.away dF;have G:=G.bw o;have E:=E.bw o;have aB:=aB.bw o;have y:=y.bw o;have z:=btr z o;have q:=btr q o;have p:=btr p o;refine Y3 2 6 8 ?_ ?_ ?_
      ·refine Yk O tv0 (Vc (X6j _ e.A e.c e.w y.top Z) X38) (fun _ _ ⟨kX,kY,_,cK,o⟩=>o) ?_;rintro _ rE ⟨kX,kY,rfl,cK,o⟩;have fI:=cK.awayNew E.lt;have dY:=cK.awayNew bK.lt;have cK:=cK.lower p.size;have bK:=bK.bw o;have z:=btr z o;have q:=btr q o;have p:=btr p o;exact fun a H=>iH _ a _ O ⟨b153,kX,kY,H.sb,dG,bK,bS,dI,dH,cK,fI,bU,dY,p⟩
      ·refine Yz O tv0 (Uev (Xx (l:=[vi ((valW n (e.w++[g])).rows),vi ((valW n (e.w++[g])).cols),.slice aJ ((valW n (e.w++[g])).cells).length aK]) O X0j (aB.at 0) O)) ?_;exact fun a H=>iK _ a _ O ⟨b153,H.sb,dG,bK,bS,dI,dH,bU,p⟩
      refine Yk O tv0 (Xl (zs:=[.slice none 0 0,vi 0,vi 0,.slice none 0 0]) X3y O) (fun _ _ ⟨_,_,_,h,_⟩=>h) ?_;rintro _ rF ⟨b158,rfl,fJ,o,mF⟩
      have fK:aI≠b158:=by have:=G.lt;omega
      have k5:=Q0 z.size fJ;have k6:=Q0 q.size fJ;have k7:=Q0 p.size fJ;have bK:=bK.bw o;have z:=btr z o;have q:=btr q o;have p:=btr p o;exact fun a H=>iL _ a _ O ⟨b153,b158,H.sb,dG,bK,bS,k5,mF,fK,dI,dH,k7,k6,bU,p⟩
     ·refine Yz O tv0 (Uev (Xx (l:=[vi ((valW n (e.w++[g])).rows),vi ((valW n (e.w++[g])).cols),.slice aJ ((valW n (e.w++[g])).cells).length aK]) O X0j (aB.at 0) O)) ?_;refine Y3 2 4 8 ?_ ?_ ?_
      ·refine Yk O tv0 (Vc (X6j _ e.A e.c e.w y.top Z) X38) (fun _ _ ⟨kZ,l3,_,cY,o⟩=>o) ?_;rintro _ rG ⟨kZ,l3,rfl,cY,o⟩;have fL:=cY.awayNew E.lt;have cY:=cY.lower p.size;have z:=btr z o;have q:=btr q o;have p:=btr p o;exact fun a H=>iI _ a _ O ⟨kZ,l3,H.sb,cY,fL,p⟩
      ·refine Yk O tv0 (X2 (k:=1) (vs:=[.agg #[vi g.k,vi g.a,vi g.b]]) (zs:=[vi g.k,vi g.a,vi g.b]) O Xa Xc O O) (fun _ _ ⟨_,_,_,h,_⟩=>h) ?_;rintro _ rH ⟨b160,rfl,dJ,o,mG⟩
       have fM:aX≠b160:=by have:=E.lt;omega
       have k8:=Q0 z.size dJ;have kA:=Q0 q.size dJ;have kB:=Q0 p.size dJ;have fN:=y.away dJ;have z:=btr z o;have q:=btr q o;have p:=btr p o;exact fun a H=>iK _ a _ O ⟨b160,H.sb,k8,mG,fM,kB,kA,fN,p⟩
      refine Yk O tv0 (Xl (zs:=[.slice none 0 0,vi 0,vi 0,.slice none 0 0]) X3y O) (fun _ _ ⟨_,_,_,h,_⟩=>h) ?_;rintro _ rI ⟨b164,rfl,fO,o,mH⟩
      have fP:aI≠b164:=by have:=G.lt;omega
      have kC:=Q0 z.size fO;have kD:=Q0 q.size fO;have kE:=Q0 p.size fO;have z:=btr z o;have q:=btr q o;have p:=btr p o;exact fun a H=>iM _ a _ O ⟨b164,H.sb,kC,mH,fP,kE,kD,p⟩
     refine Yk O tv0 (Xl (zs:=[.slice none 0 0,vi 0,vi 0,.slice none 0 0]) X3y O) (fun _ _ ⟨_,_,_,h,_⟩=>h) ?_;rintro _ rJ ⟨b167,rfl,fQ,o,bW⟩
     have bX:aI≠b167:=by have:=G.lt;omega
     have dK:=Q0 z.size fQ;have dL:=Q0 q.size fQ;have dM:=Q0 p.size fQ;have E:=E.bw o;have aB:=aB.bw o;have y:=y.bw o;have z:=btr z o;have q:=btr q o;have p:=btr p o;refine Y3 2 4 6 ?_ ?_ ?_
     ·refine Yk O tv0 (Vc (X6j _ e.A e.c e.w y.top Z) X38) (fun _ _ ⟨l4,l5,_,d5,o⟩=>o) ?_;rintro _ rK ⟨l4,l5,rfl,d5,o⟩;have fR:=d5.awayNew E.lt;have d5:=d5.lower p.size;have bW:=bW.bw o;have z:=btr z o;have q:=btr q o;have p:=btr p o;exact fun a H=>iJ _ a _ O ⟨b167,l4,l5,H.sb,dK,bW,bX,dM,dL,d5,fR,p⟩
     ·refine Yk O tv0 (X2 (k:=1) (vs:=[.agg #[vi g.k,vi g.a,vi g.b]]) (zs:=[vi g.k,vi g.a,vi g.b]) O Xa Xc O O) (fun _ _ ⟨_,_,_,h,_⟩=>h) ?_;rintro _ rL ⟨b169,rfl,dN,o,mI⟩
      have fS:aX≠b169:=by have:=E.lt;omega
      have kF:=Q0 z.size dN;have kG:=Q0 q.size dN;have kH:=Q0 p.size dN;have fT:=y.away dN;have bW:=bW.bw o;have z:=btr z o;have q:=btr q o;have p:=btr p o;exact fun a H=>iL _ a _ O ⟨b169,b167,H.sb,kF,mI,fS,dK,bW,bX,kH,kG,dM,dL,fT,p⟩
     refine Yz O tv0 (Uev (Xx (l:=[vi ((valW n (e.w++[g])).rows),vi ((valW n (e.w++[g])).cols),.slice aJ ((valW n (e.w++[g])).cells).length aK]) O X0j (aB.at 0) O)) ?_;exact fun a H=>iM _ a _ O ⟨b167,H.sb,dK,bW,bX,dM,dL,p⟩
    rintro a rM ⟨bN,aR,aU,H,eA,bD,d9,b0,dA,o⟩;have hU:=aM.away dA;have M:=M.bw o;have C:=C.bw o;have I:=I.bw o;have G:=G.bw o;have aM:=aM.bw o;have aA:=aA.bw o;have U:=U.bw o;have y:=y.bw o;have aF:=aF.bw o;have aC:=aC.bw o;have b6:=b6.bw o;have aO:=aO.bw o;have aL:=aL.bw o;have Q:=Q.bw o;have z:=btr z o;refine oD _ _<|Zs H fun _ mJ=>?_;refine Ze (Vd O X5x 0)<|Ze (X0 O X9w (I.at 0))<|Zm O<|Ze (Vd O Xc3 0)<|Ze (X0 O X0l (bD.at 0))<|Zo (Y0p (f:=sgF Fk) (s:=keyM (valW n (e.w++[g]))) O O O Tryz.underlying49 Tryz.underlying9 C (Xq8 (by simpa using g6))) ?_;rintro _ rN ⟨ho,cN⟩;have hY:=DeepM.upd (s:=keyM (valW n (e.w++[g]))) (x:=(⟨aR,aU,e.w++([g])⟩ : Sq)) Q.top b0.rd.top
    clear Q;have Q:=hY;clear hY;have b5:=C.nc;have M:=M.onlyN ho b5;have I:=I.onlyN ho b5;have G:=G.onlyN ho b5;have bD:=bD.onlyN ho b5;have aM:=aM.onlyN ho b5;have aA:=aA.onlyN ho b5;have U:=U.onlyN ho b5;have y:=y.onlyN ho b5;have aF:=aF.onlyN ho b5;have aC:=aC.onlyN ho b5;have b6:=b6.onlyN ho b5;have b0:=b0.onlyN ho b5;have aO:=aO.onlyN ho b5;have aL:=aL.onlyN ho b5;have Q:=Q.onlyN ho b5;have z:=Below.oy z ho e7
    rw [show Value.slice aR (e.w++([g])).length aU=Sq.v (⟨aR,aU,e.w++([g])⟩ : Sq) from O,Xki] at cN
    have C:=cN;clear cN ho b5;refine Zt mJ fun a H=>?_;refine Zr H<|Zm O<|Ze (Vn Xkt bD)<|Zf (X2 (k:=1) (vs:=[.agg #[.slice aR (e.w++([g])).length aU,vi ((valW n (e.w++[g])).rows),vi ((valW n (e.w++[g])).cols),.slice aJ ((valW n (e.w++[g])).cells).length aK]]) (zs:=[.slice aR (e.w++([g])).length aU,vi ((valW n (e.w++[g])).rows),vi ((valW n (e.w++[g])).cols),.slice aJ ((valW n (e.w++[g])).cells).length aK]) O X4x X7f O O) ?_;rintro _ rO ⟨b172,rfl,iN,o,fU⟩
    have mK:aI≠b172:=by have:=G.lt;omega
    have mL:bN≠b172:=by have:=bD.lt;omega
    have oL:=Q0 z.size iN;have fV:=aM.away iN;have M:=M.bw o;have C:=C.bw o;have I:=I.bw o;have G:=G.bw o;have bD:=bD.bw o;have aM:=aM.bw o;have aA:=aA.bw o;have U:=U.bw o;have y:=y.bw o;have aF:=aF.bw o;have aC:=aC.bw o;have b6:=b6.bw o;have b0:=b0.bw o;have aO:=aO.bw o;have aL:=aL.bw o;have Q:=Q.bw o;have z:=btr z o;refine Zf (X0i (enc:=encTw) (l:=(N3)) (l2:=([(⟨aR,aU,e.w++([g]),(valW n (e.w++[g])),aJ,aK⟩ : Tw)])) (B0:=w0.heap.size) O O X4x X7f X85 Xlh aM (Rd.of_blk fU O _ fU.lt) (by simp only [maxLen];simp;omega) O3 z.size) ?_;rintro _ rP ⟨oI,oJ,rfl,mM,hg,b1⟩
    have N:Own _ w0.heap.size 121 4 encTw _ _ (N3):=aM
    have fW:=b1 _ G.lt cE;have mN:=b1 _ bD.lt hU;have l6:=b1 _ fU.lt fV;have fX:=Apart.app aA bL b1;clear b1;have dO:=DeepT.snoc (l:=N3) (x:=(⟨aR,aU,e.w++([g]),(valW n (e.w++[g])),aJ,aK⟩ : Tw)) aO.top b0.rd.top b6.rd.top;have M:=M.appT N hg O;have C:=C.app N hg;have I:=I.appT N hg O;have G:=G.appA hg cE;have aA:=aA.appP hg bL;have U:=U.appT N hg O;have y:=y.appT N hg O;have aF:=aF.appT N hg O;have aC:=aC.appT N hg O;have aL:=aL.appT N hg O O;have dO:=dO.appT N hg O O;have Q:=Q.appT N hg O;have z:=Below.app z N hg (Qb _) z.size;clear N hg;refine Za O ?_;refine Zn fun a H=>?_;refine Xn<|kM _ _<|Zr H<|Ze (X03 O O Z Z)<|Zm O ?_;refine Zn fun a H=>?_;refine Xd ?_;exact ⟨(j+1,N3++([(⟨aR,aU,e.w++([g]),(valW n (e.w++[g])),aJ,aK⟩ : Tw)]),(updG Fk (keyM (valW n (e.w++[g]))) (⟨aR,aU,e.w++([g])⟩ : Sq))),⟨oI,oJ,H.sb,Z,(Xyw hS hL d8 g4 nT g6 O O),(Xtc lG O),M,C,I,G,mM,aA,U,y.top,aF.top,aC.top,dO.top,aL.top,Q.top,fW,fX,z⟩,O1⟩
   have pH:j=(gsT n).length:=by omega
   refine Q9<|Xm<|Xm<|X0a ?_;refine Xn<|nN _ _<|Zr H<|Ze (X03 O O Z Z)<|Zm O ?_;refine Zn fun a H=>?_;refine Xd ?_;exact ⟨(i+1,N3,Fk),⟨b4,b8,H.sb,Z,(Xu2 (by rw [<- pH];exact hS) (by rw [<- Xi8 hL];omega)),lG,M,C,I,aM,aA,U,aO.top,aL.top,Q.top,bL,z⟩,O1⟩
  have pI:i=L.length:=by omega
  have oK:StW n r (tbW n r).2.length 0 Fj N2:=by rw [<- Xi8 hL,<- pI];exact nJ
  refine Q9<|Xm<|Xm<|X0a ?_;refine nH _ _<|Zs H fun _ mO=>?_;refine Zm O<|Za O<|Zt mO fun a H=>?_;refine Zr H<|Ze (Vd O Xc2 1)<|Ze (X0 O X4k (I.at 1))<|Zm O<|Ze (X0o O X4x)<|Zf (X2 (k:=1) (vs:=[vi (N2.length:Int)]) (zs:=[vi (N2.length:Int)]) O Xy X1a O O) ?_;rintro _ rQ ⟨pN,rfl,iO,o,fY⟩;have oM:=Q0 z.size iO;have fZ:=U.away iO;have M:=M.bw o;have C:=C.bw o;have I:=I.bw o;have bC:=bC.bw o;have U:=U.bw o;have bH:=bH.bw o;have Q:=Q.bw o;have z:=btr z o;refine Zf (X0i (enc:=encI) (l:=(zs)) (l2:=([(N2.length:Int)])) (B0:=w0.heap.size) O O Xy X1a Xt X1x U (Rd.of_blk fY O _ fY.lt) (by simp only [maxLen];simp;omega) O3 z.size) ?_;rintro _ rR ⟨iP,iQ,rfl,g3,hg,b1⟩
  have N:Own _ w0.heap.size 3 1 encI _ _ (zs):=U
  have l7:=b1 _ fY.lt fZ;clear b1;have M:=M.appT N hg O;have C:=C.app N hg;have I:=I.appT N hg O;have bC:=bC.appT N hg O;have bH:=bH.appT N hg O O;have Q:=Q.appT N hg O;have z:=Below.app z N hg (Qb _) z.size;clear N hg;refine Ze (Vd O Xc2 1)<|Zo (Vu (vs:=[.slice iP (zs++([(N2.length:Int)])).length iQ]) (l':=[.map (some bZ),.slice iP (zs++([(N2.length:Int)])).length iQ]) O O Xbd I) ?_;rintro _ rS ⟨ho,hb⟩;have M:=M.oy ho Z;have C:=C.oy ho (C.ne I);have bC:=bC.oT ho I O;have g3:=g3.oT ho I O;have bH:=bH.oT ho I O O;have Q:=Q.oT ho I O;have z:=Below.oy z ho l9;have I:=hb;refine Zn fun a H=>?_;refine Xn<|nE _ _<|Zr H<|Ze (X03 O O Z Z)<|Zm O ?_;refine Zn fun a H=>?_;refine Xd ?_;exact ⟨(r+1,N2,Fj,zs++([(N2.length:Int)])),⟨gS,hZ,iP,iQ,H.sb,Z,(Xgu oK).2,(Xgu oK).1,kK,O3,M,C,I,bC,g3,bH.top,Q.top,z⟩,O1⟩
 refine Q9<|Xm<|Xm<|X0a ?_;refine n9 _ _<|Zs H fun _ mP=>?_;refine Ze (Vn Xks I)<|Zo (Vw [.map (some bZ),.slice d6 zs.length d7] X9u M) ?_;rintro _ rT ⟨ho,hb⟩;have C:=C.oy ho (C.ne M);have U:=U.oT ho M O;have Q:=Q.oT ho M O;have z:=Below.oy z ho mW;have M:=hb;refine Zt mP fun a H=>?_
 refine Q6 (X4 H (Xv H O (ResV.cellN (l:=[.map (some bZ),.slice d6 zs.length d7]) O Xks (M.at 0) O)) ?_)
 obtain rfl:r=k:=by omega
 exact ⟨bZ,Fg,d6,d7,zs,O,C,Q.top,hF,U,e7,z⟩
theorem Xey{o:Option (List Gt)}(h:o.isSome=true) : o=some (o.getD []):=by
 cases o with
 | none=>cases h
 | some x=>rfl
theorem Xiv(n:Nat)(m x:Mx) : fdS n m 0 x=if phaseS x m=true then some [] else none:=rfl
def NoF(n:Nat)(m x:Mx)(k i:Nat) : Prop:=((gsT n).take i).findSome? (fun g=>(fdS n m k (timesS false (gateS n g) x).2).map (g :: ·))=none
theorem Xpf(n:Nat)(m x:Mx)(k:Nat) : NoF n m x k 0:=rfl
theorem Xpe{n:Nat}{m x:Mx}{k i:Nat}{u:Gt}(h:NoF n m x k i)(hu:(gsT n)[i]? = some u)(hn:(fdS n m k (timesS false (gateS n u) x).2).isSome=false) : NoF n m x k (i+1):=by
 unfold NoF at *
 rw [Qt,hu,List.findSome?_append,h]
 cases e:fdS n m k (timesS false (gateS n u) x).2 with
 | none=>simp [e]
 | some y=>rw [e] at hn;cases hn
theorem Xtl{n:Nat}{m x:Mx}{k i:Nat}(h:NoF n m x k i)(hi:(gsT n).length<=i) : fdS n m (k+1) x=none:=by
 unfold NoF at h
 rw [Qi hi] at h
 exact h
theorem Xpd{n:Nat}{m x:Mx}{k i:Nat}{u:Gt}(h:NoF n m x k i)(hu:(gsT n)[i]? = some u)(hn:(fdS n m k (timesS false (gateS n u) x).2).isSome=true) : fdS n m (k+1) x=some (u::(fdS n m k (timesS false (gateS n u) x).2).getD []):=by
 unfold NoF at h
 obtain ⟨h1,h2⟩:=Qg.1 hu
 have e:gsT n=(gsT n).take i++u::(gsT n).drop (i+1):=by
  rw [<- h2,<- Qy h1,W9]
 have hd:fdS n m (k+1) x=(gsT n).findSome? fun g=>(fdS n m k (timesS false (gateS n g) x).2).map (g :: ·):=rfl
 rw [hd,e,List.findSome?_append,h,List.findSome?_cons]
 cases e2:fdS n m k (timesS false (gateS n u) x).2 with
 | none=>rw [e2] at hn;cases hn
 | some y=>rfl
theorem Xhb{n:Nat}{m:Mx} : ∀ {k:Nat} {x:Mx} {w:List Gt},fdS n m k x=some w->w.length=k
 | 0,x,w,h=>by
  rw [Xiv] at h
  split at h
  ·injection h with h;subst h;rfl
  ·cases h
 | k+1,x,w,h=>by
  have hd:fdS n m (k+1) x=(gsT n).findSome? fun g=>(fdS n m k (timesS false (gateS n g) x).2).map (g :: ·):=rfl
  rw [hd] at h
  obtain ⟨g,hg,h2⟩:=List.exists_of_findSome?_eq_some h;obtain ⟨y,hy,rfl⟩:=Option.map_eq_some_iff.1 h2
  rw [Qs,Xhb hy]
theorem Xc5{n:Nat}{m:Mx}{k:Nat}{x:Mx} : ((fdS n m k x).getD []).length<=k:=by
 cases e:fdS n m k x with
 | none=>simp
 | some w=>simp [Xhb e]
theorem Xs3{n j k i:Nat}(hn:n=1∨n=2)(hjk:j+(k+1)<=8){w:List Gt}{x:Mx}{u:Gt}(hw:w ∈ wds (gsT n) j)(hx:x=valW n w)(hu:(gsT n)[i]? = some u) :
  gOk (n:Int) u=true/\mOk (gateS n u)=true/\mOk x=true/\(gateS n u).cols=x.rows/\timesS false (gateS n u) x=(false,valW n (w++[u]))/\w++[u] ∈ wds (gsT n) (j+1)/\(valW n (w++[u])).cells.length=2^n*2^n:=by
 have hm:=Qe hu;have hg:=X6v hn u hm;obtain ⟨g1,g2⟩:=X39 hg.1
 obtain ⟨h1,h2,h3,_⟩:=X2l hn (by omega:j<=8) hw
 have hs:=X3f hw hm
 refine ⟨hg.1,g2,by rw [hx];exact h1,?_,by rw [hx];exact Xd1 hn Z hw hm,hs,X5o hn Z hs⟩
 rw [hx,h2];rfl
theorem Xkm{n:Nat}{m:Mx}{k:Nat}(h:∀ j,j<k->fdS n m j (unitS (2^n))=none){l:List Gt}(hl:fdS n m k (unitS (2^n))=some l) : ∀ K,k<=K->srS n m K=some l
 | 0,hK=>by
  obtain rfl:k=0:=by omega
  exact hl
 | K+1,hK=>by
  unfold srS
  by_cases e:k=K+1
  ·subst e
   have:∀ j,j<K+1->srS n m j=none:=by
    intro j
    induction j with
    | zero=>intro hj;exact h 0 Z
    | succ j ih=>intro hj;unfold srS;rw [ih Z,h (j+1) hj];rfl
   rw [this K Z,hl];rfl
  ·rw [Xkm h hl K Z];rfl
theorem fd0(n:Nat)(m x:Mx) : (fdS n m 0 x).getD []=[]/\(fdS n m 0 x).isSome=phaseS x m:=by
 rw [Xiv]
 cases phaseS x m<;>exact ⟨rfl,rfl⟩
theorem Xcp{n j:Nat}{m x:Mx}(h:∀ i,i<j->fdS n m i x=none)(hs:(fdS n m j x).isSome=false) : ∀ i,i<j+1->fdS n m i x=none:=fun i hi=>by
 by_cases e:i=j
 ·subst e;cases e2:fdS n m i x with
  | none=>rfl
  | some y=>rw [e2] at hs;cases hs
 ·exact h i Z
theorem Xvu(t:World)(n:Nat)(x:Mx)(Ax:Option Addr)(cx:Nat)(G:Rd t t.heap.size 139 encD Ax x.cells)(m:Mx)(Am:Option Addr)(cm:Nat)(H:Rd t t.heap.size 139 encD Am m.cells)(k:Nat)(hn:n=1∨n=2)(wd:List Gt)(jj:Nat)(bJ:jj+k<=8)(aA:wd ∈ wds (gsT n) jj)(hx:x=valW n wd)(N:m.cells.length=2^n*2^n)(IH:∀ (y:Nat),y<k->∀ (t:World) (n:Nat) (x:Mx) (Ax:Option Addr) (cx:Nat) (G:Rd t t.heap.size 139 encD Ax x.cells) (m:Mx) (Am:Option Addr) (cm:Nat) (H:Rd t t.heap.size 139 encD Am m.cells) (hn:n=1∨n=2) (wd:List Gt) (jj:Nat) (bJ:jj+y<=8) (aA:wd ∈ wds (gsT n) jj) (hx:x=valW n wd) (N:m.cells.length=2^n*2^n),Ret Tryz.prog 65 [vi (n:Int),mV Ax cx x,mV Am cm m,vi (y:Int)] t (fun v w=>∃ A c1,v=.tuple #[.slice A ((fdS n m y x).getD []).length c1,.bool (fdS n m y x).isSome]/\Own w t.heap.size 59 3 encG A c1 ((fdS n m y x).getD [])/\Below t.heap.size t w)) : Ret Tryz.prog 65 [vi (n:Int),.agg #[vi x.rows,vi x.cols,.slice Ax x.cells.length cx],.agg #[vi m.rows,vi m.cols,.slice Am m.cells.length cm],vi (k:Int)] t (fun v w=>∃ A c1,v=.tuple #[.slice A ((fdS n m k x).getD []).length c1,.bool ((fdS n m k x).isSome)]/\Own w t.heap.size 59 3 encG A c1 ((fdS n m k x).getD [])/\Below t.heap.size t w):=by
 have bK:x.cells.length=2^n*2^n:=by rw [hx];exact X5o hn Z aA
 refine enter Tryz.func65 O 55 O O ?_;intro a q
 have o:=bz t
 refine Zs q fun _ bL=>?_;refine Zf (X0m (zs:=[vi x.rows,vi x.cols,.slice Ax x.cells.length cx]) O O) ?_;rintro _ w1 ⟨b4,rfl,bM,f,j⟩;have cC:=Q0 o.size bM;have o:=btr o f;refine Zf (X0m (zs:=[vi m.rows,vi m.cols,.slice Am m.cells.length cm]) O O) ?_;rintro _ w2 ⟨b5,rfl,bN,f,p⟩
 have bI:b4≠b5:=by have:=j.lt;omega
 have cD:=Q0 o.size bN;have j:=j.bw f;have o:=btr o f;refine Za O<|Za O<|ZX bL fun a q _ bO=>?_;refine Zs q fun _ bP=>?_;refine Zm O<|Ze (X13 O O)<|Zt bP fun a q=>?_
 refine X04 q O (fun aB=>?_) (fun aB=>?_)
 ·have bQ:k=0:=by have h9:(k:Int)=0:=(by simpa using aB);omega
  refine Zs q fun _ aR=>?_;refine Ze (Vn X0j j)<|Ze (Vn X0j p)<|Zf (Vc (Y1q _ x Ax cx (G.bx o).top m Am cm (H.bx o).top (by rw [bK,N]) (by rw [N];rcases hn with rfl|rfl<;>decide)) Xx0) ?_;rintro _ w3 ⟨ix,rfl,f⟩;have o:=btr o f;refine Zm O<|Ze (X3 (vs:=[vi ix,.bool (phaseS x m)]) O O)<|Ze (X3 (vs:=[vi ix,.bool (phaseS x m)]) O O)<|Za O<|Za O<|Zx aR fun a q _ aS=>?_;refine Zm O<|Za O<|Za O<|Zt aS fun a q=>?_;refine Q6<|X5<|X4 q (X0q q O O O) ?_
  subst bQ
  obtain ⟨f1,f2⟩:=fd0 n m x
  rw [f1,f2]
  exact ⟨none,0,O,(Own.nil _ _ _ _ _),o⟩
 obtain ⟨y,aT⟩ : ∃ y,k=y+1:=⟨k-1,by have h9:¬ (k:Int)=0:=(by simpa using aB);omega⟩
 refine Q7<|bO _ _<|Zs q fun _ aU=>?_;refine Ze (Xi (ps:=[]) (cs:=[.bool false]) O (fun _=>by first|rfl|kernel_rfl))<|Zf (X0m (zs:=[.bool false]) O O) ?_;rintro _ w4 ⟨I,rfl,aV,f,d⟩;have aC:=Q0 o.size aV;have j:=j.bw f;have p:=p.bw f;have o:=btr o f;refine Za O<|ZX aU fun a q _ aW=>?_;refine Zs q fun _ aX=>?_;refine Zm O<|Zf (X23 (vs:=[vi (n:Int)]) O Xsd (by have hq:=Xzr w4 (n:Int) Z;rw [Qj] at hq;exact hq)) ?_;rintro _ w5 ⟨aY,aZ,rfl,g,f⟩;have g:=g.lower o.size;have j:=j.bw f;have p:=p.bw f;have d:=d.bw f;have o:=btr o f;refine Ze (X0o O Xa)<|Zm O<|Zt aX fun a q=>?_;refine Q8<|X0d (σ:=Nat) (fun (i:Nat) (a:Act) (w:World)=>Fr a 55 [(0,vi (n:Int)),(3,vi (k:Int)),(5,(pZ9 b4)),(6,(pZ9 b5)),(12,(pZ9 I)),(29,.slice aY (gsT n).length aZ),(30,vi ((gsT n).length:Int)),(31,vi (i:Int))]/\(i<=(gsT n).length)/\(NoF n m x y i)/\Blk w b4 92 [vi x.rows,vi x.cols,.slice Ax x.cells.length cx]/\Blk w b5 92 [vi m.rows,vi m.cols,.slice Am m.cells.length cm]/\Blk w I 149 [.bool false]/\Own w t.heap.size 59 3 encG aY aZ (gsT n)/\Below t.heap.size t w) (fun (i:Nat)=>(gsT n).length-i) 0 ?_ ?_
 ·exact ⟨q.sb,(Qf _),(Xpf n m x y),j,p,d,g,o⟩
 rintro i a w6 ⟨q,hi,aD,j,p,d,g,o⟩;refine Zs q fun _ b0=>?_;refine Ze (X16 O O)<|ZX b0 fun a q _ b1=>?_
 refine X12 q O (fun aE b2=>?_) (fun aE b2=>?_)
 ·obtain ⟨c,C⟩:=Xj (l:=(gsT n)) (k:=i) Z
  obtain ⟨bR,bS,bU,bW,Q,bX,cE⟩:=Xs3 (k:=y) hn Z aA hx C
  have cF:=X9k n;refine Q7<|b1 _ _<|Q5 fun _ b3=>?_;refine Q8<|Zs q fun _ b6=>?_;refine Zi (k:=i) (u:=c) (enc:=encG) (l:=(gsT n)) tv0 O O Xa X0g X9 g.rd C O ?_;intro cG aF;refine Ze (Xx (l:=[vi c.k,vi c.a,vi c.b]) O X01 aF O) ?_;refine ZB [vi c.k,vi c.a,vi c.b] X26 X0g fun bY w8 b7 f e=>?_;have bZ:=Q0 o.size b7;have j:=j.bw f;have p:=p.bw f;have d:=d.bw f;have g:=g.bw f;have o:=btr o f;refine ZX b6 fun a q _ b8=>?_;refine X08 (some I) (fun _=>false) mixed ?_;intro w9 f;have j:=j.bw f;have p:=p.bw f;have d:=d.bw f;have e:=e.bw f;have g:=g.bw f;have o:=btr o f;refine Yb q<|Yo 0 O (fun _=>X7 O)<|Yo 1 O (fun _=>X7 O)<|Yo 2 O (fun _=>X7 O) ?_;refine Yw 3 O tv0 (fun w1 h1=>Xx (l:=[vi c.k,vi c.a,vi c.b]) O X01 ((e.oz h1 d O).at 0) O) ?_;refine Yw 5 O tv0 (fun w1 h1=>Xx (l:=[vi x.rows,vi x.cols,.slice Ax x.cells.length cx]) O X0j ((j.oz h1 d O).at 0) O) ?_;refine Yw 7 O tv0 (fun w1 h1=>Xx (l:=[vi m.rows,vi m.cols,.slice Am m.cells.length cm]) O X0j ((p.oz h1 d O).at 0) O) ?_;refine Yo 8 O (fun _=>X7 O)<|Yo 9 O (fun _=>Vx (X18 O O Z Z) (show _=(y:Int) from Z))<|Y1 4 ?_;refine Yf O tv0 (EfW.mono (Vc (Xzb _ (n:Int) c bR) Xoc) (fun _ _ h=>⟨fun _=>by obtain ⟨aG,aH,rfl,D,f⟩:=h;exact Keep.of_below f,h⟩)) ?_;rintro _ c4 ⟨aG,aH,rfl,D,f⟩;have D:=D.lower o.size;have j:=j.bw f;have p:=p.bw f
  have d:=d.bw f;have e:=e.bw f;have g:=g.bw f;have o:=btr o f;refine Y1 6<|Yf O tv0 (EfW.mono (X23 (vs:=[(pZ9 I),.agg #[vi ((gateS (n:Int) c).rows),vi ((gateS (n:Int) c).cols),.slice aG ((gateS (n:Int) c).cells).length aH],.agg #[vi x.rows,vi x.cols,.slice Ax x.cells.length cx]]) O Xod (by have hq:=Xzc c4 I false d (gateS (n:Int) c) aG aH D.rd.top x Ax cx (G.bx o).top bS bU bW;rw [Q] at hq;dsimp only at hq;exact hq)) (fun _ _ h=>⟨fun _=>by obtain ⟨aI,aJ,rfl,E,hK,aK⟩:=h;exact hK.keep,h⟩)) ?_;rintro _ cH ⟨aI,aJ,rfl,E,hK,aK⟩;have b9:=o.size;obtain ⟨wm,hO,hm,f⟩:=hK.mid;clear hm;have B:=d;have j:=j.oz hO B O;have p:=p.oz hO B O;have e:=e.oz hO B O;have g:=g.oT hO B O;have o:=Below.oy o hO aC;have j:=j.bw f;have p:=p.bw f;have e:=e.bw f;have g:=g.bw f;have o:=btr o f
  clear B f hO hK;have d:=aK;clear aK
  have E:=E.lower b9;clear b9;refine Y1 10<|Yf O tv0 (EfW.mono (X23 (vs:=[vi (n:Int),.agg #[vi ((valW n (wd++[c])).rows),vi ((valW n (wd++[c])).cols),.slice aI ((valW n (wd++[c])).cells).length aJ],.agg #[vi m.rows,vi m.cols,.slice Am m.cells.length cm],vi (y:Int)]) O Xdq (IH y Z _ n (valW n (wd++[c])) aI aJ E.rd.top m Am cm (H.bx o).top hn (wd++[c]) (jj+1) Z bX O N)) (fun _ _ h=>⟨fun _=>by obtain ⟨aL,aM,rfl,z,f⟩:=h;exact Keep.of_below f,h⟩)) ?_;rintro _ cI ⟨aL,aM,rfl,z,f⟩;have aO:=z.awayNew e.lt;have z:=z.lower o.size;have j:=j.bw f;have p:=p.bw f;have d:=d.bw f;have e:=e.bw f;have g:=g.bw f;have o:=btr o f;refine Yo 11 O (fun _=>X7 O)<|Yo 12 O (fun _=>X3 (vs:=[.slice aL ((fdS n m y (valW n (wd++[c]))).getD []).length aM,.bool ((fdS n m y (valW n (wd++[c]))).isSome)]) O O)<|Yo 13 O (fun _=>X3 (vs:=[.slice aL ((fdS n m y (valW n (wd++[c]))).getD []).length aM,.bool ((fdS n m y (valW n (wd++[c]))).isSome)]) O O)<|Yo 14 O (fun _=>X0y O)<|Yo 15 O (fun _=>X0y O) ?_;refine Yd fun a q=>?_;refine b8 _ _<|Zs q fun _ bC=>?_;refine Zm O<|Zt bC fun a q=>?_
  refine X04 q O (fun J=>?_) (fun J=>?_)
  ·have aN:=J;refine Zs q fun _ bD=>?_;refine Ze (Vn X01 e)<|Zf (X2 (k:=1) (vs:=[.agg #[vi c.k,vi c.a,vi c.b]]) (zs:=[vi c.k,vi c.a,vi c.b]) O Xa Xc O O) ?_;rintro _ cJ ⟨b34,rfl,bE,f,U⟩
   have aP:bY≠b34:=by have:=e.lt;omega
   have L:=Q0 o.size bE;have e:=e.bw f;have z:=z.bw f;have o:=btr o f;refine Zm O<|Zf (X0i (enc:=encG) (l:=([c])) (l2:=(((fdS n m y (valW n (wd++[c]))).getD []))) (B0:=t.heap.size) O O Xa Xc X9 Xq (Own.of_blkL X9 U L O O (Nat.le_of_ble_eq_true O)) z.rd (by have:=Xc5 (n:=n) (m:=m) (k:=y) (x:=valW n (wd++[c]));simp only [maxLen];simp;omega) (by have:=Xc5 (n:=n) (m:=m) (k:=y) (x:=valW n (wd++[c]));simp;omega) o.size) ?_;rintro _ cK ⟨cA,cB,rfl,bF,hg,bG⟩
   have W:Own _ t.heap.size 59 3 encG _ _ ([c]):=(Own.of_blkL X9 U L O O (Nat.le_of_ble_eq_true O))
   have aQ:=bG _ e.lt (Away.ne Z)
   clear bG;have o:=Below.app o W hg (Qb _) o.size;clear W hg;refine Za O<|Za O<|Zt bD fun a q=>?_;refine Q6<|Xo<|X5<|X5 ?_;refine Xo<|X5<|X4 q (X0q q O O O) ?_
   have M:fdS n m k x=some ([c]++(fdS n m y (valW n (wd++[c]))).getD []):=by rw [aT,Xpd aD C (by rw [Q];exact aN),Q];rfl
   rw [M]
   exact ⟨cA,cB,O,bF,o⟩
  have aN:=J;refine Q7<|Xn<|b3 _ _<|Zr q ?_;refine Ze (X03 O O Z Z)<|Zm O ?_;refine Zn fun a q=>?_;refine Xd ?_;exact ⟨i+1,⟨q.sb,Z,(Xpe aD C (by rw [Q];simpa using aN)),j,p,d,g,o⟩,Z⟩
 refine Q9<|Xm<|Xm<|X0a ?_;refine aW _ _<|Zs q fun _ bH=>?_;refine Za O<|Za O<|Zt bH fun a q=>?_
 refine Q6 (X4 q (X0q q O O O) ?_)
 have M:fdS n m k x=none:=by rw [aT];exact Xtl aD Z
 rw [M]
 exact ⟨none,0,O,(Own.nil _ _ _ _ _),o⟩
theorem Xup(b:World)(n:Nat)(x:Mx)(Ax:Option Addr)(cx:Nat)(c:Rd b b.heap.size 139 encD Ax x.cells)(m:Mx)(Am:Option Addr)(cm:Nat)(d:Rd b b.heap.size 139 encD Am m.cells)(k:Nat)(hn:n=1∨n=2)(wd:List Gt)(jj:Nat)(aA:jj+k<=8)(aB:wd ∈ wds (gsT n) jj)(hx:x=valW n wd)(aC:m.cells.length=2^n*2^n) : Ret Tryz.prog 65 [vi (n:Int),mV Ax cx x,mV Am cm m,vi (k:Int)] b (fun v w=>∃ A c1,v=.tuple #[.slice A ((fdS n m k x).getD []).length c1,.bool (fdS n m k x).isSome]/\Own w b.heap.size 59 3 encG A c1 ((fdS n m k x).getD [])/\Below b.heap.size b w):=by
 induction k using Nat.strongRecOn generalizing b n x Ax cx m Am cm wd jj with
 | ind k ih=>exact Xvu b n x Ax cx c m Am cm d k hn wd jj aA aB hx aC fun k1 h1 b n x Ax cx c m Am cm d hn wd jj aA aB hx aC=>ih k1 h1 b n x Ax cx c m Am cm d hn wd jj aA aB hx aC
theorem Y36 : ((Tryz.prog.globalNamed "internal/strconv.uint64pow10").bind fun g => (Tryz.prog.globals[g]?).map (·.type)) = some (263 : TypeId) := by kernel_rfl
theorem Y35:(Rows.laid_internal_strconv_uint64pow10:DataW Unit)=Lib.tabData .u64 Lib.pow10Tab:=by kernel_rfl
theorem Xyl {W : World} (h : laidMetH Tryz.prog [("math/bits.deBruijn32tab", Rows.laid_math_bits_deBruijn32tab), ("math/bits.deBruijn64tab", Rows.laid_math_bits_deBruijn64tab), ("internal/strconv.uint64pow10", Rows.laid_internal_strconv_uint64pow10)] W) : PowT W := by
 rw [MakeChecks.laidMetH_plain _ _ _ O2] at h
 obtain ⟨g,t,cs,fuel,p,h1,h2,h3,h4⟩:=Lib.laidMet.reads h (.tail _ (.tail _ (.head _)));have h5:=Y36
 rw [h1,Qz,h2] at h5
 injection h5 with h5
 subst h5
 rw [Y35] at h4
 have hc:=Lib.cells_of_tab Tryz.underlying263 Tryz.underlying70 O2 O2 h4
 have ht : Lib.TabIs Tryz.prog W "internal/strconv.uint64pow10" .u64 Lib.pow10Tab := by
  unfold Lib.TabIs
  rw [h3,<- hc]
 exact Lib.tabBelow_of_tabIs ht
def hasB(qs:List Int)(q:Int) : Bool:=qs.any fun y=>y==q
theorem Xe5(qs:List Int)(q:Int) : (qs.any fun y=>q==y)=hasB qs q:=by
 unfold hasB;congr 1;funext y
 by_cases h:q=y
 ·subst h;rfl
 ·have h2:¬ y=q:=fun e=>h e.symm
  rw [beq_eq_false_iff_ne.2 h,beq_eq_false_iff_ne.2 h2]
theorem X3j{qs:List Int}{q:Int} : hasB qs q=true↔q ∈ qs:=by
 unfold hasB;simp
def insB(g:Gt)(qs:List Int) : Bool:=decide (0<((qubI g).length:Int))&&!((qubI g).any fun q=>!hasB qs q)
def tchB(g:Gt)(qs:List Int) : Bool:=(qubI g).any (hasB qs)
def inN(g:Gt)(qs:List Int) : Nat:=(qubI g).countP (hasB qs)
def ouN(g:Gt)(qs:List Int) : Nat:=(qubI g).countP fun q=>!hasB qs q
theorem Xbf(g:Gt)(qs:List Int) : decide (0<(inN g qs:Int))=tchB g qs:=by
 unfold inN tchB
 rw [Bool.eq_iff_iff,Qr,List.any_eq_true]
 constructor
 ·intro h
  have h2:0<(qubI g).countP (hasB qs):=by omega
  exact List.countP_pos_iff.1 h2
 ·intro h
  have:=List.countP_pos_iff.2 h;omega
theorem Xaz(g:Gt)(qs:List Int) : decide (0<(ouN g qs:Int))=(qubI g).any fun q=>!hasB qs q:=by
 unfold ouN
 rw [Bool.eq_iff_iff,Qr,List.any_eq_true]
 constructor
 ·intro h
  have h2:0<(qubI g).countP (fun q=>!hasB qs q):=by omega
  exact List.countP_pos_iff.1 h2
 ·intro h
  have:=List.countP_pos_iff.2 h;omega
theorem Xat(g:Gt)(qs:List Int) : insB g qs=(tchB g qs&&!decide (0<(ouN g qs:Int))):=by
 rw [Xaz]
 unfold insB tchB
 cases e:qubI g with
 | nil=>simp
 | cons x l=>
  cases e2:(x::l).any fun q=>!hasB qs q with
  | true=>simp
  | false=>
   have hx:hasB qs x=true:=by
    have:=W7.1 e2 x (Qk ..)
    simpa using this
   have h1:(x::l).any (hasB qs)=true:=List.any_eq_true.2 ⟨x,Qk ..,hx⟩
   rw [h1];simp
theorem Xp1(g:Gt)(qs:List Int) : (decide (0<(inN g qs:Int))&&decide (0<(ouN g qs:Int)))=(tchB g qs&&!insB g qs):=by
 rw [Xbf,Xat]
 cases tchB g qs<;>simp
def incF(l:List Int)(lo hi:Int) : Bool:=(List.range l.length).all fun i=>inR (l.getD i 0) lo hi&&!(decide (0<(i:Int))&&decide (l.getD i 0<=l.getD (i-1) 0))
theorem Xp3{l:List Int}{lo hi:Int}(h:incF l lo hi=true) : ∀ x ∈ l,lo<=x/\x<=hi:=fun x hx=>by
 obtain ⟨i,hi⟩:=List.getElem?_of_mem hx;have hl:=(Qg.1 hi).1
 unfold incF at h
 have h2:=W1.1 h i (W2.2 hl)
 rw [Qa,hi] at h2
 simp only [Qd,Qq] at h2
 exact X0b.1 h2.1
theorem Xp2{l:List Int}{lo hi:Int}(h:incF l lo hi=true)(h2:l.length<=2) : Inc l:=by
 match l,h2 with
 | [],_=>exact List.Pairwise.nil
 | [x],_=>simp [Inc]
 | [x,y],_=>
  unfold incF at h
  have:=W1.1 h 1 O5
  simp at this
  have hxy:x<y:=by have:=this.2;omega
  simp [Inc];exact hxy
def IncU(l:List Int)(lo hi:Int)(k:Nat) : Prop:=((List.range k).all fun i=>inR (l.getD i 0) lo hi&&!(decide (0<(i:Int))&&decide (l.getD i 0<=l.getD (i-1) 0)))=true
theorem Xcg(l:List Int)(lo hi:Int) : IncU l lo hi 0:=rfl
theorem Xcf{l:List Int}{lo hi:Int}{k:Nat}{u:Int}(h:IncU l lo hi k)(hu:l[k]? = some u)(hs:(!inR u lo hi||(decide (0<(k:Int))&&decide (u<=l.getD (k-1) 0)))=false) : IncU l lo hi (k+1):=by
 unfold IncU at *
 rw [List.range_succ,List.all_append,h]
 simp only [List.all_cons,List.all_nil,Bool.and_true,Qw,Qa,hu,Qq]
 simp only [Qa] at hs
 revert hs
 cases inR u lo hi<;>simp
 intro h;rcases Nat.eq_zero_or_pos k with e|e
 ·exact .inl e
 ·exact .inr (h e)
theorem Xfx{l:List Int}{lo hi:Int}{k:Nat}(h:IncU l lo hi k)(hk:k=l.length) : incF l lo hi=true:=by subst hk;exact h
theorem Xfw{l:List Int}{lo hi:Int}{k:Nat}{u:Int}(hu:l[k]? = some u)(hs:(!inR u lo hi||(decide (0<(k:Int))&&decide (u<=l.getD (k-1) 0)))=true) : incF l lo hi=false:=by
 have hk:=(Qg.1 hu).1
 rw [Bool.eq_false_iff]
 intro h
 unfold incF at h
 have h2:=W1.1 h k (W2.2 hk)
 simp only [Qa,hu,Qq] at h2 hs
 revert h2 hs
 cases inR u lo hi<;>simp
 intro h1 h2;rcases h1 with h1|h1
 ·omega
 ·exact h1
def rnL(qs:List Int) : List Gt->Int->Nat->List Int
 | [],_,_=>[]
 | _::_,_,0=>[]
 | g::l,i,m+1=>if insB g qs=true then i::rnL qs l (i+1) m else if tchB g qs=true then [] else rnL qs l (i+1) (m+1)
theorem Xk9(qs:List Int)(l:List Gt)(i:Int) : rnL qs l i 0=[]:=by cases l<;>rfl
theorem Xi1(qs:List Int) : ∀ (l:List Gt) (i:Int) (m:Nat),(rnL qs l i m).length<=m
 | [],_,_=>Qf _
 | _::_,_,0=>Qb _
 | g::l,i,m+1=>by
  unfold rnL
  split
  ·have:=Xi1 qs l (i+1) m;simp;omega
  ·split
   ·exact Qf _
   ·exact Xi1 qs l (i+1) (m+1)
theorem Xek(qs:List Int) : ∀ (l:List Gt) (i:Int) (m:Nat),∀ x ∈ rnL qs l i m,∃ j:Nat,x=i+(j:Int)/\∃ g,l[j]? = some g/\insB g qs=true
 | [],_,_=>fun x h=>by cases h
 | _::_,_,0=>fun x h=>by cases h
 | g::l,i,m+1=>fun x h=>by
  unfold rnL at h
  split at h
  ·rename_i hg
   rcases Qv.1 h with h|h
   ·exact ⟨0,by simp [h],g,rfl,hg⟩
   ·obtain ⟨j,h1,g2,h2,h3⟩:=Xek qs l (i+1) m x h;exact ⟨j+1,by rw [h1];simp;omega,g2,by simpa using h2,h3⟩
  ·split at h
   ·cases h
   ·obtain ⟨j,h1,g2,h2,h3⟩:=Xek qs l (i+1) (m+1) x h;exact ⟨j+1,by rw [h1];simp;omega,g2,by simpa using h2,h3⟩
def runB(c:Cx)(p:Int)(qs:List Int) : Bool:=inR (qs.length:Int) 1 2&&(incF qs 0 (c.n-1)&&(inR p 0 ((c.gs.length:Int)-1)&&insB (c.gs.getD p.toNat gZ) qs))
def runL(c:Cx)(p:Int)(qs:List Int) : List Int:=rnL qs (c.gs.drop p.toNat) p 6
def runX(c:Cx)(p:Int)(qs:List Int) : Option (List Int):=if runB c p qs=true then some (runL c p qs) else none
theorem Xgj{c:Cx}{p:Int}{qs:List Int}(h:runB c p qs=true) : runX c p qs=some (runL c p qs):=Q4 h
theorem Xem{c:Cx}{p:Int}{qs:List Int}(h:runB c p qs=false) : runX c p qs=none:=Q3 (by rw [h];decide)
def runP(c:Cx)(p:Int)(qs:List Int) : Option (List Int):=if (cOk c&&runB c p qs)=true then some (runL c p qs) else none
theorem Xgi{c:Cx}{p:Int}{qs:List Int}(h:(cOk c&&runB c p qs)=true) : runP c p qs=some (runL c p qs):=Q4 h
theorem Xel{c:Cx}{p:Int}{qs:List Int}(h:(cOk c&&runB c p qs)=false) : runP c p qs=none:=Q3 (by rw [h];decide)
theorem X27{c:Cx}{p:Int}{qs:List Int}(h:runB c p qs=true) : (1<=qs.length/\qs.length<=2)/\incF qs 0 (c.n-1)=true/\∃ k:Nat,p=(k:Int)/\k<c.gs.length/\∃ g,c.gs[k]? = some g/\insB g qs=true:=by
 unfold runB at h
 simp only [Qd,X0b] at h
 obtain ⟨h1,h2,h3,h4⟩:=h
 refine ⟨by omega,h2,p.toNat,by omega,by omega,c.gs.getD p.toNat gZ,?_,h4⟩
 rw [Qa,Qc Z];rfl
theorem Xgn{c:Cx}{p:Int}{qs:List Int}(h:runB c p qs=true) : ∃ r,runL c p qs=p::r:=by
 obtain ⟨_,_,k,rfl,hk,g,hg,hi⟩:=X27 h
 unfold runL
 have hk2:((k:Int)).toNat=k:=Qj k
 obtain ⟨h1,h2⟩:=Qg.1 hg
 rw [hk2,Qy h1,h2]
 unfold rnL
 rw [Q4 hi]
 exact ⟨_,O⟩
theorem X9s{c:Cx}{p:Int}{qs:List Int}(h:runB c p qs=true) : 1<=(runL c p qs).length:=by
 obtain ⟨r,e⟩:=Xgn h;rw [e];simp
theorem X8k(c:Cx)(p:Int)(qs:List Int) : (runL c p qs).length<=6:=Xi1 ..
theorem X43{c:Cx}{p:Int}{qs:List Int}(h:runB c p qs=true) : ∀ x ∈ runL c p qs,∃ j:Nat,x=(j:Int)/\j<c.gs.length/\p<=(j:Int)/\∃ g,c.gs[j]? = some g/\insB g qs=true:=fun x hx=>by
 obtain ⟨_,_,k,rfl,hk,_⟩:=X27 h;obtain ⟨j,h1,g,h2,h3⟩:=Xek _ _ _ _ x hx
 rw [Qj,List.getElem?_drop] at h2
 exact ⟨k+j,by omega,(Qg.1 h2).1,by omega,g,h2,h3⟩
theorem X7d{l:List Int}{k:Nat}(h:k<l.length) : l[k]? = some (l.getD k 0):=by rw [Qa,Qc h];rfl
theorem X62{l:List Gt}{k:Nat}(h:k<l.length) : l[k]? = some (l.getD k gZ):=by rw [Qa,Qc h];rfl
theorem Xiq{f:Int->Bool}{l:List Int}{k p:Nat}{u:Int}(h:p=(l.take k).countP f)(hu:l[k]? = some u)(hf:f u=true) : p+1=(l.take (k+1)).countP f:=by
 rw [Qt,hu,List.countP_append,<- h];simp [hf]
theorem Xne{f:Int->Bool}{l:List Int}{k p:Nat}{u:Int}(h:p=(l.take k).countP f)(hu:l[k]? = some u)(hf:f u=false) : p=(l.take (k+1)).countP f:=by
 rw [Qt,hu,List.countP_append,<- h];simp [hf]
theorem Xou{c:Cx}{run:List Int}{k j:Nat}{q:List Gt}{u:Int}(h:q=(run.take k).map fun i=>c.gs.getD i.toNat gZ)(hu:run[k]? = some u)(hj:u=(j:Int)) : q++[c.gs.getD j gZ]=(run.take (k+1)).map fun i=>c.gs.getD i.toNat gZ:=by
 rw [h,Qt,hu];simp [hj]
theorem Xgl(c:Cx)(p:Int)(qs:List Int) : (((((!cOk c)||!inR (qs.length:Int) 1 2)||!incF qs 0 (c.n-1))||!inR p 0 ((c.gs.length:Int)-1))||!insB (c.gs.getD p.toNat gZ) qs) = !(cOk c&&runB c p qs):=by
 unfold runB
 cases cOk c<;>cases inR (qs.length:Int) 1 2<;>cases incF qs 0 (c.n-1)<;>cases inR p 0 ((c.gs.length:Int)-1)<;>simp
def RnS(c:Cx)(p:Int)(qs:List Int)(k:Nat)(q:List Int) : Prop:=p.toNat+k<=c.gs.length/\q.length<=6/\q++rnL qs (c.gs.drop (p.toNat+k)) (p+(k:Int)) (6-q.length)=runL c p qs
theorem Xgh{c:Cx}{p:Int}{qs:List Int}(h:runB c p qs=true) : RnS c p qs 0 []:=by
 obtain ⟨_,_,k,rfl,hk,_⟩:=X27 h
 refine ⟨by omega,by simp,?_⟩
 simp [runL]
theorem Xyn{c:Cx}{p:Int}{qs:List Int}{k:Nat}{q:List Int}{u:Gt}(h:RnS c p qs k q)(hu:c.gs[p.toNat+k]? = some u)(hq:q.length<6)(hi:insB u qs=true) : RnS c p qs (k+1) (q++[p+(k:Int)]):=by
 obtain ⟨h1,h2,h3⟩:=h;obtain ⟨h4,h5⟩:=Qg.1 hu
 refine ⟨by omega,by simp;omega,?_⟩
 rw [<- h3,Qy h4,h5,show 6-q.length=(5-q.length)+1 from by omega,rnL,Q4 hi]
 simp only [Qx,List.singleton_append,Qh,Qs,List.length_nil]
 rw [show 6-(q.length+(0+1))=5-q.length from by omega,show p+((k+1:Nat) : Int)=p+(k:Int)+1 from by omega,<- Nat.add_assoc]
theorem Xkc{c:Cx}{p x:Int}{qs:List Int}{k:Nat}{q:List Int}{u:Gt}(hx:x=p+(k:Int))(h:RnS c p qs k q)(hu:c.gs[p.toNat+k]? = some u)(hq:q.length<6)(hi:insB u qs=true) : RnS c p qs (k+1) (q++[x]):=by
 rw [hx];exact Xyn h hu hq hi
theorem bn1{b:Bool}(h:(!b)=true) : b=false:=by cases b with
 | false=>rfl
 | true=>cases h
theorem bn2{b:Bool}(h:(!b)=false) : b=true:=by cases b with
 | false=>cases h
 | true=>rfl
theorem Xpz{c:Cx}{p:Int}{qs:List Int}{k:Nat}{q:List Int}{u:Gt}(h:RnS c p qs k q)(hu:c.gs[p.toNat+k]? = some u)(hq:q.length<6)(hi:insB u qs=false)(ht:tchB u qs=false) : RnS c p qs (k+1) q:=by
 obtain ⟨h1,h2,h3⟩:=h;obtain ⟨h4,h5⟩:=Qg.1 hu
 refine ⟨by omega,by omega,?_⟩
 rw [<- h3,Qy h4,h5,show 6-q.length=(5-q.length)+1 from by omega,rnL,Q3 (by rw [hi];decide),Q3 (by rw [ht];decide)]
 rw [show p+((k+1:Nat) : Int)=p+(k:Int)+1 from by omega,<- Nat.add_assoc]
theorem Xgg{c:Cx}{p:Int}{qs:List Int}{k:Nat}{q:List Int}{u:Gt}(h:RnS c p qs k q)(hu:c.gs[p.toNat+k]? = some u)(hq:q.length<6)(hi:insB u qs=false)(ht:tchB u qs=true) : q=runL c p qs:=by
 obtain ⟨h1,h2,h3⟩:=h;obtain ⟨h4,h5⟩:=Qg.1 hu
 rw [Qy h4,h5,show 6-q.length=(5-q.length)+1 from by omega,rnL,Q3 (by rw [hi];decide),Q4 ht,List.append_nil] at h3
 exact h3
theorem Xkb{c:Cx}{p:Int}{qs:List Int}{k:Nat}{q:List Int}(h:RnS c p qs k q)(he:c.gs.length<=p.toNat+k∨6<=q.length) : q=runL c p qs:=by
 obtain ⟨h1,h2,h3⟩:=h
 rcases he with he|he
 ·rw [W3 he,rnL,List.append_nil] at h3;exact h3
 ·rw [show 6-q.length=0 from by omega,Xk9,List.append_nil] at h3;exact h3
def gatL(c:Cx)(run:List Int) : List Gt:=run.map fun i=>c.gs.getD i.toNat gZ
theorem Xfy{n:Int}{g:Gt}{qs:List Int}(hg:gOk n g=true)(h:insB g qs=true) : GoodG qs n g:=by
 refine ⟨hg,fun x hx=>?_⟩
 unfold insB at h
 simp only [Qd,Bool.not_eq_true',W7] at h
 have:=h.2 x hx
 exact X3j.1 (by simpa using this)
theorem Xjs{g:Gt}{qs:List Int}(h:insB g qs=true) : ¬ g.k=12:=by
 intro e
 unfold insB qubI at h
 rw [Q4 e] at h
 simp at h
theorem X58{c:Cx}(hc:cOk c=true){p:Int}{qs:List Int}(h:runB c p qs=true) : ∀ g ∈ gatL c (runL c p qs),GoodG qs c.n g/\insB g qs=true:=fun g hg=>by
 obtain ⟨i,hi,rfl⟩:=W6.1 hg;obtain ⟨j,rfl,hj,_,g,h1,h2⟩:=X43 h i hi
 rw [Qj,Qa,h1]
 exact ⟨Xfy ((X10 hc).2.2 g (Qe h1)) h2,h2⟩
def gapL(c:Cx)(run:List Int)(p:Int)(k:Nat) : List Gt:=((List.range k).filter fun (j:Nat)=>!hasB run (p+(j:Int))).map fun (j:Nat)=>c.gs.getD (p+(j:Int)).toNat gZ
theorem Xaq(c:Cx)(run:List Int)(p:Int) : gapL c run p 0=[]:=rfl
theorem Xjm{c:Cx}{run:List Int}{p:Int}{k:Nat}(h:hasB run (p+(k:Int))=true) : gapL c run p (k+1)=gapL c run p k:=by
 unfold gapL;rw [List.range_succ,List.filter_append];simp [h]
theorem Xot{c:Cx}{run:List Int}{p:Int}{k:Nat}{u:Gt}(h:hasB run (p+(k:Int))=false)(hu:c.gs[(p+(k:Int)).toNat]? = some u) : gapL c run p (k+1)=gapL c run p k++[u]:=by
 unfold gapL;rw [List.range_succ,List.filter_append,List.map_append];simp [h,Qa,hu]
theorem X9j(c:Cx)(run:List Int)(p:Int)(k:Nat) : (gapL c run p k).length<=k:=by
 unfold gapL;rw [Qo]
 exact Q0 (List.length_filter_le ..) O5
def lastI(run:List Int) : Int:=run.getD (run.length-1) 0
def winN(run:List Int)(p:Int) : Nat:=(lastI run-p+1).toNat
def ftB(n:Int)(qs:List Int)(g:Gt) : Bool:=gOk n g&&!decide (0<(ouN g qs:Int))
def newR(c:Cx)(p:Int)(run:List Int)(gates:List Gt) : Rp:=⟨p,(c.gs.drop p.toNat).take (winN run p),gates++gapL c run p (winN run p)⟩
def repX(c:Cx)(p:Int)(run:List Int)(qs:List Int)(gates:List Gt) : Option Rp:=
 if gates.all (ftB c.n qs)=true then (if ((newR c p run gates).old.length<=40/\(newR c p run gates).new.length<=40) then some (newR c p run gates) else none) else none
theorem X34{c:Cx}{p:Int}{qs:List Int}(h:runB c p qs=true) : ∃ j:Nat,lastI (runL c p qs)=(j:Int)/\j<c.gs.length/\p<=(j:Int)/\(runL c p qs)[(runL c p qs).length-1]? = some (lastI (runL c p qs)):=by
 have h1:=X9s h
 have h2:(runL c p qs).length-1<(runL c p qs).length:=by omega
 have h3:lastI (runL c p qs) ∈ runL c p qs:=by
  unfold lastI;rw [Qa,Qc h2];exact List.getElem_mem h2
 obtain ⟨j,e,hj,hp,_⟩:=X43 h _ h3
 refine ⟨j,e,hj,hp,?_⟩
 unfold lastI;rw [Qa,Qc h2];rfl
def ftI(n:Int)(qs:List Int)(g:Gt) : Bool:=gOk n g&&!(decide (g.k≠12)&&!insB g qs)
theorem Y19(n:Int)(qs:List Int)(g:Gt) : ftI n qs g=ftB n qs g:=by
 unfold ftI ftB
 cases hg:gOk n g with
 | false=>rfl
 | true=>
  simp only [Qw]
  rw [Xat]
  by_cases h:g.k=12
  ·have e:qubI g=[]:=by unfold qubI;rw [Q4 h]
   have e2:ouN g qs=0:=by unfold ouN;rw [e];rfl
   simp [h,e2]
  ·have e:qubI g≠[]:=by unfold qubI;rw [Q3 h];split<;>simp
   rw [Xaz]
   unfold tchB
   cases e2:(qubI g).any fun q=>!hasB qs q with
   | true=>simp [h]
   | false=>
    obtain ⟨x,l,e3⟩:=List.exists_cons_of_ne_nil e
    have hx:hasB qs x=true:=by
     have:=W7.1 e2 x (by rw [e3];exact Qk ..)
     simpa using this
    have:(qubI g).any (hasB qs)=true:=List.any_eq_true.2 ⟨x,by rw [e3];exact Qk ..,hx⟩
    simp [h,this]
theorem Xjj(n:Int)(qs:List Int)(g:Gt) : ((!gOk n g)||((g.k != 12)&&!insB g qs)) = !ftB n qs g:=by
 rw [<- Y19];unfold ftI
 cases gOk n g<;>by_cases h:g.k=12<;>simp [h]
theorem Xhn{n:Int}{qs:List Int}{l:List Gt}{k:Nat}{u:Gt}(hu:l[k]? = some u)(h:ftB n qs u=false) : l.all (ftB n qs)=false:=by
 rw [Bool.eq_false_iff];intro h2
 have:=W1.1 h2 u (Qe hu)
 rw [h] at this;cases this
theorem Xjk{n:Int}{qs:List Int}{l:List Gt}{k:Nat}{u:Gt}(h:(l.take k).all (ftB n qs)=true)(hu:l[k]? = some u)(hf:ftB n qs u=true) : (l.take (k+1)).all (ftB n qs)=true:=by
 rw [Qt,hu,List.all_append,h];simp [hf]
theorem Xej{c:Cx}{p:Int}{run qs:List Int}{ws:List Gt}(h:ws.all (ftB c.n qs)=false) : repX c p run qs ws=none:=Q3 (by rw [h];decide)
theorem Xk7{c:Cx}{p:Int}{run qs:List Int}{ws:List Gt}(h:ws.all (ftB c.n qs)=true)(h2:40<(newR c p run ws).old.length∨40<(newR c p run ws).new.length) : repX c p run qs ws=none:=by
 unfold repX;rw [Q4 h,Q3 Z]
theorem Xk8{c:Cx}{p:Int}{run qs:List Int}{ws:List Gt}(h:ws.all (ftB c.n qs)=true)(h2:¬ (40<(newR c p run ws).old.length∨40<(newR c p run ws).new.length)) : repX c p run qs ws=some (newR c p run ws):=by
 unfold repX;rw [Q4 h,Q4 Z]
theorem Xyz{c:Cx}{p:Int}{run:List Int}{j:Nat}(hp:0<=p)(hj:lastI run=(j:Int))(hpj:p<=(j:Int)) : (c.gs.take (j+1)).drop p.toNat=(c.gs.drop p.toNat).take (winN run p):=by
 rw [List.drop_take];congr 1
 unfold winN;rw [hj];omega
theorem Xg4{c:Cx}{p:Int}{run:List Int}{ws:List Gt}{j:Nat}(hp:0<=p)(hj:lastI run=(j:Int))(hpj:p<=(j:Int)) : (newR c p run ws).old=(c.gs.take (j+1)).drop p.toNat:=(Xyz hp hj hpj).symm
theorem Xg3{c:Cx}{p:Int}{run:List Int}{ws q:List Gt}{k:Nat}(hq:q=ws++gapL c run p k)(hk:k=winN run p) : (newR c p run ws).new=q:=by subst hk;rw [hq];rfl
theorem X4m{run:List Int}{p:Int}{j:Nat}(hj:lastI run=(j:Int))(hpj:p<=(j:Int)) : ((winN run p:Nat) : Int)=(j:Int)-p+1:=by unfold winN;rw [hj];omega
theorem Xfq{c:Cx}{run:List Int}{p:Int}{k:Nat}{q ws:List Gt}(hq:q=ws++gapL c run p k)(h:hasB run (p+(k:Int))=true) : q=ws++gapL c run p (k+1):=by rw [hq,Xjm h]
theorem Xjl{c:Cx}{run:List Int}{p:Int}{k:Nat}{q ws:List Gt}{u:Gt}(hp:0<=p)(hq:q=ws++gapL c run p k)(h:hasB run (p+(k:Int))=false)(hu:c.gs[p.toNat+k]? = some u) : q++[u]=ws++gapL c run p (k+1):=by
 rw [hq,Xot h (by rw [show (p+(k:Int)).toNat=p.toNat+k from by omega];exact hu),Qx]
theorem Apart.none_l(B:Option Addr) : Apart none B:=fun _ _ h=>by cases h
theorem X7r{c:Cx}{p:Int}{qs:List Int}(h:(runP c p qs).isSome=true) : cOk c=true/\runB c p qs=true/\runP c p qs=some (runL c p qs):=by
 cases e:cOk c&&runB c p qs with
 | false=>rw [Xel e] at h;cases h
 | true=>exact ⟨((Qd _ _▸e:cOk c=true/\runB c p qs=true)).1,((Qd _ _▸e:cOk c=true/\runB c p qs=true)).2,Xgi e⟩
theorem Xb5{c:Cx}{p:Int}{qs:List Int}(h:(runP c p qs).isSome=false) : runP c p qs=none:=by
 cases e:runP c p qs with
 | none=>rfl
 | some x=>rw [e] at h;cases h
def xC(c:Cx)(run qs:List Int) : Cx:=⟨(qs.length:Int),(gatL c run).map (smallG qs)⟩
def KN(n:Nat) : Nat:=if n=2 then 3 else 5
def srW(n:Nat)(M:Mx) : Option (List Gt):=lsW (gsT n) (fun w=>phaseS (valW n w) M) (KN n)
theorem X8q(n:Nat) : KN n<=8:=by unfold KN;split<;>decide
def plX(c:Cx)(p:Int)(qs run:List Int) : Option Rp:=(srW qs.length ((opI (xC c run qs)).getD mZ)).bind fun w=>if w.length<run.length/\tcN w<=tcN (gatL c run) then repX c p run qs (mapI w qs) else none
def shrX(c:Cx)(p:Int)(qs:List Int) : Option Rp:=(runX c p qs).bind (plX c p qs)
def shrI(c:Cx)(p:Int)(qs:List Int) : Option Rp:=(runP c p qs).bind (plX c p qs)
theorem Xq9{c:Cx}(hc:cOk c=true)(p:Int)(qs:List Int) : shrI c p qs=shrX c p qs:=by
 unfold shrI shrX runP runX
 rw [hc,Qw]
theorem Xtw{c:Cx}(hc:cOk c=false)(p:Int)(qs:List Int) : shrI c p qs=none:=by
 unfold shrI;rw [Xel (by rw [hc];rfl)];rfl
theorem X3i(c:Cx)(run:List Int) : (gatL c run).length=run.length:=by unfold gatL;rw [Qo]
theorem X7n{c:Cx}(hc:cOk c=true){p:Int}{qs:List Int}(h:runB c p qs=true) : (qs.length=1∨qs.length=2)/\Inc qs/\∀ x ∈ qs,0<=x/\x<=4:=by
 obtain ⟨h1,h2,_⟩:=X27 h;have hn:=(X10 hc).1
 refine ⟨by omega,Xp2 h2 h1.2,fun x hx=>?_⟩
 have:=Xp3 h2 x hx;omega
theorem Xkz{c:Cx}(hc:cOk c=true){p:Int}{qs:List Int}(h:runB c p qs=true) : cOk (xC c (runL c p qs) qs)=true/\mapI (gatL c (runL c p qs)) (numbI qs)=(gatL c (runL c p qs)).map (smallG qs)/\∃ M,opI (xC c (runL c p qs) qs)=some M/\mOk M=true/\M.rows=((2^qs.length:Nat) : Int)/\M.cols=((2^qs.length:Nat) : Int)/\canL M.cells≠none/\M.cells.length=2^qs.length*2^qs.length:=by
 obtain ⟨hq,hi,hb⟩:=X7n hc h;have hg:=X58 hc h;have hl:=X3i c (runL c p qs);have h6:=X8k c p qs
 have hok:cOk (xC c (runL c p qs) qs)=true:=by
  unfold cOk xC
  simp only [Qd,X0b,Qr,Bool.not_eq_true',W7,Qo]
  refine ⟨⟨by omega,by omega⟩,fun g hg'=>?_⟩
  obtain ⟨g0,h0,rfl⟩:=W6.1 hg'
  have:=Xba hi hb (hg g0 h0).1
  rw [show max 1 (qs.length:Int)=(qs.length:Int) from by omega] at this
  simp [this]
 have hmap:mapI (gatL c (runL c p qs)) (numbI qs)=(gatL c (runL c p qs)).map (smallG qs):=List.map_congr_left fun g hg'=>Xcm hb (hg g hg').1
 obtain ⟨M,hM⟩:=X7j hok (by
  have:=Xfu (xC c (runL c p qs) qs).gs;have:(xC c (runL c p qs) qs).gs.length=(runL c p qs).length:=by unfold xC;rw [Qo,hl]
  omega)
 have hk:∀ g ∈ (xC c (runL c p qs) qs).gs,g.k<=11:=fun g hg'=>by
  obtain ⟨g0,h0,rfl⟩:=W6.1 hg';have h1:=Xjs (hg g0 h0).2;have h2:=(X1i (hg g0 h0).1.ok).2.1
  show g0.k<=11;omega
 obtain ⟨_,h2,h3,h4⟩:=Xax (N:=qs.length) O hM;exact ⟨hok,hmap,M,hM,h2,h3,h4,Xvh (N:=qs.length) O hM hk,Xi3 hq h2 h3 h4⟩
theorem Xqh{n:Nat}(hn:n=1∨n=2){M:Mx}(h2:mOk M=true)(h3:M.rows=((2^n:Nat) : Int))(h4:M.cols=((2^n:Nat) : Int))(h5:canL M.cells≠none) : (tbW n (KN n)).1 (keyM M)=srW n M/\canY M=true:=by
 refine ⟨?_,?_⟩
 ·rw [Xjt h2];exact Xqi hn h2 h3 h4 h5 (X8q n)
 ·unfold canY;rw [h2]
  cases e:canL M.cells with
  | none=>exact absurd e h5
  | some x=>rfl
theorem X6e{n:Nat}{M:Mx}{w:List Gt}(h:srW n M=some w) : w.length<=KN n/\∀ g ∈ w,g ∈ gsT n:=by
 obtain ⟨j,hj,hw,_⟩:=X9l h;exact ⟨by have:=X9y _ _ _ hw;omega,X9z _ _ _ hw⟩
theorem Xe4{n:Nat}(hn:n=1∨n=2){w:List Gt}(h:∀ g ∈ w,g ∈ gsT n) : ∀ g ∈ w,(g.k≠12->0<=g.a/\g.a<(n:Int))/\(inR g.k 9 11=true->0<=g.b/\g.b<(n:Int)):=fun g hg=>by
 have hok:=(X6v hn g (h g hg)).1;obtain ⟨_,_,ha,hb⟩:=X1i hok;exact ⟨fun h9=>by have:=ha h9;omega,fun h9=>by have:=hb (X0b.1 h9);omega⟩
theorem Xfr{us:List Int}{n:Int}{l:List Gt}(h:∀ g ∈ l,GoodG us n g)(hn:n<=5) : ∀ g ∈ l,(g.k≠12->0<=g.a/\g.a<((5:Nat) : Int))/\(inR g.k 9 11=true->0<=g.b/\g.b<((5:Nat) : Int)):=fun g hg=>by
 obtain ⟨_,_,ha,hb⟩:=X1i (h g hg).ok;exact ⟨fun h9=>by have:=ha h9;omega,fun h9=>by have:=hb (X0b.1 h9);omega⟩
theorem Xqm(us:List Int)(l:List Gt) : tcN (l.map (smallG us))=tcN l:=by
 unfold tcN;rw [List.countP_map];rfl
theorem Xgs{n j:Nat}(hn:n=1∨n=2){M:Mx}(hj:j<=KN n)(h0:∀ i,i<j->fdS n M i (unitS (2^n))=none)(hs:(fdS n M j (unitS (2^n))).isSome=true) : srW n M=some ((fdS n M j (unitS (2^n))).getD [])/\((fdS n M j (unitS (2^n))).getD []).length=j:=by
 have e:=Xqc hn M _ (X8q n)
 rw [Xkm h0 (Xey hs) _ hj] at e
 exact ⟨e.symm,Xhb (Xey hs)⟩
theorem Xqd{n j:Nat}(hn:n=1∨n=2){M:Mx}(h0:∀ i,i<j->fdS n M i (unitS (2^n))=none) : ∀ w,srW n M=some w->j<=w.length:=fun w hw=>by
 rcases W4 w.length j with h|h
 ·exfalso
  obtain ⟨i,hi,hm,hp⟩:=X9l hw;have hl:=X9y _ _ _ hm
  have h1:=h0 i Z
  rw [Xah hn M (Q0 hi (X8q n)),List.find?_eq_none] at h1
  exact h1 w hm hp
 ·exact h
theorem X67{c:Cx}{p:Int}{qs run:List Int}{M:Mx}(hM:opI (xC c run qs)=some M)(h:∀ w,srW qs.length M=some w->¬ (w.length<run.length/\tcN w<=tcN (gatL c run))) : plX c p qs run=none:=by
 unfold plX;rw [hM,Qq]
 cases e:srW qs.length M with
 | none=>rfl
 | some w=>rw [Qz,Q3 (h w e)]
theorem X9o{c:Cx}{p:Int}{qs run:List Int}{M:Mx}{w:List Gt}(hM:opI (xC c run qs)=some M)(hw:srW qs.length M=some w)(h:w.length<run.length/\tcN w<=tcN (gatL c run)) : plX c p qs run=repX c p run qs (mapI w qs):=by
 unfold plX;rw [hM,Qq,hw,Qz,Q4 h]
theorem Xql(l:List Gt) : (l.countP fun g=>inR g.k 7 8)=tcN l:=by
 unfold tcN
 apply List.countP_congr
 intro g _
 unfold isTk
 rw [X0b];simp;omega
theorem Xtb{c:Cx}{rr:List Int}{k j:Nat}{i:Int}{u:Gt}(h:rr[k]? = some i)(hj:i=(j:Int))(hl:j<c.gs.length)(hu:(gatL c rr)[k]? = some u) : c.gs[j]? = some u:=by
 unfold gatL at hu
 rw [List.getElem?_map,h,Option.map_some,hj,Qj,Qa,Qc hl,Qq] at hu
 rw [Qc hl];exact hu
theorem Xqb{us:List Int}{l q:List Gt}{k:Nat}{u:Gt}(h:q=(l.take k).map (smallG us))(hu:l[k]? = some u) : q++[smallG us u]=(l.take (k+1)).map (smallG us):=by
 rw [h,Qt,hu];simp
theorem Xpt{g:Gt}(h:¬ g.k=12) : g.a ∈ qubI g:=by unfold qubI;rw [Q3 h];split<;>simp
theorem Xpu{g:Gt}(h:¬ g.k=12)(h9:inR g.k 9 11=true) : g.b ∈ qubI g:=by unfold qubI;rw [Q3 h,Q4 h9];simp
theorem X5q{qs:List Int}{l q:List Gt}{k:Nat}{u v:Gt}(h:q=(l.take k).map (mapG qs))(hu:l[k]? = some u)(hv:v=mapG qs u) : q++[v]=(l.take (k+1)).map (mapG qs):=by
 rw [h,Qt,hu,hv];simp
theorem Xts{c:Cx}{p:Int}{qs:List Int}(h:(runX c p qs).isSome=true) : runB c p qs=true/\runX c p qs=some (runL c p qs):=by
 cases e:runB c p qs with
 | false=>rw [Xem e] at h;cases h
 | true=>exact ⟨rfl,Xgj e⟩
theorem Xq1{c:Cx}{p:Int}{qs:List Int}(h:(runX c p qs).isSome=false) : runX c p qs=none:=by
 cases e:runX c p qs with
 | none=>rfl
 | some x=>rw [e] at h;cases h
theorem Y0f(w0:World)(x:Int)(qs:List Int)(ba:Nat)(Aq:Option Addr)(cq:Nat)(aA:Rd w0 w0.heap.size 3 encI Aq qs)(aB:Blk w0 ba 32 [.slice Aq qs.length cq])(aC:qs.length<=1048576) : Ret Tryz.prog 142 [vi x,(pZ9 ba)] w0 (fun v w=>v=.bool (!hasB qs x)/\Below w0.heap.size w0 w):=by
 have aD:=aB.lt;refine enter Tryz.func142 O 8 O O ?_;intro a hf
 have hW:=bz w0
 refine Zs hf fun _ aE=>?_;refine Za O<|Zx aE fun a hf _ aF=>?_;refine Ze (X0 O X4k (aB.at 0))<|Zm O<|Zf (Vc (Xvp _ Aq cq qs (aA.bx hW).top x (Q0 aC O4)) Xhf) ?_;rintro _ w1 ⟨rfl,hE⟩;have hW:=btr hW hE;refine Ze (X0x O)<|Za O<|Zt aF fun a hf=>?_
 refine Q6 (X4 hf (Xv hf O O) ?_)
 exact ⟨by rw [Xe5],hW⟩
theorem Y0d(w0:World)(x:Int)(qs:List Int)(ba:Nat)(Aq:Option Addr)(cq:Nat)(aA:Rd w0 w0.heap.size 3 encI Aq qs)(aB:Blk w0 ba 32 [.slice Aq qs.length cq])(aC:qs.length<=1048576) : Ret Tryz.prog 99 [vi x,(pZ9 ba)] w0 (fun v w=>v=.bool (hasB qs x)/\Below w0.heap.size w0 w):=by
 have aD:=aB.lt;refine enter Tryz.func99 O 7 O O ?_;intro a hf
 have hW:=bz w0
 refine Zs hf fun _ aE=>?_;refine Za O<|Zx aE fun a hf _ aF=>?_;refine Ze (X0 O X4k (aB.at 0))<|Zm O<|Zf (Vc (Xvp _ Aq cq qs (aA.bx hW).top x (Q0 aC O4)) Xhf) ?_;rintro _ w1 ⟨rfl,hE⟩;have hW:=btr hW hE;refine Za O<|Zt aF fun a hf=>?_
 refine Q6 (X4 hf (Xv hf O O) ?_)
 exact ⟨by rw [Xe5],hW⟩
theorem Xmm(w0:World)(g:Gt)(Aqs:Option Addr)(cqs:Nat)(qs:List Int)(c:Rd w0 w0.heap.size 3 encI Aqs qs)(aE:qs.length<=1048576) : Ret Tryz.prog 97 [.agg #[vi g.k,vi g.a,vi g.b],.slice Aqs qs.length cqs] w0 (fun v w=>v=.bool (insB g qs)/\Below w0.heap.size w0 w):=by
 have aM:=X2e g;refine enter Tryz.func97 O 17 O O ?_;intro a i
 have f:=bz w0
 refine Zs i fun _ aF=>?_;refine Zf (X0m (zs:=[vi g.k,vi g.a,vi g.b]) O O) ?_;rintro _ w1 ⟨b3,rfl,aG,e,aA⟩;have aK:=Q0 f.size aG;have c:=c.bw e;have f:=btr f e;refine Zf (X0m (zs:=[.slice Aqs qs.length cqs]) O O) ?_;rintro _ w2 ⟨b4,rfl,aH,e,aB⟩;have aL:=Q0 f.size aH;have aA:=aA.bw e;have c:=c.bw e;have f:=btr f e;refine Za O<|Zx aF fun a i _ aI=>?_;refine Ze (Vn X01 aA)<|Zf (Vc (F96 _ g) Xfp) ?_;rintro _ w3 ⟨A6,c6,rfl,aC,e⟩;have aC:=aC.lower f.size;have aB:=aB.bw e;have c:=c.bw e;have f:=btr f e;refine Za O<|ZX aI fun a i _ aJ=>?_;refine X0f (fun a w=>Fr a 17 [(4,.bool ((decide (0<((qubI g).length:Int)))&&(!((qubI g).any (fun q=>!hasB qs q)))))]/\Below w3.heap.size w3 w) ?_ ?_
 ·have j:Below w3.heap.size w3 w3:=Below.refl _ _
  refine Zr i<|Zm O<|Ze (X0o O Xy)<|Ze (X29 O O)<|Zm O ?_
  refine Zg 11 O (fun d=>?_) (fun d=>?_)
  ·refine Zv (gW d) (X7 O) ?_;refine Zv (gW d) (X33 (vs:=[(pZ9 b4)]) O) ?_;refine Zk (gW d) (Vc (Xze _ A6 c6 (qubI g) aC.rd.top 142 [(pZ9 b4)] Xt0 (fun q=>!hasB qs q) (fun x9 w9 aD=>Y0f w9 x9 qs b4 Aqs cqs ((c.top).bw aD).top (aB.bw aD) aE) Z) Xof) ?_;rintro _ w4 ⟨rfl,e⟩;have f:=btr f e;have j:=btr j e;refine Zv (gW d) (X0x O) ?_;refine Ze (Xf O d O)<|Za O ?_;refine Zn fun a i=>?_;exact ⟨i.sub ⟨X1 O (by first|rfl|(simp only [d,bs];done)|simp [d]),trivial⟩,j⟩
  (iterate 4 refine Zp (gP d) ?_);refine Ze (Xb O d O)<|Za O ?_;refine Zn fun a i=>?_;exact ⟨i.sub ⟨X1 O (by first|rfl|(simp only [d,bs];done)|simp [d]),trivial⟩,j⟩
 rintro a w5 ⟨i,e⟩;have f:=btr f e;refine aJ _ _ ?_
 refine Q6 (X4 i (Xv i O O) ?_)
 exact ⟨by first|rfl|simp [insB, *],f⟩
theorem Y0c(g:World)(Al:Option Addr)(cl:Nat)(l:List Int)(i:Rd g g.heap.size 3 encI Al l)(n:Int)(hn:-1000<=n/\n<=1000)(aQ:l.length<=1048576) : Ret Tryz.prog 96 [.slice Al l.length cl,vi n] g (fun v w=>v=.bool (incF l 0 (n-1))/\Below g.heap.size g w):=by
 refine enter Tryz.func96 O 33 O O ?_;intro a d
 have hW:=bz g
 refine Zs d fun _ aJ=>?_;refine Za O<|ZX aJ fun a d _ aK=>?_;refine Zs d fun _ aL=>?_;refine Zm O<|Ze (X0o O Xy)<|Zm O<|Zt aL fun a d=>?_;refine Q8<|X0d (σ:=Nat) (fun (k:Nat) (a:Act) (w:World)=>Fr a 33 [(0,.slice Al l.length cl),(1,vi n),(7,.slice Al l.length cl),(8,vi (l.length:Int)),(9,vi (k:Int))]/\(k<=l.length)/\(IncU l 0 (n-1) k)/\Below g.heap.size g w) (fun (k:Nat)=>l.length-k) 0 ?_ ?_
 ·exact ⟨d.sb,(Qf _),(Xcg _ _ _),hW⟩
 rintro k a w1 ⟨d,hk,j,hW⟩;refine Zs d fun _ aM=>?_;refine Ze (X16 O O)<|ZX aM fun a d _ aN=>?_
 refine X12 d O (fun e aO=>?_) (fun e aO=>?_)
 ·obtain ⟨u8,aA⟩:=Xj (l:=l) (k:=k) Z
  refine Q7<|aN _ _<|Q5 fun _ aP=>?_;refine Q8<|Zs d fun _ aD=>?_;refine Zm O<|Zi (k:=k) (u:=u8) (enc:=encI) (l:=l) tv0 O O Xy X1o Xt (i.bx hW) aA O ?_;intro aR aB;refine Ze (X0 O X8 aB)<|Za O<|Za O<|ZX aD fun a d _ aE=>?_;refine X0f (fun a w=>Fr a 33 [(0,.slice Al l.length cl),(1,vi n),(7,.slice Al l.length cl),(8,vi (l.length:Int)),(9,vi (k:Int)),(31,.bool ((!(inR u8 0 (n-1)))||((decide (0<(k:Int)))&&(decide (u8<=(l.getD (k-1) 0))))))]/\w1=w) ?_ ?_
  ·refine Zr d<|Zm O<|Zm O<|Ze (X18 O O Z Z)<|Zf (Vc (F91 _ u8 0 (n-1)) X3c) ?_;rintro _ _ ⟨rfl,rfl⟩;refine Ze (X0x O)<|Zm O ?_
   refine Zg 19 O (fun c=>?_) (fun c=>?_)
   ·(iterate 3 refine Zp (gP c) ?_);(iterate 7 refine Zp (gP tv0) ?_);refine Zp (gP c) ?_;refine Ze (Xf O c O) ?_;refine Zn fun a d=>?_;exact ⟨d.sub ⟨O,O,O,O,O,X1 O (by first|rfl|(simp only [e,c,bs];done)|simp [e,c]),trivial⟩,O⟩
   refine Zv (gW c) (X7 O) ?_;refine Zv (gW c) (X29 O O) ?_;refine Zv (gW c) (X7 O) ?_
   refine Zg 22 O (fun b=>?_) (fun b=>?_)
   ·have aS:=Q2 b;refine Zv (gW b) (X7 O) ?_;refine Zv (gW b) (X7 O) ?_;refine Zv (gW b) (X18 O O Z Z) ?_;refine Zi (k:=(k-1)) (u:=(l.getD (k-1) 0)) (enc:=encI) (l:=l) ⟨_,_,O,O,b⟩ O O Xy X1o Xt (i.bx hW) (X7d Z) Z ?_;intro aT aC;refine Zv (gW b) (X0 O X8 aC) ?_;refine Zv (gW b) (X7 O) ?_;refine Zv (gW b) (Xa2 O O) ?_;refine Zv (gW c) (Xf O b O) ?_;refine Ze (Xb O c O) ?_;refine Zn fun a d=>?_;exact ⟨d.sub ⟨O,O,O,O,O,X1 O (by first|rfl|(simp only [e,c,b,bs];done)|simp [e,c,b]),trivial⟩,O⟩
   (iterate 7 refine Zp (gP b) ?_);refine Zv (gW c) (Xb O b O) ?_;refine Ze (Xb O c O) ?_;refine Zn fun a d=>?_;exact ⟨d.sub ⟨O,O,O,O,O,X1 O (by first|rfl|(simp only [e,c,b,bs];done)|simp [e,c,b]),trivial⟩,O⟩
  rintro a _ ⟨d,rfl⟩;refine aE _ _ ?_
  refine X04 d O (fun f=>?_) (fun f=>?_)
  ·have aF:=Xfw aA f;refine Zs d fun _ aG=>?_;refine Za O<|Zt aG fun a d=>?_;refine Q6<|Xo<|X5<|X5 ?_;refine Xo<|X5<|X4 d (Xv d O O) ?_;exact ⟨by rw [aF],hW⟩
  have aH:=f;refine Q7<|Xn<|aP _ _<|Zr d ?_;refine Ze (X03 O O Z Z)<|Zm O ?_;refine Zn fun a d=>?_;refine Xd ?_;exact ⟨k+1,⟨d.sb,Z,(Xcf j aA aH),hW⟩,Z⟩
 refine Q9<|Xm<|Xm<|X0a ?_;refine aK _ _<|Zs d fun _ aI=>?_;refine Za O<|Zt aI fun a d=>?_
 refine Q6 (X4 d (Xv d O O) ?_)
 exact ⟨by rw [Xfx j Z],hW⟩
theorem Y0e(g:World)(Al:Option Addr)(cl:Nat)(l:List Int)(i:Rd g g.heap.size 3 encI Al l)(lo:Int)(hi:Int)(aQ:l.length<=1048576) : Ret Tryz.prog 155 [.slice Al l.length cl,vi lo,vi hi] g (fun v w=>v=.bool (incF l lo hi)/\Below g.heap.size g w):=by
 refine enter Tryz.func155 O 35 O O ?_;intro a d
 have hW:=bz g
 refine Zs d fun _ aJ=>?_;refine Za O<|ZX aJ fun a d _ aK=>?_;refine Zs d fun _ aL=>?_;refine Zm O<|Ze (X0o O Xy)<|Zm O<|Zt aL fun a d=>?_;refine Q8<|X0d (σ:=Nat) (fun (k:Nat) (a:Act) (w:World)=>Fr a 35 [(0,.slice Al l.length cl),(1,vi lo),(2,vi hi),(9,.slice Al l.length cl),(10,vi (l.length:Int)),(11,vi (k:Int))]/\(k<=l.length)/\(IncU l lo hi k)/\Below g.heap.size g w) (fun (k:Nat)=>l.length-k) 0 ?_ ?_
 ·exact ⟨d.sb,(Qf _),(Xcg _ _ _),hW⟩
 rintro k a w1 ⟨d,hk,j,hW⟩;refine Zs d fun _ aM=>?_;refine Ze (X16 O O)<|ZX aM fun a d _ aN=>?_
 refine X12 d O (fun e aO=>?_) (fun e aO=>?_)
 ·obtain ⟨u8,aA⟩:=Xj (l:=l) (k:=k) Z
  refine Q7<|aN _ _<|Q5 fun _ aP=>?_;refine Q8<|Zs d fun _ aD=>?_;refine Zm O<|Zi (k:=k) (u:=u8) (enc:=encI) (l:=l) tv0 O O Xy X1o Xt (i.bx hW) aA O ?_;intro aR aB;refine Ze (X0 O X8 aB)<|Za O<|Za O<|ZX aD fun a d _ aE=>?_;refine X0f (fun a w=>Fr a 35 [(0,.slice Al l.length cl),(1,vi lo),(2,vi hi),(9,.slice Al l.length cl),(10,vi (l.length:Int)),(11,vi (k:Int)),(33,.bool ((!(inR u8 lo hi))||((decide (0<(k:Int)))&&(decide (u8<=(l.getD (k-1) 0))))))]/\w1=w) ?_ ?_
  ·refine Zr d<|Zm O<|Zm O<|Zm O<|Zf (Vc (F85 _ u8 lo hi) X3g) ?_;rintro _ _ ⟨rfl,rfl⟩;refine Ze (X0x O)<|Zm O ?_
   refine Zg 21 O (fun c=>?_) (fun c=>?_)
   ·(iterate 3 refine Zp (gP c) ?_);(iterate 7 refine Zp (gP tv0) ?_);refine Zp (gP c) ?_;refine Ze (Xf O c O) ?_;refine Zn fun a d=>?_;exact ⟨d.sub ⟨O,O,O,O,O,O,X1 O (by first|rfl|(simp only [e,c,bs];done)|simp [e,c]),trivial⟩,O⟩
   refine Zv (gW c) (X7 O) ?_;refine Zv (gW c) (X29 O O) ?_;refine Zv (gW c) (X7 O) ?_
   refine Zg 24 O (fun b=>?_) (fun b=>?_)
   ·have aS:=Q2 b;refine Zv (gW b) (X7 O) ?_;refine Zv (gW b) (X7 O) ?_;refine Zv (gW b) (X18 O O Z Z) ?_;refine Zi (k:=(k-1)) (u:=(l.getD (k-1) 0)) (enc:=encI) (l:=l) ⟨_,_,O,O,b⟩ O O Xy X1o Xt (i.bx hW) (X7d Z) Z ?_;intro aT aC;refine Zv (gW b) (X0 O X8 aC) ?_;refine Zv (gW b) (X7 O) ?_;refine Zv (gW b) (Xa2 O O) ?_;refine Zv (gW c) (Xf O b O) ?_;refine Ze (Xb O c O) ?_;refine Zn fun a d=>?_;exact ⟨d.sub ⟨O,O,O,O,O,O,X1 O (by first|rfl|(simp only [e,c,b,bs];done)|simp [e,c,b]),trivial⟩,O⟩
   (iterate 7 refine Zp (gP b) ?_);refine Zv (gW c) (Xb O b O) ?_;refine Ze (Xb O c O) ?_;refine Zn fun a d=>?_;exact ⟨d.sub ⟨O,O,O,O,O,O,X1 O (by first|rfl|(simp only [e,c,b,bs];done)|simp [e,c,b]),trivial⟩,O⟩
  rintro a _ ⟨d,rfl⟩;refine aE _ _ ?_
  refine X04 d O (fun f=>?_) (fun f=>?_)
  ·have aF:=Xfw aA f;refine Zs d fun _ aG=>?_;refine Za O<|Zt aG fun a d=>?_;refine Q6<|Xo<|X5<|X5 ?_;refine Xo<|X5<|X4 d (Xv d O O) ?_;exact ⟨by rw [aF],hW⟩
  have aH:=f;refine Q7<|Xn<|aP _ _<|Zr d ?_;refine Ze (X03 O O Z Z)<|Zm O ?_;refine Zn fun a d=>?_;refine Xd ?_;exact ⟨k+1,⟨d.sb,Z,(Xcf j aA aH),hW⟩,Z⟩
 refine Q9<|Xm<|Xm<|X0a ?_;refine aK _ _<|Zs d fun _ aI=>?_;refine Za O<|Zt aI fun a d=>?_
 refine Q6 (X4 d (Xv d O O) ?_)
 exact ⟨by rw [Xfx j Z],hW⟩
theorem Y0a(g:World)(c:Cx)(Ac:Option Addr)(cc:Nat)(aG:Rd g g.heap.size 59 encG Ac c.gs)(Aqs:Option Addr)(cqs:Nat)(qs:List Int)(aA:Rd g g.heap.size 3 encI Aqs qs)(hn:1<=c.n/\c.n<=5)(aB:qs.length<=1048576) : Ret Tryz.prog 106 [.agg #[vi c.n,.slice Ac c.gs.length cc],.slice Aqs qs.length cqs] g (fun v w=>v=.bool (inR (qs.length:Int) 1 2&&incF qs 0 (c.n-1))/\Below g.heap.size g w):=by
 refine enter Tryz.func106 O 15 O O ?_;intro a d
 have e:=bz g
 refine Zs d fun _ aC=>?_;refine Zf (X0m (zs:=[vi c.n,.slice Ac c.gs.length cc]) O O) ?_;rintro _ w1 ⟨b4,rfl,aD,hE,aE⟩;have aH:=Q0 e.size aD;have e:=btr e hE;refine Za O<|ZX aC fun a d _ aF=>?_;refine X0f (fun a w=>Fr a 15 [(4,.bool ((inR (qs.length:Int) 1 2)&&(incF qs 0 (c.n-1))))]/\Below w1.heap.size w1 w) ?_ ?_
 ·have f:Below w1.heap.size w1 w1:=Below.refl _ _
  refine Zr d<|Zm O<|Ze (X0o O Xy)<|Zf (Vc (F85 _ (qs.length:Int) 1 2) X3g) ?_;rintro _ _ ⟨rfl,rfl⟩;refine Zm O ?_
  refine Zg 8 O (fun b=>?_) (fun b=>?_)
  ·refine Zv (gW b) (X7 O) ?_;refine Zv (gW b) (Vd O X1d 0) ?_;refine Zv (gW b) (X0 O X8 (aE.at 0)) ?_;refine Zv (gW b) (X18 O O Z Z) ?_;refine Zk (gW b) (Vc (Y0e _ Aqs cqs qs (aA.bx e).top 0 (c.n-1) aB) Xsz) ?_;rintro _ w2 ⟨rfl,hE⟩;have e:=btr e hE;have f:=btr f hE;refine Ze (Xf O b O)<|Za O ?_;refine Zn fun a d=>?_;exact ⟨d.sub ⟨X1 O (by first|rfl|(simp only [b,bs];done)|simp [b]),trivial⟩,f⟩
  (iterate 5 refine Zp (gP b) ?_);refine Ze (Xb O b O)<|Za O ?_;refine Zn fun a d=>?_;exact ⟨d.sub ⟨X1 O (by first|rfl|(simp only [b,bs];done)|simp [b]),trivial⟩,f⟩
 rintro a w3 ⟨d,hE⟩;have e:=btr e hE;refine aF _ _ ?_
 refine Q6 (X4 d (Xv d O O) ?_)
 exact ⟨by first|rfl|simp [*],e⟩
theorem Xml(j:World)(g:Gt)(Aqs:Option Addr)(cqs:Nat)(qs:List Int)(aA:Rd j j.heap.size 3 encI Aqs qs)(aH:qs.length<=1048576) : Ret Tryz.prog 107 [.agg #[vi g.k,vi g.a,vi g.b],.slice Aqs qs.length cqs] j (fun v w=>v=.tuple #[vi (inN g qs:Int),vi (ouN g qs:Int)]/\Below j.heap.size j w):=by
 have aT:=X2e g;refine enter Tryz.func107 O 27 O O ?_;intro a c
 have f:=bz j
 refine Zs c fun _ aI=>?_;refine Zf (X0m (zs:=[vi g.k,vi g.a,vi g.b]) O O) ?_;rintro _ w1 ⟨b3,rfl,aJ,hE,aK⟩;have aS:=Q0 f.size aJ;have f:=btr f hE;refine Za O<|Za O<|Zx aI fun a c _ aL=>?_;refine Za O<|Za O<|ZX aL fun a c _ aM=>?_;refine Zs c fun _ aN=>?_;refine Ze (Vn X01 aK)<|Zf (Vc (Xvo _ g) Xhe) ?_;rintro _ w2 ⟨A7,c7,rfl,d,hE⟩;have d:=d.lower f.size;have f:=btr f hE;refine Ze (X0o O Xy)<|Zm O<|Zt aN fun a c=>?_;refine Q8<|X0d (σ:=Nat×Nat×Nat) (fun (s:Nat×Nat×Nat) (a:Act) (w:World)=>match s with|(k,p,q)=>Fr a 27 [(1,.slice Aqs qs.length cqs),(6,vi (p:Int)),(7,vi (q:Int)),(11,.slice A7 (qubI g).length c7),(12,vi ((qubI g).length:Int)),(13,vi (k:Int))]/\(k<=(qubI g).length)/\(p=((qubI g).take k).countP (hasB qs))/\(q=((qubI g).take k).countP (fun x=>!hasB qs x))/\(p<=k)/\(q<=k)/\Own w j.heap.size 3 1 encI A7 c7 (qubI g)/\Below j.heap.size j w) (fun (s:Nat×Nat×Nat)=>match s with|(k,p,q)=>(qubI g).length-k) (0,0,0) ?_ ?_
 ·exact ⟨c.sb,(Qf _),O,O,(Qb _),(Qb _),d,f⟩
 rintro ⟨k,p,q⟩ a w3 ⟨c,hk,hp,hq,aU,aV,d,f⟩;refine Zs c fun _ aO=>?_;refine Ze (X16 O O)<|ZX aO fun a c _ aP=>?_
 refine X12 c O (fun aB aD=>?_) (fun aB aD=>?_)
 ·obtain ⟨m,e⟩:=Xj (l:=(qubI g)) (k:=k) Z
  refine Q7<|aP _ _<|Q5 fun _ n=>?_;refine Q8<|Zs c fun _ aE=>?_;refine Zi (k:=k) (u:=m) (enc:=encI) (l:=(qubI g)) tv0 O O Xy X1o Xt d.rd e O ?_;intro aW aC;refine Ze (X0 O X8 aC)<|Za O<|Zx aE fun a c _ aF=>?_;refine Zm O<|Zm O<|Zf (Vc (Xzd _ Aqs cqs qs (aA.bx f).top m (Q0 aH O4)) Xoe) ?_;rintro _ w4 ⟨rfl,hE⟩;have d:=d.bw hE;have f:=btr f hE;refine Zt aF fun a c=>?_
  refine X04 c O (fun i=>?_) (fun i=>?_)
  ·have hT:hasB qs m=true:=i
   refine Zr c<|Zm O<|Ze (X03 O O Z Z)<|Za O ?_;refine Zn fun a c=>?_;refine Xn<|n _ _<|Zr c<|Ze (X03 O O Z Z)<|Zm O ?_;refine Zn fun a c=>?_;refine Xd ?_;exact ⟨(k+1,p+1,q),⟨c.sb,Z,(Xiq hp e hT),(Xne hq e (by rw [hT];rfl)),Z,Z,d,f⟩,O1⟩
  have hT:hasB qs m=false:=i
  refine Zr c<|Zm O<|Ze (X03 O O Z Z)<|Za O ?_;refine Zn fun a c=>?_;refine Xn<|n _ _<|Zr c<|Ze (X03 O O Z Z)<|Zm O ?_;refine Zn fun a c=>?_;refine Xd ?_;exact ⟨(k+1,p,q+1),⟨c.sb,Z,(Xne hp e hT),(Xiq hq e (by rw [hT];rfl)),Z,Z,d,f⟩,O1⟩
 refine Q9<|Xm<|Xm<|X0a ?_;refine aM _ _<|Zs c fun _ aG=>?_;refine Zm O<|Zm O<|Za O<|Za O<|Zt aG fun a c=>?_
 refine Q6 (X4 c (X0q c O O O) ?_)
 have aQ:p=inN g qs:=by rw [hp,Qi Z];rfl
 have aR:q=ouN g qs:=by rw [hq,Qi Z];rfl
 exact ⟨by rw [aQ,aR],f⟩
theorem Xux(m:World)(z:Cx)(Az:Option Addr)(cz:Nat)(aE:Rd m m.heap.size 59 encG Az z.gs)(Arun:Option Addr)(crun:Nat)(run:List Int)(h:Rd m m.heap.size 3 encI Arun run)(b6:run.length<=1048576)(aS:∀ i ∈ run,∃ j:Nat,i=(j:Int)/\j<z.gs.length) : Ret Tryz.prog 56 [.agg #[vi z.n,.slice Az z.gs.length cz],.slice Arun run.length crun] m (fun v w=>∃ A c,v=.slice A (gatL z run).length c/\Own w m.heap.size 59 3 encG A c (gatL z run)/\Below m.heap.size m w):=by
 refine enter Tryz.func56 O 25 O O ?_;intro a d
 have g:=bz m
 refine Zs d fun _ aT=>?_;refine Zf (X0m (zs:=[vi z.n,.slice Az z.gs.length cz]) O O) ?_;rintro _ w1 ⟨b4,rfl,aU,D,e⟩;have b5:=Q0 g.size aU;have g:=btr g D;refine Za O<|Zx aT fun a d _ aV=>?_;refine Zf (X2 (k:=0) (vs:=[]) (zs:=[]) O Xa Xc O O) ?_;rintro _ w2 ⟨b7,rfl,aW,D,aX⟩;have aF:=Q0 g.size aW;have e:=e.bw D;have g:=btr g D;refine Za O<|ZX aV fun a d _ aY=>?_;refine Zs d fun _ aG=>?_;refine Zm O<|Ze (X0o O Xy)<|Zm O<|Zt aG fun a d=>?_;refine Q8<|X0d (σ:=Nat×(List Gt)) (fun (s:Nat×(List Gt)) (a:Act) (w:World)=>match s with|(k,q)=>∃ B C,Fr a 25 [(2,(pZ9 b4)),(5,.slice B q.length C),(9,.slice Arun run.length crun),(10,vi (run.length:Int)),(11,vi (k:Int))]/\(k<=run.length)/\(q=(run.take k).map fun i=>z.gs.getD i.toNat gZ)/\(q.length=k)/\Blk w b4 25 [vi z.n,.slice Az z.gs.length cz]/\Own w m.heap.size 59 3 encG B C q/\Below m.heap.size m w) (fun (s:Nat×(List Gt))=>match s with|(k,q)=>run.length-k) (0,[]) ?_ ?_
 ·exact ⟨some ⟨b7,0,none⟩,0,d.sb,(Qf _),O,O,e,(Own.empty aX aF),g⟩
 rintro ⟨k,q⟩ a w3 ⟨B,C,d,hk,hq,aZ,e,f,g⟩;refine Zs d fun _ aH=>?_;refine Ze (X16 O O)<|ZX aH fun a d _ aI=>?_
 refine X12 d O (fun aA aJ=>?_) (fun aA aJ=>?_)
 ·obtain ⟨b0,t⟩:=Xj (l:=run) (k:=k) Z
  obtain ⟨o,aK,aL⟩:=aS _ (Qe t);refine Q7<|aI _ _<|Q5 fun _ aM=>?_;refine Q8<|Zs d fun _ aN=>?_;refine Zi (k:=k) (u:=b0) (enc:=encI) (l:=run) tv0 O O Xy X1o Xt (h.bx g) t O ?_;intro b8 aB;refine Ze (X0 O X8 aB)<|Za O<|Zt aN fun a d=>?_;refine Zr d<|Zm O<|Ze (Vd O X05 1)<|Ze (X0 O X0l (e.at 1))<|Zm O<|Zi (k:=o) (u:=(z.gs.getD o gZ)) (enc:=encG) (l:=z.gs) tv0 O O Xa X0g X9 (aE.bx g) (X62 aL) aK ?_;intro b9 aC;refine Ze (Xx (l:=[vi ((z.gs.getD o gZ).k),vi ((z.gs.getD o gZ).a),vi ((z.gs.getD o gZ).b)]) O X01 aC O)<|Zf (X2 (k:=1) (vs:=[.agg #[vi ((z.gs.getD o gZ).k),vi ((z.gs.getD o gZ).a),vi ((z.gs.getD o gZ).b)]]) (zs:=[vi ((z.gs.getD o gZ).k),vi ((z.gs.getD o gZ).a),vi ((z.gs.getD o gZ).b)]) O Xa Xc O O) ?_;rintro _ w4 ⟨bC,rfl,E,D,x⟩;have b1:=Q0 g.size E;have p:=f.away E;have e:=e.bw D;have f:=f.bw D;have g:=btr g D;refine Zf (X0i (enc:=encG) (l:=(q)) (l2:=([(z.gs.getD o gZ)])) (B0:=m.heap.size) O O Xa Xc X9 Xq f (Rd.of_blk x O _ x.lt) (by simp only [maxLen];simp;omega) O3 g.size) ?_;rintro _ w5 ⟨b2,b3,rfl,aO,hg,aP⟩
  have y:Own _ m.heap.size 59 3 encG _ _ (q):=f
  have aD:=aP _ x.lt p;clear aP;have e:=e.appT y hg O;have g:=Below.app g y hg (Qb _) g.size;clear y hg;refine Za O ?_;refine Zn fun a d=>?_;refine Xn<|aM _ _<|Zr d<|Ze (X03 O O Z Z)<|Zm O ?_;refine Zn fun a d=>?_;refine Xd ?_;exact ⟨(k+1,(q++[z.gs.getD o gZ])),⟨b2,b3,d.sb,Z,(Xou hq t aK),(by simp;exact aZ),e,aO,g⟩,O1⟩
 have aQ:q=gatL z run:=by rw [hq,Qi Z];rfl
 refine Q9<|Xm<|Xm<|X0a ?_;refine aY _ _<|Zs d fun _ aR=>?_;refine Zm O<|Za O<|Zt aR fun a d=>?_
 refine Q6 (X4 d (Xv d O O) ?_)
 rw [<- aQ]
 exact ⟨B,C,O,f,g⟩
theorem Xmk(I:World)(c:Cx)(Ac:Option Addr)(cc:Nat)(e:Rd I I.heap.size 59 encG Ac c.gs)(p:Int)(Aqs:Option Addr)(cqs:Nat)(qs:List Int)(d:Rd I I.heap.size 3 encI Aqs qs)(b9:c.gs.length<=1000000000)(aD:qs.length<=1048576) : Ret Tryz.prog 55 [.agg #[vi c.n,.slice Ac c.gs.length cc],vi p,.slice Aqs qs.length cqs] I (fun v w=>∃ A c1,v=.tuple #[.slice A ((runP c p qs).getD []).length c1,.bool ((runP c p qs).isSome)]/\Own w I.heap.size 3 1 encI A c1 ((runP c p qs).getD [])/\Below I.heap.size I w):=by
 refine enter Tryz.func55 O 77 O O ?_;intro a t
 have h:=bz I
 refine Zs t fun _ bC=>?_;refine Zf (X0m (zs:=[vi c.n,.slice Ac c.gs.length cc]) O O) ?_;rintro _ w1 ⟨b4,rfl,bD,f,j⟩;have bR:=Q0 h.size bD;have e:=e.bw f;have d:=d.bw f;have h:=btr h f;refine Zf (X0m (zs:=[.slice Aqs qs.length cqs]) O O) ?_;rintro _ w2 ⟨b5,rfl,bE,f,o⟩;have bS:=Q0 h.size bE;have j:=j.bw f;have e:=e.bw f;have d:=d.bw f;have h:=btr h f;refine Za O<|Za O<|ZX bC fun a t _ bF=>?_;refine Q5 fun _ bG=>?_;refine X0f (fun a w=>Fr a 77 [(1,vi p),(3,(pZ9 b4)),(5,(pZ9 b5)),(45,.bool (((((!(cOk c))||(!(inR (qs.length:Int) 1 2)))||(!(incF qs 0 (c.n-1))))||(!(inR p 0 ((c.gs.length:Int)-1))))||(!(insB (c.gs.getD p.toNat gZ) qs))))]/\Below w2.heap.size w2 w) ?_ ?_
 ·have C:Below w2.heap.size w2 w2:=Below.refl _ _
  refine X08 none (fun _=>false) mixed ?_;intro w3 f;have j:=j.bw f;have o:=o.bw f;have e:=e.bw f;have d:=d.bw f;have h:=btr h f;have C:=btr C f;refine Yb t<|Ye 0 O (Vn X0e j)<|Y1 1 ?_;refine Yk O tv0 (Vc (F55 _ c Ac cc e.top (Q0 b9 O4)) X8u) (fun _ _ ⟨_,f⟩=>f) ?_;rintro _ w4 ⟨rfl,f⟩;have j:=j.bw f;have o:=o.bw f;have e:=e.bw f;have d:=d.bw f;have h:=btr h f;have C:=btr C f;refine Yo 2 O (fun _=>X0x O)<|Yo 3 O (fun _=>X7 O) ?_
  refine Yl 14 O (fun z=>?_) (fun z=>?_)
  ·refine Yp 4 O (gP z) ?_;refine Yp 5 O (gP z) ?_;refine Y1 6<|Yq O ⟨_,_,O,O,z⟩ ?_;refine Yp 7 O (gP z) ?_;refine Yo 8 O (fun _=>Xf O z O)<|Yo 9 O (fun _=>X7 O)<|Yp 10 O (gP O) ?_;refine Yp 11 O (gP O) ?_;refine Yp 12 O (gP O) ?_;refine Y1 13<|Yq O ⟨_,_,O,O,O⟩ ?_;refine Yp 14 O (gP O) ?_;refine Yo 15 O (fun _=>Xf O O O)<|Yo 16 O (fun _=>X7 O)<|Yp 17 O (gP O) ?_;refine Yp 18 O (gP O) ?_;refine Yp 19 O (gP O) ?_;refine Yp 20 O (gP O) ?_;refine Yp 21 O (gP O) ?_;refine Y1 22<|Yq O ⟨_,_,O,O,O⟩ ?_;refine Yp 23 O (gP O) ?_;refine Yo 24 O (fun _=>Xf O O O)<|Yo 25 O (fun _=>X7 O)<|Yp 26 O (gP O) ?_;refine Yp 27 O (gP O) ?_;refine Yp 28 O (gP O) ?_;refine Yp 29 O (gP O) ?_;refine Yp 30 O (gP O) ?_;refine Yp 31 O (gP O) ?_;refine Y1 32<|Yq O ⟨_,_,O,O,O⟩ ?_;refine Yp 33 O (gP O) ?_;refine Yo 34 O (fun _=>Xf O O O) ?_;refine Yd fun a t=>?_;exact ⟨t.sub ⟨O,O,O,X1 O (by first|rfl|(simp only [z,bs];done)|simp [z]),trivial⟩,C⟩
  have bH:cOk c=true:=bn2 z
  refine Yv 4 O (gW z) (X0 O X4k (o.at 0)) ?_;refine Yu 5 O (gW z) (fun _=>X0o O Xy) ?_;refine Y1 6<|Yz O ⟨_,_,O,O,z⟩ (Vc (F91 _ (qs.length:Int) 1 2) X3c) ?_;refine Yu 7 O (gW z) (fun _=>X0x O) ?_;refine Yo 8 O (fun _=>Xb O z O)<|Yo 9 O (fun _=>X7 O) ?_
  refine Yl 20 O (fun m=>?_) (fun m=>?_)
  ·refine Yp 10 O (gP m) ?_;refine Yp 11 O (gP m) ?_;refine Yp 12 O (gP m) ?_;refine Y1 13<|Yq O ⟨_,_,O,O,m⟩ ?_;refine Yp 14 O (gP m) ?_;refine Yo 15 O (fun _=>Xf O m O)<|Yo 16 O (fun _=>X7 O)<|Yp 17 O (gP O) ?_;refine Yp 18 O (gP O) ?_;refine Yp 19 O (gP O) ?_;refine Yp 20 O (gP O) ?_;refine Yp 21 O (gP O) ?_;refine Y1 22<|Yq O ⟨_,_,O,O,O⟩ ?_;refine Yp 23 O (gP O) ?_;refine Yo 24 O (fun _=>Xf O O O)<|Yo 25 O (fun _=>X7 O)<|Yp 26 O (gP O) ?_;refine Yp 27 O (gP O) ?_;refine Yp 28 O (gP O) ?_;refine Yp 29 O (gP O) ?_;refine Yp 30 O (gP O) ?_;refine Yp 31 O (gP O) ?_;refine Y1 32<|Yq O ⟨_,_,O,O,O⟩ ?_;refine Yp 33 O (gP O) ?_;refine Yo 34 O (fun _=>Xf O O O) ?_;refine Yd fun a t=>?_;exact ⟨t.sub ⟨O,O,O,X1 O (by first|rfl|(simp only [z,m,bs];done)|simp [z,m]),trivial⟩,C⟩
  refine Yv 10 O (gW m) (X0 O X4k (o.at 0)) ?_;refine Yu 11 O (gW m) (fun _=>Vd O X1d 0) ?_;refine Yv 12 O (gW m) (X0 O X8 (j.at 0)) ?_;refine Y1 13<|Yk O ⟨_,_,O,O,m⟩ (Vc (Y0c _ Aqs cqs qs d.top c.n (by have:=(X10 bH).1;omega) aD) Xsx) (fun _ _ ⟨_,f⟩=>f) ?_;rintro _ w5 ⟨rfl,f⟩;have j:=j.bw f;have o:=o.bw f;have e:=e.bw f;have d:=d.bw f;have h:=btr h f;have C:=btr C f;refine Yu 14 O (gW m) (fun _=>X0x O) ?_;refine Yo 15 O (fun _=>Xb O m O)<|Yo 16 O (fun _=>X7 O) ?_
  refine Yl 27 O (fun i=>?_) (fun i=>?_)
  ·refine Yp 17 O (gP i) ?_;refine Yp 18 O (gP i) ?_;refine Yp 19 O (gP i) ?_;refine Yp 20 O (gP i) ?_;refine Yp 21 O (gP i) ?_;refine Y1 22<|Yq O ⟨_,_,O,O,i⟩ ?_;refine Yp 23 O (gP i) ?_;refine Yo 24 O (fun _=>Xf O i O)<|Yo 25 O (fun _=>X7 O)<|Yp 26 O (gP O) ?_;refine Yp 27 O (gP O) ?_;refine Yp 28 O (gP O) ?_;refine Yp 29 O (gP O) ?_;refine Yp 30 O (gP O) ?_;refine Yp 31 O (gP O) ?_;refine Y1 32<|Yq O ⟨_,_,O,O,O⟩ ?_;refine Yp 33 O (gP O) ?_;refine Yo 34 O (fun _=>Xf O O O) ?_;refine Yd fun a t=>?_;exact ⟨t.sub ⟨O,O,O,X1 O (by first|rfl|(simp only [z,m,i,bs];done)|simp [z,m,i]),trivial⟩,C⟩
  refine Yu 17 O (gW i) (fun _=>X7 O) ?_;refine Yu 18 O (gW i) (fun _=>Vd O X05 1) ?_;refine Yv 19 O (gW i) (X0 O X0l (j.at 1)) ?_;refine Yu 20 O (gW i) (fun _=>X0o O Xa) ?_;refine Yu 21 O (gW i) (fun _=>X18 O O Z Z) ?_;refine Y1 22<|Yz O ⟨_,_,O,O,i⟩ (Vc (F91 _ p 0 ((c.gs.length:Int)-1)) X3c) ?_;refine Yu 23 O (gW i) (fun _=>X0x O) ?_;refine Yo 24 O (fun _=>Xb O i O)<|Yo 25 O (fun _=>X7 O) ?_
  refine Yl 36 O (fun g=>?_) (fun g=>?_)
  ·refine Yp 26 O (gP g) ?_;refine Yp 27 O (gP g) ?_;refine Yp 28 O (gP g) ?_;refine Yp 29 O (gP g) ?_;refine Yp 30 O (gP g) ?_;refine Yp 31 O (gP g) ?_;refine Y1 32<|Yq O ⟨_,_,O,O,g⟩ ?_;refine Yp 33 O (gP g) ?_;refine Yo 34 O (fun _=>Xf O g O) ?_;refine Yd fun a t=>?_;exact ⟨t.sub ⟨O,O,O,X1 O (by first|rfl|(simp only [z,m,i,g,bs];done)|simp [z,m,i,g]),trivial⟩,C⟩
  have bI:inR p 0 ((c.gs.length:Int)-1)=true:=by revert g;cases inR p 0 ((c.gs.length:Int)-1)<;>simp
  have bW:=X0b.1 bI;refine Yu 26 O (gW g) (fun _=>Vd O X05 1) ?_;refine Yv 27 O (gW g) (X0 O X0l (j.at 1)) ?_;refine Yu 28 O (gW g) (fun _=>X7 O) ?_;refine Yi (k:=p.toNat) (u:=(c.gs.getD p.toNat gZ)) (enc:=encG) (l:=c.gs) 29 O ⟨_,_,O,O,g⟩ O O Xa X0g X9 e (X62 Z) Z ?_;intro bX aK;refine Yv 30 O (gW g) (Xx (l:=[vi ((c.gs.getD p.toNat gZ).k),vi ((c.gs.getD p.toNat gZ).a),vi ((c.gs.getD p.toNat gZ).b)]) O X01 aK O) ?_;refine Yv 31 O (gW g) (X0 O X4k (o.at 0)) ?_;refine Y1 32<|Yk O ⟨_,_,O,O,g⟩ (Vc (Xmm _ (c.gs.getD p.toNat gZ) Aqs cqs qs d.top aD) Xdw) (fun _ _ ⟨_,f⟩=>f) ?_;rintro _ w6 ⟨rfl,f⟩;have h:=btr h f;have C:=btr C f;refine Yu 33 O (gW g) (fun _=>X0x O) ?_;refine Yo 34 O (fun _=>Xb O g O) ?_;refine Yd fun a t=>?_;exact ⟨t.sub ⟨O,O,O,X1 O (by first|rfl|(simp only [z,m,i,g,bs];done)|simp [z,m,i,g]),trivial⟩,C⟩
 rintro a w7 ⟨t,f⟩;have j:=j.bw f;have o:=o.bw f;have e:=e.bw f;have d:=d.bw f;have h:=btr h f;refine bG _ _ ?_
 refine X04 t O (fun D=>?_) (fun D=>?_)
 ·have E:=D
  have H:runP c p qs=none:=Xel (by rw [Xgl] at D;exact bn1 D)
  refine Zs t fun _ aP=>?_;refine Za O<|Za O<|Zt aP fun a t=>?_;refine Q6<|X5<|X4 t (X0q t O O O) ?_
  rw [H]
  exact ⟨none,0,O,(Own.nil _ _ _ _ _),h⟩
 have E:=D
 have aG:(cOk c&&runB c p qs)=true:=by rw [Xgl] at D;exact bn2 D
 have aQ:=Xgi aG;obtain ⟨bU,aR⟩:=(Qd _ _▸aG:cOk c=true/\runB c p qs=true)
 have bY:0<=p:=by obtain ⟨_,_,k9,e9,_⟩:=X27 aR;omega
 refine Q7<|bF _ _<|Zs t fun _ aS=>?_;refine Zf (X2 (k:=0) (vs:=[]) (zs:=[]) O Xy X1a O O) ?_;rintro _ w8 ⟨bJ,rfl,aT,f,aU⟩;have aL:=Q0 h.size aT;have j:=j.bw f;have o:=o.bw f;have e:=e.bw f;have d:=d.bw f;have h:=btr h f;refine Za O<|ZX aS fun a t _ aH=>?_;refine Zs t fun _ aV=>?_;refine Zm O<|Za O<|Zt aV fun a t=>?_;refine Q8<|X0d (σ:=Nat×Int×(List Int)) (fun (s:Nat×Int×(List Int)) (a:Act) (w:World)=>match s with|(k,x,q)=>∃ J L,Fr a 77 [(3,(pZ9 b4)),(5,(pZ9 b5)),(8,.slice J q.length L),(9,vi x)]/\(x=p+(k:Int))/\(RnS c p qs k q)/\Blk w b4 25 [vi c.n,.slice Ac c.gs.length cc]/\Blk w b5 32 [.slice Aqs qs.length cqs]/\Own w I.heap.size 3 1 encI J L q/\Rd w I.heap.size 59 encG Ac c.gs/\Rd w I.heap.size 3 encI Aqs qs/\Below I.heap.size I w) (fun (s:Nat×Int×(List Int))=>match s with|(k,x,q)=>c.gs.length+1-(p.toNat+k)) (0,p,[]) ?_ ?_
 ·exact ⟨some ⟨bJ,0,none⟩,0,t.sb,O5,(Xgh aR),j,o,(Own.empty aU aL),e,d,h⟩
 rintro ⟨k,x,q⟩ a w9 ⟨J,L,t,hx,hS,j,o,y,e,d,h⟩;refine Q5 fun _ aW=>?_;refine Q5 fun _ aX=>?_;refine X0f (fun a w=>Fr a 77 [(3,(pZ9 b4)),(5,(pZ9 b5)),(8,.slice J q.length L),(9,vi x),(57,.bool ((decide (x<(c.gs.length:Int)))&&(decide ((q.length:Int)<6))))]/\w9=w) ?_ ?_
 ·refine Zr t<|Zm O<|Ze (Vd O X05 1)<|Ze (X0 O X0l (j.at 1))<|Ze (X0o O Xa)<|Ze (X16 O O)<|Zm O ?_
  refine Zg 53 O (fun B=>?_) (fun B=>?_)
  ·refine Zv (gW B) (X7 O) ?_;refine Zv (gW B) (X0o O Xy) ?_;refine Zv (gW B) (X16 O O) ?_;refine Ze (Xf O B O) ?_;refine Zn fun a t=>?_;exact ⟨t.sub ⟨O,O,O,O,X1 O (by first|rfl|(simp only [E,B,bs];done)|simp [E,B]),trivial⟩,O⟩
  (iterate 3 refine Zp (gP B) ?_);refine Ze (Xb O B O) ?_;refine Zn fun a t=>?_;exact ⟨t.sub ⟨O,O,O,O,X1 O (by first|rfl|(simp only [E,B,bs];done)|simp [E,B]),trivial⟩,O⟩
 rintro a _ ⟨t,rfl⟩;refine aX _ _ ?_
 refine X04 t O (fun U=>?_) (fun U=>?_)
 ·obtain ⟨bZ,c4⟩ : x<(c.gs.length:Int)/\(q.length:Int)<6:=by simpa using U
  have aM:q.length<6:=by omega
  obtain ⟨Q,aE⟩:=Xj (l:=c.gs) (k:=p.toNat+k) Z
  refine Q7<|aW _ _<|Q5 fun _ aI=>?_;refine Q8<|Zs t fun _ aY=>?_;refine Ze (Vd O X05 1)<|Ze (X0 O X0l (j.at 1))<|Zm O<|Zi (k:=(p.toNat+k)) (u:=Q) (enc:=encG) (l:=c.gs) tv0 O O Xa X0g X9 e aE Z ?_;intro cA aN;refine Ze (Xx (l:=[vi Q.k,vi Q.a,vi Q.b]) O X01 aN O) ?_;refine ZB [vi Q.k,vi Q.a,vi Q.b] X26 X0g fun cB cC aZ f M=>?_;have bK:=Q0 h.size aZ;have j:=j.bw f;have o:=o.bw f;have y:=y.bw f;have e:=e.bw f;have d:=d.bw f;have h:=btr h f;refine Zx aY fun a t _ b0=>?_;refine Ze (Vn X01 M)<|Ze (X0 O X4k (o.at 0))<|Zf (Vc (Xmm _ Q Aqs cqs qs d.top aD) Xdw) ?_;rintro _ cD ⟨rfl,f⟩;have j:=j.bw f;have o:=o.bw f;have M:=M.bw f;have y:=y.bw f;have e:=e.bw f;have d:=d.bw f;have h:=btr h f;refine Zt b0 fun a t=>?_
  refine X04 t O (fun W=>?_) (fun W=>?_)
  ·have aF:=W;refine Zr t<|Zm O<|Zm O<|Zf (X2 (k:=1) (vs:=[vi x]) (zs:=[vi x]) O Xy X1a O O) ?_;rintro _ cE ⟨cF,rfl,aJ,f,aA⟩;have bL:=Q0 h.size aJ;have N:=y.away aJ;have j:=j.bw f;have o:=o.bw f;have y:=y.bw f;have e:=e.bw f;have d:=d.bw f;have h:=btr h f;refine Zf (X0i (enc:=encI) (l:=(q)) (l2:=([x])) (B0:=I.heap.size) O O Xy X1a Xt X1x y (Rd.of_blk aA O _ aA.lt) (by simp only [maxLen];simp;omega) O3 h.size) ?_;rintro _ cG ⟨bM,bN,rfl,b1,hg,b2⟩
   have G:Own _ I.heap.size 3 1 encI _ _ (q):=y
   have aO:=b2 _ aA.lt N;clear b2;have j:=j.appT G hg O;have o:=o.appT G hg O;have e:=e.appT G hg O;have d:=d.appB G hg (Qb _);have h:=Below.app h G hg (Qb _) h.size;clear G hg;refine Za O ?_;refine Zn fun a t=>?_;refine Xn<|aI _ _<|Zr t<|Zm O<|Ze (X03 O O Z Z)<|Za O ?_;refine Zn fun a t=>?_;refine Xd ?_;exact ⟨(k+1,x+1,q++([x])),⟨bM,bN,t.sb,Z,(Xkc hx hS aE aM aF),j,o,b1,e,d,h⟩,O1⟩
  have aF:=W;refine Zs t fun _ b3=>?_;refine Ze (Vn X01 M)<|Zf (Vc (F96 _ Q) Xfp) ?_;rintro _ cH ⟨bO,bP,rfl,aB,f⟩;have aB:=aB.lower h.size;have j:=j.bw f;have o:=o.bw f;have y:=y.bw f;have e:=e.bw f;have d:=d.bw f;have h:=btr h f;refine Ze (X33 (vs:=[(pZ9 b5)]) O)<|Zf (Vc (Xze _ bO bP (qubI Q) aB.rd.top 99 [(pZ9 b5)] Xsy (hasB qs) (fun x9 w9 b6=>Y0d w9 x9 qs b5 Aqs cqs ((d.top).bw b6).top (o.bw b6) aD) (by have:=X2e Q;omega)) Xof) ?_;rintro _ cI ⟨rfl,f⟩;have j:=j.bw f;have o:=o.bw f;have y:=y.bw f;have e:=e.bw f;have d:=d.bw f;have h:=btr h f;refine Zt b3 fun a t=>?_
  refine X04 t O (fun aC=>?_) (fun aC=>?_)
  ·have H:=Xgg hS aE aM aF aC;refine Q9<|Xl0 O ?_;refine Xm<|Xm<|X0a<|aH _ _ ?_;refine Zs t fun _ b7=>?_;refine Zm O<|Za O<|Za O<|Zt b7 fun a t=>?_
   refine Q6 (X4 t (X0q t O O O) ?_)
   rw [aQ]
   rw [<- H]
   exact ⟨J,L,O,y,h⟩
  have bQ:tchB Q qs=false:=aC
  refine Q7<|Xn<|aI _ _<|Zr t ?_;refine Zm O<|Ze (X03 O O Z Z)<|Za O ?_;refine Zn fun a t=>?_;refine Xd ?_;exact ⟨(k+1,x+1,q),⟨J,L,t.sb,Z,(Xpz hS aE aM aF bQ),j,o,y,e,d,h⟩,O1⟩
 have H:=Xkb hS (by have h9:¬ (x<(c.gs.length:Int)/\(q.length:Int)<6):=(by simpa using U);omega)
 refine Q9<|Xm<|Xm<|X0a ?_;refine aH _ _<|Zs t fun _ b8=>?_;refine Zm O<|Za O<|Za O<|Zt b8 fun a t=>?_
 refine Q6 (X4 t (X0q t O O O) ?_)
 rw [aQ]
 rw [<- H]
 exact ⟨J,L,O,y,h⟩
theorem Y05(L:World)(c:Cx)(Ac:Option Addr)(cc:Nat)(f:Rd L L.heap.size 59 encG Ac c.gs)(p:Int)(Aqs:Option Addr)(cqs:Nat)(qs:List Int)(d:Rd L L.heap.size 3 encI Aqs qs)(hc:cOk c=true)(aI:qs.length<=1048576) : Ret Tryz.prog 61 [.agg #[vi c.n,.slice Ac c.gs.length cc],vi p,.slice Aqs qs.length cqs] L (fun v w=>∃ A c1,v=.tuple #[.slice A ((runX c p qs).getD []).length c1,.bool ((runX c p qs).isSome)]/\Own w L.heap.size 3 1 encI A c1 ((runX c p qs).getD [])/\Below L.heap.size L w):=by
 obtain ⟨bC,bD,bO⟩:=X10 hc
 have bM:c.gs.length<=400:=bD
 refine enter Tryz.func61 O 79 O O ?_;intro a e
 have B:=bz L
 refine Zs e fun _ bE=>?_;refine Zf (X0m (zs:=[vi c.n,.slice Ac c.gs.length cc]) O O) ?_;rintro _ w1 ⟨b4,rfl,bF,h,g⟩;have bN:=Q0 B.size bF;have f:=f.bw h;have d:=d.bw h;have B:=btr B h;refine Za O<|Za O<|ZX bE fun a e _ bG=>?_;refine Q5 fun _ bH=>?_;refine X0f (fun a w=>Fr a 79 [(1,vi p),(2,.slice Aqs qs.length cqs),(3,(pZ9 b4)),(26,.bool ((!(inR (qs.length:Int) 1 2&&incF qs 0 (c.n-1)))||(!(inR p 0 ((c.gs.length:Int)-1)))))]/\Below w1.heap.size w1 w) ?_ ?_
 ·have aC:Below w1.heap.size w1 w1:=Below.refl _ _
  refine Zr e<|Ze (Vn X0e g)<|Zm O<|Zf (Vc (Y0a _ c Ac cc f.top Aqs cqs qs d.top bC aI) Xsv) ?_;rintro _ w2 ⟨rfl,h⟩;have g:=g.bw h;have B:=btr B h;have aC:=btr aC h;refine Ze (X0x O)<|Zm O ?_
  refine Zg 18 O (fun i=>?_) (fun i=>?_)
  ·(iterate 7 refine Zp (gP i) ?_);refine Ze (Xf O i O) ?_;refine Zn fun a e=>?_;exact ⟨e.sub ⟨O,O,O,X1 O (by first|rfl|(simp only [i,bs];done)|simp [i]),trivial⟩,aC⟩
  refine Zv (gW i) (X7 O) ?_;refine Zv (gW i) (Vd O X05 1) ?_;refine Zv (gW i) (X0 O X0l (g.at 1)) ?_;refine Zv (gW i) (X0o O Xa) ?_;refine Zv (gW i) (X18 O O Z Z) ?_;refine Zk (gW i) (Vc (F85 _ p 0 ((c.gs.length:Int)-1)) X3g) ?_;rintro _ _ ⟨rfl,rfl⟩;refine Zv (gW i) (X0x O) ?_;refine Ze (Xb O i O) ?_;refine Zn fun a e=>?_;exact ⟨e.sub ⟨O,O,O,X1 O (by first|rfl|(simp only [i,bs];done)|simp [i]),trivial⟩,aC⟩
 rintro a w3 ⟨e,h⟩;have g:=g.bw h;have f:=f.bw h;have d:=d.bw h;have B:=btr B h;refine bH _ _ ?_
 refine X04 e O (fun z=>?_) (fun z=>?_)
 ·have U:runB c p qs=false:=by have h9:=z;unfold runB;revert h9;cases inR (qs.length:Int) 1 2<;>cases incF qs 0 (c.n-1)<;>cases inR p 0 ((c.gs.length:Int)-1)<;>simp
  have D:=Xem U;refine Zs e fun _ aP=>?_;refine Za O<|Za O<|Zt aP fun a e=>?_;refine Q6<|X5<|X4 e (X0q e O O O) ?_
  rw [D]
  exact ⟨none,0,O,(Own.nil _ _ _ _ _),B⟩
 have M:(inR (qs.length:Int) 1 2=true/\incF qs 0 (c.n-1)=true)/\inR p 0 ((c.gs.length:Int)-1)=true:=by have h9:=z;revert h9;cases inR (qs.length:Int) 1 2<;>cases incF qs 0 (c.n-1)<;>cases inR p 0 ((c.gs.length:Int)-1)<;>simp
 have bI:=X0b.1 M.2;have bP:=bI.1;refine Q7<|bG _ _<|Q5 fun _ aQ=>?_;refine Zs e fun _ aR=>?_;refine Ze (Vd O X05 1)<|Ze (X0 O X0l (g.at 1))<|Zm O<|Zi (k:=p.toNat) (u:=(c.gs.getD p.toNat gZ)) (enc:=encG) (l:=c.gs) tv0 O O Xa X0g X9 f (X62 Z) Z ?_;intro bQ aJ;refine Ze (Xx (l:=[vi ((c.gs.getD p.toNat gZ).k),vi ((c.gs.getD p.toNat gZ).a),vi ((c.gs.getD p.toNat gZ).b)]) O X01 aJ O)<|Zm O<|Zf (Vc (Xml _ (c.gs.getD p.toNat gZ) Aqs cqs qs d.top aI) Xdv) ?_;rintro _ w4 ⟨rfl,h⟩;have g:=g.bw h;have f:=f.bw h;have d:=d.bw h;have B:=btr B h;refine Zm O<|Ze (X3 (vs:=[vi (inN (c.gs.getD p.toNat gZ) qs:Int),vi (ouN (c.gs.getD p.toNat gZ) qs:Int)]) O O)<|Ze (X3 (vs:=[vi (inN (c.gs.getD p.toNat gZ) qs:Int),vi (ouN (c.gs.getD p.toNat gZ) qs:Int)]) O O)<|Za O<|Za O<|ZX aR fun a e _ aS=>?_;refine X0f (fun a w=>Fr a 79 [(1,vi p),(2,.slice Aqs qs.length cqs),(3,(pZ9 b4)),(42,.bool (((inN (c.gs.getD p.toNat gZ) qs:Int)==0)||(decide (0<(ouN (c.gs.getD p.toNat gZ) qs:Int)))))]/\w4=w) ?_ ?_
 ·refine Zr e<|Zm O<|Ze (X13 O O)<|Zm O ?_
  refine Zg 39 O (fun o=>?_) (fun o=>?_)
  ·(iterate 2 refine Zp (gP o) ?_);refine Ze (Xf O o O) ?_;refine Zn fun a e=>?_;exact ⟨e.sub ⟨O,O,O,X1 O (by first|rfl|(simp only [z,o,bs];done)|simp [z,o]),trivial⟩,O⟩
  refine Zv (gW o) (X7 O) ?_;refine Zv (gW o) (X29 O O) ?_;refine Ze (Xb O o O) ?_;refine Zn fun a e=>?_;exact ⟨e.sub ⟨O,O,O,X1 O (by first|rfl|(simp only [z,o,bs];done)|simp [z,o]),trivial⟩,O⟩
 rintro a _ ⟨e,rfl⟩;refine aS _ _ ?_
 refine X04 e O (fun G=>?_) (fun G=>?_)
 ·have m:=G
  have U:runB c p qs=false:=by unfold runB;rw [M.1.1,M.1.2,M.2,Xat,<- Xbf];revert G;by_cases h8:inN (c.gs.getD p.toNat gZ) qs=0<;>by_cases h7:ouN (c.gs.getD p.toNat gZ) qs=0<;>simp [h8,h7]<;>omega
  have D:=Xem U;refine Zs e fun _ aT=>?_;refine Za O<|Za O<|Zt aT fun a e=>?_;refine Q6<|X5<|X4 e (X0q e O O O) ?_
  rw [D]
  exact ⟨none,0,O,(Own.nil _ _ _ _ _),B⟩
 have m:=G
 have aU:runB c p qs=true:=by unfold runB;rw [M.1.1,M.1.2,M.2,Xat,<- Xbf];revert G;by_cases h8:inN (c.gs.getD p.toNat gZ) qs=0<;>by_cases h7:ouN (c.gs.getD p.toNat gZ) qs=0<;>simp [h8,h7]<;>omega
 have aV:=Xgj aU;refine Q7<|aQ _ _<|Zs e fun _ aW=>?_;refine Za O<|ZX aW fun a e _ aF=>?_;refine Zs e fun _ aX=>?_;refine Zm O<|Za O<|Zt aX fun a e=>?_;refine Q8<|X0d (σ:=Nat×Int×(List Int)) (fun (s:Nat×Int×(List Int)) (a:Act) (w:World)=>match s with|(k,x,q)=>∃ H I,Fr a 79 [(2,.slice Aqs qs.length cqs),(3,(pZ9 b4)),(10,.slice H q.length I),(11,vi x)]/\(x=p+(k:Int))/\(RnS c p qs k q)/\Blk w b4 25 [vi c.n,.slice Ac c.gs.length cc]/\Own w L.heap.size 3 1 encI H I q/\Rd w L.heap.size 59 encG Ac c.gs/\Rd w L.heap.size 3 encI Aqs qs/\Below L.heap.size L w) (fun (s:Nat×Int×(List Int))=>match s with|(k,x,q)=>c.gs.length+1-(p.toNat+k)) (0,p,[]) ?_ ?_
 ·exact ⟨none,0,e.sb,O5,(Xgh aU),g,(Own.nil _ _ _ _ _),f,d,B⟩
 rintro ⟨k,x,q⟩ a w5 ⟨H,I,e,hx,hS,g,y,f,d,B⟩;refine Q5 fun _ aY=>?_;refine Q5 fun _ aZ=>?_;refine X0f (fun a w=>Fr a 79 [(2,.slice Aqs qs.length cqs),(3,(pZ9 b4)),(10,.slice H q.length I),(11,vi x),(53,.bool ((decide (x<(c.gs.length:Int)))&&(decide ((q.length:Int)<6))))]/\w5=w) ?_ ?_
 ·refine Zr e<|Zm O<|Ze (Vd O X05 1)<|Ze (X0 O X0l (g.at 1))<|Ze (X0o O Xa)<|Ze (X16 O O)<|Zm O ?_
  refine Zg 49 O (fun j=>?_) (fun j=>?_)
  ·refine Zv (gW j) (X7 O) ?_;refine Zv (gW j) (X0o O Xy) ?_;refine Zv (gW j) (X16 O O) ?_;refine Ze (Xf O j O) ?_;refine Zn fun a e=>?_;exact ⟨e.sub ⟨O,O,O,O,X1 O (by first|rfl|(simp only [z,m,j,bs];done)|simp [z,m,j]),trivial⟩,O⟩
  (iterate 3 refine Zp (gP j) ?_);refine Ze (Xb O j O) ?_;refine Zn fun a e=>?_;exact ⟨e.sub ⟨O,O,O,O,X1 O (by first|rfl|(simp only [z,m,j,bs];done)|simp [z,m,j]),trivial⟩,O⟩
 rintro a _ ⟨e,rfl⟩;refine aZ _ _ ?_
 refine X04 e O (fun E=>?_) (fun E=>?_)
 ·obtain ⟨bR,bS⟩ : x<(c.gs.length:Int)/\(q.length:Int)<6:=by simpa using E
  have aK:q.length<6:=by omega
  obtain ⟨C,aD⟩:=Xj (l:=c.gs) (k:=p.toNat+k) Z
  refine Q7<|aY _ _<|Q5 fun _ aG=>?_;refine Q8<|Zs e fun _ b0=>?_;refine Ze (Vd O X05 1)<|Ze (X0 O X0l (g.at 1))<|Zm O<|Zi (k:=(p.toNat+k)) (u:=C) (enc:=encG) (l:=c.gs) tv0 O O Xa X0g X9 f aD Z ?_;intro bU aL;refine Ze (Xx (l:=[vi C.k,vi C.a,vi C.b]) O X01 aL O)<|Zm O<|Zf (Vc (Xml _ C Aqs cqs qs d.top aI) Xdv) ?_;rintro _ w6 ⟨rfl,h⟩;have g:=g.bw h;have y:=y.bw h;have f:=f.bw h;have d:=d.bw h;have B:=btr B h;refine Zm O<|Ze (X3 (vs:=[vi (inN C qs:Int),vi (ouN C qs:Int)]) O O)<|Ze (X3 (vs:=[vi (inN C qs:Int),vi (ouN C qs:Int)]) O O)<|Za O<|Za O<|ZX b0 fun a e _ b1=>?_;refine Q5 fun _ b2=>?_;refine X0f (fun a w=>Fr a 79 [(2,.slice Aqs qs.length cqs),(3,(pZ9 b4)),(10,.slice H q.length I),(11,vi x),(12,vi (inN C qs:Int)),(71,.bool ((decide (0<(inN C qs:Int)))&&(decide (0<(ouN C qs:Int)))))]/\w6=w) ?_ ?_
  ·refine Zr e<|Zm O<|Ze (X29 O O)<|Zm O ?_
   refine Zg 68 O (fun t=>?_) (fun t=>?_)
   ·refine Zv (gW t) (X7 O) ?_;refine Zv (gW t) (X29 O O) ?_;refine Ze (Xf O t O) ?_;refine Zn fun a e=>?_;exact ⟨e.sub ⟨O,O,O,O,O,X1 O (by first|rfl|(simp only [z,m,E,t,bs];done)|simp [z,m,E,t]),trivial⟩,O⟩
   (iterate 2 refine Zp (gP t) ?_);refine Ze (Xb O t O) ?_;refine Zn fun a e=>?_;exact ⟨e.sub ⟨O,O,O,O,O,X1 O (by first|rfl|(simp only [z,m,E,t,bs];done)|simp [z,m,E,t]),trivial⟩,O⟩
  rintro a _ ⟨e,rfl⟩;refine b2 _ _ ?_
  refine X04 e O (fun W=>?_) (fun W=>?_)
  ·have N:(decide (0<(inN C qs:Int))&&decide (0<(ouN C qs:Int)))=true:=W
   rw [Xp1] at N
   have b3:tchB C qs=true/\insB C qs=false:=by revert N;cases tchB C qs<;>cases insB C qs<;>simp
   have D:=Xgg hS aD aK b3.2 b3.1;refine Q9<|Xm<|Xl0 O ?_;refine Xm<|Xm<|X0a<|aF _ _ ?_;refine Zs e fun _ b5=>?_;refine Zm O<|Za O<|Za O<|Zt b5 fun a e=>?_
   refine Q6 (X4 e (X0q e O O O) ?_)
   rw [aV]
   rw [<- D]
   exact ⟨H,I,O,y,B⟩
  have N:(decide (0<(inN C qs:Int))&&decide (0<(ouN C qs:Int)))=false:=W
  rw [Xp1] at N
  refine Q7<|b1 _ _<|Zs e fun _ b6=>?_;refine Zm O<|Ze (X29 O O)<|Zt b6 fun a e=>?_
  refine X12 e O (fun aM aA=>?_) (fun aM aA=>?_)
  ·have aE:tchB C qs=true:=by rw [<- Xbf];exact decide_eq_true aA
   have aN:insB C qs=true:=by rw [aE] at N;simpa using N
   refine Zr e<|Zm O<|Zm O<|Zf (X2 (k:=1) (vs:=[vi x]) (zs:=[vi x]) O Xy X1a O O) ?_;rintro _ w7 ⟨bW,rfl,aH,h,aB⟩;have bJ:=Q0 B.size aH;have Q:=y.away aH;have g:=g.bw h;have y:=y.bw h;have f:=f.bw h;have d:=d.bw h;have B:=btr B h;refine Zf (X0i (enc:=encI) (l:=(q)) (l2:=([x])) (B0:=L.heap.size) O O Xy X1a Xt X1x y (Rd.of_blk aB O _ aB.lt) (by simp only [maxLen];simp;omega) O3 B.size) ?_;rintro _ w8 ⟨bK,bL,rfl,b7,hg,b8⟩
   have J:Own _ L.heap.size 3 1 encI _ _ (q):=y
   have aO:=b8 _ aB.lt Q;clear b8;have g:=g.appT J hg O;have f:=f.appT J hg O;have d:=d.appB J hg (Qb _);have B:=Below.app B J hg (Qb _) B.size;clear J hg;refine Za O ?_;refine Zn fun a e=>?_;refine Xn<|aG _ _<|Zr e<|Zm O<|Ze (X03 O O Z Z)<|Za O ?_;refine Zn fun a e=>?_;refine Xd ?_;exact ⟨(k+1,x+1,q++([x])),⟨bK,bL,e.sb,Z,(Xkc hx hS aD aK aN),g,b7,f,d,B⟩,O1⟩
  have aE:tchB C qs=false:=by rw [<- Xbf];exact decide_eq_false aA
  have aN:insB C qs=false:=by rw [Xat,aE];rfl
  refine Q7<|Xn<|aG _ _<|Zr e ?_;refine Zm O<|Ze (X03 O O Z Z)<|Za O ?_;refine Zn fun a e=>?_;refine Xd ?_;exact ⟨(k+1,x+1,q),⟨H,I,e.sb,Z,(Xpz hS aD aK aN aE),g,y,f,d,B⟩,O1⟩
 have D:=Xkb hS (by have h9:¬ (x<(c.gs.length:Int)/\(q.length:Int)<6):=(by simpa using E);omega)
 refine Q9<|Xm<|Xm<|X0a ?_;refine aF _ _<|Zs e fun _ b9=>?_;refine Zm O<|Za O<|Za O<|Zt b9 fun a e=>?_
 refine Q6 (X4 e (X0q e O O O) ?_)
 rw [aV]
 rw [<- D]
 exact ⟨H,I,O,y,B⟩
theorem Xuy(N:World)(c:Cx)(Ac:Option Addr)(cc:Nat)(d:Rd N N.heap.size 59 encG Ac c.gs)(L:c.gs.length<=cc)(p:Int)(Aqs:Option Addr)(cqs:Nat)(qs:List Int)(t:Rd N N.heap.size 3 encI Aqs qs)(Aws:Option Addr)(cws:Nat)(ws:List Gt)(y:Rd N N.heap.size 59 encG Aws ws)(cW:c.gs.length<=1000000000)(dG:ws.length<=1000000)(bL:qs.length<=1048576) : Ret Tryz.prog 60 [.agg #[vi c.n,.slice Ac c.gs.length cc],vi p,.slice Aqs qs.length cqs,.slice Aws ws.length cws] N (fun v w=>∃ A9 e9 B9 f9,v=.tuple #[.agg #[vi (((runP c p qs).bind fun run=>repX c p run qs ws).getD rpZ).pos,.slice A9 (((runP c p qs).bind fun run=>repX c p run qs ws).getD rpZ).old.length e9,.slice B9 (((runP c p qs).bind fun run=>repX c p run qs ws).getD rpZ).new.length f9],.bool ((runP c p qs).bind fun run=>repX c p run qs ws).isSome]/\Own w N.heap.size 59 3 encG A9 e9 (((runP c p qs).bind fun run=>repX c p run qs ws).getD rpZ).old/\Own w N.heap.size 59 3 encG B9 f9 (((runP c p qs).bind fun run=>repX c p run qs ws).getD rpZ).new/\Apart A9 B9/\Below N.heap.size N w):=by
 obtain ⟨rr,bM⟩ : ∃ rr,rr=(runP c p qs).getD []:=⟨_,O⟩
 obtain ⟨ro,b4⟩ : ∃ ro:Bool,ro=(runP c p qs).isSome:=⟨_,O⟩
 refine enter Tryz.func60 O 100 O O ?_;intro a z
 have C:=bz N
 refine Zs z fun _ cX=>?_;refine Zf (X0m (zs:=[vi c.n,.slice Ac c.gs.length cc]) O O) ?_;rintro _ w1 ⟨b5,rfl,cY,f,o⟩;have dA:=Q0 C.size cY;have d:=d.bw f;have t:=t.bw f;have y:=y.bw f;have C:=btr C f;refine Zf (Xl (zs:=[vi 0,.slice none 0 0,.slice none 0 0]) X2v O) ?_;rintro _ w2 ⟨b8,rfl,d5,f,g⟩;have aJ:=Q0 C.size d5;have o:=o.bw f;have d:=d.bw f;have t:=t.bw f;have y:=y.bw f;have C:=btr C f;refine Za O<|Zx cX fun a z _ d6=>?_;refine Ze (Vn X0e o)<|Zm O<|Zm O<|Zf (X23 (vs:=[.agg #[vi c.n,.slice Ac c.gs.length cc],vi p,.slice Aqs qs.length cqs]) O Xdt (by have hq:=Xmk w2 c Ac cc d.top p Aqs cqs qs t.top cW bL;rw [<- bM,<- b4] at hq;exact hq)) ?_;rintro _ w3 ⟨aD,aE,rfl,e,f⟩;have e:=e.lower C.size;have o:=o.bw f;have g:=g.bw f;have d:=d.bw f;have t:=t.bw f;have y:=y.bw f;have C:=btr C f;refine Zm O<|Ze (X3 (vs:=[.slice aD rr.length aE,.bool ro]) O O)<|Ze (X3 (vs:=[.slice aD rr.length aE,.bool ro]) O O)<|Za O<|Za O<|ZX d6 fun a z _ bN=>?_;refine Zs z fun _ bO=>?_;refine Zm O<|Ze (X0x O)<|Zt bO fun a z=>?_
 refine X04 z O (fun H=>?_) (fun H=>?_)
 ·have bP:(runP c p qs).isSome=false:=by rw [<- b4];simpa using H
  have Q:((runP c p qs).bind fun run=>repX c p run qs ws)=none:=by rw [Xb5 bP];rfl
  refine Zs z fun _ bQ=>?_;refine Ze (Xi (ps:=[]) (cs:=[vi 0,.slice none 0 0,.slice none 0 0]) O (fun _=>by first|rfl|kernel_rfl))<|Zo (Vw [vi 0,.slice none 0 0,.slice none 0 0] X17 g) ?_;rintro _ w4 ⟨ho,hb⟩;have C:=Below.oy C ho aJ;have g:=hb;refine Za O<|Zt bQ fun a z=>?_;refine Q6<|X5<|X4 z (X0q z O (ResV.cellN (l:=[vi 0,.slice none 0 0,.slice none 0 0]) O X1g (g.at 0) O) O) ?_
  rw [Q]
  exact ⟨none,0,none,0,O,(Own.nil _ _ _ _ _),(Own.nil _ _ _ _ _),(Apart.none_l _),C⟩
 obtain ⟨bR,b6,bS⟩:=X7r (c:=c) (p:=p) (qs:=qs) (by rw [<- b4];simpa using H)
 have aX:rr=runL c p qs:=by rw [bM,bS];rfl
 have dB:c.gs.length<=400:=(X10 bR).2.1
 obtain ⟨j9,aK,dH,bU,b0⟩:=X34 b6
 rw [<- aX] at aK b0
 have dI:=X4m aK bU
 have dC:rr.length<=6:=by rw [aX];exact X8k ..
 have dD:1<=rr.length:=by rw [aX];exact X9s b6
 have bW:0<=p:=by obtain ⟨_,_,k9,e9,_⟩:=X27 b6;omega
 have b7:((runP c p qs).bind fun run=>repX c p run qs ws)=repX c p rr qs ws:=by rw [bS,aX];rfl
 refine Q7<|bN _ _<|Q5 fun _ bX=>?_;refine Zs z fun _ bY=>?_;refine Zm O<|Ze (X0o O Xa)<|Zm O<|Zt bY fun a z=>?_;refine Q8<|X0d (σ:=Nat) (fun (k:Nat) (a:Act) (w:World)=>Fr a 100 [(1,vi p),(2,.slice Aqs qs.length cqs),(3,.slice Aws ws.length cws),(4,(pZ9 b5)),(8,(pZ9 b8)),(10,.slice aD rr.length aE),(27,.slice Aws ws.length cws),(28,vi (ws.length:Int)),(29,vi (k:Int))]/\(k<=ws.length)/\((ws.take k).all (ftB c.n qs)=true)/\Blk w b5 25 [vi c.n,.slice Ac c.gs.length cc]/\Blk w b8 36 [vi 0,.slice none 0 0,.slice none 0 0]/\Rd w N.heap.size 59 encG Ac c.gs/\Rd w N.heap.size 3 encI Aqs qs/\Rd w N.heap.size 59 encG Aws ws/\Own w N.heap.size 3 1 encI aD aE rr/\c.gs.length<=cc/\Below N.heap.size N w) (fun (k:Nat)=>ws.length-k) 0 ?_ ?_
 ·exact ⟨z.sb,(Qf _),O5,o,g,d,t,y,e,L,C⟩
 rintro k a w5 ⟨z,b9,bC,o,g,d,t,y,e,L,C⟩;refine Zs z fun _ bZ=>?_;refine Ze (X16 O O)<|ZX bZ fun a z _ c4=>?_
 refine X12 z O (fun D cA=>?_) (fun D cA=>?_)
 ·obtain ⟨M,aO⟩:=Xj (l:=ws) (k:=k) Z
  refine Q7<|c4 _ _<|Q5 fun _ cB=>?_;refine Q8<|Zs z fun _ cC=>?_;refine Zi (k:=k) (u:=M) (enc:=encG) (l:=ws) tv0 O O Xa X0g X9 y aO O ?_;intro dJ bD;refine Ze (Xx (l:=[vi M.k,vi M.a,vi M.b]) O X01 bD O) ?_;refine ZB [vi M.k,vi M.a,vi M.b] X26 X0g fun dK w7 cD f aF=>?_;have d7:=Q0 C.size cD;have o:=o.bw f;have g:=g.bw f;have d:=d.bw f;have t:=t.bw f;have y:=y.bw f;have e:=e.bw f;have C:=btr C f;refine ZX cC fun a z _ cE=>?_;refine X0f (fun a w=>Fr a 100 [(1,vi p),(2,.slice Aqs qs.length cqs),(3,.slice Aws ws.length cws),(4,(pZ9 b5)),(8,(pZ9 b8)),(10,.slice aD rr.length aE),(27,.slice Aws ws.length cws),(28,vi (ws.length:Int)),(29,vi (k:Int)),(48,.bool ((!(gOk c.n M))||((M.k != 12)&&(!(insB M qs)))))]/\Below w7.heap.size w7 w) ?_ ?_
  ·have aH:Below w7.heap.size w7 w7:=Below.refl _ _
   refine Zr z<|Ze (Vd O X1d 0)<|Ze (X0 O X8 (o.at 0))<|Ze (Vn X01 aF)<|Zf (Vc (Xqx _ c.n M) Xdl) ?_;rintro _ w8 ⟨rfl,f⟩;have aF:=aF.bw f;have t:=t.bw f;have C:=btr C f;have aH:=btr aH f;refine Ze (X0x O)<|Zm O ?_
   refine Zg 38 O (fun B=>?_) (fun B=>?_)
   ·(iterate 4 refine Zp (gP B) ?_);(iterate 4 refine Zp (gP tv0) ?_);refine Zp (gP B) ?_;refine Ze (Xf O B O) ?_;refine Zn fun a z=>?_;exact ⟨z.sub ⟨O,O,O,O,O,O,O,O,O,X1 O (by first|rfl|(simp only [H,D,B,bs];done)|simp [H,D,B]),trivial⟩,aH⟩
   refine Zv (gW B) (Vd O X0n 0) ?_;refine Zv (gW B) (X0 O X8 (aF.at 0)) ?_;refine Zv (gW B) (X47 O O) ?_;refine Zv (gW B) (X7 O) ?_
   refine Zg 42 O (fun E=>?_) (fun E=>?_)
   ·refine Zv (gW E) (Vn X01 aF) ?_;refine Zv (gW E) (X7 O) ?_;refine Zk (gW E) (Vc (Xmm _ M Aqs cqs qs t.top bL) Xdw) ?_;rintro _ w9 ⟨rfl,f⟩;have C:=btr C f;have aH:=btr aH f;refine Zv (gW E) (X0x O) ?_;refine Zv (gW B) (Xf O E O) ?_;refine Ze (Xb O B O) ?_;refine Zn fun a z=>?_;exact ⟨z.sub ⟨O,O,O,O,O,O,O,O,O,X1 O (by first|rfl|(simp only [H,D,B,E,bs];done)|simp [H,D,B,E]),trivial⟩,aH⟩
   (iterate 4 refine Zp (gP E) ?_);refine Zv (gW B) (Xb O E O) ?_;refine Ze (Xb O B O) ?_;refine Zn fun a z=>?_;exact ⟨z.sub ⟨O,O,O,O,O,O,O,O,O,X1 O (by first|rfl|(simp only [H,D,B,E,bs];done)|simp [H,D,B,E]),trivial⟩,aH⟩
  rintro a dL ⟨z,f⟩;have o:=o.bw f;have g:=g.bw f;have d:=d.bw f;have t:=t.bw f;have y:=y.bw f;have e:=e.bw f;have C:=btr C f;refine cE _ _ ?_
  refine X04 z O (fun aP=>?_) (fun aP=>?_)
  ·have h8:ftB c.n qs M=false:=by have h9:=aP;rw [Xjj] at h9;simpa using h9
   have Q:=b7.trans (Xej (Xhn aO h8));refine Zs z fun _ cF=>?_;refine Ze (Xi (ps:=[]) (cs:=[vi 0,.slice none 0 0,.slice none 0 0]) O (fun _=>by first|rfl|kernel_rfl))<|Zo (Vw [vi 0,.slice none 0 0,.slice none 0 0] X17 g) ?_;rintro _ dM ⟨ho,hb⟩;have C:=Below.oy C ho aJ;have g:=hb;refine Za O<|Zt cF fun a z=>?_;refine Q6<|Xo<|X5<|X5 ?_;refine Xo<|X5<|X4 z (X0q z O (ResV.cellN (l:=[vi 0,.slice none 0 0,.slice none 0 0]) O X1g (g.at 0) O) O) ?_
   rw [Q]
   exact ⟨none,0,none,0,O,(Own.nil _ _ _ _ _),(Own.nil _ _ _ _ _),(Apart.none_l _),C⟩
  have h8:ftB c.n qs M=true:=by have h9:=aP;rw [Xjj] at h9;simpa using h9
  refine Q7<|Xn<|cB _ _<|Zr z ?_;refine Ze (X03 O O Z Z)<|Zm O ?_;refine Zn fun a z=>?_;refine Xd ?_;exact ⟨k+1,⟨z.sb,Z,(Xjk bC aO h8),o,g,d,t,y,e,L,C⟩,Z⟩
 have b1:ws.all (ftB c.n qs)=true:=by rw [Qi Z] at bC;exact bC
 refine Q9<|Xm<|Xm<|X0a ?_;refine bX _ _<|Zs z fun _ cG=>?_;refine Zm O<|Zm O<|Ze (X0o O Xy)<|Ze (X18 O O Z Z)<|Zi (k:=(rr.length-1)) (u:=(lastI rr)) (enc:=encI) (l:=rr) tv0 O O Xy X1o Xt e.rd b0 Z ?_;intro dN bE;refine Ze (X0 O X8 bE)<|Za O<|Zx cG fun a z _ cH=>?_;refine Zm O<|Ze (Vd O X05 1)<|Ze (X0 O X0l (o.at 1))<|Zm O<|Zm O<|Ze (X03 O O Z Z) ?_;have cI:=((d.top).takeK X9 (j9+1)).dropK X9 (c:=cc) (Xeq L (j9+1)) p.toNat;refine Ze (Xms (l:=c.gs) (k:=p.toNat) (m:=(j9+1)) O O O Xa X0g Z (by rw [aK];omega) Z Z L)<|Zf (Vc (X6j _ (if cc=p.toNat then Ac else Ac.map (·.add (p.toNat*3))) (cc-p.toNat) ((c.gs.take (j9+1)).drop p.toNat) cI.top O3) X38) ?_;rintro _ dO ⟨aA,aC,rfl,i,f⟩;have i:=i.lower C.size;have o:=o.bw f;have g:=g.bw f;have d:=d.bw f;have y:=y.bw f;have e:=e.bw f;have C:=btr C f;refine Zm O<|Zf (Vc (X6j _ Aws cws ws y.top Z) X38) ?_;rintro _ dP ⟨aY,aZ,rfl,aB,f⟩;have aL:=i.apart aB (Qb _);have aB:=aB.lower C.size;have o:=o.bw f;have g:=g.bw f;have d:=d.bw f;have e:=e.bw f;have i:=i.bw f;have C:=btr C f;refine Ze (Xi (ps:=[(0,vi p),(1,.slice aA ((c.gs.take (j9+1)).drop p.toNat).length aC),(2,.slice aY ws.length aZ)]) (cs:=[vi p,.slice aA ((c.gs.take (j9+1)).drop p.toNat).length aC,.slice aY ws.length aZ]) O (fun _=>by first|rfl|kernel_rfl)) ?_;refine ZB [vi p,.slice aA ((c.gs.take (j9+1)).drop p.toNat).length aC,.slice aY ws.length aZ] X2v X17 fun b46 dQ cJ f A=>?_
 have cK:b8≠b46:=by have:=g.lt;omega
 have bF:=Q0 C.size cJ;have o:=o.bw f;have g:=g.bw f;have d:=d.bw f;have e:=e.bw f;have i:=i.bw f;have aB:=aB.bw f;have C:=btr C f;refine ZX cH fun a z _ cL=>?_;refine Zs z fun _ cM=>?_;refine Zm O<|Za O<|Zt cM fun a z=>?_;refine Q8<|X0d (σ:=Nat×Int×(List Gt)) (fun (s:Nat×Int×(List Gt)) (a:Act) (w:World)=>match s with|(k,x,q)=>∃ aG aI,Fr a 100 [(4,(pZ9 b5)),(8,(pZ9 b8)),(10,.slice aD rr.length aE),(14,vi (lastI rr)),(15,(pZ9 b46)),(16,vi x)]/\(x=p+(k:Int))/\(k<=winN rr p)/\(q=ws++gapL c rr p k)/\Blk w b5 25 [vi c.n,.slice Ac c.gs.length cc]/\Blk w b8 36 [vi 0,.slice none 0 0,.slice none 0 0]/\Blk w b46 36 [vi p,.slice aA ((c.gs.take (j9+1)).drop p.toNat).length aC,.slice aG q.length aI]/\Rd w N.heap.size 59 encG Ac c.gs/\Own w N.heap.size 3 1 encI aD aE rr/\Own w N.heap.size 59 3 encG aA aC ((c.gs.take (j9+1)).drop p.toNat)/\Own w N.heap.size 59 3 encG aG aI q/\c.gs.length<=cc/\Apart aA aG/\Below N.heap.size N w) (fun (s:Nat×Int×(List Gt))=>match s with|(k,x,q)=>winN rr p-k) (0,p,ws) ?_ ?_
 ·exact ⟨aY,aZ,z.sb,O5,(Qf _),(by rw [Xaq,List.append_nil]),o,g,A,d,e,i,aB,L,aL,C⟩
 rintro ⟨k,x,q⟩ a d8 ⟨aG,aI,z,hx,hk,hq,o,g,A,d,e,i,I,L,J,C⟩;refine Q5 fun _ cN=>?_;refine Zs z fun _ cO=>?_;refine Zm O<|Zm O<|Ze (X6i O O)<|Zt cO fun a z=>?_
 refine X12 z O (fun U aQ=>?_) (fun U aQ=>?_)
 ·have b9:k<winN rr p:=by have h9:=aQ;rw [aK] at h9;omega
  obtain ⟨u9,cP⟩:=Xj (l:=c.gs) (k:=p.toNat+k) Z
  have dE:=X9j c rr p k
  have cQ:q.length<=1000000+k:=by rw [hq,Qh];omega
  refine Q7<|cN _ _<|Q5 fun _ b2=>?_;refine Q8<|Zs z fun _ cR=>?_;refine Zm O<|Zm O<|Zf (Vc (Xvp _ aD aE rr e.rd.top x Z) Xhf) ?_;rintro _ dR ⟨rfl,f⟩;have o:=o.bw f;have g:=g.bw f;have A:=A.bw f;have d:=d.bw f;have e:=e.bw f;have i:=i.bw f;have I:=I.bw f;have C:=btr C f;refine Ze (X0x O)<|Zt cR fun a z=>?_
  refine X04 z O (fun aR=>?_) (fun aR=>?_)
  ·have hT:hasB rr (p+(k:Int))=false:=by have h9:=aR;rw [Xe5,hx] at h9;simpa using h9
   refine X08 none (fun j=>[8,10].contains j) mixed ?_;intro dS f;have o:=o.bw f;have g:=g.bw f;have A:=A.bw f;have d:=d.bw f;have e:=e.bw f;have i:=i.bw f;have I:=I.bw f;have C:=btr C f;refine Yb z<|Yo 0 O (fun _=>Vd O X24 2)<|Ye 1 O (X0 O X0l (A.at 2))<|Yo 2 O (fun _=>Vd O X05 1)<|Ye 3 O (X0 O X0l (o.at 1))<|Yo 4 O (fun _=>X7 O)<|Yi (k:=(p.toNat+k)) (u:=u9) (enc:=encG) (l:=c.gs) 5 O tv0 O O Xa X0g X9 d cP Z ?_;intro dT bG;refine Ye 6 O (Xx (l:=[vi u9.k,vi u9.a,vi u9.b]) O X01 bG O)<|Y1 7 ?_;refine Yk O tv0 (X2 (k:=1) (vs:=[.agg #[vi u9.k,vi u9.a,vi u9.b]]) (zs:=[vi u9.k,vi u9.a,vi u9.b]) O Xa Xc O O) (fun _ _ ⟨_,_,_,h,_⟩=>h) ?_;rintro _ dU ⟨dW,rfl,b3,f,aS⟩;have d9:=Q0 C.size b3;have aM:=I.away b3;have o:=o.bw f;have g:=g.bw f;have A:=A.bw f;have d:=d.bw f;have e:=e.bw f;have i:=i.bw f;have I:=I.bw f;have C:=btr C f;refine Y1 8<|Yt O tv0 O (X0i (enc:=encG) (l:=(q)) (l2:=([u9])) (B0:=N.heap.size) O O Xa Xc X9 Xq I (Rd.of_blk aS O _ aS.lt) (by simp only [maxLen];simp;omega) O3 C.size) ?_;rintro _ dX ⟨bH,bI,rfl,aT,hg,bJ⟩
   have W:Own _ N.heap.size 59 3 encG _ _ (q):=I
   have bK:=bJ _ aS.lt aM;have aN:=Apart.app i J bJ;clear bJ;have o:=o.appT W hg O;have g:=g.appT W hg O;have A:=A.appT W hg O;have d:=d.appB W hg (Qb _);have e:=e.appT W hg O;have i:=i.appP hg J;have C:=Below.app C W hg (Qb _) C.size;clear W hg;refine Yo 9 O (fun _=>Vd O X24 2)<|Y1 10 ?_;refine Yh O tv0 O (Vu (vs:=[.slice bH (q++([u9])).length bI]) (l':=[vi p,.slice aA ((c.gs.take (j9+1)).drop p.toNat).length aC,.slice bH (q++([u9])).length bI]) O O X3w A) ?_;rintro _ dY ⟨ho,hb⟩;have o:=o.oz ho A O;have g:=g.oy ho Z;have d:=d.oT ho A O;have e:=e.oT ho A O;have i:=i.oT ho A O;have aT:=aT.oT ho A O;have C:=Below.oy C ho bF;have A:=hb;refine Yd fun a z=>?_;refine Xn<|b2 _ _<|Zr z<|Zm O<|Ze (X03 O O Z Z)<|Za O ?_;refine Zn fun a z=>?_;refine Xd ?_;exact ⟨(k+1,x+1,(q++[u9])),⟨bH,bI,z.sb,Z,Z,(Xjl bW hq hT cP),o,g,A,d,e,i,aT,L,aN,C⟩,O1⟩
  have hT:hasB rr (p+(k:Int))=true:=by have h9:=aR;rw [Xe5,hx] at h9;simpa using h9
  refine Q7<|Xn<|b2 _ _<|Zr z ?_;refine Zm O<|Ze (X03 O O Z Z)<|Za O ?_;refine Zn fun a z=>?_;refine Xd ?_;exact ⟨(k+1,x+1,q),⟨aG,aI,z.sb,Z,Z,(Xfq hq hT),o,g,A,d,e,i,I,L,J,C⟩,O1⟩
 have b9:k=winN rr p:=by have h9:=aQ;rw [aK] at h9;omega
 have aU:=Xg3 hq b9
 have aV:(newR c p rr ws).old=_:=Xg4 bW aK bU
 have dF:=X9j c rr p k
 have cQ:q.length<=1000000+1000000000:=by rw [hq,Qh];omega
 refine Q9<|Xm<|Xm<|X0a ?_;refine cL _ _<|Q5 fun _ cS=>?_;refine Q5 fun _ cT=>?_;refine X0f (fun a w=>Fr a 100 [(8,(pZ9 b8)),(15,(pZ9 b46)),(97,.bool ((decide (40<(((c.gs.take (j9+1)).drop p.toNat).length:Int)))||(decide (40<(q.length:Int)))))]/\d8=w) ?_ ?_
 ·refine Zr z<|Ze (Vd O X2b 1)<|Ze (X0 O X0l (A.at 1))<|Ze (X0o O Xa)<|Ze (X29 O O)<|Zm O ?_
  refine Zg 92 O (fun G=>?_) (fun G=>?_)
  ·(iterate 4 refine Zp (gP G) ?_);refine Ze (Xf O G O) ?_;refine Zn fun a z=>?_;exact ⟨z.sub ⟨O,O,X1 O (by first|rfl|(simp only [H,D,U,G,bs];done)|simp [H,D,U,G]),trivial⟩,O⟩
  refine Zv (gW G) (Vd O X24 2) ?_;refine Zv (gW G) (X0 O X0l (A.at 2)) ?_;refine Zv (gW G) (X0o O Xa) ?_;refine Zv (gW G) (X29 O O) ?_;refine Ze (Xb O G O) ?_;refine Zn fun a z=>?_;exact ⟨z.sub ⟨O,O,X1 O (by first|rfl|(simp only [H,D,U,G,bs];done)|simp [H,D,U,G]),trivial⟩,O⟩
 rintro a _ ⟨z,rfl⟩;refine cT _ _ ?_
 refine X04 z O (fun aW=>?_) (fun aW=>?_)
 ·have h9:40<(newR c p rr ws).old.length∨40<(newR c p rr ws).new.length:=by rw [aV,aU];have h8:=aW;simp only [Bool.or_eq_true,Qr] at h8;omega
  have Q:=b7.trans (Xk7 b1 h9);refine Zs z fun _ cU=>?_;refine Ze (Xi (ps:=[]) (cs:=[vi 0,.slice none 0 0,.slice none 0 0]) O (fun _=>by first|rfl|kernel_rfl))<|Zo (Vw [vi 0,.slice none 0 0,.slice none 0 0] X17 g) ?_;rintro _ e7 ⟨ho,hb⟩;have C:=Below.oy C ho aJ;have g:=hb;refine Za O<|Zt cU fun a z=>?_;refine Q6<|X5<|X4 z (X0q z O (ResV.cellN (l:=[vi 0,.slice none 0 0,.slice none 0 0]) O X1g (g.at 0) O) O) ?_
  rw [Q]
  exact ⟨none,0,none,0,O,(Own.nil _ _ _ _ _),(Own.nil _ _ _ _ _),(Apart.none_l _),C⟩
 have h9:¬ (40<(newR c p rr ws).old.length∨40<(newR c p rr ws).new.length):=by rw [aV,aU];have h8:=aW;simp only [Bool.or_eq_false_iff,decide_eq_false_iff_not] at h8;omega
 have Q:=b7.trans (Xk8 b1 h9);refine Q7<|cS _ _<|Zs z fun _ cV=>?_;refine Ze (Vn X1g A)<|Zo (Vw [vi p,.slice aA ((c.gs.take (j9+1)).drop p.toNat).length aC,.slice aG q.length aI] X17 g) ?_;rintro _ eA ⟨ho,hb⟩;have i:=i.oT ho g O;have I:=I.oT ho g O;have C:=Below.oy C ho aJ;have g:=hb;refine Za O<|Zt cV fun a z=>?_
 refine Q6 (X4 z (X0q z O (ResV.cellN (l:=[vi p,.slice aA ((c.gs.take (j9+1)).drop p.toNat).length aC,.slice aG q.length aI]) O X1g (g.at 0) O) O) ?_)
 rw [Q]
 simp only [Qq]
 rw [aV,aU]
 exact ⟨aA,aC,aG,aI,O,i,I,J,C⟩
end Go.Proofs.YtfkokcbjcndjpaaGreatDoor
