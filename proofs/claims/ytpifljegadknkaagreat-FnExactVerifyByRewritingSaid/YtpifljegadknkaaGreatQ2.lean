/-
  For every two circuits, the program's VerifyByRewriting returns what the reference's returns and leaves its arguments as they were.
-/
import Derived.Test.YtpifljegadknkaaGreatQ1
import Derived.WideKeyRuns
import Derived.Deep.Strs
import Derived.WalkKit
import Derived.ProofKit
import Derived.OpenShut
import Derived.Deep.Slices
import Derived.Deep.Fields
import Derived.ChangeSame
import Derived.Lib.SmallJoins
import Derived.WalkSpells
import Derived.Maps.RangeRun
import Derived.Laws.Strings2
import Derived.Laws.IdiomStrings
import Derived.Shelf.SlSortCmp.WholeK
import Derived.Shelf.SlSortCmp.NoneTotal
import Derived.Shelf.SlGeneric
import Derived.Lib.ItoaNum
import Derived.Lib.Join
set_option linter.unusedVariables false
set_option linter.unusedSimpArgs false
set_option maxHeartbeats 1000000
set_option maxRecDepth 20000
set_option linter.unusedSectionVars false
namespace Go.Proofs.YtpifljegadknkaaGreat
open Go.RowKit
def gZ:Gt:=⟨0,0,0⟩
def eqM(p q:Mx) : Bool:=decide (p.rows=q.rows)&&decide (p.cols=q.cols)&&decide (p.cells=q.cells)
def unionS(g h:Gt) : List Int:=(qubI g++qubI h).foldl putI []
theorem X6s:∀ (l m:List Int) (x:Int),x ∈ l.foldl putI m↔x ∈ m∨x ∈ l
 | [],m,x=>by simp
 | y::l,m,x=>by rw [List.foldl_cons,X6s l,Xai];simp only [Qv];rw [or_assoc]
theorem Xbe:∀ (l m:List Int),Inc m→Inc (l.foldl putI m)
 | [],_,h=>h
 | y::l,m,h=>Xbe l _ (Xg1 m y h)
theorem X8e:∀ (l m:List Int),(l.foldl putI m).length≤m.length+l.length
 | [],m=>by simp
 | y::l,m=>by
  have h1:=X8e l (putI m y);have h2:=Xed m y
  rw [List.foldl_cons,Qs]
  omega
structure PairOk (us:List Int) (g h:Gt) : Prop where
 inc:Inc us
 low:∀ x ∈ us,0≤x∧x≤4
 one:1≤us.length
 len:us.length≤5
 gk:¬ g.k=12
 hk:¬ h.k=12
 ga:g.a ∈ us
 ha:h.a ∈ us
 gb:inR g.k 9 11=true→g.b ∈ us
 hb:inR h.k 9 11=true→h.b ∈ us
 gs:gOk (us.length:Int) (smallG us g)=true
 hs:gOk (us.length:Int) (smallG us h)=true
def commS(g h:Gt) : Bool:=if comS g h=true then
  eqM (timesS false (gateS ((unionS g h).length:Int) (smallG (unionS g h) g)) (gateS ((unionS g h).length:Int) (smallG (unionS g h) h))).2
   (timesS (timesS false (gateS ((unionS g h).length:Int) (smallG (unionS g h) g)) (gateS ((unionS g h).length:Int) (smallG (unionS g h) h))).1 (gateS ((unionS g h).length:Int) (smallG (unionS g h) h)) (gateS ((unionS g h).length:Int) (smallG (unionS g h) g))).2
 else true
def commI(g h:Gt) : Bool:=if comI g h=true then
  eqM ((opI ⟨((unionI (qubI g) (qubI h)).length:Int),mapI [g,h] (numbI (unionI (qubI g) (qubI h)))⟩).getD mZ) ((opI ⟨((unionI (qubI g) (qubI h)).length:Int),[mapG (numbI (unionI (qubI g) (qubI h))) h,mapG (numbI (unionI (qubI g) (qubI h))) g]⟩).getD mZ)
 else true
section
variable (gs : List Gt) (s : List Int) (g : Gt) (x : Int)
def pA(j:Nat) : Bool:=decide (x≤s.getD j 0)&&!commS g (gs.getD j gZ)
def pB(j:Nat) : Bool:=s.getD j 0==x&&comS g (gs.getD j gZ)
def faultG(i:Nat) : Int:=if g.k=12 then (if x=0 then 0 else 1) else if inR x 1 400=true then (if (List.range i).any (pA gs s g x)=true then 2 else if (List.range i).any (pB gs s g x)=true then 3 else 0) else 1
def faultS(i:Nat) : Int:=faultG gs s (gs.getD i gZ) (s.getD i 0) i
def qA(j:Nat) : Bool:=!commI (gs.getD j gZ) g&&decide (x≤s.getD j 0)
def qB(j:Nat) : Bool:=s.getD j 0==x&&comI (gs.getD j gZ) g
def faultH(i:Nat) : Int:=if (g.k==12&&x != 0||g.k != 12&&!inR x 1 400)=true then 1 else if (List.range i).any (qA gs s g x)=true then 2 else if (List.range i).any (qB gs s g x)=true then 3 else 0
def faultI(i:Nat) : Int:=faultH gs s (gs.getD i gZ) (s.getD i 0) i
end
def firstF(f:Nat→Int) : Nat→Nat→Int×Int
 | 0,_=>(0,0)
 | n+1,i=>if f i=0 then firstF f n (i+1) else (f i,(i:Int))
def schedS(gs:List Gt)(s:List Int) : Int×Int:=if s.length=gs.length then firstF (faultS gs s) gs.length 0 else (1,0)
def schedI(gs:List Gt)(s:List Int) : Int×Int:=if s.length=gs.length then firstF (faultI gs s) gs.length 0 else (1,0)
def specC(c:Cx)(s:List Int) : Int×Int×Bool:=if cOk c=true then ((schedS c.gs s).1,(schedS c.gs s).2,true) else (0,0,false)
def implC(c:Cx)(s:List Int) : Int×Int×Bool:=if cOk c=true then ((schedI c.gs s).1,(schedI c.gs s).2,true) else (0,0,false)
section
variable {f : Nat → Int} {n i : Nat} {r : Int × Int} {x : Int}
end
section
variable {p : Nat → Bool} {i j : Nat}
end
section
variable {gs : List Gt} {s : List Int} {i : Nat} {g : Gt}
end
theorem Xh1(e:World)(Al:Option Addr)(cl:Nat)(l:List Int)(aB:Rd e e.heap.size 3 encI Al l)(x:Int)(aO:l.length≤2305843009213693951) : Ret Tryz.prog 146 [.slice Al l.length cl,vi x] e (fun v w=>v=.bool (l.any fun y=>y==x)∧Below e.heap.size e w):=by
 refine enter Tryz.func146 rfl 17 rfl rfl ?_;intro a b
 have hW:=bz e
 refine Zs b fun _ aH=>?_;refine Za rfl<|ZX aH fun a b _ aI=>?_;refine Zs b fun _ aJ=>?_;refine Zm rfl<|Ze (X0d rfl Xl)<|Zm rfl<|Zt aJ fun a b=>?_;refine Q8<|X01 (σ:=Nat) (fun (k:Nat) (a:Act) (w:World)=>Fr a 17 [(1,vi x),(7,.slice Al l.length cl),(8,vi (l.length:Int)),(9,vi (k:Int))]∧(k≤l.length)∧((l.take k).all (fun y=>!(y==x))=true)∧Below e.heap.size e w) (fun (k:Nat)=>l.length+1-k) 0 ?_ ?_
 ·exact ⟨b.sb,(Qf _),(by simp),hW⟩
 rintro k a w1 ⟨b,hk,f,hW⟩;refine Zs b fun _ aK=>?_;refine Ze (X0l rfl rfl)<|ZX aK fun a b _ aL=>?_
 refine Xg b rfl (fun d=>?_) (fun d=>?_)
 ·have aC:=d;have d:=Q2 d
  obtain ⟨u8,a6⟩:=X5 (l:=l) (k:=k) (by omega)
  refine Q7<|aL _ _<|Q5 fun _ aM=>?_;refine Q8<|Zs b fun _ aD=>?_;refine Zi (k:=k) (u:=u8) (enc:=encI) (l:=l) trivial rfl rfl Xl X08 Xf (aB.below' hW) a6 rfl ?_;intro aP a7;refine Ze (X0 rfl X9 a7)<|Za rfl<|Zx aD fun a b _ aE=>?_;refine Zm rfl<|Zm rfl<|Ze (X0b rfl rfl)<|Zt aE fun a b=>?_
  refine Xg b rfl (fun c=>?_) (fun c=>?_)
  ·have a8:=c
   have aA:l.any (fun y=>y==x)=true:=X53 a6 c
   refine Zs b fun _ aF=>?_;refine Za rfl<|Zt aF fun a b=>?_;refine Q6<|Xq<|X6<|X6 ?_;refine Xq<|X6<|X4 b (Xt b rfl rfl) ?_;exact ⟨by rw [aA],hW⟩
  have a8:=c
  have aN:(!(u8==x))=true:=by rw [c];rfl
  refine Q7<|Xa<|aM _ _<|Zr b ?_;refine Ze (Xw rfl rfl (by omega) (by omega))<|Zm rfl ?_;refine Zn fun a b=>?_;refine Xh ?_;exact ⟨k+1,⟨b.sb,(by omega),(X46 f a6 aN),hW⟩,(by omega)⟩
 have aC:=d;have d:=Q1 d;refine Q9<|Xk<|Xk<|X03 ?_;refine aI _ _<|Zs b fun _ aG=>?_;refine Za rfl<|Zt aG fun a b=>?_
 refine Q6 (X4 b (Xt b rfl rfl) ?_)
 have aA:l.any (fun y=>y==x)=false:=X4b (X47 f (by omega))
 exact ⟨by rw [aA],hW⟩
theorem Xx6(e:World)(Al:Option Addr)(cl:Nat)(l:List Int)(aB:Rd e e.heap.size 3 encI Al l)(x:Int)(aO:l.length≤2305843009213693951) : Ret Tryz.prog 145 [.slice Al l.length cl,vi x] e (fun v w=>∃ i:Int,v=vi i∧decide (0≤i)=(l.any fun y=>x==y)∧Below e.heap.size e w):=by
 refine enter Tryz.func145 rfl 19 rfl rfl ?_;intro a b
 have hW:=bz e
 refine Zs b fun _ aH=>?_;refine Za rfl<|ZX aH fun a b _ aI=>?_;refine Zs b fun _ aJ=>?_;refine Zm rfl<|Ze (X0d rfl Xl)<|Zm rfl<|Zt aJ fun a b=>?_;refine Q8<|X01 (σ:=Nat) (fun (k:Nat) (a:Act) (w:World)=>Fr a 19 [(0,.slice Al l.length cl),(1,vi x),(7,vi (l.length:Int)),(8,vi (k:Int))]∧(k≤l.length)∧((l.take k).all (fun y=>!(x==y))=true)∧Below e.heap.size e w) (fun (k:Nat)=>l.length+1-k) 0 ?_ ?_
 ·exact ⟨b.sb,(Qf _),(by simp),hW⟩
 rintro k a w1 ⟨b,hk,f,hW⟩;refine Zs b fun _ aK=>?_;refine Ze (X0l rfl rfl)<|ZX aK fun a b _ aL=>?_
 refine Xg b rfl (fun d=>?_) (fun d=>?_)
 ·have aC:=d;have d:=Q2 d
  obtain ⟨u8,a6⟩:=X5 (l:=l) (k:=k) (by omega)
  refine Q7<|aL _ _<|Q5 fun _ aM=>?_;refine Q8<|Zs b fun _ aD=>?_;refine Zm rfl<|Za rfl<|Zx aD fun a b _ aE=>?_;refine Zm rfl<|Zm rfl<|Zm rfl<|Zi (k:=k) (u:=u8) (enc:=encI) (l:=l) trivial rfl rfl Xl X08 Xf (aB.below' hW) a6 rfl ?_;intro aP a7;refine Ze (X0 rfl X9 a7)<|Ze (X0b rfl rfl)<|Zt aE fun a b=>?_
  refine Xg b rfl (fun c=>?_) (fun c=>?_)
  ·have a8:=c
   have aA:l.any (fun y=>x==y)=true:=X53 a6 c
   refine Zs b fun _ aF=>?_;refine Zm rfl<|Za rfl<|Zt aF fun a b=>?_;refine Q6<|Xq<|X6<|X6 ?_;refine Xq<|X6<|X4 b (Xt b rfl rfl) ?_;exact ⟨_,rfl,by rw [aA];simp,hW⟩
  have a8:=c
  have aN:(!(x==u8))=true:=by rw [c];rfl
  refine Q7<|Xa<|aM _ _<|Zr b ?_;refine Ze (Xw rfl rfl (by omega) (by omega))<|Zm rfl ?_;refine Zn fun a b=>?_;refine Xh ?_;exact ⟨k+1,⟨b.sb,(by omega),(X46 f a6 aN),hW⟩,(by omega)⟩
 have aC:=d;have d:=Q1 d;refine Q9<|Xk<|Xk<|X03 ?_;refine aI _ _<|Zs b fun _ aG=>?_;refine Za rfl<|Zt aG fun a b=>?_
 refine Q6 (X4 b (Xt b rfl rfl) ?_)
 have aA:l.any (fun y=>x==y)=false:=X4b (X47 f (by omega))
 exact ⟨_,rfl,by rw [aA];rfl,hW⟩
theorem Xi2(w0:World)(Al:Option Addr)(cl:Nat)(l:List Int)(a6:Rd w0 w0.heap.size 3 encI Al l)(x:Int)(a7:l.length≤2305843009213693951) : Ret Tryz.prog 95 [.slice Al l.length cl,vi x] w0 (fun v w=>v=.bool (l.any fun y=>x==y)∧Below w0.heap.size w0 w):=by
 refine enter Tryz.func95 rfl 9 rfl rfl ?_;intro a hf
 have hW:=bz w0
 refine Zs hf fun _ a8=>?_;refine Za rfl<|Zx a8 fun a hf _ aA=>?_;refine Zm rfl<|Zm rfl<|Zf (Vc (Xx6 _ Al cl l (a6.below' hW).top x a7) Xqx) ?_;rintro _ w1 ⟨ix,rfl,aB,hE⟩;have hW:=btr hW hE;refine Ze (X4g rfl rfl)<|Za rfl<|Zt aA fun a hf=>?_
 refine Q6 (X4 hf (Xt hf rfl rfl) ?_)
 exact ⟨by rw [← aB],hW⟩
theorem Xy8(e:World)(Al:Option Addr)(cl:Nat)(l:List Int)(aB:Rd e e.heap.size 3 encI Al l)(kq:FuncId)(pq:List Value)(Fq:FuncF Tryz.prog kq)(q:Int→Bool)(hq:∀ x w,Below e.heap.size e w→Ret Tryz.prog kq ([vi x]++pq) w (fun v w'=>v=.bool (q x)∧Below w.heap.size w w'))(aO:l.length≤2305843009213693951) : Ret Tryz.prog 253 [.slice Al l.length cl,.func (.func kq) #[] pq.toArray] e (fun v w=>∃ i:Int,v=vi i∧decide (0≤i)=l.any q∧Below e.heap.size e w):=by
 refine enter Tryz.func253 rfl 19 rfl rfl ?_;intro a b
 have f:=bz e
 refine Zs b fun _ aH=>?_;refine Za rfl<|ZX aH fun a b _ aI=>?_;refine Zs b fun _ aJ=>?_;refine Zm rfl<|Ze (X0d rfl Xl)<|Zm rfl<|Zt aJ fun a b=>?_;refine Q8<|X01 (σ:=Nat) (fun (k:Nat) (a:Act) (w:World)=>Fr a 19 [(0,.slice Al l.length cl),(1,.func (.func kq) #[] pq.toArray),(7,vi (l.length:Int)),(8,vi (k:Int))]∧(k≤l.length)∧((l.take k).all (fun x=>!q x)=true)∧Below e.heap.size e w) (fun (k:Nat)=>l.length+1-k) 0 ?_ ?_
 ·exact ⟨b.sb,(Qf _),(by simp),f⟩
 rintro k a w1 ⟨b,hk,g,f⟩;refine Zs b fun _ aK=>?_;refine Ze (X0l rfl rfl)<|ZX aK fun a b _ aL=>?_
 refine Xg b rfl (fun d=>?_) (fun d=>?_)
 ·have aC:=d;have d:=Q2 d
  obtain ⟨u8,a6⟩:=X5 (l:=l) (k:=k) (by omega)
  refine Q7<|aL _ _<|Q5 fun _ aM=>?_;refine Q8<|Zs b fun _ aD=>?_;refine Zm rfl<|Za rfl<|Zx aD fun a b _ aE=>?_;refine Zm rfl<|Zm rfl<|Zm rfl<|Zi (k:=k) (u:=u8) (enc:=encI) (l:=l) trivial rfl rfl Xl X08 Xf (aB.below' f) a6 rfl ?_;intro aP a7;refine Ze (X0 rfl X9 a7)<|Zf (X64 (cs:=pq) (vs:=[vi u8]) rfl rfl Fq (hq u8 _ f)) ?_;rintro _ w2 ⟨rfl,hE⟩;have f:=btr f hE;refine Zt aE fun a b=>?_
  refine Xg b rfl (fun c=>?_) (fun c=>?_)
  ·have a8:=c
   have aA:l.any q=true:=X53 a6 c
   refine Zs b fun _ aF=>?_;refine Zm rfl<|Za rfl<|Zt aF fun a b=>?_;refine Q6<|Xq<|X6<|X6 ?_;refine Xq<|X6<|X4 b (Xt b rfl rfl) ?_;exact ⟨_,rfl,by rw [aA];simp,f⟩
  have a8:=c
  have aN:(!q u8)=true:=by revert c;cases q u8<;>simp
  refine Q7<|Xa<|aM _ _<|Zr b ?_;refine Ze (Xw rfl rfl (by omega) (by omega))<|Zm rfl ?_;refine Zn fun a b=>?_;refine Xh ?_;exact ⟨k+1,⟨b.sb,(by omega),(X46 g a6 aN),f⟩,(by omega)⟩
 have aC:=d;have d:=Q1 d;refine Q9<|Xk<|Xk<|X03 ?_;refine aI _ _<|Zs b fun _ aG=>?_;refine Za rfl<|Zt aG fun a b=>?_
 refine Q6 (X4 b (Xt b rfl rfl) ?_)
 have aA:l.any q=false:=X4b (X47 g (by omega))
 exact ⟨_,rfl,by rw [aA];rfl,f⟩
theorem Xxv(b:World)(Al:Option Addr)(cl:Nat)(l:List Int)(a6:Rd b b.heap.size 3 encI Al l)(kq:FuncId)(pq:List Value)(Fq:FuncF Tryz.prog kq)(q:Int→Bool)(hq:∀ x w,Below b.heap.size b w→Ret Tryz.prog kq ([vi x]++pq) w (fun v w'=>v=.bool (q x)∧Below w.heap.size w w'))(a7:l.length≤2305843009213693951) : Ret Tryz.prog 226 [.slice Al l.length cl,.func (.func kq) #[] pq.toArray] b (fun v w=>v=.bool (l.any q)∧Below b.heap.size b w):=by
 refine enter Tryz.func226 rfl 9 rfl rfl ?_;intro a hf
 have hW:=bz b
 refine Zs hf fun _ a8=>?_;refine Za rfl<|Zx a8 fun a hf _ aA=>?_;refine Zm rfl<|Zm rfl<|Zf (Vc (Xy8 _ Al cl l (a6.below' hW).top kq pq Fq q (fun x w' hE'=>hq x w' (hW.trans (hE'.mono hW.size))) a7) Xhg) ?_;rintro _ w1 ⟨ix,rfl,aB,hE⟩;have hW:=btr hW hE;refine Ze (X4g rfl rfl)<|Za rfl<|Zt aA fun a hf=>?_
 refine Q6 (X4 hf (Xt hf rfl rfl) ?_)
 exact ⟨by rw [← aB],hW⟩
def kV(x y:Gt) : Value:=.agg #[.int .i64 x.k,.int .i64 x.a,.int .i64 x.b,.int .i64 y.k,.int .i64 y.a,.int .i64 y.b]
structure Me where (x y:Gt) (v:Bool) (born:Nat)
def entM(m:Me) : MapEntry:={ key:=kV m.x m.y,val:=.bool m.v,born:=m.born }
def findM(l:List Me)(x y:Gt) : Option Bool:=(l.find? fun m=>decide (x=m.x)&&decide (y=m.y)).map Me.v
def GoodM(l:List Me) : Prop:=∀ m ∈ l,m.v = !commI m.x m.y
def MemoL(w:World)(b:Nat)(l:List Me)(clock:Nat) : Prop:=w.heap[b]? = some (.map (l.map entM).toArray clock)
def MemoG(w:World)(b:Nat) : Prop:=∃ l clock,MemoL w b l clock∧GoodM l
def MemoN(x y:Gt)(w:World)(b:Nat) : Prop:=∃ l clock,MemoL w b l clock∧GoodM l∧findM l x y=none
theorem MemoL.lt{w:World}{b clock:Nat}{l:List Me}(h:MemoL w b l clock) : b<w.heap.size:=by
 rcases W4 b w.heap.size with h'|h'
 ·exact h'
 ·simp [MemoL,We h'] at h
theorem MemoL.below{w w':World}{b clock:Nat}{l:List Me}(h:MemoL w b l clock)(hb:Below w.heap.size w w') : MemoL w' b l clock:=(hb.block b h.lt).trans h
theorem MemoL.only{w w':World}{b b' clock:Nat}{l:List Me}(h:MemoL w b l clock)(ho:Only b' w w')(hne:b≠b') : MemoL w' b l clock:=(ho.block b hne).trans h
theorem MemoL.ne{w:World}{b b' clock:Nat}{l:List Me}{T:TypeId}{cs:List Value}(h:MemoL w b l clock)(hb:Blk w b' T cs) : b≠b':=by
 rintro rfl
 unfold MemoL at h
 unfold Blk at hb
 rw [h] at hb
 cases hb
section
variable {w w' : World} {b b' : Nat} {x y : Gt}
theorem MemoG.lt(h:MemoG w b) : b<w.heap.size:=let ⟨_,_,h,_⟩:=h;h.lt
theorem MemoG.below(h:MemoG w b)(hb:Below w.heap.size w w') : MemoG w' b:=let ⟨l,c,h,g⟩:=h;⟨l,c,h.below hb,g⟩
theorem MemoG.only(h:MemoG w b)(ho:Only b' w w')(hne:b≠b') : MemoG w' b:=let ⟨l,c,h,g⟩:=h;⟨l,c,h.only ho hne,g⟩
theorem MemoG.ne{T:TypeId}{cs:List Value}(h:MemoG w b)(hb:Blk w b' T cs) : b≠b':=let ⟨_,_,h,_⟩:=h;h.ne hb
theorem MemoG.good(h:MemoG w b) : MemoG w b:=h
theorem MemoN.good(h:MemoN x y w b) : MemoG w b:=let ⟨l,c,h,g,_⟩:=h;⟨l,c,h,g⟩
theorem MemoN.lt(h:MemoN x y w b) : b<w.heap.size:=let ⟨_,_,h,_⟩:=h;h.lt
theorem MemoN.below(h:MemoN x y w b)(hb:Below w.heap.size w w') : MemoN x y w' b:=let ⟨l,c,h,g⟩:=h;⟨l,c,h.below hb,g⟩
theorem MemoN.only(h:MemoN x y w b)(ho:Only b' w w')(hne:b≠b') : MemoN x y w' b:=let ⟨l,c,h,g⟩:=h;⟨l,c,h.only ho hne,g⟩
theorem MemoN.ne{T:TypeId}{cs:List Value}(h:MemoN x y w b)(hb:Blk w b' T cs) : b≠b':=let ⟨_,_,h,_⟩:=h;h.ne hb
theorem Blk.onlyM{T:TypeId}{cs:List Value}(h:Blk w b' T cs)(ho:Only b w w')(hm:MemoG w b) : Blk w' b' T cs:=h.only ho (Ne.symm (hm.ne h))
theorem Rd.onlyM{α:Type}{B:Nat}{E:TypeId}{enc:α→List Value}{A:Option Addr}{l:List α}(h:Rd w B E enc A l)(ho:Only b w w')(hm:MemoG w b) : Rd w' B E enc A l:=h.chg fun k cs fz _ hk=>ho.block k fun e=>by
 obtain ⟨_,_,hL,_⟩:=hm
 unfold MemoL at hL
 rw [e,hL] at hk
 cases hk
end
theorem Xgg{l:List Me}{x y:Gt}{v:Bool}(h:GoodM l)(hf:findM l x y=some v) : v = !commI x y:=by
 unfold findM at hf
 rw [Option.map_eq_some_iff] at hf
 obtain ⟨m,h1,h2⟩:=hf;have h3:=List.find?_some h1
 simp only [Qd,Qr] at h3
 rw [← h2,h m (List.mem_of_find?_eq_some h1),h3.1,h3.2]
def LookM(w:World)(b:Nat)(x y:Gt)(v k:Bool) : Prop:=∃ l clock,MemoL w b l clock∧((k=true∧findM l x y=some v)∨(k=false∧v=false∧findM l x y=none))
theorem MemoG.look{w:World}{b:Nat}(h:MemoG w b)(x y:Gt) : ∃ v k,LookM w b x y v k∧(k=true→v = !commI x y)∧(k=false→MemoN x y w b):=by
 obtain ⟨l,clock,hL,hg⟩:=h
 cases hf:findM l x y with
 | none=>exact ⟨false,false,⟨l,clock,hL,.inr ⟨rfl,rfl,hf⟩⟩,(fun h=>by cases h),fun _=>⟨l,clock,hL,hg,hf⟩⟩
 | some v=>exact ⟨v,true,⟨l,clock,hL,.inl ⟨rfl,hf⟩⟩,fun _=>Xgg hg hf,(fun h=>by cases h)⟩
section
variable {a : Act} {w : World} {n : Nat} {e : Env} {ty : TypeId} {pos : String} {af : Array Edge} {g : Option (Nat × Bool)} {d : Option Tmp} {x y : Gt} {b : Nat}
end
section
variable {P : Program} {a : Act} {w : World} {n : Nat} {e : Env} {ty : TypeId} {pos : String} {af : Array Edge} {g : Option (Nat × Bool)} {d : Option Tmp}
end
section
variable {P : Program} {a : Act} {w : World} {n : Nat} {e : Env} {α : Type} {ops : Array Oper} {ty : TypeId} {pos : String} {af : Array Edge} {g : Option (Nat × Bool)} {d : Nat}
end
theorem Xg6{gs:List Gt}{i:Nat}(h:i<gs.length) : gs[i]? = some (gs.getD i gZ):=by
 rw [Qa,Qc h];rfl
section
variable {gs : List Gt} {s : List Int} {i : Nat} {g : Gt}
end
def RB(k:Int)(x:Rg) : Prop:=(-k≤x.a∧x.a≤k)∧(-k≤x.b∧x.b≤k)∧(-k≤x.c∧x.c≤k)∧(-k≤x.d∧x.d≤k)
def SM(e:Int)(k:Int)(x:Dy) : Prop:=dOk x=true∧RB k x.num∧x.exp≤e
theorem RB.ok{k:Int}{x:Rg}(h:RB k x)(hk:k≤1000000000) : rOk x=true:=by
 unfold RB at h
 exact Xlc.2 (by omega)
theorem RB.root{k:Int}{x:Rg}(h:RB k x)(hk:k≤1000000000) : RB (2*k) (rRoot x):=by
 unfold RB at *
 simp only [rRoot]
 rw [X2v (by omega) (by omega),X2v (by omega) (by omega),X2v (by omega) (by omega),X2v (by omega) (by omega)]
 omega
theorem RB.half{k:Int}{x:Rg}(h:RB k x)(h0:0≤k)(hk:k≤1000000000) : RB k (rHalf x):=by
 have h1:=h.root hk
 unfold RB at *
 simp only [rHalf]
 have hd:∀ i:Int,-(2*k)≤i→i≤2*k→-k≤wr (i.tdiv 2)∧wr (i.tdiv 2)≤k:=fun i a b=>by
  have:-k≤i.tdiv 2∧i.tdiv 2≤k:=by
   rcases Int.le_total 0 i with h|h
   ·rw [Int.tdiv_eq_ediv_of_nonneg h];omega
   ·have e:i.tdiv 2 = -((-i).tdiv 2):=by rw [Int.neg_tdiv,Int.neg_neg]
    rw [e,Int.tdiv_eq_ediv_of_nonneg (by omega)];omega
  rw [X2v (by omega) (by omega)]
  exact this
 exact ⟨hd _ h1.1.1 h1.1.2,hd _ h1.2.1.1 h1.2.1.2,hd _ h1.2.2.1.1 h1.2.2.1.2,hd _ h1.2.2.2.1 h1.2.2.2.2⟩
theorem RB.low{k:Int}(h0:0≤k)(hk:k≤1000000000) : ∀ (n:Nat) {x:Rg},RB k x→RB k (lowN n x).1
 | 0,_,h=>h
 | n+1,x,h=>by
  rw [lowN]
  split
  ·exact RB.low h0 hk n (h.half h0 hk)
  ·exact h
theorem one_mul{a b:Int}(ha:-1≤a∧a≤1)(hb:-1≤b∧b≤1) : -1≤a*b∧a*b≤1:=by
 have:a = -1∨a=0∨a=1:=by omega
 rcases this with rfl|rfl|rfl<;>omega
theorem w4:∀ p q r s:Int,(-1≤p∧p≤1)→(-1≤q∧q≤1)→(-1≤r∧r≤1)→(-1≤s∧s≤1)→(-4≤wr (wr (wr (wr p-wr q)-wr r)-wr s)∧wr (wr (wr (wr p-wr q)-wr r)-wr s)≤4)∧(-4≤wr (wr (wr (wr p+wr q)-wr r)-wr s)∧wr (wr (wr (wr p+wr q)-wr r)-wr s)≤4)∧(-4≤wr (wr (wr (wr p+wr q)+wr r)-wr s)∧wr (wr (wr (wr p+wr q)+wr r)-wr s)≤4)∧(-4≤wr (wr (wr (wr p+wr q)+wr r)+wr s)∧wr (wr (wr (wr p+wr q)+wr r)+wr s)≤4):=fun p q r s hp hq hr hs=>by
 have a1:wr p=p:=X2v (by omega) (by omega)
 have a2:wr q=q:=X2v (by omega) (by omega)
 have a3:wr r=r:=X2v (by omega) (by omega)
 have a4:wr s=s:=X2v (by omega) (by omega)
 have b1:wr (p-q)=p-q:=X2v (by omega) (by omega)
 have b2:wr (p+q)=p+q:=X2v (by omega) (by omega)
 have c1:wr (p-q-r)=p-q-r:=X2v (by omega) (by omega)
 have c2:wr (p+q-r)=p+q-r:=X2v (by omega) (by omega)
 have c3:wr (p+q+r)=p+q+r:=X2v (by omega) (by omega)
 have d1:wr (p-q-r-s)=p-q-r-s:=X2v (by omega) (by omega)
 have d2:wr (p+q-r-s)=p+q-r-s:=X2v (by omega) (by omega)
 have d3:wr (p+q+r-s)=p+q+r-s:=X2v (by omega) (by omega)
 have d4:wr (p+q+r+s)=p+q+r+s:=X2v (by omega) (by omega)
 rw [a1,a2,a3,a4,b1,b2,c1,c2,c3,d1,d2,d3,d4]
 refine ⟨⟨?_,?_⟩,⟨?_,?_⟩,⟨?_,?_⟩,?_,?_⟩<;>omega
def dotK:Nat→Int
 | 0=>0
 | n+1=>4*dotK n+16
def smB(z:Dy) : Bool:=dOk z&&inR z.num.a (-1) 1&&inR z.num.b (-1) 1&&inR z.num.c (-1) 1&&inR z.num.d (-1) 1&&decide (z.exp≤1)
def fitA(gs:List Gt)(i:Nat)(k:Int)(out:List Int)(j:Nat) : Bool:=decide (j<i)&&!commI (gs.getD j gZ) (gs.getD i gZ)&&(out.getD j 0==0||decide (k≤out.getD j 0))
def fitB(gs:List Gt)(i:Nat)(k:Int)(out:List Int)(j:Nat) : Bool:=decide (j≠i)&&out.getD j 0==k&&comI (gs.getD j gZ) (gs.getD i gZ)
def fitC(gs:List Gt)(i:Nat)(k:Int)(out:List Int)(j:Nat) : Bool:=fitA gs i k out j||fitB gs i k out j
def fitsI(gs:List Gt)(i:Nat)(k:Int)(out:List Int) : Bool:=!(List.range gs.length).any (fitC gs i k out)
def mayI(gs:List Gt)(k:Int)(out:List Int)(i:Nat) : Bool:=(gs.getD i gZ).k != 12&&out.getD i 0==0&&fitsI gs i k out
def stepI(gs:List Gt)(k:Int)(out:List Int)(i:Nat) : List Int:=if mayI gs k out i=true then out.set i k else out
def sweepN(gs:List Gt)(k:Int)(out:List Int)(i:Nat) : List Int:=(List.range i).foldl (stepI gs k) out
def cntZ:List Gt→List Int→Nat
 | g::gs,x::xs=>(if g.k≠12∧x=0 then 1 else 0)+cntZ gs xs
 | _,_=>0
def runI(gs:List Gt) : Nat→Int→List Int→List Int
 | 0,_,out=>out
 | f+1,k,out=>if cntZ gs out=0 then out else runI gs f (k+1) (sweepN gs k out gs.length)
def schedOf(c:Cx) : List Int:=if cOk c=true then runI c.gs c.gs.length 1 (List.replicate c.gs.length 0) else []
theorem getD_some{α:Type}{l:List α}{i:Nat}{d x:α}(h:l[i]? = some x) : l.getD i d=x:=by rw [Qa,h];rfl
theorem Xg4{α:Type}{l:List α}{i:Nat}(d:α)(h:i<l.length) : l[i]? = some (l.getD i d):=by
 rw [Qa,Qc h];rfl
structure Sch (gs:List Gt) (k:Int) (out:List Int) : Prop where
 len:out.length=gs.length
 low:∀ j,j<gs.length→0≤out.getD j 0∧out.getD j 0<k
 w:∀ j,j<gs.length→(gs.getD j gZ).k=12→out.getD j 0=0
theorem Xc4{out:List Int}{i j:Nat}{k:Int}(hi:i<out.length) : (out.set i k).getD j 0=if j=i then k else out.getD j 0:=by
 rw [Qa,Qa,List.getElem?_set]
 by_cases h:i=j
 ·subst h;rw [Q4 rfl,Q4 hi,Q4 rfl];rfl
 ·rw [Q3 h,Q3 (Ne.symm h)]
structure SchM (gs:List Gt) (k:Int) (out:List Int) : Prop where
 len:out.length=gs.length
 low:∀ j,j<gs.length→0≤out.getD j 0∧out.getD j 0≤k
 w:∀ j,j<gs.length→(gs.getD j gZ).k=12→out.getD j 0=0
theorem Sch.mid{gs:List Gt}{k:Int}{out:List Int}(h:Sch gs k out) : SchM gs k out:=⟨h.len,fun j hj=>⟨(h.low j hj).1,by have:=(h.low j hj).2;omega⟩,h.w⟩
theorem SchM.step{gs:List Gt}{k:Int}{out:List Int}{i:Nat}(h:SchM gs k out)(hk:1≤k)(hi:i<gs.length) : SchM gs k (stepI gs k out i):=by
 unfold stepI
 split
 ·rename_i hm
  have hio:i<out.length:=by rw [h.len];exact hi
  unfold mayI at hm
  simp only [Qd] at hm
  refine ⟨by rw [List.length_set];exact h.len,fun j hj=>?_,fun j hj hw=>?_⟩
  ·rw [Xc4 hio];split
   ·omega
   ·exact h.low j hj
  ·rw [Xc4 hio];split
   ·rename_i e;subst e;rw [hw] at hm;simp at hm
   ·exact h.w j hj hw
 ·exact h
theorem SchM.next{gs:List Gt}{k:Int}{out:List Int}(h:SchM gs k out) : Sch gs (k+1) out:=⟨h.len,fun j hj=>⟨(h.low j hj).1,by have:=(h.low j hj).2;omega⟩,h.w⟩
def cvt(g:Gt)(x:Int) : Int:=if g.k=12 then 0 else if x=0 then -1 else x
def conv:List Gt→List Int→List Int
 | g::gs,x::xs=>cvt g x::conv gs xs
 | _,_=>[]
def folS(gs:List Gt)(i:Nat)(j:Nat) : List Int:=((List.range j).filter fun q=>!commS (gs.getD i gZ) (gs.getD q gZ)).map fun (q:Nat)=>(q:Int)
def followsS(gs:List Gt)(i:Nat) : List (List Int):=(List.range i).map fun q=>folS gs q q
def freeA(lay:List Int)(k:Int)(j:Int) : Bool:=decide (lay.getD j.toNat 0<0)||decide (k≤lay.getD j.toNat 0)
def freeB(gs:List Gt)(lay:List Int)(k:Int)(i j:Nat) : Bool:=decide (j≠i)&&lay.getD j 0==k&&comS (gs.getD i gZ) (gs.getD j gZ)
def freeS(gs:List Gt)(lay:List Int)(k:Int)(i:Nat)(fol:List Int) : Bool:=!fol.any (freeA lay k)&&!(List.range gs.length).any (freeB gs lay k i)
def sN:Sl:=⟨none,0,[]⟩
def ini(gs:List Gt) : List Int:=gs.map fun g=>if g.k=12 then 0 else -1
def cntW(gs:List Gt) : Nat:=(gs.filter fun g=>g.k != 12).length
structure Ed where (a b:Int) deriving DecidableEq
def encE(x:Ed) : List Value:=[.int .i64 x.a,.int .i64 x.b]
abbrev eV(x:Ed) : Value:=.agg #[.int .i64 x.a,.int .i64 x.b]
def encB(b:Bool) : List Value:=[.bool b]
theorem X0z:∀ x,(encB x).length=1:=fun _=>rfl
structure Gp where (n:Int) (es:List Ed)
structure Ro where (st:List Int) (steps:List Gt)
def eZ:Ed:=⟨0,0⟩
def ordE(es:List Ed)(i:Nat)(e:Ed) : Bool:=decide (0<i)&&(decide (e.a<(es.getD (i-1) eZ).a)||(es.getD (i-1) eZ).a==e.a&&decide (e.b≤(es.getD (i-1) eZ).b))
def badS(n:Int)(es:List Ed)(i:Nat) : Bool:=!inR (es.getD i eZ).a 0 (wr ((es.getD i eZ).b-1))||!inR (es.getD i eZ).b 0 (wr (n-1))||ordE es i (es.getD i eZ)
def badI(n:Int)(es:List Ed)(i:Nat) : Bool:=(decide ((es.getD i eZ).a<0)||decide ((es.getD i eZ).b≤(es.getD i eZ).a)||decide (n≤(es.getD i eZ).b))||ordE es i (es.getD i eZ)
def gpS(g:Gp) : Bool:=!(List.range g.es.length).any (badS g.n g.es)&&inR g.n 1 8
def gpI(g:Gp) : Bool:=inR g.n 1 8&&!(List.range g.es.length).any (badI g.n g.es)
def i64(x:Int) : Prop:=-9223372036854775808≤x∧x≤9223372036854775807
def edgS(g:Gp)(a b:Int) : Bool:=g.es.any fun e=>e.a==a&&e.b==b||e.a==b&&e.b==a
def edgI(g:Gp)(a b:Int) : Bool:=g.es.any fun e=>decide ((⟨min a b,max a b⟩ : Ed)=e)
def badP(n:Int)(p:List Int)(i:Nat) : Bool:=!inR (p.getD i 0) 0 (wr (n-1))||(p.take i).any fun y=>y==p.getD i 0
def badQ(n:Int)(p:List Int)(i:Nat) : Bool:=!inR (p.getD i 0) 0 (wr (n-1))||(p.take i).any fun y=>p.getD i 0==y
def plS(n m:Int)(p:List Int) : Bool:=!(List.range p.length).any (badP n p)&&(p.length:Int)==m
def plI(n m:Int)(p:List Int) : Bool:=!(List.range p.length).any (badQ n p)&&(p.length:Int)==m
def swapP(p:List Int)(a b:Int) : List Int:=p.map fun k=>if k=a then b else if k=b then a else k
theorem X76(p:List Int)(a b:Int) : (swapP p a b).length=p.length:=by simp [swapP]
def redA(gs:List Gt)(done:List Bool)(k i:Nat) : Bool:=!done.getD i false&&comS (gs.getD i gZ) (gs.getD k gZ)
def redB(gs:List Gt)(done:List Bool)(k i:Nat) : Bool:=!done.getD i false&&comI (gs.getD i gZ) (gs.getD k gZ)
def redS(gs:List Gt)(done:List Bool)(k:Int) : Bool:=inR k 0 ((gs.length:Int)-1)&&!done.getD k.toNat false&&!(List.range k.toNat).any (redA gs done k.toNat)
def redI(gs:List Gt)(done:List Bool)(k:Int) : Bool:=inR k 0 ((gs.length:Int)-1)&&!done.getD k.toNat false&&!(List.range k.toNat).any (redB gs done k.toNat)
def nearS(g:Gp)(p:List Int)(x:Gt) : Bool:=!inR x.k 9 11||edgS g (p.getD x.a.toNat 0) (p.getD x.b.toNat 0)
def nearI(g:Gp)(p:List Int)(x:Gt) : Bool:=!inR x.k 9 11||edgI g (p.getD x.a.toNat 0) (p.getD x.b.toNat 0)
section
variable (E : Int → Int → Bool) (N : List Int → Gt → Bool) (R : List Bool → Int → Bool) (gs : List Gt)
def stp(s:Gt)(p:List Int)(d:List Bool) : Int×List Int×List Bool:=
 if s.k = -1 then (if E s.a s.b=true then (0,swapP p s.a s.b,d) else (2,p,d))
 else if (s.a != 0||s.b != 0||!R d s.k)=true then (3,p,d)
 else if N p (gs.getD s.k.toNat gZ)=true then (0,p,d.set s.k.toNat true) else (4,p,d)
def playL:Nat→List Gt→List Int→List Bool→Int×Int×List Int×List Bool
 | i,[],p,d=>if d.any (fun x=>!x)=true then (5,(i:Int),p,d) else (0,0,p,d)
 | i,s::l,p,d=>if (stp E N R gs s p d).1=0 then playL (i+1) l (stp E N R gs s p d).2.1 (stp E N R gs s p d).2.2 else ((stp E N R gs s p d).1,(i:Int),p,d)
def moved(s:Gt)(p:List Int) : Gt:=if s.k = -1 then ⟨11,s.a,s.b⟩ else mapG p (gs.getD s.k.toNat gZ)
def nextP(s:Gt)(p:List Int) : List Int:=if s.k = -1 then swapP p s.a s.b else p
def buildL:List Gt→List Int→List Gt
 | [],_=>[]
 | s::l,p=>moved gs s p::buildL l (nextP s p)
end
def stpS(g:Gp)(gs:List Gt):=stp (edgS g) (nearS g) (redS gs) gs
def stpI(g:Gp)(gs:List Gt):=stp (edgI g) (nearI g) (redI gs) gs
def playS(g:Gp)(gs:List Gt):=playL (edgS g) (nearS g) (redS gs) gs
def playI(g:Gp)(gs:List Gt):=playL (edgI g) (nearI g) (redI gs) gs
def runG(g:Gp)(c:Cx)(r:Ro) : Int×Int:=if plS g.n c.n r.st=true then ((playS g c.gs 0 r.steps r.st (List.replicate c.gs.length false)).1,(playS g c.gs 0 r.steps r.st (List.replicate c.gs.length false)).2.1) else (1,0)
def runR(g:Gp)(c:Cx)(r:Ro) : Int×Int:=if plI g.n c.n r.st=true then ((playI g c.gs 0 r.steps r.st (List.replicate c.gs.length false)).1,(playI g c.gs 0 r.steps r.st (List.replicate c.gs.length false)).2.1) else (1,0)
def fitsS(g:Gp)(c:Cx) : Bool:=gpS g&&cOk c&&decide (c.n≤g.n)
def fitsR(g:Gp)(c:Cx) : Bool:=gpI g&&cOk c&&decide (c.n≤g.n)
def chkRS(g:Gp)(c:Cx)(r:Ro) : Int×Int×Bool:=if fitsS g c=true then ((runG g c r).1,(runG g c r).2,true) else (0,0,false)
def chkRI(g:Gp)(c:Cx)(r:Ro) : Int×Int×Bool:=if fitsR g c=true then ((runR g c r).1,(runR g c r).2,true) else (0,0,false)
def rcS(g:Gp)(c:Cx)(r:Ro) : Option Cx:=if fitsS g c=true∧g.n≤5∧r.steps.length≤400 then (if (runG g c r).1=0 then some ⟨g.n,buildL c.gs r.steps r.st⟩ else none) else none
def rcI(g:Gp)(c:Cx)(r:Ro) : Option Cx:=if (chkRI g c r).2.2=true∧(chkRI g c r).1=0∧g.n≤5 then cIf ⟨g.n,buildL c.gs r.steps r.st⟩ else none
structure PlOk (n m:Int) (p:List Int) : Prop where
 len:(p.length:Int)=m
 low:∀ i,i<p.length→0≤p.getD i 0∧p.getD i 0<n
 ne:∀ i j,i<p.length→j<p.length→i≠j→p.getD i 0≠p.getD j 0
theorem X6y(p:List Int)(a b:Int)(i:Nat)(hi:i<p.length) : (swapP p a b).getD i 0=if p.getD i 0=a then b else if p.getD i 0=b then a else p.getD i 0:=by
 refine getD_some ?_
 unfold swapP
 rw [List.getElem?_map,Xg4 0 hi];rfl
theorem PlOk.swap{n m a b:Int}{p:List Int}(h:PlOk n m p)(ha:0≤a∧a<n)(hb:0≤b∧b<n)(hab:a≠b) : PlOk n m (swapP p a b):=by
 refine ⟨by rw [X76];exact h.len,fun i hi=>?_,fun i j hi hj hne=>?_⟩
 ·rw [X76] at hi
  rw [X6y p a b i hi]
  have:=h.low i hi
  split
  ·exact hb
  ·split
   ·exact ha
   ·exact this
 ·rw [X76] at hi hj
  rw [X6y p a b i hi,X6y p a b j hj]
  have h1:=h.ne i j hi hj hne
  generalize p.getD i 0=x at *
  generalize p.getD j 0=y at *
  by_cases e1:x=a<;>by_cases e2:y=a<;>by_cases e3:x=b<;>by_cases e4:y=b<;>simp [e1,e2,e3,e4]<;>omega
theorem z_4:ZeroT Tryz.prog 4 (.bool false):=X2q (by kernel_rfl)
def szn(n:Nat)(t:Int) : Int:=if t-(n:Int)<0 then -1 else t-(n:Int)
def szO(r:Ro)(t:Int) : Int:=if szn r.st.length t<0 then -1 else szn r.steps.length (szn r.st.length t)
def szK(c:Cx)(l:List Sr)(d:Cx)(r:Ro)(o:Cx)(t:Int) : Int:=if szZ c l d t<0 then -1 else if szO r (szZ c l d t)<0 then -1 else szG o.gs (szO r (szZ c l d t))
def swf(a b k:Int) : Int:=if k=a then b else if k=b then a else k
def mixP(p:List Int)(a b:Int)(k:Nat) : List Int:=(p.take k).map (swf a b)++p.drop k
section
variable {P : Program} {a : Act} {w : World} {n : Nat} {e : Env} {ty : TypeId} {pos : String} {af : Array Edge} {g : Option (Nat × Bool)} {d : Option Tmp}
theorem Xqh{x y:Operand}{i j:Int}{ts:Array TypeId}(hf:Fr a n e)(hx:ev e x=some (.int .i64 i))(hy:ev e y=some (.int .i64 j)) : Ev P ⟨d,.call ⟨.builtin .min,#[x,y],ts⟩,ty,pos,af,g⟩ a w (.int .i64 (min i j)):=fun w' _=>by
 simp [execOp,resolve,invoke,builtin,Builtin.min_,Builtin.min2,hf.ev hx,hf.ev hy,Int.min_def]
 split<;>simp<;>omega
theorem Xnn{x y:Operand}{i j:Int}{ts:Array TypeId}(hx:ev e x=some (.int .i64 i))(hy:ev e y=some (.int .i64 j)) : EvW P ⟨d,.call ⟨.builtin .min,#[x,y],ts⟩,ty,pos,af,g⟩ n e w (.int .i64 (min i j)):=fun a hf=>Xqh hf hx hy
end
theorem Xwv(w0:World)(A:Option Addr)(c:Nat)(l:List Int)(hr:Rd w0 w0.heap.size 3 encI A l)(hln:l.length≤1000000000) :
  Ret Tryz.prog 229 [.slice A l.length c] w0 (fun v w=>∃ A' c',v=.slice A' l.length c'∧Own w w0.heap.size 3 1 encI A' c' l∧Below w0.heap.size w0 w):=by
 by_cases h0:l=[]
 ·subst h0
  cases A with
  | none=>
   refine Calls.mono (Tryz.slices_Clone_int_nil 0 c w0) fun e w ⟨e1,e2⟩=>⟨_,e1,none,0,rfl,?_⟩
   subst e2
   exact ⟨Own.nil _ _ _ _ _,Below.refl _ _⟩
  | some p=>
   refine Calls.mono (Tryz.slices_Clone_int_zero p c w0) fun e w ⟨v,e1,e2,e3,e4⟩=>⟨_,e1,?_⟩
   rcases e2.2 with ⟨h1,_⟩|⟨g,cap,cur,h1,h2⟩
   ·exact absurd h1 e3
   ·exact ⟨_,_,h1,by rw [h1] at e2;exact e2,e4⟩
 ·obtain ⟨b,off,cs,fz,h1,h2,h3,h4⟩:=hr h0
  subst h1
  refine Calls.mono (Tryz.slices_Clone_int b off l.length c l w0 (Qb _) (by omega) fun j hj=>?_) fun e w ⟨v,e1,e2,e3,e4⟩=>⟨_,e1,?_⟩
  ·have h5:=h4 j (.int .i64 (l.getD j 0)) (by rw [X5g,List.getElem?_map,Xg4 0 hj];rfl)
   simpa [World.cell?,h3] using h5
  ·rw [List.take_length,← X5g] at e2
   rcases e2.2 with ⟨h1,_⟩|⟨g,cap,cur,h1,h2⟩
   ·exact absurd h1 e3
   ·exact ⟨_,_,h1,by rw [h1] at e2;exact e2,e4⟩
end Go.Proofs.YtpifljegadknkaaGreat
namespace Go.Proofs.YtpifljegadknkaaGreat
def ltK(key:Int→Int)(i k:Int) : Prop:=key i<key k∨(key i=key k∧i<k)
theorem ltK.trans{key:Int→Int}{i j k:Int}(h:ltK key i j)(h2:ltK key j k) : ltK key i k:=by unfold ltK at *;omega
def Srt(key:Int→Int)(l:List Int) : Prop:=l.Pairwise (ltK key)
theorem Xe1{key:Int→Int}{l1 l2:List Int} : Srt key (l1++l2)↔Srt key l1∧Srt key l2∧∀ x ∈ l1,∀ y ∈ l2,ltK key x y:=List.pairwise_append
theorem X80{l1 l2:List Int}{k:Nat}(h:k<l1.length) : (l1++l2).getD k 0=l1.getD k 0:=by
 simp only [Qa];rw [List.getElem?_append_left h]
theorem X69{l1 l2:List Int}{k:Nat}(h:l1.length≤k) : (l1++l2).getD k 0=l2.getD (k-l1.length) 0:=by
 simp only [Qa];rw [W5 h]
theorem Xhn{l:List Int}{k:Nat}(h:k<l.length) : l.getD k 0 ∈ l:=by
 rw [Qa,Qc h];exact List.getElem_mem h
theorem Xfs{key:Int→Int}{l:List Int}(h:Srt key l){i j:Nat}(hij:i<j)(hj:j<l.length) : ltK key (l.getD i 0) (l.getD j 0):=by
 rw [Qa,Qa,Qc hj,Qc (Nat.lt_trans hij hj)]
 exact (W0.1 h) i j (Nat.lt_trans hij hj) hj hij
def Cut(pr:Nat→Prop)(lo hi st r:Nat) : Prop:=lo≤st∧st≤r∧r≤hi∧(∀ c,lo≤c→c<st→pr c)∧(∀ c,r≤c→c<hi→¬ pr c)
def Down(pr:Nat→Prop)(lo hi:Nat) : Prop:=∀ c c',lo≤c→c<c'→c'<hi→pr c'→pr c
theorem Xda{l:List Int}{k:Nat}(h:k<l.length) : l.take (k+1)=l.take k++[l.getD k 0]:=by
 rw [Wf h,Qa,Qc h];rfl
theorem Xd8{l:List Int}{k:Nat}(h:k<l.length) : l.drop k=l.getD k 0::l.drop (k+1):=by
 rw [Qy h,Qa,Qc h];rfl
theorem X9i{key:Int→Int}{S:List Int}{x:Int}(hS:Srt key S){j:Nat}(hj:j+1≤S.length)(h:ltK key (S.getD j 0) x) : ∀ y ∈ S.take (j+1),ltK key y x:=by
 intro y hy
 rw [Xda (by omega)] at hy
 rcases Qu.1 hy with hy|hy
 ·obtain ⟨i,hi,rfl⟩:=List.getElem_of_mem hy
  have hi':i<j:=by rw [Qn] at hi;omega
  have:=Xfs hS hi' (by omega)
  rw [List.getElem_take]
  rw [Qa,Qc (by omega:i<S.length)] at this
  exact this.trans h
 ·rw [Qm.1 hy];exact h
theorem X9s{key:Int→Int}{S:List Int}{x:Int}(hS:Srt key S){j:Nat}(hj:j<S.length)(h:ltK key x (S.getD j 0)) : ∀ y ∈ S.drop j,ltK key x y:=by
 intro y hy
 rw [Xd8 hj] at hy
 rcases Qv.1 hy with rfl|hy
 ·exact h
 ·obtain ⟨i,hi,rfl⟩:=List.getElem_of_mem hy
  have hl:i<(S.drop (j+1)).length:=hi
  rw [List.length_drop] at hl
  have:=Xfs hS (show j<j+1+i by omega) (by omega)
  rw [List.getElem_drop]
  rw [Qa (i:=j+1+i),Qc (by omega:j+1+i<S.length)] at this
  exact h.trans this
theorem cross{key:Int→Int}{L R:List Int}(hL:Srt key L)(hR:Srt key R){u v:Nat}(hu:u≤L.length)(hv:v≤R.length)
  (h1:0<u→v<R.length→ltK key (L.getD (u-1) 0) (R.getD v 0)) (h2:0<v→u<L.length→ltK key (R.getD (v-1) 0) (L.getD u 0)) :
  ∀ x ∈ L.take u++R.take v,∀ y ∈ L.drop u++R.drop v,ltK key x y:=by
 intro x hx y hy
 rw [← W9 u L] at hL
 rw [← W9 v R] at hR
 obtain ⟨_,_,hLc⟩:=Xe1.1 hL;obtain ⟨_,_,hRc⟩:=Xe1.1 hR
 rw [W9] at hL hR
 rcases Qu.1 hx with hx|hx<;>rcases Qu.1 hy with hy|hy
 ·exact hLc x hx y hy
 ·have hu0:0<u:=by
   rcases Nat.eq_zero_or_pos u with e|e;· rw [e] at hx;simp at hx
   exact e
  have hv0:v<R.length:=by
   rcases W4 v R.length with e|e;· exact e
   rw [List.drop_eq_nil_of_le e] at hy;simp at hy
  have h:=h1 hu0 hv0
  have hxs:=X9i hL (j:=u-1) (by omega) h x (by rw [show u-1+1=u from by omega];exact hx)
  exact (X9s hR hv0 hxs) y hy
 ·have hv0:0<v:=by
   rcases Nat.eq_zero_or_pos v with e|e;· rw [e] at hx;simp at hx
   exact e
  have hu0:u<L.length:=by
   rcases W4 u L.length with e|e;· exact e
   rw [List.drop_eq_nil_of_le e] at hy;simp at hy
  have h:=h2 hv0 hu0
  have hxs:=X9i hR (j:=v-1) (by omega) h x (by rw [show v-1+1=v from by omega];exact hx)
  exact (X9s hL hu0 hxs) y hy
 ·exact hRc x hx y hy
def Merged(key:Int→Int)(L R M:List Int) : Prop:=Srt key M∧M.Perm (L++R)
theorem Merged.len{key:Int→Int}{L R M:List Int}(h:Merged key L R M) : M.length=L.length+R.length:=by rw [h.2.length_eq,Qh]
theorem Merged.mem{key:Int→Int}{L R M:List Int}(h:Merged key L R M){x:Int}(hx:x ∈ M) : x ∈ L∨x ∈ R:=Qu.1 (h.2.mem_iff.1 hx)
def ran(a b:Nat) : List Int:=(List.range' a (b-a)).map (fun k:Nat=>(k:Int))
theorem Xlm{a b:Nat} : (ran a b).length=b-a:=by simp [ran]
theorem Xms{a b:Nat}{x:Int} : x ∈ ran a b↔(a:Int)≤x∧x<(b:Int):=by
 simp only [ran,W6,List.mem_range'_1]
 constructor
 ·rintro ⟨k,hk,rfl⟩;omega
 ·intro h;exact ⟨x.toNat,by omega,by omega⟩
def SortedR(key:Int→Int)(a b:Nat)(S:List Int) : Prop:=Srt key S∧S.Perm (ran a b)
theorem SortedR.len{key:Int→Int}{a b:Nat}{S:List Int}(h:SortedR key a b S) : S.length=b-a:=by rw [h.2.length_eq,Xlm]
theorem SortedR.mem{key:Int→Int}{a b:Nat}{S:List Int}(h:SortedR key a b S){x:Int}(hx:x ∈ S) : (a:Int)≤x∧x<(b:Int):=Xms.1 (h.2.mem_iff.1 hx)
inductive Blocks (key:Int→Int) (b n:Nat) : Nat→List Int→Prop
 | nil {a:Nat} (h:n≤a) : Blocks key b n a []
 | cons {a:Nat} {S l:List Int} (h:a<n) (hS:SortedR key a (min (a+b) n) S) (hl:Blocks key b n (a+b) l) : Blocks key b n a (S++l)
theorem Blocks.len{key:Int→Int}{b n a:Nat}{l:List Int}(h:Blocks key b n a l) : l.length=n-a:=by
 induction h with
 | nil h=>simp;omega
 | cons h hS hl ih=>rw [Qh,hS.len,ih];omega
theorem Blocks.one{key:Int→Int}{b n a:Nat}{S:List Int}(h:a<n)(hb:n≤a+b)(hS:SortedR key a n S) : Blocks key b n a S:=by
 have:=Blocks.cons (key:=key) (b:=b) (l:=[]) h (by rw [Nat.min_eq_right hb];exact hS) (Blocks.nil hb)
 rwa [List.append_nil] at this
inductive Head (key:Int→Int) (b:Nat) : Nat→List Int→Prop
 | nil:Head key b 0 []
 | snoc {a:Nat} {S l:List Int} (hl:Head key b a l) (hS:SortedR key a (a+b) S) : Head key b (a+b) (l++S)
theorem Head.len{key:Int→Int}{b a:Nat}{l:List Int}(h:Head key b a l) : l.length=a:=by
 induction h with
 | nil=>rfl
 | snoc hl hS ih=>rw [Qh,ih,hS.len];omega
instance (key:Int→Int) (i k:Int) : Decidable (ltK key i k):=by unfold ltK;infer_instance
def insF(key:Int→Int)(x:Int) : List Int→List Int
 | []=>[x]
 | y::l=>if ltK key y x then y::insF key x l else x::y::l
def srtF(key:Int→Int) : Nat→List Int
 | 0=>[]
 | n+1=>insF key (n:Int) (srtF key n)
end Go.Proofs.YtpifljegadknkaaGreat
namespace Go.Proofs.YtpifljegadknkaaGreat
open Go.RowKit
section
variable {P : Program} {a : Act} {w w' : World} {n : Nat} {e : Env} {ty : TypeId} {pos : String} {af : Array Edge} {g : Option (Nat × Bool)} {d : Option Tmp} {s t t' : TypeId} {x y : Operand} {i j : Int}
end
theorem Xk5{l:List Int}{k:Nat}(h:k<l.length) : l[k]? = some (l.getD k 0):=by
 rw [Qa,Qc h];rfl
section
variable {U V W : List Int} {x y : Int} {p q : Nat}
end
def swL(P X Y Z Q:List Int)(i:Nat) : List Int:=P++((Z.take i++X.drop i)++(Y++((X.take i++Z.drop i)++Q)))
section
variable {key : Int → Int} {cf : Int → Int → Int} {P L R Q : List Int} {n : Int} {a m b : Nat}
def Cmp(key:Int→Int)(cf:Int→Int→Int)(n:Int) : Prop:=∀ x y,0≤x→x<n→0≤y→y<n→(cf x y<0↔key x<key y)
def In(n:Int)(l:List Int) : Prop:=∀ x ∈ l,0≤x∧x<n
theorem In.get{l:List Int}(h:In n l){k:Nat}(hk:k<l.length) : 0≤l.getD k 0∧l.getD k 0<n:=h _ (Xhn hk)
theorem Xul{k:Nat}(ha:P.length=a)(h1:a≤k)(h2:k<a+L.length) : (P++(L++(R++Q))).getD k 0=L.getD (k-a) 0:=by
 rw [X69 (by omega),X80 (by omega),ha]
theorem Xun{k:Nat}(ha:P.length=a)(hm:a+L.length=m)(h1:m≤k)(h2:k<m+R.length) : (P++(L++(R++Q))).getD k 0=R.getD (k-m) 0:=by
 rw [X69 (by omega),X69 (by omega),X80 (by omega)]
 congr 1;omega
structure Two (key:Int→Int) (P L R:List Int) (a m b:Nat) (n:Int) : Prop where
 ha:P.length=a
 hm:a+L.length=m
 hb:m+R.length=b
 hL:Srt key L
 hR:Srt key R
 lt:∀ x ∈ L,∀ y ∈ R,x<y
 iL:In n L
 iR:In n R
variable (h : Two key P L R a m b n)
include h
theorem Two.inl{k:Nat}(h1:a≤k)(h2:k<m) : 0≤(P++(L++(R++Q))).getD k 0∧(P++(L++(R++Q))).getD k 0<n:=by
 have:=h.hm;rw [Xul h.ha h1 (by omega)];exact h.iL.get (by omega)
theorem Two.inr{k:Nat}(h1:m≤k)(h2:k<b) : 0≤(P++(L++(R++Q))).getD k 0∧(P++(L++(R++Q))).getD k 0<n:=by
 have:=h.hb;rw [Xun h.ha h.hm h1 (by omega)];exact h.iR.get (by omega)
def prS(key:Int→Int)(l:List Int)(p:Nat)(c:Nat) : Prop:=ltK key (l.getD c 0) (l.getD (p-c) 0)
end
theorem Xxm(d:World)(Al:Option Addr)(cl:Nat)(l:List Int)(e:Rd d d.heap.size 3 encI Al l)(aE:l.length≤1000000000) : Ret Tryz.prog 215 [.slice Al l.length cl] d (fun v w=>∃ A c,v=.slice A l.length c∧Own w d.heap.size 3 1 encI A c l∧Below d.heap.size d w):=by
 refine enter Tryz.func215 rfl 6 rfl rfl ?_;intro a hf
 have b:=bz d
 refine Zs hf fun _ aB=>?_;refine Za rfl<|Zx aB fun a hf _ aC=>?_;refine Zf (Xm (k:=0) (vs:=[]) (zs:=[]) rfl Xl X1q rfl rfl) ?_;rintro _ w1 ⟨b5,rfl,a6,hE,a7⟩;have f:=Q0 b.size a6;have aA:=(e.below' b).away a6;have b:=btr b hE;refine Zm rfl<|Zf (X0m (enc:=encI) (l:=([] : List Int)) (l2:=(l)) (B0:=d.heap.size) rfl rfl Xl X1q Xf X25 (Own.empty a7 f) (e.below' b) (by simp only [maxLen,List.length_nil];omega) (by simp only [List.length_nil];omega) b.size) ?_;rintro _ w2 ⟨A7,c7,rfl,a8,hg,aD⟩
 have g:Own _ d.heap.size 3 1 encI _ _ ([] : List Int):=(Own.empty a7 f)
 clear aD;have b:=Below.app b g hg (Qb _) b.size;clear g hg
 simp only [List.nil_append] at a8
 refine Za rfl<|Zt aC fun a hf=>?_
 refine Q6 (X4 hf (Xt hf rfl rfl) ?_)
 exact ⟨A7,c7,rfl,a8,b⟩
end Go.Proofs.YtpifljegadknkaaGreat
namespace Go.Proofs.YtpifljegadknkaaGreat
open Go.RowKit Go.ChangeShapes Go.WideShapes Go.Deep Go.Joins
theorem Xkz{α:Type}{n:Nat}{Q:Nat→α→Prop}(h:∀ i,i<n→∃ g,Q i g) : ∃ l:List α,l.length=n∧∀ i g,l[i]? = some g→Q i g:=by
 induction n with
 | zero=>exact ⟨[],rfl,fun i g h=>by simp at h⟩
 | succ n ih=>
  obtain ⟨l,h1,h2⟩:=ih fun i hi=>h i (by omega)
  obtain ⟨g,hg⟩:=h n (by omega)
  refine ⟨l++[g],by simp [h1],fun i g' hi=>?_⟩
  rcases W4 i n with hin|hin
  ·rw [List.getElem?_append_left (by omega)] at hi
   exact h2 i g' hi
  ·rw [W5 (by omega)] at hi
   have:i-l.length=0:=by
    rcases Nat.eq_zero_or_pos (i-l.length) with h|h
    ·exact h
    ·rw [List.getElem?_eq_none (by simp;omega)] at hi;cases hi
   rw [this] at hi
   injection hi with hi
   subst hi
   have:i=n:=by omega
   subst this
   exact hg
theorem Xc1{α:Type}{w:World}{enc:α→List Value}{sz:Nat}(hsz:∀ x,(enc x).length=sz)(h0:0<sz){p:Addr}{l:List α}
  (h:∀ i g,l[i]? = some g→∀ j v,(enc g)[j]? = some v→w.cell? (p.add (i*sz+j))=some v) : ∃ E,Rd w w.heap.size E enc (some p) l:=by
 by_cases hl:l=[]
 ·subst hl;exact ⟨0,Rd.nil _ _ _ _ _⟩
 ·obtain ⟨g0,l',rfl⟩:=List.exists_cons_of_ne_nil hl
  obtain ⟨v0,hv0⟩ : ∃ v,(enc g0)[0]? = some v:=⟨_,Qc (by rw [hsz];exact h0)⟩
  have hc:=h 0 g0 rfl 0 v0 hv0;obtain ⟨b,off,spot⟩:=p;have hb:=Xes hc
  rw [X65] at hb
  have hsp:spot=none:=by
   cases spot with
   | none=>rfl
   | some s=>simp [World.cell?,Addr.add] at hc;split at hc<;>simp_all
  subst hsp
  have hobj:∃ cs E fz,w.heap[b]? = some (.cells cs E fz):=by
   rw [X1k] at hc
   simp only [World.cell?] at hc
   split at hc
   ·rename_i c E fz hh;exact ⟨c,E,fz,hh⟩
   ·cases hc
  obtain ⟨cs,E,fz,hh⟩:=hobj
  refine ⟨E,fun _=>⟨b,off,cs,fz,rfl,hb,hh,fun j v hj=>?_⟩⟩
  have hjl:j<((g0::l').flatMap enc).length:=(Qg.1 hj).1
  rw [Xo hsz] at hjl
  obtain ⟨x,hx,h1⟩:=X4z hsz hjl
  rw [h1] at hj
  have:=h _ _ hx _ _ hj
  rw [X1k,show j/sz*sz+j % sz=j from by rw [Wi];exact Nat.div_add_mod j sz] at this
  simpa [World.cell?,hh] using this
section
variable {H : Type} {enc : TypeId × Value → H} {w : World} {base fuel : Nat} {spare : Nat → Bool} {held : Bool}
theorem Xt3{α:Type}{l:List α}(h:l.length=3) : ∃ a b c,l=[a,b,c]:=by
 match l,h with
 | [a,b,c],_=>exact ⟨a,b,c,rfl⟩
theorem Xcm:Tryz.prog.cellsOf 126=3:=by kernel_rfl
theorem Xja:Tryz.prog.cellsOf 3=1:=by kernel_rfl
theorem Xgs{cs:List Value}{x:DataW H×List MemPlace}(h:DataW.trod enc Tryz.prog w base spare held fuel 126 cs=some x) : ∃ g:Gt,cs=encG g:=by
 obtain ⟨y0,y1,y2,n,_,hl,h0,h1,h2⟩:=trod_struct3 Tryz.underlying126 h
 rw [Xcm] at hl
 obtain ⟨c0,c1,c2,rfl⟩:=Xt3 hl
 simp only [Xja] at h0 h1 h2
 obtain ⟨a,e0,_⟩:=DataW.trod_int Tryz.underlying3 h0;obtain ⟨b,e1,_⟩:=DataW.trod_int Tryz.underlying3 h1;obtain ⟨c,e2,_⟩:=DataW.trod_int Tryz.underlying3 h2
 simp at e0 e1 e2
 exact ⟨⟨a,b,c⟩,by rw [e0,e1,e2];rfl⟩
set_option maxRecDepth 100000 in
theorem Xdd{cs:List Value}{x:DataW H×List MemPlace}(h:DataW.trod enc Tryz.prog w base spare held fuel 22 cs=some x)(hsp:∀ b,spare b=true) :
  ∃ A l c E,cs=[.slice A l.length c]∧Rd w w.heap.size E encG A l∧l.length≤9223372036854775807:=by
 rcases open_slice Tryz.underlying22 h with ⟨hcs,_⟩|⟨a,len,cap,m,n,D,Pl,hcs,hb,hl,hm,hmm,_,hi⟩
 ·exact ⟨none,[],0,0,hcs,Rd.nil _ _ _ _ _,by simp⟩
 ·rw [Xcm] at hi
  have hlm:len≤m:=by rw [hmm,hsp];simpa using hl
  obtain ⟨l,h1,h2⟩:=Xkz (n:=len) (Q:=fun i g=>∀ j v,(encG g)[j]? = some v→w.cell? (a.add (i*3+j))=some v) fun i hilt=>by
   obtain ⟨cs',hc,ht⟩:=hi i (by omega)
   obtain ⟨g,rfl⟩:=Xgs ht;obtain ⟨_,_,hat⟩:=World.cells?_some hc
   refine ⟨g,fun j v hj=>?_⟩
   have hj3:j<3:=by have:=(Qg.1 hj).1;simpa [encG] using this
   rw [← X6p,hat j hj3]
   exact hj
  obtain ⟨E,hr⟩:=Xc1 X16 (by decide) h2
  refine ⟨some a,l,cap,E,by rw [hcs,h1],hr,?_⟩
  simp only [maxLen] at hm
  omega
end
section
variable {H : Type} {enc : TypeId × Value → H} {w : World} {base fuel : Nat} {spare : Nat → Bool} {held : Bool}
theorem Xnu:Tryz.prog.cellsOf 22=1:=by kernel_rfl
theorem Xla:Tryz.prog.cellsOf 24=2:=by kernel_rfl
set_option maxRecDepth 100000 in
theorem Xa6{cs:List Value}{x:DataW H×List MemPlace}(h:DataW.trod enc Tryz.prog w base spare held fuel 24 cs=some x)(hsp:∀ b,spare b=true) :
  ∃ (c:Cx) (A:Option Addr) (k:Nat) (E:TypeId),cs=[.int .i64 c.n,.slice A c.gs.length k]∧Rd w w.heap.size E encG A c.gs∧c.gs.length≤9223372036854775807:=by
 obtain ⟨y0,y1,n,_,hl,h0,h1⟩:=trod_struct2 Tryz.underlying24 h
 rw [Xla] at hl
 match cs,hl with
 | [c0,c1],_=>
  simp only [Xja] at h0
  simp only [Xnu] at h1
  obtain ⟨a,e0,_⟩:=DataW.trod_int Tryz.underlying3 h0;obtain ⟨A,l,c,E1,e1,hr1,hl1⟩:=Xdd h1 hsp
  simp at e0 e1
  exact ⟨⟨a,l⟩,A,c,E1,by rw [e0,e1],hr1,hl1⟩
end
section
variable {H : Type} {enc : TypeId × Value → H} {w : World} {base fuel : Nat} {spare : Nat → Bool} {held : Bool}
end
end Go.Proofs.YtpifljegadknkaaGreat
namespace Go.Proofs.YtpifljegadknkaaGreat
open Go.ChangeShapes Go.WideShapes Go.ChangeAt Go.RowKit Go.Deep Go.Joins
set_option linter.unusedVariables false
theorem own:ownKnob Tryz.prog.godebug=none:=by kernel_rfl
theorem Xdq:laidOutB Tryz.prog=true:=by kernel_rfl
section
variable {H : Type} {enc : TypeId × Value → H} {P : Program}
theorem Xdp{f:Func}{s:ChangeSpec}{fresh handsOn:Bool}{W W':World}{args:Array Value}{v:Value}{ds gs:List (DataW H)}{before pa pv:List MemPlace}
  (hW:DataW.Whole enc P f.params.toList s.vars false W args.toList ds gs before)
  (hres:∀ (b:Nat) (sp:Nat→Bool) (hd:Bool),DataW.TrodAll enc P W' b sp hd f.resultTypes.toList (v.resultList f.resultTypes.size) (s.fn H (ds++gs)).results [])
  (hargs:∀ sp:Nat→Bool,(∀ p ∈ before,sp p.block=true)→DataW.TrodAll enc P W' 0 sp true f.params.toList args.toList (s.fn H (ds++gs)).args pa)
  (hvars:∀ sp:Nat→Bool,(∀ p ∈ before,sp p.block=true)→DataW.TrodVars enc P W' sp s.vars (s.fn H (ds++gs)).vars pv)
  (hps:before=pa++pv) (hb:Below W.heap.size W W') :
  s.post enc P f false fresh handsOn false W args v W':=by
 have hlt:∀ p ∈ before,p.block<W.heap.size:=fun p hp=>hW.lt p hp
 have hold:∀ p ∈ before,(fun b=>decide (b<W.heap.size)) p.block=true:=fun p hp=>by simpa using hlt p hp
 refine ⟨ds,gs,before,[],pa,pv,hW,hres _ _ _,hargs _ hold,hvars _ hold,World.keptBut_mono (fun p hp=>⟨hp,?_⟩) (hb.frame (· ∈ before)),fun h=>by cases h⟩
 rw [hps,Qu] at hp
 exact Or.inr hp
end
set_option maxRecDepth 100000 in
theorem X8u{H:Type}{enc:TypeId×Value→H}{w:World}{base b0:Nat}{spare:Nat→Bool}{held:Bool}{r:Reach}{v:Value}{d:DataW H}{p:List MemPlace}(hv:Value.okWide Tryz.prog w r b0 24 v)(h:DataW.Trod enc Tryz.prog w base spare held 24 v d p)(hsp:∀ b,spare b=true) :
  ∃ (c:Cx) (A:Option Addr) (k:Nat) (E:TypeId),v=.agg #[.int .i64 c.n,.slice A c.gs.length k]∧Rd w w.heap.size E encG A c.gs∧c.gs.length≤9223372036854775807:=by
 obtain ⟨⟨cs⟩,rfl,hsz⟩:=okWide_struct Tryz.underlying24 hv;obtain ⟨fuel,hf⟩:=h;obtain ⟨c,A,k,E,e0,hr,hl⟩:=Xa6 hf hsp
 simp [Value.cells] at e0
 exact ⟨c,A,k,E,by rw [e0],hr,hl⟩
end Go.Proofs.YtpifljegadknkaaGreat
namespace Go.Proofs.YtpifljegadknkaaGreat
open Go.RowKit
theorem X5i(x:Nat) : BitVec.ofInt 64 (x:Int)=BitVec.ofNat 64 x:=BitVec.ofInt_natCast 64 x
theorem X3x{x:Nat}(h:x<2^62) : (BitVec.ofNat 64 x).toNat=x:=by
 rw [BitVec.toNat_ofNat];exact Nat.mod_eq_of_lt (Nat.lt_of_lt_of_le h (by decide))
theorem X61{x:Nat}(h:x<2^62) : IntKind.i64.wrap (x:Int)=(x:Int):=by
 rw [show (2:Nat)^62=4611686018427387904 from by decide] at h
 exact IntWalk.i64_in _ ⟨by omega,by omega⟩
theorem X3h{x y:Nat}(hx:x<2^62)(hy:y<2^62) : bits .or .i64 (x:Int) (y:Int)=((x ||| y:Nat) : Int):=by
 show IntKind.i64.wrap ((BitVec.ofInt 64 (x:Int) ||| BitVec.ofInt 64 (y:Int)).toNat:Int)=_
 rw [X5i,X5i,BitVec.toNat_or,X3x hx,X3x hy,X61 (Nat.or_lt_two_pow hx hy)]
theorem X4h{x y:Nat}(hx:x<2^62)(hy:y<2^62) : bits .xor .i64 (x:Int) (y:Int)=((x ^^^ y:Nat) : Int):=by
 show IntKind.i64.wrap ((BitVec.ofInt 64 (x:Int) ^^^ BitVec.ofInt 64 (y:Int)).toNat:Int)=_
 rw [X5i,X5i,BitVec.toNat_xor,X3x hx,X3x hy,X61 (Nat.xor_lt_two_pow hx hy)]
def without(x y:Nat) : Nat:=x ^^^ (x &&& y)
theorem Xaa{m:Nat}(h:m<62) : 2^m<2^62:=Nat.pow_lt_pow_right (by decide) h
theorem Xmq{m:Nat}(h:m<62) : wr (1*2^m)=((2^m:Nat) : Int):=by
 rw [Int.one_mul,show ((2:Int)^m)=((2^m:Nat) : Int) from by push_cast;rfl]
 exact X61 (Xaa h)
def setN(x:Nat) : List Nat:=(List.range 62).filter x.testBit
def setI(x:Nat) : List Int:=(setN x).map fun (k:Nat)=>(k:Int)
theorem X4x{x i:Nat}(hx:x<2^62) : i ∈ setN x↔x.testBit i=true:=by
 rw [setN,List.mem_filter,W2]
 constructor
 ·exact fun h=>h.2
 ·intro h
  refine ⟨?_,h⟩
  rcases W4 i 62 with h1|h1
  ·exact h1
  ·have:=Nat.testBit_lt_two_pow (Nat.lt_of_lt_of_le hx (Nat.pow_le_pow_right (by decide) h1))
   rw [this] at h;cases h
def maskOf(p:Nat→Bool) : Nat→Nat
 | 0=>0
 | m+1=>maskOf p m ||| (if p m=true then 2^m else 0)
theorem X8y(p:Nat→Bool) : ∀ m,maskOf p m<2^m
 | 0=>by simp [maskOf]
 | m+1=>by
  have h:=X8y p m
  rw [maskOf]
  refine Nat.or_lt_two_pow (Nat.lt_of_lt_of_le h (Nat.pow_le_pow_right (by decide) (Nat.le_succ m))) ?_
  split
  ·exact Nat.pow_lt_pow_right (by decide) (Nat.lt_succ_self m)
  ·exact Nat.pow_pos (by decide)
def RpL(p q:Gt×Nat) : Prop:=p.1.k≠12→q.1.k≠12→(commS q.1 p.1=false→p.2<q.2)∧(p.2=q.2→comS q.1 p.1=false)
def SchP(gs:List Gt)(t:Nat) : Prop:=∃ ps:List (Gt×Nat),ps.map Prod.fst=gs∧ps.Pairwise RpL∧∀ p ∈ ps,p.1.k≠12→1≤p.2∧p.2≤t
def nonW(g:Gt) : Bool:=g.k != 12
def Good(gs:List Gt)(f:Nat→Int)(i:Nat) : Prop:=∀ j,j<i→(commS (gs.getD i gZ) (gs.getD j gZ)=false→f j<f i)∧(f j=f i→comS (gs.getD i gZ) (gs.getD j gZ)=false)
def OkL(gs:List Gt)(t:Nat)(f:Nat→Int)(i:Nat) : Prop:=(gs.getD i gZ).k≠12→1≤f i∧f i≤(t:Int)∧Good gs f i
def layI(gs:List Gt)(t:Nat) : Nat→List Int→Bool
 | 0,_=>true
 | n+1,al=>if (gs.getD (gs.length-(n+1)) gZ).k=12 then layI gs t n al else (List.range t).any fun x=>decide (faultS gs (al.set (gs.length-(n+1)) ((x:Int)+1)) (gs.length-(n+1))=0)&&layI gs t n (al.set (gs.length-(n+1)) ((x:Int)+1))
theorem X5m{al:List Int}{i j:Nat}{x:Int}(hi:i<al.length) : (al.set i x).getD j 0=if j=i then x else al.getD j 0:=by
 rw [Qa,List.getElem?_set,Qa]
 by_cases h:i=j
 ·rw [Q4 h,Q4 h.symm,Q4 (by omega)];rfl
 ·rw [Q3 h,Q3 (fun e=>h e.symm)]
def zerosL(n:Nat) : List Int:=List.replicate n 0
def leastL(gs:List Gt) : Nat:=((List.range (gs.length+1)).find? fun t=>layI gs t gs.length (zerosL gs.length)).getD 0
section
variable (l : List Gt)
def foP(i j:Nat) : Bool:=decide (j<i)&&!commS (l.getD i gZ) (l.getD j gZ)
def shP(i j:Nat) : Bool:=i != j&&comS (l.getD i gZ) (l.getD j gZ)
def foM(i:Nat) : Nat:=maskOf (foP l i) l.length
def shM(i:Nat) : Nat:=maskOf (shP l i) l.length
def okAt(d s i:Nat) : Bool:=shM l i &&& s==0&&without (foM l i) d==0
def stepB(d s:Nat) : Bool:=s &&& d==0&&(setN s).all (okAt l d s)
def fullM:Nat:=2^l.length-1
inductive Rch:Nat→Nat→Prop
 | zero:Rch 0 0
 | step {k d s:Nat} (h:Rch k d) (h1:1≤s) (h2:s<2^l.length) (h3:stepB l d s=true) : Rch (k+1) (d ||| s)
end
section
variable {l : List Gt}
def lowM(l:List Gt)(f:Nat→Nat)(s:Nat) : Nat:=maskOf (fun i=>decide (f i≤s)) l.length
def stepsL(l:List Gt)(d:Nat) : List Nat:=(List.range' 1 (2^l.length-1)).filter (stepB l d)
theorem X5e{d s:Nat} : s ∈ stepsL l d↔1≤s∧s<2^l.length∧stepB l d s=true:=by
 rw [stepsL,List.mem_filter,List.mem_range'_1]
 have:0<2^l.length:=Nat.pow_pos (by decide)
 constructor
 ·rintro ⟨h1,h2⟩;exact ⟨by omega,by omega,h2⟩
 ·rintro ⟨h1,h2,h3⟩;exact ⟨by omega,h3⟩
structure Bfs (l:List Gt) (far:List Int) (L:List Nat) (i q:Nat) : Prop where
 flen:far.length=2^l.length
 inL:∀ x ∈ L,x<2^l.length∧∃ d:Nat,far.getD x 0=(d:Int)∧Rch l d x
 neg:∀ x,x<2^l.length→0≤far.getD x 0→x ∈ L
 nod:L.Nodup
 srt:L.Pairwise (fun x y=>far.getD x 0≤far.getD y 0)
 cap:i<L.length→∀ y ∈ L,far.getD y 0≤far.getD (L.getD i 0) 0+1
 done:∀ j,j<i→j<L.length→∀ s ∈ stepsL l (L.getD j 0),0≤far.getD (L.getD j 0 ||| s) 0∧far.getD (L.getD j 0 ||| s) 0≤far.getD (L.getD j 0) 0+1
 part:i<L.length→∀ s ∈ (stepsL l (L.getD i 0)).take q,0≤far.getD (L.getD i 0 ||| s) 0∧far.getD (L.getD i 0 ||| s) 0≤far.getD (L.getD i 0) 0+1
 zero:0 ∈ L
theorem X4f{L:List Nat}{k:Nat}(h:k<L.length) : L.getD k 0 ∈ L:=by
 rw [Qa,Qc h];exact List.getElem_mem h
theorem Xgi{L M:List Nat}{k:Nat}(h:k<L.length) : (L++M).getD k 0=L.getD k 0:=by
 simp only [Qa];rw [List.getElem?_append_left h]
theorem Bfs.inj{far:List Int}{L:List Nat}{i q:Nat}(h:Bfs l far L i q)(hi:i<L.length) : L.getD i 0<2^l.length:=(h.inL _ (X4f hi)).1
theorem Bfs.old{far:List Int}{L:List Nat}{i q s:Nat}(h:Bfs l far L i q)(hi:i<L.length)(hs:(stepsL l (L.getD i 0))[q]? = some s)(hf:0≤far.getD (L.getD i 0 ||| s) 0) : Bfs l far L i (q+1):=by
 refine ⟨h.flen,h.inL,h.neg,h.nod,h.srt,h.cap,h.done,fun _ s' hs'=>?_,h.zero⟩
 obtain ⟨hq,hqe⟩:=Qg.1 hs;have hm:=X5e.1 (hqe▸List.getElem_mem hq)
 rw [Wf hq,Qu] at hs'
 rcases hs' with hs'|hs'
 ·exact h.part hi s' hs'
 ·rw [Qm.1 hs',hqe]
  exact ⟨hf,h.cap hi _ (h.neg _ (Nat.or_lt_two_pow (h.inj hi) hm.2.1) hf)⟩
theorem Bfs.new{far:List Int}{L:List Nat}{i q s:Nat}(h:Bfs l far L i q)(hi:i<L.length)(hs:(stepsL l (L.getD i 0))[q]? = some s)(hf:far.getD (L.getD i 0 ||| s) 0<0) :
  Bfs l (far.set (L.getD i 0 ||| s) (far.getD (L.getD i 0) 0+1)) (L++[L.getD i 0 ||| s]) i (q+1):=by
 obtain ⟨hq,hqe⟩:=Qg.1 hs;have hm:=X5e.1 (hqe▸List.getElem_mem hq)
 have hx:L.getD i 0 ||| s<2^l.length:=Nat.or_lt_two_pow (h.inj hi) hm.2.1
 obtain ⟨x,hxe⟩ : ∃ x,x=L.getD i 0 ||| s:=⟨_,rfl⟩
 have hxL:x ∉ L:=fun hc=>by
  obtain ⟨_,d,hd,_⟩:=h.inL x hc
  rw [← hxe] at hf
  omega
 have hget:∀ y,(far.set x (far.getD (L.getD i 0) 0+1)).getD y 0=if y=x then far.getD (L.getD i 0) 0+1 else far.getD y 0:=fun y=>X5m (by rw [h.flen,hxe];exact hx)
 have hgL:∀ y ∈ L,(far.set x (far.getD (L.getD i 0) 0+1)).getD y 0=far.getD y 0:=fun y hy=>by
  rw [hget,Q3 (fun e:y=x=>hxL (e▸hy))]
 have hiL:=hgL _ (X4f hi)
 have hge:∀ j,j<L.length→(L++[x]).getD j 0=L.getD j 0:=fun j hj=>Xgi hj
 obtain ⟨_,di,hdi,hri⟩:=h.inL _ (X4f hi)
 rw [← hxe] at hf hx ⊢
 have mono:∀ y,y<2^l.length→0≤far.getD y 0→(far.set x (far.getD (L.getD i 0) 0+1)).getD y 0=far.getD y 0:=fun y h1 h2=>hgL y (h.neg y h1 h2)
 refine ⟨by rw [List.length_set];exact h.flen,fun y hy=>?_,fun y hy h0=>?_,?_,?_,fun _ y hy=>?_,fun j hj hjl s' hs'=>?_,fun _ s' hs'=>?_,List.mem_append_left _ h.zero⟩
 ·rcases Qu.1 hy with hy|hy
  ·rw [hgL y hy];exact h.inL y hy
  ·rw [Qm.1 hy]
   refine ⟨hx,di+1,by rw [hget,Q4 rfl,hdi];rfl,?_⟩
   rw [hxe];exact Rch.step hri hm.1 hm.2.1 hm.2.2
 ·rw [hget] at h0
  split at h0
  ·rename_i e;rw [e];simp
  ·exact List.mem_append_left _ (h.neg y hy h0)
 ·rw [List.nodup_append]
  exact ⟨h.nod,by simp,fun y hy z hz e=>hxL (by rw [Qm.1 hz] at e;exact e▸hy)⟩
 ·rw [List.pairwise_append]
  refine ⟨h.srt.imp_of_mem fun {y z} hy hz hyz=>by rw [hgL y hy,hgL z hz];exact hyz,by simp,fun y hy z hz=>?_⟩
  rw [Qm.1 hz,hgL y hy,hget,Q4 rfl]
  exact h.cap hi y hy
 ·rw [hge i hi,hiL]
  rcases Qu.1 hy with hy|hy
  ·rw [hgL y hy];exact h.cap hi y hy
  ·rw [Qm.1 hy,hget,Q4 rfl];omega
 ·have hjL:j<L.length:=by omega
  rw [hge j hjL] at hs' ⊢
  rw [hgL _ (X4f hjL)]
  obtain ⟨e1,e2⟩:=h.done j hj hjL s' hs'
  rw [mono _ (Nat.or_lt_two_pow (h.inL _ (X4f hjL)).1 (X5e.1 hs').2.1) e1]
  exact ⟨e1,e2⟩
 ·rw [hge i hi] at hs' ⊢
  rw [hiL]
  rw [Wf hq,Qu] at hs'
  rcases hs' with hs'|hs'
  ·obtain ⟨e1,e2⟩:=h.part hi s' hs'
   rw [mono _ (Nat.or_lt_two_pow (h.inj hi) (X5e.1 (Wd hs')).2.1) e1]
   exact ⟨e1,e2⟩
  ·rw [Qm.1 hs',hqe,← hxe,hget,Q4 rfl];omega
theorem Bfs.next{far:List Int}{L:List Nat}{i q:Nat}(h:Bfs l far L i q)(hi:i<L.length)(hq:(stepsL l (L.getD i 0)).length≤q) : Bfs l far L (i+1) 0:=by
 refine ⟨h.flen,h.inL,h.neg,h.nod,h.srt,fun hi1 y hy=>?_,fun j hj hjl s hs=>?_,fun _ s hs=>by simp at hs,h.zero⟩
 ·have h1:=h.cap hi y hy
  have h2:=(W0.1 h.srt) i (i+1) hi hi1 (by omega)
  have g1:L.getD i 0=L[i]:=by rw [Qa,Qc hi];rfl
  have g2:L.getD (i+1) 0=L[i+1]:=by rw [Qa,Qc hi1];rfl
  rw [g1] at h1
  rw [g2];omega
 ·by_cases hji:j=i
  ·subst hji
   exact h.part hi s (by rw [Qi hq];exact hs)
  ·exact h.done j (by omega) hjl s hs
end
def cI(l:List Nat) : List Int:=l.map fun (k:Nat)=>(k:Int)
def maskV(l:List Int) : Nat:=l.foldl (fun q v=>q ||| 2^v.toNat) 0
def foL(l:List Gt) : List Int:=cI ((List.range l.length).map (foM l))
def shL(l:List Gt) : List Int:=cI ((List.range l.length).map (shM l))
theorem Xmn{l:List Gt}{i:Nat}(hi:i<l.length) : (shL l)[i]? = some ((shM l i:Nat) : Int):=by simp [shL,cI,hi]
theorem Xlq(l:List Gt) : (shL l).length=l.length:=by simp [shL,cI]
structure ShM (l:List Gt) (i j:Nat) (m:List Int) : Prop where
 len:m.length=l.length
 lo:∀ q,q<i→m.getD q 0=((shM l q:Nat) : Int)
 at':i<l.length→m.getD i 0=((maskOf (shP l i) j:Nat) : Int)
 up:∀ q,i<q→q<l.length→m.getD q 0=0
theorem ShM.yes{l:List Gt}{i j:Nat}{m:List Int}(h:ShM l i j m)(hi:i<l.length)(hj:j<62)(hl:l.length≤8)(hjl:j≤l.length)(hp:shP l i j=true) : ShM l i (j+1) (m.set i (bits .or .i64 (m.getD i 0) (wr (1*2^j)))):=by
 have hil:i<m.length:=by rw [h.len];exact hi
 have e:bits .or .i64 (m.getD i 0) (wr (1*2^j))=((maskOf (shP l i) (j+1) : Nat) : Int):=by
  rw [h.at' hi,Xmq hj,X3h (Nat.lt_of_lt_of_le (X8y _ _) (Nat.pow_le_pow_right (by decide) (by omega))) (Xaa hj),maskOf,Q4 hp]
 refine ⟨by rw [List.length_set];exact h.len,fun q hq=>?_,fun _=>?_,fun q h1 h2=>?_⟩
 ·rw [X5m hil,Q3 (by omega)];exact h.lo q hq
 ·rw [X5m hil,Q4 rfl,e]
 ·rw [X5m hil,Q3 (by omega)];exact h.up q h1 h2
theorem ShM.no{l:List Gt}{i j:Nat}{m:List Int}(h:ShM l i j m)(hp:shP l i j=false) : ShM l i (j+1) m:=
 ⟨h.len,h.lo,fun hi=>by rw [h.at' hi,maskOf,Q3 (by rw [hp];simp),Nat.or_zero],h.up⟩
theorem ShM.next{l:List Gt}{i:Nat}{m:List Int}(h:ShM l i l.length m)(hi:i<l.length) : ShM l (i+1) 0 m:=
 ⟨h.len,fun q hq=>by
  by_cases e:q=i
  ·rw [e];exact h.at' hi
  ·exact h.lo q (by omega),fun h1=>by rw [h.up _ (by omega) h1];rfl,fun q h1 h2=>h.up q (by omega) h2⟩
theorem ShM.done{l:List Gt}{i j:Nat}{m:List Int}(h:ShM l i j m)(hi:l.length≤i) : m=shL l:=by
 apply List.ext_getElem?
 intro q
 rcases W4 q l.length with h1|h1
 ·rw [Xmn h1,Xk5 (by rw [h.len];exact h1),h.lo q (by omega)]
 ·rw [List.getElem?_eq_none (by rw [h.len];exact h1),List.getElem?_eq_none (by rw [Xlq];exact h1)]
def stepsU(l:List Gt)(d k:Nat) : List Nat:=(List.range' 1 (k-1)).filter (stepB l d)
def llB(c:Cx) : Bool:=cOk c&&decide ((c.gs.filter nonW).length≤8)
def llI(c:Cx) : Int:=if llB c=true then (leastL c.gs:Int) else 0
structure TurnV (w w':World) (b:Nat) (r:Option Nat) : Prop where
 os:w'.os=w.os
 tape:w'.tape=w.tape
 output:w'.output=w.output
 size:w.heap.size≤w'.heap.size
 block:∀ k,k<w.heap.size→k≠b→some k≠r→w'.heap[k]? = w.heap[k]?
theorem TurnV.refl(w:World)(b:Nat)(r:Option Nat) : TurnV w w b r:=⟨rfl,rfl,rfl,Qb _,fun _ _ _ _=>rfl⟩
section
variable {w0 w w' : World} {b : Nat} {r : Option Nat} {A : Option Addr} {n m c c' : Nat}
theorem TurnV.mid(h:TurnV w w' b (Value.slice A n c).ownBlock)(hb:b<w.heap.size) : ∃ w1,Only b w w1∧w1.grownBy w' (Value.slice A n c).ownBlock:=by
 cases hx:w'.heap[b]? with
 | none=>
  have:=Array.getElem?_eq_none_iff.1 hx
  have:=h.size
  omega
 | some o=>
  refine ⟨{ w with heap:=w.heap.setIfInBounds b o },⟨rfl,rfl,rfl,by simp,fun k hk=>?_⟩,⟨h.os,h.tape,h.output,by simpa using h.size,fun k hk hn=>?_⟩⟩
  ·show (w.heap.setIfInBounds b o)[k]? = _
   rw [Wh (Ne.symm hk)]
  ·show w'.heap[k]? = (w.heap.setIfInBounds b o)[k]?
   have hk':k<w.heap.size:=by simpa using hk
   by_cases hkb:k=b
   ·subst hkb
    rw [hx,Array.getElem?_setIfInBounds_self_of_lt hk']
   ·rw [Wh (Ne.symm hkb)]
    exact h.block k hk' hkb hn
end
theorem MemoG.app{α:Type}{w w':World}{b B:Nat}{E:TypeId}{sz:Nat}{enc:α→List Value}{A:Option Addr}{n c c':Nat}{l:List α}(h:MemoG w b)(ho:Own w B E sz enc A c l)(hg:w.grownBy w' (Value.slice A n c').ownBlock) : MemoG w' b:=by
 obtain ⟨l2,cl,hL,hg2⟩:=h
 refine ⟨l2,cl,?_,hg2⟩
 have hlt:=hL.lt
 refine (hg.block b hlt fun hk=>?_).trans hL
 rw [X7c A n l.length c' c] at hk
 obtain ⟨_,_,cs,fz,h3⟩:=ho.block hk.symm
 unfold MemoL at hL
 rw [hL] at h3;cases h3
theorem Own.onlyM{α:Type}{w w':World}{b B:Nat}{E:TypeId}{sz:Nat}{enc:α→List Value}{A:Option Addr}{c:Nat}{l:List α}(h:Own w B E sz enc A c l)(ho:Only b w w')(hm:MemoG w b) : Own w' B E sz enc A c l:=by
 refine ⟨h.1,?_⟩
 rcases h.2 with k1|⟨g,cap,cur,k1,k2,k3,k4⟩
 ·exact .inl k1
 ·refine .inr ⟨g,cap,cur,k1,k2,(ho.block g fun e=>?_).trans k3,k4⟩
  obtain ⟨l2,cl,hL,_⟩:=hm
  unfold MemoL at hL
  rw [e,hL] at k3;cases k3
def tryL(gs:List Gt)(t n:Nat)(al:List Int)(x:Nat) : Bool:=decide (faultS gs (al.set (gs.length-n) ((x:Int)+1)) (gs.length-n)=0)&&layI gs t (n-1) (al.set (gs.length-n) ((x:Int)+1))
def cntP(p:Int→Bool)(gs:List Gt) : Nat:=(gs.filter fun g=>p g.k).length
end Go.Proofs.YtpifljegadknkaaGreat
namespace Go.Proofs.YtpifljegadknkaaGreat
instance:_root_.Add Rg:=⟨fun x y=>⟨x.a+y.a,x.b+y.b,x.c+y.c,x.d+y.d⟩⟩
instance:_root_.Mul Rg:=⟨fun x y=>⟨x.a*y.a-x.b*y.d-x.c*y.c-x.d*y.b,x.a*y.b+x.b*y.a-x.c*y.d-x.d*y.c,x.a*y.c+x.b*y.b+x.c*y.a-x.d*y.d,x.a*y.d+x.b*y.c+x.c*y.b+x.d*y.a⟩⟩
instance:_root_.Neg Rg:=⟨fun x=>⟨-x.a,-x.b,-x.c,-x.d⟩⟩
instance:_root_.Sub Rg:=⟨fun x y=>⟨x.a-y.a,x.b-y.b,x.c-y.c,x.d-y.d⟩⟩
instance:NatCast Rg:=⟨fun n=>⟨n,0,0,0⟩⟩
instance:IntCast Rg:=⟨fun n=>⟨n,0,0,0⟩⟩
instance (n:Nat) : OfNat Rg n:=⟨⟨n,0,0,0⟩⟩
def rgPow(x:Rg) : Nat→Rg
 | 0=>1
 | n+1=>rgPow x n*x
instance:HPow Rg Nat Rg:=⟨rgPow⟩
instance:SMul Nat Rg:=⟨fun n x=>(n:Rg)*x⟩
instance:SMul Int Rg:=⟨fun n x=>(n:Rg)*x⟩
theorem X4n{x y:Rg}(h1:x.a=y.a)(h2:x.b=y.b)(h3:x.c=y.c)(h4:x.d=y.d) : x=y:=by
 obtain ⟨x1,x2,x3,x4⟩:=x;obtain ⟨y1,y2,y3,y4⟩:=y
 simp only at h1 h2 h3 h4
 subst h1 h2 h3 h4
 rfl
theorem Xi1(x y:Rg) : (x+y).a=x.a+y.a:=rfl
theorem Xjt(x y:Rg) : (x+y).b=x.b+y.b:=rfl
theorem Xk3(x y:Rg) : (x+y).c=x.c+y.c:=rfl
theorem Xh9(x y:Rg) : (x+y).d=x.d+y.d:=rfl
theorem X90(x y:Rg) : (x*y).a=x.a*y.a-x.b*y.d-x.c*y.c-x.d*y.b:=rfl
theorem X8w(x y:Rg) : (x*y).b=x.a*y.b+x.b*y.a-x.c*y.d-x.d*y.c:=rfl
theorem X8x(x y:Rg) : (x*y).c=x.a*y.c+x.b*y.b+x.c*y.a-x.d*y.d:=rfl
theorem X9j(x y:Rg) : (x*y).d=x.a*y.d+x.b*y.c+x.c*y.b+x.d*y.a:=rfl
theorem X3b(a:Rg) : a+0=a:=X4n (Int.add_zero _) (Int.add_zero _) (Int.add_zero _) (Int.add_zero _)
theorem X31(a:Rg) : a*1=a:=by
 have e1:(1:Rg).a=1:=rfl
 have e2:(1:Rg).b=0:=rfl
 have e3:(1:Rg).c=0:=rfl
 have e4:(1:Rg).d=0:=rfl
 apply X4n<;>simp only [X90,X8w,X8x,X9j,e1,e2,e3,e4]<;>grind
theorem X3a(a:Rg) : 0*a=0:=by
 have e1:(0:Rg).a=0:=rfl
 have e2:(0:Rg).b=0:=rfl
 have e3:(0:Rg).c=0:=rfl
 have e4:(0:Rg).d=0:=rfl
 apply X4n<;>simp only [X90,X8w,X8x,X9j,e1,e2,e3,e4]<;>grind
theorem X1m(a b:Rg) : a*b=b*a:=by (apply X4n<;>simp only [Xi1,Xjt,Xk3,Xh9,X90,X8w,X8x,X9j]<;>grind)
theorem X3o(a b c:Rg) : a*(b+c)=a*b+a*c:=by (apply X4n<;>simp only [Xi1,Xjt,Xk3,Xh9,X90,X8w,X8x,X9j]<;>grind)
theorem X2p(a b:Rg) : a+b=b+a:=X4n (Int.add_comm _ _) (Int.add_comm _ _) (Int.add_comm _ _) (Int.add_comm _ _)
theorem X2c(a b c:Rg) : a+b+c=a+(b+c):=X4n (Int.add_assoc _ _ _) (Int.add_assoc _ _ _) (Int.add_assoc _ _ _) (Int.add_assoc _ _ _)
theorem X1c(a b c:Rg) : a*b*c=a*(b*c):=by (apply X4n<;>simp only [Xi1,Xjt,Xk3,Xh9,X90,X8w,X8x,X9j]<;>grind)
theorem X2m(a:Rg) : 1*a=a:=by rw [X1m,X31]
theorem X3u(a:Rg) : a*0=0:=by rw [X1m,X3a]
theorem X3t(a:Rg) : 0+a=a:=by rw [X2p,X3b]
theorem X4i(a b c:Rg) : (a+b)*c=a*c+b*c:=by rw [X1m,X3o,X1m c a,X1m c b]
theorem X2g(a b c:Rg) : a*(b*c)=b*(a*c):=by rw [← X1c,← X1c,X1m a b]
theorem X2d(a b c:Rg) : a+(b+c)=b+(a+c):=by rw [← X2c,← X2c,X2p a b]
def s2:Rg:=⟨0,1,0,-1⟩
def om:Rg:=⟨0,1,0,0⟩
theorem Xsz:s2*s2=2:=by decide
theorem Xdm{x y:Rg}(h:2*x=2*y) : x=y:=by
 have e1:(2:Rg).a=2:=rfl
 have e2:(2:Rg).b=0:=rfl
 have e3:(2:Rg).c=0:=rfl
 have e4:(2:Rg).d=0:=rfl
 have h1:=congrArg Rg.a h;have h2:=congrArg Rg.b h;have h3:=congrArg Rg.c h;have h4:=congrArg Rg.d h
 simp only [X90,X8w,X8x,X9j,e1,e2,e3,e4] at h1 h2 h3 h4
 apply X4n<;>omega
theorem Xgx{x y:Rg}(h:s2*x=s2*y) : x=y:=by
 apply Xdm
 rw [← Xsz,X1c,X1c,h]
theorem X5x:∀ (m:Nat) {x y:Rg},s2^m*x=s2^m*y→x=y
 | 0,x,y,h=>by
  have e:s2^0=1:=rfl
  rwa [e,X2m,X2m] at h
 | m+1,x,y,h=>by
  have e:s2^(m+1)=s2^m*s2:=rfl
  rw [e] at h
  refine Xgx (X5x m ?_)
  rw [← X1c,← X1c]
  exact h
theorem Xb7(x:Rg)(m n:Nat) : x^(m+n)=x^m*x^n:=by
 induction n with
 | zero=>show _=_*(1:Rg);rw [X31];rfl
 | succ n ih=>
  have e1:x^(m+(n+1))=x^(m+n)*x:=rfl
  have e2:x^(n+1)=x^n*x:=rfl
  rw [e1,e2,ih]
  exact X1c _ _ _
theorem Xwg(x:Rg) : x^0=1:=rfl
def V(x:Dy)(m:Nat)(z:Rg) : Prop:=0≤x.exp∧∃ k:Nat,x.exp+k=m∧z=s2^k*x.num
theorem V.up{x:Dy}{m:Nat}{z:Rg}(h:V x m z)(k:Nat) : V x (m+k) (s2^k*z):=by
 obtain ⟨h0,j,h1,h2⟩:=h
 refine ⟨h0,j+k,by omega,?_⟩
 rw [Xb7,h2]
 simp only [X3a,X3u,X2m,X31,X3b,X3t,X3o,X4i,X1c,X2g,X1m,X2c,X2d,X2p]
theorem V.fun{x:Dy}{m:Nat}{z z':Rg}(h:V x m z)(h':V x m z') : z=z':=by
 obtain ⟨_,k,h1,h2⟩:=h;obtain ⟨_,j,h3,h4⟩:=h'
 obtain rfl:j=k:=by omega
 rw [h2,h4]
theorem V.cross{x:Dy}{m m':Nat}{z z':Rg}(h:V x m z)(h':V x m' z') : s2^m'*z=s2^m*z':=by
 have e1:=h.up m'
 have e2:=h'.up m
 rw [Nat.add_comm m' m] at e2
 exact e1.fun e2
abbrev St:=(Nat→Bool)→Rg
def flipB(β:Nat→Bool)(q:Nat) : Nat→Bool:=fun p=>if p=q then !β p else β p
def u1(k:Int)(x y:Bool) : Rg:=
 if k=1 then (if x&&y then -1 else 1) else if k=2 then (if x=y then 0 else 1) else if k=3 then (if x=y then 0 else if y then om^6 else om^2)
 else if x=y then (if x then om^(turnOf k).toNat else 1) else 0
def act(g:Gt)(v:St) : St:=fun β=>
 if g.k=12 then om*v β
 else if g.k=9 then v (if β g.a.toNat then flipB β g.b.toNat else β)
 else if g.k=10 then (if β g.a.toNat&&β g.b.toNat then om^4 else 1)*v β
 else if g.k=11 then v (if β g.a.toNat=β g.b.toNat then β else flipB (flipB β g.a.toNat) g.b.toNat)
 else u1 g.k (β g.a.toNat) (β g.a.toNat)*v β+u1 g.k (β g.a.toNat) (!β g.a.toNat)*v (flipB β g.a.toNat)
def hN(g:Gt) : Nat:=if g.k=1 then 1 else 0
def run:List Gt→St→St
 | [],v=>v
 | g::l,v=>run l (act g v)
def hs:List Gt→Nat
 | []=>0
 | g::l=>hN g+hs l
def sumN(f:Nat→Rg) : Nat→Rg
 | 0=>0
 | n+1=>sumN f n+f n
def pt(N:Nat)(i:Nat) : Nat→Bool:=fun q=>decide (q<N)&&(bitT (N-1-q) i==1)
def chkPt:Bool:=(List.range 6).all fun n=>(List.range (2^n)).all fun i=>(List.range (2^n)).all fun j=>(i==j)||(List.range n).any fun q=>bitT (n-1-q) i != bitT (n-1-q) j
def zc(N:Nat)(g:Gt)(i k:Nat) : Rg:=
 if g.k=12 then (if i=k then om else 0)
 else if inR g.k 9 11=true then (if toS N g i=(k:Int) then om^(if czI N g i=true then 4 else 0) else 0)
 else if (i:Int)=k∨flipF N i g.a=(k:Int) then u1 g.k (bitF N i g.a==1) (bitF N k g.a==1) else 0
def eb(N j:Nat) : St:=fun β=>if ∀ q,q<N→β q=pt N j q then 1 else 0
def Low(N:Nat)(g:Gt) : Prop:=(g.k≠12→g.a.toNat<N)∧(9≤g.k∧g.k≤11→g.b.toNat<N)
def Co(N:Nat)(β γ:Nat→Bool) : Prop:=∀ q,N≤q→β q=γ q
def Dep(N:Nat)(v:St) : Prop:=∀ β γ,(∀ q,q<N→β q=γ q)→v β=v γ
def bools:List Bool:=[false,true]
def chkSur:Bool:=(List.range 6).all fun n=>bools.all fun a=>bools.all fun b=>bools.all fun c=>bools.all fun d=>bools.all fun e=>(List.range (2^n)).any fun i=>(List.range n).all fun q=>pt n i q==[a,b,c,d,e].getD q false
def put(N j:Nat)(β:Nat→Bool) : Nat→Bool:=fun q=>if q<N then pt N j q else β q
def inj(us:List Int)(β γ:Nat→Bool) : Nat→Bool:=fun p=>if (p:Int) ∈ us then γ (lastN us p us.length).toNat else β p
def Eqv(l m:List Gt) : Prop:=∃ k:Nat,∀ v β,s2^hs m*run l v β=om^k*(s2^hs l*run m v β)
theorem Eqv.refl(l:List Gt) : Eqv l l:=⟨0,fun v β=>by rw [Xwg];exact (X2m _).symm⟩
theorem Eqv.trans{l m n:List Gt}(h1:Eqv l m)(h2:Eqv m n) : Eqv l n:=by
 obtain ⟨k,h1⟩:=h1;obtain ⟨j,h2⟩:=h2
 refine ⟨k+j,fun v β=>X5x (hs m) ?_⟩
 have e1:=h1 v β
 have e2:=h2 v β
 rw [Xb7]
 rw [show s2^hs m*(s2^hs n*run l v β)=s2^hs n*(s2^hs m*run l v β) by simp only [X3a,X3u,X2m,X31,X3b,X3t,X3o,X4i,X1c,X2g,X1m,X2c,X2d,X2p],e1,show s2^hs n*(om^k*(s2^hs l*run m v β))=om^k*(s2^hs l*(s2^hs n*run m v β)) by simp only [X3a,X3u,X2m,X31,X3b,X3t,X3o,X4i,X1c,X2g,X1m,X2c,X2d,X2p],e2]
 simp only [X3a,X3u,X2m,X31,X3b,X3t,X3o,X4i,X1c,X2g,X1m,X2c,X2d,X2p]
end Go.Proofs.YtpifljegadknkaaGreat
namespace Go.Proofs.YtpifljegadknkaaGreat
open Go.RowKit
def encU(i:Int) : List Value:=[.int .u8 i]
abbrev wu(i:Int) : Int:=IntKind.u64.wrap i
section
variable {P : Program} {a : Act} {w : World} {n : Nat} {e : Env} {ty : TypeId} {pos : String} {af : Array Edge} {g : Option (Nat × Bool)} {d : Option Tmp}
variable {s t t' : TypeId} {x y : Operand} {i j : Int}
end
def bkG(g:Gt) : Gt:=⟨if g.k=5∨g.k=7 then g.k+1 else if g.k=6∨g.k=8 then g.k-1 else g.k,g.a,g.b⟩
def bkN(g:Gt) : Int:=if g.k=12 then 7 else 1
def metS(x y:Gt) : Bool:=(usedS [x]).any fun q=>(usedS [y]).any fun z=>z==q
def nextC(g:Gt) : List Gt→Nat→Nat
 | [],j=>j
 | h::l,j=>if metS g h=true then j else nextC g l (j+1)
def canJ(g:Gt)(gs:List Gt)(i:Nat) : Nat:=nextC g (gs.drop (i+1)) (i+1)
def canR(gs:List Gt)(i j:Nat) : Rp:=⟨i,(gs.take (j+1)).drop i,(gs.take j).drop (i+1)⟩
def canB(g:Gt)(gs:List Gt)(i j:Nat) : Bool:=g.k != 12&&(decide ((j:Int)<(gs.length:Int))&&(decide ((j:Int)-(i:Int)<40)&&decide (gs[j]? = some (bkG g))))
def canAt(gs:List Gt)(i:Nat) : Option Rp:=match gs[i]? with
 | none=>none
 | some g=>if canB g gs i (canJ g gs i)=true then some (canR gs i (canJ g gs i)) else none
def canF(gs:List Gt) : Nat→Option Rp
 | 0=>none
 | n+1=>match canF gs n with
  | some r=>some r
  | none=>canAt gs n
def canS(gs:List Gt) : Option Rp:=canF gs gs.length
def rpZ:Rp:=⟨0,[],[]⟩
theorem Xk9(w0:World)(x:Int)(y:Int) : Ret Tryz.prog 186 [vi x,vi y] w0 (fun v w=>v=vi (min x y)∧Below w0.heap.size w0 w):=by
 refine enter Tryz.func186 rfl 10 rfl rfl ?_;intro a c
 have hW:=bz w0
 refine Zs c fun _ a7=>?_;refine Za rfl<|ZX a7 fun a c _ a8=>?_;refine Zs c fun _ aA=>?_;refine Zm rfl<|Zm rfl<|Ze (X0l rfl rfl)<|Zt aA fun a c=>?_
 refine Xg c rfl (fun b=>?_) (fun b=>?_)
 ·have a6:=b;have b:=Q2 b;refine Zs c fun _ aB=>?_;refine Zm rfl<|Za rfl<|Zt aB fun a c=>?_;refine Q6<|X6<|X4 c (Xt c rfl rfl) ?_;exact ⟨by rw [Int.min_eq_left (by omega)],hW⟩
 have a6:=b;have b:=Q1 b;refine Q7<|a8 _ _<|Zs c fun _ aC=>?_;refine Zm rfl<|Za rfl<|Zt aC fun a c=>?_
 refine Q6 (X4 c (Xt c rfl rfl) ?_)
 exact ⟨by rw [Int.min_eq_right (by omega)],hW⟩
theorem Xwc(w0:World)(x:Gt) : Ret Tryz.prog 161 [.agg #[vi x.k,vi x.a,vi x.b]] w0 (fun v w=>v=.tuple #[gV (bkG x),vi (bkN x)]∧Below w0.heap.size w0 w):=by
 refine enter Tryz.func161 rfl 24 rfl rfl ?_;intro a d
 have f:=bz w0
 refine Zs d fun _ aO=>?_;refine Zf (X0c (zs:=[vi x.k,vi x.a,vi x.b]) rfl rfl) ?_;rintro _ w1 ⟨b2,rfl,aP,hE,e⟩;have t:=Q0 f.size aP;have f:=btr f hE;refine Zf (Xu (zs:=[vi 0,vi 0,vi 0]) X5w rfl) ?_;rintro _ w2 ⟨b3,rfl,aQ,hE,c⟩
 have aN:b2≠b3:=by have:=e.lt;omega
 have j:=Q0 f.size aQ;have e:=e.below hE;have f:=btr f hE;refine Za rfl<|ZX aO fun a d _ u=>?_;refine Zs d fun _ aR=>?_;refine Ze (Vd rfl X0p 0)<|Ze (X0 rfl X9 (e.at 0))<|Zt aR fun a d=>?_;refine Q8<|Q5 fun _ aE=>?_;refine Zs d fun _ aS=>?_;refine Ze (X0b rfl rfl)<|Za rfl<|Zt aS fun a d=>?_
 refine Xg d rfl (fun y=>?_) (fun y=>?_)
 ·have A:=y
  have aF:=eq_of_beq y
  refine Q7<|aE _ _<|Xau d (X1 rfl A) ?_;refine Zr d<|Ze (Vd rfl X0p 0)<|Ze (X0 rfl X9 (e.at 0))<|Ze (Xw rfl rfl (by omega) (by omega))<|Ze (Vd rfl X0p 0)<|Zo (Vu (vs:=[vi (x.k+1)]) (l':=[vi (x.k+1),vi x.a,vi x.b]) rfl rfl X08 e) ?_;rintro _ w3 ⟨i,m⟩;have g:=e;have c:=c.only i (by omega);have f:=Below.only f i t;have e:=m;refine Zn fun a d=>?_;refine Xa<|u _ _<|Zs d fun _ aT=>?_;refine Ze (Vn X0o e)<|Zo (Vw [vi (x.k+1),vi x.a,vi x.b] X1h c) ?_;rintro _ w4 ⟨i,m⟩;have g:=c;have f:=Below.only f i j;have c:=m;refine Za rfl<|Zt aT fun a d=>?_
  refine Q6 (X4 d (X17 d rfl (ResV.cellN (l:=[vi (x.k+1),vi x.a,vi x.b]) rfl X0o (c.at 0) rfl) rfl) ?_)
  exact ⟨by simp [bkG,bkN, *],f⟩
 have A:=y
 have aF:=ne_of_beq_false y
 refine Zr d<|Ze (X0b rfl rfl)<|Za rfl<|Zt aE fun a d=>?_
 refine Xg d rfl (fun n=>?_) (fun n=>?_)
 ·have a6:=n
  have a7:=eq_of_beq n
  refine Zr d<|Ze (Vd rfl X0p 0)<|Ze (X0 rfl X9 (e.at 0))<|Ze (Xw rfl rfl (by omega) (by omega))<|Ze (Vd rfl X0p 0)<|Zo (Vu (vs:=[vi (x.k+1)]) (l':=[vi (x.k+1),vi x.a,vi x.b]) rfl rfl X08 e) ?_;rintro _ w5 ⟨i,m⟩;have g:=e;have c:=c.only i (by omega);have f:=Below.only f i t;have e:=m;refine Zn fun a d=>?_;refine Xa<|u _ _<|Zs d fun _ aG=>?_;refine Ze (Vn X0o e)<|Zo (Vw [vi (x.k+1),vi x.a,vi x.b] X1h c) ?_;rintro _ w6 ⟨i,m⟩;have g:=c;have f:=Below.only f i j;have c:=m;refine Za rfl<|Zt aG fun a d=>?_
  refine Q6 (X4 d (X17 d rfl (ResV.cellN (l:=[vi (x.k+1),vi x.a,vi x.b]) rfl X0o (c.at 0) rfl) rfl) ?_)
  exact ⟨by simp [bkG,bkN, *],f⟩
 have a6:=n
 have a7:=ne_of_beq_false n
 refine Q5 fun _ B=>?_;refine Zs d fun _ aH=>?_;refine Ze (X0b rfl rfl)<|Za rfl<|Zt aH fun a d=>?_
 refine Xg d rfl (fun o=>?_) (fun o=>?_)
 ·have h:=o
  have a8:=eq_of_beq o
  refine Q7<|B _ _<|Xau d (X1 rfl h) ?_;refine Zr d<|Ze (Vd rfl X0p 0)<|Ze (X0 rfl X9 (e.at 0))<|Ze (X1g rfl rfl (by omega) (by omega))<|Ze (Vd rfl X0p 0)<|Zo (Vu (vs:=[vi (x.k-1)]) (l':=[vi (x.k-1),vi x.a,vi x.b]) rfl rfl X08 e) ?_;rintro _ w7 ⟨i,m⟩;have g:=e;have c:=c.only i (by omega);have f:=Below.only f i t;have e:=m;refine Zn fun a d=>?_;refine Xa<|u _ _<|Zs d fun _ aI=>?_;refine Ze (Vn X0o e)<|Zo (Vw [vi (x.k-1),vi x.a,vi x.b] X1h c) ?_;rintro _ w8 ⟨i,m⟩;have g:=c;have f:=Below.only f i j;have c:=m;refine Za rfl<|Zt aI fun a d=>?_
  refine Q6 (X4 d (X17 d rfl (ResV.cellN (l:=[vi (x.k-1),vi x.a,vi x.b]) rfl X0o (c.at 0) rfl) rfl) ?_)
  exact ⟨by simp [bkG,bkN, *],f⟩
 have h:=o
 have a8:=ne_of_beq_false o
 refine Zr d<|Ze (X0b rfl rfl)<|Za rfl<|Zt B fun a d=>?_
 refine Xg d rfl (fun p=>?_) (fun p=>?_)
 ·have aA:=p
  have aB:=eq_of_beq p
  refine Zr d<|Ze (Vd rfl X0p 0)<|Ze (X0 rfl X9 (e.at 0))<|Ze (X1g rfl rfl (by omega) (by omega))<|Ze (Vd rfl X0p 0)<|Zo (Vu (vs:=[vi (x.k-1)]) (l':=[vi (x.k-1),vi x.a,vi x.b]) rfl rfl X08 e) ?_;rintro _ w9 ⟨i,m⟩;have g:=e;have c:=c.only i (by omega);have f:=Below.only f i t;have e:=m;refine Zn fun a d=>?_;refine Xa<|u _ _<|Zs d fun _ aJ=>?_;refine Ze (Vn X0o e)<|Zo (Vw [vi (x.k-1),vi x.a,vi x.b] X1h c) ?_;rintro _ aU ⟨i,m⟩;have g:=c;have f:=Below.only f i j;have c:=m;refine Za rfl<|Zt aJ fun a d=>?_
  refine Q6 (X4 d (X17 d rfl (ResV.cellN (l:=[vi (x.k-1),vi x.a,vi x.b]) rfl X0o (c.at 0) rfl) rfl) ?_)
  exact ⟨by simp [bkG,bkN, *],f⟩
 have aA:=p
 have aB:=ne_of_beq_false p
 refine Zs d fun _ aK=>?_;refine Ze (X0b rfl rfl)<|Za rfl<|Zt aK fun a d=>?_
 refine Xg d rfl (fun q=>?_) (fun q=>?_)
 ·have aC:=q
  have aD:=eq_of_beq q
  refine Zs d fun _ aL=>?_;refine Ze (Vn X0o e)<|Zo (Vw [vi x.k,vi x.a,vi x.b] X1h c) ?_;rintro _ aW ⟨i,m⟩;have g:=c;have f:=Below.only f i j;have c:=m;refine Za rfl<|Zt aL fun a d=>?_;refine Q6<|Xq<|X6<|X4 d (X17 d rfl (ResV.cellN (l:=[vi x.k,vi x.a,vi x.b]) rfl X0o (c.at 0) rfl) rfl) ?_;exact ⟨by simp [bkG,bkN, *],f⟩
 have aC:=q
 have aD:=ne_of_beq_false q
 refine Q7<|Xa<|u _ _<|Zs d fun _ aM=>?_;refine Ze (Vn X0o e)<|Zo (Vw [vi x.k,vi x.a,vi x.b] X1h c) ?_;rintro _ aX ⟨i,m⟩;have g:=c;have f:=Below.only f i j;have c:=m;refine Za rfl<|Zt aM fun a d=>?_
 refine Q6 (X4 d (X17 d rfl (ResV.cellN (l:=[vi x.k,vi x.a,vi x.b]) rfl X0o (c.at 0) rfl) rfl) ?_)
 exact ⟨by simp [bkG,bkN, *],f⟩
theorem DeepR.nil(w:World)(B:Nat)(E:TypeId) : DeepR w B E []:=fun s hs=>by simp at hs
theorem DeepR.snoc{w:World}{B:Nat}{E:TypeId}{l:List Sr}{x:Sr}(h:DeepR w B E l)(h1:Rd w B E encG x.A x.old)(h2:Rd w B E encG x.B x.new) : DeepR w B E (l++[x]):=fun s hs=>by
 rcases Qu.1 hs with hs|hs
 ·exact h s hs
 ·rw [Qm] at hs
  subst hs
  exact ⟨h1,h2⟩
section
variable {P : Program} {a : Act} {w : World} {n : Nat} {e : Env} {ty : TypeId} {pos : String} {af : Array Edge} {g : Option (Nat × Bool)} {d : Option Tmp}
end
theorem Xcp(g:Gt) : ∀ (l:List Gt) (j:Nat),j≤nextC g l j
 | [],j=>Qb _
 | h::l,j=>by
  unfold nextC
  split
  ·exact Qb _
  ·exact Q0 (Nat.le_succ j) (Xcp g l (j+1))
theorem X96{gs:List Gt}{r:Rp} : ∀ n,canF gs n=some r→∃ i,i<n∧canAt gs i=some r
 | 0,h=>by cases h
 | n+1,h=>by
  unfold canF at h
  split at h
  ·rename_i r' h1
   injection h with h
   subst h
   obtain ⟨i,h2,h3⟩:=X96 n h1;exact ⟨i,by omega,h3⟩
  ·exact ⟨n,by omega,h⟩
theorem Xgq{gs:List Gt}{r:Rp}(h:canS gs=some r) : ∃ i j g,gs[i]? = some g∧gs[j]? = some (bkG g)∧g.k≠12∧i<j∧j<gs.length∧j<i+40∧j=canJ g gs i∧r=canR gs i j:=by
 obtain ⟨i,hi,h1⟩:=X96 _ h
 unfold canAt at h1
 split at h1
 ·cases h1
 ·rename_i g hg
  split at h1
  ·rename_i hb
   injection h1 with h1
   unfold canB at hb
   simp only [Qd,bne_iff_ne,Qr] at hb
   have:=Xcp g (gs.drop (i+1)) (i+1)
   exact ⟨i,canJ g gs i,g,hg,hb.2.2.2,hb.1,by unfold canJ;omega,by omega,by omega,rfl,h1.symm⟩
  ·cases h1
theorem Xsc{n:Int}{gs:List Gt}{r:Rp}(hc:cOk ⟨n,gs⟩=true)(h:canS gs=some r) :
  ∃ d,applyS ⟨n,gs⟩ r=some d∧d.n=n∧cOk d=true∧d.gs.length+2=gs.length∧r.old.length≤41∧r.new.length≤41:=by
 obtain ⟨i,j,g,hi,hj,hk,hij,hjl,h40,_,rfl⟩:=Xgq h;obtain ⟨hn,hl,hg⟩:=X7t hc
 dsimp only at hn hl hg
 have lo:(canR gs i j).old.length=j+1-i:=by simp [canR];omega
 have ln:(canR gs i j).new.length=j-i-1:=by simp [canR];omega
 have e2:((gs.take ((canR gs i j).pos.toNat+(canR gs i j).old.length)).drop (canR gs i j).pos.toNat)=(canR gs i j).old:=by
  rw [lo]
  show (gs.take ((i:Int).toNat+(j+1-i))).drop (i:Int).toNat=(gs.take (j+1)).drop i
  rw [Qj,show i+(j+1-i)=j+1 by omega]
 have mo:∀ x ∈ (canR gs i j).old,gOk n x=true:=fun x hx=>hg x (Wd (List.mem_of_mem_drop hx))
 have mn:∀ x ∈ (canR gs i j).new,gOk n x=true:=fun x hx=>hg x (Wd (List.mem_of_mem_drop hx))
 have hv:validS n (canR gs i j)=true:=by
  unfold validS
  simp only [Qd,X0f,Qr,Bool.not_eq_true',W7,lo,ln]
  refine ⟨⟨⟨hn,?_⟩,⟨fun x hx=>by simp [mo x hx],by omega⟩⟩,⟨fun x hx=>by simp [mn x hx],by omega⟩⟩
  show 0≤(i:Int)∧(i:Int)≤400
  omega
 have hf:fitS ⟨n,gs⟩ (canR gs i j)=true:=by
  unfold fitS
  rw [hv,lo,ln]
  simp only [Qw,Qd,Qr]
  constructor
  ·show (i:Int)+((j+1-i:Nat) : Int)≤(gs.length:Int)
   omega
  ·omega
 have ha:=Xc6 hf e2;have hk2:=(Xgz hc).2 _ ha
 refine ⟨_,ha,hk2.2.1,hk2.1,?_,by omega,by omega⟩
 show (gs.take (canR gs i j).pos.toNat++(canR gs i j).new++gs.drop ((canR gs i j).pos.toNat+(canR gs i j).old.length)).length+2=_
 rw [Qh,Qh,ln,lo,Qn,List.length_drop]
 show min (i:Int).toNat gs.length+(j-i-1)+(gs.length-((i:Int).toNat+(j+1-i)))+2=gs.length
 rw [Qj]
 omega
def canRun(n:Int) : Nat→List Gt→List Rp×Cx
 | 0,gs=>([],⟨n,gs⟩)
 | k+1,gs=>match canS gs with
  | none=>([],⟨n,gs⟩)
  | some r=>(r::(canRun n k ((applyS ⟨n,gs⟩ r).getD cZ).gs).1,(canRun n k ((applyS ⟨n,gs⟩ r).getD cZ).gs).2)
def canC(c:Cx) : Cx×List Rp×Cx:=if cOk c=true then (c,canRun c.n c.gs.length c.gs) else (cZ,[],cZ)
theorem Xcu{n:Int}{gs:List Gt}(h:canS gs=none) : ∀ k,canRun n k gs=([],⟨n,gs⟩)
 | 0=>rfl
 | k+1=>by unfold canRun;rw [h]
theorem Xcd{n:Int}{gs:List Gt}{r:Rp}(h:canS gs=some r)(k:Nat) : canRun n (k+1) gs=(r::(canRun n k ((applyS ⟨n,gs⟩ r).getD cZ).gs).1,(canRun n k ((applyS ⟨n,gs⟩ r).getD cZ).gs).2):=by
 conv=>lhs;unfold canRun
 rw [h]
structure CanI (c:Cx) (l:List Sr) (d:Cx) (k:Nat) : Prop where
 run:canRun c.n c.gs.length c.gs=(l.map Sr.rp++(canRun c.n k d.gs).1,(canRun c.n k d.gs).2)
 ok:cOk d=true
 n:d.n=c.n
 le:d.gs.length≤k
 len:l.length+d.gs.length≤c.gs.length
 small:∀ s ∈ l,s.old.length≤41∧s.new.length≤41
theorem CanI.start{c:Cx}(h:cOk c=true) : CanI c [] c c.gs.length:=⟨rfl,h,rfl,Qb _,by simp,fun s hs=>by simp at hs⟩
theorem CanI.next{c d:Cx}{l:List Sr}{k:Nat}(h:CanI c l d k){r:Rp}(hr:canS d.gs=some r){s:Sr}(hs:s.rp=r) : ∃ k',k=k'+1∧CanI c (l++[s]) ((applyS d r).getD cZ) k':=by
 have hd:d=⟨c.n,d.gs⟩:=by cases d;have:=h.n;simp only at this;rw [this]
 have hok:=h.ok
 rw [hd] at hok
 obtain ⟨e,he,e1,e2,e3,e4,e5⟩:=Xsc hok hr;have hle:=h.le
 obtain ⟨k',rfl⟩ : ∃ k',k=k'+1:=⟨k-1,by omega⟩
 have hd2:applyS d r=some e:=by rw [hd];exact he
 refine ⟨k',rfl,?_⟩
 rw [hd2,Qq]
 have hrun:=h.run
 rw [Xcd hr k',he,Qq] at hrun
 refine ⟨?_,e2,e1,by omega,by have:=h.len;simp;omega,fun x hx=>?_⟩
 ·rw [hrun,List.map_append,Qx]
  simp [hs]
 ·rcases Qu.1 hx with hx|hx
  ·exact h.small x hx
  ·rw [Qm] at hx
   subst hx
   subst hs
   exact ⟨e4,e5⟩
theorem CanI.done{c d:Cx}{l:List Sr}{k:Nat}(h:CanI c l d k)(hc:cOk c=true)(hn:canS d.gs=none) : canC c=(c,l.map Sr.rp,d):=by
 unfold canC
 rw [Q4 hc,h.run,Xcu hn k,List.append_nil]
 have:=h.n
 cases d
 simp only at this
 rw [this]
theorem Xuy(B:World)(c:Cx)(Ac:Option Addr)(cc:Nat)(i:Rd B B.heap.size 123 encG Ac c.gs)(aI:c.gs.length≤100000000) : Ret Tryz.prog 113 [.agg #[vi c.n,.slice Ac c.gs.length cc]] B (fun v w=>∃ A e,v=.agg #[vi c.n,.slice A c.gs.length e]∧Own w B.heap.size 123 3 encG A e c.gs∧Below B.heap.size B w):=by
 refine enter Tryz.func113 rfl 10 rfl rfl ?_;intro a t
 have f:=bz B
 refine Zs t fun _ aC=>?_;refine Zf (X0c (zs:=[vi c.n,.slice Ac c.gs.length cc]) rfl rfl) ?_;rintro _ w1 ⟨b3,rfl,aD,g,b⟩;have aH:=Q0 f.size aD;have f:=btr f g;refine Zf (Xu (zs:=[vi 0,.slice none 0 0]) X4e rfl) ?_;rintro _ w2 ⟨b5,rfl,aE,g,d⟩
 have aA:b3≠b5:=by have:=b.lt;omega
 have u:=Q0 f.size aE;have b:=b.below g;have f:=btr f g;refine ZX aC fun a t _ aF=>?_;refine X0a (fun a w=>∃ C D,Fr a 10 [(2,.pointer (some ⟨b5,0,none⟩))]∧Own w B.heap.size 123 3 encG C D c.gs∧Blk w b3 30 [vi c.n,.slice Ac c.gs.length cc]∧Blk w b5 30 [vi c.n,.slice C c.gs.length D]∧Below B.heap.size B w) ?_ ?_
 ·refine X05 none (fun j=>[5,7].contains j) mixed ?_;intro w3 g;have b:=b.below g;have d:=d.below g;have f:=btr f g;refine Yb t<|Yo 0 rfl (fun _=>Vd rfl X1d 0)<|Yo 3 rfl (fun _=>Vd rfl X18 1)<|Ye 4 rfl (X0 rfl X29 (b.at 1)) ?_;refine Y2 1 2 ?_ ?_
  ·refine Yz rfl trivial (Uev (X0 rfl X9 (b.at 0))) ?_;refine Y1 2<|Yk rfl trivial (Xm (k:=0) (vs:=[]) (zs:=[]) rfl X1f X1z rfl rfl) (fun _ _ ⟨_,_,_,h,_⟩=>h) ?_;rintro _ w4 ⟨b7,rfl,a6,g,aG⟩;have a7:=Q0 f.size a6;have aB:=(i.below' f).away a6;have b:=b.below g;have d:=d.below g;have f:=btr f g;refine Y1 5<|Yt rfl trivial rfl (X8l (enc:=encG) (l2:=(c.gs)) rfl rfl X1f X1z X16 X2r aG (i.below' f) (by simp only [maxLen];omega) (by omega)) ?_;rintro _ w5 ⟨C,D,rfl,q,g⟩;have q:=q.lower a7;have b:=b.below g;have d:=d.below g;have f:=btr f g;refine Yo 6 rfl (fun _=>X0w (ps:=[(0,vi c.n),(1,.slice C c.gs.length D)]) (cs:=[vi c.n,.slice C c.gs.length D]) rfl (fun _=>by first|rfl|kernel_rfl))<|Y1 7 ?_;refine Yh rfl trivial rfl (Vw [vi c.n,.slice C c.gs.length D] X1w d) ?_;rintro _ w6 ⟨x,hb⟩;have m:=d;have b:=b.only x (by omega);have q:=q.onlyT x m rfl;have f:=Below.only f x u;have d:=hb;refine Yd fun a t=>?_;exact ⟨C,D,t.sb,q,b,d,f⟩
  refine Yk rfl trivial (Xm (k:=0) (vs:=[]) (zs:=[]) rfl X1f X1z rfl rfl) (fun _ _ ⟨_,_,_,h,_⟩=>h) ?_;rintro _ w7 ⟨aJ,rfl,J,g,L⟩;have y:=Q0 f.size J;have a8:=(i.below' f).away J;have b:=b.below g;have d:=d.below g;have f:=btr f g;refine Y2 1 5 ?_ ?_
  ·refine Yz rfl trivial (Uev (X0 rfl X9 (b.at 0))) ?_;refine Y1 5<|Yt rfl trivial rfl (X8l (enc:=encG) (l2:=(c.gs)) rfl rfl X1f X1z X16 X2r L (i.below' f) (by simp only [maxLen];omega) (by omega)) ?_;rintro _ w8 ⟨E,G,rfl,o,g⟩;have o:=o.lower y;have b:=b.below g;have d:=d.below g;have f:=btr f g;refine Yo 6 rfl (fun _=>X0w (ps:=[(0,vi c.n),(1,.slice E c.gs.length G)]) (cs:=[vi c.n,.slice E c.gs.length G]) rfl (fun _=>by first|rfl|kernel_rfl))<|Y1 7 ?_;refine Yh rfl trivial rfl (Vw [vi c.n,.slice E c.gs.length G] X1w d) ?_;rintro _ w9 ⟨x,hb⟩;have m:=d;have b:=b.only x (by omega);have o:=o.onlyT x m rfl;have f:=Below.only f x u;have d:=hb;refine Yd fun a t=>?_;exact ⟨E,G,t.sb,o,b,d,f⟩
  refine Yt rfl trivial rfl (X8l (enc:=encG) (l2:=(c.gs)) rfl rfl X1f X1z X16 X2r L (i.below' f) (by simp only [maxLen];omega) (by omega)) ?_;rintro _ aK ⟨H,I,rfl,p,g⟩;have p:=p.lower y;have b:=b.below g;have d:=d.below g;have f:=btr f g;refine Y1 1<|Yz rfl trivial (Uev (X0 rfl X9 (b.at 0))) ?_;refine Yo 6 rfl (fun _=>X0w (ps:=[(0,vi c.n),(1,.slice H c.gs.length I)]) (cs:=[vi c.n,.slice H c.gs.length I]) rfl (fun _=>by first|rfl|kernel_rfl))<|Y1 7 ?_;refine Yh rfl trivial rfl (Vw [vi c.n,.slice H c.gs.length I] X1w d) ?_;rintro _ aL ⟨x,hb⟩;have m:=d;have b:=b.only x (by omega);have p:=p.onlyT x m rfl;have f:=Below.only f x u;have d:=hb;refine Yd fun a t=>?_;exact ⟨H,I,t.sb,p,b,d,f⟩
 rintro a aM ⟨C,D,t,q,b,d,f⟩;refine aF _ _ ?_
 refine Q6 (X4 t (Xt t rfl (ResV.cellN (l:=[vi c.n,.slice C c.gs.length D]) rfl X12 (d.at 0) rfl)) ?_)
 exact ⟨C,D,rfl,q,f⟩
theorem DeepR.drop{w:World}{B:Nat}{E:TypeId}{l:List Sr}(h:DeepR w B E l)(k:Nat) : DeepR w B E (l.drop k):=fun s hs=>h s (List.mem_of_mem_drop hs)
section
variable {P : Program} {a : Act} {w : World} {n : Nat} {e : Env} {ty : TypeId} {pos : String} {af : Array Edge} {g : Option (Nat × Bool)} {d : Option Tmp}
variable {t t' : TypeId} {x y : Operand} {i j k : Int}
end
def isTk(k:Int) : Bool:=k==7||k==8
def tcN(l:List Gt) : Nat:=l.countP fun g=>isTk g.k
theorem Xia{n m:Int}{g:Gt}(h:gOk n g=true)(h1:n≤m)(h2:m≤5) : gOk m g=true:=by
 unfold gOk at h ⊢
 simp only [Qd,X0f] at h ⊢
 obtain ⟨⟨h3,h4⟩,h5⟩:=h
 refine ⟨⟨⟨by omega,h2⟩,h4⟩,?_⟩
 split at h5
 ·rename_i h6;rw [Q4 h6];exact h5
 ·rename_i h6
  rw [Q3 h6]
  split at h5
  ·rename_i h7
   rw [Q4 h7]
   simp only [Qd,X0f] at h5 ⊢
   exact ⟨⟨by omega,by omega⟩,h5.2⟩
  ·rename_i h7
   rw [Q3 h7]
   simp only [Qd,X0f] at h5 ⊢
   exact ⟨by omega,h5.2⟩
section
variable {P : Program} {a : Act} {w : World} {n : Nat} {e : Env} {ty : TypeId} {pos : String} {af : Array Edge} {g : Option (Nat × Bool)} {d : Option Tmp}
end
theorem Xuz(w0:World)(x:Gt)(n:Int)(hg:gOk n x=true)(b1:n≤5) : Ret Tryz.prog 162 [.agg #[vi x.k,vi x.a,vi x.b]] w0 (fun v w=>v=.tuple #[gV (bkG x),vi (bkN x),.bool true]∧Below w0.heap.size w0 w):=by
 refine enter Tryz.func162 rfl 27 rfl rfl ?_;intro a d
 have f:=bz w0
 refine Zs d fun _ aT=>?_;refine Zf (X0c (zs:=[vi x.k,vi x.a,vi x.b]) rfl rfl) ?_;rintro _ w1 ⟨b2,rfl,aU,B,e⟩;have y:=Q0 f.size aU;have f:=btr f B;refine Zf (Xu (zs:=[vi 0,vi 0,vi 0]) X5w rfl) ?_;rintro _ w2 ⟨b3,rfl,aW,B,c⟩
 have aS:b2≠b3:=by have:=e.lt;omega
 have j:=Q0 f.size aW;have e:=e.below B;have f:=btr f B;refine Za rfl<|Za rfl<|ZX aT fun a d _ aX=>?_;refine Zs d fun _ aY=>?_;refine Ze (Vn X0o e)<|Zf (Vc (Xsn _ 5 x) Xh0) ?_;rintro _ w3 ⟨rfl,B⟩;have e:=e.below B;have c:=c.below B;have f:=btr f B;refine Ze (X0y rfl)<|Zt aY fun a d=>?_
 refine Xg d rfl (fun h=>?_) (fun h=>?_)
 ·have aH:=h
  rw [Xia hg (by omega) (by decide)] at h;simp at h
 have aH:=h;refine Q7<|aX _ _<|Q5 fun _ A=>?_;refine Zs d fun _ aZ=>?_;refine Ze (Vd rfl X0p 0)<|Ze (X0 rfl X9 (e.at 0))<|Zt aZ fun a d=>?_;refine Q8<|Zs d fun _ b0=>?_;refine Ze (X0b rfl rfl)<|Za rfl<|Zt b0 fun a d=>?_
 refine Xg d rfl (fun o=>?_) (fun o=>?_)
 ·have a6:=o
  have a7:=eq_of_beq o
  refine Zr d<|Ze (Vd rfl X0p 0)<|Zo (Vu (vs:=[vi 6]) (l':=[vi 6,vi x.a,vi x.b]) rfl rfl X08 e) ?_;rintro _ w4 ⟨i,m⟩;have g:=e;have c:=c.only i (by omega);have f:=Below.only f i y;have e:=m;refine Zn fun a d=>?_;refine Xa<|A _ _<|Zs d fun _ aI=>?_;refine Ze (Vn X0o e)<|Zo (Vw [vi 6,vi x.a,vi x.b] X1h c) ?_;rintro _ w5 ⟨i,m⟩;have g:=c;have f:=Below.only f i j;have c:=m;refine Za rfl<|Za rfl<|Zt aI fun a d=>?_
  refine Q6 (X4 d (Xci d rfl (ResV.cellN (l:=[vi 6,vi x.a,vi x.b]) rfl X0o (c.at 0) rfl) rfl rfl) ?_)
  exact ⟨by simp [bkG,bkN, *],f⟩
 have a6:=o
 have a7:=ne_of_beq_false o
 refine Zs d fun _ aJ=>?_;refine Ze (X0b rfl rfl)<|Za rfl<|Zt aJ fun a d=>?_
 refine Xg d rfl (fun p=>?_) (fun p=>?_)
 ·have a8:=p
  have aA:=eq_of_beq p
  refine Zr d<|Ze (Vd rfl X0p 0)<|Zo (Vu (vs:=[vi 5]) (l':=[vi 5,vi x.a,vi x.b]) rfl rfl X08 e) ?_;rintro _ w6 ⟨i,m⟩;have g:=e;have c:=c.only i (by omega);have f:=Below.only f i y;have e:=m;refine Zn fun a d=>?_;refine Xa<|A _ _<|Zs d fun _ aK=>?_;refine Ze (Vn X0o e)<|Zo (Vw [vi 5,vi x.a,vi x.b] X1h c) ?_;rintro _ w7 ⟨i,m⟩;have g:=c;have f:=Below.only f i j;have c:=m;refine Za rfl<|Za rfl<|Zt aK fun a d=>?_
  refine Q6 (X4 d (Xci d rfl (ResV.cellN (l:=[vi 5,vi x.a,vi x.b]) rfl X0o (c.at 0) rfl) rfl rfl) ?_)
  exact ⟨by simp [bkG,bkN, *],f⟩
 have a8:=p
 have aA:=ne_of_beq_false p
 refine Zs d fun _ aL=>?_;refine Ze (X0b rfl rfl)<|Za rfl<|Zt aL fun a d=>?_
 refine Xg d rfl (fun q=>?_) (fun q=>?_)
 ·have aB:=q
  have aC:=eq_of_beq q
  refine Zr d<|Ze (Vd rfl X0p 0)<|Zo (Vu (vs:=[vi 8]) (l':=[vi 8,vi x.a,vi x.b]) rfl rfl X08 e) ?_;rintro _ w8 ⟨i,m⟩;have g:=e;have c:=c.only i (by omega);have f:=Below.only f i y;have e:=m;refine Zn fun a d=>?_;refine Xa<|A _ _<|Zs d fun _ aM=>?_;refine Ze (Vn X0o e)<|Zo (Vw [vi 8,vi x.a,vi x.b] X1h c) ?_;rintro _ w9 ⟨i,m⟩;have g:=c;have f:=Below.only f i j;have c:=m;refine Za rfl<|Za rfl<|Zt aM fun a d=>?_
  refine Q6 (X4 d (Xci d rfl (ResV.cellN (l:=[vi 8,vi x.a,vi x.b]) rfl X0o (c.at 0) rfl) rfl rfl) ?_)
  exact ⟨by simp [bkG,bkN, *],f⟩
 have aB:=q
 have aC:=ne_of_beq_false q
 refine Zs d fun _ aN=>?_;refine Ze (X0b rfl rfl)<|Za rfl<|Zt aN fun a d=>?_
 refine Xg d rfl (fun t=>?_) (fun t=>?_)
 ·have aD:=t
  have aE:=eq_of_beq t
  refine Zr d<|Ze (Vd rfl X0p 0)<|Zo (Vu (vs:=[vi 7]) (l':=[vi 7,vi x.a,vi x.b]) rfl rfl X08 e) ?_;rintro _ b4 ⟨i,m⟩;have g:=e;have c:=c.only i (by omega);have f:=Below.only f i y;have e:=m;refine Zn fun a d=>?_;refine Xa<|A _ _<|Zs d fun _ aO=>?_;refine Ze (Vn X0o e)<|Zo (Vw [vi 7,vi x.a,vi x.b] X1h c) ?_;rintro _ b5 ⟨i,m⟩;have g:=c;have f:=Below.only f i j;have c:=m;refine Za rfl<|Za rfl<|Zt aO fun a d=>?_
  refine Q6 (X4 d (Xci d rfl (ResV.cellN (l:=[vi 7,vi x.a,vi x.b]) rfl X0o (c.at 0) rfl) rfl rfl) ?_)
  exact ⟨by simp [bkG,bkN, *],f⟩
 have aD:=t
 have aE:=ne_of_beq_false t
 refine Zs d fun _ aP=>?_;refine Ze (X0b rfl rfl)<|Za rfl<|Zt aP fun a d=>?_
 refine Xg d rfl (fun u=>?_) (fun u=>?_)
 ·have aF:=u
  have aG:=eq_of_beq u
  refine Zs d fun _ aQ=>?_;refine Ze (Vn X0o e)<|Zo (Vw [vi x.k,vi x.a,vi x.b] X1h c) ?_;rintro _ b6 ⟨i,m⟩;have g:=c;have f:=Below.only f i j;have c:=m;refine Za rfl<|Za rfl<|Zt aQ fun a d=>?_;refine Q6<|Xq<|X6<|X4 d (Xci d rfl (ResV.cellN (l:=[vi x.k,vi x.a,vi x.b]) rfl X0o (c.at 0) rfl) rfl rfl) ?_;exact ⟨by simp [bkG,bkN, *],f⟩
 have aF:=u
 have aG:=ne_of_beq_false u
 refine Q7<|Xa<|A _ _<|Zs d fun _ aR=>?_;refine Ze (Vn X0o e)<|Zo (Vw [vi x.k,vi x.a,vi x.b] X1h c) ?_;rintro _ b7 ⟨i,m⟩;have g:=c;have f:=Below.only f i j;have c:=m;refine Za rfl<|Za rfl<|Zt aR fun a d=>?_
 refine Q6 (X4 d (Xci d rfl (ResV.cellN (l:=[vi x.k,vi x.a,vi x.b]) rfl X0o (c.at 0) rfl) rfl rfl) ?_)
 exact ⟨by simp [bkG,bkN, *],f⟩
end Go.Proofs.YtpifljegadknkaaGreat
namespace Go.Proofs.YtpifljegadknkaaGreat
def xb(β m:Nat→Bool) : Nat→Bool:=fun p=>β p != m p
def msk(g:Gt)(β:Nat→Bool) : Nat→Bool:=fun p=>
 if g.k=9 then decide (p=g.b.toNat)&&β g.a.toNat
 else if g.k=11 then (decide (p=g.a.toNat)||decide (p=g.b.toNat))&&(β g.a.toNat != β g.b.toNat)
 else false
def oneK(k:Int) : Bool:=decide (k≠12∧¬ (9≤k∧k≤11))
def flp(g:Gt) : Nat→Bool:=fun p=>oneK g.k&&decide (p=g.a.toNat)
def c0(g:Gt)(β:Nat→Bool) : Rg:=
 if g.k=12 then om else if g.k=9 then 1 else if g.k=10 then (if β g.a.toNat&&β g.b.toNat then om^4 else 1) else if g.k=11 then 1 else u1 g.k (β g.a.toNat) (β g.a.toNat)
def c1(g:Gt)(β:Nat→Bool) : Rg:=if oneK g.k=true then u1 g.k (β g.a.toNat) (!β g.a.toNat) else 0
def TwoQ(g:Gt) : Prop:=9≤g.k∧g.k≤11→g.a.toNat≠g.b.toNat
def Sup(g:Gt)(q:Nat) : Prop:=(g.k≠12∧q=g.a.toNat)∨((9≤g.k∧g.k≤11)∧q=g.b.toNat)
def Dis(g h:Gt) : Prop:=∀ q,Sup g q→¬ Sup h q
theorem Dis.symm{g h:Gt}(hd:Dis g h) : Dis h g:=fun q h1 h2=>hd q h2 h1
def bkK(k:Int) : Int:=if k=5∨k=7 then k+1 else if k=6∨k=8 then k-1 else k
def qN(z:Rg) : Int:=z.a*z.a+z.b*z.b+z.c*z.c+z.d*z.d
def Cb(K:Int)(z:Rg) : Prop:=(-K≤z.a∧z.a≤K)∧(-K≤z.b∧z.b≤K)∧(-K≤z.c∧z.c≤K)∧(-K≤z.d∧z.d≤K)
def BB:Int:=1000000000000000000
def Un(z:Rg) : Prop:=z=0∨∃ j:Nat,z=om^j
end Go.Proofs.YtpifljegadknkaaGreat
namespace Go.Proofs.YtpifljegadknkaaGreat
open Go.RowKit
abbrev En:=Int×Int×Nat
def findI(l:List En)(x:Int) : Option Int:=(l.find? fun p=>p.1==x).map fun p=>p.2.1
structure Pw (l:List En) (clock:Nat) : Prop where
 keys:(l.map fun p=>p.1).Nodup
 borns:(l.map fun p=>p.2.2).Nodup
 old:∀ p ∈ l,p.2.2<clock
def MapF(w:World)(b:Nat)(f:Int→Int) : Prop:=∃ l clock,MapI w b l clock∧Pw l clock∧∀ x,(findI l x).getD 0=f x
def upd(f:Int→Int)(m v:Int) : Int→Int:=fun x=>if x=m then v else f x
section
variable {w w' : World} {b b' : Nat} {f : Int → Int}
theorem MapI.lt{clock:Nat}{l:List En}(h:MapI w b l clock) : b<w.heap.size:=by
 rcases W4 b w.heap.size with h'|h'
 ·exact h'
 ·simp [MapI,We h'] at h
theorem MapF.lt(h:MapF w b f) : b<w.heap.size:=let ⟨_,_,h,_⟩:=h;h.lt
theorem MapF.below(h:MapF w b f)(hb:Below w.heap.size w w') : MapF w' b f:=let ⟨l,c,h,g⟩:=h;⟨l,c,h.below hb,g⟩
theorem MapF.only(h:MapF w b f)(ho:Only b' w w')(hne:b≠b') : MapF w' b f:=let ⟨l,c,h,g⟩:=h;⟨l,c,h.only ho hne,g⟩
theorem MapF.ne{T:TypeId}{cs:List Value}(h:MapF w b f)(hb:Blk w b' T cs) : b≠b':=let ⟨_,_,h,_⟩:=h;h.ne hb
end
theorem Pw.push{l:List En}{clock:Nat}(h:Pw l clock){x v:Int}(hx:∀ q ∈ l,q.1≠x) : Pw (l++[(x,v,clock)]) (clock+1):=by
 refine ⟨?_,?_,fun p hp=>?_⟩
 ·rw [List.map_append,List.nodup_append]
  refine ⟨h.keys,by simp,fun a ha b hb=>?_⟩
  obtain ⟨q,hq,rfl⟩:=W6.1 ha
  simp at hb
  rw [hb]
  exact hx q hq
 ·rw [List.map_append,List.nodup_append]
  refine ⟨h.borns,by simp,fun a ha b hb=>?_⟩
  obtain ⟨q,hq,rfl⟩:=W6.1 ha
  simp at hb
  have:=h.old q hq
  omega
 ·rcases Qu.1 hp with hp|hp
  ·have:=h.old p hp;omega
  ·rw [Qm.1 hp];exact Nat.lt_succ_self _
theorem Pw.drop{l1 l2:List En}{p:En}{clock:Nat}(h:Pw (l1++p::l2) clock) : Pw (l1++l2) clock:=by
 have hs:(l1++l2).Sublist (l1++p::l2):=List.Sublist.append (List.Sublist.refl _) (List.sublist_cons_self _ _)
 exact ⟨h.keys.sublist (hs.map _),h.borns.sublist (hs.map _),fun q hq=>h.old q (hs.subset hq)⟩
theorem Pw.other{l1 l2:List En}{p:En}{clock:Nat}(h:Pw (l1++p::l2) clock) : ∀ q ∈ l2,q.1≠p.1:=by
 have:=h.keys
 rw [List.map_append,List.nodup_append] at this
 have h2:=this.2.1
 rw [List.map_cons,List.nodup_cons] at h2
 intro q hq e;exact h2.1 (W6.2 ⟨q,hq,e⟩)
def NC(w:World)(b:Nat) : Prop:=∀ l T fz,w.heap[b]?≠some (.cells l T fz)
theorem MapF.nc{w:World}{b:Nat}{f:Int→Int}(h:MapF w b f) : NC w b:=fun l T fz e=>by
 obtain ⟨_,_,h,_⟩:=h
 unfold MapI at h
 rw [h] at e;cases e
section
variable {α : Type} {w w' : World} {b B : Nat} {E : TypeId} {enc : α → List Value} {A : Option Addr} {l : List α}
theorem NC.ne{b':Nat}{T:TypeId}{cs:List Value}(h:NC w b)(hb:Blk w b' T cs) : b≠b':=by
 rintro rfl;exact h _ _ _ hb
theorem Blk.onlyN{b':Nat}{T:TypeId}{cs:List Value}(h:Blk w b' T cs)(ho:Only b w w')(hm:NC w b) : Blk w' b' T cs:=h.only ho (Ne.symm (hm.ne h))
theorem Rd.onlyN(h:Rd w B E enc A l)(ho:Only b w w')(hm:NC w b) : Rd w' B E enc A l:=h.chg fun k cs fz _ hk=>ho.block k fun e=>by
 rw [e] at hk;exact hm _ _ _ hk
theorem Own.onlyN{sz c:Nat}(h:Own w B E sz enc A c l)(ho:Only b w w')(hm:NC w b) : Own w' B E sz enc A c l:=by
 refine ⟨h.1,?_⟩
 rcases h.2 with k1|⟨g,cap,cur,k1,k2,k3,k4⟩
 ·exact .inl k1
 ·refine .inr ⟨g,cap,cur,k1,k2,(ho.block g fun e=>?_).trans k3,k4⟩
  rw [e] at k3;exact hm _ _ _ k3
theorem NC.app{sz n c c' b0:Nat}(h:NC w b0)(hlt:b0<w.heap.size)(ho:Own w B E sz enc A c l)(hg:w.grownBy w' (Value.slice A n c').ownBlock) : w'.heap[b0]? = w.heap[b0]?:=by
 refine hg.block b0 hlt fun hk=>?_
 rw [X7c A n l.length c' c] at hk
 obtain ⟨_,_,cs,fz,h3⟩:=ho.block hk.symm;exact h _ _ _ h3
theorem MapF.app{sz n c c':Nat}{f:Int→Int}(h:MapF w b f)(ho:Own w B E sz enc A c l)(hg:w.grownBy w' (Value.slice A n c').ownBlock) : MapF w' b f:=by
 have e:=h.nc.app h.lt ho hg
 obtain ⟨l2,cl,hL,hg2⟩:=h;exact ⟨l2,cl,e.trans hL,hg2⟩
end
section
variable {a : Act} {w : World} {n : Nat} {e : Env} {ty : TypeId} {pos : String} {af : Array Edge} {g : Option (Nat × Bool)} {d : Option Tmp} {b : Nat} {f : Int → Int} {T : TypeId}
theorem Xd4{f:Int→Int}{m v x:Int}(h:x≠m) : upd f m v x=f x:=Q3 h
theorem Xr5{f:Int→Int}{m v:Int} : upd f m v m=v:=Q4 rfl
end
def MapR(w:World)(b r:Nat)(f:Int→Int)(left:Int→Bool)(cnt:Nat) : Prop:=∃ l clock since seen c0,MapI w b l clock∧Pw l clock∧(∀ x,(findI l x).getD 0=f x)∧
 w.heap[r]? = some (.mapIter (some b) since seen c0)∧(∀ p ∈ l,p.2.2<since)∧since≤c0∧since≤clock∧(leftOf (l.map entI).toArray seen).size=cnt∧
 (∀ p ∈ l,left p.1 = !seen.contains p.2.2)∧(∀ x,left x=true→∃ p ∈ l,p.1=x)
section
variable {w w' : World} {b r : Nat} {f : Int → Int} {left : Int → Bool} {cnt : Nat}
theorem MapR.nc(h:MapR w b r f left cnt) : NC w r:=fun l T fz e=>by
 obtain ⟨_,_,_,_,_,_,_,_,hr,_⟩:=h
 rw [hr] at e;cases e
theorem MapR.mapF(h:MapR w b r f left cnt) : MapF w b f:=let ⟨l,c,_,_,_,h1,h2,h3,_⟩:=h;⟨l,c,h1,h2,h3⟩
theorem MapR.lt(h:MapR w b r f left cnt) : r<w.heap.size:=by
 obtain ⟨_,_,_,_,_,_,_,_,hr,_⟩:=h;exact (Qp.1 hr).1
theorem MapR.ne(h:MapR w b r f left cnt) : b≠r:=by
 rintro rfl;obtain ⟨_,_,_,_,_,hb,_,_,hr,_⟩:=h
 unfold MapI at hb
 rw [hb] at hr;cases hr
theorem MapR.same(h:MapR w b r f left cnt)(hb:w'.heap[b]? = w.heap[b]?)(hr:w'.heap[r]? = w.heap[r]?) : MapR w' b r f left cnt:=
 let ⟨l,c,s,z,c0,h1,h2,h3,h4,h5⟩:=h
 ⟨l,c,s,z,c0,hb.trans h1,h2,h3,hr.trans h4,h5⟩
theorem MapR.below(h:MapR w b r f left cnt)(hE:Below w.heap.size w w') : MapR w' b r f left cnt:=h.same (hE.block b h.mapF.lt) (hE.block r h.lt)
theorem MapR.only{b':Nat}(h:MapR w b r f left cnt)(ho:Only b' w w')(h1:b≠b')(h2:r≠b') : MapR w' b r f left cnt:=h.same (ho.block b h1) (ho.block r h2)
theorem MapR.app{α:Type}{B:Nat}{E:TypeId}{enc:α→List Value}{A:Option Addr}{l:List α}{sz n c c':Nat}(h:MapR w b r f left cnt)(ho:Own w B E sz enc A c l)(hg:w.grownBy w' (Value.slice A n c').ownBlock) : MapR w' b r f left cnt:=
 h.same (h.mapF.nc.app h.mapF.lt ho hg) (h.nc.app h.lt ho hg)
end
section
variable {a : Act} {w : World} {n : Nat} {e : Env} {ty : TypeId} {pos : String} {af : Array Edge} {g : Option (Nat × Bool)} {d : Option Tmp} {b r : Nat} {f : Int → Int} {T : TypeId} {left : Int → Bool} {cnt : Nat}
def EntR(w:World)(r:Nat)(k v:Int) : Prop:=∀ w',Below w.heap.size w w'→(Instr.entry (.pointer (some ⟨r,0,none⟩))).run Tryz.prog w'=.ok (.tuple #[.int .i64 k,.int .i64 v]) w'
def NextR(w:World)(b r:Nat)(f:Int→Int)(left:Int→Bool)(cnt:Nat)(v:Value)(w':World) : Prop:=
 (v=.tuple #[.bool false]∧w'=w∧∀ x,left x=false)∨
 ∃ k cnt',v=.tuple #[.bool true,.int .i64 k,.int .i64 (f k)]∧left k=true∧Only r w w'∧MapR w' b r f (fun x=>left x&&x != k) cnt'∧cnt'<cnt∧
  EntR w' r k (f k)
end
structure Tm where (m c:Int) deriving DecidableEq
structure Af where (m t:Int) deriving DecidableEq
def encT(x:Tm) : List Value:=[.int .i64 x.m,.int .i64 x.c]
def encA(x:Af) : List Value:=[.int .i64 x.m,.int .i64 x.t]
abbrev aV(x:Af) : Value:=.agg #[.int .i64 x.m,.int .i64 x.t]
abbrev uV(x:Tm) : Value:=.agg #[.int .i64 x.m,.int .i64 x.c]
def padd(f:Int→Int)(m k:Int) : Int→Int:=upd f m ((f m+k) % 8)
def PO(f:Int→Int) : Prop:=∀ x,0≤f x∧f x<8
theorem PO.padd{f:Int→Int}(h:PO f)(m k:Int) : PO (padd f m k):=fun x=>by
 unfold Proofs.YtpifljegadknkaaGreat.padd upd
 split
 ·omega
 ·exact h x
theorem PO.zero:PO (fun _=>0):=fun _=>⟨by show (0:Int)≤0;omega,by show (0:Int)<8;omega⟩
def Rise(T:List Tm) : Prop:=T.Pairwise fun x y=>x.m<y.m
structure IsT (f:Int→Int) (T:List Tm) : Prop where
 rise:Rise T
 mem:∀ t:Tm,t ∈ T↔0<t.m∧t.m<16777216∧t.c=f t.m∧f t.m≠0
theorem Xec:∀ {T U:List Tm},Rise T→Rise U→(∀ t,t ∈ T↔t ∈ U)→T=U
 | [],[],_,_,_=>rfl
 | [],u::U,_,_,h=>absurd ((h u).2 (by simp)) (by simp)
 | t::T,[],_,_,h=>absurd ((h t).1 (by simp)) (by simp)
 | t::T,u::U,hT,hU,h=>by
  unfold Rise at hT hU
  rw [W8] at hT hU
  have htu:t=u:=by
   rcases Qv.1 ((h t).1 (by simp)) with e|e
   ·exact e
   ·rcases Qv.1 ((h u).2 (by simp)) with e'|e'
    ·exact e'.symm
    ·have h1:=hT.1 u e';have h2:=hU.1 t e
     omega
  subst htu
  congr 1
  refine Xec hT.2 hU.2 fun x=>⟨fun hx=>?_,fun hx=>?_⟩
  ·rcases Qv.1 ((h x).1 (Ql _ hx)) with e|e
   ·have:=hT.1 x hx;rw [e] at this;omega
   ·exact e
  ·rcases Qv.1 ((h x).2 (Ql _ hx)) with e|e
   ·have:=hU.1 x hx;rw [e] at this;omega
   ·exact e
def tmN(f:Int→Int) : Nat→List Tm
 | 0=>[]
 | n+1=>if 0<(n:Int)∧f n≠0 then tmN f n++[⟨n,f n⟩] else tmN f n
theorem Xdj(f:Int→Int) : ∀ N:Nat,Rise (tmN f N)∧∀ t:Tm,t ∈ tmN f N↔0<t.m∧t.m<(N:Int)∧t.c=f t.m∧f t.m≠0
 | 0=>⟨List.Pairwise.nil,fun t=>by simp [tmN];omega⟩
 | n+1=>by
  obtain ⟨h1,h2⟩:=Xdj f n
  unfold tmN
  by_cases hn:0<(n:Int)∧f n≠0
  ·rw [Q4 hn]
   refine ⟨?_,fun t=>?_⟩
   ·unfold Rise
    rw [List.pairwise_append]
    refine ⟨h1,List.pairwise_singleton _ _,fun x hx y hy=>?_⟩
    rw [Qm.1 hy]
    exact ((h2 x).1 hx).2.1
   ·rw [Qu,h2,Qm]
    constructor
    ·rintro (⟨a,b,c⟩|rfl)
     ·exact ⟨a,by omega,c⟩
     ·exact ⟨hn.1,by show (n:Int)<_;omega,rfl,hn.2⟩
    ·rintro ⟨a,b,c,d⟩
     by_cases e:t.m=n
     ·right
      obtain ⟨m,c'⟩:=t
      simp only at e c
      rw [c,e]
     ·left
      exact ⟨a,by omega,c,d⟩
  ·rw [Q3 hn]
   refine ⟨h1,fun t=>?_⟩
   rw [h2]
   constructor
   ·rintro ⟨a,b,c⟩;exact ⟨a,by omega,c⟩
   ·rintro ⟨a,b,c,d⟩
    refine ⟨a,?_,c,d⟩
    by_cases e:t.m=n
    ·rw [e] at a d;exact absurd ⟨a,d⟩ hn
    ·omega
@[irreducible] def tms (f:Int→Int) : List Tm:=tmN f 16777216
theorem X8m(f:Int→Int) : IsT f (tms f):=by
 unfold tms
 exact ⟨(Xdj f 16777216).1,(Xdj f 16777216).2⟩
theorem IsT.eq{f:Int→Int}{T:List Tm}(h:IsT f T) : T=tms f:=Xec h.rise (X8m f).rise fun t=>(h.mem t).trans ((X8m f).mem t).symm
def oI(a b:Int) : Int:=bits .or .i64 a b
def exZ(r x y k:Int)(l:List Int)(f:Int→Int) : Nat→Int→Int
 | 0=>f
 | n+1=>padd (exZ r x y k l f n) (oI (oI (oI r x) y) (l.getD n 0)) (4*k)
def exY(r x k:Int)(l:List Int)(f:Int→Int) : Nat→Int→Int
 | 0=>f
 | j+1=>exZ r x (l.getD j 0) k l (padd (exY r x k l f j) (oI (oI r x) (l.getD j 0)) (-2*k)) j
def exX(r k:Int)(l:List Int)(f:Int→Int) : Nat→Int→Int
 | 0=>f
 | i+1=>exY r (l.getD i 0) k l (padd (exX r k l f i) (oI r (l.getD i 0)) k) i
theorem PO.exZ{f:Int→Int}(h:PO f)(r x y k:Int)(l:List Int) : ∀ n,PO (exZ r x y k l f n)
 | 0=>h
 | n+1=>(PO.exZ h r x y k l n).padd _ _
theorem PO.exY{f:Int→Int}(h:PO f)(r x k:Int)(l:List Int) : ∀ n,PO (exY r x k l f n)
 | 0=>h
 | n+1=>((PO.exY h r x k l n).padd _ _).exZ _ _ _ _ _ _
theorem PO.exX{f:Int→Int}(h:PO f)(r k:Int)(l:List Int) : ∀ n,PO (exX r k l f n)
 | 0=>h
 | n+1=>((PO.exX h r k l n).padd _ _).exY _ _ _ _ _
def lows(m:Int) : List Int:=(setN m.toNat).map fun k=>((2^k:Nat) : Int)
def expP(f:Int→Int)(k:Int)(a:Af)(r:Int) : Int→Int:=
 if a.t=1 then exX r (-k) (lows a.m) (padd f r k) (lows a.m).length else exX r k (lows a.m) f (lows a.m).length
theorem PO.expP{f:Int→Int}(h:PO f)(k:Int)(a:Af)(r:Int) : PO (expP f k a r):=by
 unfold Proofs.YtpifljegadknkaaGreat.expP
 split
 ·exact (h.padd _ _).exX _ _ _ _
 ·exact h.exX _ _ _ _
def encTx(s:ByteArray) : List Value:=[.string s]
def tx(l:List UInt8) : ByteArray:=⟨l.toArray⟩
section
variable {P : Program} {a : Act} {w : World} {n : Nat} {e : Env} {ty : TypeId} {pos : String} {af : Array Edge} {g : Option (Nat × Bool)} {d : Option Tmp} {t t' : TypeId}
end
theorem Vx{P:Program}{o:Oper}{n:Nat}{e:List (Nat×Value)}{w:World}{k:IntKind}{a b:Int}(h:EvW P o n e w (.int k a))(e2:a=b) : EvW P o n e w (.int k b):=e2▸h
theorem Xgr(M:Nat) : (setN M).Pairwise (· < ·):=List.Pairwise.filter _ List.pairwise_lt_range
theorem Xjn{M:Nat}(hM:M<2^62)(h:M≠0) : ∃ q t,setN M=q::t:=by
 cases e:setN M with
 | cons q t=>exact ⟨q,t,rfl⟩
 | nil=>
  refine absurd (Nat.eq_of_testBit_eq fun i=>?_) h
  rw [Nat.zero_testBit]
  cases e2:M.testBit i with
  | false=>rfl
  | true=>have:=(X4x hM).2 e2;rw [e] at this;cases this
abbrev Sm:=Int×Int
def foldA(L:List Sm)(f:Int→Int) : Int→Int:=L.foldl (fun f p=>padd f p.1 p.2) f
def sumA(L:List Sm)(x:Int) : Int:=(L.map fun p=>if p.1=x then p.2 else 0).sum
theorem X6u(L M:List Sm)(f:Int→Int) : foldA (L++M) f=foldA M (foldA L f):=List.foldl_append ..
theorem Xgn(L:List Sm)(m k:Int)(f:Int→Int) : foldA (L++[(m,k)]) f=padd (foldA L f) m k:=by rw [X6u];rfl
theorem PO.foldA:∀ (L:List Sm) {f:Int→Int},PO f→PO (foldA L f)
 | [],_,h=>h
 | p::L,_,h=>PO.foldA L (h.padd p.1 p.2)
theorem X72(p:Sm)(L:List Sm)(x:Int) : sumA (p::L) x=(if p.1=x then p.2 else 0)+sumA L x:=by simp [sumA]
theorem Xm8(f:Int→Int)(h:PO f)(m k x:Int) : padd f m k x=(f x+if m=x then k else 0) % 8:=by
 unfold padd upd
 by_cases e:x=m
 ·subst e;simp
 ·have:=h x
  rw [Q3 e,Q3 (Ne.symm e)];omega
theorem X44:∀ (L:List Sm) {f:Int→Int},PO f→∀ x,foldA L f x=(f x+sumA L x) % 8
 | [],f,h,x=>by
  have:=h x
  show f x=_
  simp [sumA];omega
 | p::L,f,h,x=>by
  show foldA L (padd f p.1 p.2) x=_
  rw [X44 L (h.padd p.1 p.2),Xm8 f h,X72]
  omega
def lowT(a:Af) : List Int:=lows a.m++(if a.t=1 then [0] else [])
def sumI(u v:Af) : List Sm:=(lowT u).flatMap fun x=>(lowT v).map fun y=>(oI x y,4)
def sumS(u v:Af) : List Sm:=((lows u.m).flatMap fun x=>((lows v.m).map fun y=>(oI x y,4))++[(x,4*v.t)])++((lows v.m).map fun y=>(y,4*u.t))++[(0,4*u.t*v.t)]
structure TurnS (S:Nat→Prop) (w w':World) : Prop where
 os:w'.os=w.os
 tape:w'.tape=w.tape
 output:w'.output=w.output
 size:w.heap.size≤w'.heap.size
 block:∀ k,k<w.heap.size→¬ S k→w'.heap[k]? = w.heap[k]?
theorem TurnS.refl(S:Nat→Prop)(w:World) : TurnS S w w:=⟨rfl,rfl,rfl,Qb _,fun _ _ _=>rfl⟩
def ownB(A:Option Addr) : Option Nat:=(Value.slice A 0 0).ownBlock
theorem X4j(A:Option Addr)(n c:Nat) : (Value.slice A n c).ownBlock=ownB A:=X7c A n 0 c 0
def S3(b m:Nat)(A:Option Addr)(k:Nat) : Prop:=k=b∨k=m∨ownB A=some k
section
variable {S S' : Nat → Prop} {w0 w w' : World} {b : Nat} {A : Option Addr} {n c : Nat}
theorem tsbel(h:TurnS S w0 w)(hE:Below w.heap.size w w') : TurnS S w0 w':=
 ⟨hE.os.trans h.os,hE.tape.trans h.tape,hE.output.trans h.output,Q0 h.size hE.size,fun k hk h1=>(hE.block k (Nat.lt_of_lt_of_le hk h.size)).trans (h.block k hk h1)⟩
theorem tsonly(h:TurnS S w0 w)(ho:Only b w w')(hb:S b∨w0.heap.size≤b) : TurnS S w0 w':=
 ⟨ho.os.trans h.os,ho.tape.trans h.tape,ho.output.trans h.output,by rw [ho.size];exact h.size,fun k hk h1=>(ho.block k (fun e=>by
  subst e
  rcases hb with hb|hb
  ·exact h1 hb
  ·omega)).trans (h.block k hk h1)⟩
theorem tsrow(h:TurnS S w0 w)(hg:w.grownBy w' (Value.slice A n c).ownBlock)(hs:∀ k,ownB A=some k→S k∨w0.heap.size≤k) : TurnS S w0 w':=
 ⟨hg.os.trans h.os,hg.tape.trans h.tape,hg.output.trans h.output,Q0 h.size hg.size,fun k hk h1=>(hg.block k (Nat.lt_of_lt_of_le hk h.size) (fun e=>by
  rw [X4j] at e
  rcases hs k e.symm with hb|hb
  ·exact h1 hb
  ·omega)).trans (h.block k hk h1)⟩
theorem tstr(h:TurnS S w0 w)(k:TurnS S' w w')(hs:∀ k,S' k→S k∨w0.heap.size≤k) : TurnS S w0 w':=
 ⟨k.os.trans h.os,k.tape.trans h.tape,k.output.trans h.output,Q0 h.size k.size,fun q hq h1=>(k.block q (Nat.lt_of_lt_of_le hq h.size) (fun e=>by
  rcases hs q e with hb|hb
  ·exact h1 hb
  ·omega)).trans (h.block q hq h1)⟩
theorem Below.ts{B:Nat}(h:Below B w0 w)(k:TurnS S w w')(hs:∀ k,S k→B≤k)(hB:B≤w.heap.size) : Below B w0 w':=
 h.trans ⟨k.os,k.tape,k.output,k.size,fun q hq=>k.block q (Nat.lt_of_lt_of_le hq hB) fun e=>by have:=hs q e;omega⟩
end
section
variable {α : Type} {w : World} {B0 : Nat} {E : TypeId} {enc : α → List Value} {A : Option Addr} {l : List α} {sz c : Nat}
theorem S3.row{b m:Nat}(k:Nat)(h:ownB A=some k) : S3 b m A k:=.inr (.inr h)
theorem X1t(h:Own w B0 E sz enc A c l){k:Nat}(hk:ownB A=some k) : B0≤k:=(h.block (k:=k) (by rw [X4j];exact hk)).1
theorem X0g(ho:Own w B0 E sz enc A c l)(hsz:∀ x,(enc x).length=sz){k:Nat}{u:α}(hk:l[k]? = some u)(j:Nat){m:Nat}(hm:k*sz+j=m) : At w (oA A m) ((enc u).drop j):=by
 subst hm
 rcases ho.2 with ⟨e1,e2⟩|⟨b,cap,cur,e1,e2,e3,e4,e5,e6,e7⟩
 ·have:l=[]:=List.eq_nil_of_length_eq_zero e2
  rw [this] at hk;cases hk
 ·injection e1 with e1 _ e1'
  obtain ⟨p,hp,h⟩:=Rd.at hsz ho.rd hk
  rw [e1] at hp ⊢
  injection hp with hp
  subst hp
  intro i v hv
  rw [List.getElem?_drop] at hv
  have h2:=h _ v hv
  show w.cell? ((⟨b,k*sz+j,none⟩ : Addr).add i)=_
  rw [X1k] at h2 ⊢
  rw [X1k] at h2
  rw [← h2]
  congr 2
  omega
end
structure Ps where (ins vars root phase:Int) (ts:List Tm) (out:List Af)
def psZ:Ps:=⟨0,0,0,0,[],[]⟩
structure Pst where (f:Int→Int) (v:Nat) (out:List Af)
def afZ:Af:=⟨0,0⟩
def aAt(l:List Af)(i:Int) : Af:=l.getD i.toNat afZ
def xI(a b:Int) : Int:=bits .xor .i64 a b
def aXor(a b:Af) : Af:=⟨xI a.m b.m,xI a.t b.t⟩
def rotC(k:Int) : Int:=if k=4 then 4 else if k=5 then 2 else if k=6 then 6 else if k=7 then 1 else if k=8 then 7 else 0
def varA(n:Nat) : Af:=⟨((2^n:Nat) : Int),0⟩
def psStep(n:Nat)(s:Pst)(g:Gt) : Option Pst:=
 if g.k=1 then (if 24≤n+s.v then none else some ⟨foldA (sumS (aAt s.out g.a) (varA (n+s.v))) s.f,s.v+1,s.out.set g.a.toNat (varA (n+s.v))⟩)
 else if g.k=2 then some ⟨s.f,s.v,s.out.set g.a.toNat (aXor (aAt s.out g.a) ⟨0,1⟩)⟩
 else if g.k=3 then some ⟨expP (padd s.f 0 2) 4 (aAt s.out g.a) 0,s.v,s.out.set g.a.toNat (aXor (aAt s.out g.a) ⟨0,1⟩)⟩
 else if g.k=9 then some ⟨s.f,s.v,s.out.set g.b.toNat (aXor (aAt s.out g.a) (aAt s.out g.b))⟩
 else if g.k=10 then some ⟨foldA (sumS (aAt s.out g.a) (aAt s.out g.b)) s.f,s.v,s.out⟩
 else if g.k=11 then some ⟨s.f,s.v,(s.out.set g.a.toNat (aAt s.out g.b)).set g.b.toNat (aAt s.out g.a)⟩
 else if g.k=12 then some ⟨padd s.f 0 1,s.v,s.out⟩
 else some ⟨expP s.f (rotC g.k) (aAt s.out g.a) 0,s.v,s.out⟩
def psAll(n:Nat) : List Gt→Pst→Option Pst
 | [],s=>some s
 | g::l,s=>(psStep n s g).bind (psAll n l)
def varsN(n:Nat) : List Af:=(List.range n).map varA
def ps0(n:Nat) : Pst:=⟨fun _=>0,0,varsN n⟩
def psC(c:Cx) : Option Ps:=(psAll c.n.toNat c.gs (ps0 c.n.toNat)).map fun s=>⟨c.n,s.v,s.v,s.f 0,tms s.f,s.out⟩
def Mk(m:Int) : Prop:=0≤m∧m<16777216
def AO(a:Af) : Prop:=Mk a.m∧(a.t=0∨a.t=1)
structure PsOk (n:Nat) (s:Pst) : Prop where
 po:PO s.f
 len:s.out.length=n
 all:∀ a ∈ s.out,AO a
 vs:n+s.v≤24
theorem Mk.nat{m:Int}(h:Mk m) : ∃ x:Nat,x<2^24∧m=x:=⟨m.toNat,by have:=h.1;have:=h.2;omega,by have:=h.1;omega⟩
theorem Mk.of{x:Nat}(h:x<2^24) : Mk (x:Int):=⟨by omega,by omega⟩
theorem X2j{x:Nat}(h:x<2^24) : x<2^62:=Nat.lt_of_lt_of_le h (by decide)
theorem Mk.or{a b:Int}(ha:Mk a)(hb:Mk b) : Mk (oI a b):=by
 obtain ⟨x,hx,rfl⟩:=ha.nat;obtain ⟨y,hy,rfl⟩:=hb.nat
 unfold oI
 rw [X3h (X2j hx) (X2j hy)]
 exact Mk.of (Nat.or_lt_two_pow hx hy)
theorem Mk.xor{a b:Int}(ha:Mk a)(hb:Mk b) : Mk (xI a b):=by
 obtain ⟨x,hx,rfl⟩:=ha.nat;obtain ⟨y,hy,rfl⟩:=hb.nat
 unfold xI
 rw [X4h (X2j hx) (X2j hy)]
 exact Mk.of (Nat.xor_lt_two_pow hx hy)
theorem Xxr{a b:Int}(ha:a=0∨a=1)(hb:b=0∨b=1) : xI a b=if a=b then 0 else 1:=by
 rcases ha with rfl|rfl<;>rcases hb with rfl|rfl<;>rfl
theorem AO.xor{a b:Af}(ha:AO a)(hb:AO b) : AO (aXor a b):=⟨ha.1.xor hb.1,by
 show xI a.t b.t=0∨xI a.t b.t=1
 rw [Xxr ha.2 hb.2];split<;>simp⟩
theorem Mk.zero:Mk 0:=⟨by omega,by omega⟩
theorem AO.z:AO afZ:=⟨Mk.zero,.inl rfl⟩
theorem AO.one:AO ⟨0,1⟩:=⟨Mk.zero,.inr rfl⟩
theorem AO.var{n:Nat}(h:n<24) : AO (varA n):=⟨Mk.of (Nat.pow_lt_pow_right (by decide) h),.inl rfl⟩
theorem AO.at{l:List Af}(h:∀ a ∈ l,AO a)(i:Int) : AO (aAt l i):=by
 unfold aAt
 rw [Qa]
 cases e:l[i.toNat]? with
 | none=>exact AO.z
 | some a=>exact h a (Qe e)
theorem X2k{α:Type}{p:α→Prop}{l:List α}{k:Nat}{x:α}(h:∀ a ∈ l,p a)(hx:p x) : ∀ a ∈ l.set k x,p a:=fun a ha=>by
 rcases List.mem_or_eq_of_mem_set ha with h1|rfl
 ·exact h a h1
 ·exact hx
theorem PsOk.zero{n:Nat}(h:n≤5) : PsOk n (ps0 n):=by
 refine ⟨PO.zero,by simp [ps0,varsN],fun a ha=>?_,by show n+0≤24;omega⟩
 simp only [ps0,varsN,W6,W2] at ha
 obtain ⟨k,hk,rfl⟩:=ha;exact AO.var (by omega)
theorem PsOk.step{n:Nat}{s t:Pst}{g:Gt}(h:PsOk n s)(e:psStep n s g=some t) : PsOk n t:=by
 have hu:=AO.at h.all g.a;have hv:=AO.at h.all g.b
 unfold psStep at e
 split at e
 ·split at e
  ·cases e
  ·injection e with e;subst e
   exact ⟨PO.foldA _ h.po,by simp [h.len],X2k h.all (AO.var (by omega)),by show n+(s.v+1)≤24;omega⟩
 ·split at e
  ·injection e with e;subst e
   exact ⟨h.po,by simp [h.len],X2k h.all (hu.xor AO.one),h.vs⟩
  ·split at e
   ·injection e with e;subst e
    exact ⟨(h.po.padd _ _).expP _ _ _,by simp [h.len],X2k h.all (hu.xor AO.one),h.vs⟩
   ·split at e
    ·injection e with e;subst e
     exact ⟨h.po,by simp [h.len],X2k h.all (hu.xor hv),h.vs⟩
    ·split at e
     ·injection e with e;subst e
      exact ⟨PO.foldA _ h.po,h.len,h.all,h.vs⟩
     ·split at e
      ·injection e with e;subst e
       exact ⟨h.po,by simp [h.len],X2k (X2k h.all hv) hu,h.vs⟩
      ·split at e
       ·injection e with e;subst e
        exact ⟨h.po.padd _ _,h.len,h.all,h.vs⟩
       ·injection e with e;subst e
        exact ⟨h.po.expP _ _ _,h.len,h.all,h.vs⟩
theorem PsOk.fold{n:Nat} : ∀ (l:List Gt) {s t:Pst},PsOk n s→psAll n l s=some t→PsOk n t
 | [],s,t,h,e=>by injection e with e;subst e;exact h
 | g::l,s,t,h,e=>by
  have e:(psStep n s g).bind (psAll n l)=some t:=e
  cases h1:psStep n s g with
  | none=>rw [h1] at e;cases e
  | some u=>rw [h1] at e;exact PsOk.fold l (h.step h1) e
def onA(x:Nat) : Nat:=(x/2 &&& 6148914691236517205)+(x &&& 6148914691236517205)
def onB(x:Nat) : Nat:=(x/4 &&& 3689348814741910323)+(x &&& 3689348814741910323)
def onC(x:Nat) : Nat:=(x/16+x) &&& 1085102592571150095
def onD(x:Nat) : Nat:=
 let d:=x+x/256
 let e:=d+d/65536
 (e+e/4294967296) &&& 127
def popS(x:Nat) : Nat:=onD (onC (onB (onA x)))
def on8a(y:Nat) : Nat:=(y/2 &&& 85)+(y &&& 85)
def on8b(y:Nat) : Nat:=(y/4 &&& 51)+(y &&& 51)
def on8c(y r:Nat) : Nat:=(y/16+y+16*r) &&& 15
def pop8(y:Nat) : Nat:=((List.range 8).filter y.testBit).length
def chkP:Bool:=(List.range 256).all fun y=>(List.range 2).all (fun r=>(y/2+128*r) &&& 85==y/2 &&& 85)&&decide (on8a y<256)
 && (List.range 4).all (fun r=>(y/4+64*r) &&& 51==y/4 &&& 51)&&decide (on8b (on8a y)<69)&&decide (on8b (on8a y) % 16≤4)&&(List.range 5).all (fun r=>on8c (on8b (on8a y)) r==pop8 y)&&decide (pop8 y≤8)
def drN(v x:Nat) : Nat:=x % 2^v+2^v*(x/2^(v+1))
theorem Xqc(v x:Nat) : drN v x≤x:=by
 unfold drN
 have h1:=Nat.div_add_mod x (2^v)
 have h2:x/2^(v+1)≤x/2^v:=by
  rw [Nat.pow_succ,← Nat.div_div_eq_div_mul];exact Nat.div_le_self _ _
 have:=Nat.mul_le_mul_left (2^v) h2
 omega
theorem Xbu:∀ {T U:List Nat},T.Pairwise (· < ·)→U.Pairwise (· < ·)→(∀ t,t ∈ T↔t ∈ U)→T=U
 | [],[],_,_,_=>rfl
 | [],u::U,_,_,h=>absurd ((h u).2 (by simp)) (by simp)
 | t::T,[],_,_,h=>absurd ((h t).1 (by simp)) (by simp)
 | t::T,u::U,hT,hU,h=>by
  rw [W8] at hT hU
  have htu:t=u:=by
   rcases Qv.1 ((h t).1 (by simp)) with e|e
   ·exact e
   ·rcases Qv.1 ((h u).2 (by simp)) with e'|e'
    ·exact e'.symm
    ·have h1:=hT.1 u e';have h2:=hU.1 t e
     omega
  subst htu
  congr 1
  refine Xbu hT.2 hU.2 fun x=>⟨fun hx=>?_,fun hx=>?_⟩
  ·rcases Qv.1 ((h x).1 (Ql _ hx)) with e|e
   ·have:=hT.1 x hx;omega
   ·exact e
  ·rcases Qv.1 ((h x).2 (Ql _ hx)) with e|e
   ·have:=hU.1 x hx;omega
   ·exact e
def shN(v i:Nat) : Nat:=if i<v then i else i-1
def bitQ(v:Nat)(m:Int) : Bool:=m.toNat.testBit v
def drI(v:Nat)(m:Int) : Int:=((drN v m.toNat:Nat) : Int)
def Nb(v:Nat)(m:Int) : Prop:=Mk m∧bitQ v m=false
theorem X45(v x:Nat) : bitQ v (x:Int)=x.testBit v:=rfl
theorem Mk.dr{v:Nat}{m:Int}(h:Mk m) : Mk (drI v m):=by
 obtain ⟨x,hx,rfl⟩:=h.nat;exact Mk.of (Nat.lt_of_le_of_lt (Xqc v x) hx)
theorem Nb.or{v:Nat}{a b:Int}(ha:Nb v a)(hb:Nb v b) : Nb v (oI a b):=by
 refine ⟨ha.1.or hb.1,?_⟩
 obtain ⟨x,hx,rfl⟩:=ha.1.nat;obtain ⟨y,hy,rfl⟩:=hb.1.nat
 unfold oI
 rw [X3h (X2j hx) (X2j hy),X45,Nat.testBit_or]
 have h1:=ha.2;have h2:=hb.2
 rw [X45] at h1 h2
 rw [h1,h2];rfl
theorem Nb.xor{v:Nat}{a b:Int}(ha:Nb v a)(hb:Nb v b) : Nb v (xI a b):=by
 refine ⟨ha.1.xor hb.1,?_⟩
 obtain ⟨x,hx,rfl⟩:=ha.1.nat;obtain ⟨y,hy,rfl⟩:=hb.1.nat
 unfold xI
 rw [X4h (X2j hx) (X2j hy),X45,Nat.testBit_xor]
 have h1:=ha.2;have h2:=hb.2
 rw [X45] at h1 h2
 rw [h1,h2];rfl
theorem Nb.zero(v:Nat) : Nb v 0:=⟨Mk.zero,Nat.zero_testBit v⟩
theorem Nb.off{v:Nat}{m:Int}(h:Mk m)(hv:v<24)(hb:bitQ v m=true) : Nb v (xI m ((2^v:Nat) : Int)):=by
 refine ⟨h.xor (Mk.of (Nat.pow_lt_pow_right (by decide) hv)),?_⟩
 obtain ⟨M,hM,rfl⟩:=h.nat
 unfold xI
 rw [X4h (X2j hM) (Xaa (by omega)),X45,Nat.testBit_xor,Nat.testBit_two_pow]
 rw [X45] at hb
 rw [hb];simp
def exZL(r x y k:Int)(l:List Int) : Nat→List Sm
 | 0=>[]
 | n+1=>exZL r x y k l n++[(oI (oI (oI r x) y) (l.getD n 0),4*k)]
def exYL(r x k:Int)(l:List Int) : Nat→List Sm
 | 0=>[]
 | j+1=>exYL r x k l j++(oI (oI r x) (l.getD j 0),-2*k)::exZL r x (l.getD j 0) k l j
def exXL(r k:Int)(l:List Int) : Nat→List Sm
 | 0=>[]
 | i+1=>exXL r k l i++(oI r (l.getD i 0),k)::exYL r (l.getD i 0) k l i
def expL(k:Int)(a:Af)(r:Int) : List Sm:=
 if a.t=1 then (r,k)::exXL r (-k) (lows a.m) (lows a.m).length else exXL r k (lows a.m) (lows a.m).length
theorem X6a(p:Sm)(L:List Sm)(f:Int→Int) : foldA (p::L) f=foldA L (padd f p.1 p.2):=rfl
theorem Xcl(r x y k:Int)(l:List Int)(f:Int→Int) : ∀ n,exZ r x y k l f n=foldA (exZL r x y k l n) f
 | 0=>rfl
 | n+1=>by rw [exZ,exZL,Xgn,Xcl r x y k l f n]
theorem Xbb(r x k:Int)(l:List Int)(f:Int→Int) : ∀ n,exY r x k l f n=foldA (exYL r x k l n) f
 | 0=>rfl
 | n+1=>by rw [exY,exYL,X6u,X6a,Xcl,Xbb r x k l f n]
theorem X84(r k:Int)(l:List Int)(f:Int→Int) : ∀ n,exX r k l f n=foldA (exXL r k l n) f
 | 0=>rfl
 | n+1=>by rw [exX,exXL,X6u,X6a,Xbb,X84 r k l f n]
theorem X4d(f:Int→Int)(k:Int)(a:Af)(r:Int) : expP f k a r=foldA (expL k a r) f:=by
 unfold expP expL
 split
 ·rw [X6a,X84]
 ·rw [X84]
section
variable {Q : Int → Prop} (hq : ∀ a b, Q a → Q b → Q (oI a b)) (h0 : Q 0) {l : List Int} (hl : ∀ x ∈ l, Q x)
include h0 hl
theorem Xcx(n:Nat) : Q (l.getD n 0):=by
 rw [Qa]
 cases e:l[n]? with
 | none=>exact h0
 | some x=>exact hl x (Qe e)
include hq
theorem Xbj{r x y k:Int}(hr:Q (oI (oI r x) y)) : ∀ n,∀ p ∈ exZL r x y k l n,Q p.1
 | 0,p,h=>by cases h
 | n+1,p,h=>by
  rcases Qu.1 h with h|h
  ·exact Xbj hr n p h
  ·rw [Qm.1 h];exact hq _ _ hr (Xcx h0 hl n)
theorem Xcg{r x k:Int}(hr:Q (oI r x)) : ∀ n,∀ p ∈ exYL r x k l n,Q p.1
 | 0,p,h=>by cases h
 | n+1,p,h=>by
  have hy:=hq _ _ hr (Xcx h0 hl n)
  rcases Qu.1 h with h|h
  ·exact Xcg hr n p h
  ·rcases Qv.1 h with rfl|h
   ·exact hy
   ·exact Xbj hq h0 hl hy n p h
theorem X7v{r k:Int}(hr:Q r) : ∀ n,∀ p ∈ exXL r k l n,Q p.1
 | 0,p,h=>by cases h
 | n+1,p,h=>by
  have hy:=hq _ _ hr (Xcx h0 hl n)
  rcases Qu.1 h with h|h
  ·exact X7v hr n p h
  ·rcases Qv.1 h with rfl|h
   ·exact hy
   ·exact Xcg hq h0 hl hy n p h
end
def mp(φ:Int→Int)(L:List Sm) : List Sm:=L.map fun p=>(φ p.1,p.2)
section
variable {Q : Int → Prop} {φ : Int → Int} (hq : ∀ a b, Q a → Q b → Q (oI a b)) (hφ : ∀ a b, Q a → Q b → φ (oI a b) = oI (φ a) (φ b)) (h0 : Q 0) (hφ0 : φ 0 = 0) {l : List Int} (hl : ∀ x ∈ l, Q x)
include hφ0
include h0 hl hφ hq
end
def cPh(ph:Int) : Int→Int:=upd (fun _=>0) 0 ph
theorem PO.cPh{ph:Int}(h:0≤ph∧ph<8) : PO (cPh ph):=fun x=>by
 show 0≤upd _ 0 ph x∧upd _ 0 ph x<8
 unfold upd
 split
 ·exact h
 ·exact ⟨by show (0:Int)≤0;omega,by show (0:Int)<8;omega⟩
theorem X4a{L:List Sm}{x:Int}(h:∀ p ∈ L,p.1≠x) : sumA L x=0:=by
 induction L with
 | nil=>rfl
 | cons p L ih=>rw [X72,Q3 (h p (by simp)),ih fun q hq=>h q (Ql _ hq)];rfl
def dT(v:Nat)(t:Tm) : Tm:=⟨drI v t.m,t.c⟩
theorem Xmg{L:List Sm}{ph x:Int}(hph:0≤ph∧ph<8)(hx:x≠0)(h:foldA L (cPh ph) x≠0) : ∃ p ∈ L,p.1=x:=by
 refine Classical.byContradiction fun hn=>h ?_
 rw [X44 L (PO.cPh hph),X4a fun p hp e=>hn ⟨p,hp,e⟩]
 show (upd _ 0 ph x+0) % 8=0
 rw [Xd4 hx];rfl
def sm(ts:List Tm) : List Sm:=ts.map fun t=>(t.m,t.c)
structure OkT (ts:List Tm) : Prop where
 rise:Rise ts
 all:∀ t ∈ ts,0<t.m∧t.m<16777216∧0<t.c∧t.c<8
theorem Xc3:∀ {ts:List Tm},Rise ts→∀ t ∈ ts,sumA (sm ts) t.m=t.c
 | [],_,t,h=>by cases h
 | u::l,hr,t,h=>by
  unfold Rise at hr
  rw [W8] at hr
  show sumA ((u.m,u.c)::sm l) t.m=t.c
  rw [X72]
  rcases Qv.1 h with e|h
  ·subst e
   rw [Q4 rfl,X4a fun p hp e=>?_]
   ·omega
   ·obtain ⟨q,hq,rfl⟩:=W6.1 hp
    have:=hr.1 q hq
    have e:q.m=t.m:=e
    omega
  ·have:=hr.1 t h
   rw [Q3 (by show ¬ u.m=t.m;omega),Xc3 hr.2 t h];omega
theorem OkT.val{ts:List Tm}(h:OkT ts){ph:Int}(hph:0≤ph∧ph<8){t:Tm}(ht:t ∈ ts) : foldA (sm ts) (cPh ph) t.m=t.c:=by
 have h1:=h.all t ht
 rw [X44 _ (PO.cPh hph),Xc3 h.rise t ht]
 unfold cPh
 rw [Xd4 (by omega)]
 omega
theorem OkT.tms{ts:List Tm}(h:OkT ts){ph:Int}(hph:0≤ph∧ph<8) : tms (foldA (sm ts) (cPh ph))=ts:=by
 refine (IsT.eq ⟨h.rise,fun t=>?_⟩).symm
 constructor
 ·intro ht;have h1:=h.all t ht;have h2:=h.val hph ht;exact ⟨h1.1,h1.2.1,h2.symm,by rw [h2];omega⟩
 ·rintro ⟨h1,h2,h3,h4⟩
  obtain ⟨p,hp,e⟩:=Xmg hph (by omega) h4
  obtain ⟨q,hq,rfl⟩:=W6.1 hp
  have e:q.m=t.m:=e
  have h5:=h.val hph hq
  rw [e,← h3] at h5
  have:q=t:=by
   obtain ⟨a,b⟩:=q;obtain ⟨c,d⟩:=t
   simp only at e h5
   rw [e,h5]
  rw [← this];exact hq
theorem Xh4{ts:List Tm}(h:∀ t ∈ ts,0<t.m) : sumA (sm ts) 0=0:=X4a fun p hp e=>by
 obtain ⟨q,hq,rfl⟩:=W6.1 hp
 have:=h q hq
 have e:q.m=0:=e
 omega
theorem OkT.zero{ts:List Tm}(h:OkT ts){ph:Int}(hph:0≤ph∧ph<8) : foldA (sm ts) (cPh ph) 0=ph:=by
 rw [X44 _ (PO.cPh hph),Xh4 fun t ht=>(h.all t ht).1]
 show (upd _ 0 ph 0+0) % 8=ph
 rw [Xr5];omega
def SupF(f:Int→Int) : Prop:=∀ x,f x≠0→Mk x
theorem SupF.fold{L:List Sm}(h:∀ p ∈ L,Mk p.1){f:Int→Int}(hf:PO f)(hs:SupF f) : SupF (foldA L f):=fun x hx=>by
 rw [X44 _ hf] at hx
 by_cases e:f x=0
 ·refine Classical.byContradiction fun hn=>hx ?_
  rw [e,X4a fun p hp e2=>hn (by rw [← e2];exact h p hp)];rfl
 ·exact hs x e
theorem SupF.cPh(ph:Int) : SupF (cPh ph):=fun x hx=>by
 by_cases e:x=0
 ·subst e;exact Mk.zero
 ·refine absurd ?_ hx
  show upd _ 0 ph x=0
  rw [Xd4 e]
def pw(v:Nat) : Int:=((2^v:Nat) : Int)
def dA(v:Nat)(a:Af) : Af:=⟨drI v a.m,a.t⟩
def sA(v:Nat)(y a:Af) : Af:=if bitQ v a.m then ⟨xI (xI a.m (pw v)) y.m,xI a.t y.t⟩ else a
def sL(v:Nat)(y:Af)(t:Tm) : List Sm:=if bitQ v t.m then expL t.c y (xI t.m (pw v)) else [(t.m,t.c)]
def rL(v:Nat)(y:Af)(t:Tm) : List Sm:=if bitQ v t.m then expL t.c (dA v y) (drI v t.m) else [(drI v t.m,t.c)]
def mkP(p:Ps)(v:Nat)(y:Af)(f:Int→Int)(ts:List Tm) : Ps:=⟨p.ins,p.vars-1,p.root,f 0,ts,p.out.map fun a=>dA v (sA v y a)⟩
def subP(p:Ps)(v:Nat)(y:Af) : Ps:=mkP p v y (foldA (p.ts.flatMap (sL v y)) (cPh p.phase)) ((tms (foldA (p.ts.flatMap (sL v y)) (cPh p.phase))).map (dT v))
def repP(p:Ps)(v:Nat)(y:Af) : Ps:=mkP p v y (foldA (p.ts.flatMap (rL v y)) (cPh p.phase)) (tms (foldA (p.ts.flatMap (rL v y)) (cPh p.phase)))
def nob(v:Nat)(ts:List Tm) : List Tm:=ts.filter fun t=>!bitQ v t.m
def stP(p:Ps)(y:Nat)(k z:Int) : Ps:=
 let f:=foldA (expL k ⟨z,0⟩ 0) (foldA (sm (nob y p.ts)) (cPh p.phase))
 ⟨p.ins,p.vars-1,p.root,f 0,(tms f).map (dT y),p.out.map (dA y)⟩
def omR(q:Ps)(k1 k:Int)(z:Int) : Ps:=
 let f:=expP (padd (foldA (sm q.ts) (cPh q.phase)) 0 k1) k ⟨z,0⟩ 0
 ⟨q.ins,q.vars,q.root,f 0,tms f,q.out⟩
section
variable {α : Type} {w w' : World} {b m b2 B0 : Nat} {A : Option Addr} {c : Nat} {l : List α} {E T T2 : TypeId} {sz : Nat} {enc : α → List Value} {bcs cs : List Value}
end
def psH(n:Nat)(ps:Pst)(q:Int) : Option Pst:=
 if 24≤n+ps.v then none else some ⟨foldA (sumS (aAt ps.out q) (varA (n+ps.v))) ps.f,ps.v+1,ps.out.set q.toNat (varA (n+ps.v))⟩
section
variable {n : Nat} {g : Gt}
theorem Xcf(h:gOk (n:Int) g=true) : 0≤g.a∧g.a.toNat<n:=by
 simp only [gOk,inR,Qd,Qr] at h
 obtain ⟨⟨h1,h2⟩,h3⟩:=h
 split at h3
 ·simp at h3;omega
 ·split at h3<;>simp at h3<;>omega
theorem Xbn(h:gOk (n:Int) g=true) : 0≤g.b∧g.b.toNat<n:=by
 simp only [gOk,inR,Qd,Qr] at h
 obtain ⟨⟨h1,h2⟩,h3⟩:=h
 split at h3
 ·simp at h3;omega
 ·split at h3<;>simp at h3<;>omega
end
section
variable {n : Nat} {ps : Pst} {g : Gt}
end
end Go.Proofs.YtpifljegadknkaaGreat
namespace Go.Proofs.YtpifljegadknkaaGreat
open Go.RowKit Go.Sort Go.Shelf Go.Lib
structure Mt where (v:Tm) (h:0≤v.m∧v.m<16777216)
instance:Inhabited Mt:=⟨⟨⟨0,0⟩,by decide,by decide⟩⟩
def encM(x:Mt) : List Value:=encT x.1
theorem X7s{α:Type}[Inhabited α]{enc:α→List Value}{k:Nat}(hk:∀ x,(enc x).length=k)(L:List α) : (flatK enc k L.toArray).toList=L.flatMap enc:=by
 apply List.ext_getElem?
 intro t
 by_cases h:t<L.length*k
 ·obtain ⟨x,h1,h2⟩:=X4z hk h
  have hk0:0<k:=by
   rcases Nat.eq_zero_or_pos k with e|e
   ·subst e;simp at h
   ·exact e
  have h3:t % k<(enc x).length:=by rw [hk];exact Nat.mod_lt _ hk0
  have h4:t/k<L.length:=(Qg.1 h1).1
  rw [h2,Array.getElem?_toList]
  have e1:L[t/k]! = x:=by rw [List.getElem!_eq_getElem?_getD,h1];rfl
  have e2:L[t/k]?.getD default=x:=by rw [h1];rfl
  simp [flatK,h,e2,h3]
 ·rw [List.getElem?_eq_none (by simp [flatK];omega),List.getElem?_eq_none (by rw [Xo hk];omega)]
theorem Xgp{w:World}{g n:Nat}{os:Array Obj}{cur:Array Value}{e:TypeId}{fr:Nat×Nat}(d:Array Value)(hb:w.heap[g]? = some (.cells cur e fr)) :
  (grow (putRow id (Sort.ahead w n) g 0 d) os).heap[g]? = some (.cells (putCells id 0 d cur) e fr):=by
 have hg:g<w.heap.size:=(Qp.1 hb).1
 rw [heap_grow_old _ _ (by simpa using hg)]
 simp [putRow,mapBlock,Sort.ahead,Array.getElem?_modify,hb,onCells]
theorem Xd7{w:World}{g n:Nat}{os:Array Obj}(d:Array Value) : w.grownBy (grow (putRow id (Sort.ahead w n) g 0 d) os) (some g):=by
 refine ⟨rfl,rfl,rfl,by simp,fun k hk hne=>?_⟩
 rw [heap_grow_old _ _ (by simpa using hk)]
 have:g≠k:=fun e=>hne (by rw [e])
 simp [putRow,mapBlock,Sort.ahead,Array.getElem?_modify,this]
theorem Xgu(cur F:Array Value)(h:F.size≤cur.size) : (putCells id 0 F cur).toList.take F.size=F.toList:=by
 apply List.ext_getElem?
 intro j
 by_cases hj:j<F.size
 ·rw [Wg hj,Array.getElem?_toList,Array.getElem?_toList]
  simp [putCells,hj,show j<cur.size by omega]
 ·rw [List.getElem?_take_eq_none (by omega),List.getElem?_eq_none (by simp;omega)]
theorem Xrl{w:World}{g:Nat}{cur:Array Value}{e:TypeId}{F:Array Value}(hb:w.heap[g]? = some (.cells cur e (0,0)))(ht:cur.toList.take F.size=F.toList) : Holds id w g 0 F:=by
 intro j hj
 refine ⟨?_,by simp [World.frozen?,hb]⟩
 have h1:(cur.toList.take F.size)[j]? = F.toList[j]?:=by rw [ht]
 rw [Wg hj] at h1
 simp only [World.cell?,hb,Nat.zero_add]
 simp only [Option.isSome_none,Bool.false_eq_true,if_false]
 rw [← Array.getElem?_toList,h1]
 simp [hj]
end Go.Proofs.YtpifljegadknkaaGreat
namespace Go.Proofs.YtpifljegadknkaaGreat
open Go.RowKit
structure Gath (f:Int→Int) (left:Int→Bool) (l:List Tm) : Prop where
 mem:∀ t:Tm,t ∈ l↔0<t.m∧f t.m≠0∧t.c=f t.m∧left t.m=false
 nd:l.Pairwise fun x y=>x.m≠y.m
theorem Gath.start{f:Int→Int}{left:Int→Bool}(h:∀ x,f x≠0→left x=true) : Gath f left []:=
 ⟨fun t=>⟨fun h=>(by cases h),fun ⟨_,h2,_,h4⟩=>by rw [h _ h2] at h4;cases h4⟩,List.Pairwise.nil⟩
theorem Xbs{left:Int→Bool}{k x:Int} : (left x&&x != k)=false↔left x=false∨x=k:=by
 cases h:left x<;>simp
theorem Gath.push{f:Int→Int}{left:Int→Bool}{l:List Tm}{k:Int}(h:Gath f left l)(hk:left k=true)(h1:0<k)(h2:0<f k) : Gath f (fun x=>left x&&x != k) (l++[⟨k,f k⟩]):=by
 refine ⟨fun t=>?_,?_⟩
 ·rw [Qu,Qm,h.mem,Xbs]
  constructor
  ·rintro (⟨a,b,c,d⟩|rfl)
   ·exact ⟨a,b,c,.inl d⟩
   ·exact ⟨h1,by show f k≠0;omega,rfl,.inr rfl⟩
  ·rintro ⟨a,b,c,d|d⟩
   ·exact .inl ⟨a,b,c,d⟩
   ·right
    obtain ⟨m,v⟩:=t
    simp only at c d
    rw [c,d]
 ·rw [List.pairwise_append]
  refine ⟨h.nd,List.pairwise_singleton _ _,fun x hx y hy=>?_⟩
  rw [Qm.1 hy]
  intro e
  have:=((h.mem x).1 hx).2.2.2
  rw [show x.m=k from e,hk] at this;cases this
theorem Gath.skip{f:Int→Int}{left:Int→Bool}{l:List Tm}{k:Int}(h:Gath f left l)(hn:¬ (0<k∧f k≠0)) : Gath f (fun x=>left x&&x != k) l:=by
 refine ⟨fun t=>?_,h.nd⟩
 rw [h.mem,Xbs]
 constructor
 ·rintro ⟨a,b,c,d⟩;exact ⟨a,b,c,.inl d⟩
 ·rintro ⟨a,b,c,d|d⟩
  ·exact ⟨a,b,c,d⟩
  ·rw [d] at a b;exact absurd ⟨a,b⟩ hn
theorem Gath.sub{f:Int→Int}{left:Int→Bool}{l:List Tm}(h:Gath f left l)(hs:SupF f) : ∀ t ∈ l,t ∈ tms f:=fun t ht=>by
 obtain ⟨a,b,c,_⟩:=(h.mem t).1 ht;exact ((X8m f).mem t).2 ⟨a,(hs _ b).2,c,b⟩
theorem X98{α:Type}[DecidableEq α] : ∀ {l U:List α},l.Nodup→(∀ x ∈ l,x ∈ U)→l.length≤U.length
 | [],_,_,_=>Qf _
 | x::l,U,hn,hs=>by
  rw [List.nodup_cons] at hn
  have hx:=hs x (by simp)
  have:=X98 (l:=l) (U:=U.erase x) hn.2 fun y hy=>(List.mem_erase_of_ne (by rintro rfl;exact hn.1 hy)).2 (hs y (Ql _ hy))
  rw [List.length_erase_of_mem hx] at this
  have h0:0<U.length:=List.length_pos_of_mem hx
  rw [Qs];omega
theorem X7w:∀ {T:List Tm} {lo hi:Int},Rise T→(∀ t ∈ T,lo<t.m∧t.m<hi)→(T.length:Int)≤max 0 (hi-lo-1)
 | [],_,_,_,_=>by simp;omega
 | t::T,lo,hi,hr,hb=>by
  unfold Rise at hr
  rw [W8] at hr
  have h1:=hb t (by simp)
  have:=X7w (T:=T) (lo:=t.m) (hi:=hi) hr.2 fun x hx=>⟨hr.1 x hx,(hb x (Ql _ hx)).2⟩
  rw [Qs];omega
theorem Xkf(f:Int→Int) : (tms f).length≤16777216:=by
 have:=X7w (lo:=0) (hi:=16777216) (X8m f).rise fun t ht=>by
  obtain ⟨a,b,_⟩:=((X8m f).mem t).1 ht;exact ⟨a,b⟩
 omega
theorem Gath.len{f:Int→Int}{left:Int→Bool}{l:List Tm}(h:Gath f left l)(hs:SupF f) : l.length≤16777216:=by
 refine Q0 (X98 ?_ (h.sub hs)) (Xkf f)
 exact h.nd.imp fun h1 e=>h1 (by rw [e])
theorem Gath.end{f:Int→Int}{left:Int→Bool}{l l':List Tm}(h:Gath f left l)(hs:SupF f)(he:∀ x,left x=false)(hp:l'.Perm l)(hr:Rise l') : l'=tms f:=by
 refine IsT.eq ⟨hr,fun t=>?_⟩
 rw [hp.mem_iff,h.mem]
 constructor
 ·rintro ⟨a,b,c,_⟩;exact ⟨a,(hs _ b).2,c,b⟩
 ·rintro ⟨a,_,c,b⟩;exact ⟨a,b,c,he _⟩
abbrev psV(A:Option Addr)(c:Nat)(B:Option Addr)(d:Nat)(p:Ps) : Value:=.agg #[.int .i64 p.ins,.int .i64 p.vars,.int .i64 p.root,.int .i64 p.phase,.slice A p.ts.length c,.slice B p.out.length d]
def psO(c:Cx) : Option Ps:=if cOk c then psC c else none
theorem Xcc{c:Cx}(h:cOk c=true) : ∃ n:Nat,c.n=(n:Int)∧1≤n∧n≤5:=by
 simp only [cOk,inR,Qd,Qr] at h
 exact ⟨c.n.toNat,by omega,by omega,by omega⟩
theorem Xap{c:Cx}(h:cOk c=true) : c.gs.length≤400:=by
 simp only [cOk,inR,Qd,Qr] at h
 omega
theorem Xii{c:Cx}{n i:Nat}{u:Gt}(h:cOk c=true)(hn:c.n=(n:Int))(hu:c.gs[i]? = some u) : gOk (n:Int) u=true:=by
 simp only [cOk,Qd] at h
 have h2:=h.2
 rw [Bool.not_eq_true',W7] at h2
 have:=h2 u (Qe hu)
 rw [← hn]
 simpa using this
theorem Xkk{k r:Int}{a:Af}(ha:AO a)(hr:Mk r) : ∀ p ∈ expL k a r,Mk p.1:=fun p hp=>by
 have hX:=fun k n=>X7v (k:=k) (r:=r) (Q:=Mk) (l:=lows a.m) (fun _ _ h1 h2=>h1.or h2) Mk.zero (fun x hx=>by
  obtain ⟨M,hM,e⟩:=ha.1.nat
  rw [e] at hx
  unfold lows at hx
  obtain ⟨q,hq,rfl⟩:=W6.1 hx
  have hq:M.testBit q=true:=(X4x (X2j hM)).1 hq
  refine Mk.of ?_
  rcases W4 q 24 with h'|h'
  ·exact Nat.pow_lt_pow_right (by decide) h'
  ·rw [Nat.testBit_lt_two_pow (Nat.lt_of_lt_of_le hM (Nat.pow_le_pow_right (by decide) h'))] at hq;cases hq) hr n
 unfold expL at hp
 split at hp
 ·rcases Qv.1 hp with rfl|hp
  ·exact hr
  ·exact hX _ _ p hp
 ·exact hX _ _ p hp
theorem X3z{m x:Int}(h:Mk m)(hx:x ∈ lows m) : Mk x:=by
 obtain ⟨M,hM,rfl⟩:=h.nat
 unfold lows at hx
 obtain ⟨q,hq,rfl⟩:=W6.1 hx
 have hq:M.testBit q=true:=(X4x (X2j hM)).1 hq
 refine Mk.of ?_
 rcases W4 q 24 with h'|h'
 ·exact Nat.pow_lt_pow_right (by decide) h'
 ·rw [Nat.testBit_lt_two_pow (Nat.lt_of_lt_of_le hM (Nat.pow_le_pow_right (by decide) h'))] at hq;cases hq
theorem Xg5{u v:Af}(hu:Mk u.m)(hv:Mk v.m) : ∀ p ∈ sumS u v,Mk p.1:=fun p hp=>by
 unfold sumS at hp
 rcases Qu.1 hp with hp|hp
 ·rcases Qu.1 hp with hp|hp
  ·obtain ⟨x,hx,hp⟩:=List.mem_flatMap.1 hp
   rcases Qu.1 hp with hp|hp
   ·obtain ⟨y,hy,rfl⟩:=W6.1 hp;exact (X3z hu hx).or (X3z hv hy)
   ·rw [Qm.1 hp];exact X3z hu hx
  ·obtain ⟨y,hy,rfl⟩:=W6.1 hp;exact X3z hv hy
 ·rw [Qm.1 hp];exact Mk.zero
theorem SupF.pad{f:Int→Int}(h:SupF f)(hp:PO f){m k:Int}(hm:Mk m) : SupF (padd f m k):=SupF.fold (L:=[(m,k)]) (fun p h=>by rw [Qm.1 h];exact hm) hp h
theorem SupF.exp{f:Int→Int}(h:SupF f)(hp:PO f){k r:Int}{a:Af}(ha:AO a)(hr:Mk r) : SupF (expP f k a r):=by
 rw [X4d]
 exact SupF.fold (Xkk ha hr) hp h
theorem SupF.step{n:Nat}{s t:Pst}{g:Gt}(hs:SupF s.f)(h:PsOk n s)(e:psStep n s g=some t) : SupF t.f:=by
 have hu:=AO.at h.all g.a;have hv:=AO.at h.all g.b
 unfold psStep at e
 split at e
 ·split at e
  ·cases e
  ·injection e with e;subst e
   exact SupF.fold (Xg5 hu.1 (AO.var (by omega)).1) h.po hs
 ·split at e
  ·injection e with e;subst e;exact hs
  ·split at e
   ·injection e with e;subst e
    exact SupF.exp (hs.pad h.po Mk.zero) (h.po.padd _ _) hu Mk.zero
   ·split at e
    ·injection e with e;subst e;exact hs
    ·split at e
     ·injection e with e;subst e
      exact SupF.fold (Xg5 hu.1 hv.1) h.po hs
     ·split at e
      ·injection e with e;subst e;exact hs
      ·split at e
       ·injection e with e;subst e
        exact hs.pad h.po Mk.zero
       ·injection e with e;subst e
        exact hs.exp h.po hu Mk.zero
theorem SupF.zero:SupF (fun _=>0):=fun _ h=>absurd rfl h
def tZ:Tm:=⟨0,0⟩
section
variable {f : Int → Int} {m k : Int} {i : Nat}
end
def nS(m:Int)(i:Nat) : Nat:=(setN m.toNat).getD i 0
def szI(m:Int) : Nat:=(setN m.toNat).length
def okTa(n:Nat)(ts:List Tm)(i:Nat) : Bool:=
 inR (ts.getD i tZ).m 1 (((2^n:Nat) : Int)-1)&&decide (szI (ts.getD i tZ).m≤3)&&inR (ts.getD i tZ).c 1 7&&((ts.getD i tZ).c % ((2^(szI (ts.getD i tZ).m-1) : Nat) : Int)==0)&&(decide (i=0)||decide ((ts.getD (i-1) tZ).m<(ts.getD i tZ).m))
def okHd(p:Ps) : Bool:=inR p.ins 1 5&&inR p.vars 0 (24-p.ins)&&inR p.root (-60) 60&&inR p.phase 0 7&&decide ((p.out.length:Int)=p.ins)
def okAf(n:Nat)(a:Af) : Bool:=inR a.m 0 (((2^n:Nat) : Int)-1)&&inR a.t 0 1
def okTs(n:Nat)(ts:List Tm)(k:Nat) : Bool:=(List.range k).all (okTa n ts)
def validP(p:Ps) : Bool:=okHd p&&okTs (p.ins+p.vars).toNat p.ts p.ts.length&&p.out.all (okAf (p.ins+p.vars).toNat)
theorem Xkp{m:Int}(h:Mk m)(h0:0<m) : 1≤szI m:=by
 obtain ⟨x,hx,rfl⟩:=h.nat
 unfold szI
 rw [show (x:Int).toNat=x from rfl]
 obtain ⟨q,t,e⟩:=Xjn (X2j hx) (by omega)
 rw [e];simp
theorem Xvo{n:Nat}(h:n≤24) : 1≤2^n∧2^n≤16777216:=⟨Nat.two_pow_pos n,Q0 (Nat.pow_le_pow_right (by decide) h) (by decide)⟩
structure VPs (p:Ps) : Prop where
 ins:1≤p.ins∧p.ins≤5
 vars:0≤p.vars∧p.ins+p.vars≤24
 ph:0≤p.phase∧p.phase<8
 ts:OkT p.ts
 out:∀ a ∈ p.out,AO a∧a.m<((2^(p.ins+p.vars).toNat:Nat) : Int)
 tb:∀ t ∈ p.ts,t.m<((2^(p.ins+p.vars).toNat:Nat) : Int)
 sz:∀ t ∈ p.ts,szI t.m≤3
theorem VPs.of{p:Ps}(h:validP p=true) : VPs p:=by
 simp only [validP,okHd,Qd] at h
 obtain ⟨⟨⟨⟨⟨⟨h1,h2⟩,h3⟩,h4⟩,h5⟩,h6⟩,h7⟩:=h
 simp only [inR,Qd,Qr] at h1 h2 h3 h4
 have hn:=Xvo (n:=(p.ins+p.vars).toNat) (by omega)
 have hT:∀ i,i<p.ts.length→(1≤(p.ts.getD i tZ).m∧(p.ts.getD i tZ).m≤((2^(p.ins+p.vars).toNat:Nat) : Int)-1)∧szI (p.ts.getD i tZ).m≤3∧(1≤(p.ts.getD i tZ).c∧(p.ts.getD i tZ).c≤7)∧(i=0∨(p.ts.getD (i-1) tZ).m<(p.ts.getD i tZ).m):=fun i hi=>by
  unfold okTs at h6
  have:=W1.1 h6 i (W2.2 hi)
  simp only [okTa,inR,Qd,Bool.or_eq_true,Qr] at this
  exact ⟨this.1.1.1.1,this.1.1.1.2,this.1.1.2,this.2⟩
 have hM:∀ t ∈ p.ts,(1≤t.m∧t.m≤((2^(p.ins+p.vars).toNat:Nat) : Int)-1)∧szI t.m≤3∧1≤t.c∧t.c≤7:=fun t ht=>by
  obtain ⟨i,hi,e⟩:=List.mem_iff_getElem.1 ht
  have:=hT i hi
  rw [show p.ts.getD i tZ=t from by rw [Qa,Qc hi,e];rfl] at this
  exact ⟨this.1,this.2.1,this.2.2.1⟩
 have hR:∀ j i,i<j→j<p.ts.length→(p.ts.getD i tZ).m<(p.ts.getD j tZ).m:=fun j=>by
  induction j with
  | zero=>intro i h;omega
  | succ j ih=>
   intro i hij hj;have h9:=(hT (j+1) hj).2.2.2
   rw [show j+1-1=j from rfl] at h9
   rcases h9 with h9|h9
   ·omega
   ·rcases W4 i j with h10|h10
    ·exact Int.lt_trans (ih i h10 (by omega)) h9
    ·rw [show i=j from by omega];exact h9
 refine ⟨h1,⟨h2.1,by omega⟩,⟨h4.1,by omega⟩,⟨?_,fun t ht=>?_⟩,fun a ha=>?_,fun t ht=>?_,fun t ht=>(hM t ht).2.1⟩
 ·unfold Rise
  rw [W0]
  intro i j hi hj hij
  have:=hR j i hij hj
  rw [Qa,Qa,Qc hi,Qc hj] at this
  exact this
 ·have:=hM t ht
  exact ⟨by omega,by omega,by omega,by omega⟩
 ·have:=W1.1 h7 a ha
  simp only [okAf,inR,Qd,Qr] at this
  exact ⟨⟨⟨this.1.1,by omega⟩,by omega⟩,by omega⟩
 ·have:=hM t ht
  omega
def bI(v:Nat)(m:Int) : Int:=if bitQ v m then 1 else 0
def woP(p:Ps)(v:Nat) : Ps:=⟨p.ins,p.vars-1,p.root,p.phase,p.ts.map (dT v),p.out.map (dA v)⟩
structure Ar where (c z:Int) (any pl:Bool)
def arStep(y:Nat)(s:Ar)(t:Tm) : Ar:=
 if bitQ y t.m then (if szI (xI t.m (pw y))=0 then ⟨t.c,s.z,true,s.pl⟩ else if szI (xI t.m (pw y))=1 then ⟨s.c,oI s.z (xI t.m (pw y)),true,s.pl&&t.c==4⟩ else ⟨s.c,s.z,true,false⟩) else s
def ar0:Ar:=⟨0,0,false,true⟩
def arF(y:Nat)(ts:List Tm) : Ar:=ts.foldl (arStep y) ar0
def ruK(ins:Int)(s:Ar) : Int:=
 if s.pl=false then 0 else if s.c=0∧s.z=0 then 1 else if s.c=2∨s.c=6 then 2 else if (s.c=0∨s.c=4)∧0<s.z/2^ins.toNat then 3 else 0
def outB(y:Nat)(l:List Af) : Bool:=l.any fun a=>bitQ y a.m
def ruR(p:Ps)(y:Nat) : Int×Int×Int:=
 if outB y p.out then (0,0,0) else if ruK p.ins (arF y p.ts)=0 then (0,0,0) else (ruK p.ins (arF y p.ts),(arF y p.ts).c,(arF y p.ts).z)
theorem Xi6{m:Int}(h:Mk m) : szI m=0↔m=0:=by
 constructor
 ·intro h0;refine Classical.byContradiction fun hn=>?_
  have:=Xkp h (by have:=h.1;omega)
  omega
 ·rintro rfl;rfl
structure ArI (s:Ar) : Prop where
 c:0≤s.c∧s.c<8
 z:Mk s.z
 any:s.pl=true→s.any=true→s.c≠0∨s.z≠0
 none:s.any=false→s.c=0∧s.z=0
theorem Xpt{a b:Int}(ha:Mk a)(hb:Mk b)(h:b≠0) : oI a b≠0:=by
 obtain ⟨x,hx,rfl⟩:=ha.nat;obtain ⟨y,hy,rfl⟩:=hb.nat
 unfold oI
 rw [X3h (X2j hx) (X2j hy)]
 intro e
 have e:x ||| y=0:=by omega
 have:y=0:=by
  apply Nat.eq_of_testBit_eq
  intro i
  have:=congrArg (fun z=>z.testBit i) e
  simp only [Nat.testBit_or,Nat.zero_testBit,Bool.or_eq_false_iff] at this
  rw [this.2,Nat.zero_testBit]
 omega
theorem Xv0{y:Nat}(hy:y<24) : Mk (pw y):=Mk.of (Nat.pow_lt_pow_right (by decide) hy)
theorem ArI.step{y:Nat}{s:Ar}{t:Tm}(h:ArI s)(ht:Mk t.m∧0<t.c∧t.c<8)(hy:y<24) : ArI (arStep y s t):=by
 have hr:=ht.1.xor (Xv0 hy)
 unfold arStep
 split
 ·split
  ·exact ⟨⟨by show 0≤t.c;omega,ht.2.2⟩,h.z,fun _ _=>.inl (by show t.c≠0;omega),fun e=>Bool.noConfusion e⟩
  ·split
   ·rename_i h1 h2
    refine ⟨h.c,h.z.or hr,fun _ _=>.inr (Xpt h.z hr fun e=>?_),fun e=>Bool.noConfusion e⟩
    exact h1 ((Xi6 hr).2 e)
   ·exact ⟨h.c,h.z,fun e=>Bool.noConfusion e,fun e=>Bool.noConfusion e⟩
 ·exact h
theorem ArI.fold{y:Nat}(hy:y<24) : ∀ (l:List Tm) {s:Ar},ArI s→(∀ t ∈ l,Mk t.m∧0<t.c∧t.c<8)→ArI (l.foldl (arStep y) s)
 | [],_,h,_=>h
 | t::l,s,h,ht=>ArI.fold hy l (h.step (ht t (by simp)) hy) fun x hx=>ht x (Ql _ hx)
theorem ArI.zero:ArI ar0:=⟨⟨by decide,by decide⟩,Mk.zero,fun _ e=>Bool.noConfusion e,fun _=>⟨rfl,rfl⟩⟩
theorem OkT.mks{ts:List Tm}(h:OkT ts) : ∀ t ∈ ts,Mk t.m:=fun t ht=>⟨by have:=(h.all t ht).1;omega,(h.all t ht).2.1⟩
def IsLow(x q:Nat) : Prop:=x.testBit q=true∧∀ i,i<q→x.testBit i=false
theorem IsLow.eq{x a b:Nat}(ha:IsLow x a)(hb:IsLow x b) : a=b:=by
 rcases Nat.lt_trichotomy a b with h|h|h
 ·have:=hb.2 a h;rw [ha.1] at this;cases this
 ·exact h
 ·have:=ha.2 b h;rw [hb.1] at this;cases this
def tzN(x:Nat) : Nat:=if x=0 then 64 else (setN x).getD 0 0
def rqZ(p:Ps)(y:Nat)(d:Int) : Ps:={ repP p y afZ with root:=p.root-d }
def vR(p:Ps)(y:Nat) : Nat:=nS (drI y (arF y p.ts).z/2^p.ins.toNat) 0+p.ins.toNat
def outR(p:Ps)(y:Nat) : Ps:=
 if ruK p.ins (arF y p.ts)=1 then rqZ p y 2
 else if ruK p.ins (arF y p.ts)=2 then omR (rqZ p y 1) (if (arF y p.ts).c=2 then 1 else 7) (if (arF y p.ts).c=2 then 6 else 2) (drI y (arF y p.ts).z)
 else repP (rqZ p y 2) (vR p y) ⟨xI (drI y (arF y p.ts).z) (pw (vR p y)),(arF y p.ts).c/4⟩
def inI(p:Ps)(z:Int) : Nat:=tzN (without z.toNat (2^p.ins.toNat-1))
def inJ(p:Ps)(y:Nat)(z:Int) : Nat:=if y<inI p z then inI p z-1 else inI p z
section
variable {p : Ps} {y : Nat} (h : VPs p) (hy : p.ins.toNat ≤ y ∧ y < 24) (ho : outB y p.out = false)
include h ho
include hy
end
def firstY(p:Ps) : Option Nat:=(List.range p.vars.toNat).find? fun j=>(ruR p (p.ins.toNat+j)).1 != 0
def stepP(p:Ps) : Option (Ps×Int):=(firstY p).map fun j=>(outR p (p.ins.toNat+j),(ruR p (p.ins.toNat+j)).1)
def nxtP(p:Ps) : Option (Ps×Int):=(stepP p).bind fun q=>if validP q.1 then some q else none
def redN:Nat→Ps→Ps×Nat
 | 0,p=>(p,0)
 | n+1,p=>match nxtP p with
  | none=>(p,0)
  | some q=>((redN n q.1).1,(redN n q.1).2+1)
def redP(p:Ps) : Ps×Nat:=redN p.vars.toNat p
def idP(p:Ps) : Bool:=decide (p.vars=0)&&decide (p.ts.length=0)&&decide (p.root=0)&&(List.range p.out.length).all fun q=>decide (p.out.getD q afZ=varA q)
section
variable {ts : List Tm} {v k : Nat} {y : Af} {u : Tm} {f g : Int → Int}
end
theorem AO.dA{v:Nat}{y:Af}(h:AO y) : AO (dA v y):=⟨h.1.dr,h.2⟩
def delF(y:Nat)(l:List Tm)(f:Int→Int) : Int→Int:=l.foldl (fun f t=>if bitQ y t.m then upd f t.m 0 else f) f
theorem PO.upd0{f:Int→Int}(h:PO f)(m:Int) : PO (upd f m 0):=fun x=>by
 unfold upd
 split
 ·exact ⟨Int.le_refl _,by decide⟩
 ·exact h x
theorem SupF.upd0{f:Int→Int}(h:SupF f)(m:Int) : SupF (upd f m 0):=fun x hx=>h x fun e=>hx (by
 unfold upd
 split
 ·rfl
 ·exact e)
def dbN:List Nat:=[0,1,56,2,57,49,28,3,61,58,42,50,38,29,17,4,62,47,59,36,45,43,51,22,53,39,33,30,24,18,12,5,63,55,48,27,60,41,37,16,46,35,44,21,52,32,23,11,54,26,40,15,34,20,31,10,25,14,19,9,13,8,7,6]
def dbL:List Value:=dbN.map fun (n:Nat)=>.int .u8 (n:Int)
def TabAt(w:World) : Prop:=At w ⟨1,0,none⟩ dbL
theorem TabAt.up{w w':World}{B:Nat}(h:TabAt w)(hb:Below B w w')(h1:1<B) : TabAt w':=fun j v hj=>by
 have:=h j v hj
 rw [← this]
 exact hb.cell (by rw [X65];exact h1)
def dbI(q:Nat) : Nat:=2^q*285870213051353865 % 2^64/2^58
def chkT:Bool:=(List.range 64).all fun q=>dbN[dbI q]?==some q
section
variable {P : Program} {a : Act} {w : World} {n : Nat} {e : Env} {ty : TypeId} {pos : String} {af : Array Edge} {g : Option (Nat × Bool)} {d : Option Tmp} {t t' : TypeId} {x y : Operand} {i j : Int}
theorem Xmo{T E:TypeId}{len k:Nat}{vs:List Value}{v:Value}(hf:Fr a n e)(hx:ev e x=some (.agg vs.toArray))(hy:ev e y=some (.int .i64 i))(hT:P.underlying T=some (.array len E))(hs:SizeT P E 1)(h1:OneT P E)(hi:i=(k:Int))(hk:k<len)(hv:vs[k]? = some v) : Ev P ⟨d,.index T x y,ty,pos,af,g⟩ a w v:=fun w' _=>by
 subst hi
 have h4:=X0x (P:=P) hT w';have h5:=run_sizeOf' hs w';have h6:=X42 (P:=P) (w:=w') h1
 simp [execOp,hf.ev hx,hf.ev hy,Instr.index,asIntOf,h4,h5,h6,part,hk,hv]
theorem Xuc{T E:TypeId}{len k:Nat}{vs:List Value}{v:Value}(hx:ev e x=some (.agg vs.toArray))(hy:ev e y=some (.int .i64 i))(hT:P.underlying T=some (.array len E))(hs:SizeT P E 1)(h1:OneT P E)(hi:i=(k:Int))(hk:k<len)(hv:vs[k]? = some v) : EvW P ⟨d,.index T x y,ty,pos,af,g⟩ n e w v:=fun a hf=>Xmo hf hx hy hT hs h1 hi hk hv
end
section
variable {j : Nat} {s : Ar} {u : Tm}
end
section
variable {ins : Int} {s : Ar} (hp : s.pl = true)
include hp
end
def ruQ(p:Ps)(j:Nat) : Ps:=if ruK p.ins (arF j p.ts)=0 then psZ else outR p j
section
variable {p : Ps} {j : Nat} {s : Ar}
end
abbrev q3P(p:Ps)(k:Nat) : Ps:=repP (⟨(repP p (p.ins.toNat+k:Nat) afZ).ins,(repP p (p.ins.toNat+k:Nat) afZ).vars,((repP p (p.ins.toNat+k:Nat) afZ).root)-2,(repP p (p.ins.toNat+k:Nat) afZ).phase,(repP p (p.ins.toNat+k:Nat) afZ).ts,(repP p (p.ins.toNat+k:Nat) afZ).out⟩ : Ps) ((vR p (p.ins.toNat+k)) : Nat) (⟨(xI (drI (p.ins.toNat+k) (arF (p.ins.toNat+k) p.ts).z) (pw (vR p (p.ins.toNat+k)))),((arF (p.ins.toNat+k) p.ts).c/4)⟩ : Af)
abbrev q4P(p:Ps)(j:Nat) : Ps:=(⟨(stP p j 0 0).ins,(stP p j 0 0).vars,((stP p j 0 0).root)-2,(stP p j 0 0).phase,(stP p j 0 0).ts,(stP p j 0 0).out⟩ : Ps)
abbrev q5A(p:Ps)(j:Nat) : Af:=⟨drI j (xI (arF j p.ts).z (pw (inI p (arF j p.ts).z))),((arF j p.ts).c/4)⟩
def polF(q:Ps) : Int→Int:=foldA (sm q.ts) (cPh q.phase)
theorem X92{α:Type}(p q r:α→Bool)(h:∀ x,r x=true→p x=true∨q x=true) : ∀ l:List α,(l.filter r).length≤(l.filter p).length+(l.filter q).length
 | []=>Qb _
 | a::l=>by
  have ih:=X92 p q r h l
  rw [List.filter_cons,List.filter_cons,List.filter_cons]
  cases hr:r a with
  | false=>
   rw [Q3 (by decide)]
   split
   ·split
    ·rw [Qs,Qs];omega
    ·rw [Qs];omega
   ·split
    ·rw [Qs];omega
    ·omega
  | true=>
   rw [Q4 rfl]
   rcases h a hr with h1|h1
   ·rw [h1,Q4 rfl,Qs,Qs]
    split
    ·rw [Qs];omega
    ·omega
   ·rw [h1,Q4 rfl,Qs,Qs]
    split
    ·rw [Qs];omega
    ·omega
theorem X8j{a b:Int}(ha:Mk a)(hb:Mk b) : szI (oI a b)≤szI a+szI b:=by
 obtain ⟨x,hx,rfl⟩:=ha.nat;obtain ⟨y,hy,rfl⟩:=hb.nat
 unfold oI szI
 rw [X3h (X2j hx) (X2j hy)]
 unfold setN
 refine X92 _ _ _ (fun i h=>?_) _
 rw [show ((x ||| y:Nat) : Int).toNat=x ||| y from rfl,Nat.testBit_or,Bool.or_eq_true] at h
 exact h
theorem X85{m x:Int}(hm:Mk m)(h:x ∈ lows m) : szI x=1:=by
 obtain ⟨M,hM,rfl⟩:=hm.nat
 unfold lows at h
 obtain ⟨k,hk,rfl⟩:=W6.1 h
 have hk62:k<62:=by unfold setN at hk;exact W2.1 (List.mem_filter.1 hk).1
 unfold szI
 rw [show (((2^k:Nat) : Int)).toNat=2^k from rfl]
 have:setN (2^k)=[k]:=by
  refine Xbu (Xgr _) (List.pairwise_singleton _ _) fun t=>?_
  rw [X4x (Xaa hk62),Nat.testBit_two_pow,Qm]
  simp [eq_comm]
 rw [this];rfl
def dv(m:Int) : Int:=((2^min (szI m-1) 3:Nat) : Int)
theorem X5l{m:Int}{k:Int}{s:Nat}(h:szI m≤s)(hk:((2^(s-1) : Nat) : Int)∣k) : dv m∣k:=by
 refine Int.dvd_trans ?_ hk
 exact Int.ofNat_dvd.2 (Nat.pow_dvd_pow 2 (by omega))
theorem dv8(m:Int) : dv m∣8:=by
 have:dv m∣((2^3:Nat) : Int):=Int.ofNat_dvd.2 (Nat.pow_dvd_pow 2 (by omega))
 exact this
def Dv(f:Int→Int) : Prop:=∀ x,dv x∣f x
theorem Dv.padd{f:Int→Int}(h:Dv f){m k:Int}(hk:dv m∣k) : Dv (padd f m k):=fun x=>by
 unfold Proofs.YtpifljegadknkaaGreat.padd upd
 split
 ·rename_i e
  subst e
  rw [Int.emod_def]
  exact Int.dvd_sub (Int.dvd_add (h x) hk) (Int.dvd_trans (dv8 x) (Int.dvd_mul_right _ _))
 ·exact h x
theorem Dv.fold:∀ {L:List Sm} {f:Int→Int},Dv f→(∀ p ∈ L,dv p.1∣p.2)→Dv (foldA L f)
 | [],_,h,_=>h
 | p::L,f,h,hL=>Dv.fold (L:=L) (h.padd (hL p (by simp))) fun q hq=>hL q (Ql _ hq)
theorem Xaz(k:Int) : dv 0∣k:=by
 have:dv 0=1:=by decide +kernel
 rw [this];exact Int.one_dvd _
section
variable {l : List Int} (hl : ∀ x ∈ l, Mk x ∧ szI x = 1)
include hl
theorem Xde(n:Nat) : Mk (l.getD n 0)∧szI (l.getD n 0)≤1:=by
 rw [Qa]
 cases e:l[n]? with
 | none=>exact ⟨Mk.zero,by show szI 0≤1;decide +kernel⟩
 | some x=>have:=hl x (Qe e);exact ⟨this.1,Nat.le_of_eq this.2⟩
theorem Xf3{x y k:Int}(hx:Mk x∧szI x≤1)(hy:Mk y∧szI y≤1) : ∀ n,∀ p ∈ exZL 0 x y k l n,dv p.1∣p.2
 | 0,p,h=>by cases h
 | n+1,p,h=>by
  rcases Qu.1 h with h|h
  ·exact Xf3 hx hy n p h
  ·rw [Qm.1 h]
   have hz:=Xde hl n;have h1:=X8j Mk.zero hx.1;have h2:=X8j (Mk.zero.or hx.1) hy.1;have h3:=X8j ((Mk.zero.or hx.1).or hy.1) hz.1
   have h0:szI 0=0:=by decide +kernel
   exact X5l (s:=3) (by show szI (oI (oI (oI 0 x) y) (l.getD n 0))≤3;omega) (Int.dvd_mul_right 4 k)
theorem Xe0{x k:Int}(hx:Mk x∧szI x≤1) : ∀ n,∀ p ∈ exYL 0 x k l n,dv p.1∣p.2
 | 0,p,h=>by cases h
 | n+1,p,h=>by
  have hy:=Xde hl n
  rcases Qu.1 h with h|h
  ·exact Xe0 hx n p h
  ·rcases Qv.1 h with rfl|h
   ·have h1:=X8j Mk.zero hx.1;have h2:=X8j (Mk.zero.or hx.1) hy.1
    have h0:szI 0=0:=by decide +kernel
    refine X5l (s:=2) (by show szI (oI (oI 0 x) (l.getD n 0))≤2;omega) ?_
    show (2:Int) ∣ -2*k
    exact Int.dvd_trans (by decide) (Int.dvd_mul_right (-2) k)
   ·exact Xf3 hl hx hy n p h
theorem Xat{k:Int} : ∀ n,∀ p ∈ exXL 0 k l n,dv p.1∣p.2
 | 0,p,h=>by cases h
 | n+1,p,h=>by
  have hy:=Xde hl n
  rcases Qu.1 h with h|h
  ·exact Xat n p h
  ·rcases Qv.1 h with rfl|h
   ·have h1:=X8j Mk.zero hy.1
    have h0:szI 0=0:=by decide +kernel
    exact X5l (s:=1) (by show szI (oI 0 (l.getD n 0))≤1;omega) (Int.one_dvd _)
   ·exact Xe0 hl hy n p h
end
theorem Xg2{k:Int}{a:Af}(ha:Mk a.m) : ∀ p ∈ expL k a 0,dv p.1∣p.2:=fun p hp=>by
 have hl:∀ x ∈ lows a.m,Mk x∧szI x=1:=fun x hx=>⟨X3z ha hx,X85 ha hx⟩
 unfold expL at hp
 split at hp
 ·rcases Qv.1 hp with rfl|hp
  ·exact Xaz _
  ·exact Xat hl _ p hp
 ·exact Xat hl _ p hp
theorem Xfy{u v:Af}(hu:Mk u.m)(hv:Mk v.m) : ∀ p ∈ sumS u v,dv p.1∣p.2:=fun p hp=>by
 have h4:∀ k:Int,(2:Int)∣4*k:=fun k=>Int.dvd_trans (by decide) (Int.dvd_mul_right 4 k)
 unfold sumS at hp
 rcases Qu.1 hp with hp|hp
 ·rcases Qu.1 hp with hp|hp
  ·obtain ⟨x,hx,hp⟩:=List.mem_flatMap.1 hp
   rcases Qu.1 hp with hp|hp
   ·obtain ⟨y,hy,rfl⟩:=W6.1 hp;have h1:=X8j (X3z hu hx) (X3z hv hy);have h2:=X85 hu hx;have h3:=X85 hv hy;exact X5l (s:=2) (by show szI (oI x y)≤2;omega) (show (2:Int)∣4 by decide)
   ·rw [Qm.1 hp]
    exact X5l (s:=1) (Nat.le_of_eq (X85 hu hx)) (Int.one_dvd _)
  ·obtain ⟨y,hy,rfl⟩:=W6.1 hp;exact X5l (s:=1) (Nat.le_of_eq (X85 hv hy)) (Int.one_dvd _)
 ·rw [Qm.1 hp];exact Xaz _
def Lt(N:Nat)(m:Int) : Prop:=Mk m∧m<((2^N:Nat) : Int)
theorem Lt.zero(N:Nat) : Lt N 0:=⟨Mk.zero,by have:=Nat.two_pow_pos N;omega⟩
theorem Lt.or{N:Nat}{a b:Int}(ha:Lt N a)(hb:Lt N b) : Lt N (oI a b):=by
 refine ⟨ha.1.or hb.1,?_⟩
 obtain ⟨x,hx,rfl⟩:=ha.1.nat;obtain ⟨y,hy,rfl⟩:=hb.1.nat
 unfold oI
 rw [X3h (X2j hx) (X2j hy)]
 have h1:=ha.2;have h2:=hb.2;exact Int.ofNat_lt.2 (Nat.or_lt_two_pow (Int.ofNat_lt.1 h1) (Int.ofNat_lt.1 h2))
theorem Lt.xor{N:Nat}{a b:Int}(ha:Lt N a)(hb:Lt N b) : Lt N (xI a b):=by
 refine ⟨ha.1.xor hb.1,?_⟩
 obtain ⟨x,hx,rfl⟩:=ha.1.nat;obtain ⟨y,hy,rfl⟩:=hb.1.nat
 unfold xI
 rw [X4h (X2j hx) (X2j hy)]
 exact Int.ofNat_lt.2 (Nat.xor_lt_two_pow (Int.ofNat_lt.1 ha.2) (Int.ofNat_lt.1 hb.2))
theorem Lt.mono{N M:Nat}(h:N≤M){m:Int}(hm:Lt N m) : Lt M m:=⟨hm.1,by
 have:=Nat.pow_le_pow_right (n:=2) (by decide) h
 have:=hm.2
 omega⟩
theorem X6l{N:Nat}{m x:Int}(h:Lt N m)(hx:x ∈ lows m) : Lt N x:=by
 refine ⟨X3z h.1 hx,?_⟩
 obtain ⟨M,hM,rfl⟩:=h.1.nat
 unfold lows at hx
 obtain ⟨k,hk,rfl⟩:=W6.1 hx
 have hk:M.testBit k=true:=(X4x (X2j hM)).1 hk
 have:2^k≤M:=Nat.ge_two_pow_of_testBit hk
 have:=h.2
 omega
theorem Xen{N:Nat}{k r:Int}{a:Af}(ha:Lt N a.m)(hr:Lt N r) : ∀ p ∈ expL k a r,Lt N p.1:=fun p hp=>by
 have hX:=fun k n=>X7v (k:=k) (r:=r) (Q:=Lt N) (l:=lows a.m) (fun _ _ h1 h2=>h1.or h2) (Lt.zero N) (fun x hx=>X6l ha hx) hr n
 unfold expL at hp
 split at hp
 ·rcases Qv.1 hp with rfl|hp
  ·exact hr
  ·exact hX _ _ p hp
 ·exact hX _ _ p hp
theorem Xe6{N:Nat}{u v:Af}(hu:Lt N u.m)(hv:Lt N v.m) : ∀ p ∈ sumS u v,Lt N p.1:=fun p hp=>by
 unfold sumS at hp
 rcases Qu.1 hp with hp|hp
 ·rcases Qu.1 hp with hp|hp
  ·obtain ⟨x,hx,hp⟩:=List.mem_flatMap.1 hp
   rcases Qu.1 hp with hp|hp
   ·obtain ⟨y,hy,rfl⟩:=W6.1 hp;exact (X6l hu hx).or (X6l hv hy)
   ·rw [Qm.1 hp];exact X6l hu hx
  ·obtain ⟨y,hy,rfl⟩:=W6.1 hp;exact X6l hv hy
 ·rw [Qm.1 hp];exact Lt.zero N
def SupN(N:Nat)(f:Int→Int) : Prop:=∀ x,f x≠0→Lt N x
theorem SupN.fold{N:Nat}{L:List Sm}(h:∀ p ∈ L,Lt N p.1){f:Int→Int}(hf:PO f)(hs:SupN N f) : SupN N (foldA L f):=fun x hx=>by
 rw [X44 _ hf] at hx
 by_cases e:f x=0
 ·refine Classical.byContradiction fun hn=>hx ?_
  rw [e,X4a fun p hp e2=>hn (by rw [← e2];exact h p hp)];rfl
 ·exact hs x e
structure PsV (n:Nat) (s:Pst) : Prop where
 ok:PsOk n s
 sup:SupN (n+s.v) s.f
 dv:Dv s.f
 out:∀ a ∈ s.out,Lt (n+s.v) a.m
theorem Lt.at{N:Nat}{l:List Af}(h:∀ a ∈ l,Lt N a.m)(i:Int) : Lt N (aAt l i).m:=by
 unfold aAt
 rw [Qa]
 cases e:l[i.toNat]? with
 | none=>exact Lt.zero N
 | some a=>exact h a (Qe e)
theorem Xdr{n:Nat}(h:n<24) : Lt (n+1) (varA n).m:=⟨(AO.var h).1,Int.ofNat_lt.2 (Nat.pow_lt_pow_right (by decide) (Nat.lt_succ_self n))⟩
theorem PsV.step{n:Nat}{s t:Pst}{g:Gt}(h:PsV n s)(e:psStep n s g=some t) : PsV n t:=by
 have hok:=h.ok.step e;have hu:=AO.at h.ok.all g.a;have hv:=AO.at h.ok.all g.b
 have lu:=Lt.at h.out g.a
 have lv:=Lt.at h.out g.b
 have h0:∀ k,SupN (n+s.v) (padd s.f 0 k):=fun k=>SupN.fold (L:=[(0,k)]) (fun p hp=>by rw [Qm.1 hp];exact Lt.zero _) h.ok.po h.sup
 have d0:∀ k,Dv (padd s.f 0 k):=fun k=>h.dv.padd (Xaz k)
 unfold psStep at e
 split at e
 ·split at e
  ·cases e
  ·rename_i h24
   have hvar:=Xdr (n:=n+s.v) (by omega)
   injection e with e;subst e
   refine ⟨hok,SupN.fold (Xe6 (lu.mono (by show n+s.v≤n+(s.v+1);omega)) hvar) h.ok.po (fun x hx=>(h.sup x hx).mono (by show n+s.v≤n+(s.v+1);omega)),Dv.fold h.dv (Xfy hu.1 hvar.1),X2k (fun a ha=>(h.out a ha).mono (by show n+s.v≤n+(s.v+1);omega)) hvar⟩
 ·split at e
  ·injection e with e;subst e
   exact ⟨hok,h.sup,h.dv,X2k h.out (lu.xor (Lt.zero _))⟩
  ·split at e
   ·injection e with e;subst e
    refine ⟨hok,?_,?_,X2k h.out (lu.xor (Lt.zero _))⟩
    ·show SupN _ (expP _ _ _ _)
     rw [X4d]
     exact SupN.fold (Xen lu (Lt.zero _)) (h.ok.po.padd _ _) (h0 2)
    ·show Dv (expP _ _ _ _)
     rw [X4d]
     exact Dv.fold (d0 2) (Xg2 hu.1)
   ·split at e
    ·injection e with e;subst e
     exact ⟨hok,h.sup,h.dv,X2k h.out (lu.xor lv)⟩
    ·split at e
     ·injection e with e;subst e
      exact ⟨hok,SupN.fold (Xe6 lu lv) h.ok.po h.sup,Dv.fold h.dv (Xfy hu.1 hv.1),h.out⟩
     ·split at e
      ·injection e with e;subst e
       exact ⟨hok,h.sup,h.dv,X2k (X2k h.out lv) lu⟩
      ·split at e
       ·injection e with e;subst e
        exact ⟨hok,h0 1,d0 1,h.out⟩
       ·injection e with e;subst e
        refine ⟨hok,?_,?_,h.out⟩
        ·show SupN _ (expP _ _ _ _)
         rw [X4d]
         exact SupN.fold (Xen lu (Lt.zero _)) h.ok.po h.sup
        ·show Dv (expP _ _ _ _)
         rw [X4d]
         exact Dv.fold h.dv (Xg2 hu.1)
theorem PsV.fold{n:Nat} : ∀ (l:List Gt) {s t:Pst},PsV n s→psAll n l s=some t→PsV n t
 | [],s,t,h,e=>by injection e with e;subst e;exact h
 | g::l,s,t,h,e=>by
  have e:(psStep n s g).bind (psAll n l)=some t:=e
  cases h1:psStep n s g with
  | none=>rw [h1] at e;cases e
  | some u=>rw [h1] at e;exact PsV.fold l (h.step h1) e
theorem PsV.zero{n:Nat}(h:n≤5) : PsV n (ps0 n):=⟨PsOk.zero h,fun x hx=>absurd rfl hx,fun x=>Int.dvd_zero _,fun a ha=>by
 simp only [ps0,varsN,W6,W2] at ha
 obtain ⟨k,hk,rfl⟩:=ha
 exact (Xdr (by omega)).mono (by show k+1≤n+0;omega)⟩
structure BdP (p q:Ps) : Prop where
 mks:∀ t ∈ q.ts,Mk t.m
 len:q.ts.length≤16777216
 out:q.out.length≤100000000
 ins:-1000≤q.ins∧q.ins≤1000
 vars:-1000≤q.vars∧q.vars≤1000
structure VPr (p:Ps) : Prop where
 v:VPs p
 root:-60≤p.root∧p.root≤60
 len:p.ts.length≤16777216
 out:p.out.length≤5
theorem VPr.of{p:Ps}(h:validP p=true) : VPr p:=by
 have hv:=VPs.of h
 simp only [validP,okHd,Qd] at h
 obtain ⟨⟨⟨⟨⟨⟨h1,h2⟩,h3⟩,h4⟩,h5⟩,h6⟩,h7⟩:=h
 simp only [inR,Qd,Qr] at h1 h2 h3 h4 h5
 refine ⟨hv,h3,?_,by omega⟩
 have:=X7w (lo:=0) (hi:=16777216) hv.ts.rise fun t ht=>⟨(hv.ts.all t ht).1,(hv.ts.all t ht).2.1⟩
 omega
def bQ(j:Nat)(x:Af) : Bool:=bits .and .i64 (x.m/2^j) 1==1
def rdP(p:Ps) : Ps×Nat:=if validP p then redP p else (psZ,0)
def idK(l:List Af)(k:Nat) : Bool:=(List.range k).all fun q=>decide (l.getD q afZ=varA q)
def idH(p:Ps) : Bool:=decide (p.vars=0)&&decide (p.ts.length=0)&&decide (p.root=0)
theorem Xiy(g:Gt) : 1≤bkN g∧bkN g≤7:=by unfold bkN;split<;>omega
theorem Xq8{n:Int}{g:Gt}(h:gOk n g=true) : gOk n (bkG g)=true:=by
 obtain ⟨k,a,b⟩:=g
 unfold gOk at h ⊢
 simp only [Qd] at h ⊢
 obtain ⟨⟨h1,h2⟩,h3⟩:=h
 have h2':1≤k∧k≤12:=by simpa [inR] using h2
 have hk:(bkG ⟨k,a,b⟩).k=if k=5∨k=7 then k+1 else if k=6∨k=8 then k-1 else k:=rfl
 have ha:(bkG ⟨k,a,b⟩).a=a:=rfl
 have hb:(bkG ⟨k,a,b⟩).b=b:=rfl
 rw [ha,hb]
 by_cases e:k=5∨k=7
 ·have hkk:(bkG ⟨k,a,b⟩).k=k+1:=by rw [hk,Q4 e]
  rw [hkk]
  refine ⟨⟨h1,by simp [inR];omega⟩,?_⟩
  rw [Q3 (show ¬ k=12 by omega),Q3 (show ¬ inR k 9 11=true by simp [inR];omega)] at h3
  rw [Q3 (show ¬ k+1=12 by omega),Q3 (show ¬ inR (k+1) 9 11=true by simp [inR];omega)]
  exact h3
 ·by_cases e2:k=6∨k=8
  ·have hkk:(bkG ⟨k,a,b⟩).k=k-1:=by rw [hk,Q3 e,Q4 e2]
   rw [hkk]
   refine ⟨⟨h1,by simp [inR];omega⟩,?_⟩
   rw [Q3 (show ¬ k=12 by omega),Q3 (show ¬ inR k 9 11=true by simp [inR];omega)] at h3
   rw [Q3 (show ¬ k-1=12 by omega),Q3 (show ¬ inR (k-1) 9 11=true by simp [inR];omega)]
   exact h3
  ·have hkk:(bkG ⟨k,a,b⟩).k=k:=by rw [hk,Q3 e,Q3 e2]
   rw [hkk]
   exact ⟨⟨h1,h2⟩,h3⟩
def invG(g:Gt) : List Gt:=List.replicate (bkN g).toNat (bkG g)
def invL(gs:List Gt) : List Gt:=gs.reverse.flatMap invG
def invO(c:Cx) : Option Cx:=if cOk c&&decide ((invL c.gs).length≤400) then some ⟨c.n,invL c.gs⟩ else none
def conO(a b:Cx) : Option Cx:=if cOk a&&cOk b&&decide (a.n=b.n)&&decide (a.gs.length+b.gs.length≤400) then some ⟨a.n,a.gs++b.gs⟩ else none
theorem X2l{c:Cx} : cOk c=true↔inR c.n 1 5=true∧c.gs.length≤400∧∀ g ∈ c.gs,gOk c.n g=true:=by
 simp only [cOk,Qd,Qr,Bool.not_eq_true',W7]
 constructor
 ·rintro ⟨⟨h1,h2⟩,h3⟩;exact ⟨h1,by omega,fun g hg=>by have:=h3 g hg;simpa using this⟩
 ·rintro ⟨h1,h2,h3⟩;exact ⟨⟨h1,by omega⟩,fun g hg=>by rw [h3 g hg];decide⟩
theorem Xmu{c:Cx}(h:cOk c=true) : ∀ g ∈ invL c.gs,gOk c.n g=true:=fun g hg=>by
 unfold invL at hg
 obtain ⟨x,hx,hg⟩:=List.mem_flatMap.1 hg
 unfold invG at hg
 rw [(List.mem_replicate.1 hg).2]
 exact Xq8 ((X2l.1 h).2.2 x (List.mem_reverse.1 hx))
theorem Xke{c:Cx}(h:cOk c=true) : cIf ⟨c.n,invL c.gs⟩=invO c:=by
 unfold cIf invO
 rw [h,Qw]
 by_cases hl:(invL c.gs).length≤400
 ·have hc:cOk ⟨c.n,invL c.gs⟩=true:=X2l.2 ⟨(X2l.1 h).1,hl,Xmu h⟩
  rw [Q4 hc,Q4 (decide_eq_true hl)]
 ·have hc:¬ cOk ⟨c.n,invL c.gs⟩=true:=fun h2=>hl (X2l.1 h2).2.1
  rw [Q3 hc,Q3 (by rw [decide_eq_false hl];decide)]
theorem Xez{a b:Cx}(ha:cOk a=true)(hb:cOk b=true)(hn:a.n=b.n) : cIf ⟨a.n,a.gs++b.gs⟩=conO a b:=by
 unfold cIf conO
 rw [ha,hb,decide_eq_true hn,Qw,Qw]
 by_cases hl:a.gs.length+b.gs.length≤400
 ·have hc:cOk ⟨a.n,a.gs++b.gs⟩=true:=X2l.2 ⟨(X2l.1 ha).1,by show (a.gs++b.gs).length≤400;rw [Qh];exact hl,fun g hg=>by
   rcases Qu.1 hg with hg|hg
   ·exact (X2l.1 ha).2.2 g hg
   ·rw [show (⟨a.n,a.gs++b.gs⟩ : Cx).n=b.n from hn];exact (X2l.1 hb).2.2 g hg⟩
  rw [Q4 hc,Q4 (by rw [decide_eq_true hl];rfl)]
 ·have hc:¬ cOk ⟨a.n,a.gs++b.gs⟩=true:=fun h2=>hl (by have:=(X2l.1 h2).2.1;rwa [show (⟨a.n,a.gs++b.gs⟩ : Cx).gs.length=a.gs.length+b.gs.length from Qh] at this)
  rw [Q3 hc,Q3 (by rw [decide_eq_false hl];decide)]
theorem Xew(q:Cx) : ((invO q).getD cZ).gs.length≤2000000:=by
 unfold invO
 split
 ·rename_i h
  simp only [Qd,Qr] at h
  exact Q0 h.2 (by decide)
 ·show (0:Nat)≤_
  omega
theorem Xq6{a b c:Cx}(h:conO a b=some c) : cOk c=true:=by
 unfold conO at h
 split at h
 ·rename_i hc
  injection h with h
  simp only [Qd,Qr] at hc
  rw [← h]
  have:=Xez hc.1.1.1 hc.1.1.2 hc.1.2
  unfold cIf at this
  split at this
  ·assumption
  ·unfold conO at this
   rw [Q4 (by simp only [Qd,Qr];exact hc)] at this
   cases this
 ·cases h
theorem Xkj{gs:List Gt}{k:Nat}(h:k<gs.length) : gs.reverse[k]? = some (gs.getD (gs.length-1-k) gZ):=by
 rw [List.getElem?_reverse h,Xg6 (by omega)]
theorem Xb8{gs:List Gt}{k:Nat}(h:k<gs.length) : (gs.reverse.take (k+1)).flatMap invG=(gs.reverse.take k).flatMap invG++List.replicate (bkN (gs.getD (gs.length-1-k) gZ)).toNat (bkG (gs.getD (gs.length-1-k) gZ)):=by
 rw [Qt,Xkj h,List.flatMap_append]
 simp [invG]
theorem Xce{α:Type}(j:Nat)(x:α) : List.replicate (j+1) x=List.replicate j x++[x]:=by rw [List.replicate_succ']
def veP(p:Ps) : Int×Int×Bool:=if idP (redP p).1 then (1,(redP p).1.phase,true) else if (redP p).1.vars=0 then (2,0,true) else (0,0,true)
def veO(o:Option Cx) : Int×Int×Bool:=(o.bind psC).elim (0,0,false) veP
def veM(a b:Cx) : Int×Int×Bool:=veO ((invO b).bind (conO a))
theorem Xli(p q:Cx) : ((conO p q).getD cZ).gs.length≤2000000:=by
 cases e:conO p q with
 | none=>show (0:Nat)≤_;omega
 | some c=>exact Q0 (X2l.1 (Xq6 e)).2.1 (by decide)
theorem Xlh(p q:Cx) : (((invO q).bind (conO p)).getD cZ).gs.length≤2000000:=by
 cases e:invO q with
 | none=>show (0:Nat)≤_;omega
 | some x=>exact Xli p x
theorem Xu6(w0:World)(k:Int) : Ret Tryz.prog 144 [vi k] w0 (fun v w=>v=vi (rotC k)∧w0=w):=by
 refine enter Tryz.func144 rfl 14 rfl rfl ?_;intro a b
 have hW:=bz w0
 refine Zs b fun _ aL=>?_;refine Za rfl<|ZX aL fun a b _ aM=>?_;refine Zs b fun _ aN=>?_;refine Zm rfl<|Zt aN fun a b=>?_;refine Q8<|Zs b fun _ aO=>?_;refine Ze (X0b rfl rfl)<|Za rfl<|Zt aO fun a b=>?_
 refine Xg b rfl (fun a6=>?_) (fun a6=>?_)
 ·have aC:=a6;refine Zs b fun _ aP=>?_;refine Za rfl<|Zt aP fun a b=>?_;refine Q6<|Xq<|X6<|X4 b (Xt b rfl rfl) ?_;exact ⟨by unfold rotC;simp_all,rfl⟩
 have aC:=a6;refine Zs b fun _ aQ=>?_;refine Ze (X0b rfl rfl)<|Za rfl<|Zt aQ fun a b=>?_
 refine Xg b rfl (fun a7=>?_) (fun a7=>?_)
 ·have aD:=a7;refine Zs b fun _ aR=>?_;refine Za rfl<|Zt aR fun a b=>?_;refine Q6<|Xq<|X6<|X4 b (Xt b rfl rfl) ?_;exact ⟨by unfold rotC;simp_all,rfl⟩
 have aD:=a7;refine Zs b fun _ aE=>?_;refine Ze (X0b rfl rfl)<|Za rfl<|Zt aE fun a b=>?_
 refine Xg b rfl (fun c=>?_) (fun c=>?_)
 ·have a8:=c;refine Zs b fun _ aF=>?_;refine Za rfl<|Zt aF fun a b=>?_;refine Q6<|Xq<|X6<|X4 b (Xt b rfl rfl) ?_;exact ⟨by unfold rotC;simp_all,rfl⟩
 have a8:=c;refine Zs b fun _ aG=>?_;refine Ze (X0b rfl rfl)<|Za rfl<|Zt aG fun a b=>?_
 refine Xg b rfl (fun d=>?_) (fun d=>?_)
 ·have aA:=d;refine Zs b fun _ aH=>?_;refine Za rfl<|Zt aH fun a b=>?_;refine Q6<|Xq<|X6<|X4 b (Xt b rfl rfl) ?_;exact ⟨by unfold rotC;simp_all,rfl⟩
 have aA:=d;refine Zs b fun _ aI=>?_;refine Ze (X0b rfl rfl)<|Za rfl<|Zt aI fun a b=>?_
 refine Xg b rfl (fun e=>?_) (fun e=>?_)
 ·have aB:=e;refine Zs b fun _ aJ=>?_;refine Za rfl<|Zt aJ fun a b=>?_;refine Q6<|Xq<|X6<|X4 b (Xt b rfl rfl) ?_;exact ⟨by unfold rotC;simp_all,rfl⟩
 have aB:=e;refine Q7<|Xa<|aM _ _<|Zs b fun _ aK=>?_;refine Za rfl<|Zt aK fun a b=>?_
 refine Q6 (X4 b (Xt b rfl rfl) ?_)
 exact ⟨by unfold rotC;simp_all,rfl⟩
theorem Xw5(D:World)(c:Cx)(Ac:Option Addr)(cc:Nat)(h:Rd D D.heap.size 123 encG Ac c.gs)(aN:c.gs.length≤2305843009213693951) : Ret Tryz.prog 114 [.agg #[vi c.n,.slice Ac c.gs.length cc]] D (fun v w=>∃ A c1,v=.tuple #[.agg #[vi ((invO c).getD cZ).n,.slice A ((invO c).getD cZ).gs.length c1],.bool (invO c).isSome]∧Own w D.heap.size 123 3 encG A c1 ((invO c).getD cZ).gs∧Below D.heap.size D w):=by
 refine enter Tryz.func114 rfl 46 rfl rfl ?_;intro a i
 have f:=bz D
 refine Zs i fun _ bB=>?_;refine Zf (X0c (zs:=[vi c.n,.slice Ac c.gs.length cc]) rfl rfl) ?_;rintro _ w1 ⟨b3,rfl,bC,m,e⟩;have bS:=Q0 f.size bC;have f:=btr f m;refine Zf (Xu (zs:=[vi 0,.slice none 0 0]) X4e rfl) ?_;rintro _ w2 ⟨b5,rfl,bD,m,d⟩
 have bA:b3≠b5:=by have:=e.lt;omega
 have aC:=Q0 f.size bD;have e:=e.below m;have f:=btr f m;refine Za rfl<|ZX bB fun a i _ bE=>?_;refine Zs i fun _ bF=>?_;refine Ze (Vn X12 e)<|Zf (Vc (F55 _ c Ac cc (h.below' f).top aN) Xca) ?_;rintro _ w3 ⟨rfl,m⟩;have e:=e.below m;have d:=d.below m;have f:=btr f m;refine Ze (X0y rfl)<|Zt bF fun a i=>?_
 refine Xg i rfl (fun I=>?_) (fun I=>?_)
 ·have aO:=I
  have a8:cOk c=false:=by have:=I;simpa using this
  have J:invO c=none:=by unfold invO;rw [a8];rfl
  refine Zs i fun _ bG=>?_;refine Ze (X0w (ps:=[]) (cs:=[vi 0,.slice none 0 0]) rfl (fun _=>by first|rfl|kernel_rfl))<|Zo (Vw [vi 0,.slice none 0 0] X1w d) ?_;rintro _ w4 ⟨ho,hb⟩;have B:=d;have f:=Below.only f ho aC;have d:=hb;refine Za rfl<|Zt bG fun a i=>?_;refine Q6<|X6<|X4 i (X17 i rfl (ResV.cellN (l:=[vi 0,.slice none 0 0]) rfl X12 (d.at 0) rfl) rfl) ?_
  rw [J]
  exact ⟨none,0,rfl,(Own.nil _ _ _ _ _),f⟩
 have aO:=I
 have a8:cOk c=true:=by have:=I;simpa using this
 have aE:=X2l.1 a8;have bH:=aE.2.2;have bU:=aE.2.1
 have bJ:c.n≤5:=(X0f.1 aE.1).2
 refine Q7<|bE _ _<|Zs i fun _ aP=>?_;refine Zf (Xm (k:=0) (vs:=[]) (zs:=[]) rfl X1f X1z rfl rfl) ?_;rintro _ w5 ⟨bK,rfl,aD,m,aQ⟩;have aF:=Q0 f.size aD;have aR:=(h.below' f).away aD;have e:=e.below m;have d:=d.below m;have f:=btr f m;refine Za rfl<|ZX aP fun a i _ aS=>?_;refine Zs i fun _ aT=>?_;refine Ze (Vd rfl X18 1)<|Ze (X0 rfl X29 (e.at 1))<|Ze (X0d rfl X1f)<|Ze (Vx (X1g rfl rfl (by omega) (by omega)) (show _=((c.gs.length:Int)-1-((0:Nat) : Int)) from (by omega)))<|Za rfl<|Zt aT fun a i=>?_;refine Q8<|X01 (σ:=Nat×(List Gt)) (fun (s:Nat×(List Gt)) (a:Act) (w:World)=>match s with|(k,l)=>∃ L M,Fr a 46 [(1,.pointer (some ⟨b3,0,none⟩)),(2,.pointer (some ⟨b5,0,none⟩)),(4,.slice L l.length M),(5,vi ((c.gs.length:Int)-1-(k:Int)))]∧(k≤c.gs.length)∧(l=(c.gs.reverse.take k).flatMap invG)∧(l.length≤7*k)∧Blk w b3 30 [vi c.n,.slice Ac c.gs.length cc]∧Blk w b5 30 [vi 0,.slice none 0 0]∧Own w D.heap.size 123 3 encG L M l∧Below D.heap.size D w) (fun (s:Nat×(List Gt))=>match s with|(k,l)=>c.gs.length-k) (0,[]) ?_ ?_
 ·exact ⟨some ⟨bK,0,none⟩,0,i.sb,(Qf _),rfl,(Qb _),e,d,(Own.empty aQ aF),f⟩
 rintro ⟨k,l⟩ a w6 ⟨L,M,i,hk,hl,bW,e,d,o,f⟩;refine Q5 fun _ aU=>?_;refine Zs i fun _ aW=>?_;refine Zm rfl<|Ze (X4g rfl rfl)<|Zt aW fun a i=>?_
 refine Xg i rfl (fun p=>?_) (fun p=>?_)
 ·have aG:=p;have p:=Q2 p
  have bL:k<c.gs.length:=by have:=p;omega
  have bX:=Xiy (c.gs.getD (c.gs.length-1-k) gZ);refine Q7<|aU _ _<|Q5 fun _ aX=>?_;refine Q8<|Zs i fun _ aY=>?_;refine Ze (Vd rfl X18 1)<|Ze (X0 rfl X29 (e.at 1))<|Zm rfl<|Zi (k:=(c.gs.length-1-k)) (u:=(c.gs.getD (c.gs.length-1-k) gZ)) (enc:=encG) (l:=c.gs) trivial rfl rfl X1f X1h X16 (h.below' f) (Xg6 (by omega)) (by omega) ?_;intro bY aH;refine Ze (X04 (l:=[vi ((c.gs.getD (c.gs.length-1-k) gZ).k),vi ((c.gs.getD (c.gs.length-1-k) gZ).a),vi ((c.gs.getD (c.gs.length-1-k) gZ).b)]) rfl X0o aH rfl)<|Zf (Vc (Xuz _ (c.gs.getD (c.gs.length-1-k) gZ) _ (bH _ (Qe (Xg6 (by omega)))) bJ) Xkq) ?_;rintro _ w7 ⟨rfl,m⟩;have e:=e.below m;have d:=d.below m;have o:=o.below m;have f:=btr f m;refine Zm rfl<|Ze (Xn (vs:=[.agg #[vi ((bkG (c.gs.getD (c.gs.length-1-k) gZ)).k),vi ((bkG (c.gs.getD (c.gs.length-1-k) gZ)).a),vi ((bkG (c.gs.getD (c.gs.length-1-k) gZ)).b)],vi (bkN (c.gs.getD (c.gs.length-1-k) gZ)),.bool true]) rfl rfl)<|Ze (Xn (vs:=[.agg #[vi ((bkG (c.gs.getD (c.gs.length-1-k) gZ)).k),vi ((bkG (c.gs.getD (c.gs.length-1-k) gZ)).a),vi ((bkG (c.gs.getD (c.gs.length-1-k) gZ)).b)],vi (bkN (c.gs.getD (c.gs.length-1-k) gZ)),.bool true]) rfl rfl)<|Ze (Xn (vs:=[.agg #[vi ((bkG (c.gs.getD (c.gs.length-1-k) gZ)).k),vi ((bkG (c.gs.getD (c.gs.length-1-k) gZ)).a),vi ((bkG (c.gs.getD (c.gs.length-1-k) gZ)).b)],vi (bkN (c.gs.getD (c.gs.length-1-k) gZ)),.bool true]) rfl rfl)<|Zf (Xu (zs:=[vi 0,vi 0,vi 0]) X5w rfl) ?_;rintro _ w8 ⟨aA,rfl,N,m,g⟩;have aI:=Q0 f.size N;have t:=o.away N;have aZ:=(h.below' f).away N;have e:=e.below m;have d:=d.below m;have o:=o.below m;have f:=btr f m
  refine Zo (Vw [vi ((bkG (c.gs.getD (c.gs.length-1-k) gZ)).k),vi ((bkG (c.gs.getD (c.gs.length-1-k) gZ)).a),vi ((bkG (c.gs.getD (c.gs.length-1-k) gZ)).b)] X1h g) ?_;rintro _ w9 ⟨ho,hb⟩;have B:=g;have e:=e.only ho (Blk.ne e B rfl);have d:=d.only ho (Blk.ne d B rfl);have o:=o.onlyA ho t;have f:=Below.only f ho aI;have g:=hb;refine Za rfl<|Za rfl<|Zx aY fun a i _ b0=>?_;refine Zm rfl<|Zm rfl<|Zt b0 fun a i=>?_;refine Q8<|X01 (σ:=Nat×(List Gt)) (fun (s:Nat×(List Gt)) (a:Act) (w:World)=>match s with|(j,l2)=>∃ Q aB,Fr a 46 [(1,.pointer (some ⟨b3,0,none⟩)),(2,.pointer (some ⟨b5,0,none⟩)),(4,.slice Q l2.length aB),(5,vi ((c.gs.length:Int)-1-(k:Int))),(6,.pointer (some ⟨aA,0,none⟩)),(32,vi (bkN (c.gs.getD (c.gs.length-1-k) gZ))),(33,vi (j:Int))]∧((j:Int)≤bkN (c.gs.getD (c.gs.length-1-k) gZ))∧(l2=l++List.replicate j (bkG (c.gs.getD (c.gs.length-1-k) gZ)))∧(l2.length=l.length+j)∧Blk w b3 30 [vi c.n,.slice Ac c.gs.length cc]∧Blk w b5 30 [vi 0,.slice none 0 0]∧Blk w aA 123 [vi ((bkG (c.gs.getD (c.gs.length-1-k) gZ)).k),vi ((bkG (c.gs.getD (c.gs.length-1-k) gZ)).a),vi ((bkG (c.gs.getD (c.gs.length-1-k) gZ)).b)]∧Own w D.heap.size 123 3 encG Q aB l2∧Away Q aA∧Below D.heap.size D w) (fun (s:Nat×(List Gt))=>match s with|(j,l2)=>(bkN (c.gs.getD (c.gs.length-1-k) gZ)).toNat-j) (0,l) ?_ ?_
  ·exact ⟨L,M,i.sb,(by omega),(by simp),rfl,e,d,g,o,t,f⟩
  rintro ⟨j,l2⟩ a c4 ⟨Q,aB,i,hj,b1,bT,e,d,g,x,y,f⟩;refine Zs i fun _ b2=>?_;refine Ze (X0l rfl rfl)<|ZX b2 fun a i _ b4=>?_
  refine Xg i rfl (fun q=>?_) (fun q=>?_)
  ·have aJ:=q;have q:=Q2 q;refine Q7<|b4 _ _<|Q5 fun _ b6=>?_;refine Q8<|Zr i<|Zm rfl<|Ze (Vn X0o g)<|Zf (Xm (k:=1) (vs:=[.agg #[vi ((bkG (c.gs.getD (c.gs.length-1-k) gZ)).k),vi ((bkG (c.gs.getD (c.gs.length-1-k) gZ)).a),vi ((bkG (c.gs.getD (c.gs.length-1-k) gZ)).b)]]) (zs:=[vi ((bkG (c.gs.getD (c.gs.length-1-k) gZ)).k),vi ((bkG (c.gs.getD (c.gs.length-1-k) gZ)).a),vi ((bkG (c.gs.getD (c.gs.length-1-k) gZ)).b)]) rfl X1f X1z rfl rfl) ?_;rintro _ c5 ⟨b31,rfl,U,m,W⟩
   have aL:aA≠b31:=by have:=g.lt;omega
   have bM:=Q0 f.size U;have G:=x.away U;have b7:=(h.below' f).away U;have e:=e.below m;have d:=d.below m;have g:=g.below m;have x:=x.below m;have f:=btr f m;refine Zf (X0m (enc:=encG) (l:=(l2)) (l2:=([(bkG (c.gs.getD (c.gs.length-1-k) gZ))])) (B0:=D.heap.size) rfl rfl X1f X1z X16 X2r x (Rd.of_blk W rfl _ W.lt) (by simp only [maxLen];simp;omega) (by simp;omega) f.size) ?_;rintro _ cA ⟨bN,bO,rfl,b8,hg,aK⟩
   have E:Own _ D.heap.size 123 3 encG _ _ (l2):=x
   have H:=aK _ g.lt y;have aM:=aK _ W.lt G;clear aK;have e:=e.appT E hg rfl;have d:=d.appT E hg rfl;have g:=g.appA hg y;have f:=Below.app f E hg (Qb _) f.size;clear E hg;refine Za rfl ?_;refine Zn fun a i=>?_;refine Xa<|b6 _ _<|Zr i<|Ze (Xw rfl rfl (by omega) (by omega))<|Zm rfl ?_;refine Zn fun a i=>?_;refine Xh ?_;exact ⟨(j+1,l2++([(bkG (c.gs.getD (c.gs.length-1-k) gZ))])),⟨bN,bO,i.sb,(by omega),(by rw [b1,Xce,Qx]),(by simp;omega),e,d,g,b8,H,f⟩,(by first|omega|(dsimp only;omega))⟩
  have aJ:=q;have q:=Q1 q
  have bP:bkN (c.gs.getD (c.gs.length-1-k) gZ)≤(j:Int):=by have:=q;omega
  refine Q9<|Xk<|Xk<|X03 ?_;refine Xa<|aX _ _<|Zr i<|Zm rfl<|Ze (Vx (X1g rfl rfl (by omega) (by omega)) (show _=((c.gs.length:Int)-1-((k+1:Nat) : Int)) from (by omega)))<|Za rfl ?_;refine Zn fun a i=>?_;refine Xh ?_;exact ⟨(k+1,l2),⟨Q,aB,i.sb,(by omega),(by rw [Xb8 bL,b1,← hl,show (bkN (c.gs.getD (c.gs.length-1-k) gZ)).toNat=j from by have:=bP;omega]),(by omega),e,d,x,f⟩,(by first|omega|(dsimp only;omega))⟩
 have aG:=p;have p:=Q1 p
 have bR:k=c.gs.length:=by have:=p;omega
 have J:invO c=cIf ⟨c.n,l⟩:=by rw [← Xke a8,hl,bR,← List.length_reverse,List.take_length];rfl
 refine Q9<|Xk<|Xk<|X03 ?_;refine aS _ _<|Zs i fun _ b9=>?_;refine Ze (Vd rfl X1d 0)<|Ze (X0 rfl X9 (e.at 0))<|Zm rfl<|Zf (Vc (Xvc _ c.n L M l o.rd.top (by omega)) Xjo) ?_;rintro _ cB ⟨a6,a7,rfl,C,m⟩;have C:=C.lower f.size;have d:=d.below m;have f:=btr f m;refine Ze (Xn (vs:=[.agg #[vi (((cIf ⟨c.n,l⟩).getD cZ).n),.slice a6 (((cIf ⟨c.n,l⟩).getD cZ).gs).length a7],.bool ((cIf ⟨c.n,l⟩).isSome)]) rfl rfl)<|Ze (Xn (vs:=[.agg #[vi (((cIf ⟨c.n,l⟩).getD cZ).n),.slice a6 (((cIf ⟨c.n,l⟩).getD cZ).gs).length a7],.bool ((cIf ⟨c.n,l⟩).isSome)]) rfl rfl)<|Zo (Vw [vi (((cIf ⟨c.n,l⟩).getD cZ).n),.slice a6 (((cIf ⟨c.n,l⟩).getD cZ).gs).length a7] X1w d) ?_;rintro _ cC ⟨ho,hb⟩;have B:=d;have C:=C.onlyT ho B rfl;have f:=Below.only f ho aC;have d:=hb;refine Za rfl<|Zt b9 fun a i=>?_
 refine Q6 (X4 i (X17 i rfl (ResV.cellN (l:=[vi (((cIf ⟨c.n,l⟩).getD cZ).n),.slice a6 (((cIf ⟨c.n,l⟩).getD cZ).gs).length a7]) rfl X12 (d.at 0) rfl) rfl) ?_)
 rw [J]
 exact ⟨a6,a7,rfl,C,f⟩
theorem Xwr(H:World)(p:Cx)(t:Option Addr)(u:Nat)(I:Rd H H.heap.size 123 encG t p.gs)(q:Cx)(Aq:Option Addr)(cq:Nat)(J:Rd H H.heap.size 123 encG Aq q.gs)(aQ:p.gs.length≤2000000)(aR:q.gs.length≤2000000) : Ret Tryz.prog 115 [.agg #[vi p.n,.slice t p.gs.length u],.agg #[vi q.n,.slice Aq q.gs.length cq]] H (fun v w=>∃ A c1,v=.tuple #[.agg #[vi ((conO p q).getD cZ).n,.slice A ((conO p q).getD cZ).gs.length c1],.bool (conO p q).isSome]∧Own w H.heap.size 123 3 encG A c1 ((conO p q).getD cZ).gs∧Below H.heap.size H w):=by
 refine enter Tryz.func115 rfl 33 rfl rfl ?_;intro a o
 have g:=bz H
 refine Zs o fun _ aG=>?_;refine Zf (X0c (zs:=[vi p.n,.slice t p.gs.length u]) rfl rfl) ?_;rintro _ w1 ⟨b4,rfl,aH,d,e⟩;have aO:=Q0 g.size aH;have g:=btr g d;refine Zf (X0c (zs:=[vi q.n,.slice Aq q.gs.length cq]) rfl rfl) ?_;rintro _ w2 ⟨b5,rfl,aI,d,i⟩
 have aD:b4≠b5:=by have:=e.lt;omega
 have aP:=Q0 g.size aI;have e:=e.below d;have g:=btr g d;refine Zf (Xu (zs:=[vi 0,.slice none 0 0]) X4e rfl) ?_;rintro _ w3 ⟨b7,rfl,aJ,d,f⟩
 have aE:b4≠b7:=by have:=e.lt;omega
 have aF:b5≠b7:=by have:=i.lt;omega
 have L:=Q0 g.size aJ;have e:=e.below d;have i:=i.below d;have g:=btr g d;refine Za rfl<|ZX aG fun a o _ aK=>?_;refine Q5 fun _ aL=>?_;refine X0a (fun a w=>Fr a 33 [(2,.pointer (some ⟨b4,0,none⟩)),(3,.pointer (some ⟨b5,0,none⟩)),(4,.pointer (some ⟨b7,0,none⟩)),(20,.bool (((!(cOk p))||(!(cOk q)))||(p.n != q.n)))]∧Below w3.heap.size w3 w) ?_ ?_
 ·have y:Below w3.heap.size w3 w3:=Below.refl _ _
  refine Zr o<|Ze (Vn X12 e)<|Zf (Vc (F55 _ p t u (I.below' g).top (by omega)) Xca) ?_;rintro _ w4 ⟨rfl,d⟩;have e:=e.below d;have i:=i.below d;have g:=btr g d;have y:=btr y d;refine Ze (X0y rfl)<|Zm rfl ?_
  refine Zg 9 rfl (fun c=>?_) (fun c=>?_)
  ·refine Zp (gP c) ?_;refine Zp (gP c) ?_;refine Zp (gP c) ?_;refine Ze (X7 rfl c rfl)<|Zm rfl<|Zp (gP rfl) ?_;refine Zp (gP rfl) ?_;refine Zp (gP rfl) ?_;refine Zp (gP rfl) ?_;refine Zp (gP rfl) ?_;refine Ze (X7 rfl rfl rfl) ?_;refine Zn fun a o=>?_
   have E:Below w3.heap.size w3 w4:=y
   exact ⟨o.sub ⟨rfl,rfl,rfl,X1 rfl (by first|rfl|(simp only [c,bs];done)|simp [c]),trivial⟩,E⟩
  refine Zv (gW c) (Vn X12 i) ?_;refine Zk (gW c) (Vc (F55 _ q Aq cq (J.below' g).top (by omega)) Xca) ?_;rintro _ w5 ⟨rfl,d⟩;have e:=e.below d;have i:=i.below d;have g:=btr g d;have y:=btr y d;refine Zv (gW c) (X0y rfl) ?_;refine Ze (Xe rfl c rfl)<|Zm rfl ?_
  refine Zg 14 rfl (fun b=>?_) (fun b=>?_)
  ·refine Zp (gP b) ?_;refine Zp (gP b) ?_;refine Zp (gP b) ?_;refine Zp (gP b) ?_;refine Zp (gP b) ?_;refine Ze (X7 rfl b rfl) ?_;refine Zn fun a o=>?_
   have E:Below w3.heap.size w3 w5:=y
   exact ⟨o.sub ⟨rfl,rfl,rfl,X1 rfl (by first|rfl|(simp only [c,b,bs];done)|simp [c,b]),trivial⟩,E⟩
  refine Zv (gW b) (Vd rfl X1d 0) ?_;refine Zv (gW b) (X0 rfl X9 (e.at 0)) ?_;refine Zv (gW b) (Vd rfl X1d 0) ?_;refine Zv (gW b) (X0 rfl X9 (i.at 0)) ?_;refine Zv (gW b) (X1j rfl rfl) ?_;refine Ze (Xe rfl b rfl) ?_;refine Zn fun a o=>?_
  have E:Below w3.heap.size w3 w5:=y
  exact ⟨o.sub ⟨rfl,rfl,rfl,X1 rfl (by first|rfl|(simp only [c,b,bs];done)|simp [c,b]),trivial⟩,E⟩
 rintro a w6 ⟨o,d⟩;have e:=e.below d;have i:=i.below d;have f:=f.below d;have g:=btr g d;refine aL _ _ ?_
 refine Xg o rfl (fun x=>?_) (fun x=>?_)
 ·have a6:=x
  have G:conO p q=none:=by unfold conO;have h7:=x;rw [Q3];revert h7;cases cOk p<;>cases cOk q<;>by_cases e9:p.n=q.n<;>simp [e9]
  refine Zs o fun _ a7=>?_;refine Ze (X0w (ps:=[]) (cs:=[vi 0,.slice none 0 0]) rfl (fun _=>by first|rfl|kernel_rfl))<|Zo (Vw [vi 0,.slice none 0 0] X1w f) ?_;rintro _ w7 ⟨ho,hb⟩;have M:=f;have g:=Below.only g ho L;have f:=hb;refine Za rfl<|Zt a7 fun a o=>?_;refine Q6<|X6<|X4 o (X17 o rfl (ResV.cellN (l:=[vi 0,.slice none 0 0]) rfl X12 (f.at 0) rfl) rfl) ?_
  rw [G]
  exact ⟨none,0,rfl,(Own.nil _ _ _ _ _),g⟩
 have a6:=x
 have h7:cOk p=true∧cOk q=true∧p.n=q.n:=by have h7:=x;revert h7;cases cOk p<;>cases cOk q<;>simp
 have G:conO p q=cIf ⟨p.n,p.gs++(q.gs++[])⟩:=by rw [List.append_nil,Xez h7.1 h7.2.1 h7.2.2]
 refine Q7<|aK _ _<|Q5 fun _ a8=>?_;refine X05 none (fun j=>[11].contains j) mixed ?_;intro w8 d;have e:=e.below d;have i:=i.below d;have f:=f.below d;have g:=btr g d;refine Yb o<|Yo 0 rfl (fun _=>Vd rfl X1d 0)<|Ye 1 rfl (X0 rfl X9 (e.at 0))<|Yo 2 rfl (fun _=>Vd rfl X18 1)<|Ye 3 rfl (X0 rfl X29 (e.at 1))<|Yo 4 rfl (fun _=>Vd rfl X18 1)<|Ye 5 rfl (X0 rfl X29 (i.at 1))<|Y1 6 ?_;refine Yk rfl trivial (Xm (k:=2) (vs:=[.slice t p.gs.length u,.slice Aq q.gs.length cq]) (zs:=[.slice t p.gs.length u,.slice Aq q.gs.length cq]) rfl X8a Xre rfl rfl) (fun _ _ ⟨_,_,_,h,_⟩=>h) ?_;rintro _ w9 ⟨aM,rfl,aA,d,N⟩;have aN:=Q0 g.size aA;have f:=f.below d;have g:=btr g d;refine Y1 7<|Yk rfl trivial (Vc (Xxx _ [(⟨t,u,p.gs⟩ : Sg),(⟨Aq,cq,q.gs⟩ : Sg)] (some ⟨aM,0,none⟩) 2 (Rd.of_blk N rfl _ N.lt) (fun s hs=>by simp only [Qv,List.not_mem_nil,or_false] at hs;rcases hs with rfl|rfl;exact (I.below' g).top;exact (J.below' g).top) (by simp) (by simp;omega)) Xpy) (fun _ _ ⟨aB,aC,_,B,d⟩=>d) ?_;rintro _ aS ⟨aB,aC,rfl,B,d⟩;have B:=B.lower g.size;have f:=f.below d;have g:=btr g d;refine Y1 8<|Yk rfl trivial (Vc (Xvc _ p.n aB aC (List.flatMap Sg.l [(⟨t,u,p.gs⟩ : Sg),(⟨Aq,cq,q.gs⟩ : Sg)]) B.rd.top (by simp;omega)) Xjo) (fun _ _ ⟨C,D,_,m,d⟩=>d) ?_;rintro _ aT ⟨C,D,rfl,m,d⟩;have m:=m.lower g.size;have f:=f.below d;have g:=btr g d;refine Yo 9 rfl (fun _=>Xn (vs:=[.agg #[vi (((cIf ⟨p.n,(List.flatMap Sg.l [(⟨t,u,p.gs⟩ : Sg),(⟨Aq,cq,q.gs⟩ : Sg)])⟩).getD cZ).n),.slice C (((cIf ⟨p.n,(List.flatMap Sg.l [(⟨t,u,p.gs⟩ : Sg),(⟨Aq,cq,q.gs⟩ : Sg)])⟩).getD cZ).gs).length D],.bool ((cIf ⟨p.n,(List.flatMap Sg.l [(⟨t,u,p.gs⟩ : Sg),(⟨Aq,cq,q.gs⟩ : Sg)])⟩).isSome)]) rfl rfl)<|Yo 10 rfl (fun _=>Xn (vs:=[.agg #[vi (((cIf ⟨p.n,(List.flatMap Sg.l [(⟨t,u,p.gs⟩ : Sg),(⟨Aq,cq,q.gs⟩ : Sg)])⟩).getD cZ).n),.slice C (((cIf ⟨p.n,(List.flatMap Sg.l [(⟨t,u,p.gs⟩ : Sg),(⟨Aq,cq,q.gs⟩ : Sg)])⟩).getD cZ).gs).length D],.bool ((cIf ⟨p.n,(List.flatMap Sg.l [(⟨t,u,p.gs⟩ : Sg),(⟨Aq,cq,q.gs⟩ : Sg)])⟩).isSome)]) rfl rfl)<|Y1 11 ?_
 refine Yh rfl trivial rfl (Vw [vi (((cIf ⟨p.n,(List.flatMap Sg.l [(⟨t,u,p.gs⟩ : Sg),(⟨Aq,cq,q.gs⟩ : Sg)])⟩).getD cZ).n),.slice C (((cIf ⟨p.n,(List.flatMap Sg.l [(⟨t,u,p.gs⟩ : Sg),(⟨Aq,cq,q.gs⟩ : Sg)])⟩).getD cZ).gs).length D] X1w f) ?_;rintro _ aU ⟨ho,hb⟩;have M:=f;have m:=m.onlyT ho M rfl;have g:=Below.only g ho L;have f:=hb;refine Yo 12 rfl (fun _=>X11 rfl) ?_;refine Yd fun a o=>?_;refine a8 _ _ ?_
 refine Q6 (X4 o (X17 o rfl (ResV.cellN (l:=[vi (((cIf ⟨p.n,(List.flatMap Sg.l [(⟨t,u,p.gs⟩ : Sg),(⟨Aq,cq,q.gs⟩ : Sg)])⟩).getD cZ).n),.slice C (((cIf ⟨p.n,(List.flatMap Sg.l [(⟨t,u,p.gs⟩ : Sg),(⟨Aq,cq,q.gs⟩ : Sg)])⟩).getD cZ).gs).length D]) rfl X12 (f.at 0) rfl) rfl) ?_)
 rw [G]
 exact ⟨C,D,rfl,m,g⟩
theorem Xv4(h:World)(p:Cx)(Ap:Option Addr)(cp:Nat)(a8:Rd h h.heap.size 123 encG Ap p.gs)(q:Cx)(Aq:Option Addr)(cq:Nat)(aA:Rd h h.heap.size 123 encG Aq q.gs)(aN:p.gs.length≤2000000)(aX:q.gs.length≤2000000) : Ret Tryz.prog 61 [.agg #[vi p.n,.slice Ap p.gs.length cp],.agg #[vi q.n,.slice Aq q.gs.length cq]] h (fun v w=>∃ A c1,v=.tuple #[.agg #[vi ((((invO q).bind (conO p))).getD cZ).n,.slice A ((((invO q).bind (conO p))).getD cZ).gs.length c1],.bool (((invO q).bind (conO p))).isSome]∧Own w h.heap.size 123 3 encG A c1 ((((invO q).bind (conO p))).getD cZ).gs∧Below h.heap.size h w):=by
 refine enter Tryz.func61 rfl 21 rfl rfl ?_;intro a m
 have d:=bz h
 refine Zs m fun _ aO=>?_;refine Zf (X0c (zs:=[vi p.n,.slice Ap p.gs.length cp]) rfl rfl) ?_;rintro _ w1 ⟨b4,rfl,aP,f,c⟩;have aU:=Q0 d.size aP;have d:=btr d f;refine Zf (X0c (zs:=[vi q.n,.slice Aq q.gs.length cq]) rfl rfl) ?_;rintro _ w2 ⟨b5,rfl,aQ,f,j⟩
 have aK:b4≠b5:=by have:=c.lt;omega
 have aW:=Q0 d.size aQ;have c:=c.below f;have d:=btr d f;refine Zf (Xu (zs:=[vi 0,.slice none 0 0]) X4e rfl) ?_;rintro _ w3 ⟨b7,rfl,aR,f,b⟩
 have aL:b4≠b7:=by have:=c.lt;omega
 have aM:b5≠b7:=by have:=j.lt;omega
 have C:=Q0 d.size aR;have c:=c.below f;have j:=j.below f;have d:=btr d f;refine Za rfl<|Zx aO fun a m _ aS=>?_;refine Ze (Vn X12 j)<|Zf (Vc (Xw5 _ q Aq cq (aA.below' d).top (by omega)) Xko) ?_;rintro _ w4 ⟨A9,c9,rfl,k,f⟩;have k:=k.lower d.size;have c:=c.below f;have j:=j.below f;have b:=b.below f;have d:=btr d f;refine Zm rfl<|Ze (Xn (vs:=[.agg #[vi (((invO q).getD cZ).n),.slice A9 (((invO q).getD cZ).gs).length c9],.bool ((invO q).isSome)]) rfl rfl)<|Ze (Xn (vs:=[.agg #[vi (((invO q).getD cZ).n),.slice A9 (((invO q).getD cZ).gs).length c9],.bool ((invO q).isSome)]) rfl rfl)<|Zf (Xu (zs:=[vi 0,.slice none 0 0]) X4e rfl) ?_;rintro _ w5 ⟨b11,rfl,aB,f,o⟩
 have aC:b4≠b11:=by have:=c.lt;omega
 have aD:b5≠b11:=by have:=j.lt;omega
 have aE:b7≠b11:=by have:=b.lt;omega
 have a6:=Q0 d.size aB;have c:=c.below f;have b:=b.below f;have k:=k.below f;have d:=btr d f;refine Zo (Vw [vi (((invO q).getD cZ).n),.slice A9 (((invO q).getD cZ).gs).length c9] X1w o) ?_;rintro _ w6 ⟨B,hb⟩;have t:=o;have c:=c.only B (by omega);have b:=b.only B (by omega);have k:=k.onlyT B t rfl;have d:=Below.only d B a6;have o:=hb;refine Za rfl<|ZX aS fun a m _ aF=>?_;refine Zs m fun _ aG=>?_;refine Zm rfl<|Ze (X0y rfl)<|Zt aG fun a m=>?_
 refine Xg m rfl (fun g=>?_) (fun g=>?_)
 ·have a7:=g
  have aH:(invO q).bind (conO p)=none:=by have h7:=g;cases e:invO q with
   | none=>rfl
   | some x=>rw [e] at h7;simp at h7
  refine Zs m fun _ aI=>?_;refine Ze (X0w (ps:=[]) (cs:=[vi 0,.slice none 0 0]) rfl (fun _=>by first|rfl|kernel_rfl))<|Zo (Vw [vi 0,.slice none 0 0] X1w b) ?_;rintro _ w7 ⟨B,hb⟩;have t:=b;have d:=Below.only d B C;have b:=hb;refine Za rfl<|Zt aI fun a m=>?_;refine Q6<|X6<|X4 m (X17 m rfl (ResV.cellN (l:=[vi 0,.slice none 0 0]) rfl X12 (b.at 0) rfl) rfl) ?_
  rw [aH]
  exact ⟨none,0,rfl,(Own.nil _ _ _ _ _),d⟩
 have a7:=g
 obtain ⟨x9,aT⟩ : ∃ x,invO q=some x:=Option.isSome_iff_exists.1 (by have:=g;simpa using this)
 refine Q7<|aF _ _<|Zs m fun _ aJ=>?_;refine Ze (Vn X12 c)<|Ze (Vn X12 o)<|Zf (Vc (Xwr _ p Ap cp (a8.below' d).top ((invO q).getD cZ) A9 c9 k.rd.top aN (Xew q)) Xnl) ?_;rintro _ w8 ⟨u,y,rfl,i,f⟩;have i:=i.lower d.size;have b:=b.below f;have d:=btr d f;refine Ze (Xn (vs:=[.agg #[vi (((conO p ((invO q).getD cZ)).getD cZ).n),.slice u (((conO p ((invO q).getD cZ)).getD cZ).gs).length y],.bool ((conO p ((invO q).getD cZ)).isSome)]) rfl rfl)<|Ze (Xn (vs:=[.agg #[vi (((conO p ((invO q).getD cZ)).getD cZ).n),.slice u (((conO p ((invO q).getD cZ)).getD cZ).gs).length y],.bool ((conO p ((invO q).getD cZ)).isSome)]) rfl rfl)<|Zo (Vw [vi (((conO p ((invO q).getD cZ)).getD cZ).n),.slice u (((conO p ((invO q).getD cZ)).getD cZ).gs).length y] X1w b) ?_;rintro _ w9 ⟨B,hb⟩;have t:=b;have i:=i.onlyT B t rfl;have d:=Below.only d B C;have b:=hb;refine Za rfl<|Zt aJ fun a m=>?_
 refine Q6 (X4 m (X17 m rfl (ResV.cellN (l:=[vi (((conO p ((invO q).getD cZ)).getD cZ).n),.slice u (((conO p ((invO q).getD cZ)).getD cZ).gs).length y]) rfl X12 (b.at 0) rfl) rfl) ?_)
 rw [aT] at *
 exact ⟨u,y,rfl,i,d⟩
theorem Xsp(D:World)(c:Cx)(Ac:Option Addr)(cc:Nat)(J:Rd D D.heap.size 123 encG Ac c.gs)(bF:c.gs.length≤100000) : Ret Tryz.prog 112 [.agg #[vi c.n,.slice Ac c.gs.length cc]] D (fun v w=>∃ A9 c9,v=.agg #[vi c.n,.slice A9 (invL c.gs).length c9]∧Own w D.heap.size 123 3 encG A9 c9 (invL c.gs)∧Below D.heap.size D w):=by
 refine enter Tryz.func112 rfl 38 rfl rfl ?_;intro a o
 have i:=bz D
 refine Zs o fun _ b2=>?_;refine Zf (X0c (zs:=[vi c.n,.slice Ac c.gs.length cc]) rfl rfl) ?_;rintro _ w1 ⟨b3,rfl,b4,t,d⟩;have bD:=Q0 i.size b4;have i:=btr i t;refine Zf (Xu (zs:=[vi 0,.slice none 0 0]) X4e rfl) ?_;rintro _ w2 ⟨b5,rfl,b6,t,e⟩
 have aZ:b3≠b5:=by have:=d.lt;omega
 have aJ:=Q0 i.size b6;have d:=d.below t;have i:=btr i t;refine Zx b2 fun a o _ b7=>?_;refine Ze (Vd rfl X1d 0)<|Ze (X0 rfl X9 (d.at 0))<|Ze (X0w (ps:=[(0,vi c.n)]) (cs:=[vi c.n,.slice none 0 0]) rfl (fun _=>by first|rfl|kernel_rfl))<|Zf (Xu (zs:=[vi 0,.slice none 0 0]) X4e rfl) ?_;rintro _ w3 ⟨b9,rfl,a8,t,f⟩
 have b0:b3≠b9:=by have:=d.lt;omega
 have b1:b5≠b9:=by have:=e.lt;omega
 have a7:=Q0 i.size a8;have d:=d.below t;have e:=e.below t;have i:=btr i t;refine Zo (Vw [vi c.n,.slice none 0 0] X1w f) ?_;rintro _ w4 ⟨B,hb⟩;have p:=f;have d:=d.only B (by omega);have e:=e.only B (by omega);have i:=Below.only i B a7;have f:=hb;refine ZX b7 fun a o _ aK=>?_;refine Zs o fun _ aL=>?_;refine Ze (Vd rfl X18 1)<|Ze (X0 rfl X29 (d.at 1))<|Ze (X0d rfl X1f)<|Ze (Vx (X1g rfl rfl (by omega) (by omega)) (show _=((c.gs.length:Int)-1-((0:Nat) : Int)) from (by omega)))<|Za rfl<|Zt aL fun a o=>?_;refine Q8<|X01 (σ:=Nat×(List Gt)) (fun (s:Nat×(List Gt)) (a:Act) (w:World)=>match s with|(k,l)=>∃ E G,Fr a 38 [(1,.pointer (some ⟨b3,0,none⟩)),(2,.pointer (some ⟨b5,0,none⟩)),(3,.pointer (some ⟨b9,0,none⟩)),(4,vi ((c.gs.length:Int)-1-(k:Int)))]∧(k≤c.gs.length)∧(l=(c.gs.reverse.take k).flatMap invG)∧(l.length≤7*k)∧Blk w b3 30 [vi c.n,.slice Ac c.gs.length cc]∧Blk w b5 30 [vi 0,.slice none 0 0]∧Blk w b9 30 [vi c.n,.slice E l.length G]∧Own w D.heap.size 123 3 encG E G l∧Below D.heap.size D w) (fun (s:Nat×(List Gt))=>match s with|(k,l)=>c.gs.length-k) (0,[]) ?_ ?_
 ·exact ⟨none,0,o.sb,(Qf _),rfl,(Qb _),d,e,f,(Own.nil _ _ _ _ _),i⟩
 rintro ⟨k,l⟩ a w5 ⟨E,G,o,hk,hl,bG,d,e,f,m,i⟩;refine Q5 fun _ aM=>?_;refine Zs o fun _ aN=>?_;refine Zm rfl<|Ze (X4g rfl rfl)<|Zt aN fun a o=>?_
 refine Xg o rfl (fun q=>?_) (fun q=>?_)
 ·have aA:=q;have q:=Q2 q
  have b8:k<c.gs.length:=by have:=q;omega
  have bH:=Xiy (c.gs.getD (c.gs.length-1-k) gZ);refine Q7<|aM _ _<|Q5 fun _ aO=>?_;refine Q8<|Zs o fun _ aP=>?_;refine Ze (Vd rfl X18 1)<|Ze (X0 rfl X29 (d.at 1))<|Zm rfl<|Zi (k:=(c.gs.length-1-k)) (u:=(c.gs.getD (c.gs.length-1-k) gZ)) (enc:=encG) (l:=c.gs) trivial rfl rfl X1f X1h X16 (J.below' i) (Xg6 (by omega)) (by omega) ?_;intro bJ aB;refine Ze (X04 (l:=[vi ((c.gs.getD (c.gs.length-1-k) gZ).k),vi ((c.gs.getD (c.gs.length-1-k) gZ).a),vi ((c.gs.getD (c.gs.length-1-k) gZ).b)]) rfl X0o aB rfl)<|Zf (Vc (Xwc _ (c.gs.getD (c.gs.length-1-k) gZ)) Xki) ?_;rintro _ w6 ⟨rfl,t⟩;have d:=d.below t;have e:=e.below t;have f:=f.below t;have m:=m.below t;have i:=btr i t;refine Zm rfl<|Ze (Xn (vs:=[.agg #[vi ((bkG (c.gs.getD (c.gs.length-1-k) gZ)).k),vi ((bkG (c.gs.getD (c.gs.length-1-k) gZ)).a),vi ((bkG (c.gs.getD (c.gs.length-1-k) gZ)).b)],vi (bkN (c.gs.getD (c.gs.length-1-k) gZ))]) rfl rfl)<|Ze (Vx (Xn (vs:=[.agg #[vi ((bkG (c.gs.getD (c.gs.length-1-k) gZ)).k),vi ((bkG (c.gs.getD (c.gs.length-1-k) gZ)).a),vi ((bkG (c.gs.getD (c.gs.length-1-k) gZ)).b)],vi (bkN (c.gs.getD (c.gs.length-1-k) gZ))]) rfl rfl) (show _=(bkN (c.gs.getD (c.gs.length-1-k) gZ)-((0:Nat) : Int)) from (by omega)))<|Zf (Xu (zs:=[vi 0,vi 0,vi 0]) X5w rfl) ?_;rintro _ w7 ⟨W,rfl,L,t,g⟩;have aC:=Q0 i.size L;have aQ:=(J.below' i).away L;have y:=m.away L;have d:=d.below t;have e:=e.below t;have f:=f.below t;have m:=m.below t;have i:=btr i t;refine Zo (Vw [vi ((bkG (c.gs.getD (c.gs.length-1-k) gZ)).k),vi ((bkG (c.gs.getD (c.gs.length-1-k) gZ)).a),vi ((bkG (c.gs.getD (c.gs.length-1-k) gZ)).b)] X1h g) ?_;rintro _ w8 ⟨B,hb⟩
  have p:=g;have d:=d.only B (Blk.ne d p rfl);have e:=e.only B (Blk.ne e p rfl);have f:=f.only B (Blk.ne f p rfl);have m:=m.onlyA B y;have i:=Below.only i B aC;have g:=hb;refine Za rfl<|Zt aP fun a o=>?_;refine Q8<|X01 (σ:=Nat×(List Gt)) (fun (s:Nat×(List Gt)) (a:Act) (w:World)=>match s with|(j,l2)=>∃ M a6,Fr a 38 [(1,.pointer (some ⟨b3,0,none⟩)),(2,.pointer (some ⟨b5,0,none⟩)),(3,.pointer (some ⟨b9,0,none⟩)),(4,vi ((c.gs.length:Int)-1-(k:Int))),(5,.pointer (some ⟨W,0,none⟩)),(6,vi (bkN (c.gs.getD (c.gs.length-1-k) gZ)-(j:Int)))]∧((j:Int)≤bkN (c.gs.getD (c.gs.length-1-k) gZ))∧(l2=l++List.replicate j (bkG (c.gs.getD (c.gs.length-1-k) gZ)))∧(l2.length=l.length+j)∧Blk w b3 30 [vi c.n,.slice Ac c.gs.length cc]∧Blk w b5 30 [vi 0,.slice none 0 0]∧Blk w b9 30 [vi c.n,.slice M l2.length a6]∧Blk w W 123 [vi ((bkG (c.gs.getD (c.gs.length-1-k) gZ)).k),vi ((bkG (c.gs.getD (c.gs.length-1-k) gZ)).a),vi ((bkG (c.gs.getD (c.gs.length-1-k) gZ)).b)]∧Own w D.heap.size 123 3 encG M a6 l2∧Away M W∧Below D.heap.size D w) (fun (s:Nat×(List Gt))=>match s with|(j,l2)=>(bkN (c.gs.getD (c.gs.length-1-k) gZ)).toNat-j) (0,l) ?_ ?_
  ·exact ⟨E,G,o.sb,(by omega),(by simp),rfl,d,e,f,g,m,y,i⟩
  rintro ⟨j,l2⟩ a w9 ⟨M,a6,o,hj,aR,bE,d,e,f,g,h,A,i⟩;refine Q5 fun _ aS=>?_;refine Zs o fun _ aT=>?_;refine Zm rfl<|Ze (X6o rfl rfl)<|Zt aT fun a o=>?_
  refine Xg o rfl (fun x=>?_) (fun x=>?_)
  ·have aD:=x;have x:=Q2 x;refine Q7<|aS _ _<|Q5 fun _ aU=>?_;refine Q8<|Zr o<|Ze (Vd rfl X18 1)<|Ze (X0 rfl X29 (f.at 1))<|Ze (Vn X0o g)<|Zf (Xm (k:=1) (vs:=[.agg #[vi ((bkG (c.gs.getD (c.gs.length-1-k) gZ)).k),vi ((bkG (c.gs.getD (c.gs.length-1-k) gZ)).a),vi ((bkG (c.gs.getD (c.gs.length-1-k) gZ)).b)]]) (zs:=[vi ((bkG (c.gs.getD (c.gs.length-1-k) gZ)).k),vi ((bkG (c.gs.getD (c.gs.length-1-k) gZ)).a),vi ((bkG (c.gs.getD (c.gs.length-1-k) gZ)).b)]) rfl X1f X1z rfl rfl) ?_;rintro _ bK ⟨b26,rfl,N,t,Q⟩
   have aH:W≠b26:=by have:=g.lt;omega
   have bA:=Q0 i.size N;have aW:=(J.below' i).away N;have H:=h.away N;have d:=d.below t;have e:=e.below t;have f:=f.below t;have g:=g.below t;have h:=h.below t;have i:=btr i t;refine Zf (X0m (enc:=encG) (l:=(l2)) (l2:=([(bkG (c.gs.getD (c.gs.length-1-k) gZ))])) (B0:=D.heap.size) rfl rfl X1f X1z X16 X2r h (Rd.of_blk Q rfl _ Q.lt) (by simp only [maxLen];simp;omega) (by simp;omega) i.size) ?_;rintro _ bL ⟨aE,aF,rfl,U,hg,aG⟩
   have C:Own _ D.heap.size 123 3 encG _ _ (l2):=h
   have I:=aG _ g.lt A;have aI:=aG _ Q.lt H;clear aG;have d:=d.appT C hg rfl;have e:=e.appT C hg rfl;have f:=f.appT C hg rfl;have g:=g.appA hg A;have i:=Below.app i C hg (Qb _) i.size;clear C hg;refine Ze (Vd rfl X18 1)<|Zo (Vu (vs:=[.slice aE (l2++([(bkG (c.gs.getD (c.gs.length-1-k) gZ))])).length aF]) (l':=[vi c.n,.slice aE (l2++([(bkG (c.gs.getD (c.gs.length-1-k) gZ))])).length aF]) rfl rfl Xch f) ?_;rintro _ bM ⟨B,hb⟩;have p:=f;have d:=d.only B (by omega);have e:=e.only B (by omega);have g:=g.only B (Blk.ne g p rfl);have U:=U.onlyT B p rfl;have i:=Below.only i B a7;have f:=hb;refine Zn fun a o=>?_;refine Xa<|aU _ _<|Zr o<|Zm rfl<|Ze (Vx (X1g rfl rfl (by omega) (by omega)) (show _=(bkN (c.gs.getD (c.gs.length-1-k) gZ)-((j+1:Nat) : Int)) from (by omega)))<|Za rfl ?_;refine Zn fun a o=>?_;refine Xh ?_;exact ⟨(j+1,l2++([(bkG (c.gs.getD (c.gs.length-1-k) gZ))])),⟨aE,aF,o.sb,(by omega),(by rw [aR,Xce,Qx]),(by simp;omega),d,e,f,g,U,I,i⟩,(by first|omega|(dsimp only;omega))⟩
  have aD:=x;have x:=Q1 x
  have bB:bkN (c.gs.getD (c.gs.length-1-k) gZ)≤(j:Int):=by have:=x;omega
  refine Q9<|Xk<|Xk<|X03 ?_;refine Xa<|aO _ _<|Zr o<|Zm rfl<|Ze (Vx (X1g rfl rfl (by omega) (by omega)) (show _=((c.gs.length:Int)-1-((k+1:Nat) : Int)) from (by omega)))<|Za rfl ?_;refine Zn fun a o=>?_;refine Xh ?_;exact ⟨(k+1,l2),⟨M,a6,o.sb,(by omega),(by rw [Xb8 b8,aR,← hl,show (bkN (c.gs.getD (c.gs.length-1-k) gZ)).toNat=j from by have:=bB;omega]),(by omega),d,e,f,h,i⟩,(by first|omega|(dsimp only;omega))⟩
 have aA:=q;have q:=Q1 q
 have bC:k=c.gs.length:=by have:=q;omega
 have aX:l=invL c.gs:=by rw [hl,bC,← List.length_reverse,List.take_length];rfl
 refine Q9<|Xk<|Xk<|X03 ?_;refine aK _ _<|Zs o fun _ aY=>?_;refine Ze (Vn X12 f)<|Zo (Vw [vi c.n,.slice E l.length G] X1w e) ?_;rintro _ bN ⟨B,hb⟩;have p:=e;have m:=m.onlyT B p rfl;have i:=Below.only i B aJ;have e:=hb;refine Zt aY fun a o=>?_
 refine Q6 (X4 o (Xt o rfl (ResV.cellN (l:=[vi c.n,.slice E l.length G]) rfl X12 (e.at 0) rfl)) ?_)
 have a8:=aX
 subst a8
 exact ⟨E,G,rfl,m,i⟩
theorem Xsu(w0:World)(c:Cx)(Ac:Option Addr)(cc:Nat)(h:Rd w0 w0.heap.size 123 encG Ac c.gs)(aP:c.gs.length≤2000000) : Ret Tryz.prog 58 [.agg #[vi c.n,.slice Ac c.gs.length cc]] w0 (fun v w=>∃ A c1,v=.tuple #[.agg #[vi ((invO c).getD cZ).n,.slice A ((invO c).getD cZ).gs.length c1],.bool (invO c).isSome]∧Own w w0.heap.size 123 3 encG A c1 ((invO c).getD cZ).gs∧Below w0.heap.size w0 w):=by
 refine enter Tryz.func58 rfl 17 rfl rfl ?_;intro a g
 have f:=bz w0
 refine Zs g fun _ aJ=>?_;refine Zf (X0c (zs:=[vi c.n,.slice Ac c.gs.length cc]) rfl rfl) ?_;rintro _ w1 ⟨b3,rfl,aK,o,i⟩;have aQ:=Q0 f.size aK;have f:=btr f o;refine Zf (Xu (zs:=[vi 0,.slice none 0 0]) X4e rfl) ?_;rintro _ w2 ⟨b5,rfl,aL,o,b⟩
 have aI:b3≠b5:=by have:=i.lt;omega
 have p:=Q0 f.size aL;have i:=i.below o;have f:=btr f o;refine Za rfl<|ZX aJ fun a g _ aM=>?_;refine Zs g fun _ aN=>?_;refine Ze (Vn X12 i)<|Zf (Vc (F53 _ c Ac cc (h.below' f).top) Xfd) ?_;rintro _ w3 ⟨rfl,o⟩;have i:=i.below o;have b:=b.below o;have f:=btr f o;refine Ze (X0y rfl)<|Zt aN fun a g=>?_
 refine Xg g rfl (fun q=>?_) (fun q=>?_)
 ·have a8:=q
  have t:cOk c=false:=by have:=q;simpa using this
  have j:invO c=none:=by unfold invO;rw [t];rfl
  refine Zs g fun _ aO=>?_;refine Ze (X0w (ps:=[]) (cs:=[vi 0,.slice none 0 0]) rfl (fun _=>by first|rfl|kernel_rfl))<|Zo (Vw [vi 0,.slice none 0 0] X1w b) ?_;rintro _ w4 ⟨u,hb⟩;have k:=b;have f:=Below.only f u p;have b:=hb;refine Za rfl<|Zt aO fun a g=>?_;refine Q6<|X6<|X4 g (X17 g rfl (ResV.cellN (l:=[vi 0,.slice none 0 0]) rfl X12 (b.at 0) rfl) rfl) ?_
  rw [j]
  exact ⟨none,0,rfl,(Own.nil _ _ _ _ _),f⟩
 have a8:=q
 have t:cOk c=true:=by have:=q;simpa using this
 refine Q7<|aM _ _<|Zs g fun _ aA=>?_;refine Ze (Vn X12 i)<|Zf (Vc (Xsp _ c Ac cc (h.below' f).top (by have:=X2l.1 t;omega)) Xle) ?_;rintro _ w5 ⟨x,y,rfl,d,o⟩;have d:=d.lower f.size;have i:=i.below o;have b:=b.below o;have f:=btr f o;refine Zf (Xu (zs:=[vi 0,.slice none 0 0]) X4e rfl) ?_;rintro _ w6 ⟨b14,rfl,aB,o,m⟩
 have aC:b3≠b14:=by have:=i.lt;omega
 have aD:b5≠b14:=by have:=b.lt;omega
 have a6:=Q0 f.size aB;have b:=b.below o;have d:=d.below o;have f:=btr f o;refine Zo (Vw [vi c.n,.slice x (invL c.gs).length y] X1w m) ?_;rintro _ w7 ⟨u,hb⟩;have k:=m;have b:=b.only u (by omega);have d:=d.onlyT u k rfl;have f:=Below.only f u a6;have m:=hb;refine ZX aA fun a g _ aE=>?_;refine Zs g fun _ aF=>?_;refine Ze (Vd rfl X18 1)<|Ze (X0 rfl X29 (m.at 1))<|Ze (X0d rfl X1f)<|Ze (X6o rfl rfl)<|Zt aF fun a g=>?_
 refine Xg g rfl (fun e=>?_) (fun e=>?_)
 ·have a7:=e;have e:=Q2 e
  have j:invO c=none:=by unfold invO;rw [Q3];have:=e;simp [t];omega
  refine Zs g fun _ aG=>?_;refine Ze (X0w (ps:=[]) (cs:=[vi 0,.slice none 0 0]) rfl (fun _=>by first|rfl|kernel_rfl))<|Zo (Vw [vi 0,.slice none 0 0] X1w b) ?_;rintro _ w8 ⟨u,hb⟩;have k:=b;have f:=Below.only f u p;have b:=hb;refine Za rfl<|Zt aG fun a g=>?_;refine Q6<|X6<|X4 g (X17 g rfl (ResV.cellN (l:=[vi 0,.slice none 0 0]) rfl X12 (b.at 0) rfl) rfl) ?_
  rw [j]
  exact ⟨none,0,rfl,(Own.nil _ _ _ _ _),f⟩
 have a7:=e;have e:=Q1 e
 have j:invO c=some ⟨c.n,invL c.gs⟩:=by unfold invO;rw [Q4];have:=e;simp [t];omega
 refine Q7<|aE _ _<|Zs g fun _ aH=>?_;refine Ze (Vn X12 m)<|Zo (Vw [vi c.n,.slice x (invL c.gs).length y] X1w b) ?_;rintro _ w9 ⟨u,hb⟩;have k:=b;have d:=d.onlyT u k rfl;have f:=Below.only f u p;have b:=hb;refine Za rfl<|Zt aH fun a g=>?_
 refine Q6 (X4 g (X17 g rfl (ResV.cellN (l:=[vi c.n,.slice x (invL c.gs).length y]) rfl X12 (b.at 0) rfl) rfl) ?_)
 rw [j]
 exact ⟨x,y,rfl,d,f⟩
theorem Xwn(D:World)(p:Cx)(Ap:Option Addr)(cp:Nat)(J:Rd D D.heap.size 123 encG Ap p.gs)(q:Cx)(Aq:Option Addr)(cq:Nat)(L:Rd D D.heap.size 123 encG Aq q.gs)(aU:p.gs.length≤2000000)(aW:q.gs.length≤2000000) : Ret Tryz.prog 59 [.agg #[vi p.n,.slice Ap p.gs.length cp],.agg #[vi q.n,.slice Aq q.gs.length cq]] D (fun v w=>∃ A c1,v=.tuple #[.agg #[vi ((conO p q).getD cZ).n,.slice A ((conO p q).getD cZ).gs.length c1],.bool (conO p q).isSome]∧Own w D.heap.size 123 3 encG A c1 ((conO p q).getD cZ).gs∧Below D.heap.size D w):=by
 refine enter Tryz.func59 rfl 42 rfl rfl ?_;intro a o
 have g:=bz D
 refine Zs o fun _ aJ=>?_;refine Zf (X0c (zs:=[vi p.n,.slice Ap p.gs.length cp]) rfl rfl) ?_;rintro _ w1 ⟨b4,rfl,aK,j,i⟩;have aS:=Q0 g.size aK;have g:=btr g j;refine Zf (X0c (zs:=[vi q.n,.slice Aq q.gs.length cq]) rfl rfl) ?_;rintro _ w2 ⟨b5,rfl,aL,j,f⟩
 have aG:b4≠b5:=by have:=i.lt;omega
 have aT:=Q0 g.size aL;have i:=i.below j;have g:=btr g j;refine Zf (Xu (zs:=[vi 0,.slice none 0 0]) X4e rfl) ?_;rintro _ w3 ⟨b7,rfl,aM,j,e⟩
 have aH:b4≠b7:=by have:=i.lt;omega
 have aI:b5≠b7:=by have:=f.lt;omega
 have M:=Q0 g.size aM;have i:=i.below j;have f:=f.below j;have g:=btr g j;refine Za rfl<|ZX aJ fun a o _ aN=>?_;refine Q5 fun _ aO=>?_;refine X0a (fun a w=>Fr a 42 [(2,.pointer (some ⟨b4,0,none⟩)),(3,.pointer (some ⟨b5,0,none⟩)),(4,.pointer (some ⟨b7,0,none⟩)),(31,.bool ((((!(cOk p))||(!(cOk q)))||(p.n != q.n))||(decide (400<((p.gs.length:Int)+(q.gs.length:Int))))))]∧Below w3.heap.size w3 w) ?_ ?_
 ·have u:Below w3.heap.size w3 w3:=Below.refl _ _
  refine Zr o<|Ze (Vn X12 i)<|Zf (Vc (F53 _ p Ap cp (J.below' g).top) Xfd) ?_;rintro _ w4 ⟨rfl,j⟩;have i:=i.below j;have f:=f.below j;have g:=btr g j;have u:=btr u j;refine Ze (X0y rfl)<|Zm rfl ?_
  refine Zg 10 rfl (fun d=>?_) (fun d=>?_)
  ·refine Zp (gP d) ?_;refine Zp (gP d) ?_;refine Zp (gP d) ?_;refine Ze (X7 rfl d rfl)<|Zm rfl<|Zp (gP rfl) ?_;refine Zp (gP rfl) ?_;refine Zp (gP rfl) ?_;refine Zp (gP rfl) ?_;refine Zp (gP rfl) ?_;refine Ze (X7 rfl rfl rfl)<|Zm rfl<|Zp (gP rfl) ?_;refine Zp (gP rfl) ?_;refine Zp (gP rfl) ?_;refine Zp (gP rfl) ?_;refine Zp (gP rfl) ?_;refine Zp (gP rfl) ?_;refine Zp (gP rfl) ?_;refine Zp (gP rfl) ?_;refine Ze (X7 rfl rfl rfl) ?_;refine Zn fun a o=>?_
   have h:Below w3.heap.size w3 w4:=u
   exact ⟨o.sub ⟨rfl,rfl,rfl,X1 rfl (by first|rfl|(simp only [d,bs];done)|simp [d]),trivial⟩,h⟩
  refine Zv (gW d) (Vn X12 f) ?_;refine Zk (gW d) (Vc (F53 _ q Aq cq (L.below' g).top) Xfd) ?_;rintro _ w5 ⟨rfl,j⟩;have i:=i.below j;have f:=f.below j;have g:=btr g j;have u:=btr u j;refine Zv (gW d) (X0y rfl) ?_;refine Ze (Xe rfl d rfl)<|Zm rfl ?_
  refine Zg 15 rfl (fun c=>?_) (fun c=>?_)
  ·refine Zp (gP c) ?_;refine Zp (gP c) ?_;refine Zp (gP c) ?_;refine Zp (gP c) ?_;refine Zp (gP c) ?_;refine Ze (X7 rfl c rfl)<|Zm rfl<|Zp (gP rfl) ?_;refine Zp (gP rfl) ?_;refine Zp (gP rfl) ?_;refine Zp (gP rfl) ?_;refine Zp (gP rfl) ?_;refine Zp (gP rfl) ?_;refine Zp (gP rfl) ?_;refine Zp (gP rfl) ?_;refine Ze (X7 rfl rfl rfl) ?_;refine Zn fun a o=>?_
   have h:Below w3.heap.size w3 w5:=u
   exact ⟨o.sub ⟨rfl,rfl,rfl,X1 rfl (by first|rfl|(simp only [d,c,bs];done)|simp [d,c]),trivial⟩,h⟩
  refine Zv (gW c) (Vd rfl X1d 0) ?_;refine Zv (gW c) (X0 rfl X9 (i.at 0)) ?_;refine Zv (gW c) (Vd rfl X1d 0) ?_;refine Zv (gW c) (X0 rfl X9 (f.at 0)) ?_;refine Zv (gW c) (X1j rfl rfl) ?_;refine Ze (Xe rfl c rfl)<|Zm rfl ?_
  refine Zg 22 rfl (fun b=>?_) (fun b=>?_)
  ·refine Zp (gP b) ?_;refine Zp (gP b) ?_;refine Zp (gP b) ?_;refine Zp (gP b) ?_;refine Zp (gP b) ?_;refine Zp (gP b) ?_;refine Zp (gP b) ?_;refine Zp (gP b) ?_;refine Ze (X7 rfl b rfl) ?_;refine Zn fun a o=>?_
   have h:Below w3.heap.size w3 w5:=u
   exact ⟨o.sub ⟨rfl,rfl,rfl,X1 rfl (by first|rfl|(simp only [d,c,b,bs];done)|simp [d,c,b]),trivial⟩,h⟩
  refine Zv (gW b) (Vd rfl X18 1) ?_;refine Zv (gW b) (X0 rfl X29 (i.at 1)) ?_;refine Zv (gW b) (X0d rfl X1f) ?_;refine Zv (gW b) (Vd rfl X18 1) ?_;refine Zv (gW b) (X0 rfl X29 (f.at 1)) ?_;refine Zv (gW b) (X0d rfl X1f) ?_;refine Zv (gW b) (Xw rfl rfl (by omega) (by omega)) ?_;refine Zv (gW b) (X6o rfl rfl) ?_;refine Ze (Xe rfl b rfl) ?_;refine Zn fun a o=>?_
  have h:Below w3.heap.size w3 w5:=u
  exact ⟨o.sub ⟨rfl,rfl,rfl,X1 rfl (by first|rfl|(simp only [d,c,b,bs];done)|simp [d,c,b]),trivial⟩,h⟩
 rintro a w6 ⟨o,j⟩;have i:=i.below j;have f:=f.below j;have e:=e.below j;have g:=btr g j;refine aO _ _ ?_
 refine Xg o rfl (fun x=>?_) (fun x=>?_)
 ·have a6:=x
  have E:conO p q=none:=by unfold conO;have h7:=x;rw [Q3];revert h7;cases cOk p<;>cases cOk q<;>simp<;>omega
  refine Zs o fun _ a7=>?_;refine Ze (X0w (ps:=[]) (cs:=[vi 0,.slice none 0 0]) rfl (fun _=>by first|rfl|kernel_rfl))<|Zo (Vw [vi 0,.slice none 0 0] X1w e) ?_;rintro _ w7 ⟨C,hb⟩;have t:=e;have g:=Below.only g C M;have e:=hb;refine Za rfl<|Zt a7 fun a o=>?_;refine Q6<|X6<|X4 o (X17 o rfl (ResV.cellN (l:=[vi 0,.slice none 0 0]) rfl X12 (e.at 0) rfl) rfl) ?_
  rw [E]
  exact ⟨none,0,rfl,(Own.nil _ _ _ _ _),g⟩
 have a6:=x
 have E:conO p q=some ⟨p.n,p.gs++q.gs⟩:=by unfold conO;have h7:=x;rw [Q4];revert h7;cases cOk p<;>cases cOk q<;>simp<;>omega
 refine Q7<|aN _ _<|Zs o fun _ a8=>?_;refine Ze (Vn X12 i)<|Zf (Vc (Xuy _ p Ap cp (J.below' g).top (by omega)) Xks) ?_;rintro _ w8 ⟨aP,aQ,rfl,m,j⟩;have m:=m.lower g.size;have i:=i.below j;have f:=f.below j;have e:=e.below j;have g:=btr g j;refine Zf (Xu (zs:=[vi 0,.slice none 0 0]) X4e rfl) ?_;rintro _ w9 ⟨b19,rfl,aA,j,k⟩
 have aB:b4≠b19:=by have:=i.lt;omega
 have aC:b5≠b19:=by have:=f.lt;omega
 have aD:b7≠b19:=by have:=e.lt;omega
 have G:=Q0 g.size aA;have f:=f.below j;have e:=e.below j;have m:=m.below j;have g:=btr g j;refine Zo (Vw [vi p.n,.slice aP p.gs.length aQ] X1w k) ?_;rintro _ aX ⟨C,hb⟩;have t:=k;have f:=f.only C (by omega);have e:=e.only C (by omega);have m:=m.onlyT C t rfl;have g:=Below.only g C G;have k:=hb;refine Zx a8 fun a o _ aE=>?_;refine Ze (Vd rfl X18 1)<|Ze (X0 rfl X29 (k.at 1))<|Ze (Vd rfl X18 1)<|Ze (X0 rfl X29 (f.at 1))<|Zf (X0m (enc:=encG) (l:=(p.gs)) (l2:=(q.gs)) (B0:=D.heap.size) rfl rfl X1f X1z X16 X2r m (L.below' g) (by simp only [maxLen];omega) (by omega) g.size) ?_;rintro _ aY ⟨H,I,rfl,y,hg,aR⟩
 have B:Own _ D.heap.size 123 3 encG _ _ (p.gs):=m
 clear aR;have e:=e.appT B hg rfl;have k:=k.appT B hg rfl;have g:=Below.app g B hg (Qb _) g.size;clear B hg;refine Ze (Vd rfl X18 1)<|Zo (Vu (vs:=[.slice H (p.gs++q.gs).length I]) (l':=[vi p.n,.slice H (p.gs++q.gs).length I]) rfl rfl Xch k) ?_;rintro _ aZ ⟨C,hb⟩;have t:=k;have e:=e.only C (by omega);have y:=y.onlyT C t rfl;have g:=Below.only g C G;have k:=hb;refine Zx aE fun a o _ aF=>?_;refine Ze (Vn X12 k)<|Zo (Vw [vi p.n,.slice H (p.gs++q.gs).length I] X1w e) ?_;rintro _ b0 ⟨C,hb⟩;have t:=e;have y:=y.onlyT C t rfl;have g:=Below.only g C M;have e:=hb;refine Za rfl<|Zt aF fun a o=>?_
 refine Q6 (X4 o (X17 o rfl (ResV.cellN (l:=[vi p.n,.slice H (p.gs++q.gs).length I]) rfl X12 (e.at 0) rfl) rfl) ?_)
 rw [E]
 exact ⟨H,I,rfl,y,g⟩
end Go.Proofs.YtpifljegadknkaaGreat
namespace Go.Proofs.YtpifljegadknkaaGreat
section
variable {G K : Type} [DecidableEq K]
def wds(gs:List G) : Nat→List (List G)
 | 0=>[[]]
 | k+1=>(wds gs k).flatMap fun u=>gs.map fun g=>u++[g]
def skW(gs:List G)(P:List G→Bool) : Nat→List G→Option (List G)
 | 0,p=>if P p then some p else none
 | k+1,p=>gs.findSome? fun g=>skW gs P k (p++[g])
def lsW(gs:List G)(P:List G→Bool) : Nat→Option (List G)
 | 0=>(wds gs 0).find? P
 | k+1=>(lsW gs P k).or ((wds gs (k+1)).find? P)
def enT(ky:List G→K)(T:K→Option (List G)) : List (List G)→(K→Option (List G))×List (List G)
 | []=>(T,[])
 | w::l=>match T (ky w) with
  | some _=>enT ky T l
  | none=>let r:=enT ky (fun q=>if q=ky w then some w else T q) l;(r.1,w::r.2)
def grT(gs:List G)(ky:List G→K) : Nat→(K→Option (List G))×List (List G)
 | 0=>((fun q=>if q=ky [] then some [] else none),[[]])
 | k+1=>enT ky (grT gs ky k).1 ((grT gs ky k).2.flatMap fun u=>gs.map fun g=>u++[g])
end
def rLess(x y:Rg) : Bool:=if x.a≠y.a then decide (x.a<y.a) else if x.b≠y.b then decide (x.b<y.b) else if x.c≠y.c then decide (x.c<y.c) else decide (x.d<y.d)
def bestT(x:Rg) : Nat→Nat
 | 0=>0
 | n+1=>if rLess (rTurnN (bestT x n) x) (rTurnN (n+1) x)=true then n+1 else bestT x n
def turnK(x:Rg) : Nat:=bestT x 7
def canK(l:List Dy) : Option Nat:=(l.find? fun x=>decide (x≠dZ)).map fun x=>turnK x.num
def canL(l:List Dy) : Option (List Dy):=(canK l).map fun (k:Nat)=>l.map (dTurn (k:Int))
def gsT(n:Nat) : List Gt:=if n=2 then [⟨1,0,0⟩,⟨1,1,0⟩,⟨5,0,0⟩,⟨5,1,0⟩,⟨7,0,0⟩,⟨7,1,0⟩,⟨9,0,1⟩,⟨9,1,0⟩] else [⟨1,0,0⟩,⟨5,0,0⟩,⟨7,0,0⟩]
def valW(n:Nat)(w:List Gt) : Mx:=(opI ⟨n,w⟩).getD mZ
def kyW(n:Nat)(w:List Gt) : Option (List Dy):=canL (valW n w).cells
def fdS(n:Nat)(M:Mx) : Nat→Mx→Option (List Gt)
 | 0,x=>if phaseS x M=true then some [] else none
 | k+1,x=>(gsT n).findSome? fun g=>(fdS n M k (timesS false (gateS n g) x).2).map (g :: ·)
end Go.Proofs.YtpifljegadknkaaGreat
namespace Go.Proofs.YtpifljegadknkaaGreat
open Go
def dgV(l:List UInt8) : Nat:=l.foldl (fun a b=>10*a+(b.toNat-48)) 0
def txR(z:Rg) : List UInt8:=Lib.join [Lib.itoa z.a,Lib.itoa z.b,Lib.itoa z.c,Lib.itoa z.d] [32]
def txD(x:Dy) : List UInt8:=txR x.num++[47]++Lib.itoa x.exp
def txK(l:List Dy) : List UInt8:=Lib.join (l.map txD) [44]
end Go.Proofs.YtpifljegadknkaaGreat
namespace Go.Proofs.YtpifljegadknkaaGreat
open Go.RowKit
def entS(p:ByteArray×Value×Nat) : MapEntry:={ key:=.string p.1,val:=p.2.1,born:=p.2.2 }
def findS(l:List (ByteArray×Value×Nat))(s:ByteArray) : Option Value:=(l.find? fun p=>decide (p.1=s)).map fun p=>p.2.1
def MapS(w:World)(b:Nat)(f:ByteArray→Option Value) : Prop:=∃ l clock,w.heap[b]? = some (.map (l.map entS).toArray clock)∧∀ s,findS l s=f s
def updS(f:ByteArray→Option Value)(s:ByteArray)(v:Value) : ByteArray→Option Value:=fun x=>if x=s then some v else f x
section
variable {w w' : World} {b b' : Nat} {f : ByteArray → Option Value}
theorem MapS.lt(h:MapS w b f) : b<w.heap.size:=by
 obtain ⟨l,c,h,_⟩:=h
 rcases W4 b w.heap.size with h'|h'
 ·exact h'
 ·simp [We h'] at h
theorem MapS.keep(h:MapS w b f)(e:w'.heap[b]? = w.heap[b]?) : MapS w' b f:=let ⟨l,c,h,g⟩:=h;⟨l,c,e.trans h,g⟩
theorem MapS.below(h:MapS w b f)(hb:Below w.heap.size w w') : MapS w' b f:=h.keep (hb.block b h.lt)
theorem MapS.only(h:MapS w b f)(ho:Only b' w w')(hne:b≠b') : MapS w' b f:=h.keep (ho.block b hne)
theorem MapS.nc(h:MapS w b f) : NC w b:=fun l T fz e=>by
 obtain ⟨_,_,h,_⟩:=h
 rw [h] at e;cases e
theorem MapS.ne{T:TypeId}{l:List Value}(h:MapS w b f)(h':Blk w b' T l) : b≠b':=by
 rintro rfl;obtain ⟨_,_,h,_⟩:=h
 unfold Blk at h'
 rw [h] at h';cases h'
theorem MapS.app{α:Type}{B:Nat}{E:TypeId}{enc:α→List Value}{A:Option Addr}{l:List α}{sz n c c':Nat}(h:MapS w b f)(ho:Own w B E sz enc A c l)(hg:w.grownBy w' (Value.slice A n c').ownBlock) : MapS w' b f:=h.keep (h.nc.app h.lt ho hg)
end
section
variable {P : Program} {a : Act} {w : World} {n : Nat} {e : Env} {ty : TypeId} {pos : String} {af : Array Edge} {g : Option (Nat × Bool)} {d : Option Tmp} {b : Nat} {f : ByteArray → Option Value} {T K E : TypeId}
end
def kyT(o:Option (List Dy)) : ByteArray:=⟨(txK (o.getD [])).toArray⟩
def tbW(n k:Nat) : (ByteArray→Option (List Gt))×List (List Gt):=grT (gsT n) (fun w=>kyT (kyW n w)) k
def rndW{G:Type}(gs:List G)(lev:List (List G))(i j:Nat) : List (List G):=((lev.take i).flatMap fun u=>gs.map fun g=>u++[g])++((gs.take j).map fun g=>(lev.getD i [])++[g])
structure Tw where (A:Option Addr) (c:Nat) (w:List Gt) (m:Mx) (B:Option Addr) (d:Nat)
def encTw(t:Tw) : List Value:=[.slice t.A t.w.length t.c,.int .i64 t.m.rows,.int .i64 t.m.cols,.slice t.B t.m.cells.length t.d]
def DeepT(w:World)(B:Nat)(E F:TypeId)(l:List Tw) : Prop:=∀ t ∈ l,Rd w B E encG t.A t.w∧Rd w B F encD t.B t.m.cells
structure Sq where (A:Option Addr) (c:Nat) (w:List Gt)
abbrev Sq.v(s:Sq) : Value:=.slice s.A s.w.length s.c
def DeepM(w:World)(B:Nat)(E:TypeId)(f:ByteArray→Option Sq) : Prop:=∀ s x,f s=some x→Rd w B E encG x.A x.w
def sgF(f:ByteArray→Option Sq) : ByteArray→Option Value:=fun s=>(f s).map Sq.v
def sgL(f:ByteArray→Option Sq) : ByteArray→Option (List Gt):=fun s=>(f s).map Sq.w
def updG(f:ByteArray→Option Sq)(s:ByteArray)(x:Sq) : ByteArray→Option Sq:=fun q=>if q=s then some x else f q
section
variable {w w' : World} {B : Nat} {E F : TypeId} {l : List Tw} {f : ByteArray → Option Sq}
theorem DeepT.nil(w:World)(B:Nat)(E F:TypeId) : DeepT w B E F []:=fun s hs=>by simp at hs
theorem DeepT.snoc{x:Tw}(h:DeepT w B E F l)(h1:Rd w B E encG x.A x.w)(h2:Rd w B F encD x.B x.m.cells) : DeepT w B E F (l++[x]):=fun s hs=>by
 rcases Qu.1 hs with hs|hs
 ·exact h s hs
 ·obtain rfl:=Qm.1 hs;exact ⟨h1,h2⟩
theorem DeepT.below(h:DeepT w B E F l)(hb:Below w.heap.size w w') : DeepT w' B E F l:=fun s hs=>⟨(h s hs).1.below hb,(h s hs).2.below hb⟩
theorem DeepT.top(h:DeepT w B E F l) : DeepT w w.heap.size E F l:=fun s hs=>⟨(h s hs).1.top,(h s hs).2.top⟩
theorem DeepT.only{b:Nat}(h:DeepT w B E F l)(ho:Only b w w')(hB:B≤b) : DeepT w' B E F l:=fun s hs=>⟨(h s hs).1.only ho hB,(h s hs).2.only ho hB⟩
theorem DeepT.onlyN{b:Nat}(h:DeepT w B E F l)(ho:Only b w w')(hm:NC w b) : DeepT w' B E F l:=fun s hs=>⟨(h s hs).1.onlyN ho hm,(h s hs).2.onlyN ho hm⟩
theorem DeepT.onlyT{b:Nat}{T:TypeId}{lc:List Value}(h:DeepT w B E F l)(ho:Only b w w')(hb:Blk w b T lc)(hT:Nat.beq E T=false)(hT':Nat.beq F T=false) : DeepT w' B E F l:=fun s hs=>⟨(h s hs).1.onlyT ho hb hT,(h s hs).2.onlyT ho hb hT'⟩
theorem DeepT.appT{B0:Nat}{E':TypeId}{sz:Nat}{α:Type}{enc:α→List Value}{A:Option Addr}{c:Nat}{m:List α}(h:DeepT w B E F l)(ho:Own w B0 E' sz enc A c m)(hg:w.grownBy w' (Value.slice A m.length c).ownBlock)(hT:Nat.beq E' E=false)(hT':Nat.beq E' F=false) : DeepT w' B E F l:=fun s hs=>⟨(h s hs).1.appT ho hg hT,(h s hs).2.appT ho hg hT'⟩
theorem DeepT.one{x:Tw}(h1:Rd w B E encG x.A x.w)(h2:Rd w B F encD x.B x.m.cells) : DeepT w B E F [x]:=DeepT.snoc (DeepT.nil w B E F) h1 h2
theorem DeepM.below(h:DeepM w B E f)(hb:Below w.heap.size w w') : DeepM w' B E f:=fun s x hs=>(h s x hs).below hb
theorem DeepM.top(h:DeepM w B E f) : DeepM w w.heap.size E f:=fun s x hs=>(h s x hs).top
theorem DeepM.only{b:Nat}(h:DeepM w B E f)(ho:Only b w w')(hB:B≤b) : DeepM w' B E f:=fun s x hs=>(h s x hs).only ho hB
theorem DeepM.onlyN{b:Nat}(h:DeepM w B E f)(ho:Only b w w')(hm:NC w b) : DeepM w' B E f:=fun s x hs=>(h s x hs).onlyN ho hm
theorem DeepM.onlyT{b:Nat}{T:TypeId}{lc:List Value}(h:DeepM w B E f)(ho:Only b w w')(hb:Blk w b T lc)(hT:Nat.beq E T=false) : DeepM w' B E f:=fun s x hs=>(h s x hs).onlyT ho hb hT
theorem DeepM.appT{B0:Nat}{E':TypeId}{sz:Nat}{α:Type}{enc:α→List Value}{A:Option Addr}{c:Nat}{m:List α}(h:DeepM w B E f)(ho:Own w B0 E' sz enc A c m)(hg:w.grownBy w' (Value.slice A m.length c).ownBlock)(hT:Nat.beq E' E=false) : DeepM w' B E f:=fun s x hs=>(h s x hs).appT ho hg hT
theorem DeepM.none(w:World)(B:Nat)(E:TypeId) : DeepM w B E (fun _=>Option.none):=fun _ _ h=>by cases h
theorem DeepM.upd{s:ByteArray}{x:Sq}(h:DeepM w B E f)(hx:Rd w B E encG x.A x.w) : DeepM w B E (updG f s x):=fun q y hy=>by
 unfold updG at hy
 split at hy
 ·injection hy with hy;subst hy;exact hx
 ·exact h q y hy
end
end Go.Proofs.YtpifljegadknkaaGreat
namespace Go.Proofs.YtpifljegadknkaaGreat
def mstW(n:Nat) : Nat:=if n=2 then 4 else 8
def nW(m:Mx) : Nat:=if m.rows=4 then 2 else 1
def sqW(m:Mx) : Bool:=mOk m&&(decide (m.rows=m.cols)&&(decide (m.rows=2)||decide (m.rows=4)))
def shS(m:Mx) : Option (List Gt):=if sqW m=true then lsW (gsT (nW m)) (fun w=>phaseS (valW (nW m) w) m) (mstW (nW m)) else none
def shI(m:Mx) : Option (List Gt):=if (sqW m&&(canL m.cells).isSome)=true then (tbW (nW m) (mstW (nW m))).1 (kyT (canL m.cells)) else none
def srS(n:Nat)(M:Mx) : Nat→Option (List Gt)
 | 0=>fdS n M 0 (unitS (2^n))
 | k+1=>(srS n M k).or (fdS n M (k+1) (unitS (2^n)))
def szD(l:List Dy)(left:Int) : Int:=if left-(l.length:Int)<0 then -1 else left-(l.length:Int)
def dimS(n:Int) : Bool:=[1,2,4,8,16,32].any fun y=>y==n
def cmI(x y:Int) : Int:=if x<y then -1 else if y<x then 1 else 0
def cmL:List Int→List Int→Int
 | [],[]=>0
 | [],_::_=>-1
 | _::_,[]=>1
 | x::l,y::r=>if cmI x y≠0 then cmI x y else cmL l r
def cmR(x y:Rg) : Int:=cmL [x.a,x.b,x.c,x.d] [y.a,y.b,y.c,y.d]
def idxF{α:Type}(l:List α)(q:α→Bool) : Int:=match l.findIdx? q with
 | some k=>(k:Int)
 | none=>-1
theorem X7r{α:Type}{q:α→Bool} : ∀ {l:List α} {k:Nat} {u:α},((l.take k).all fun x=>!q x)=true→l[k]? = some u→q u=true→idxF l q=(k:Int):=by
 intro l k u h1 h2 h3;obtain ⟨h4,h5⟩:=Qg.1 h2
 have:l.findIdx? q=some k:=by
  rw [List.findIdx?_eq_some_iff_getElem]
  refine ⟨h4,by rw [h5];exact h3,fun j hj=>?_⟩
  have:=W1.1 h1 l[j] (by rw [List.mem_iff_getElem];exact ⟨j,by simp;omega,by simp⟩)
  simpa using this
 unfold idxF;rw [this]
end Go.Proofs.YtpifljegadknkaaGreat
namespace Go.Proofs.YtpifljegadknkaaGreat
open Go.RowKit
theorem Xsv(w0:World)(x:Int) : Ret Tryz.prog 194 [vi x] w0 (fun v w=>v=.bool false∧w0=w):=by
 refine enter Tryz.func194 rfl 6 rfl rfl ?_;intro a hf
 have hW:=bz w0
 refine Zs hf fun _ a6=>?_;refine Za rfl<|Zx a6 fun a hf _ a7=>?_;refine Zm rfl<|Zm rfl<|Ze (X1j rfl rfl)<|Za rfl<|Zt a7 fun a hf=>?_
 refine Q6 (X4 hf (Xt hf rfl rfl) ?_)
 exact ⟨by simp,rfl⟩
theorem Xer(w0:World)(x:Int)(y:Int) : Ret Tryz.prog 150 [vi x,vi y] w0 (fun v w=>v=vi (cmI x y)∧w0=w):=by
 refine enter Tryz.func150 rfl 20 rfl rfl ?_;intro a d
 have hW:=bz w0
 refine Zs d fun _ aF=>?_;refine Za rfl<|Zx aF fun a d _ aG=>?_;refine Zm rfl<|Zf (Vc (Xsv _ x) Xie) ?_;rintro _ _ ⟨rfl,rfl⟩;refine Za rfl<|Zx aG fun a d _ aH=>?_;refine Zm rfl<|Zf (Vc (Xsv _ y) Xie) ?_;rintro _ _ ⟨rfl,rfl⟩;refine Za rfl<|ZX aH fun a d _ aI=>?_;refine Zs d fun _ aJ=>?_;refine Zm rfl<|Zt aJ fun a d=>?_;refine Xfl d rfl ?_;refine Q7<|aI _ _<|Q5 fun _ aK=>?_;refine Zs d fun _ aL=>?_;refine Zm rfl<|Zt aL fun a d=>?_;refine Xfl d rfl ?_;refine Q7<|aK _ _<|Q5 fun _ aM=>?_;refine Zs d fun _ aN=>?_;refine Zm rfl<|Zm rfl<|Ze (X0l rfl rfl)<|Zt aN fun a d=>?_
 refine Xg d rfl (fun b=>?_) (fun b=>?_)
 ·have a6:=b;have b:=Q2 b
  have e:cmI x y = -1:=by rw [cmI,Q4 b]
  refine Zs d fun _ a8=>?_;refine Za rfl<|Zt a8 fun a d=>?_;refine Q6<|X6<|X4 d (Xt d rfl rfl) ?_;exact ⟨by rw [e],rfl⟩
 have a6:=b;have b:=Q1 b;have aA:=b;refine Q7<|aM _ _<|Q5 fun _ aB=>?_;refine Zs d fun _ aC=>?_;refine Zm rfl<|Zm rfl<|Ze (X6o rfl rfl)<|Zt aC fun a d=>?_
 refine Xg d rfl (fun c=>?_) (fun c=>?_)
 ·have a7:=c;have c:=Q2 c
  have e:cmI x y=1:=by rw [cmI,Q3 aA,Q4 c]
  refine Zs d fun _ aD=>?_;refine Za rfl<|Zt aD fun a d=>?_;refine Q6<|X6<|X4 d (Xt d rfl rfl) ?_;exact ⟨by rw [e],rfl⟩
 have a7:=c;have c:=Q1 c
 have e:cmI x y=0:=by rw [cmI,Q3 aA,Q3 c]
 refine Q7<|aB _ _<|Zs d fun _ aE=>?_;refine Za rfl<|Zt aE fun a d=>?_
 refine Q6 (X4 d (Xt d rfl rfl) ?_)
 exact ⟨by rw [e],rfl⟩
theorem gapp{α:Type}{w0 w w':World}{R:Option Nat}{E:TypeId}{sz c:Nat}{enc:α→List Value}{A:Option Addr}{l:List α}(h:w0.grownBy w R)(ho:Own w w0.heap.size E sz enc A c l)(hg:w.grownBy w' (Value.slice A l.length c).ownBlock) : w0.grownBy w' R:=
 ⟨hg.os.trans h.os,hg.tape.trans h.tape,hg.output.trans h.output,Q0 h.size hg.size,fun k hk h1=>(hg.block k (Nat.lt_of_lt_of_le hk h.size) (fun e=>by have:=(ho.block e.symm).1;omega)).trans (h.block k hk h1)⟩
structure Nd where
 k:Int
 p:Int
deriving DecidableEq
structure Wr where
 a:Int
 b:Int
 h:Bool
deriving DecidableEq
structure Dg where
 n:Int
 ns:List Nd
 ws:List Wr
 t:Int
 r:Int
deriving DecidableEq
def nZ:Nd:=⟨0,0⟩
def wZ:Wr:=⟨0,0,false⟩
def encNd(x:Nd) : List Value:=[.int .i64 x.k,.int .i64 x.p]
def encWr(x:Wr) : List Value:=[.int .i64 x.a,.int .i64 x.b,.bool x.h]
theorem Xv:∀ x,(encNd x).length=2:=fun _=>rfl
theorem X2o:∀ x,(encNd x).all one=true:=fun _=>rfl
theorem Xy:∀ x,(encWr x).length=3:=fun _=>rfl
theorem X1o:∀ x,(encWr x).all one=true:=fun _=>rfl
def wlt(x y:Wr) : Bool:=decide (x.a<y.a)||(x.a==y.a&&decide (x.b<y.b))
abbrev WSd(l:List Wr) : Prop:=l.Pairwise fun x y=>wlt x y=true
theorem X3q{x y:Wr} : wlt x y=true↔x.a<y.a∨(x.a=y.a∧x.b<y.b):=by unfold wlt;simp
theorem X4y{x y:Wr} : wlt x y=false↔y.a<x.a∨(x.a=y.a∧y.b≤x.b):=by
 have h:=@X3q x y
 cases hw:wlt x y with
 | true=>simp only [Bool.true_eq_false,false_iff];have:=h.1 hw;omega
 | false=>
  simp only [true_iff]
  have h2:¬ (x.a<y.a∨(x.a=y.a∧x.b<y.b)):=fun h9=>by rw [h.2 h9] at hw;cases hw
  omega
theorem Xcv{x y z:Wr}(h1:wlt x y=true)(h2:wlt y z=true) : wlt x z=true:=by rw [X3q] at *;omega
def isW(a b:Int)(w:Wr) : Bool:=w.a==min a b&&w.b==max a b
theorem X2e{a b:Int}{w:Wr} : isW a b w=true↔w.a=min a b∧w.b=max a b:=by unfold isW;simp
def fdW(l:List Wr)(a b:Int) : Int:=idxF l (isW a b)
theorem Xh8(a b:Int)(w:Wr) : isW a b w=isW b a w:=by unfold isW;rw [Int.min_comm,Int.max_comm]
theorem Xe3(l:List Wr)(a b:Int) : fdW l a b=fdW l b a:=by
 unfold fdW
 rw [show isW a b=isW b a from funext (Xh8 a b)]
theorem X3l{α:Type}(l:List α)(q:α→Bool) : (idxF l q = -1∧∀ x ∈ l,q x=false)∨∃ k:Nat,∃ x,idxF l q=(k:Int)∧l[k]? = some x∧q x=true:=by
 unfold idxF
 cases h:l.findIdx? q with
 | none=>exact .inl ⟨rfl,fun x hx=>by have:=List.findIdx?_eq_none_iff.1 h x hx;simpa using this⟩
 | some k=>
  obtain ⟨h1,h2,_⟩:=List.findIdx?_eq_some_iff_getElem.1 h;exact .inr ⟨k,l[k],rfl,Qc h1,h2⟩
theorem X49(l:List Wr)(a b:Int) : (fdW l a b = -1∧∀ w ∈ l,isW a b w=false)∨∃ k:Nat,∃ w,fdW l a b=(k:Int)∧l[k]? = some w∧isW a b w=true:=X3l l (isW a b)
theorem Xp1{l:List Wr}{a b:Int}(h:∀ w ∈ l,isW a b w=false) : fdW l a b = -1:=by
 rcases X49 l a b with h1|⟨k,w,_,h2,h3⟩
 ·exact h1.1
 ·rw [h w (Qe h2)] at h3;cases h3
theorem Xj3{l:List Wr}{a b:Int}(h:fdW l a b<0) : ∀ w ∈ l,isW a b w=false:=by
 rcases X49 l a b with h1|⟨k,w,h1,_⟩
 ·exact h1.2
 ·omega
def insW:List Wr→Wr→List Wr
 | [],x=>[x]
 | y::l,x=>if wlt y x=true then y::insW l x else x::y::l
def jnW(l:List Wr)(a b:Int)(h:Bool) : List Wr:=insW l ⟨min a b,max a b,h⟩
def ctW(l:List Wr)(i:Nat) : List Wr:=l.take i++l.drop (i+1)
def tyW(l:List Wr)(a b:Int) : Int:=if fdW l a b<0 then 0 else if (l.getD (fdW l a b).toNat wZ).h=true then 2 else 1
theorem Xf9(l:List Wr)(a b:Int) : tyW l a b=tyW l b a:=by unfold tyW;rw [Xe3]
theorem Xg0:∀ (l:List Wr) (x:Wr),(insW l x).length=l.length+1
 | [],x=>rfl
 | y::l,x=>by
  unfold insW
  split
  ·rw [Qs,Xg0 l x];rfl
  ·rfl
theorem Xa3{z:Wr} : ∀ {l:List Wr} {x:Wr},z ∈ insW l x↔z=x∨z ∈ l
 | [],x=>by simp [insW]
 | y::l,x=>by
  unfold insW
  split
  ·rw [Qv,Xa3 (l:=l),Qv]
   constructor
   ·rintro (h|h|h)
    ·exact .inr (.inl h)
    ·exact .inl h
    ·exact .inr (.inr h)
   ·rintro (h|h|h)
    ·exact .inr (.inl h)
    ·exact .inl h
    ·exact .inr (.inr h)
  ·rw [Qv,Qv]
theorem Xiu:∀ (l:List Wr) (x:Wr) (k:Nat),((l.take k).all fun y=>wlt y x)=true→(∀ y,l[k]? = some y→wlt y x=false)→insW l x=l.take k++[x]++l.drop k
 | [],x,k,_,_=>by simp [insW]
 | y::l,x,0,_,h=>by
  have h:=h y rfl
  unfold insW
  rw [Q3 (by rw [h];decide)]
  rfl
 | y::l,x,k+1,ha,h=>by
  simp only [List.take_succ_cons,List.all_cons,Qd] at ha
  have ih:=Xiu l x k ha.2 (fun z hz=>h z (by simpa using hz))
  unfold insW
  rw [Q4 ha.1,ih]
  simp
theorem Xdc:∀ {l:List Wr} {x:Wr},WSd l→(∀ y ∈ l,¬ (y.a=x.a∧y.b=x.b))→WSd (insW l x)
 | [],x,_,_=>by simp [insW]
 | y::l,x,hl,hx=>by
  have hl':=W8.1 hl
  unfold insW
  split
  ·rename_i hy
   refine W8.2 ⟨fun z hz=>?_,Xdc hl'.2 fun z hz=>hx z (by simp [hz])⟩
   rcases Xa3.1 hz with rfl|hz
   ·exact hy
   ·exact hl'.1 z hz
  ·rename_i hy
   have hxy:wlt x y=true:=by
    rw [Bool.not_eq_true] at hy
    have h1:=X4y.1 hy
    have h2:=hx y (by simp)
    rw [X3q]
    omega
   refine W8.2 ⟨fun z hz=>?_,hl⟩
   rcases Qv.1 hz with rfl|hz
   ·exact hxy
   ·exact Xcv hxy (hl'.1 z hz)
theorem X9p{l:List Wr}{a b:Int}{h:Bool}(hl:WSd l)(hf:fdW l a b<0) : WSd (jnW l a b h):=
 Xdc hl fun y hy h9=>by
  have:=Xj3 hf y hy
  rw [X2e.2 h9] at this
  cases this
theorem X8d{z:Wr}{l:List Wr}{a b:Int}{h:Bool} : z ∈ jnW l a b h↔z=⟨min a b,max a b,h⟩∨z ∈ l:=Xa3
theorem X41(l:List Wr)(i:Nat) : (ctW l i).Sublist l:=by
 unfold ctW
 rw [← List.eraseIdx_eq_take_drop_succ]
 exact List.eraseIdx_sublist l i
theorem Xby{l:List Wr}(hl:WSd l)(i:Nat) : WSd (ctW l i):=hl.sublist (X41 l i)
theorem Xq9{l:List Wr}{i:Nat}(h:i<l.length) : (ctW l i).length+1=l.length:=by
 unfold ctW
 rw [Qh,Qn,List.length_drop]
 omega
theorem Xj0{l:List Wr}(hl:WSd l){i j:Nat}{x y:Wr}(hi:l[i]? = some x)(hj:l[j]? = some y)(ha:x.a=y.a)(hb:x.b=y.b) : i=j:=by
 obtain ⟨h1,rfl⟩:=Qg.1 hi;obtain ⟨h2,rfl⟩:=Qg.1 hj;have hp:=W0.1 hl
 rcases Nat.lt_trichotomy i j with h|h|h
 ·have:=hp i j h1 h2 h;rw [X3q] at this;omega
 ·exact h
 ·have:=hp j i h2 h1 h;rw [X3q] at this;omega
theorem Xex{l:List Wr}(hl:WSd l){a b:Int}{i:Nat}{w:Wr}(hi:l[i]? = some w)(hw:isW a b w=true) : fdW (ctW l i) a b = -1:=by
 refine Xp1 fun z hz=>?_
 cases hq:isW a b z with
 | false=>rfl
 | true=>
  exfalso
  have e1:=X2e.1 hw
  have e2:=X2e.1 hq
  unfold ctW at hz
  rcases Qu.1 hz with h|h
  ·obtain ⟨j,hj⟩:=List.mem_iff_getElem?.1 h
   rw [List.getElem?_take] at hj
   split at hj
   ·have:=Xj0 hl hi hj (by omega) (by omega);omega
   ·cases hj
  ·obtain ⟨j,hj⟩:=List.mem_iff_getElem?.1 h
   rw [List.getElem?_drop] at hj
   have:=Xj0 hl hi hj (by omega) (by omega);omega
def spI(ns:List Nd)(k:Int) : Bool:=inR k 0 ((ns.length:Int)-1)&&(ns.getD k.toNat nZ).k==3
def adN(ns:List Nd)(k by_:Int) : List Nd:=ns.set k.toNat ⟨(ns.getD k.toNat nZ).k,((ns.getD k.toNat nZ).p+by_) % 8⟩
def dpN(ns:List Nd)(k:Int) : List Nd:=ns.set k.toNat nZ
def dpW(ws:List Wr)(k:Int) : List Wr:=ws.filter fun w=>w.a != k&&w.b != k
theorem X21(ns:List Nd)(k m:Int) : (adN ns k m).length=ns.length:=List.length_set
theorem X1v(ns:List Nd)(k:Int) : (dpN ns k).length=ns.length:=List.length_set
def otW(k:Int)(w:Wr) : Option Int:=if k=w.a then some w.b else if k=w.b then some w.a else none
def nearW(ws:List Wr)(k:Int) : List Int:=ws.filterMap (otW k)
structure InW (ws:List Wr) : Prop where
 s:WSd ws
 l:∀ w ∈ ws,w.a<w.b
theorem X5n{k v:Int}{w:Wr}(h:otW k w=some v) : (k=w.a∧v=w.b)∨(k=w.b∧v=w.a):=by
 unfold otW at h
 split at h
 ·injection h with h;exact .inl ⟨by assumption,h.symm⟩
 ·split at h
  ·injection h with h;exact .inr ⟨by assumption,h.symm⟩
  ·cases h
theorem Xn3{ws:List Wr}(h:InW ws){k x v:Int}{i j:Nat}{w' w:Wr}(hi:ws[i]? = some w')(hj:ws[j]? = some w)(hij:i<j)(h1:otW k w'=some x)(h2:otW k w=some v) : x<v:=by
 obtain ⟨e1,e1'⟩:=Qg.1 hi;obtain ⟨e2,e2'⟩:=Qg.1 hj;have hp:=W0.1 h.s i j e1 e2 hij
 have l1:=h.l w' (Qe hi)
 have l2:=h.l w (Qe hj)
 rw [e1',e2',X3q] at hp
 rcases X5n h1 with ⟨a1,a2⟩|⟨a1,a2⟩<;>rcases X5n h2 with ⟨b1,b2⟩|⟨b1,b2⟩<;>omega
theorem X3p{k:Int} : ∀ {ws:List Wr},InW ws→Inc (nearW ws k)
 | [],_=>List.Pairwise.nil
 | w::ws,h=>by
  have h':InW ws:=⟨(W8.1 h.s).2,fun x hx=>h.l x (by simp [hx])⟩
  have ih:=X3p (k:=k) h'
  unfold nearW at *
  rw [List.filterMap_cons]
  cases hw:otW k w with
  | none=>exact ih
  | some v=>
   refine W8.2 ⟨fun x hx=>?_,ih⟩
   obtain ⟨w',hw',he⟩:=List.mem_filterMap.1 hx;obtain ⟨j,hj⟩:=List.mem_iff_getElem?.1 hw';exact Xn3 h (i:=0) (j:=j+1) rfl (by simpa using hj) (by omega) hw he
theorem Xey:∀ {l:List Int} {v:Int},(∀ x ∈ l,x<v)→putI l v=l++[v]
 | [],v,_=>rfl
 | x::l,v,h=>by
  unfold putI
  rw [Q4 (h x (by simp)),Xey fun y hy=>h y (by simp [hy])]
  rfl
theorem X75{ws:List Wr}{k:Int}{j:Nat}{w:Wr}(hj:ws[j]? = some w) : nearW (ws.take (j+1)) k=nearW (ws.take j) k++(otW k w).toList:=by
 unfold nearW
 rw [Qt,hj,Option.toList_some,List.filterMap_append]
 cases h:otW k w<;>simp [h]
theorem X9a{ws:List Wr}{k:Int}{j:Nat}{w:Wr}(hj:ws[j]? = some w)(h1:(k==w.a)=false)(h2:(k==w.b)=false) : nearW (ws.take (j+1)) k=nearW (ws.take j) k:=by
 have e1:¬ k=w.a:=by simpa using h1
 have e2:¬ k=w.b:=by simpa using h2
 rw [X75 hj]
 unfold otW
 rw [Q3 e1,Q3 e2]
 simp
theorem Xb6{ws:List Wr}{k:Int}{j:Nat}{w:Wr}(hj:ws[j]? = some w)(h1:(k==w.a)=true) : nearW (ws.take (j+1)) k=nearW (ws.take j) k++[w.b]:=by
 have e1:k=w.a:=by simpa using h1
 rw [X75 hj]
 unfold otW
 rw [Q4 e1]
 rfl
theorem Xbv{ws:List Wr}{k:Int}{j:Nat}{w:Wr}(hj:ws[j]? = some w)(h1:(k==w.a)=false)(h2:(k==w.b)=true) : nearW (ws.take (j+1)) k=nearW (ws.take j) k++[w.a]:=by
 have e1:¬ k=w.a:=by simpa using h1
 have e2:k=w.b:=by simpa using h2
 rw [X75 hj]
 unfold otW
 rw [Q3 e1,Q4 e2]
 rfl
theorem Xc8{ws:List Wr}(h:InW ws){k v:Int}{j:Nat}(hj:nearW (ws.take (j+1)) k=nearW (ws.take j) k++[v]) : putI (nearW (ws.take j) k) v=nearW (ws.take j) k++[v]:=by
 have hi:=X3p (k:=k) (ws:=ws.take (j+1)) ⟨h.s.sublist (List.take_sublist _ _),fun w hw=>h.l w (Wd hw)⟩
 rw [hj] at hi
 refine Xey fun x hx=>?_;exact (List.pairwise_append.1 hi).2.2 x hx v (by simp)
theorem X27(ws:List Wr)(k:Int) : (nearW ws k).length≤ws.length:=List.length_filterMap_le _ _
theorem X6k{ws:List Wr}{k v:Int} : v ∈ nearW ws k↔∃ w ∈ ws,otW k w=some v:=List.mem_filterMap
theorem X6d{α:Type}{l:List α}{q:α→Bool}{k:Nat}{u:α}(h:((l.take k).all fun x=>!q x)=true)(hu:l[k]? = some u)(hq:q u=false) : ((l.take (k+1)).all fun x=>!q x)=true:=by
 rw [Qt,hu,Option.toList_some,List.all_append,h]
 simp [hq]
theorem X7y{α:Type}{l:List α}{q:α→Bool}{k:Nat}(h:((l.take k).all fun x=>!q x)=true)(hk:l.length≤k) : idxF l q = -1:=by
 rw [Qi hk] at h
 rcases X3l l q with h1|⟨j,x,_,h2,h3⟩
 ·exact h1.1
 ·have:=W1.1 h x (Qe h2)
  rw [h3] at this
  cases this
theorem X86{l:List Wr}{a b:Int}(h:0≤fdW l a b) : ∃ w,l[(fdW l a b).toNat]? = some w∧isW a b w=true∧(fdW l a b).toNat<l.length:=by
 rcases X49 l a b with ⟨h1,_⟩|⟨k,w,h1,h2,h3⟩
 ·omega
 ·rw [h1]
  exact ⟨w,h2,h3,(Qg.1 h2).1⟩
theorem X79(l:List Wr)(a b:Int) : fdW l a b<l.length:=by
 rcases X49 l a b with ⟨h1,_⟩|⟨k,w,h1,h2,_⟩
 ·omega
 ·have:=(Qg.1 h2).1;omega
theorem X4p(l:List Wr)(a b:Int)(h:Bool) : (jnW l a b h).length=l.length+1:=Xg0 _ _
theorem Xb{α:Type}{l:List α}{k:Nat}{d:α}(h:k<l.length) : l[k]? = some (l.getD k d):=by
 rw [Qa,Qc h]
 rfl
theorem Xm2{α:Type}{l:List α}{k:Nat}{d:α}(h:decide ((k:Int)<(l.length:Int))=true) : l[k]? = some (l.getD k d):=Xb (by simpa using h)
theorem Xng{l:List Wr}{x:Wr}{k:Nat}(ha:((l.take k).all fun y=>wlt y x)=true)(h:(decide ((k:Int)<(l.length:Int))&&wlt (l.getD k wZ) x)=false) : insW l x=l.take k++[x]++l.drop k:=by
 refine Xiu l x k ha fun y hy=>?_;have h1:=(Qg.1 hy).1
 have e:l.getD k wZ=y:=by rw [Qa,hy];rfl
 rw [e,decide_eq_true (by omega),Qw] at h
 exact h
theorem Xnd{l:List Wr}{x:Wr}{k:Nat}(ha:((l.take k).all fun y=>wlt y x)=true)(h:(decide ((k:Int)<(l.length:Int))&&wlt (l.getD k wZ) x)=true) : ((l.take (k+1)).all fun y=>wlt y x)=true∧k+1≤l.length:=by
 rw [Qd,Qr] at h
 have hk:k<l.length:=by omega
 refine ⟨?_,by omega⟩
 rw [Qt,Xb (d:=wZ) hk,Option.toList_some,List.all_append,ha,List.all_cons,h.2]
 rfl
def lkD(d:Dg)(a b:Int)(h:Bool) : Dg:=
 if fdW d.ws a b<0 then { d with ws:=jnW d.ws a b h }
 else if ((d.ws.getD (fdW d.ws a b).toNat wZ).h&&h)=true then { d with ws:=ctW d.ws (fdW d.ws a b).toNat,r:=wr (d.r-2) }
 else if ((d.ws.getD (fdW d.ws a b).toNat wZ).h != h)=true then { d with ns:=adN d.ns (min a b) 4,ws:=jnW (ctW d.ws (fdW d.ws a b).toNat) a b false,r:=wr (d.r-1) }
 else d
def tgD(d:Dg)(a b:Int) : Dg:=
 if 0≤fdW d.ws a b then { d with ws:=ctW d.ws (fdW d.ws a b).toNat,r:=wr (d.r-1) } else { d with ws:=jnW d.ws a b true,r:=wr (d.r+1) }
def mtD(d:Dg)(a b:Int)(h:Bool) : Dg:=if (spI d.ns a&&spI d.ns b)=true then lkD d a b h else { d with ws:=jnW d.ws a b h }
theorem Xtj{d:Dg}{a b:Int}(h:0≤fdW d.ws a b) : tgD d a b = { d with ws:=ctW d.ws (fdW d.ws a b).toNat,r:=wr (d.r-1) }:=Q4 h
theorem Xtq{d:Dg}{a b:Int}(h:¬ 0≤fdW d.ws a b) : tgD d a b = { d with ws:=jnW d.ws a b true,r:=wr (d.r+1) }:=Q3 h
theorem Xtk{d:Dg}{a b:Int}{h:Bool}(h1:fdW d.ws a b<0) : lkD d a b h = { d with ws:=jnW d.ws a b h }:=Q4 h1
theorem Xsm{d:Dg}{a b:Int}{h:Bool}(h1:¬ fdW d.ws a b<0)(h2:((d.ws.getD (fdW d.ws a b).toNat wZ).h&&h)=true) : lkD d a b h = { d with ws:=ctW d.ws (fdW d.ws a b).toNat,r:=wr (d.r-2) }:=by
 unfold lkD;rw [Q3 h1,Q4 h2]
theorem Xrz{d:Dg}{a b:Int}{h:Bool}(h1:¬ fdW d.ws a b<0)(h2:((d.ws.getD (fdW d.ws a b).toNat wZ).h&&h)=false)(h3:((d.ws.getD (fdW d.ws a b).toNat wZ).h != h)=true) : lkD d a b h = { d with ns:=adN d.ns (min a b) 4,ws:=jnW (ctW d.ws (fdW d.ws a b).toNat) a b false,r:=wr (d.r-1) }:=by
 unfold lkD;rw [Q3 h1,Q3 (by rw [h2];decide),Q4 h3]
theorem Xwk{d:Dg}{a b:Int}{h:Bool}(h1:¬ fdW d.ws a b<0)(h2:((d.ws.getD (fdW d.ws a b).toNat wZ).h&&h)=false)(h3:((d.ws.getD (fdW d.ws a b).toNat wZ).h != h)=false) : lkD d a b h=d:=by
 unfold lkD;rw [Q3 h1,Q3 (by rw [h2];decide),Q3 (by rw [h3];decide)]
theorem Xwf{d:Dg}{a b:Int}{h:Bool}(h1:(spI d.ns a&&spI d.ns b)=true) : mtD d a b h=lkD d a b h:=Q4 h1
theorem Xub{d:Dg}{a b:Int}{h:Bool}(h1:(spI d.ns a&&spI d.ns b)=false) : mtD d a b h = { d with ws:=jnW d.ws a b h }:=Q3 (by rw [h1];decide)
theorem X3d{α:Type}{l:List α}{q:α→Bool}{j:Nat}{u:α}(hu:l[j]? = some u) : (l.take (j+1)).filter q=(l.take j).filter q++(if q u=true then [u] else []):=by
 rw [Qt,hu,Option.toList_some,List.filter_append]
 cases h:q u<;>simp [h]
theorem Xdh{α:Type}{l:List α}{q:α→Bool}{k:Nat}{u:α}(h:(l.take k).all q=true)(hu:l[k]? = some u)(hq:q u=true) : (l.take (k+1)).all q=true:=by
 rw [Qt,hu,Option.toList_some,List.all_append,h]
 simp [hq]
theorem Xd5{α:Type}{l:List α}{q:α→Bool}{k:Nat}{u:α}(hu:l[k]? = some u)(hq:q u=false) : l.all q=false:=by
 rw [List.all_eq_false]
 exact ⟨u,Qe hu,by rw [hq];decide⟩
theorem Xa8{α:Type}{l:List α}{q:α→Bool}{k:Nat}(h:(l.take k).all q=true)(hk:l.length≤k) : l.all q=true:=by rwa [Qi hk] at h
def rdQ(d:Dg)(l:List Int)(i:Nat) : Bool:=spI d.ns (l.getD i 0)&&(l.take i).all fun y=>tyW d.ws (l.getD i 0) y != 1
def rdyD(d:Dg)(l:List Int) : Bool:=(List.range l.length).all (rdQ d l)
def othW(ws:List Wr)(k c:Int) : List Int:=(nearW ws k).filter fun v=>v != c
def hadD(d:Dg)(k:Int) : Bool:=(nearW d.ws k).all fun v=>tyW d.ws k v==2
theorem X4k{q:Nat→Bool}{n k:Nat}(hk:k<n)(hq:q k=false) : (List.range n).all q=false:=by
 rw [List.all_eq_false]
 exact ⟨k,W2.2 hk,by rw [hq];decide⟩
theorem X3y{q:Nat→Bool}{n:Nat}(h:∀ j,j<n→q j=true) : (List.range n).all q=true:=W1.2 fun j hj=>h j (W2.1 hj)
theorem Xju{N:Nat}{w w':World}{A:Option Addr}{n c:Nat}(hg:w.grownBy w' (Value.slice A n c).ownBlock)(hb:∀ k,ownB A=some k→N≤k) : Keep (some (.base N)) w w':=
 ⟨hg.os,hg.tape,hg.output,hg.size,fun k hk=>hg.block k (by omega) fun e=>by rw [X4j] at e;have:=hb k e.symm;omega⟩
theorem X9t{N:Nat}{w w':World}{A:Option Addr}{n c:Nat}(hg:w.grownBy w' (Value.slice A n c).ownBlock)(hb:∀ k,ownB A=some k→N≤k)(hN:N≤w.heap.size) : Below N w w':=
 ⟨hg.os,hg.tape,hg.output,hg.size,fun k hk=>hg.block k (by omega) fun e=>by rw [X4j] at e;have:=hb k e.symm;omega⟩
def PhN(ns:List Nd) : Prop:=∀ x ∈ ns,0≤x.p∧x.p≤7
theorem X1s{ns:List Nd}(h:PhN ns)(k:Nat) : 0≤(ns.getD k nZ).p∧(ns.getD k nZ).p≤7:=by
 rw [Qa]
 cases hk:ns[k]? with
 | none=>exact ⟨by decide,by decide⟩
 | some x=>exact h x (Qe hk)
theorem Xjy{ns:List Nd}(h:PhN ns)(k:Nat){x:Nd}(hx:0≤x.p∧x.p≤7) : PhN (ns.set k x):=fun y hy=>by
 rcases List.mem_or_eq_of_mem_set hy with h1|h1
 ·exact h y h1
 ·rw [h1];exact hx
theorem X5y{ns:List Nd}(h:PhN ns)(k m:Int) : PhN (adN ns k m):=Xjy h _ ⟨by show 0≤_ % 8;omega,by show _ % 8≤7;omega⟩
theorem X54{ns:List Nd}(h:PhN ns)(k:Int) : PhN (dpN ns k):=Xjy h _ ⟨by decide,by decide⟩
theorem Xjc{n:Nat}{p q:Int}(h:(0≤p∧p.toNat<n)∧(0≤q∧q.toNat<n)) : 0≤min p q∧(min p q).toNat<n:=by
 rcases Int.le_total p q with h1|h1
 ·rw [Int.min_eq_left h1];exact h.1
 ·rw [Int.min_eq_right h1];exact h.2
theorem Xww{ns:List Nd}(h:PhN ns)(k:Nat){m:Int}(h0:0≤m)(h1:m≤900) : 0≤(ns.getD k nZ).p+m∧(ns.getD k nZ).p+m≤1000:=by have:=X1s h k;omega
theorem tm8{x:Int}(h:0≤x) : x.tmod 8=x % 8:=Int.tmod_eq_emod_of_nonneg h
theorem Xy5{x:Int}(h:0≤x+8) : (x+8).tmod 8=x % 8:=by rw [Int.tmod_eq_emod_of_nonneg h];omega
theorem X19{ns:List Nd}{k:Int}(h:spI ns k=true) : 0≤k∧k.toNat<ns.length∧(ns.getD k.toNat nZ).k=3:=by
 unfold spI at h
 rw [Qd] at h
 have h1:=X0f.1 h.1;exact ⟨h1.1,by omega,by simpa using h.2⟩
theorem Xop{ns:List Nd}(a m k:Int) : spI (adN ns a m) k=spI ns k:=by
 unfold spI
 rw [X21]
 congr 2
 unfold adN
 rw [Qa,Qa,List.getElem?_set]
 split
 ·rename_i h
  split
  ·rename_i h2
   rw [← h,Qc h2]
   simp [Qa,h2]
  ·rename_i h2
   rw [Qa,List.getElem?_eq_none (l:=ns) (i:=k.toNat) (by omega)]
 ·rw [Qa]
theorem Xpj(w0:World)(x:Wr)(y:Wr) : Ret Tryz.prog 106 [.agg #[vi x.a,vi x.b,.bool x.h],.agg #[vi y.a,vi y.b,.bool y.h]] w0 (fun v w=>v=.bool (wlt x y)∧Below w0.heap.size w0 w):=by
 refine enter Tryz.func106 rfl 24 rfl rfl ?_;intro a f
 have hW:=bz w0
 refine Zs f fun _ a8=>?_;refine Zf (X0c (zs:=[vi x.a,vi x.b,.bool x.h]) rfl rfl) ?_;rintro _ w1 ⟨b2,rfl,aA,hE,e⟩;have aD:=Q0 hW.size aA;have hW:=btr hW hE;refine Zf (X0c (zs:=[vi y.a,vi y.b,.bool y.h]) rfl rfl) ?_;rintro _ w2 ⟨b3,rfl,aB,hE,a6⟩
 have a7:b2≠b3:=by have:=e.lt;omega
 have aE:=Q0 hW.size aB;have e:=e.below hE;have hW:=btr hW hE;refine Za rfl<|ZX a8 fun a f _ aC=>?_;refine X0a (fun a w=>Fr a 24 [(4,.bool ((decide (x.a<y.a))||((x.a==y.a)&&(decide (x.b<y.b)))))]∧w2=w) ?_ ?_
 ·refine Zr f<|Ze (Vd rfl X0q 0)<|Ze (X0 rfl X9 (e.at 0))<|Ze (Vd rfl X0q 0)<|Ze (X0 rfl X9 (a6.at 0))<|Ze (X0l rfl rfl)<|Zm rfl ?_
  refine Zg 10 rfl (fun c=>?_) (fun c=>?_)
  ·refine Zp (gP c) ?_;refine Zp (gP c) ?_;refine Zp (gP c) ?_;refine Zp (gP c) ?_;refine Zp (gP c) ?_;refine Zp (gP c) ?_;refine Zp (gP trivial) ?_;refine Zp (gP trivial) ?_;refine Zp (gP trivial) ?_;refine Zp (gP trivial) ?_;refine Zp (gP trivial) ?_;refine Zp (gP c) ?_;refine Ze (X7 rfl c rfl)<|Za rfl ?_;refine Zn fun a f=>?_;exact ⟨f.sub ⟨X1 rfl (by first|rfl|(simp only [c,bs];done)|simp [c]),trivial⟩,rfl⟩
  refine Zv (gW c) (Vd rfl X0q 0) ?_;refine Zv (gW c) (X0 rfl X9 (e.at 0)) ?_;refine Zv (gW c) (Vd rfl X0q 0) ?_;refine Zv (gW c) (X0 rfl X9 (a6.at 0)) ?_;refine Zv (gW c) (X0b rfl rfl) ?_;refine Zv (gW c) (X3 rfl) ?_
  refine Zg 16 rfl (fun d=>?_) (fun d=>?_)
  ·refine Zv (gW d) (Vd rfl X0u 1) ?_;refine Zv (gW d) (X0 rfl X9 (e.at 1)) ?_;refine Zv (gW d) (Vd rfl X0u 1) ?_;refine Zv (gW d) (X0 rfl X9 (a6.at 1)) ?_;refine Zv (gW d) (X0l rfl rfl) ?_;refine Zv (gW c) (X7 rfl d rfl) ?_;refine Ze (Xe rfl c rfl)<|Za rfl ?_;refine Zn fun a f=>?_;exact ⟨f.sub ⟨X1 rfl (by first|rfl|(simp only [c,d,bs];done)|simp [c,d]),trivial⟩,rfl⟩
  refine Zp (gP d) ?_;refine Zp (gP d) ?_;refine Zp (gP d) ?_;refine Zp (gP d) ?_;refine Zp (gP d) ?_;refine Zv (gW c) (Xe rfl d rfl) ?_;refine Ze (Xe rfl c rfl)<|Za rfl ?_;refine Zn fun a f=>?_;exact ⟨f.sub ⟨X1 rfl (by first|rfl|(simp only [c,d,bs];done)|simp [c,d]),trivial⟩,rfl⟩
 rintro a _ ⟨f,rfl⟩;refine aC _ _ ?_
 refine Q6 (X4 f (Xt f rfl rfl) ?_)
 exact ⟨rfl,hW⟩
theorem Xdy(A:World)(Al:Option Addr)(cl:Nat)(l:List Wr)(B:Rd A A.heap.size 83 encWr Al l)(p:Int)(q:Int)(aQ:l.length≤1000000000) : Ret Tryz.prog 132 [.slice Al l.length cl,vi p,vi q] A (fun v w=>v=vi (fdW l p q)∧Below A.heap.size A w):=by
 refine enter Tryz.func132 rfl 32 rfl rfl ?_;intro a d
 have g:=bz A
 refine Zs d fun _ aI=>?_;refine Za rfl<|ZX aI fun a d _ aJ=>?_;refine Zs d fun _ aK=>?_;refine Zm rfl<|Ze (X0d rfl Xx)<|Zm rfl<|Zt aK fun a d=>?_;refine Q8<|X01 (σ:=Nat) (fun (k:Nat) (a:Act) (w:World)=>Fr a 32 [(1,vi p),(2,vi q),(9,.slice Al l.length cl),(10,vi (l.length:Int)),(11,vi (k:Int))]∧(k≤l.length)∧(((l.take k).all fun x=>!isW p q x)=true)∧Below A.heap.size A w) (fun (k:Nat)=>l.length-k) 0 ?_ ?_
 ·exact ⟨d.sb,(Qf _),(by simp),g⟩
 rintro k a w1 ⟨d,hk,o,g⟩;refine Zs d fun _ aL=>?_;refine Ze (X0l rfl rfl)<|ZX aL fun a d _ aM=>?_
 refine Xg d rfl (fun f=>?_) (fun f=>?_)
 ·have i:=f;have f:=Q2 f
  obtain ⟨u8,aR⟩:=X5 (l:=l) (k:=k) (by omega)
  obtain ⟨t,a6⟩:=X5 (l:=l) (k:=k) (by have:=f;omega)
  refine Q7<|aM _ _<|Q5 fun _ aN=>?_;refine Q8<|Zs d fun _ aC=>?_;refine Zm rfl<|Zi (k:=k) (u:=t) (enc:=encWr) (l:=l) trivial rfl rfl Xx X0e Xy (B.below' g) a6 rfl ?_;intro aS a7;refine Ze (X04 (l:=[vi t.a,vi t.b,.bool t.h]) rfl X1i a7 rfl)<|Zf (Xu (zs:=[vi 0,vi 0,.bool false]) X2y rfl) ?_;rintro _ w2 ⟨aT,rfl,C,m,e⟩;have a8:=Q0 g.size C;have aD:=(B.below' g).away C;have g:=btr g m;refine Za rfl<|Zo (Vw [vi t.a,vi t.b,.bool t.h] X0e e) ?_;rintro _ w3 ⟨ho,hb⟩;have aP:=e;have g:=Below.only g ho a8;have e:=hb;refine ZX aC fun a d _ aE=>?_;refine X0a (fun a w=>Fr a 32 [(1,vi p),(2,vi q),(7,vi (k:Int)),(9,.slice Al l.length cl),(10,vi (l.length:Int)),(11,vi (k:Int)),(29,.bool ((t.a==(min p q))&&(t.b==(max p q))))]∧Below w3.heap.size w3 w) ?_ ?_
  ·have n:Below w3.heap.size w3 w3:=Below.refl _ _
   refine X05 none (fun _=>false) mixed ?_;intro w4 m;have e:=e.below m;have g:=btr g m;have n:=btr n m;refine Yb d<|Yo 0 rfl (fun _=>Vd rfl X0q 0)<|Ye 1 rfl (X0 rfl X9 (e.at 0))<|Yo 2 rfl (fun _=>X3 rfl)<|Yo 3 rfl (fun _=>X3 rfl)<|Y1 4 ?_;refine Yk rfl trivial (Vc (Xk9 _ p q) Xax) (fun _ _ ⟨_,m⟩=>m) ?_;rintro _ w5 ⟨rfl,m⟩;have e:=e.below m;have g:=btr g m;have n:=btr n m;refine Yo 5 rfl (fun _=>X0b rfl rfl)<|Yo 6 rfl (fun _=>X3 rfl) ?_
   refine Yl 22 rfl (fun c=>?_) (fun c=>?_)
   ·refine Yu 7 rfl (gW c) (fun _=>Vd rfl X0u 1) ?_;refine Yv 8 rfl (gW c) (X0 rfl X9 (e.at 1)) ?_;refine Yu 9 rfl (gW c) (fun _=>X3 rfl) ?_;refine Yu 10 rfl (gW c) (fun _=>X3 rfl) ?_;refine Y1 11<|Yz rfl ⟨_,_,rfl,rfl,c⟩ (Vc (Xtz _ p q) Xib) ?_;refine Yu 12 rfl (gW c) (fun _=>X0b rfl rfl) ?_;refine Yo 13 rfl (fun _=>X7 rfl c rfl) ?_;refine Yd fun a d=>?_
    have aA:Below w3.heap.size w3 w5:=n
    exact ⟨d.sub ⟨rfl,rfl,rfl,rfl,rfl,rfl,X1 rfl (by first|rfl|(simp only [i,c,bs];done)|simp [i,c]),trivial⟩,aA⟩
   refine Yp 7 rfl (gP c) ?_;refine Yp 8 rfl (gP c) ?_;refine Yp 9 rfl (gP c) ?_;refine Yp 10 rfl (gP c) ?_;refine Y1 11<|Yq rfl ⟨_,_,rfl,rfl,c⟩ ?_;refine Yp 12 rfl (gP c) ?_;refine Yo 13 rfl (fun _=>Xe rfl c rfl) ?_;refine Yd fun a d=>?_
   have aA:Below w3.heap.size w3 w5:=n
   exact ⟨d.sub ⟨rfl,rfl,rfl,rfl,rfl,rfl,X1 rfl (by first|rfl|(simp only [i,c,bs];done)|simp [i,c]),trivial⟩,aA⟩
  rintro a w6 ⟨d,m⟩;have g:=btr g m;refine aE _ _ ?_
  refine Xg d rfl (fun j=>?_) (fun j=>?_)
  ·have aB:=j
   have aF:isW p q t=true:=j
   have y:fdW l p q=(k:Int):=X7r o a6 aF
   refine Zs d fun _ aG=>?_;refine Zm rfl<|Za rfl<|Zt aG fun a d=>?_;refine Q6<|Xq<|X6<|X6 ?_;refine Xq<|X6<|X4 d (Xt d rfl rfl) ?_;exact ⟨by rw [y],g⟩
  have aB:=j
  have aO:isW p q t=false:=j
  refine Q7<|Xa<|aN _ _<|Zr d ?_;refine Ze (Xw rfl rfl (by omega) (by omega))<|Zm rfl ?_;refine Zn fun a d=>?_;refine Xh ?_;exact ⟨k+1,⟨d.sb,(by omega),(X6d o a6 aO),g⟩,(by omega)⟩
 have i:=f;have f:=Q1 f
 have y:fdW l p q = -1:=X7y o (by have:=f;omega)
 refine Q9<|Xk<|Xk<|X03 ?_;refine aJ _ _<|Zs d fun _ aH=>?_;refine Za rfl<|Zt aH fun a d=>?_
 refine Q6 (X4 d (Xt d rfl rfl) ?_)
 exact ⟨by rw [y],g⟩
theorem X94(B:World)(Al:Option Addr)(cl:Nat)(l:List Wr)(m:Rd B B.heap.size 83 encWr Al l)(p:Int)(q:Int)(x:Bool)(b3:l.length≤1000000000)(aB:l.length≤cl) : Ret Tryz.prog 134 [.slice Al l.length cl,vi p,vi q,.bool x] B (fun v w=>∃ A c,v=.slice A (jnW l p q x).length c∧Own w B.heap.size 83 3 encWr A c (jnW l p q x)∧Below B.heap.size B w):=by
 refine enter Tryz.func134 rfl 48 rfl rfl ?_;intro a i
 have f:=bz B
 refine Zs i fun _ aR=>?_;refine Za rfl<|Zx aR fun a i _ aS=>?_;refine Zm rfl<|Zm rfl<|Zf (Vc (Xk9 _ p q) Xax) ?_;rintro _ w1 ⟨rfl,j⟩;have f:=btr f j;refine Zm rfl<|Zm rfl<|Zf (Vc (Xtz _ p q) Xib) ?_;rintro _ _ ⟨rfl,rfl⟩;refine Zm rfl<|Ze (X0w (ps:=[(0,vi (min p q)),(1,vi (max p q)),(2,.bool x)]) (cs:=[vi (min p q),vi (max p q),.bool x]) rfl (fun _=>by first|rfl|kernel_rfl))<|Zf (Xu (zs:=[vi 0,vi 0,.bool false]) X2y rfl) ?_;rintro _ w2 ⟨b5,rfl,aC,j,e⟩;have aD:=Q0 f.size aC;have aQ:=(m.below' f).away aC;have f:=btr f j;refine Zo (Vw [vi (min p q),vi (max p q),.bool x] X0e e) ?_;rintro _ w3 ⟨ho,hb⟩;have b2:=e;have f:=Below.only f ho aD;have e:=hb;refine Zx aS fun a i _ aT=>?_;refine Za rfl<|ZX aT fun a i _ aU=>?_;refine Q8<|X01 (σ:=Nat) (fun (k:Nat) (a:Act) (w:World)=>Fr a 48 [(0,.slice Al l.length cl),(9,.pointer (some ⟨b5,0,none⟩)),(10,vi (k:Int))]∧(k≤l.length)∧(((l.take k).all fun y=>wlt y ⟨min p q,max p q,x⟩)=true)∧Blk w b5 83 [vi (min p q),vi (max p q),.bool x]∧Below B.heap.size B w) (fun (k:Nat)=>l.length-k) 0 ?_ ?_
 ·exact ⟨i.sb,(Qf _),rfl,e,f⟩
 rintro k a w4 ⟨i,hk,L,e,f⟩;refine Q5 fun _ aW=>?_;refine Q5 fun _ aX=>?_;refine X0a (fun a w=>Fr a 48 [(0,.slice Al l.length cl),(9,.pointer (some ⟨b5,0,none⟩)),(10,vi (k:Int)),(31,.bool (decide ((k:Int)<(l.length:Int))&&wlt (l.getD k wZ) ⟨min p q,max p q,x⟩))]∧Below w4.heap.size w4 w) ?_ ?_
 ·have C:Below w4.heap.size w4 w4:=Below.refl _ _
  refine X05 none (fun _=>false) mixed ?_;intro w5 j;have e:=e.below j;have f:=btr f j;have C:=btr C j;refine Yb i<|Yo 0 rfl (fun _=>X3 rfl)<|Yo 1 rfl (fun _=>X3 rfl)<|Yo 2 rfl (fun _=>X0d rfl Xx)<|Yo 3 rfl (fun _=>X0l rfl rfl)<|Yo 4 rfl (fun _=>X3 rfl) ?_
  refine Yl 24 rfl (fun d=>?_) (fun d=>?_)
  ·refine Yu 5 rfl (gW d) (fun _=>X3 rfl) ?_;refine Yu 6 rfl (gW d) (fun _=>X3 rfl) ?_;refine Yi (k:=k) (u:=(l.getD k wZ)) (enc:=encWr) (l:=l) 7 rfl ⟨_,_,rfl,rfl,d⟩ rfl rfl Xx X0e Xy (m.below' f) (Xm2 (by assumption)) rfl ?_;intro b4 a6;refine Yv 8 rfl (gW d) (X04 (l:=[vi ((l.getD k wZ).a),vi ((l.getD k wZ).b),.bool ((l.getD k wZ).h)]) rfl X1i a6 rfl) ?_;refine Yv 9 rfl (gW d) (Vn X1i e) ?_;refine Y1 10<|Yk rfl ⟨_,_,rfl,rfl,d⟩ (Vc (Xpj _ (l.getD k wZ) (⟨min p q,max p q,x⟩ : Wr)) Xfc) (fun _ _ ⟨_,j⟩=>j) ?_;rintro _ w6 ⟨rfl,j⟩;have f:=btr f j;have C:=btr C j;refine Yo 11 rfl (fun _=>X7 rfl d rfl) ?_;refine Yd fun a i=>?_
   have a7:Below w4.heap.size w4 w6:=C
   exact ⟨i.sub ⟨rfl,rfl,rfl,X1 rfl (by first|rfl|(simp only [d,bs];done)|simp [d]),trivial⟩,a7⟩
  refine Yp 5 rfl (gP d) ?_;refine Yp 6 rfl (gP d) ?_;refine Yp 7 rfl (gP d) ?_;refine Yp 8 rfl (gP d) ?_;refine Yp 9 rfl (gP d) ?_;refine Y1 10<|Yq rfl ⟨_,_,rfl,rfl,d⟩ ?_;refine Yo 11 rfl (fun _=>Xe rfl d rfl) ?_;refine Yd fun a i=>?_
  have a7:Below w4.heap.size w4 w5:=C
  exact ⟨i.sub ⟨rfl,rfl,rfl,X1 rfl (by first|rfl|(simp only [d,bs];done)|simp [d]),trivial⟩,a7⟩
 rintro a w7 ⟨i,j⟩;have e:=e.below j;have f:=btr f j;refine aX _ _ ?_
 refine Xg i rfl (fun o=>?_) (fun o=>?_)
 ·have a8:=o;obtain ⟨aY,b6⟩:=Xnd L o;refine Q7<|aW _ _<|Q8<|Zr i ?_;refine Zm rfl<|Ze (Xw rfl rfl (by omega) (by omega))<|Za rfl ?_;refine Zn fun a i=>?_;refine Xa<|Xh ?_;exact ⟨k+1,⟨i.sb,(by omega),aY,e,f⟩,(by omega)⟩
 have a8:=o
 have aE:jnW l p q x=_:=Xng L o
 refine Q9<|Xk<|Xk<|X03 ?_;refine aU _ _<|Zs i fun _ aF=>?_;refine Zf (Xm (k:=0) (vs:=[]) (zs:=[]) rfl Xx X14 rfl rfl) ?_;rintro _ w8 ⟨b15,rfl,M,j,N⟩
 have aG:b5≠b15:=by have:=e.lt;omega
 have E:=Q0 f.size M;have aH:=(m.below' f).away M;have e:=e.below j;have f:=btr f j;refine Zm rfl<|Zm rfl ?_;have aI:=((m.below' f).top).takeK Xy k;refine Ze (X2x (l:=l) (k:=k) rfl rfl Xx X0e rfl hk aB)<|Zf (X0m (enc:=encWr) (l:=([] : List Wr)) (l2:=((l.take k))) (B0:=B.heap.size) rfl rfl Xx X14 Xy X1o (Own.empty N E) aI (by simp only [maxLen];simp;omega) (by simp;omega) f.size) ?_;rintro _ w9 ⟨b7,b8,rfl,n,J,t⟩
 have g:Own _ B.heap.size 83 3 encWr _ _ ([] : List Wr):=(Own.empty N E)
 have G:=t _ e.lt (Away.ne (by omega))
 clear t;have e:=e.appA J (Away.ne (by omega));have f:=Below.app f g J (Qb _) f.size;clear g J
 simp only [List.nil_append] at n
 refine Za rfl<|Zx aF fun a i _ aJ=>?_;refine Zm rfl<|Ze (Vn X1i e)<|Zf (Xm (k:=1) (vs:=[.agg #[vi (min p q),vi (max p q),.bool x]]) (zs:=[vi (min p q),vi (max p q),.bool x]) rfl Xx X14 rfl rfl) ?_;rintro _ b9 ⟨b20,rfl,H,j,I⟩
 have aK:b5≠b20:=by have:=e.lt;omega
 have aZ:=Q0 f.size H;have aL:=(m.below' f).away H;have D:=n.away H;have e:=e.below j;have n:=n.below j;have f:=btr f j;refine Zf (X0m (enc:=encWr) (l:=((l.take k))) (l2:=([(⟨min p q,max p q,x⟩ : Wr)])) (B0:=B.heap.size) rfl rfl Xx X14 Xy X1o n (Rd.of_blk I rfl _ I.lt) (by simp only [maxLen];simp;omega) (by simp;omega) f.size) ?_;rintro _ bA ⟨bB,bC,rfl,Q,J,t⟩
 have g:Own _ B.heap.size 83 3 encWr _ _ ((l.take k)):=n
 have aM:=t _ e.lt G;have aA:=t _ I.lt D;clear t;have f:=Below.app f g J (Qb _) f.size;clear g J;refine Za rfl<|Zx aJ fun a i _ aN=>?_;refine Zm rfl<|Zm rfl<|Zm rfl ?_;have aO:=((m.below' f).top).dropK Xy (c:=cl) aB k;refine Ze (X6z (l:=l) (k:=k) rfl rfl Xx X0e rfl hk)<|Zf (X0m (enc:=encWr) (l:=((l.take k)++([(⟨min p q,max p q,x⟩ : Wr)]))) (l2:=((l.drop k))) (B0:=B.heap.size) rfl rfl Xx X14 Xy X1o Q aO (by simp only [maxLen];simp;omega) (by simp;omega) f.size) ?_;rintro _ bD ⟨b0,b1,rfl,aP,J,t⟩
 have g:Own _ B.heap.size 83 3 encWr _ _ ((l.take k)++([(⟨min p q,max p q,x⟩ : Wr)])):=Q
 clear t;have f:=Below.app f g J (Qb _) f.size;clear g J;refine Za rfl<|Zt aN fun a i=>?_
 refine Q6 (X4 i (Xt i rfl rfl) ?_)
 rw [aE]
 exact ⟨b0,b1,rfl,aP,f⟩
theorem Xeh(e:World)(Al:Option Addr)(cl:Nat)(l:List Wr)(f:Rd e e.heap.size 83 encWr Al l)(p:Int)(aL:l.length≤1000000000)(a8:l.length≤cl)(aM:0≤p∧p<(l.length:Int)) : Ret Tryz.prog 133 [.slice Al l.length cl,vi p] e (fun v w=>∃ A c,v=.slice A (ctW l p.toNat).length c∧Own w e.heap.size 83 3 encWr A c (ctW l p.toNat)∧Below e.heap.size e w):=by
 refine enter Tryz.func133 rfl 17 rfl rfl ?_;intro a hf
 have d:=bz e
 refine Zs hf fun _ aF=>?_;refine Za rfl<|Zx aF fun a hf _ aG=>?_;refine Zf (Xm (k:=0) (vs:=[]) (zs:=[]) rfl Xx X14 rfl rfl) ?_;rintro _ w1 ⟨b5,rfl,aA,hE,aB⟩;have g:=Q0 d.size aA;have aE:=(f.below' d).away aA;have d:=btr d hE;refine Zm rfl<|Zm rfl ?_;have aH:=((f.below' d).top).takeK Xy p.toNat;refine Ze (X2x (l:=l) (k:=p.toNat) rfl rfl Xx X0e (by omega) (by omega) a8)<|Zf (X0m (enc:=encWr) (l:=([] : List Wr)) (l2:=((l.take p.toNat))) (B0:=e.heap.size) rfl rfl Xx X14 Xy X1o (Own.empty aB g) aH (by simp only [maxLen];simp;omega) (by simp;omega) d.size) ?_;rintro _ w2 ⟨A8,c8,rfl,a6,hg,a7⟩
 have b:Own _ e.heap.size 83 3 encWr _ _ ([] : List Wr):=(Own.empty aB g)
 clear a7;have d:=Below.app d b hg (Qb _) d.size;clear b hg
 simp only [List.nil_append] at a6
 refine Za rfl<|Zx aG fun a hf _ aI=>?_;refine Zm rfl<|Zm rfl<|Zm rfl<|Ze (Xw rfl rfl (by omega) (by omega)) ?_;have aC:=((f.below' d).top).dropK Xy (c:=cl) a8 (p.toNat+1);refine Ze (X6z (l:=l) (k:=(p.toNat+1)) rfl rfl Xx X0e (by omega) (by omega))<|Zf (X0m (enc:=encWr) (l:=((l.take p.toNat))) (l2:=((l.drop (p.toNat+1)))) (B0:=e.heap.size) rfl rfl Xx X14 Xy X1o a6 aC (by simp only [maxLen];simp;omega) (by simp;omega) d.size) ?_;rintro _ w3 ⟨aJ,aK,rfl,aD,hg,a7⟩
 have b:Own _ e.heap.size 83 3 encWr _ _ ((l.take p.toNat)):=a6
 clear a7;have d:=Below.app d b hg (Qb _) d.size;clear b hg;refine Za rfl<|Zt aI fun a hf=>?_
 refine Q6 (X4 hf (Xt hf rfl rfl) ?_)
 exact ⟨aJ,aK,rfl,aD,d⟩
theorem X9e(x:World)(d:Dg)(md:Nat)(o:md=d.ns.length)(Ad:Option Addr)(cd:Nat)(a6:Nat)(b:Own x a6 81 2 encNd Ad cd d.ns)(aJ:a6≤x.heap.size)(Bd:Option Addr)(dd:Nat)(c:Rd x x.heap.size 83 encWr Bd d.ws)(a7:d.ws.length≤dd)(p:Int)(q:Int)(a8:0≤p∧p.toNat<d.ns.length)(aE:0≤(d.ns.getD p.toNat nZ).p+q∧(d.ns.getD p.toNat nZ).p+q≤1000) : Ret Tryz.prog 211 [.agg #[vi d.n,.slice Ad md cd,.slice Bd d.ws.length dd,vi d.t,vi d.r],vi p,vi q] x (fun v w=>∃ A' c',v=.agg #[vi ({ d with ns:=adN d.ns p q } : Dg).n,.slice Ad md cd,.slice A' ({ d with ns:=adN d.ns p q } : Dg).ws.length c',vi ({ d with ns:=adN d.ns p q } : Dg).t,vi ({ d with ns:=adN d.ns p q } : Dg).r]∧Own w a6 81 2 encNd Ad cd ({ d with ns:=adN d.ns p q } : Dg).ns∧Rd w w.heap.size 83 encWr A' ({ d with ns:=adN d.ns p q } : Dg).ws∧({ d with ns:=adN d.ns p q } : Dg).ws.length≤c'∧md=({ d with ns:=adN d.ns p q } : Dg).ns.length∧x.grownBy w (Value.slice Ad d.ns.length cd).ownBlock):=by
 refine enter Tryz.func211 rfl 22 rfl rfl ?_;intro a y
 have m:x.grownBy x (Value.slice Ad d.ns.length cd).ownBlock:=World.grownBy.refl _ _
 refine Zs y fun _ aF=>?_;refine Zf (X0c (zs:=[vi d.n,.slice Ad md cd,.slice Bd d.ws.length dd,vi d.t,vi d.r]) rfl rfl) ?_;rintro _ w1 ⟨b4,rfl,aG,g,e⟩;have aK:=Q0 m.size aG;have b:=b.below g;have c:=c.below g;have m:=gbel m g;refine Zf (Xu (zs:=[vi 0,.slice none 0 0,.slice none 0 0,vi 0,vi 0]) X0s rfl) ?_;rintro _ w2 ⟨b7,rfl,aH,g,f⟩
 have aD:b4≠b7:=by have:=e.lt;omega
 have aA:=Q0 m.size aH;have e:=e.below g;have b:=b.below g;have c:=c.below g;have m:=gbel m g;refine ZX aF fun a y _ aI=>?_;refine X05 none (fun j=>[14].contains j) mixed ?_;intro w3 g;have e:=e.below g;have f:=f.below g;have b:=b.below g;have c:=c.below g;have m:=gbel m g;refine Yb y<|Yo 0 rfl (fun _=>Vd rfl Xj 1)<|Ye 1 rfl (X0 rfl X00 (e.at 1))<|Yo 2 rfl (fun _=>X3 rfl)<|Yo 3 rfl (fun _=>Vd rfl Xj 1)<|Ye 4 rfl (X0 rfl X00 (e.at 1))<|Yo 5 rfl (fun _=>X3 rfl)<|Yj (k:=p.toNat) (u:=(d.ns.getD p.toNat nZ)) (enc:=encNd) (l:=d.ns) 6 rfl trivial rfl o rfl Xs X07 Xv b.rd (Xb a8.2) (by omega) ?_;intro aL aB;refine Yo 7 rfl (fun _=>X23 rfl X06)<|Ye 8 rfl (X0 rfl X9 (aB.drop 1))<|Yo 9 rfl (fun _=>X3 rfl)<|Yo 10 rfl (fun _=>Xw rfl rfl (by omega) (by omega))<|Yo 11 rfl (fun _=>Vx (X4v rfl rfl rfl) (tm8 aE.1))<|Yo 12 rfl (fun _=>Xi (k:=p.toNat) rfl rfl Xs X07 b o (by omega) (by omega))<|Yo 13 rfl (fun _=>X15 rfl X06 (m':=p.toNat*2+1) rfl)<|Y1 14 ?_;refine Yh rfl trivial rfl (X0h (enc:=encNd) (l:=d.ns) (vs:=[vi (((d.ns.getD p.toNat nZ).p+q) % 8)]) (x0:=(d.ns.getD p.toNat nZ)) (u:=(⟨(d.ns.getD p.toNat nZ).k,(((d.ns.getD p.toNat nZ).p+q) % 8)⟩ : Nd)) (k:=p.toNat) (j:=1) (n1:=1) rfl rfl X08 b Xv rfl rfl rfl rfl (by decide) (Xb a8.2) rfl) ?_;rintro _ w4 ⟨h,hg⟩;have i:=b;have e:=e.appT i hg rfl;have f:=f.appT i hg rfl;have c:=c.appT i hg rfl;have m:=gtr m hg
 clear i hg;clear b;have b:=h;clear h;refine Yd fun a y=>?_;refine aI _ _<|Zs y fun _ aC=>?_;refine Ze (Vn X2 e)<|Zo (Vw [vi d.n,.slice Ad md cd,.slice Bd d.ws.length dd,vi d.t,vi d.r] Xp f) ?_;rintro _ w5 ⟨ho,hb⟩;have A:=f;have c:=c.onlyT ho A rfl;have b:=b.onlyT ho A rfl;have m:=gonly m ho aA;have f:=hb;refine Zt aC fun a y=>?_
 refine Q6 (X4 y (Xt y rfl (ResV.cellN (l:=[vi d.n,.slice Ad md cd,.slice Bd d.ws.length dd,vi d.t,vi d.r]) rfl X2 (f.at 0) rfl)) ?_)
 exact ⟨Bd,dd,rfl,b,c.top,a7,o.trans (X21 _ _ _).symm,m⟩
theorem X99(p:World)(d:Dg)(md:Nat)(a7:md=d.ns.length)(Ad:Option Addr)(cd:Nat)(G:Rd p p.heap.size 81 encNd Ad d.ns)(Bd:Option Addr)(dd:Nat)(H:Rd p p.heap.size 83 encWr Bd d.ws)(aL:d.ws.length≤dd)(aM:d.ns.length≤1000000000∧d.ws.length≤1000000000) : Ret Tryz.prog 82 [.agg #[vi d.n,.slice Ad md cd,.slice Bd d.ws.length dd,vi d.t,vi d.r]] p (fun v w=>∃ A c B e,v=.agg #[vi d.n,.slice A d.ns.length c,.slice B d.ws.length e,vi d.t,vi d.r]∧Own w p.heap.size 81 2 encNd A c d.ns∧Own w p.heap.size 83 3 encWr B e d.ws∧Below p.heap.size p w):=by
 subst a7
 refine enter Tryz.func82 rfl 14 rfl rfl ?_;intro a hf
 have j:=bz p
 refine Zs hf fun _ aH=>?_;refine Zf (X0c (zs:=[vi d.n,.slice Ad d.ns.length cd,.slice Bd d.ws.length dd,vi d.t,vi d.r]) rfl rfl) ?_;rintro _ w1 ⟨b4,rfl,aI,q,b⟩;have I:=Q0 j.size aI;have j:=btr j q;refine Zf (Xu (zs:=[vi 0,.slice none 0 0,.slice none 0 0,vi 0,vi 0]) X0s rfl) ?_;rintro _ w2 ⟨b7,rfl,aJ,q,g⟩
 have aF:b4≠b7:=by have:=b.lt;omega
 have a8:=Q0 j.size aJ;have b:=b.below q;have j:=btr j q;refine Zx aH fun a hf _ aK=>?_;refine Zf (Xm (k:=0) (vs:=[]) (zs:=[]) rfl Xs X1p rfl rfl) ?_;rintro _ w3 ⟨b9,rfl,aA,q,aB⟩;have J:=Q0 j.size aA;have aG:=(G.below' j).away aA;have b:=b.below q;have g:=g.below q;have j:=btr j q;refine Ze (Vd rfl Xj 1)<|Ze (X0 rfl X00 (b.at 1))<|Zf (X0m (enc:=encNd) (l:=([] : List Nd)) (l2:=(d.ns)) (B0:=p.heap.size) rfl rfl Xs X1p Xv X2o (Own.empty aB J) (G.below' j) (by simp only [maxLen];simp;omega) (by simp;omega) j.size) ?_;rintro _ w4 ⟨u,x,rfl,f,E,a6⟩
 have i:Own _ p.heap.size 81 2 encNd _ _ ([] : List Nd):=(Own.empty aB J)
 clear a6;have b:=b.appT i E rfl;have g:=g.appT i E rfl;have j:=Below.app j i E (Qb _) j.size;clear i E
 simp only [List.nil_append] at f
 refine Ze (Vd rfl Xj 1)<|Zo (Vu (vs:=[.slice u d.ns.length x]) (l':=[vi d.n,.slice u d.ns.length x,.slice Bd d.ws.length dd,vi d.t,vi d.r]) rfl rfl X3s b) ?_;rintro _ w5 ⟨y,hb⟩;have m:=b;have g:=g.only y (by omega);have f:=f.onlyT y m rfl;have j:=Below.only j y I;have b:=hb;refine Zx aK fun a hf _ aC=>?_;refine Zf (Xm (k:=0) (vs:=[]) (zs:=[]) rfl Xx X14 rfl rfl) ?_;rintro _ w6 ⟨aN,rfl,L,q,M⟩;have h:=Q0 j.size L;have aD:=(H.below' j).away L;have b:=b.below q;have g:=g.below q;have f:=f.below q;have j:=btr j q;refine Ze (Vd rfl Xr 2)<|Ze (X0 rfl X0j (b.at 2))<|Zf (X0m (enc:=encWr) (l:=([] : List Wr)) (l2:=(d.ws)) (B0:=p.heap.size) rfl rfl Xx X14 Xy X1o (Own.empty M h) (H.below' j) (by simp only [maxLen];simp;omega) (by simp;omega) j.size) ?_;rintro _ w7 ⟨C,D,rfl,o,E,a6⟩
 have i:Own _ p.heap.size 83 3 encWr _ _ ([] : List Wr):=(Own.empty M h)
 clear a6;have b:=b.appT i E rfl;have g:=g.appT i E rfl;have f:=f.appT i E rfl;have j:=Below.app j i E (Qb _) j.size;clear i E
 simp only [List.nil_append] at o
 refine Ze (Vd rfl Xr 2)<|Zo (Vu (vs:=[.slice C d.ws.length D]) (l':=[vi d.n,.slice u d.ns.length x,.slice C d.ws.length D,vi d.t,vi d.r]) rfl rfl X1l b) ?_;rintro _ w8 ⟨y,hb⟩;have m:=b;have g:=g.only y (by omega);have f:=f.onlyT y m rfl;have o:=o.onlyT y m rfl;have j:=Below.only j y I;have b:=hb;refine Zx aC fun a hf _ aE=>?_;refine Ze (Vn X2 b)<|Zo (Vw [vi d.n,.slice u d.ns.length x,.slice C d.ws.length D,vi d.t,vi d.r] Xp g) ?_;rintro _ w9 ⟨y,hb⟩;have m:=g;have f:=f.onlyT y m rfl;have o:=o.onlyT y m rfl;have j:=Below.only j y a8;have g:=hb;refine Zt aE fun a hf=>?_
 refine Q6 (X4 hf (Xt hf rfl (ResV.cellN (l:=[vi d.n,.slice u d.ns.length x,.slice C d.ws.length D,vi d.t,vi d.r]) rfl X2 (g.at 0) rfl)) ?_)
 exact ⟨u,x,C,D,rfl,f,o,j⟩
theorem X5t(e:World)(d:Dg)(md:Nat)(f:md=d.ns.length)(Ad:Option Addr)(cd:Nat)(a6:Rd e e.heap.size 81 encNd Ad d.ns)(Bd:Option Addr)(dd:Nat)(aD:Rd e e.heap.size 83 encWr Bd d.ws)(aE:d.ws.length≤dd)(p:Int)(hN:md≤1000) : Ret Tryz.prog 78 [.agg #[vi d.n,.slice Ad md cd,.slice Bd d.ws.length dd,vi d.t,vi d.r],vi p] e (fun v w=>v=.bool (spI d.ns p)∧Below e.heap.size e w):=by
 refine enter Tryz.func78 rfl 20 rfl rfl ?_;intro a c
 have hW:=bz e
 refine Zs c fun _ aA=>?_;refine Zf (X0c (zs:=[vi d.n,.slice Ad md cd,.slice Bd d.ws.length dd,vi d.t,vi d.r]) rfl rfl) ?_;rintro _ w1 ⟨b4,rfl,aB,hE,a7⟩;have aF:=Q0 hW.size aB;have hW:=btr hW hE;refine Za rfl<|ZX aA fun a c _ aC=>?_;refine X0a (fun a w=>Fr a 20 [(4,.bool ((inR p 0 ((md:Int)-1))&&(((d.ns.getD p.toNat nZ).k)==3)))]∧w1=w) ?_ ?_
 ·refine Zr c<|Zm rfl<|Ze (Vd rfl Xj 1)<|Ze (X0 rfl X00 (a7.at 1))<|Ze (X0d rfl Xs)<|Ze (X1g rfl rfl (by omega) (by omega))<|Zf (Vc (F85 _ p 0 ((md:Int)-1)) X3r) ?_;rintro _ _ ⟨rfl,rfl⟩;refine Zm rfl ?_
  refine Zg 11 rfl (fun b=>?_) (fun b=>?_)
  ·have aG:=X0f.1 b;refine Zv (gW b) (Vd rfl Xj 1) ?_;refine Zv (gW b) (X0 rfl X00 (a7.at 1)) ?_;refine Zv (gW b) (X3 rfl) ?_;refine Zj (k:=p.toNat) (u:=(d.ns.getD p.toNat nZ)) (enc:=encNd) (l:=d.ns) ⟨_,_,rfl,rfl,b⟩ rfl f rfl Xs X07 Xv (a6.below' hW) (Xb (by omega)) (by omega) ?_;intro p8 a8;refine Zv (gW b) (X23 rfl X13) ?_;refine Zv (gW b) (X0 rfl X9 (a8.drop 0)) ?_;refine Zv (gW b) (X0b rfl rfl) ?_;refine Ze (X7 rfl b rfl)<|Za rfl ?_;refine Zn fun a c=>?_;exact ⟨c.sub ⟨X1 rfl (by first|rfl|(simp only [b,bs];done)|simp [b]),trivial⟩,rfl⟩
  refine Zp (gP b) ?_;refine Zp (gP b) ?_;refine Zp (gP b) ?_;refine Zp (gP b) ?_;refine Zp (gP b) ?_;refine Zp (gP b) ?_;refine Zp (gP b) ?_;refine Ze (Xe rfl b rfl)<|Za rfl ?_;refine Zn fun a c=>?_;exact ⟨c.sub ⟨X1 rfl (by first|rfl|(simp only [b,bs];done)|simp [b]),trivial⟩,rfl⟩
 rintro a _ ⟨c,rfl⟩;refine aC _ _ ?_
 refine Q6 (X4 c (Xt c rfl rfl) ?_)
 exact ⟨by unfold spI;rw [f],hW⟩
theorem X8c(i:World)(d:Dg)(md:Nat)(aL:md=d.ns.length)(Ad:Option Addr)(cd:Nat)(aM:Rd i i.heap.size 81 encNd Ad d.ns)(Bd:Option Addr)(dd:Nat)(j:Rd i i.heap.size 83 encWr Bd d.ws)(aN:d.ws.length≤dd)(p:Int)(q:Int)(aE:d.ws.length≤1000000000) : Ret Tryz.prog 79 [.agg #[vi d.n,.slice Ad md cd,.slice Bd d.ws.length dd,vi d.t,vi d.r],vi p,vi q] i (fun v w=>v=vi (tyW d.ws p q)∧Below i.heap.size i w):=by
 have aO:=X79 d.ws p q;refine enter Tryz.func79 rfl 23 rfl rfl ?_;intro a b
 have f:=bz i
 refine Zs b fun _ aF=>?_;refine Zf (X0c (zs:=[vi d.n,.slice Ad md cd,.slice Bd d.ws.length dd,vi d.t,vi d.r]) rfl rfl) ?_;rintro _ w1 ⟨b4,rfl,aG,hE,g⟩;have aP:=Q0 f.size aG;have f:=btr f hE;refine Za rfl<|Zx aF fun a b _ aH=>?_;refine Ze (Vd rfl Xr 2)<|Ze (X0 rfl X0j (g.at 2))<|Zm rfl<|Zm rfl<|Zf (Vc (Xdy _ Bd dd d.ws (j.below' f).top p q aE) X7f) ?_;rintro _ w2 ⟨rfl,hE⟩;have g:=g.below hE;have f:=btr f hE;refine Za rfl<|ZX aH fun a b _ aI=>?_;refine Q8<|Zs b fun _ aJ=>?_;refine Zm rfl<|Ze (X0l rfl rfl)<|Za rfl<|Zt aJ fun a b=>?_
 refine Xg b rfl (fun c=>?_) (fun c=>?_)
 ·have a8:=c;have c:=Q2 c
  have hz:tyW d.ws p q=0:=by unfold tyW;exact Q4 (by simpa using c)
  refine Zs b fun _ aK=>?_;refine Za rfl<|Zt aK fun a b=>?_;refine Q6<|Xq<|X6<|X4 b (Xt b rfl rfl) ?_;exact ⟨by rw [hz],f⟩
 have a8:=c;have c:=Q1 c
 have aQ:0≤fdW d.ws p q:=by have h9:=c;simp at h9;omega
 have aA:tyW d.ws p q=if (d.ws.getD (fdW d.ws p q).toNat wZ).h=true then 2 else 1:=by unfold tyW;exact Q3 (by omega)
 refine Zs b fun _ aB=>?_;refine Ze (Vd rfl Xr 2)<|Ze (X0 rfl X0j (g.at 2))<|Zm rfl<|Zi (k:=(fdW d.ws p q).toNat) (u:=(d.ws.getD (fdW d.ws p q).toNat wZ)) (enc:=encWr) (l:=d.ws) trivial rfl rfl Xx X0e Xy (j.below' f) (Xb (by omega)) (by omega) ?_;intro aR a6;refine Ze (X23 rfl X5k)<|Ze (X0 rfl X6c (a6.drop 2))<|Za rfl<|Zt aB fun a b=>?_
 refine Xg b rfl (fun e=>?_) (fun e=>?_)
 ·have a7:=e
  have hz:tyW d.ws p q=2:=by rw [aA];exact Q4 e
  refine Zs b fun _ aC=>?_;refine Za rfl<|Zt aC fun a b=>?_;refine Q6<|Xq<|X6<|X4 b (Xt b rfl rfl) ?_;exact ⟨by rw [hz],f⟩
 have a7:=e
 have hz:tyW d.ws p q=1:=by rw [aA];exact Q3 (by rw [e];decide)
 refine Q7<|Xa<|aI _ _<|Zs b fun _ aD=>?_;refine Za rfl<|Zt aD fun a b=>?_
 refine Q6 (X4 b (Xt b rfl rfl) ?_)
 exact ⟨by rw [hz],f⟩
end Go.Proofs.YtpifljegadknkaaGreat
