/-
  What is proved: for every drawn circuit, the schedule is accepted and keeps the operator, and the least number of layers is at most the depth: the law returns true at every input and leaves its arguments as they were. Conditions: none.
-/
import Derived.Test.YtlfjcmldfbfdbaaGreatE5
import Derived.Test.YtlfjcmldfbfdbaaGreatE4
import Derived.Test.YtlfjcmldfbfdbaaGreatE3
import Derived.Test.YtlfjcmldfbfdbaaGreatRows
set_option linter.unusedVariables false
set_option linter.unusedSimpArgs false
namespace Go.Proofs.YtlfjcmldfbfdbaaGreat
open Go.RowKit
section
variable {α : Type} {P : Program} {a : Act} {w : World} {n : Nat} {e : Env} {ty : TypeId} {pos : String} {af : Array Edge} {g : Option (Nat × Bool)} {d : Option Tmp}
theorem Xny{T b k sz:Nat}{enc:α→List Value}{l:List α}{u:α}{v:Value}{r:List Value}(hb:Blk w b T (l.flatMap enc))(hsz:∀ x,(enc x).length=sz)(hu:l[k]? = some u)(hv:enc u=v::r) : At w ⟨b,k*sz,none⟩ (v::(r++(l.drop (k+1)).flatMap enc)):=by
 have h:=hb.at (k*sz)
 rw [← X6h hsz,Xdh hu,List.flatMap_cons,hv] at h
 exact h
theorem Xkt{t T b k sz:Nat}{x:Operand}{enc:α→List Value}{l:List α}{u:α}{v:Value}{r:List Value}(hf:Fr a n e)(hx:ev e x=some (.pointer (some ⟨b,k*sz,none⟩)))(h1:OneT P t)(hb:Blk w b T (l.flatMap enc))(hsz:∀ x,(enc x).length=sz)(hu:l[k]? = some u)(hv:enc u=v::r) : Ev P ⟨d,.load t x,ty,pos,af,g⟩ a w v:=
 Xd4 hf hx h1 (Xny hb hsz hu hv)
theorem Xf1{t T b k sz:Nat}{x:Operand}{enc:α→List Value}{l:List α}{u:α}{v:Value}{r:List Value}(hx:ev e x=some (.pointer (some ⟨b,k*sz,none⟩)))(h1:OneT P t)(hb:Blk w b T (l.flatMap enc))(hsz:∀ x,(enc x).length=sz)(hu:l[k]? = some u)(hv:enc u=v::r) : EvW P ⟨d,.load t x,ty,pos,af,g⟩ n e w v:=fun a hf=>Xkt hf hx h1 hb hsz hu hv
end
def mxq(best:List Int)(qs:List Int)(d:Int) : Int:=qs.foldl (fun d q=>max d (best.getD q.toNat 0)) d
def mxq1(best:List Int)(qs:List Int)(d:Int) : Int:=qs.foldl (fun d q=>max d (best.getD q.toNat 0+1)) d
def setq(best:List Int)(qs:List Int)(d:Int) : List Int:=qs.foldl (fun b q=>b.set q.toNat d) best
def isTi(k:Int) : Int:=if isTk k=true then 1 else 0
def tdStep(s:List Int×Int)(g:Gt) : List Int×Int:=(setq s.1 (qubI g) (mxq s.1 (qubI g) 0+isTi g.k),max s.2 (mxq s.1 (qubI g) 0+isTi g.k))
def laStep(s:List Int×List Int)(g:Gt) : List Int×List Int:=(setq s.1 (qubI g) (mxq1 s.1 (qubI g) 0),s.2++[mxq1 s.1 (qubI g) 0])
def five0:List Int:=[0,0,0,0,0]
def tdI(gs:List Gt) : Int:=(gs.foldl tdStep (five0,0)).2
def lyI(gs:List Gt) : List Int:=(gs.foldl laStep (five0,[])).2
def cmx(gs:List Gt)(g:Gt)(m:List Int) : Nat→Int
 | 0=>0
 | j+1=>if comS g (gs.getD j gZ)=true then max (cmx gs g m j) (m.getD j 0) else cmx gs g m j
def notW(k:Int) : Int:=if (k != 12)=true then 1 else 0
def lyS(gs:List Gt) : Nat→List Int
 | 0=>[]
 | i+1=>lyS gs i++[cmx gs (gs.getD i gZ) (lyS gs i) i+notW (gs.getD i gZ).k]
def tdS(gs:List Gt) : Nat→List Int×Int
 | 0=>([],0)
 | i+1=>((tdS gs i).1++[cmx gs (gs.getD i gZ) (tdS gs i).1 i+isTi (gs.getD i gZ).k],max (tdS gs i).2 (cmx gs (gs.getD i gZ) (tdS gs i).1 i+isTi (gs.getD i gZ).k))
theorem Xhn{best qs:List Int}{k:Nat}{u:Int}(h:qs[k]? = some u) : mxq1 best (qs.take (k+1)) 0=max (mxq1 best (qs.take k) 0) (best.getD u.toNat 0+1):=by
 obtain ⟨h1,h2⟩:=List.getElem?_eq_some_iff.1 h
 unfold mxq1
 rw [List.take_succ_eq_append_getElem h1,h2,List.foldl_append];rfl
theorem Xii{best qs:List Int}{k:Nat}{u d:Int}(h:qs[k]? = some u) : setq best (qs.take (k+1)) d=(setq best (qs.take k) d).set u.toNat d:=by
 obtain ⟨h1,h2⟩:=List.getElem?_eq_some_iff.1 h
 unfold setq
 rw [List.take_succ_eq_append_getElem h1,h2,List.foldl_append];rfl
theorem X72(d:Int) : ∀ (qs best:List Int),(setq best qs d).length=best.length
 | [],_=>rfl
 | q::qs,best=>by
  show (setq (best.set q.toNat d) qs d).length=_
  rw [X72 d qs,List.length_set]
theorem Xcr{σ:Type}{f:σ→Gt→σ}{s:σ}{gs:List Gt}{k:Nat}{u:Gt}(h:gs[k]? = some u) : (gs.take (k+1)).foldl f s=f ((gs.take k).foldl f s) u:=by
 obtain ⟨h1,h2⟩:=List.getElem?_eq_some_iff.1 h
 rw [List.take_succ_eq_append_getElem h1,h2,List.foldl_append];rfl
theorem Xc2{gs:List Gt}{k:Nat}{u:Gt}(h:gs[k]? = some u) : gs.getD k gZ=u:=by
 rw [List.getD_eq_getElem?_getD,h];rfl
theorem Xcj(best:List Int)(v:Int) : ∀ (qs:List Int) (d:Int),mxq best qs d≤v↔d≤v∧∀ q ∈ qs,best.getD q.toNat 0≤v
 | [],d=>by simp [mxq]
 | q::qs,d=>by
  show mxq best qs (max d (best.getD q.toNat 0))≤v↔_
  rw [Xcj best v qs,Int.max_le]
  simp only [List.mem_cons,forall_eq_or_imp,and_assoc]
theorem X8o(best:List Int)(v:Int) : ∀ (qs:List Int) (d:Int),mxq1 best qs d≤v↔d≤v∧∀ q ∈ qs,best.getD q.toNat 0+1≤v
 | [],d=>by simp [mxq1]
 | q::qs,d=>by
  show mxq1 best qs (max d (best.getD q.toNat 0+1))≤v↔_
  rw [X8o best v qs,Int.max_le]
  simp only [List.mem_cons,forall_eq_or_imp,and_assoc]
theorem X4u(gs:List Gt)(g:Gt)(m:List Int)(v:Int) : ∀ i,cmx gs g m i≤v↔0≤v∧∀ j,j<i→comS g (gs.getD j gZ)=true→m.getD j 0≤v
 | 0=>by simp [cmx]
 | i+1=>by
  unfold cmx
  have ih:=X4u gs g m v i
  by_cases hc:comS g (gs.getD i gZ)=true
  ·rw [if_pos hc,Int.max_le,ih]
   constructor
   ·rintro ⟨⟨h1,h2⟩,h3⟩
    refine ⟨h1,fun j hj hcj=>?_⟩
    by_cases e:j=i
    ·rw [e];exact h3
    ·exact h2 j (by omega) hcj
   ·rintro ⟨h1,h2⟩;exact ⟨⟨h1,fun j hj=>h2 j (by omega)⟩,h2 i (by omega) hc⟩
  ·rw [if_neg hc,ih]
   constructor
   ·rintro ⟨h1,h2⟩
    refine ⟨h1,fun j hj hcj=>?_⟩
    by_cases e:j=i
    ·rw [e] at hcj;exact absurd hcj hc
    ·exact h2 j (by omega) hcj
   ·rintro ⟨h1,h2⟩;exact ⟨h1,fun j hj=>h2 j (by omega)⟩
theorem X6q{d:Int} : ∀ (qs best:List Int) {p:Nat},(∀ q ∈ qs,0≤q∧q≤4)→best.length=5→p<5→(setq best qs d).getD p 0=if (p:Int) ∈ qs then d else best.getD p 0
 | [],best,p,_,_,_=>by simp [setq]
 | q::qs,best,p,hq,hl,hp=>by
  show (setq (best.set q.toNat d) qs d).getD p 0=_
  rw [X6q qs _ (fun x hx=>hq x (by simp [hx])) (by rw [List.length_set];exact hl) hp]
  have hq0:=hq q (by simp)
  by_cases h1:(p:Int) ∈ qs
  ·rw [if_pos h1,if_pos (by simp [h1])]
  ·rw [if_neg h1]
   by_cases h2:(p:Int)=q
   ·rw [if_pos (by simp [h2]),List.getD_eq_getElem?_getD,show q.toNat=p by omega,List.getElem?_set_self (by omega)];rfl
   ·rw [if_neg (by simp [h1,h2]),List.getD_eq_getElem?_getD,List.getElem?_set_ne (by omega),List.getD_eq_getElem?_getD]
theorem Xbi{x y:Int}(h:∀ v,x≤v↔y≤v) : x=y:=by
 have h1:=(h x).1 (Int.le_refl _);have h2:=(h y).2 (Int.le_refl _)
 omega
structure DInv (gs:List Gt) (i:Nat) (best m:List Int) : Prop where
 len:best.length=5
 mlen:m.length=i
 le:∀ p,p<5→∀ v,0≤v→(best.getD p 0≤v↔∀ j,j<i→(p:Int) ∈ qubI (gs.getD j gZ)→m.getD j 0≤v)
 nn:∀ p,p<5→0≤best.getD p 0
theorem DInv.start(gs:List Gt) : DInv gs 0 five0 []:=⟨rfl,rfl,fun p hp v hv=>by
 have:p=0∨p=1∨p=2∨p=3∨p=4:=by omega
 constructor
 ·intro _ j hj;omega
 ·intro _;rcases this with rfl|rfl|rfl|rfl|rfl<;>exact hv,fun p hp=>by
 have:p=0∨p=1∨p=2∨p=3∨p=4:=by omega
 rcases this with rfl|rfl|rfl|rfl|rfl<;>exact Int.le_refl _⟩
theorem DInv.eq{gs:List Gt}{i:Nat}{best m:List Int}(h:DInv gs i best m){g:Gt}(hq:∀ x ∈ qubI g,0≤x∧x≤4) : mxq best (qubI g) 0=cmx gs g m i:=by
 refine Xbi fun v=>?_
 rw [Xcj,X4u]
 constructor
 ·rintro ⟨h0,h1⟩
  refine ⟨h0,fun j hj hc=>?_⟩
  rw [X4l] at hc
  obtain ⟨x,x1,x2⟩:=X4c.1 hc;have hb:=hq x x2
  have:=(h.le x.toNat (by omega) v h0).1 (h1 x x2) j hj
  rw [show ((x.toNat:Nat) : Int)=x by omega] at this
  exact this x1
 ·rintro ⟨h0,h1⟩
  refine ⟨h0,fun q hqm=>(h.le q.toNat (by have:=hq q hqm;omega) v h0).2 fun j hj hp=>h1 j hj ?_⟩
  rw [show ((q.toNat:Nat) : Int)=q by have:=hq q hqm;omega] at hp
  rw [X4l]
  exact X4c.2 ⟨q,hp,hqm⟩
theorem DInv.next{gs:List Gt}{i:Nat}{best m:List Int}(h:DInv gs i best m){g:Gt}(hg:gs.getD i gZ=g)(hq:∀ x ∈ qubI g,0≤x∧x≤4){d:Int}(hd:mxq best (qubI g) 0≤d) : DInv gs (i+1) (setq best (qubI g) d) (m++[d]):=by
 obtain ⟨d0,dq⟩:=(Xcj best d (qubI g) 0).1 hd
 have em:∀ j,j<i→(m++[d]).getD j 0=m.getD j 0:=fun j hj=>by
  rw [List.getD_eq_getElem?_getD,List.getElem?_append_left (by rw [h.mlen];exact hj),List.getD_eq_getElem?_getD]
 have ed:(m++[d]).getD i 0=d:=by
  rw [List.getD_eq_getElem?_getD,List.getElem?_append_right (by rw [h.mlen];omega),h.mlen,Nat.sub_self];rfl
 refine ⟨by rw [X72,h.len],by simp [h.mlen],fun p hp v hv=>?_,fun p hp=>?_⟩
 ·rw [X6q _ _ hq h.len hp]
  have hle:=h.le p hp v hv
  split
  ·rename_i hpg
   constructor
   ·intro hdv j hj hpj
    by_cases e:j=i
    ·rw [e,ed];exact hdv
    ·rw [em j (by omega)]
     have hb:=dq _ hpg
     rw [Int.toNat_natCast] at hb
     exact hle.1 (by omega) j (by omega) hpj
   ·intro hall
    have:=hall i (by omega) (by rw [hg];exact hpg)
    rwa [ed] at this
  ·rename_i hpg
   rw [hle]
   constructor
   ·intro hall j hj hpj
    by_cases e:j=i
    ·rw [e,hg] at hpj;exact absurd hpj hpg
    ·rw [em j (by omega)];exact hall j (by omega) hpj
   ·intro hall j hj hpj
    have:=hall j (by omega) hpj
    rwa [em j hj] at this
 ·rw [X6q _ _ hq h.len hp]
  split
  ·exact d0
  ·exact h.nn p hp
theorem Xoi{best qs:List Int}(hb:∀ q ∈ qs,0≤best.getD q.toNat 0) : mxq1 best qs 0=if qs=[] then 0 else mxq best qs 0+1:=by
 split
 ·rename_i h;subst h;rfl
 ·rename_i h
  refine Xbi fun v=>?_
  rw [X8o,show mxq best qs 0+1≤v↔mxq best qs 0≤v-1 by omega,Xcj]
  obtain ⟨q0,l,rfl⟩:=List.exists_cons_of_ne_nil h
  constructor
  ·rintro ⟨h0,h1⟩
   have:=h1 q0 (by simp)
   have:=hb q0 (by simp)
   exact ⟨by omega,fun q hq=>by have:=h1 q hq;omega⟩
  ·rintro ⟨h0,h1⟩;exact ⟨by omega,fun q hq=>by have:=h1 q hq;omega⟩
theorem Xe8(g:Gt) : qubI g=[]↔g.k=12:=by
 unfold qubI
 split
 ·rename_i h;simp [h]
 ·rename_i h
  split<;>simp [h]
theorem Xk6{gs:List Gt}{n:Int}(hg:∀ g ∈ gs,gOk n g=true) : ∀ i,i≤gs.length→DInv gs i ((gs.take i).foldl laStep (five0,[])).1 (lyS gs i)∧((gs.take i).foldl laStep (five0,[])).2=lyS gs i
 | 0,_=>⟨DInv.start gs,rfl⟩
 | i+1,hi=>by
  obtain ⟨h1,h2⟩:=Xk6 hg i (by omega)
  have hu:gs[i]? = some (gs.getD i gZ):=by rw [List.getD_eq_getElem?_getD,List.getElem?_eq_getElem (by omega)];rfl
  have hq:∀ x ∈ qubI (gs.getD i gZ),0≤x∧x≤4:=fun x hx=>X3k (hg _ (List.mem_of_getElem? hu)) hx
  rw [Xcr hu]
  have e:=h1.eq hq
  have e2:=Xoi (best:=((gs.take i).foldl laStep (five0,[])).1) (qs:=qubI (gs.getD i gZ)) fun q hqm=>h1.nn _ (by have:=hq q hqm;omega)
  have e3:mxq1 ((gs.take i).foldl laStep (five0,[])).1 (qubI (gs.getD i gZ)) 0=cmx gs (gs.getD i gZ) (lyS gs i) i+notW (gs.getD i gZ).k:=by
   rw [e2]
   by_cases h12:(gs.getD i gZ).k=12
   ·have hn:=(Xe8 _).2 h12
    rw [if_pos hn,← e,hn]
    unfold notW
    rw [h12];rfl
   ·rw [if_neg fun h=>h12 ((Xe8 _).1 h),e]
    unfold notW
    rw [if_pos (by simpa using h12)]
  have hge:mxq ((gs.take i).foldl laStep (five0,[])).1 (qubI (gs.getD i gZ)) 0≤mxq1 ((gs.take i).foldl laStep (five0,[])).1 (qubI (gs.getD i gZ)) 0:=by
   rw [e3,← e];unfold notW;split<;>omega
  constructor
  ·show DInv gs (i+1) (setq _ _ _) (_++[_])
   rw [← e3]
   exact h1.next rfl hq hge
  ·show _++[_]=_++[_]
   rw [e3,h2]
theorem Xpi{gs:List Gt}{n:Int}(hg:∀ g ∈ gs,gOk n g=true) : lyI gs=lyS gs gs.length:=by
 have:=(Xk6 hg gs.length (Nat.le_refl _)).2
 rwa [List.take_length] at this
theorem X35(gs:List Gt) : ∀ i,(lyS gs i).length=i
 | 0=>rfl
 | i+1=>by rw [lyS,List.length_append,X35 gs i];rfl
theorem Xmm{m:List Int}{d:Int}{i j:Nat}(h:m.length=i) : (m++[d]).getD j 0=if j<i then m.getD j 0 else if j=i then d else 0:=by
 rw [List.getD_eq_getElem?_getD]
 split
 ·rw [List.getElem?_append_left (by omega),List.getD_eq_getElem?_getD]
 ·rw [List.getElem?_append_right (by omega)]
  split
  ·rename_i e;subst e;rw [h,Nat.sub_self];rfl
  ·rw [List.getElem?_eq_none (by simp;omega)];rfl
end Go.Proofs.YtlfjcmldfbfdbaaGreat
namespace Go.Proofs.YtlfjcmldfbfdbaaGreat
theorem Xtu{N j k:Nat}(hN5:N≤5)(hj:j<2^N){b:Gt}(hb:gOk N b=true)(hk:k<2^N) : act b (eb N j) (pt N k)=zc N b k j:=by
 rw [← X70 hb hk (eb N j),X4r (t:=j) _ hj fun t ht hne=>by rw [Xcn hN5 ht hj,if_neg hne];exact X00 _]
 rw [Xcn hN5 hj hj,if_pos rfl]
 exact X03 _
theorem Xte{z:Rg}(h:Un z) : qN z≤1*1:=by
 have h1:=Xbo (w:=1) h
 rw [X03] at h1
 exact Int.le_trans h1 (by decide)
theorem Xb3(N:Nat)(g:Gt) : (gateS (N:Int) g).rows=((2^N:Nat) : Int)∧(gateS (N:Int) g).cols=((2^N:Nat) : Int):=by
 constructor
 ·show ((2^(N:Int).toNat:Nat) : Int)=_
  rw [Int.toNat_natCast]
 ·show ((2^(N:Int).toNat:Nat) : Int)=_
  rw [Int.toNat_natCast]
theorem Xgf{N:Nat}(hN5:1≤N∧N≤5){a b:Gt}(ha:gOk N a=true)(hb:gOk N b=true) :
  ∃ M,mulI (gateS N a) (gateS N b)=some M∧mOk M=true∧M.rows=((2^N:Nat) : Int)∧M.cols=((2^N:Nat) : Int)∧∀ i j,i<2^N→j<2^N→V (M.at i j) (hN a+hN b) (act a (act b (eb N j)) (pt N i)):=by
 have oa:=(X1d ha).2
 have ob:=(X1d hb).2
 obtain ⟨ra,ca⟩:=Xb3 N a;obtain ⟨rb,cb⟩:=Xb3 N b
 have p32:=X6x hN5.2
 have h1:hN a≤1:=by unfold hN;split<;>omega
 have h2:hN b≤1:=by unfold hN;split<;>omega
 obtain ⟨M,hM⟩ : ∃ M,mulI (gateS N a) (gateS N b)=some M:=by
  unfold mulI
  rw [if_pos (by rw [oa,ob,ca,rb];simp),ca,Int.toNat_natCast]
  refine Xea (X44 oa).1 (X44 ob).2 fun i j hi hj=>?_
  rw [ra,Int.toNat_natCast] at hi
  rw [cb,Int.toNat_natCast] at hj
  obtain ⟨s,h,_⟩:=X7l (a:=gateS N a) (b:=gateS N b) (i:=i) (j:=j) (m:=hN a) (m':=hN b) (za:=fun k=>zc N a i k) (zb:=fun k=>zc N b k j) (r:=1) (by omega) (by omega) (2^N)
   (fun k hk=>⟨by rw [X38 ha hi hk];exact X6d ha i k,Mx.at_ok (X2f oa) i k,Xk4 i k⟩)
   (fun k hk=>⟨by rw [X38 hb hk hj];exact X6d hb k j,Mx.at_ok (X2f ob) k j,Xte (Xk4 k j)⟩) (by omega)
  exact ⟨s,h⟩
 obtain ⟨q1,q2,q3,_,_⟩:=X7w hM
 refine ⟨M,hM,((X2x oa ob (by rw [ca,rb])).1 M hM).2.1,by rw [q2,ra],by rw [q3,cb],fun i j hi hj=>?_⟩
 have h:=q1 i j (by rw [ra,Int.toNat_natCast];exact hi) (by rw [cb,Int.toNat_natCast];exact hj)
 rw [ca,Int.toNat_natCast] at h
 have hv:=X6g (m:=hN a) (m':=hN b) (za:=fun k=>zc N a i k) (zb:=fun k=>act b (eb N j) (pt N k)) (2^N) (fun k hk=>by rw [X38 ha hi hk];exact X6d ha i k) (fun k hk=>by
  rw [Xtu hN5.2 hj hb hk,X38 hb hk hj];exact X6d hb k j) h
 rw [X70 ha hi] at hv
 exact hv
theorem Xh1{A B:Mx}{R C:Nat}(ha:mOk A=true)(hb:mOk B=true)(r1:A.rows=(R:Int))(r2:B.rows=(R:Int))(c1:A.cols=(C:Int))(c2:B.cols=(C:Int)) : eqM A B=true↔∀ i j,i<R→j<C→A.at i j=B.at i j:=by
 have l1:=(X3g ha).2.2
 have l2:=(X3g hb).2.2
 rw [r1,c1,Int.toNat_natCast,Int.toNat_natCast] at l1
 rw [r2,c2,Int.toNat_natCast,Int.toNat_natCast] at l2
 have key:A.cells=B.cells↔∀ i j,i<R→j<C→A.at i j=B.at i j:=by
  constructor
  ·intro h i j _ _
   unfold Mx.at
   rw [h,c1,c2]
  ·intro h
   apply List.ext_getElem
   ·rw [l1,l2]
   ·intro m h1 h2
    have hC:0<C:=by
     rcases Nat.eq_zero_or_pos C with e|e
     ·rw [e,Nat.mul_zero] at l1;omega
     ·exact e
    have h3:=h (m/C) (m % C) (Nat.div_lt_of_lt_mul (by rw [Nat.mul_comm];omega)) (Nat.mod_lt _ hC)
    unfold Mx.at at h3
    rw [c1,c2,Int.toNat_natCast,show m/C*C+m % C=m from by rw [Nat.mul_comm];exact Nat.div_add_mod m _] at h3
    rw [List.getD_eq_getElem?_getD,List.getD_eq_getElem?_getD,List.getElem?_eq_getElem h1,List.getElem?_eq_getElem h2] at h3
    exact h3
 rw [← key]
 unfold eqM
 rw [r1,r2,c1,c2]
 simp
theorem Xfz{N:Nat}(hN5:1≤N∧N≤5){a b:Gt}(ha:gOk N a=true)(hb:gOk N b=true) :
  ∃ A B,mulI (gateS N a) (gateS N b)=some A∧mulI (gateS N b) (gateS N a)=some B∧(eqM A B=true↔∀ v β,act a (act b v) β=act b (act a v) β)∧
   (eqM A B=true↔∀ i j,i<2^N→j<2^N→act a (act b (eb N j)) (pt N i)=act b (act a (eb N j)) (pt N i)):=by
 obtain ⟨A,hA,oA,r1,c1,v1⟩:=Xgf hN5 ha hb;obtain ⟨B,hB,oB,r2,c2,v2⟩:=Xgf hN5 hb ha
 have base:eqM A B=true↔∀ i j,i<2^N→j<2^N→act a (act b (eb N j)) (pt N i)=act b (act a (eb N j)) (pt N i):=by
  rw [Xh1 oA oB r1 r2 c1 c2]
  constructor
  ·intro h i j hi hj
   have e1:=v1 i j hi hj
   have e2:=v2 i j hi hj
   rw [h i j hi hj] at e1
   rw [Nat.add_comm] at e2
   exact e1.fun e2
  ·intro h i j hi hj
   have e1:=v1 i j hi hj
   have e2:=v2 i j hi hj
   rw [h i j hi hj] at e1
   rw [Nat.add_comm] at e2
   exact Xpa (Mx.at_ok (X2f oA) i j) (Mx.at_ok (X2f oB) i j) e1 e2
 refine ⟨A,B,hA,hB,base.trans ⟨fun h v β=>?_,fun h i j _ _=>h _ _⟩,base⟩
 obtain ⟨i,hi,_,hr⟩:=run_basis' hN5.2 v β
 have la:=Xj3 ha
 have lb:=Xj3 hb
 have e1:=hr [b,a] (fun g hg=>by simp at hg;rcases hg with rfl|rfl<;>assumption)
 have e2:=hr [a,b] (fun g hg=>by simp at hg;rcases hg with rfl|rfl<;>assumption)
 show run [b,a] v β=run [a,b] v β
 rw [e1,e2]
 exact X7d _ fun j hj=>congrArg _ (h i j hi hj)
theorem Xh5{g:Gt}{q:Nat}(h:Sup g q) : ∃ x ∈ qubI g,q=x.toNat:=by
 unfold qubI
 rcases h with ⟨h1,h2⟩|⟨h1,h2⟩
 ·rw [if_neg h1]
  split
  ·exact ⟨g.a,by simp,h2⟩
  ·exact ⟨g.a,by simp,h2⟩
 ·rw [if_neg (by omega),if_pos (Xo.2 h1)]
  exact ⟨g.b,by simp,h2⟩
theorem Xsm{n:Int}{g h:Gt}(hg:gOk n g=true)(hh:gOk n h=true)(hc:comI g h=false) : Dis g h:=fun q h1 h2=>by
 obtain ⟨x,x1,x2⟩:=Xh5 h1;obtain ⟨y,y1,y2⟩:=Xh5 h2
 have b1:=X3k hg x1
 have b2:=X3k hh y1
 obtain rfl:x=y:=by omega
 have:=X4c.2 ⟨x,x1,y1⟩
 rw [hc] at this
 cases this
theorem Xht{n:Int}{g h:Gt}(hg:gOk n g=true)(hh:gOk n h=true) : commS g h=true↔∀ v β,act g (act h v) β=act h (act g v) β:=by
 by_cases hc:comS g h=true
 ·have P:PairOk (unionS g h) g h:=X8n hg hh (X2d.1 hc) (X36 g h) (fun x=>X1u)
  have h3:=X86 hc
  have hl1:1≤(unionS g h).length:=by
   obtain ⟨x,h1,_⟩:=X2d.1 hc;exact List.length_pos_of_mem (X1u.2 (.inl h1))
  have gg:GoodG (unionS g h) n g:=⟨hg,fun x hx=>X1u.2 (.inl hx)⟩
  have gh:GoodG (unionS g h) n h:=⟨hh,fun x hx=>X1u.2 (.inr hx)⟩
  have hi:=X36 g h;have hlow:=P.low;have hgs:=P.gs;have hhs:=P.hs
  obtain ⟨A,B,hA,hB,_,e1⟩:=Xfz (N:=(unionS g h).length) (by omega) hgs hhs
  have tA:=((X2x (X1d hgs).2 (X1d hhs).2 rfl).1 A hA).1
  have tB:=((X2x (X1d hhs).2 (X1d hgs).2 rfl).1 B hB).1
  have ec:commS g h=eqM A B:=by
   rw [commS,if_pos hc,tA]
   dsimp only
   rw [tB]
  rw [ec]
  generalize unionS g h=us at *
  constructor
  ·intro he v β
   have hs:=(Xfz (N:=us.length) (by omega) hgs hhs)
   obtain ⟨A',B',hA',hB',e2,_⟩:=hs
   rw [hA] at hA'
   rw [hB] at hB'
   injection hA' with hA'
   injection hB' with hB'
   rw [← hA',← hB'] at e2
   have e3:=e2.1 he (fun γ=>v (inj us β γ)) (fun j=>β (us.getD j 0).toNat)
   have r1:=X7c β [h,g] v (n:=n) (fun x hx=>by simp at hx;rcases hx with rfl|rfl<;>assumption) (fun j=>β (us.getD j 0).toNat)
   have r2:=X7c β [g,h] v (n:=n) (fun x hx=>by simp at hx;rcases hx with rfl|rfl<;>assumption) (fun j=>β (us.getD j 0).toNat)
   rw [Xs4 fun x hx=>(hlow x hx).1] at r1 r2
   exact r1.trans (e3.trans r2.symm)
  ·intro he;refine e1.2 fun i j hi2 hj=>?_
   let β0:Nat→Bool:=fun _=>false
   let v:St:=fun β=>eb us.length j (fun t=>β (us.getD t 0).toNat)
   have hw:(fun γ=>v (inj us β0 γ))=eb us.length j:=by
    funext γ
    refine Xj7 us.length j _ _ fun q hq=>?_
    have hu:us[q]? = some (us.getD q 0):=by rw [List.getD_eq_getElem?_getD,List.getElem?_eq_getElem hq];rfl
    have hm:us.getD q 0 ∈ us:=List.mem_of_getElem? hu
    have h0:=hlow _ hm
    have hm':(((us.getD q 0).toNat:Nat) : Int) ∈ us:=by rw [show (((us.getD q 0).toNat:Nat) : Int)=us.getD q 0 by omega];exact hm
    rw [Xez hm',show (((us.getD q 0).toNat:Nat) : Int)=us.getD q 0 by omega,X7o hi hu,Int.toNat_natCast]
   have r1:=X7c β0 [h,g] v (n:=n) (fun x hx=>by simp at hx;rcases hx with rfl|rfl<;>assumption) (pt us.length i)
   have r2:=X7c β0 [g,h] v (n:=n) (fun x hx=>by simp at hx;rcases hx with rfl|rfl<;>assumption) (pt us.length i)
   rw [hw] at r1 r2
   have e3:=he v (inj us β0 (pt us.length i))
   exact r1.symm.trans (e3.trans r2)
 ·have e:commS g h=true:=by rw [commS,if_neg hc]
  have hc':comI g h=false:=by
   have h9:=Xum g h
   rw [← h9]
   simpa using hc
  rw [e]
  simp only [true_iff]
  intro v β
  rw [Xd5 (X96 hg).1 (X96 hh).1 (Xsm hg hh hc')]
end Go.Proofs.YtlfjcmldfbfdbaaGreat
namespace Go.Proofs.YtlfjcmldfbfdbaaGreat
open Go.RowKit
def tdC(c:Cx) : Int:=if cOk c=true then tdI c.gs else 0
def tdD(c:Cx) : Int:=if cOk c=true then (tdS c.gs c.gs.length).2 else 0
def Bd5(best:List Int)(K:Int) : Prop:=best.length=5∧∀ p,p<5→0≤best.getD p 0∧best.getD p 0≤K
theorem Bd5.start:Bd5 [0,0,0,0,0] ((0:Nat) : Int):=⟨rfl,fun p hp=>by
 have:p=0∨p=1∨p=2∨p=3∨p=4:=by omega
 rcases this with rfl|rfl|rfl|rfl|rfl<;>exact ⟨Int.le_refl _,Int.le_refl _⟩⟩
theorem Bd5.at{best:List Int}{K:Int}(h:Bd5 best K){q:Int}(hq:0≤q∧q≤4) : 0≤best.getD q.toNat 0∧best.getD q.toNat 0≤K:=h.2 _ (by omega)
theorem Xh2{best:List Int}{K:Int}(h:Bd5 best K)(hK:0≤K){qs:List Int}(hq:∀ q ∈ qs,0≤q∧q≤4) : 0≤mxq1 best qs 0∧mxq1 best qs 0≤K+1:=
 ⟨((X8o best _ qs 0).1 (Int.le_refl _)).1,(X8o best (K+1) qs 0).2 ⟨by omega,fun q hqm=>by have:=(h.at (hq q hqm)).2;omega⟩⟩
theorem Xnw{best:List Int}{K d:Int}(h:Bd5 best K){qs:List Int}(hq:∀ q ∈ qs,0≤q∧q≤4)(hd:0≤d∧d≤K+1) : Bd5 (setq best qs d) (K+1):=
 ⟨by rw [X72];exact h.1,fun p hp=>by
  rw [X6q qs best hq h.1 hp]
  split
  ·exact hd
  ·have:=h.2 p hp;omega⟩
theorem Xlu{qs:List Int}{j:Nat}(h:∀ q ∈ qs,0≤q∧q≤4) : ∀ q ∈ qs.take j,0≤q∧q≤4:=fun q hq=>h q (List.mem_of_mem_take hq)
theorem Xn7{l:List Gt}{k j:Nat}{u:Gt}(h:(l.take k)[j]? = some u) : l[j]? = some u:=by
 have h1:=(List.getElem?_eq_some_iff.1 h).1
 rw [List.length_take] at h1
 rwa [List.getElem?_take_of_lt (by omega)] at h
theorem Xo3{gs:List Gt}{g v:Gt}{m:List Int}{j:Nat}(hv:gs[j]? = some v)(hc:comS g v=true) : cmx gs g m (j+1)=max (cmx gs g m j) (m.getD j 0):=by
 rw [cmx,Xc2 hv,if_pos hc]
theorem Xj9{gs:List Gt}{g v:Gt}{m:List Int}{j:Nat}(hv:gs[j]? = some v)(hc:comS g v=false) : cmx gs g m (j+1)=cmx gs g m j:=by
 rw [cmx,Xc2 hv,if_neg (by simp [hc])]
theorem Xgv{gs:List Gt}{k:Nat}{u:Gt}{m:List Int}{d:Int}(h:m=lyS gs k)(hu:gs[k]? = some u)(hd:d=cmx gs u m k+notW u.k) : m++[d]=lyS gs (k+1):=by
 rw [lyS,← h,Xc2 hu,hd]
theorem Xq5{gs:List Gt}{g:Gt}{m:List Int}{K:Int}(hK:0≤K)(h:∀ x ∈ m,0≤x∧x≤K) : ∀ i,0≤cmx gs g m i∧cmx gs g m i≤K:=fun i=>by
 refine ⟨((X4u gs g m _ i).1 (Int.le_refl _)).1,(X4u gs g m K i).2 ⟨hK,fun j _ _=>?_⟩⟩
 rw [List.getD_eq_getElem?_getD]
 by_cases hj:j<m.length
 ·rw [List.getElem?_eq_getElem hj]
  exact (h _ (List.getElem_mem hj)).2
 ·rw [List.getElem?_eq_none (by omega)]
  exact hK
theorem Xfx{m:List Int}{K d:Int}(h:∀ x ∈ m,0≤x∧x≤K)(hd:0≤d∧d≤K+1) : ∀ x ∈ m++[d],0≤x∧x≤K+1:=fun x hx=>by
 rcases List.mem_append.1 hx with hx|hx
 ·have:=h x hx;omega
 ·rw [List.mem_singleton] at hx;rw [hx];exact hd
theorem Xip{l:List Int}{k:Nat}(h:l.getD k 0=0) : l=l.set k 0:=by
 apply List.ext_getElem
 ·simp
 ·intro i h1 h2
  rw [List.getElem_set]
  split
  ·rename_i e
   subst e
   rw [List.getD_eq_getElem?_getD,List.getElem?_eq_getElem h1] at h
   exact h
  ·rfl
theorem Xe0{l:List Int}{k:Nat}{x:Int}(h:k<l.length) : (l.set k x).getD k 0=x:=by
 rw [List.getD_eq_getElem?_getD,List.getElem?_set_self h];rfl
theorem Xks{l:List Int}{k j:Nat}{x:Int}(h:j≠k) : (l.set k x).getD j 0=l.getD j 0:=by
 rw [List.getD_eq_getElem?_getD,List.getElem?_set_ne (Ne.symm h),List.getD_eq_getElem?_getD]
theorem Xm9{l:List Int}{k:Nat}{x:Int}(h:k<l.length) : (l.set k x).take (k+1)=l.take k++[x]:=by
 rw [List.take_succ_eq_append_getElem (by simpa using h),List.getElem_set_self,List.take_set_of_le (Nat.le_refl _)]
theorem Xjh(n:Nat) : ∀ j,0≤j→(List.replicate n (0:Int)).getD j 0=0:=fun j _=>by
 rw [List.getD_eq_getElem?_getD]
 by_cases h:j<n
 ·rw [List.getElem?_replicate_of_lt h];rfl
 ·rw [List.getElem?_eq_none (by simp;omega)];rfl
theorem Xd0{l:List Int}{k:Nat}{u m:Int}(h:∀ x ∈ l.take k,x≤m)(hu:l[k]? = some u) : ∀ x ∈ l.take (k+1),x≤max m u:=fun x hx=>by
 obtain ⟨h1,h2⟩:=List.getElem?_eq_some_iff.1 hu
 rw [List.take_succ_eq_append_getElem h1,h2,List.mem_append,List.mem_singleton] at hx
 rcases hx with hx|rfl
 ·have:=h x hx;omega
 ·omega
end Go.Proofs.YtlfjcmldfbfdbaaGreat
namespace Go.Proofs.YtlfjcmldfbfdbaaGreat
def cnC(c:Cx) : Int:=if cOk c=true then ((cntP isTk c.gs:Nat) : Int) else 0
end Go.Proofs.YtlfjcmldfbfdbaaGreat
set_option maxHeartbeats 1000000
set_option maxRecDepth 4000
namespace Go.Proofs.YtlfjcmldfbfdbaaGreat
open Go.RowKit
theorem Xt4(w0:World)(p:Cx)(Ap:Option Addr)(cp:Nat)(hr_p:Rd w0 w0.heap.size 24 encG Ap p.gs)(hc:cOk p=true) : Ret Tryz.prog 65 [.agg #[vi p.n,.slice Ap p.gs.length cp]] w0 (fun v w=>∃ A c,v=.slice A (lyI p.gs).length c∧Own w w0.heap.size 3 1 encI A c (lyI p.gs)∧Below w0.heap.size w0 w):=by
 obtain ⟨hcn,hcl,hcg⟩:=X0x hc;refine enter Tryz.func65 rfl 60 rfl rfl ?_;intro a hf
 have hW:Below w0.heap.size w0 w0:=Below.refl _ _
 refine Zs hf fun _ hK2=>?_;refine Zf (X0p (zs:=[vi p.n,.slice Ap p.gs.length cp]) rfl rfl) ?_;rintro _ w1 ⟨b3,rfl,hl3,hE,hB3⟩;have hlo3:=Nat.le_trans hW.size hl3;replace hW:=btr hW hE;refine Za rfl ?_;refine Zt hK2 fun a hf=>?_;refine Zs hf fun _ hK5=>?_;refine Ze (Vd rfl X0k 1)<|Ze (X0 rfl X14 (hB3.at 1))<|Ze (X0y rfl X0c) ?_;refine Zf (X21 (m:=p.gs.length) (enc:=encI) (z0:=0) rfl rfl Xg X19 z_3 rfl X6 (by omega) (by omega)) ?_;rintro _ w2 ⟨b6,rfl,hl6,hE,hB6⟩;have hlo6:=Nat.le_trans hW.size hl6;replace hB3:=hB3.below hE;replace hW:=btr hW hE;refine Ze (Xz (ps:=[]) (cs:=[vi 0,vi 0,vi 0,vi 0,vi 0]) rfl (fun _=>by first|rfl|kernel_rfl)) ?_;refine Zf (Xa (zs:=[vi 0,vi 0,vi 0,vi 0,vi 0]) Xsf rfl) ?_;rintro _ w3 ⟨b8,rfl,hl8,hE,hB8⟩;have hlo8:=Nat.le_trans hW.size hl8;replace hB3:=hB3.below hE;replace hB6:=hB6.below hE;replace hW:=btr hW hE;refine Za rfl ?_;refine Zo (Vw [vi 0,vi 0,vi 0,vi 0,vi 0] Xnk hB8) ?_;rintro _ w4 ⟨ho,hb⟩;have hold:=hB8;replace hB3:=hB3.only ho (Blk.ne hB3 hold rfl);replace hB6:=hB6.only ho (Blk.ne hB6 hold rfl);replace hW:=Below.only hW ho hlo8;clear hold;have hB8:=hb;clear hb ho;refine Zt hK5 fun a hf=>?_;refine wp_seq_k fun _ hK9=>?_;refine Zs hf fun _ hK10=>?_;refine Ze (Vd rfl X0k 1)<|Ze (X0 rfl X14 (hB3.at 1))<|Ze (X0y rfl X0c)<|Zm rfl ?_;refine Zt hK10 fun a hf=>?_;refine wp_block ?_;refine Xx (σ:=Nat×(List Int)×(List Int)) (fun (s:Nat×(List Int)×(List Int)) (a:Act) (w:World)=>match s with|(k,best,out)=>Fr a 60 [(3,.slice (some ⟨b6,0,none⟩) p.gs.length p.gs.length),(4,.pointer (some ⟨b8,0,none⟩)),(17,.slice Ap p.gs.length cp),(18,vi (p.gs.length:Int)),(19,vi (k:Int))]∧(k≤p.gs.length)∧(out.length=p.gs.length)∧((best,out.take k)=(p.gs.take k).foldl laStep (five0,[]))∧(Bd5 best (k:Int))∧(∀ j,k≤j→out.getD j 0=0)∧Blk w b6 3 (out.flatMap encI)∧Blk w b8 89 (best.flatMap encI)∧Below w0.heap.size w0 w) (fun (s:Nat×(List Int)×(List Int))=>match s with|(k,best,out)=>p.gs.length-k) (0,[0,0,0,0,0],(List.replicate p.gs.length 0)) ?_ ?_
 ·exact ⟨hf.sub ⟨rfl,rfl,rfl,rfl,rfl,trivial⟩,(Nat.zero_le _),(by simp),rfl,Bd5.start,(Xjh _),hB6,hB8,hW⟩
 rintro ⟨k,best,out⟩ a w5 ⟨hf,hk,hol,hbz,hbs,hoz,hB6,hB8,hW⟩;refine Zs hf fun _ hK11=>?_;refine Ze (X0l rfl rfl) ?_;refine Zt hK11 fun a hf=>?_;refine wp_seq_k fun _ hK12=>?_
 refine Xe hf rfl (fun hc13=>?_) (fun hc13=>?_)
 ·have hc13b:=hc13;have hc13:=of_decide_eq_true hc13
  obtain ⟨u14,hu14⟩:=Xl (l:=p.gs) (k:=k) (by omega)
  have hst:=Xcr (f:=laStep) (s:=(five0,[])) hu14
  have hqb:∀ x ∈ qubI u14,0≤x∧x≤4:=fun x hx=>X3k (hcg _ (List.mem_of_getElem? hu14)) hx
  have hql:=X2z u14;have hl5:=hbs.1;have hok0:=hoz k (Nat.le_refl _);refine wp_skip ?_;refine hK12 _ _ ?_;refine wp_seq_k fun _ hK15=>?_;refine wp_block ?_;refine Zs hf fun _ hK16=>?_;refine Zm rfl ?_;refine Zi (k:=k) (u:=u14) (enc:=encG) (l:=p.gs) trivial rfl rfl X0c X0g X0d (hr_p.below' hW) hu14 rfl ?_;intro p18 hat17;refine Ze (X09 (l:=[vi u14.k,vi u14.a,vi u14.b]) rfl Xt hat17 rfl) ?_;refine Zf (Xa (zs:=[vi 0,vi 0,vi 0]) X32 rfl) ?_;rintro _ w6 ⟨b19,rfl,hl19,hE,hB19⟩;have hlo19:=Nat.le_trans hW.size hl19;have haw1_19:=(hr_p.below' hW).away hl19;replace hB6:=hB6.below hE;replace hB8:=hB8.below hE;replace hW:=btr hW hE;refine Za rfl ?_;refine Zo (Vw [vi u14.k,vi u14.a,vi u14.b] X0g hB19) ?_;rintro _ w7 ⟨ho,hb⟩;have hold:=hB19;replace hB6:=hB6.only ho (Blk.ne hB6 hold rfl);replace hB8:=hB8.only ho (Blk.ne hB8 hold rfl);replace hW:=Below.only hW ho hlo19;clear hold;have hB19:=hb;clear hb ho;refine Zt hK16 fun a hf=>?_;refine wp_seq_k fun _ hK20=>?_;refine Zs hf fun _ hK21=>?_;refine Ze (Vn Xt hB19) ?_;refine Zf (Vc (F96 _ u14) Xao) ?_;rintro _ w8 ⟨A22,c22,rfl,ho22,hE⟩;have haw22_6:=ho22.awayNew hB6.lt;replace ho22:=ho22.lower hW.size;replace hB6:=hB6.below hE;replace hB8:=hB8.below hE;replace hB19:=hB19.below hE;replace hW:=btr hW hE;refine Ze (X0y rfl Xg)<|Zm rfl ?_;refine Zt hK21 fun a hf=>?_;refine wp_block ?_;refine Xx (σ:=Nat×(List Int)) (fun (s:Nat×(List Int)) (a:Act) (w:World)=>match s with|(j,o1)=>Fr a 60 [(3,.slice (some ⟨b6,0,none⟩) p.gs.length p.gs.length),(4,.pointer (some ⟨b8,0,none⟩)),(5,vi (k:Int)),(6,.pointer (some ⟨b19,0,none⟩)),(17,.slice Ap p.gs.length cp),(18,vi (p.gs.length:Int)),(19,vi (k:Int)),(25,.slice A22 (qubI u14).length c22),(26,vi ((qubI u14).length:Int)),(27,vi (j:Int))]∧(j≤(qubI u14).length)∧(o1=out.set k (mxq1 best ((qubI u14).take j) 0))∧Blk w b6 3 (o1.flatMap encI)∧Blk w b8 89 (best.flatMap encI)∧Blk w b19 24 [vi u14.k,vi u14.a,vi u14.b]∧Own w w0.heap.size 3 1 encI A22 c22 (qubI u14)∧Below w0.heap.size w0 w) (fun (s:Nat×(List Int))=>match s with|(j,o1)=>(qubI u14).length-j) (0,out) ?_ ?_
  ·exact ⟨hf.sub ⟨rfl,rfl,rfl,rfl,rfl,rfl,rfl,rfl,rfl,rfl,trivial⟩,(Nat.zero_le _),(Xip hok0),hB6,hB8,hB19,ho22,hW⟩
  rintro ⟨j,o1⟩ a w9 ⟨hf,hj,ho1,hB6,hB8,hB19,ho22,hW⟩;refine Zs hf fun _ hK23=>?_;refine Ze (X0l rfl rfl) ?_;refine Zt hK23 fun a hf=>?_;refine wp_seq_k fun _ hK24=>?_
  refine Xe hf rfl (fun hc25=>?_) (fun hc25=>?_)
  ·have hc25b:=hc25;have hc25:=of_decide_eq_true hc25
   obtain ⟨u26,hu26⟩:=Xl (l:=(qubI u14)) (k:=j) (by omega)
   have hq9:=hqb _ (List.mem_of_getElem? hu26);have hms:=Xhn (best:=best) hu26;have hb9:=hbs.at hq9
   have ho9:o1.getD k 0=_:=(congrArg (·.getD k 0) ho1).trans (Xe0 (by omega))
   have ho8:=Xh2 hbs (by omega) (Xlu hqb (j:=j))
   rw [← ho9] at ho8
   have hol1:o1.length=p.gs.length:=by rw [ho1,List.length_set];exact hol
   refine wp_skip ?_;refine hK24 _ _ ?_;refine wp_seq_k fun _ hK27=>?_;refine wp_block ?_;refine Zs hf fun _ hK28=>?_;refine Zi (k:=j) (u:=u26) (enc:=encI) (l:=(qubI u14)) trivial rfl rfl Xg X0h X6 ho22.rd hu26 rfl ?_;intro p30 hat29;refine Ze (X0 rfl X4 hat29)<|Za rfl ?_;refine Zt hK28 fun a hf=>?_;refine X05 none (fun j=>[12].contains j) mixed ?_;intro w10 hE;replace hB6:=hB6.below hE;replace hB8:=hB8.below hE;replace hB19:=hB19.below hE;replace ho22:=ho22.below hE;replace hW:=btr hW hE;refine Yb hf ?_;refine Yo 0 rfl (fun _=>X2 rfl)<|Yo 1 rfl (fun _=>X2 rfl)<|Yo 2 rfl (fun _=>X2 rfl)<|Yo 3 rfl (fun _=>X2 rfl)<|Yo 4 rfl (fun _=>X5s (k:=k) (off:=k*1) rfl rfl Xg X0h rfl (by omega) rfl) ?_;refine Ye 5 rfl (Xf1 (enc:=encI) (l:=o1) (u:=(o1.getD k 0)) (k:=k) rfl X4 hB6 X6 (X34 (by omega)) rfl)<|Yo 6 rfl (fun _=>X2 rfl)<|Yo 7 rfl (fun _=>X5f (k:=(u26).toNat) rfl rfl Tryz.underlying89 X0h (by omega) (by omega) (Nat.zero_add _))<|Ye 8 rfl (Xf1 (enc:=encI) (l:=best) (u:=(best.getD (u26).toNat 0)) (k:=(u26).toNat) rfl X4 hB8 X6 (X34 (by omega)) rfl)<|Yo 9 rfl (fun _=>Xp rfl rfl (by omega) (by omega)) ?_;refine Yo 10 rfl (fun _=>Xtf rfl rfl)<|Yo 11 rfl (fun _=>X5s (k:=k) (off:=k*1) rfl rfl Xg X0h rfl (by omega) rfl) ?_;refine Y1 12 ?_;refine Yh rfl trivial rfl (X6y (enc:=encI) (l:=o1) (u:=max (o1.getD k 0) ((best.getD (u26).toNat 0)+1)) (k:=k) rfl rfl X0h hB6 X6 X1n rfl (by omega)) ?_;rintro _ w11 ⟨ho,hb⟩;have hold:=hB6;replace hB8:=hB8.only ho (Blk.ne hB8 hold rfl);replace hB19:=hB19.only ho (Blk.ne hB19 hold rfl);replace ho22:=ho22.onlyA ho haw22_6;replace hW:=Below.only hW ho hlo6;clear hold;have hB6:=hb;clear hb ho;refine Yd fun a hf=>?_;refine Xd ?_;refine hK27 _ _ ?_;refine Zr hf ?_;refine Ze (Xp rfl rfl (by omega) (by omega))<|Zm rfl ?_
   refine Zn fun a hf=>?_;refine Xc ?_;exact ⟨(j+1,(o1.set k (max (o1.getD k 0) ((best.getD (u26).toNat 0)+1)))),⟨hf.sub ⟨rfl,rfl,rfl,rfl,rfl,rfl,rfl,rfl,rfl,rfl,trivial⟩,(by omega),(by rw [hms,← ho9,ho1,List.set_set,← ho1]),hB6,hB8,hB19,ho22,hW⟩,(by first|omega|(dsimp only;omega))⟩
  have hc25b:=hc25;have hc25:=of_decide_eq_false hc25
  have hd9:o1=out.set k (mxq1 best (qubI u14) 0):=by rw [ho1,List.take_of_length_le (by omega)]
  have ho9:o1.getD k 0=mxq1 best (qubI u14) 0:=by rw [hd9,Xe0 (by omega)]
  have ho8:=Xh2 hbs (by omega) hqb
  rw [← ho9] at ho8
  have hol1:o1.length=p.gs.length:=by rw [hd9,List.length_set];exact hol
  refine wp_exit ?_;refine Xf ?_;refine Xf ?_;refine Xy ?_;refine hK20 _ _ ?_;refine Zs hf fun _ hK31=>?_;refine Ze (Vn Xt hB19) ?_;refine Zf (Vc (F96 _ u14) Xao) ?_;rintro _ w12 ⟨A32,c32,rfl,ho32,hE⟩;have haw32_6:=ho32.awayNew hB6.lt;replace ho32:=ho32.lower hW.size;replace hB6:=hB6.below hE;replace hB8:=hB8.below hE;replace hB19:=hB19.below hE;replace ho22:=ho22.below hE;replace hW:=btr hW hE;refine Ze (X0y rfl Xg)<|Zm rfl ?_;refine Zt hK31 fun a hf=>?_;refine wp_block ?_;refine Xx (σ:=Nat×(List Int)) (fun (s:Nat×(List Int)) (a:Act) (w:World)=>match s with|(i,b2)=>Fr a 60 [(3,.slice (some ⟨b6,0,none⟩) p.gs.length p.gs.length),(4,.pointer (some ⟨b8,0,none⟩)),(5,vi (k:Int)),(17,.slice Ap p.gs.length cp),(18,vi (p.gs.length:Int)),(19,vi (k:Int)),(45,.slice A32 (qubI u14).length c32),(46,vi ((qubI u14).length:Int)),(47,vi (i:Int))]∧(i≤(qubI u14).length)∧(b2=setq best ((qubI u14).take i) (o1.getD k 0))∧Blk w b6 3 (o1.flatMap encI)∧Blk w b8 89 (b2.flatMap encI)∧Own w w0.heap.size 3 1 encI A32 c32 (qubI u14)∧Below w0.heap.size w0 w) (fun (s:Nat×(List Int))=>match s with|(i,b2)=>(qubI u14).length-i) (0,best) ?_ ?_
  ·exact ⟨hf.sub ⟨rfl,rfl,rfl,rfl,rfl,rfl,rfl,rfl,rfl,trivial⟩,(Nat.zero_le _),rfl,hB6,hB8,ho32,hW⟩
  rintro ⟨i,b2⟩ a w13 ⟨hf,hi,hb2,hB6,hB8,ho32,hW⟩;refine Zs hf fun _ hK33=>?_;refine Ze (X0l rfl rfl) ?_;refine Zt hK33 fun a hf=>?_;refine wp_seq_k fun _ hK34=>?_
  refine Xe hf rfl (fun hc35=>?_) (fun hc35=>?_)
  ·have hc35b:=hc35;have hc35:=of_decide_eq_true hc35
   obtain ⟨u36,hu36⟩:=Xl (l:=(qubI u14)) (k:=i) (by omega)
   have hq9:=hqb _ (List.mem_of_getElem? hu36)
   have hl9:b2.length=5:=by rw [hb2,X72];exact hl5
   refine wp_skip ?_;refine hK34 _ _ ?_;refine wp_seq_k fun _ hK37=>?_;refine wp_block ?_;refine Zs hf fun _ hK38=>?_;refine Zi (k:=i) (u:=u36) (enc:=encI) (l:=(qubI u14)) trivial rfl rfl Xg X0h X6 ho32.rd hu36 rfl ?_;intro p40 hat39;refine Ze (X0 rfl X4 hat39)<|Za rfl ?_;refine Zt hK38 fun a hf=>?_;refine Zr hf ?_;refine Zm rfl<|Zm rfl<|Zm rfl<|Ze (X5s (k:=k) (off:=k*1) rfl rfl Xg X0h rfl (by omega) rfl)<|Ze (Xf1 (enc:=encI) (l:=o1) (u:=(o1.getD k 0)) (k:=k) rfl X4 hB6 X6 (X34 (by omega)) rfl) ?_;refine Ze (X5f (k:=(u36).toNat) rfl rfl Tryz.underlying89 X0h (by omega) (by omega) (Nat.zero_add _)) ?_;refine Zo (X6y (enc:=encI) (l:=b2) (u:=(o1.getD k 0)) (k:=(u36).toNat) rfl rfl X0h hB8 X6 X1n rfl (by omega)) ?_;rintro _ w14 ⟨ho,hb⟩;have hold:=hB8;replace hB6:=hB6.only ho (Blk.ne hB6 hold rfl);replace ho32:=ho32.onlyT ho hold rfl;replace hW:=Below.only hW ho hlo8;clear hold;have hB8:=hb;clear hb ho;refine Zn fun a hf=>?_;refine Xd ?_;refine hK37 _ _ ?_;refine Zr hf ?_;refine Ze (Xp rfl rfl (by omega) (by omega))<|Zm rfl ?_;refine Zn fun a hf=>?_;refine Xc ?_;exact ⟨(i+1,(b2.set ((u36).toNat) (o1.getD k 0))),⟨hf.sub ⟨rfl,rfl,rfl,rfl,rfl,rfl,rfl,rfl,rfl,trivial⟩,(by omega),(by rw [Xii hu36,hb2]),hB6,hB8,ho32,hW⟩,(by first|omega|(dsimp only;omega))⟩
  have hc35b:=hc35;have hc35:=of_decide_eq_false hc35
  have hb9:b2=setq best (qubI u14) (o1.getD k 0):=by rw [hb2,List.take_of_length_le (by omega)]
  have hbn:=Xnw hbs hqb (d:=o1.getD k 0) (by omega)
  rw [← hb9] at hbn
  refine wp_exit ?_;refine Xf ?_;refine Xf ?_;refine Xy ?_;refine Xd ?_;refine hK15 _ _ ?_;refine Zr hf ?_;refine Ze (Xp rfl rfl (by omega) (by omega))<|Zm rfl ?_;refine Zn fun a hf=>?_;refine Xc ?_;exact ⟨(k+1,b2,o1),⟨hf.sub ⟨rfl,rfl,rfl,rfl,rfl,trivial⟩,(by omega),hol1,(by rw [hst,← hbz,hb9,ho9,hd9,Xm9 (by omega)];rfl),(by rw [Int.natCast_add];exact hbn),(fun j hj=>by rw [hd9,Xks (by omega)];exact hoz j (by omega)),hB6,hB8,hW⟩,(by first|omega|(dsimp only;omega))⟩
 have hc13b:=hc13;have hc13:=of_decide_eq_false hc13
 have hfin:lyI p.gs=out:=by have h9:=congrArg Prod.snd hbz;rw [List.take_of_length_le (by omega),List.take_of_length_le (by omega)] at h9;exact h9.symm
 refine wp_exit ?_;refine Xf ?_;refine Xf ?_;refine Xy ?_;refine hK9 _ _ ?_;refine Zs hf fun _ hK41=>?_;refine Zm rfl<|Za rfl ?_;refine Zt hK41 fun a hf=>?_
 refine wp_ret (X3 hf (Xq hf rfl rfl) ?_)
 have hmk:out.length=p.gs.length:=hol
 have hmkb:p.gs.length≤maxLen:=by simp only [maxLen];omega
 rw [hfin]
 exact ⟨_,_,by rw [hmk],Own.of_flat X6 hB6 hlo6 hmk hmkb,hW⟩
theorem Xp5(w0:World){Xcd:TypeId}(Acd:Option Addr)(ccd:Nat)(code:List Int)(hr_code:Rd w0 w0.heap.size Xcd encU Acd code)(hcd:∀ x ∈ code,0≤x∧x≤255) : Ret Tryz.prog 56 [.slice Acd code.length ccd] w0 (fun v w=>∃ (c:Cx) (A:Option Addr) (e:Nat),v=.agg #[vi c.n,.slice A c.gs.length e]∧(0≤c.n∧c.n≤6∧c.gs.length≤10)∧Own w w0.heap.size 24 3 encG A e c.gs∧Below w0.heap.size w0 w):=by
 refine enter Tryz.func56 rfl 13 rfl rfl ?_;intro a hf
 have hW:Below w0.heap.size w0 w0:=Below.refl _ _
 refine Zs hf fun _ hK2=>?_;refine Zf (Xa (zs:=[vi 0,.slice none 0 0]) X5t rfl) ?_;rintro _ w1 ⟨b4,rfl,hl4,hE,hB4⟩;have hlo4:=Nat.le_trans hW.size hl4;have haw1_4:=(hr_code.below' hW).away hl4;replace hW:=btr hW hE;refine Zt hK2 fun a hf=>?_;refine Zs hf fun _ hK5=>?_;refine Zm rfl<|Ze (Xz (ps:=[(0,.slice Acd code.length ccd)]) (cs:=[.slice Acd code.length ccd,vi 0,.int .u64 0]) rfl (fun _=>by first|rfl|kernel_rfl)) ?_;refine Zf (X0p (zs:=[.slice Acd code.length ccd,vi 0,.int .u64 0]) rfl rfl) ?_;rintro _ w2 ⟨b7,rfl,hl7,hE,hB7⟩;have hlo7:=Nat.le_trans hW.size hl7;have haw1_7:=(hr_code.below' hW).away hl7;replace hB4:=hB4.below hE;replace hW:=btr hW hE;refine Za rfl ?_;refine Zt hK5 fun a hf=>?_;refine wp_seq_k fun _ hK8=>?_;refine Zs hf fun _ hK9=>?_;refine Zm rfl ?_;refine Zf (Vc (Xcy _ b7 Acd ccd code (hr_code.below' hW).top hcd haw1_7 0 0 hB7 8 (by omega)) X6s) ?_;rintro _ w3 ⟨xz8,tz8,sz8,rfl,hPz8,htz8,hK,hbn⟩;obtain ⟨wm,hO,hm,hE⟩:=hK.mid;clear hm;have hold:=hB7;replace hB4:=hB4.only hO (Blk.ne hB4 hold rfl);replace hW:=Below.only hW hO hlo7;replace hB4:=hB4.below hE;replace hW:=btr hW hE
 clear hold hE hO hK;replace hB7:=hbn;clear hbn;refine Zt hK9 fun a hf=>?_
 refine Xe hf rfl (fun hc10=>?_) (fun hc10=>?_)
 ·have hc10b:=hc10;refine Zs hf fun _ hK11=>?_;refine Zm rfl ?_;refine Zf (Vc (Xuh _ b7 Acd ccd code (hr_code.below' hW).top hcd haw1_7 tz8 sz8 hB7 (by omega)) Xoh) ?_;rintro _ w4 ⟨cz10,Az10,ez10,tz10,sz10,rfl,hPz10,htz10,hoz10,hK,hbn⟩;have hlv:=hW.size;obtain ⟨wm,hO,hm,hE⟩:=hK.mid;clear hm;have hold:=hB7;replace hB4:=hB4.only hO (Blk.ne hB4 hold rfl);replace hW:=Below.only hW hO hlo7;replace hB4:=hB4.below hE;replace hW:=btr hW hE
  clear hold hE hO hK;replace hB7:=hbn;clear hbn
  replace hoz10:=hoz10.lower hlv;clear hlv;refine Zo (Vw [vi cz10.n,.slice Az10 cz10.gs.length ez10] X22 hB4) ?_;rintro _ w5 ⟨ho,hb⟩;have hold:=hB4;replace hB7:=hB7.only ho (Blk.ne hB7 hold rfl);replace hoz10:=hoz10.onlyT ho hold rfl;replace hW:=Below.only hW ho hlo4;clear hold;have hB4:=hb;clear hb ho;refine Zt hK11 fun a hf=>?_;refine wp_ret ?_;refine X5 ?_;refine X3 hf (Xq hf rfl (ResV.cellN (l:=[vi cz10.n,.slice Az10 cz10.gs.length ez10]) rfl X0q (hB4.at 0) rfl)) ?_;exact ⟨_,Az10,ez10,rfl,(by omega),hoz10,hW⟩
 have hc10b:=hc10;refine wp_skip ?_;refine hK8 _ _ ?_;refine Zs hf fun _ hK13=>?_;refine Zm rfl ?_;refine Zf (Vc (Xue _ b7 Acd ccd code (hr_code.below' hW).top hcd haw1_7 tz8 sz8 hB7 10 (by omega) (by omega)) Xn6) ?_;rintro _ w6 ⟨cz12,Az12,ez12,tz12,sz12,rfl,hPz12,htz12,hoz12,hK,hbn⟩;have hlv:=hW.size;obtain ⟨wm,hO,hm,hE⟩:=hK.mid;clear hm;have hold:=hB7;replace hB4:=hB4.only hO (Blk.ne hB4 hold rfl);replace hW:=Below.only hW hO hlo7;replace hB4:=hB4.below hE;replace hW:=btr hW hE
 clear hold hE hO hK;replace hB7:=hbn;clear hbn
 replace hoz12:=hoz12.lower hlv;clear hlv;refine Zo (Vw [vi cz12.n,.slice Az12 cz12.gs.length ez12] X22 hB4) ?_;rintro _ w7 ⟨ho,hb⟩;have hold:=hB4;replace hB7:=hB7.only ho (Blk.ne hB7 hold rfl);replace hoz12:=hoz12.onlyT ho hold rfl;replace hW:=Below.only hW ho hlo4;clear hold;have hB4:=hb;clear hb ho;refine Zt hK13 fun a hf=>?_
 refine wp_ret (X3 hf (Xq hf rfl (ResV.cellN (l:=[vi cz12.n,.slice Az12 cz12.gs.length ez12]) rfl X0q (hB4.at 0) rfl)) ?_)
 exact ⟨_,Az12,ez12,rfl,(by omega),hoz12,hW⟩
end Go.Proofs.YtlfjcmldfbfdbaaGreat
namespace Go.Proofs.YtlfjcmldfbfdbaaGreat
def Done(gs:List Gt)(s:List Int) : Prop:=s.length=gs.length∧∀ i,i<gs.length→faultS gs s i=0
theorem Xco{f:Nat→Int} : ∀ (n i:Nat),(∀ j,i≤j→j<i+n→f j=0)→firstF f n i=(0,0)
 | 0,_,_=>rfl
 | n+1,i,h=>by rw [firstF,if_pos (h i (Nat.le_refl _) (by omega)),Xco n (i+1) fun j h1 h2=>h j (by omega) (by omega)]
theorem X79{gs:List Gt}{s:List Int} : (schedS gs s).1=0↔Done gs s:=by
 unfold schedS Done
 split
 ·rename_i hl
  constructor
  ·intro h;exact ⟨hl,fun i hi=>X66 _ _ h i (Nat.zero_le _) (by omega)⟩
  ·rintro ⟨_,h⟩
   rw [Xco _ _ fun j _ hj=>h j (by omega)]
 ·rename_i hl
  constructor
  ·intro h;cases h
  ·rintro ⟨h,_⟩;exact absurd h hl
def Comm(g h:Gt) : Prop:=∀ v,act g (act h v)=act h (act g v)
theorem Comm.symm{g h:Gt}(hc:Comm g h) : Comm h g:=fun v=>(hc v).symm
theorem Xqz{g h:Gt}(hg:TwoQ g)(hh:TwoQ h)(h12:g.k=12) : Comm g h:=fun v=>Xd5 hg hh (fun q h1=>by
 unfold Sup at h1
 omega) v
theorem Xmy{n:Int}{g h:Gt}(hg:gOk n g=true)(hh:gOk n h=true)(hc:commS g h=true) : Comm g h:=fun v=>funext fun β=>(Xht hg hh).1 hc v β
theorem getDG'{gs:List Gt}{n:Int}(hg:∀ g ∈ gs,gOk n g=true){i:Nat}(hi:i<gs.length) : gOk n (gs.getD i gZ)=true:=hg _ (by
 rw [List.getD_eq_getElem?_getD,List.getElem?_eq_getElem hi]
 exact List.getElem_mem _)
theorem Xaw{gs:List Gt}{s:List Int}(h:Done gs s){i:Nat}(hi:i<gs.length)(hk:(gs.getD i gZ).k≠12) : inR (s.getD i 0) 1 400=true∧Good gs (fun j=>s.getD j 0) i:=by
 have h0:=h.2 i hi
 have hx:inR (s.getD i 0) 1 400=true:=by
  rw [faultS,faultG,if_neg hk] at h0
  split at h0
  ·assumption
  ·cases h0
 exact ⟨hx,(X4n hk hx).1 h0⟩
theorem Xi3{gs:List Gt}{n:Int}(hg:∀ g ∈ gs,gOk n g=true){s:List Int}(h:Done gs s){j i:Nat}(hj:j<i)(hi:i<gs.length)(hlt:s.getD i 0<s.getD j 0) : Comm (gs.getD i gZ) (gs.getD j gZ):=by
 have gi:=getDG' hg hi
 have gj:=getDG' hg (show j<gs.length by omega)
 by_cases hk:(gs.getD i gZ).k=12
 ·exact Xqz (X96 gi).1 (X96 gj).1 hk
 ·have hgd:=(Xaw h hi hk).2 j hj;refine Xmy gi gj ?_
  cases hc:commS (gs.getD i gZ) (gs.getD j gZ)
  ·have:=hgd.1 hc
   dsimp only at this
   omega
  ·rfl
theorem Xe1{g:Gt} : ∀ (L:List Gt),(∀ h ∈ L,Comm g h)→∀ v,act g (run L v)=run L (act g v)
 | [],_,_=>rfl
 | h::L,hL,v=>by
  rw [run,run,Xe1 L fun x hx=>hL x (by simp [hx]),hL h (by simp)]
theorem Xgr{gs:List Gt}{key:Int→Int}{x:Int} : ∀ (l:List Int),Srt key l→(∀ y ∈ l,y<x)→(∀ y ∈ l,key x<key y→Comm (gateAt gs x) (gateAt gs y))→∀ v,run ((insF key x l).map (gateAt gs)) v=run ((l++[x]).map (gateAt gs)) v
 | [],_,_,_,v=>rfl
 | y::l,hs,hlt,hc,v=>by
  rw [insF]
  split
  ·rename_i h
   rw [List.map_cons,run,List.cons_append,List.map_cons,run]
   exact Xgr l (List.Pairwise.of_cons hs) (fun z hz=>hlt z (by simp [hz])) (fun z hz=>hc z (by simp [hz])) _
  ·rename_i h
   have hky:key x<key y:=by
    have:=hlt y (by simp)
    unfold ltK at h
    omega
   have hall:∀ z ∈ y::l,key x<key z:=fun z hz=>by
    rcases List.mem_cons.1 hz with rfl|hz
    ·exact hky
    ·have:=(List.pairwise_cons.1 hs).1 z hz
     unfold ltK at this
     omega
   rw [List.map_cons,run,List.map_append,X8j,List.map_singleton]
   show _=act (gateAt gs x) (run ((y::l).map (gateAt gs)) v)
   rw [Xe1 _ fun g hg=>by
    obtain ⟨z,hz,rfl⟩:=List.mem_map.1 hg
    exact hc z hz (hall z hz)]
theorem Xri{key:Int→Int}(n:Nat) : Srt key (srtF key n):=(X2u n).1
theorem Xdw{gs:List Gt}{key:Int→Int}(hc:∀ i j:Nat,j<i→i<gs.length→key (i:Int)<key (j:Int)→Comm (gateAt gs (i:Int)) (gateAt gs (j:Int))) : ∀ n,n≤gs.length→∀ v,run ((srtF key n).map (gateAt gs)) v=run (gs.take n) v
 | 0,_,v=>rfl
 | n+1,hn,v=>by
  rw [srtF,Xgr (srtF key n) (Xri n) (fun y hy=>(X5b hy).2) (fun y hy hk=>by
   have hb:=X5b hy
   have e:y=((y.toNat:Nat) : Int):=by omega
   rw [e] at hk ⊢
   exact hc n y.toNat (by omega) (by omega) hk),List.map_append,X8j,Xdw hc n (by omega),List.take_succ_eq_append_getElem (by omega),X8j]
  congr 2
  show [gs.getD ((n:Int)).toNat gZ]=_
  rw [Int.toNat_natCast,List.getD_eq_getElem?_getD,List.getElem?_eq_getElem (by omega)]
  rfl
theorem Xk1{gs:List Gt}{n:Int}(hg:∀ g ∈ gs,gOk n g=true){s:List Int}(h:Done gs s)(v:St) : run (sortG (keyS s) gs) v=run gs v:=by
 unfold sortG
 rw [Xdw (fun i j hj hi hk=>by
  unfold keyS at hk
  unfold gateAt
  rw [Int.toNat_natCast,Int.toNat_natCast] at *
  exact Xi3 hg h hj hi hk) gs.length (Nat.le_refl _),List.take_length]
theorem Xla{gs:List Gt}{key:Int→Int}{g:Gt}(h:g ∈ sortG key gs) : g ∈ gs:=by
 obtain ⟨x,hx,rfl⟩:=List.mem_map.1 h
 have:=X5b hx
 unfold gateAt
 rw [List.getD_eq_getElem?_getD,List.getElem?_eq_getElem (by omega)]
 exact List.getElem_mem _
theorem Xmj{l m:List Gt}(h:l.Perm m) : hs l=hs m:=by
 induction h with
 | nil=>rfl
 | cons x _ ih=>rw [hs,hs,ih]
 | swap x y l=>rw [hs,hs,hs,hs];omega
 | trans _ _ h1 h2=>rw [h1,h2]
theorem Xb4(gs:List Gt)(key:Int→Int) : ∀ n,n≤gs.length→((srtF key n).map (gateAt gs)).Perm (gs.take n)
 | 0,_=>List.Perm.refl _
 | n+1,hn=>by
  have h1:=((X5e (key:=key) (x:=(n:Int)) (srtF key n)).map (gateAt gs))
  rw [List.map_append] at h1
  refine h1.trans ?_
  rw [List.take_succ_eq_append_getElem (by omega)]
  refine (Xb4 gs key n (by omega)).append ?_
  have:[(n:Int)].map (gateAt gs)=[gs[n]]:=by
   show [gs.getD ((n:Int)).toNat gZ]=_
   rw [Int.toNat_natCast,List.getD_eq_getElem?_getD,List.getElem?_eq_getElem (by omega)]
   rfl
  rw [this]
theorem X88{c:Cx}(hc:cOk c=true)(hl:c.gs.length≤23){s:List Int}(h:Done c.gs s) : ∃ A B,opI c=some A∧opI (sortC (keyS s) c)=some B∧eqM A B=true∧A.cells.length≤2305843009213693951:=by
 obtain ⟨hn,hl4,hg⟩:=X0x hc
 have hp:(sortG (keyS s) c.gs).Perm c.gs:=by
  have:=Xb4 c.gs (keyS s) c.gs.length (Nat.le_refl _)
  rwa [List.take_length] at this
 have hc2:cOk (sortC (keyS s) c)=true:=Xqs hn (by show (sortG (keyS s) c.gs).length≤400;rw [Xaq];exact hl4) fun g hgm=>hg g (Xla hgm)
 have hh:=Xow c.gs
 have hse:hs (sortG (keyS s) c.gs)=hs c.gs:=Xmj hp
 obtain ⟨A,hA⟩:=Xc7 hc (by omega)
 obtain ⟨B,hB⟩:=Xc7 hc2 (by show hs (sortG (keyS s) c.gs)≤23;omega)
 obtain ⟨N,hN⟩ : ∃ N:Nat,c.n=N:=⟨c.n.toNat,by omega⟩
 obtain ⟨v1,m1,r1,q1⟩:=Xjq hN hA;obtain ⟨v2,m2,r2,q2⟩:=Xjq (c:=sortC (keyS s) c) hN hB
 refine ⟨A,B,hA,hB,(Xh1 m1 m2 r1 r2 q1 q2).2 fun i j hi hj=>?_,Xfq m1⟩
 have e1:=v1 i j hi hj
 have e2:=v2 i j hi hj
 have e3:run (sortC (keyS s) c).gs (eb N j) (pt N i)=run c.gs (eb N j) (pt N i):=by
  show run (sortG (keyS s) c.gs) _ _=_
  rw [Xk1 hg h]
 have e4:hs (sortC (keyS s) c).gs=hs c.gs:=hse
 rw [e3,e4] at e2
 exact Xpa (Mx.at_ok (X2f m1) i j) (Mx.at_ok (X2f m2) i j) e1 e2
theorem Xcq{gs:List Gt} : ∀ (n i:Nat),i<n→(lyS gs n).getD i 0=cmx gs (gs.getD i gZ) (lyS gs i) i+notW (gs.getD i gZ).k
 | 0,i,h=>by omega
 | n+1,i,h=>by
  rw [lyS,Xmm (X35 gs n)]
  split
  ·exact Xcq n i (by assumption)
  ·rename_i h2
   obtain rfl:i=n:=by omega
   rw [if_pos rfl]
theorem Xfs{gs:List Gt}{n i j:Nat}(hj:j<i)(hi:i≤n) : (lyS gs n).getD j 0=(lyS gs i).getD j 0:=by rw [Xcq n j (by omega),Xcq i j hj]
theorem Xpj{gs:List Gt} : ∀ (n:Nat),∀ j,j<n→0≤(lyS gs n).getD j 0∧(lyS gs n).getD j 0≤(n:Int)
 | 0,j,h=>by omega
 | n+1,j,h=>by
  have hb:0≤cmx gs (gs.getD j gZ) (lyS gs j) j∧cmx gs (gs.getD j gZ) (lyS gs j) j≤(n:Int):=by
   refine ⟨((X4u gs _ _ _ j).1 (Int.le_refl _)).1,(X4u gs _ _ _ j).2 ⟨by omega,fun t ht _=>?_⟩⟩
   rw [← Xfs ht (show j≤n by omega)]
   exact (Xpj n t (by omega)).2
  rw [Xcq (n+1) j h]
  unfold notW
  split<;>omega
theorem Xn4{c:Cx}(hc:cOk c=true) : Done c.gs (lyS c.gs c.gs.length):=by
 obtain ⟨hn,hl4,hg⟩:=X0x hc
 refine ⟨X35 _ _,fun i hi=>?_⟩
 have hx:=Xcq (gs:=c.gs) c.gs.length i hi
 by_cases hk:(c.gs.getD i gZ).k=12
 ·rw [faultS,faultG,if_pos hk,if_pos]
  rw [hx]
  have:cmx c.gs (c.gs.getD i gZ) (lyS c.gs i) i=0:=Xbi fun v=>by
   rw [X4u]
   exact ⟨fun h=>h.1,fun h=>⟨h,fun j _ hcj=>by rw [Xdj hk] at hcj;cases hcj⟩⟩
  rw [this]
  unfold notW
  rw [hk];rfl
 ·have hb:=Xpj (gs:=c.gs) c.gs.length i hi
  have hnw:notW (c.gs.getD i gZ).k=1:=by unfold notW;rw [if_pos (by simpa using hk)]
  rw [hnw] at hx
  have hm:=(X4u c.gs (c.gs.getD i gZ) (lyS c.gs i) _ i).1 (Int.le_refl _)
  refine (X4n hk (Xo.2 (by omega))).2 fun j hj=>⟨fun hcm=>?_,fun he=>?_⟩
  ·have hcs:comS (c.gs.getD i gZ) (c.gs.getD j gZ)=true:=by
    cases h:comS (c.gs.getD i gZ) (c.gs.getD j gZ)
    ·rw [X9j h] at hcm;cases hcm
    ·rfl
   have:=hm.2 j hj hcs
   dsimp only
   rw [hx,Xfs hj (show i≤c.gs.length by omega)]
   omega
  ·cases h:comS (c.gs.getD i gZ) (c.gs.getD j gZ)
   ·rfl
   ·have:=hm.2 j hj h
    dsimp only at he
    rw [hx,Xfs hj (show i≤c.gs.length by omega)] at he
    omega
structure SInv (gs:List Gt) (out:List Int) : Prop where
 ord:∀ i j,i<gs.length→j<i→out.getD i 0≠0→commI (gs.getD j gZ) (gs.getD i gZ)=false→out.getD j 0≠0∧out.getD j 0<out.getD i 0
 qub:∀ i j,i<gs.length→j<gs.length→j≠i→out.getD i 0≠0→out.getD j 0=out.getD i 0→comI (gs.getD j gZ) (gs.getD i gZ)=false
theorem SInv.start(gs:List Gt)(n:Nat) : SInv gs (List.replicate n 0):=by
 have h0:∀ i,(List.replicate n (0:Int)).getD i 0=0:=fun i=>by
  rw [List.getD_eq_getElem?_getD]
  by_cases h:i<n
  ·rw [List.getElem?_replicate_of_lt h];rfl
  ·rw [List.getElem?_eq_none (by simp;omega)];rfl
 exact ⟨fun i j _ _ h=>absurd (h0 i) h,fun i j _ _ _ h=>absurd (h0 i) h⟩
theorem Xi4{gs:List Gt}{i:Nat}{k:Int}{out:List Int}(h:fitsI gs i k out=true) : (∀ j,j<gs.length→j<i→commI (gs.getD j gZ) (gs.getD i gZ)=false→out.getD j 0≠0∧out.getD j 0<k)∧
  (∀ j,j<gs.length→j≠i→out.getD j 0=k→comI (gs.getD j gZ) (gs.getD i gZ)=false):=by
 unfold fitsI at h
 simp only [Bool.not_eq_true',List.any_eq_false,List.mem_range] at h
 constructor
 ·intro j hj hji hc;have h1:=h j hj
  unfold fitC fitA at h1
  simp only [Bool.or_eq_true,Bool.and_eq_true,decide_eq_true_eq,Bool.not_eq_true',beq_iff_eq,not_or] at h1
  have h2:¬ (out.getD j 0=0∨k≤out.getD j 0):=fun h3=>h1.1 ⟨⟨hji,hc⟩,h3⟩
  exact ⟨fun e=>h2 (.inl e),by omega⟩
 ·intro j hj hji he;have h1:=h j hj
  unfold fitC fitB at h1
  simp only [Bool.or_eq_true,Bool.and_eq_true,decide_eq_true_eq,beq_iff_eq,not_or] at h1
  cases hcc:comI (gs.getD j gZ) (gs.getD i gZ)
  ·rfl
  ·exact absurd ⟨⟨hji,he⟩,hcc⟩ h1.2
theorem SInv.step{gs:List Gt}{out:List Int}(h:SInv gs out)(hl:out.length=gs.length){k:Int}(hk:1≤k){i:Nat}(hi:i<gs.length) : SInv gs (stepI gs k out i):=by
 unfold stepI
 split
 ·rename_i hm
  unfold mayI at hm
  simp only [Bool.and_eq_true,beq_iff_eq,bne_iff_ne] at hm
  obtain ⟨⟨_,hz⟩,hf⟩:=hm;obtain ⟨f1,f2⟩:=Xi4 hf
  have hgd:∀ t,(out.set i k).getD t 0=if t=i then k else out.getD t 0:=fun t=>X93 (by omega)
  refine ⟨fun a b ha hb hne hc=>?_,fun a b ha hb hba hne he=>?_⟩
  ·rw [hgd] at hne ⊢
   rw [hgd]
   by_cases e:a=i
   ·subst e
    rw [if_pos rfl] at hne ⊢
    rw [if_neg (by omega)]
    exact f1 b (by omega) hb hc
   ·rw [if_neg e] at hne ⊢
    have h1:=h.ord a b ha hb hne hc
    by_cases e2:b=i
    ·subst e2;exact absurd hz h1.1
    ·rw [if_neg e2];exact h1
  ·rw [hgd] at hne he
   rw [hgd] at he
   by_cases e:a=i
   ·subst e
    rw [if_pos rfl,if_neg hba] at he
    exact f2 b hb hba he
   ·rw [if_neg e] at hne he
    by_cases e2:b=i
    ·subst e2
     rw [if_pos rfl] at he
     have:=f2 a ha e he.symm
     have hs:comI (gs.getD b gZ) (gs.getD a gZ)=comI (gs.getD a gZ) (gs.getD b gZ):=by rw [← X4l (gs.getD a gZ),Xb6,X4l]
     rw [hs];exact this
    ·rw [if_neg e2] at he
     exact h.qub a b ha hb hba hne he
 ·exact h
theorem SInv.sweep{gs:List Gt}{k:Int}{out:List Int}(h:SInv gs out)(hS:SchM gs k out)(hk:1≤k) : ∀ i,i≤gs.length→SInv gs (sweepN gs k out i)
 | 0,_=>h
 | i+1,hi=>by
  rw [X2e]
  exact (SInv.sweep h hS hk i (by omega)).step (hS.sweep hk i (by omega)).len hk (by omega)
theorem Xga{gs:List Gt} : ∀ (f:Nat) (k:Int) (out:List Int),Sch gs k out→1≤k→cntZ gs out≤f→SInv gs out→k+(f:Int)≤(gs.length:Int)+1→
  ∃ k',Sch gs k' (runI gs f k out)∧k'≤(gs.length:Int)+1∧SInv gs (runI gs f k out)∧cntZ gs (runI gs f k out)=0
 | 0,k,out,hS,hk,hc,hI,hb=>⟨k,hS,by omega,hI,Nat.le_zero.1 hc⟩
 | f+1,k,out,hS,hk,hc,hI,hb=>by
  by_cases h0:cntZ gs out=0
  ·rw [runI,if_pos h0]
   exact ⟨k,hS,by omega,hI,h0⟩
  ·obtain ⟨f',hf',_,hcn,hSn⟩:=Xbr hS hk hc rfl (by omega)
   obtain rfl:f=f':=by omega
   rw [runI,if_neg h0]
   exact Xga f (k+1) _ hSn (by omega) hcn (hI.sweep hS.mid hk _ (Nat.le_refl _)) (by omega)
theorem Xfy:∀ {gs:List Gt} {xs:List Int},xs.length=gs.length→cntZ gs xs=0→∀ i,i<gs.length→(gs.getD i gZ).k≠12→xs.getD i 0≠0
 | [],_,_,_,i,hi,_=>by simp at hi
 | g::gs,[],hl,_,_,_,_=>by simp at hl
 | g::gs,x::xs,hl,hc,i,hi,hk=>by
  unfold cntZ at hc
  cases i with
  | zero=>
   intro e
   rw [if_pos ⟨hk,e⟩] at hc
   omega
  | succ i=>
   exact Xfy (gs:=gs) (xs:=xs) (by simpa using hl) (by omega) i (by simpa using hi) hk
theorem X6a{c:Cx}(hc:cOk c=true) : Done c.gs (schedOf c):=by
 obtain ⟨hn,hl4,hg⟩:=X0x hc
 obtain ⟨k',hS,hk',hI,h0⟩:=Xga (gs:=c.gs) c.gs.length 1 (List.replicate c.gs.length 0) (X9n _) (Int.le_refl _) (X58 _ _) (SInv.start _ _) (by omega)
 have e:schedOf c=runI c.gs c.gs.length 1 (List.replicate c.gs.length 0):=by unfold schedOf;rw [if_pos hc]
 rw [e]
 generalize runI c.gs c.gs.length 1 (List.replicate c.gs.length 0)=out at *
 refine ⟨hS.len,fun i hi=>?_⟩
 by_cases hk:(c.gs.getD i gZ).k=12
 ·rw [faultS,faultG,if_pos hk,if_pos (hS.w i hi hk)]
 ·have hne:=Xfy hS.len h0 i hi hk;have hlow:=hS.low i hi
  refine (X4n hk (Xo.2 (by omega))).2 fun j hj=>⟨fun hcm=>?_,fun he=>?_⟩
  ·have gi:=getDG' hg hi
   have gj:=getDG' hg (show j<c.gs.length by omega)
   have:=hI.ord i j hi hj hne (by rw [X8k gi gj];exact hcm)
   exact this.2
  ·have:=hI.qub i j hi (by omega) (by omega) hne he
   rw [X4l]
   exact this
theorem Xln{gs:List Gt}{s:List Int}(h:Done gs s)(hl:gs.length≤400){m:Int}(h0:0≤m)(hm:∀ x ∈ s,x≤m)(hleast:∀ j,j<leastL gs→¬ SchP gs j) : (leastL gs:Int)≤m:=by
 have hS:SchP gs m.toNat:=X6f (f:=fun i=>s.getD i 0) fun i hi hk=>by
  obtain ⟨h1,h2⟩:=Xaw h hi hk;have h3:=Xo.1 h1
  refine ⟨h3.1,?_,h2⟩
  have:=hm (s.getD i 0) (by
   rw [List.getD_eq_getElem?_getD,List.getElem?_eq_getElem (by rw [h.1];exact hi)]
   exact List.getElem_mem _)
  dsimp only
  omega
 rcases Nat.lt_or_ge m.toNat (leastL gs) with h4|h4
 ·exact absurd hS (hleast _ h4)
 ·omega
theorem Xls{p q:List Int}{k:Nat}{u v:Int}(h:p.take k=q.take k)(hu:p[k]? = some u)(hv:q[k]? = some v)(he:u=v) : p.take (k+1)=q.take (k+1):=by
 obtain ⟨h1,h2⟩:=List.getElem?_eq_some_iff.1 hu;obtain ⟨h3,h4⟩:=List.getElem?_eq_some_iff.1 hv
 rw [List.take_succ_eq_append_getElem h1,List.take_succ_eq_append_getElem h3,h,h2,h4,he]
theorem Xob{p q:Cx}{A B:Mx}(h1:opI p=some A)(h2:opI q=some B)(h3:eqM A B=true) :
  (((opI p).isSome&&(opI q).isSome)&&(decide (((opI p).getD mZ).rows=((opI q).getD mZ).rows)&&decide (((opI p).getD mZ).cols=((opI q).getD mZ).cols)&&decide (((opI p).getD mZ).cells=((opI q).getD mZ).cells)))=true:=by
 rw [h1,h2]
 unfold eqM at h3
 simpa using h3
def lyD(c:Cx) : List Int:=if cOk c=true then lyI c.gs else []
theorem Xej{c:Cx}(hc:cOk c=true) : Done c.gs (lyD c):=by
 unfold lyD
 rw [if_pos hc,Xpi (X0x hc).2.2]
 exact Xn4 hc
theorem Xpy(c:Cx) : (lyD c).length≤400:=by
 unfold lyD
 split
 ·rename_i hc
  rw [Xpi (X0x hc).2.2,X35]
  exact (X0x hc).2.1
 ·exact Nat.zero_le _
theorem Xaa{c:Cx}(hc:cOk c=true){s:List Int}(h:Done c.gs s) : (implC c s).1=0∧(implC c s).2.2=true:=by
 have e:=X5j (c:=c) (s:=s)
 rw [e.1,e.2,if_pos hc]
 exact ⟨X79.2 h,hc⟩
theorem Xhl{c:Cx}{s:List Int}(h:((implC c s).2.2&&((implC c s).1==0))=true) : cOk c=true∧Done c.gs s:=by
 have e:=X5j (c:=c) (s:=s)
 simp only [Bool.and_eq_true,beq_iff_eq] at h
 rw [e.1,e.2] at h
 have h2:=h.2
 rw [if_pos h.1] at h2
 exact ⟨h.1,X79.1 h2⟩
theorem Xp6{c:Cx}(hc:cOk c=true){s:List Int}(h:Done c.gs s){m:Int}(h0:0≤m)(hm:∀ x ∈ s,x≤m) : llI c≤m:=by
 have hl:=(X0x hc).2.1
 unfold llI
 split
 ·exact Xln h hl h0 hm fun j hj hS=>by
   have h1:=X80 hl;have h2:=h1.2.2 j hj
   rw [(X7b (by omega)).2 hS] at h2
   cases h2
 ·exact h0
theorem Xl7{c:Cx}(hc:cOk c=true)(hl:c.gs.length≤23){s:List Int}(h:Done c.gs s) : scO c s=some (sortC (keyS s) c)∧(3<c.n∨∃ A B,opI c=some A∧opI ((scO c s).getD cZ)=some B∧eqM A B=true∧A.cells.length≤2305843009213693951):=by
 have e:=X8v hc (X79.2 h)
 refine ⟨e,.inr ?_⟩
 rw [e,Option.getD_some]
 exact X88 hc hl h
theorem Xmn{c:Cx}(hc:cOk c=true){s:List Int}(h:Done c.gs s) : ((scO c s).getD cZ).gs.length=c.gs.length:=by
 rw [X8v hc (X79.2 h),Option.getD_some]
 exact Xaq
end Go.Proofs.YtlfjcmldfbfdbaaGreat
namespace Go.Proofs.YtlfjcmldfbfdbaaGreat
open Go.RowKit
theorem Xtw(w0:World){Xcd:TypeId}(Acd:Option Addr)(ccd:Nat)(code:List Int)(hr_code:Rd w0 w0.heap.size Xcd encU Acd code)(hcd:∀ x ∈ code,0≤x∧x≤255) : Ret Tryz.prog 34 [.slice Acd code.length ccd] w0 (fun v w=>∃ (c:Cx) (A:Option Addr) (e:Nat),v=.agg #[vi c.n,.slice A c.gs.length e]∧(0≤c.n∧c.n≤6∧c.gs.length≤10)∧Own w w0.heap.size 24 3 encG A e c.gs∧Below w0.heap.size w0 w):=by
 refine enter Tryz.func34 rfl 5 rfl rfl ?_;intro a hf
 have hW:Below w0.heap.size w0 w0:=Below.refl _ _
 refine Zs hf fun _ hK2=>?_;refine Zf (Xa (zs:=[vi 0,.slice none 0 0]) X5t rfl) ?_;rintro _ w1 ⟨b4,rfl,hl4,hE,hB4⟩;have hlo4:=Nat.le_trans hW.size hl4;have haw1_4:=(hr_code.below' hW).away hl4;replace hW:=btr hW hE;refine Zt hK2 fun a hf=>?_;refine Zs hf fun _ hK5=>?_;refine Zm rfl ?_;refine Zf (Vc (Xp5 _ Acd ccd code (hr_code.below' hW).top hcd) Xgm) ?_;rintro _ w2 ⟨cz4,Az4,ez4,rfl,hPz4,hoz4,hE⟩;replace hoz4:=hoz4.lower hW.size;replace hB4:=hB4.below hE;replace hW:=btr hW hE;refine Zo (Vw [vi cz4.n,.slice Az4 cz4.gs.length ez4] X22 hB4) ?_;rintro _ w3 ⟨ho,hb⟩;have hold:=hB4;replace hoz4:=hoz4.onlyT ho hold rfl;replace hW:=Below.only hW ho hlo4;clear hold;have hB4:=hb;clear hb ho;refine Zt hK5 fun a hf=>?_
 refine wp_ret (X3 hf (Xq hf rfl (ResV.cellN (l:=[vi cz4.n,.slice Az4 cz4.gs.length ez4]) rfl X0q (hB4.at 0) rfl)) ?_)
 exact ⟨_,Az4,ez4,rfl,hPz4,hoz4,hW⟩
theorem Xuj(w0:World)(Ap:Option Addr)(cp:Nat)(p:List Int)(hr_p:Rd w0 w0.heap.size 3 encI Ap p)(Aq:Option Addr)(cq:Nat)(q:List Int)(hr_q:Rd w0 w0.heap.size 3 encI Aq q)(hln:p.length≤2305843009213693951) : Ret Tryz.prog 40 [.slice Ap p.length cp,.slice Aq q.length cq] w0 (fun v w=>v=.bool (decide (p=q))∧Below w0.heap.size w0 w):=by
 refine enter Tryz.func40 rfl 26 rfl rfl ?_;intro a hf
 have hW:Below w0.heap.size w0 w0:=Below.refl _ _
 refine Zs hf fun _ hK3=>?_;refine Za rfl ?_;refine Zt hK3 fun a hf=>?_;refine wp_seq_k fun _ hK4=>?_;refine Zs hf fun _ hK5=>?_;refine Zm rfl<|Ze (X0y rfl Xg)<|Zm rfl<|Ze (X0y rfl Xg)<|Ze (X29 rfl rfl) ?_;refine Zt hK5 fun a hf=>?_
 refine Xe hf rfl (fun hc6=>?_) (fun hc6=>?_)
 ·have hc6b:=hc6
  have hne:¬ p=q:=by intro h9;rw [h9] at hc6;simp at hc6
  refine Zs hf fun _ hK7=>?_;refine Za rfl ?_;refine Zt hK7 fun a hf=>?_;refine wp_ret ?_;refine X5 ?_;refine X3 hf (Xq hf rfl rfl) ?_;exact ⟨by simp [hne],hW⟩
 have hc6b:=hc6
 have hll:p.length=q.length:=by have h9:(p.length:Int)=q.length:=(by simpa using hc6);omega
 refine wp_skip ?_;refine hK4 _ _ ?_;refine wp_seq_k fun _ hK8=>?_;refine Zs hf fun _ hK9=>?_;refine Zm rfl<|Ze (X0y rfl Xg)<|Zm rfl ?_;refine Zt hK9 fun a hf=>?_;refine wp_block ?_;refine Xx (σ:=Nat) (fun (k:Nat) (a:Act) (w:World)=>Fr a 26 [(0,.slice Ap p.length cp),(1,.slice Aq q.length cq),(12,vi (p.length:Int)),(13,vi (k:Int))]∧(k≤p.length)∧(p.take k=q.take k)∧Below w0.heap.size w0 w) (fun (k:Nat)=>p.length-k) 0 ?_ ?_
 ·exact ⟨hf.sub ⟨rfl,rfl,rfl,rfl,trivial⟩,(Nat.zero_le _),(by simp),hW⟩
 rintro k a w1 ⟨hf,hk,hpre,hW⟩;refine Zs hf fun _ hK10=>?_;refine Ze (X0l rfl rfl) ?_;refine Zt hK10 fun a hf=>?_;refine wp_seq_k fun _ hK11=>?_
 refine Xe hf rfl (fun hc12=>?_) (fun hc12=>?_)
 ·have hc12b:=hc12;have hc12:=of_decide_eq_true hc12
  obtain ⟨u13,hu13⟩:=Xl (l:=p) (k:=k) (by omega)
  obtain ⟨v9,hv9⟩:=Xl (l:=q) (k:=k) (by omega)
  refine wp_skip ?_;refine hK11 _ _ ?_;refine wp_seq_k fun _ hK14=>?_;refine wp_block ?_;refine Zs hf fun _ hK15=>?_;refine Zm rfl<|Za rfl ?_;refine Zt hK15 fun a hf=>?_;refine wp_seq_k fun _ hK16=>?_;refine X05 none (fun _=>false) mixed ?_;intro w2 hE;replace hW:=btr hW hE;refine Yb hf ?_;refine Yo 0 rfl (fun _=>X2 rfl)<|Yo 1 rfl (fun _=>X2 rfl) ?_;refine Yi (k:=k) (u:=u13) (enc:=encI) (l:=p) 2 rfl trivial rfl rfl Xg X0h X6 (hr_p.below' hW) hu13 rfl ?_;intro p18 hat17;refine Ye 3 rfl (X0 rfl X4 hat17)<|Yo 4 rfl (fun _=>X2 rfl)<|Yo 5 rfl (fun _=>X2 rfl) ?_;refine Yi (k:=k) (u:=v9) (enc:=encI) (l:=q) 6 rfl trivial rfl rfl Xg X0h X6 (hr_q.below' hW) hv9 rfl ?_;intro p20 hat19;refine Ye 7 rfl (X0 rfl X4 hat19)<|Yo 8 rfl (fun _=>X29 rfl rfl) ?_;refine Yd fun a hf=>?_;refine hK16 _ _ ?_
  refine Xe hf rfl (fun hc21=>?_) (fun hc21=>?_)
  ·have hc21b:=hc21
   have hne:¬ p=q:=by rintro rfl;rw [hu13] at hv9;injection hv9 with e9;revert hc21;simp [e9]
   refine Zs hf fun _ hK22=>?_;refine Za rfl ?_;refine Zt hK22 fun a hf=>?_;refine wp_ret ?_;refine Xr ?_;refine X5 ?_;refine X5 ?_;refine Xr ?_;refine X5 ?_;refine X3 hf (Xq hf rfl rfl) ?_;exact ⟨by simp [hne],hW⟩
  have hc21b:=hc21
  have he9:u13=v9:=by revert hc21;simp
  refine wp_skip ?_;refine Xd ?_;refine hK14 _ _ ?_;refine Zr hf ?_;refine Ze (Xp rfl rfl (by omega) (by omega))<|Zm rfl ?_;refine Zn fun a hf=>?_;refine Xc ?_;exact ⟨k+1,⟨hf.sub ⟨rfl,rfl,rfl,rfl,trivial⟩,(by omega),(Xls hpre hu13 hv9 he9),hW⟩,(by omega)⟩
 have hc12b:=hc12;have hc12:=of_decide_eq_false hc12;refine wp_exit ?_;refine Xf ?_;refine Xf ?_;refine Xy ?_;refine hK8 _ _ ?_;refine Zs hf fun _ hK23=>?_;refine Za rfl ?_;refine Zt hK23 fun a hf=>?_
 refine wp_ret (X3 hf (Xq hf rfl rfl) ?_)
 have he:p=q:=by rw [List.take_of_length_le (by omega),List.take_of_length_le (by omega)] at hpre;exact hpre
 exact ⟨by simp [he],hW⟩
theorem Xt5(w0:World)(p:Cx)(Ap:Option Addr)(cp:Nat)(hr_p:Rd w0 w0.heap.size 24 encG Ap p.gs)(q:Cx)(Aq:Option Addr)(cq:Nat)(hr_q:Rd w0 w0.heap.size 24 encG Aq q.gs)(hlp:p.gs.length≤2305843009213693951)(hlq:q.gs.length≤2305843009213693951)(hx:3<p.n∨∃ A B,opI p=some A∧opI q=some B∧eqM A B=true∧A.cells.length≤2305843009213693951) : Ret Tryz.prog 42 [.agg #[vi p.n,.slice Ap p.gs.length cp],.agg #[vi q.n,.slice Aq q.gs.length cq]] w0 (fun v w=>v=.bool true∧Below w0.heap.size w0 w):=by
 refine enter Tryz.func42 rfl 31 rfl rfl ?_;intro a hf
 have hW:Below w0.heap.size w0 w0:=Below.refl _ _
 refine Zs hf fun _ hK3=>?_;refine Zf (X0p (zs:=[vi p.n,.slice Ap p.gs.length cp]) rfl rfl) ?_;rintro _ w1 ⟨b4,rfl,hl4,hE,hB4⟩;have hlo4:=Nat.le_trans hW.size hl4;replace hW:=btr hW hE;refine Zf (X0p (zs:=[vi q.n,.slice Aq q.gs.length cq]) rfl rfl) ?_;rintro _ w2 ⟨b5,rfl,hl5,hE,hB5⟩
 have hne4_5:b4≠b5:=by have:=hB4.lt;omega
 have hlo5:=Nat.le_trans hW.size hl5;replace hB4:=hB4.below hE;replace hW:=btr hW hE;refine Za rfl ?_;refine Zt hK3 fun a hf=>?_;refine wp_seq_k fun _ hK6=>?_;refine Zs hf fun _ hK7=>?_;refine Ze (Vd rfl X3h 0)<|Ze (X0 rfl X4 (hB4.at 0))<|Ze (X3e rfl rfl) ?_;refine Zt hK7 fun a hf=>?_
 refine Xe hf rfl (fun hc8=>?_) (fun hc8=>?_)
 ·have hc8b:=hc8;have hc8:=of_decide_eq_true hc8;refine Zs hf fun _ hK9=>?_;refine Za rfl ?_;refine Zt hK9 fun a hf=>?_;refine wp_ret ?_;refine X5 ?_;refine X3 hf (Xq hf rfl rfl) ?_;exact ⟨rfl,hW⟩
 have hc8b:=hc8;have hc8:=of_decide_eq_false hc8
 obtain ⟨A9,B9,hm1,hm2,hm3,hm4⟩:=hx.resolve_left (by omega)
 refine wp_skip ?_;refine hK6 _ _ ?_;refine Zs hf fun _ hK10=>?_;refine Ze (Vn X0q hB4) ?_;refine Zf (Vc (F97 _ p Ap cp (hr_p.below' hW).top hlp) Xeu) ?_;rintro _ w3 ⟨A11,c11,rfl,hr11,hE⟩;replace hB4:=hB4.below hE;replace hB5:=hB5.below hE;replace hW:=btr hW hE;refine Zm rfl<|Ze (X8 (vs:=[.agg #[vi (((opI p).getD mZ).rows),vi (((opI p).getD mZ).cols),.slice A11 (((opI p).getD mZ).cells).length c11],.bool ((opI p).isSome)]) rfl rfl)<|Ze (X8 (vs:=[.agg #[vi (((opI p).getD mZ).rows),vi (((opI p).getD mZ).cols),.slice A11 (((opI p).getD mZ).cells).length c11],.bool ((opI p).isSome)]) rfl rfl) ?_;refine Zf (Xa (zs:=[vi 0,vi 0,.slice none 0 0]) X1a rfl) ?_;rintro _ w4 ⟨b13,rfl,hl13,hE,hB13⟩;have hlo13:=Nat.le_trans hW.size hl13;replace hB4:=hB4.below hE;replace hB5:=hB5.below hE;replace hr11:=hr11.below hE;replace hW:=btr hW hE;refine Zo (Vw [vi (((opI p).getD mZ).rows),vi (((opI p).getD mZ).cols),.slice A11 (((opI p).getD mZ).cells).length c11] X1j hB13) ?_;rintro _ w5 ⟨ho,hb⟩;have hold:=hB13;replace hB4:=hB4.only ho (Blk.ne hB4 hold rfl);replace hB5:=hB5.only ho (Blk.ne hB5 hold rfl);replace hr11:=hr11.onlyT ho hold rfl;replace hW:=Below.only hW ho hlo13;clear hold;have hB13:=hb;clear hb ho;refine Za rfl ?_;refine Zt hK10 fun a hf=>?_;refine Zs hf fun _ hK14=>?_;refine Ze (Vn X0q hB5) ?_;refine Zf (Vc (F97 _ q Aq cq (hr_q.below' hW).top hlq) Xeu) ?_;rintro _ w6 ⟨A15,c15,rfl,hr15,hE⟩;replace hB5:=hB5.below hE;replace hB13:=hB13.below hE;replace hr11:=hr11.below hE;replace hW:=btr hW hE;refine Zm rfl<|Ze (X8 (vs:=[.agg #[vi (((opI q).getD mZ).rows),vi (((opI q).getD mZ).cols),.slice A15 (((opI q).getD mZ).cells).length c15],.bool ((opI q).isSome)]) rfl rfl)<|Ze (X8 (vs:=[.agg #[vi (((opI q).getD mZ).rows),vi (((opI q).getD mZ).cols),.slice A15 (((opI q).getD mZ).cells).length c15],.bool ((opI q).isSome)]) rfl rfl) ?_
 refine Zf (Xa (zs:=[vi 0,vi 0,.slice none 0 0]) X1a rfl) ?_;rintro _ w7 ⟨b17,rfl,hl17,hE,hB17⟩
 have hne13_17:b13≠b17:=by have:=hB13.lt;omega
 have hlo17:=Nat.le_trans hW.size hl17;replace hB5:=hB5.below hE;replace hB13:=hB13.below hE;replace hr11:=hr11.below hE;replace hr15:=hr15.below hE;replace hW:=btr hW hE;refine Zo (Vw [vi (((opI q).getD mZ).rows),vi (((opI q).getD mZ).cols),.slice A15 (((opI q).getD mZ).cells).length c15] X1j hB17) ?_;rintro _ w8 ⟨ho,hb⟩;have hold:=hB17;replace hB5:=hB5.only ho (Blk.ne hB5 hold rfl);replace hB13:=hB13.only ho (by omega);replace hr11:=hr11.onlyT ho hold rfl;replace hr15:=hr15.onlyT ho hold rfl;replace hW:=Below.only hW ho hlo17;clear hold;have hB17:=hb;clear hb ho;refine Za rfl ?_;refine Zt hK14 fun a hf=>?_;refine wp_seq_k fun _ hK18=>?_;refine X08 (fun a w=>Fr a 31 [(4,.bool ((((opI p).isSome)&&((opI q).isSome))&&(decide (((opI p).getD mZ).rows=((opI q).getD mZ).rows)&&decide (((opI p).getD mZ).cols=((opI q).getD mZ).cols)&&decide (((opI p).getD mZ).cells=((opI q).getD mZ).cells))))]∧Below w8.heap.size w8 w) ?_ ?_
 ·have hEc:Below w8.heap.size w8 w8:=Below.refl _ _
  refine Zr hf ?_;refine Zm rfl<|Zm rfl ?_
  refine Zg 23 rfl (fun hg19=>?_) (fun hg19=>?_)
  ·refine Zv ⟨_,_,rfl,rfl,hg19⟩ (X2 rfl) ?_;refine Ze (Xb rfl hg19 rfl)<|Zm rfl ?_
   refine Zg 26 rfl (fun hg20=>?_) (fun hg20=>?_)
   ·refine Zv ⟨_,_,rfl,rfl,hg20⟩ (Vn X13 hB13) ?_;refine Zv ⟨_,_,rfl,rfl,hg20⟩ (Vn X13 hB17) ?_;refine Zk ⟨_,_,rfl,rfl,hg20⟩ (Vc (Xv1 _ ((opI p).getD mZ) A11 c11 hr11.top ((opI q).getD mZ) A15 c15 hr15.top (by rw [hm1];exact hm4)) Xiy) ?_;rintro _ w9 ⟨rfl,hE⟩;replace hB13:=hB13.below hE;replace hB17:=hB17.below hE;replace hr11:=hr11.below hE;replace hr15:=hr15.below hE;replace hW:=btr hW hE;replace hEc:=btr hEc hE;refine Ze (Xb rfl hg20 rfl)<|Za rfl ?_;refine Zn fun a hf=>?_
    have hEE:Below w8.heap.size w8 w9:=hEc
    exact ⟨hf.sub ⟨X1 rfl (by first|rfl|(simp only [hc8b,hg19,hg20,Bool.true_and,Bool.false_and,Bool.true_or,Bool.false_or];done)|(simp [hc8b,hg19,hg20];done)|(exfalso;revert hg20;simp)),trivial⟩,hEE⟩
   refine Zp ⟨_,_,rfl,rfl,hg20⟩ ?_;refine Zp ⟨_,_,rfl,rfl,hg20⟩ ?_;refine Zp ⟨_,_,rfl,rfl,hg20⟩ ?_;refine Ze (X9 rfl hg20 rfl)<|Za rfl ?_;refine Zn fun a hf=>?_
   have hEE:Below w8.heap.size w8 w8:=hEc
   exact ⟨hf.sub ⟨X1 rfl (by first|rfl|(simp only [hc8b,hg19,hg20,Bool.true_and,Bool.false_and,Bool.true_or,Bool.false_or];done)|(simp [hc8b,hg19,hg20];done)|(exfalso;revert hg20;simp)),trivial⟩,hEE⟩
  refine Zp ⟨_,_,rfl,rfl,hg19⟩ ?_;refine Ze (X9 rfl hg19 rfl)<|Zm rfl<|Zp ⟨_,_,rfl,rfl,rfl⟩ ?_;refine Zp ⟨_,_,rfl,rfl,rfl⟩ ?_;refine Zp ⟨_,_,rfl,rfl,rfl⟩ ?_;refine Ze (X9 rfl rfl rfl)<|Za rfl ?_;refine Zn fun a hf=>?_
  have hEE:Below w8.heap.size w8 w8:=hEc
  exact ⟨hf.sub ⟨X1 rfl (by first|rfl|(simp only [hc8b,hg19,Bool.true_and,Bool.false_and,Bool.true_or,Bool.false_or];done)|(simp [hc8b,hg19];done)|(exfalso;revert hg19;simp)),trivial⟩,hEE⟩
 rintro a w10 ⟨hf,hE⟩;replace hB13:=hB13.below hE;replace hB17:=hB17.below hE;replace hr11:=hr11.below hE;replace hr15:=hr15.below hE;replace hW:=btr hW hE;refine hK18 _ _ ?_
 refine wp_ret (X3 hf (Xq hf rfl rfl) ?_)
 exact ⟨by rw [Xob hm1 hm2 hm3],hW⟩
theorem Xu1(w0:World)(p:Cx)(Ap:Option Addr)(cp:Nat)(hr_p:Rd w0 w0.heap.size 24 encG Ap p.gs)(hln:p.gs.length≤1000000) : Ret Tryz.prog 43 [.agg #[vi p.n,.slice Ap p.gs.length cp]] w0 (fun v w=>∃ A c1,v=.tuple #[.slice A (lyD p).length c1,.bool (cOk p)]∧Own w w0.heap.size 3 1 encI A c1 (lyD p)∧Below w0.heap.size w0 w):=by
 refine enter Tryz.func43 rfl 9 rfl rfl ?_;intro a hf
 have hW:Below w0.heap.size w0 w0:=Below.refl _ _
 refine Zs hf fun _ hK2=>?_;refine Zf (X0p (zs:=[vi p.n,.slice Ap p.gs.length cp]) rfl rfl) ?_;rintro _ w1 ⟨b3,rfl,hl3,hE,hB3⟩;have hlo3:=Nat.le_trans hW.size hl3;replace hW:=btr hW hE;refine Za rfl<|Za rfl ?_;refine Zt hK2 fun a hf=>?_;refine wp_seq_k fun _ hK5=>?_;refine Zs hf fun _ hK6=>?_;refine Ze (Vn X0q hB3) ?_;refine Zf (Vc (F55 _ p Ap cp (hr_p.below' hW).top (by omega)) Xd3) ?_;rintro _ w2 ⟨rfl,hE⟩;replace hB3:=hB3.below hE;replace hW:=btr hW hE;refine Ze (X16 rfl) ?_;refine Zt hK6 fun a hf=>?_
 refine Xe hf rfl (fun hc7=>?_) (fun hc7=>?_)
 ·have hc7b:=hc7
  have hcf:cOk p=false:=by revert hc7;cases cOk p<;>simp
  refine Zs hf fun _ hK8=>?_;refine Za rfl<|Za rfl ?_;refine Zt hK8 fun a hf=>?_;refine wp_ret ?_;refine X5 ?_;refine X3 hf (X15 hf rfl rfl rfl) ?_
  have e9:lyD p=[]:=by unfold lyD;rw [if_neg (by rw [hcf];simp)]
  rw [hcf,e9]
  exact ⟨none,0,rfl,(Own.nil _ _ _ _ _),hW⟩
 have hc7b:=hc7
 have hc:cOk p=true:=by revert hc7;cases cOk p<;>simp
 refine wp_skip ?_;refine hK5 _ _ ?_;refine Zs hf fun _ hK10=>?_;refine Ze (Vn X0q hB3) ?_;refine Zf (Vc (Xt4 _ p Ap cp (hr_p.below' hW).top hc) Xna) ?_;rintro _ w3 ⟨A11,c11,rfl,ho11,hE⟩;replace ho11:=ho11.lower hW.size;replace hB3:=hB3.below hE;replace hW:=btr hW hE;refine Za rfl<|Za rfl ?_;refine Zt hK10 fun a hf=>?_
 refine wp_ret (X3 hf (X15 hf rfl rfl rfl) ?_)
 have e9:lyD p=lyI p.gs:=by unfold lyD;rw [if_pos hc]
 rw [hc,e9]
 exact ⟨A11,c11,rfl,ho11,hW⟩
theorem Xot(w0:World)(Al:Option Addr)(cl:Nat)(l:List Int)(hr_l:Rd w0 w0.heap.size 3 encI Al l)(hln:l.length≤2305843009213693951) : Ret Tryz.prog 45 [.slice Al l.length cl] w0 (fun v w=>∃ m:Int,v=vi m∧0≤m∧(∀ x ∈ l,x≤m)∧Below w0.heap.size w0 w):=by
 refine enter Tryz.func45 rfl 18 rfl rfl ?_;intro a hf
 have hW:Below w0.heap.size w0 w0:=Below.refl _ _
 refine Zs hf fun _ hK2=>?_;refine Za rfl ?_;refine Zt hK2 fun a hf=>?_;refine Zs hf fun _ hK3=>?_;refine Za rfl ?_;refine Zt hK3 fun a hf=>?_;refine wp_seq_k fun _ hK4=>?_;refine Zs hf fun _ hK5=>?_;refine Zm rfl<|Ze (X0y rfl Xg)<|Zm rfl ?_;refine Zt hK5 fun a hf=>?_;refine wp_block ?_;refine Xx (σ:=Nat×Int) (fun (s:Nat×Int) (a:Act) (w:World)=>match s with|(k,m)=>Fr a 18 [(3,vi m),(6,.slice Al l.length cl),(7,vi (l.length:Int)),(8,vi (k:Int))]∧(k≤l.length)∧(0≤m∧∀ x ∈ l.take k,x≤m)∧Below w0.heap.size w0 w) (fun (s:Nat×Int)=>match s with|(k,m)=>l.length-k) (0,0) ?_ ?_
 ·exact ⟨hf.sub ⟨rfl,rfl,rfl,rfl,trivial⟩,(Nat.zero_le _),(by simp),hW⟩
 rintro ⟨k,m⟩ a w1 ⟨hf,hk,hm,hW⟩;refine Zs hf fun _ hK6=>?_;refine Ze (X0l rfl rfl) ?_;refine Zt hK6 fun a hf=>?_;refine wp_seq_k fun _ hK7=>?_
 refine Xe hf rfl (fun hc8=>?_) (fun hc8=>?_)
 ·have hc8b:=hc8;have hc8:=of_decide_eq_true hc8
  obtain ⟨u9,hu9⟩:=Xl (l:=l) (k:=k) (by omega)
  refine wp_skip ?_;refine hK7 _ _ ?_;refine wp_seq_k fun _ hK10=>?_;refine wp_block ?_;refine Zs hf fun _ hK11=>?_;refine Zi (k:=k) (u:=u9) (enc:=encI) (l:=l) trivial rfl rfl Xg X0h X6 (hr_l.below' hW) hu9 rfl ?_;intro p13 hat12;refine Ze (X0 rfl X4 hat12)<|Za rfl ?_;refine Zt hK11 fun a hf=>?_;refine Zs hf fun _ hK14=>?_;refine Zm rfl<|Zm rfl<|Ze (X3e rfl rfl) ?_;refine Zt hK14 fun a hf=>?_
  refine Xe hf rfl (fun hc15=>?_) (fun hc15=>?_)
  ·have hc15b:=hc15;have hc15:=of_decide_eq_true hc15
   have hmx:max m u9=u9:=by omega
   refine Zr hf ?_;refine Zm rfl<|Za rfl ?_;refine Zn fun a hf=>?_;refine Xd ?_;refine hK10 _ _ ?_;refine Zr hf ?_;refine Ze (Xp rfl rfl (by omega) (by omega))<|Zm rfl ?_;refine Zn fun a hf=>?_;refine Xc ?_;exact ⟨(k+1,u9),⟨hf.sub ⟨rfl,rfl,rfl,rfl,trivial⟩,(by omega),(by have h9:=Xd0 hm.2 hu9;rw [hmx] at h9;exact ⟨by omega,h9⟩),hW⟩,(by first|omega|(dsimp only;omega))⟩
  have hc15b:=hc15;have hc15:=of_decide_eq_false hc15
  have hmx:max m u9=m:=by omega
  refine wp_skip ?_;refine Xd ?_;refine hK10 _ _ ?_;refine Zr hf ?_;refine Ze (Xp rfl rfl (by omega) (by omega))<|Zm rfl ?_;refine Zn fun a hf=>?_;refine Xc ?_;exact ⟨(k+1,m),⟨hf.sub ⟨rfl,rfl,rfl,rfl,trivial⟩,(by omega),(by have h9:=Xd0 hm.2 hu9;rw [hmx] at h9;exact ⟨by omega,h9⟩),hW⟩,(by first|omega|(dsimp only;omega))⟩
 have hc8b:=hc8;have hc8:=of_decide_eq_false hc8
 have hfin:∀ x ∈ l,x≤m:=by have h9:=hm.2;rw [List.take_of_length_le (by omega)] at h9;exact h9
 refine wp_exit ?_;refine Xf ?_;refine Xf ?_;refine Xy ?_;refine hK4 _ _ ?_;refine Zs hf fun _ hK16=>?_;refine Zm rfl<|Za rfl ?_;refine Zt hK16 fun a hf=>?_
 refine wp_ret (X3 hf (Xq hf rfl rfl) ?_)
 exact ⟨m,rfl,hm.1,hfin,hW⟩
theorem Xun(w0:World)(p:Cx)(Ap:Option Addr)(cp:Nat)(hr_p:Rd w0 w0.heap.size 24 encG Ap p.gs)(hp_p:p.gs.length≤cp)(hln:p.gs.length≤100000000) : Ret Tryz.prog 108 [.agg #[vi p.n,.slice Ap p.gs.length cp]] w0 (fun v w=>∃ A c,v=.slice A (lyS p.gs p.gs.length).length c∧Own w w0.heap.size 3 1 encI A c (lyS p.gs p.gs.length)∧Below w0.heap.size w0 w):=by
 refine enter Tryz.func108 rfl 48 rfl rfl ?_;intro a hf
 have hW:Below w0.heap.size w0 w0:=Below.refl _ _
 refine Zs hf fun _ hK2=>?_;refine Zf (X0p (zs:=[vi p.n,.slice Ap p.gs.length cp]) rfl rfl) ?_;rintro _ w1 ⟨b3,rfl,hl3,hE,hB3⟩;have hlo3:=Nat.le_trans hW.size hl3;replace hW:=btr hW hE;refine Za rfl ?_;refine Zt hK2 fun a hf=>?_;refine Zs hf fun _ hK5=>?_;refine Za rfl ?_;refine Zt hK5 fun a hf=>?_;refine wp_seq_k fun _ hK7=>?_;refine Zs hf fun _ hK8=>?_;refine Ze (Vd rfl X0k 1)<|Ze (X0 rfl X14 (hB3.at 1))<|Ze (X0y rfl X0c)<|Zm rfl ?_;refine Zt hK8 fun a hf=>?_;refine wp_block ?_;refine Xx (σ:=Nat×(List Int)) (fun (s:Nat×(List Int)) (a:Act) (w:World)=>match s with|(k,m)=>∃ A9 c9,Fr a 48 [(1,.pointer (some ⟨b3,0,none⟩)),(3,.slice A9 m.length c9),(10,.slice Ap p.gs.length cp),(11,vi (p.gs.length:Int)),(12,vi (k:Int))]∧(k≤p.gs.length)∧(m=lyS p.gs k)∧(∀ x ∈ m,0≤x∧x≤(k:Int))∧Blk w b3 31 [vi p.n,.slice Ap p.gs.length cp]∧Own w w0.heap.size 3 1 encI A9 c9 m∧p.gs.length≤cp∧Below w0.heap.size w0 w) (fun (s:Nat×(List Int))=>match s with|(k,m)=>p.gs.length-k) (0,[]) ?_ ?_
 ·exact ⟨none,0,hf.sub ⟨rfl,rfl,rfl,rfl,rfl,trivial⟩,(Nat.zero_le _),rfl,(by simp),hB3,(Own.nil _ _ _ _ _),hp_p,hW⟩
 rintro ⟨k,m⟩ a w2 ⟨A9,c9,hf,hk,hm,hmb,hB3,ho9,hp_p,hW⟩;refine Zs hf fun _ hK10=>?_;refine Ze (X0l rfl rfl) ?_;refine Zt hK10 fun a hf=>?_;refine wp_seq_k fun _ hK11=>?_
 refine Xe hf rfl (fun hc12=>?_) (fun hc12=>?_)
 ·have hc12b:=hc12;have hc12:=of_decide_eq_true hc12
  obtain ⟨u13,hu13⟩:=Xl (l:=p.gs) (k:=k) (by omega)
  have hml:m.length=k:=by rw [hm];exact X35 _ _
  refine wp_skip ?_;refine hK11 _ _ ?_;refine wp_seq_k fun _ hK14=>?_;refine wp_block ?_;refine Zs hf fun _ hK15=>?_;refine Zm rfl ?_;refine Zi (k:=k) (u:=u13) (enc:=encG) (l:=p.gs) trivial rfl rfl X0c X0g X0d (hr_p.below' hW) hu13 rfl ?_;intro p17 hat16;refine Ze (X09 (l:=[vi u13.k,vi u13.a,vi u13.b]) rfl Xt hat16 rfl) ?_;refine Zf (Xa (zs:=[vi 0,vi 0,vi 0]) X32 rfl) ?_;rintro _ w3 ⟨b18,rfl,hl18,hE,hB18⟩;have hlo18:=Nat.le_trans hW.size hl18;have haw1_18:=(hr_p.below' hW).away hl18;replace hB3:=hB3.below hE;replace ho9:=ho9.below hE;replace hW:=btr hW hE;refine Za rfl ?_;refine Zo (Vw [vi u13.k,vi u13.a,vi u13.b] X0g hB18) ?_;rintro _ w4 ⟨ho,hb⟩;have hold:=hB18;replace hB3:=hB3.only ho (Blk.ne hB3 hold rfl);replace ho9:=ho9.onlyT ho hold rfl;replace hW:=Below.only hW ho hlo18;clear hold;have hB18:=hb;clear hb ho;refine Zt hK15 fun a hf=>?_;refine Zs hf fun _ hK19=>?_;refine Za rfl ?_;refine Zt hK19 fun a hf=>?_;refine wp_seq_k fun _ hK20=>?_;refine Zs hf fun _ hK21=>?_;refine Ze (Vd rfl X0k 1)<|Ze (X0 rfl X14 (hB3.at 1))<|Zm rfl ?_;have hr22:=((hr_p.below' hW).top).takeK X0d k;refine Ze (X8z (l:=p.gs) (k:=k) rfl rfl X0c X0g rfl (by omega) hp_p)<|Ze (X0y rfl X0c)<|Zm rfl ?_;refine Zt hK21 fun a hf=>?_;refine wp_block ?_;refine Xx (σ:=Nat×Int) (fun (s:Nat×Int) (a:Act) (w:World)=>match s with|(j,d)=>Fr a 48 [(1,.pointer (some ⟨b3,0,none⟩)),(3,.slice A9 m.length c9),(5,.pointer (some ⟨b18,0,none⟩)),(6,vi d),(10,.slice Ap p.gs.length cp),(11,vi (p.gs.length:Int)),(12,vi (k:Int)),(20,.slice Ap (p.gs.take k).length cp),(21,vi ((p.gs.take k).length:Int)),(22,vi (j:Int))]∧(j≤(p.gs.take k).length)∧(d=cmx p.gs u13 m j)∧Blk w b3 31 [vi p.n,.slice Ap p.gs.length cp]∧Blk w b18 24 [vi u13.k,vi u13.a,vi u13.b]∧Own w w0.heap.size 3 1 encI A9 c9 m∧Rd w w4.heap.size 24 encG Ap (p.gs.take k)∧p.gs.length≤cp∧Below w0.heap.size w0 w) (fun (s:Nat×Int)=>match s with|(j,d)=>(p.gs.take k).length-j) (0,0) ?_ ?_
  ·exact ⟨hf.sub ⟨rfl,rfl,rfl,rfl,rfl,rfl,rfl,rfl,rfl,rfl,trivial⟩,(Nat.zero_le _),rfl,hB3,hB18,ho9,hr22,hp_p,hW⟩
  rintro ⟨j,d⟩ a w5 ⟨hf,hj,hd,hB3,hB18,ho9,hr22,hp_p,hW⟩;refine Zs hf fun _ hK23=>?_;refine Ze (X0l rfl rfl) ?_;refine Zt hK23 fun a hf=>?_;refine wp_seq_k fun _ hK24=>?_
  refine Xe hf rfl (fun hc25=>?_) (fun hc25=>?_)
  ·have hc25b:=hc25;have hc25:=of_decide_eq_true hc25
   obtain ⟨u26,hu26⟩:=Xl (l:=(p.gs.take k)) (k:=j) (by omega)
   have hv9:=Xn7 hu26
   have hj9:j<k:=by have:=List.length_take_le k p.gs;omega
   refine wp_skip ?_;refine hK24 _ _ ?_;refine wp_seq_k fun _ hK27=>?_;refine wp_block ?_;refine Zs hf fun _ hK28=>?_;refine Zm rfl ?_;refine Zi (k:=j) (u:=u26) (enc:=encG) (l:=(p.gs.take k)) trivial rfl rfl X0c X0g X0d hr22 hu26 rfl ?_;intro p30 hat29;refine Ze (X09 (l:=[vi u26.k,vi u26.a,vi u26.b]) rfl Xt hat29 rfl) ?_;refine Zf (Xa (zs:=[vi 0,vi 0,vi 0]) X32 rfl) ?_;rintro _ w6 ⟨b31,rfl,hl31,hE,hB31⟩
   have hne18_31:b18≠b31:=by have:=hB18.lt;omega
   have hlo31:=Nat.le_trans hW.size hl31;have haw1_31:=(hr_p.below' hW).away hl31;have haw22_31:=hr22.away hl31;replace hB3:=hB3.below hE;replace hB18:=hB18.below hE;replace ho9:=ho9.below hE;replace hr22:=hr22.below hE;replace hW:=btr hW hE;refine Za rfl ?_;refine Zo (Vw [vi u26.k,vi u26.a,vi u26.b] X0g hB31) ?_;rintro _ w7 ⟨ho,hb⟩;have hold:=hB31;replace hB3:=hB3.only ho (Blk.ne hB3 hold rfl);replace hB18:=hB18.only ho (by omega);replace ho9:=ho9.onlyT ho hold rfl;replace hr22:=hr22.onlyA ho haw22_31;replace hW:=Below.only hW ho hlo31;clear hold;have hB31:=hb;clear hb ho;refine Zt hK28 fun a hf=>?_;refine Zs hf fun _ hK32=>?_;refine Ze (Vn Xt hB18)<|Ze (Vn Xt hB31) ?_;refine Zf (Vc (Xod _ u13 u26) Xc6) ?_;rintro _ w8 ⟨rfl,hE⟩;replace hB3:=hB3.below hE;replace hB18:=hB18.below hE;replace hB31:=hB31.below hE;replace ho9:=ho9.below hE;replace hr22:=hr22.below hE;replace hW:=btr hW hE;refine Zt hK32 fun a hf=>?_
   refine Xe hf rfl (fun hc33=>?_) (fun hc33=>?_)
   ·have hc33b:=hc33;have hcm:=Xo3 (m:=m) hv9 hc33;refine Zr hf ?_;refine Zm rfl<|Zm rfl<|Zm rfl ?_;refine Zi (k:=j) (u:=(m.getD j 0)) (enc:=encI) (l:=m) trivial rfl rfl Xg X0h X6 ho9.rd (X34 (by omega)) rfl ?_;intro p35 hat34;refine Ze (X0 rfl X4 hat34) ?_;refine Zf (Vc (Xv9 _ d (m.getD j 0)) Xpn) ?_;rintro _ _ ⟨rfl,rfl⟩;refine Za rfl ?_;refine Zn fun a hf=>?_;refine Xd ?_;refine hK27 _ _ ?_;refine Zr hf ?_;refine Ze (Xp rfl rfl (by omega) (by omega))<|Zm rfl ?_;refine Zn fun a hf=>?_;refine Xc ?_;exact ⟨(j+1,max d (m.getD j 0)),⟨hf.sub ⟨rfl,rfl,rfl,rfl,rfl,rfl,rfl,rfl,rfl,rfl,trivial⟩,(by omega),(by rw [hcm,hd]),hB3,hB18,ho9,hr22,hp_p,hW⟩,(by first|omega|(dsimp only;omega))⟩
   have hc33b:=hc33;have hcm:=Xj9 (m:=m) hv9 hc33;refine wp_skip ?_;refine Xd ?_;refine hK27 _ _ ?_;refine Zr hf ?_;refine Ze (Xp rfl rfl (by omega) (by omega))<|Zm rfl ?_;refine Zn fun a hf=>?_;refine Xc ?_;exact ⟨(j+1,d),⟨hf.sub ⟨rfl,rfl,rfl,rfl,rfl,rfl,rfl,rfl,rfl,rfl,trivial⟩,(by omega),(by rw [hcm,hd]),hB3,hB18,ho9,hr22,hp_p,hW⟩,(by first|omega|(dsimp only;omega))⟩
  have hc25b:=hc25;have hc25:=of_decide_eq_false hc25
  have hd9:d=cmx p.gs u13 m k:=by rw [hd,show j=k by simp at *;omega]
  have hdb:=Xq5 (gs:=p.gs) (g:=u13) (show (0:Int)≤(k:Int) by omega) hmb k
  rw [← hd9] at hdb
  refine wp_exit ?_;refine Xf ?_;refine Xf ?_;refine Xy ?_;refine hK20 _ _ ?_;refine wp_seq_k fun _ hK36=>?_;refine Zs hf fun _ hK37=>?_;refine Ze (Vd rfl X0i 0)<|Ze (X0 rfl X4 (hB18.at 0))<|Ze (X29 rfl rfl) ?_;refine Zt hK37 fun a hf=>?_
  refine Xe hf rfl (fun hc38=>?_) (fun hc38=>?_)
  ·have hc38b:=hc38
   have hit:notW u13.k=1:=by unfold notW;rw [if_pos hc38]
   refine Zr hf ?_;refine Zm rfl<|Ze (Xp rfl rfl (by omega) (by omega))<|Za rfl ?_;refine Zt hK36 fun a hf=>?_;refine Zr hf ?_;refine Zm rfl<|Zm rfl ?_;refine Zf (Xm (k:=1) (vs:=[vi (d+1)]) (zs:=[vi (d+1)]) rfl Xg X19 rfl rfl) ?_;rintro _ w9 ⟨b39,rfl,hl39,hE,hB39⟩;have hlo39:=Nat.le_trans hW.size hl39;have haw9_39:=ho9.away hl39;replace hB3:=hB3.below hE;replace ho9:=ho9.below hE;replace hW:=btr hW hE;refine Zf (X1h (enc:=encI) (l:=(m)) (l2:=([d+1])) (B0:=w0.heap.size) rfl rfl Xg X19 X6 X1n ho9 (Rd.of_blk hB39 rfl _ hB39.lt) (by simp only [maxLen];simp;omega) (by simp;omega) hW.size) ?_;rintro _ w10 ⟨A41,c41,rfl,ho41,hg,hat⟩
   have hown:Own _ w0.heap.size 3 1 encI _ _ (m):=ho9
   have haw41_39:=hat _ hB39.lt haw9_39;clear hat;replace hB3:=hB3.appT hown hg rfl;replace hW:=Below.app hW hown hg (Nat.le_refl _) hW.size;clear hown hg;refine Za rfl ?_;refine Zn fun a hf=>?_;refine Xd ?_;refine hK14 _ _ ?_;refine Zr hf ?_;refine Ze (Xp rfl rfl (by omega) (by omega))<|Zm rfl ?_;refine Zn fun a hf=>?_;refine Xc ?_;exact ⟨(k+1,m++([d+1])),⟨A41,c41,hf.sub ⟨rfl,rfl,rfl,rfl,rfl,trivial⟩,(by omega),(Xgv hm hu13 (by rw [hd9,hit];try exact (Int.add_zero _).symm)),(by rw [Int.natCast_add];exact Xfx hmb (by omega)),hB3,ho41,hp_p,hW⟩,(by first|omega|(dsimp only;omega))⟩
  have hc38b:=hc38
  have hit:notW u13.k=0:=by unfold notW;rw [if_neg (by rw [hc38];simp)]
  refine wp_skip ?_;refine hK36 _ _ ?_;refine Zr hf ?_;refine Zm rfl<|Zm rfl ?_;refine Zf (Xm (k:=1) (vs:=[vi d]) (zs:=[vi d]) rfl Xg X19 rfl rfl) ?_;rintro _ w11 ⟨b42,rfl,hl42,hE,hB42⟩;have hlo42:=Nat.le_trans hW.size hl42;have haw9_42:=ho9.away hl42;replace hB3:=hB3.below hE;replace ho9:=ho9.below hE;replace hW:=btr hW hE;refine Zf (X1h (enc:=encI) (l:=(m)) (l2:=([d])) (B0:=w0.heap.size) rfl rfl Xg X19 X6 X1n ho9 (Rd.of_blk hB42 rfl _ hB42.lt) (by simp only [maxLen];simp;omega) (by simp;omega) hW.size) ?_;rintro _ w12 ⟨A44,c44,rfl,ho44,hg,hat⟩
  have hown:Own _ w0.heap.size 3 1 encI _ _ (m):=ho9
  have haw44_42:=hat _ hB42.lt haw9_42;clear hat;replace hB3:=hB3.appT hown hg rfl;replace hW:=Below.app hW hown hg (Nat.le_refl _) hW.size;clear hown hg;refine Za rfl ?_;refine Zn fun a hf=>?_;refine Xd ?_;refine hK14 _ _ ?_;refine Zr hf ?_;refine Ze (Xp rfl rfl (by omega) (by omega))<|Zm rfl ?_;refine Zn fun a hf=>?_;refine Xc ?_;exact ⟨(k+1,m++([d])),⟨A44,c44,hf.sub ⟨rfl,rfl,rfl,rfl,rfl,trivial⟩,(by omega),(Xgv hm hu13 (by rw [hd9,hit];try exact (Int.add_zero _).symm)),(by rw [Int.natCast_add];exact Xfx hmb (by omega)),hB3,ho44,hp_p,hW⟩,(by first|omega|(dsimp only;omega))⟩
 have hc12b:=hc12;have hc12:=of_decide_eq_false hc12
 have hfin:lyS p.gs p.gs.length=m:=by rw [← show k=p.gs.length by omega,hm]
 refine wp_exit ?_;refine Xf ?_;refine Xf ?_;refine Xy ?_;refine hK7 _ _ ?_;refine Zs hf fun _ hK45=>?_;refine Zm rfl<|Za rfl ?_;refine Zt hK45 fun a hf=>?_
 refine wp_ret (X3 hf (Xq hf rfl rfl) ?_)
 rw [hfin]
 exact ⟨A9,c9,rfl,ho9,hW⟩
theorem Xu6(w0:World){Xcd:TypeId}(Acd:Option Addr)(ccd:Nat)(code:List Int)(hr_code:Rd w0 w0.heap.size Xcd encU Acd code)(hcd:∀ x ∈ code,0≤x∧x≤255) : Ret Tryz.prog 37 [.slice Acd code.length ccd] w0 (fun v w=>∃ (c:Cx) (A:Option Addr) (e:Nat) (l:List Int) (B:Option Addr) (f:Nat),v=.tuple #[.agg #[vi c.n,.slice A c.gs.length e],.slice B l.length f]∧(0≤c.n∧c.n≤6∧c.gs.length≤10)∧l.length≤400∧Own w w0.heap.size 24 3 encG A e c.gs∧Rd w w.heap.size 3 encI B l∧Below w0.heap.size w0 w):=by
 refine enter Tryz.func37 rfl 70 rfl rfl ?_;intro a hf
 have hW:Below w0.heap.size w0 w0:=Below.refl _ _
 refine Zs hf fun _ hK2=>?_;refine Zf (Xa (zs:=[vi 0,.slice none 0 0]) X5t rfl) ?_;rintro _ w1 ⟨b4,rfl,hl4,hE,hB4⟩;have hlo4:=Nat.le_trans hW.size hl4;have haw1_4:=(hr_code.below' hW).away hl4;replace hW:=btr hW hE;refine Za rfl ?_;refine Zt hK2 fun a hf=>?_;refine Zs hf fun _ hK6=>?_;refine Zm rfl<|Ze (Xz (ps:=[(0,.slice Acd code.length ccd)]) (cs:=[.slice Acd code.length ccd,vi 0,.int .u64 0]) rfl (fun _=>by first|rfl|kernel_rfl)) ?_;refine Zf (X0p (zs:=[.slice Acd code.length ccd,vi 0,.int .u64 0]) rfl rfl) ?_;rintro _ w2 ⟨b8,rfl,hl8,hE,hB8⟩;have hlo8:=Nat.le_trans hW.size hl8;have haw1_8:=(hr_code.below' hW).away hl8;replace hB4:=hB4.below hE;replace hW:=btr hW hE;refine Za rfl ?_;refine Zt hK6 fun a hf=>?_;refine Zs hf fun _ hK9=>?_;refine Zm rfl ?_;refine Zf (Vc (Xp5 _ Acd ccd code (hr_code.below' hW).top hcd) Xgm) ?_;rintro _ w3 ⟨cz13,Az13,ez13,rfl,hPz13,hoz13,hE⟩;replace hoz13:=hoz13.lower hW.size;replace hB4:=hB4.below hE;replace hB8:=hB8.below hE;replace hW:=btr hW hE;refine Zf (Xa (zs:=[vi 0,.slice none 0 0]) X5t rfl) ?_;rintro _ w4 ⟨b12,rfl,hl12,hE,hB12⟩
 have hne4_12:b4≠b12:=by have:=hB4.lt;omega
 have hlo12:=Nat.le_trans hW.size hl12;have haw1_12:=(hr_code.below' hW).away hl12;replace hB4:=hB4.below hE;replace hB8:=hB8.below hE;replace hoz13:=hoz13.below hE;replace hW:=btr hW hE;refine Zo (Vw [vi cz13.n,.slice Az13 cz13.gs.length ez13] X22 hB12) ?_;rintro _ w5 ⟨ho,hb⟩;have hold:=hB12;replace hB4:=hB4.only ho (by omega);replace hB8:=hB8.only ho (Blk.ne hB8 hold rfl);replace hoz13:=hoz13.onlyT ho hold rfl;replace hW:=Below.only hW ho hlo12;clear hold;have hB12:=hb;clear hb ho;refine Zt hK9 fun a hf=>?_;refine Zs hf fun _ hK13=>?_;refine Ze (Vn X0q hB12) ?_;refine Zf (Vc (F21 _ cz13 Az13 ez13 hoz13.rd.top hoz13.cap (by omega)) Xph) ?_;rintro _ w6 ⟨A14,c14,rfl,ho14,hE⟩;replace ho14:=ho14.lower hW.size;replace hB4:=hB4.below hE;replace hB8:=hB8.below hE;replace hB12:=hB12.below hE;replace hoz13:=hoz13.below hE;replace hW:=btr hW hE;refine Zm rfl<|Ze (X8 (vs:=[.slice A14 (schedOf cz13).length c14,.bool (cOk cz13)]) rfl rfl)<|Ze (X8 (vs:=[.slice A14 (schedOf cz13).length c14,.bool (cOk cz13)]) rfl rfl)<|Za rfl<|Za rfl ?_;refine Zt hK13 fun a hf=>?_;refine wp_seq_k fun _ hK15=>?_;refine Zs hf fun _ hK16=>?_;refine Zm rfl<|Ze (X0y rfl Xg)<|Za rfl ?_;refine Zt hK16 fun a hf=>?_;refine wp_block ?_;refine Zs hf fun _ hK17=>?_;refine Zm rfl<|Ze (X3e rfl rfl)<|Zm rfl ?_
 refine Zg 24 rfl (fun hg18=>?_) (fun hg18=>?_)
 ·have hn9:=of_decide_eq_true hg18;refine Zv ⟨_,_,rfl,rfl,hg18⟩ (X2 rfl) ?_;refine Zk ⟨_,_,rfl,rfl,hg18⟩ (Vc (Xcy _ b8 Acd ccd code (hr_code.below' hW).top hcd haw1_8 0 0 hB8 2 (by omega)) X6s) ?_;rintro _ w7 ⟨xz26,tz26,sz26,rfl,hPz26,htz26,hK,hbn⟩;obtain ⟨wm,hO,hm,hE⟩:=hK.mid;clear hm;have hold:=hB8;replace hB4:=hB4.only hO (Blk.ne hB4 hold rfl);replace hB12:=hB12.only hO (Blk.ne hB12 hold rfl);replace hoz13:=hoz13.onlyT hO hold rfl;replace ho14:=ho14.onlyT hO hold rfl;replace hW:=Below.only hW hO hlo8;replace hB4:=hB4.below hE;replace hB12:=hB12.below hE;replace hoz13:=hoz13.below hE;replace ho14:=ho14.below hE;replace hW:=btr hW hE
  clear hold hE hO hK;replace hB8:=hbn;clear hbn;refine Ze (Xb rfl hg18 rfl)<|Za rfl ?_;refine Zt hK17 fun a hf=>?_
  refine Xe hf rfl (fun hc19=>?_) (fun hc19=>?_)
  ·have hc19b:=hc19;refine Zr hf ?_;refine Zm rfl<|Zm rfl<|Zm rfl ?_;refine Zf (Vc (X3w _ b8 Acd ccd code (hr_code.below' hW).top hcd haw1_8 tz26 sz26 hB8 ((schedOf cz13).length:Int) (by omega)) X26) ?_;rintro _ w8 ⟨xz31,tz31,sz31,rfl,hPz31,htz31,hK,hbn⟩;obtain ⟨wm,hO,hm,hE⟩:=hK.mid;clear hm;have hold:=hB8;replace hB4:=hB4.only hO (Blk.ne hB4 hold rfl);replace hB12:=hB12.only hO (Blk.ne hB12 hold rfl);replace hoz13:=hoz13.onlyT hO hold rfl;replace ho14:=ho14.onlyT hO hold rfl;replace hW:=Below.only hW hO hlo8;replace hB4:=hB4.below hE;replace hB12:=hB12.below hE;replace hoz13:=hoz13.below hE;replace ho14:=ho14.below hE;replace hW:=btr hW hE
   clear hold hE hO hK;replace hB8:=hbn;clear hbn;refine Zm rfl ?_;refine Zf (Vc (X3w _ b8 Acd ccd code (hr_code.below' hW).top hcd haw1_8 tz31 sz31 hB8 6 (by omega)) X26) ?_;rintro _ w9 ⟨xz33,tz33,sz33,rfl,hPz33,htz33,hK,hbn⟩;obtain ⟨wm,hO,hm,hE⟩:=hK.mid;clear hm;have hold:=hB8;replace hB4:=hB4.only hO (Blk.ne hB4 hold rfl);replace hB12:=hB12.only hO (Blk.ne hB12 hold rfl);replace hoz13:=hoz13.onlyT hO hold rfl;replace ho14:=ho14.onlyT hO hold rfl;replace hW:=Below.only hW hO hlo8;replace hB4:=hB4.below hE;replace hB12:=hB12.below hE;replace hoz13:=hoz13.below hE;replace ho14:=ho14.below hE;replace hW:=btr hW hE
   clear hold hE hO hK;replace hB8:=hbn;clear hbn;refine Ze (X1m (k:=xz31.toNat) rfl rfl Xg X0h ho14 rfl (by omega) (by omega)) ?_;refine Zo (X1l (enc:=encI) (l:=(schedOf cz13)) (vs:=[vi xz33]) (x0:=((schedOf cz13).getD xz31.toNat 0)) (u:=xz33) (k:=xz31.toNat) (j:=0) (n1:=1) rfl rfl X0h ho14 X6 rfl rfl rfl rfl (by decide) (X34 (by omega)) rfl) ?_;rintro _ w10 ⟨hnew,hg⟩;have hown:=ho14;replace hB4:=hB4.appT hown hg rfl;replace hB8:=hB8.appT hown hg rfl;replace hB12:=hB12.appT hown hg rfl;replace hoz13:=hoz13.appT hown hg rfl;replace hW:=Below.app hW hown hg (Nat.le_refl _) hW.size
   clear hown hg;clear ho14;have ho14:=hnew;clear hnew;refine Zn fun a hf=>?_;refine Xd ?_;refine hK15 _ _ ?_;refine Zs hf fun _ hK20=>?_;refine Ze (Vn X0q hB12)<|Zm rfl ?_;refine Zo (Vw [vi cz13.n,.slice Az13 cz13.gs.length ez13] X22 hB4) ?_;rintro _ w11 ⟨ho,hb⟩;have hold:=hB4;replace hB12:=hB12.only ho (by omega);replace hoz13:=hoz13.onlyT ho hold rfl;replace ho14:=ho14.onlyT ho hold rfl;replace hW:=Below.only hW ho hlo4;clear hold;have hB4:=hb;clear hb ho;refine Za rfl ?_;refine Zt hK20 fun a hf=>?_
   refine wp_ret (X3 hf (X15 hf rfl (ResV.cellN (l:=[vi cz13.n,.slice Az13 cz13.gs.length ez13]) rfl X0q (hB4.at 0) rfl) rfl) ?_)
   exact ⟨⟨cz13.n,cz13.gs⟩,Az13,ez13,((schedOf cz13).set xz31.toNat xz33),A14,c14,(by first|rfl|(simp;done)),hPz13,(by first|(have:=X1b cz13;omega)|(have:=X1b cz13;simp;omega)|(rw [X35];omega)),hoz13,ho14.rd.top,hW⟩
  have hc19b:=hc19;refine Zs hf fun _ hK21=>?_;refine Zm rfl<|Ze (X3e rfl rfl)<|Zm rfl<|Zv ⟨_,_,rfl,rfl,hg18⟩ (X2 rfl) ?_;refine Zk ⟨_,_,rfl,rfl,hg18⟩ (Vc (Xcy _ b8 Acd ccd code (hr_code.below' hW).top hcd haw1_8 tz26 sz26 hB8 8 (by omega)) X6s) ?_;rintro _ w12 ⟨xz40,tz40,sz40,rfl,hPz40,htz40,hK,hbn⟩;obtain ⟨wm,hO,hm,hE⟩:=hK.mid;clear hm;have hold:=hB8;replace hB4:=hB4.only hO (Blk.ne hB4 hold rfl);replace hB12:=hB12.only hO (Blk.ne hB12 hold rfl);replace hoz13:=hoz13.onlyT hO hold rfl;replace ho14:=ho14.onlyT hO hold rfl;replace hW:=Below.only hW hO hlo8;replace hB4:=hB4.below hE;replace hB12:=hB12.below hE;replace hoz13:=hoz13.below hE;replace ho14:=ho14.below hE;replace hW:=btr hW hE
  clear hold hE hO hK;replace hB8:=hbn;clear hbn;refine Ze (Xb rfl hg18 rfl)<|Za rfl ?_;refine Zt hK21 fun a hf=>?_
  refine Xe hf rfl (fun hc22=>?_) (fun hc22=>?_)
  ·have hc22b:=hc22;refine Zr hf ?_;refine Zm rfl ?_;have hr23:=(ho14.rd.top).dropK X6 (c:=c14) ho14.cap 1;refine Ze (Xll (l:=(schedOf cz13)) (k:=1) rfl rfl Xg X0h rfl (by omega))<|Za rfl ?_;refine Zn fun a hf=>?_;refine Xd ?_;refine hK15 _ _ ?_;refine Zs hf fun _ hK24=>?_;refine Ze (Vn X0q hB12)<|Zm rfl ?_;refine Zo (Vw [vi cz13.n,.slice Az13 cz13.gs.length ez13] X22 hB4) ?_;rintro _ w13 ⟨ho,hb⟩;have hold:=hB4;replace hB12:=hB12.only ho (by omega);replace hoz13:=hoz13.onlyT ho hold rfl;replace hr23:=hr23.onlyT ho hold rfl;replace hW:=Below.only hW ho hlo4;clear hold;have hB4:=hb;clear hb ho;refine Za rfl ?_;refine Zt hK24 fun a hf=>?_
   refine wp_ret (X3 hf (X15 hf rfl (ResV.cellN (l:=[vi cz13.n,.slice Az13 cz13.gs.length ez13]) rfl X0q (hB4.at 0) rfl) rfl) ?_)
   exact ⟨⟨cz13.n,cz13.gs⟩,Az13,ez13,((schedOf cz13).drop 1),(if c14=1 then A14 else A14.map (·.add (1*1))),(c14-1),(by first|rfl|(simp;done)),hPz13,(by first|(have:=X1b cz13;omega)|(have:=X1b cz13;simp;omega)|(rw [X35];omega)),hoz13,hr23.top,hW⟩
  have hc22b:=hc22;refine Zs hf fun _ hK25=>?_;refine Zm rfl<|Ze (X3e rfl rfl)<|Zm rfl<|Zv ⟨_,_,rfl,rfl,hg18⟩ (X2 rfl) ?_;refine Zk ⟨_,_,rfl,rfl,hg18⟩ (Vc (Xcy _ b8 Acd ccd code (hr_code.below' hW).top hcd haw1_8 tz40 sz40 hB8 4 (by omega)) X6s) ?_;rintro _ w14 ⟨xz49,tz49,sz49,rfl,hPz49,htz49,hK,hbn⟩;obtain ⟨wm,hO,hm,hE⟩:=hK.mid;clear hm;have hold:=hB8;replace hB4:=hB4.only hO (Blk.ne hB4 hold rfl);replace hB12:=hB12.only hO (Blk.ne hB12 hold rfl);replace hoz13:=hoz13.onlyT hO hold rfl;replace ho14:=ho14.onlyT hO hold rfl;replace hW:=Below.only hW hO hlo8;replace hB4:=hB4.below hE;replace hB12:=hB12.below hE;replace hoz13:=hoz13.below hE;replace ho14:=ho14.below hE;replace hW:=btr hW hE
  clear hold hE hO hK;replace hB8:=hbn;clear hbn;refine Ze (Xb rfl hg18 rfl)<|Za rfl ?_;refine Zt hK25 fun a hf=>?_
  refine Xe hf rfl (fun hc26=>?_) (fun hc26=>?_)
  ·have hc26b:=hc26;refine Zr hf ?_;refine Ze (Vn X0q hB12) ?_;refine Zf (Vc (Xun _ cz13 Az13 ez13 hoz13.rd.top hoz13.cap (by omega)) Xmf) ?_;rintro _ w15 ⟨A27,c27,rfl,ho27,hE⟩;replace ho27:=ho27.lower hW.size;replace hB4:=hB4.below hE;replace hB8:=hB8.below hE;replace hB12:=hB12.below hE;replace hoz13:=hoz13.below hE;replace ho14:=ho14.below hE;replace hW:=btr hW hE;refine Za rfl ?_;refine Zn fun a hf=>?_;refine Xd ?_;refine hK15 _ _ ?_;refine Zs hf fun _ hK28=>?_;refine Ze (Vn X0q hB12)<|Zm rfl ?_;refine Zo (Vw [vi cz13.n,.slice Az13 cz13.gs.length ez13] X22 hB4) ?_;rintro _ w16 ⟨ho,hb⟩;have hold:=hB4;replace hB12:=hB12.only ho (by omega);replace hoz13:=hoz13.onlyT ho hold rfl;replace ho27:=ho27.onlyT ho hold rfl;replace hW:=Below.only hW ho hlo4;clear hold;have hB4:=hb;clear hb ho;refine Za rfl ?_;refine Zt hK28 fun a hf=>?_
   refine wp_ret (X3 hf (X15 hf rfl (ResV.cellN (l:=[vi cz13.n,.slice Az13 cz13.gs.length ez13]) rfl X0q (hB4.at 0) rfl) rfl) ?_)
   exact ⟨⟨cz13.n,cz13.gs⟩,Az13,ez13,(lyS cz13.gs cz13.gs.length),A27,c27,(by first|rfl|(simp;done)),hPz13,(by first|(have:=X1b cz13;omega)|(have:=X1b cz13;simp;omega)|(rw [X35];omega)),hoz13,ho27.rd.top,hW⟩
  have hc26b:=hc26;refine Zs hf fun _ hK29=>?_;refine Zm rfl<|Ze (X3e rfl rfl)<|Zm rfl<|Zv ⟨_,_,rfl,rfl,hg18⟩ (X2 rfl) ?_;refine Zk ⟨_,_,rfl,rfl,hg18⟩ (Vc (Xcy _ b8 Acd ccd code (hr_code.below' hW).top hcd haw1_8 tz49 sz49 hB8 8 (by omega)) X6s) ?_;rintro _ w17 ⟨xz58,tz58,sz58,rfl,hPz58,htz58,hK,hbn⟩;obtain ⟨wm,hO,hm,hE⟩:=hK.mid;clear hm;have hold:=hB8;replace hB4:=hB4.only hO (Blk.ne hB4 hold rfl);replace hB12:=hB12.only hO (Blk.ne hB12 hold rfl);replace hoz13:=hoz13.onlyT hO hold rfl;replace ho14:=ho14.onlyT hO hold rfl;replace hW:=Below.only hW hO hlo8;replace hB4:=hB4.below hE;replace hB12:=hB12.below hE;replace hoz13:=hoz13.below hE;replace ho14:=ho14.below hE;replace hW:=btr hW hE
  clear hold hE hO hK;replace hB8:=hbn;clear hbn;refine Ze (Xb rfl hg18 rfl)<|Za rfl ?_;refine Zt hK29 fun a hf=>?_
  refine Xe hf rfl (fun hc30=>?_) (fun hc30=>?_)
  ·have hc30b:=hc30;refine Zr hf ?_;refine Zm rfl<|Zm rfl<|Zm rfl ?_;refine Zf (Vc (X3w _ b8 Acd ccd code (hr_code.below' hW).top hcd haw1_8 tz58 sz58 hB8 ((schedOf cz13).length:Int) (by omega)) X26) ?_;rintro _ w18 ⟨xz63,tz63,sz63,rfl,hPz63,htz63,hK,hbn⟩;obtain ⟨wm,hO,hm,hE⟩:=hK.mid;clear hm;have hold:=hB8;replace hB4:=hB4.only hO (Blk.ne hB4 hold rfl);replace hB12:=hB12.only hO (Blk.ne hB12 hold rfl);replace hoz13:=hoz13.onlyT hO hold rfl;replace ho14:=ho14.onlyT hO hold rfl;replace hW:=Below.only hW hO hlo8;replace hB4:=hB4.below hE;replace hB12:=hB12.below hE;replace hoz13:=hoz13.below hE;replace ho14:=ho14.below hE;replace hW:=btr hW hE
   clear hold hE hO hK;replace hB8:=hbn;clear hbn;refine Zm rfl ?_;refine Zf (Xm (k:=3) (vs:=[vi (-1),vi 400,vi 401]) (zs:=[vi (-1),vi 400,vi 401]) rfl Xg X19 rfl rfl) ?_;rintro _ w19 ⟨b31,rfl,hl31,hE,hB31⟩;have hlo31:=Nat.le_trans hW.size hl31;have haw1_31:=(hr_code.below' hW).away hl31;have haw14_31:=ho14.away hl31;replace hB4:=hB4.below hE;replace hB8:=hB8.below hE;replace hB12:=hB12.below hE;replace hoz13:=hoz13.below hE;replace ho14:=ho14.below hE;replace hW:=btr hW hE;refine Zf (Vc (Xjk _ b8 Acd ccd code (hr_code.below' hW).top hcd haw1_8 tz63 sz63 hB8 (some ⟨b31,0,none⟩) 3 ([-1,400,401]) (Rd.of_blk hB31 rfl _ hB31.lt) (by simp) (by simp) (by omega)) Xbs) ?_;rintro _ w20 ⟨xz66,tz66,sz66,rfl,hPz66,htz66,hK,hbn⟩;obtain ⟨wm,hO,hm,hE⟩:=hK.mid;clear hm;have hold:=hB8;replace hB4:=hB4.only hO (Blk.ne hB4 hold rfl);replace hB12:=hB12.only hO (Blk.ne hB12 hold rfl);replace hB31:=hB31.only hO (Blk.ne hB31 hold rfl);replace hoz13:=hoz13.onlyT hO hold rfl;replace ho14:=ho14.onlyT hO hold rfl;replace hW:=Below.only hW hO hlo8;replace hB4:=hB4.below hE;replace hB12:=hB12.below hE;replace hB31:=hB31.below hE;replace hoz13:=hoz13.below hE;replace ho14:=ho14.below hE;replace hW:=btr hW hE
   clear hold hE hO hK;replace hB8:=hbn;clear hbn;refine Ze (X1m (k:=xz63.toNat) rfl rfl Xg X0h ho14 rfl (by omega) (by omega)) ?_;refine Zo (X1l (enc:=encI) (l:=(schedOf cz13)) (vs:=[vi xz66]) (x0:=((schedOf cz13).getD xz63.toNat 0)) (u:=xz66) (k:=xz63.toNat) (j:=0) (n1:=1) rfl rfl X0h ho14 X6 rfl rfl rfl rfl (by decide) (X34 (by omega)) rfl) ?_;rintro _ w21 ⟨hnew,hg⟩;have hown:=ho14;replace hB4:=hB4.appT hown hg rfl;replace hB8:=hB8.appT hown hg rfl;replace hB12:=hB12.appT hown hg rfl;replace hB31:=hB31.appA hg haw14_31;replace hoz13:=hoz13.appT hown hg rfl;replace hW:=Below.app hW hown hg (Nat.le_refl _) hW.size
   clear hown hg;clear ho14;have ho14:=hnew;clear hnew;refine Zn fun a hf=>?_;refine Xd ?_;refine hK15 _ _ ?_;refine Zs hf fun _ hK33=>?_;refine Ze (Vn X0q hB12)<|Zm rfl ?_;refine Zo (Vw [vi cz13.n,.slice Az13 cz13.gs.length ez13] X22 hB4) ?_;rintro _ w22 ⟨ho,hb⟩;have hold:=hB4;replace hB12:=hB12.only ho (by omega);replace hoz13:=hoz13.onlyT ho hold rfl;replace ho14:=ho14.onlyT ho hold rfl;replace hW:=Below.only hW ho hlo4;clear hold;have hB4:=hb;clear hb ho;refine Za rfl ?_;refine Zt hK33 fun a hf=>?_
   refine wp_ret (X3 hf (X15 hf rfl (ResV.cellN (l:=[vi cz13.n,.slice Az13 cz13.gs.length ez13]) rfl X0q (hB4.at 0) rfl) rfl) ?_)
   exact ⟨⟨cz13.n,cz13.gs⟩,Az13,ez13,((schedOf cz13).set xz63.toNat xz66),A14,c14,(by first|rfl|(simp;done)),hPz13,(by first|(have:=X1b cz13;omega)|(have:=X1b cz13;simp;omega)|(rw [X35];omega)),hoz13,ho14.rd.top,hW⟩
  have hc30b:=hc30;refine wp_skip ?_;refine Xd ?_;refine hK15 _ _ ?_;refine Zs hf fun _ hK34=>?_;refine Ze (Vn X0q hB12)<|Zm rfl ?_;refine Zo (Vw [vi cz13.n,.slice Az13 cz13.gs.length ez13] X22 hB4) ?_;rintro _ w23 ⟨ho,hb⟩;have hold:=hB4;replace hB8:=hB8.only ho (Blk.ne hB8 hold rfl);replace hB12:=hB12.only ho (by omega);replace hoz13:=hoz13.onlyT ho hold rfl;replace ho14:=ho14.onlyT ho hold rfl;replace hW:=Below.only hW ho hlo4;clear hold;have hB4:=hb;clear hb ho;refine Za rfl ?_;refine Zt hK34 fun a hf=>?_
  refine wp_ret (X3 hf (X15 hf rfl (ResV.cellN (l:=[vi cz13.n,.slice Az13 cz13.gs.length ez13]) rfl X0q (hB4.at 0) rfl) rfl) ?_)
  exact ⟨⟨cz13.n,cz13.gs⟩,Az13,ez13,(schedOf cz13),A14,c14,(by first|rfl|(simp;done)),hPz13,(by first|(have:=X1b cz13;omega)|(have:=X1b cz13;simp;omega)|(rw [X35];omega)),hoz13,ho14.rd.top,hW⟩
 refine Zp ⟨_,_,rfl,rfl,hg18⟩ ?_;refine Zp ⟨_,_,rfl,rfl,hg18⟩ ?_;refine Ze (X9 rfl hg18 rfl)<|Za rfl ?_;refine Zt hK17 fun a hf=>?_;refine X6n hf rfl ?_;refine Zs hf fun _ hK35=>?_;refine Zm rfl<|Ze (X3e rfl rfl)<|Zm rfl<|Zp ⟨_,_,rfl,rfl,hg18⟩ ?_;refine Zp ⟨_,_,rfl,rfl,hg18⟩ ?_;refine Ze (X9 rfl hg18 rfl)<|Za rfl ?_;refine Zt hK35 fun a hf=>?_;refine X6n hf rfl ?_;refine Zs hf fun _ hK36=>?_;refine Zm rfl<|Ze (X3e rfl rfl)<|Zm rfl<|Zp ⟨_,_,rfl,rfl,hg18⟩ ?_;refine Zp ⟨_,_,rfl,rfl,hg18⟩ ?_;refine Ze (X9 rfl hg18 rfl)<|Za rfl ?_;refine Zt hK36 fun a hf=>?_;refine X6n hf rfl ?_;refine Zs hf fun _ hK37=>?_;refine Zm rfl<|Ze (X3e rfl rfl)<|Zm rfl<|Zp ⟨_,_,rfl,rfl,hg18⟩ ?_;refine Zp ⟨_,_,rfl,rfl,hg18⟩ ?_;refine Ze (X9 rfl hg18 rfl)<|Za rfl ?_;refine Zt hK37 fun a hf=>?_;refine X6n hf rfl ?_;refine wp_skip ?_;refine Xd ?_;refine hK15 _ _ ?_;refine Zs hf fun _ hK38=>?_;refine Ze (Vn X0q hB12)<|Zm rfl ?_;refine Zo (Vw [vi cz13.n,.slice Az13 cz13.gs.length ez13] X22 hB4) ?_;rintro _ w24 ⟨ho,hb⟩;have hold:=hB4;replace hB8:=hB8.only ho (Blk.ne hB8 hold rfl);replace hB12:=hB12.only ho (by omega);replace hoz13:=hoz13.onlyT ho hold rfl;replace ho14:=ho14.onlyT ho hold rfl;replace hW:=Below.only hW ho hlo4;clear hold;have hB4:=hb;clear hb ho;refine Za rfl ?_;refine Zt hK38 fun a hf=>?_
 refine wp_ret (X3 hf (X15 hf rfl (ResV.cellN (l:=[vi cz13.n,.slice Az13 cz13.gs.length ez13]) rfl X0q (hB4.at 0) rfl) rfl) ?_)
 exact ⟨⟨cz13.n,cz13.gs⟩,Az13,ez13,(schedOf cz13),A14,c14,(by first|rfl|(simp;done)),hPz13,(by first|(have:=X1b cz13;omega)|(have:=X1b cz13;simp;omega)|(rw [X35];omega)),hoz13,ho14.rd.top,hW⟩
theorem Xt8(w0:World){Xcd:TypeId}(Acd:Option Addr)(ccd:Nat)(code:List Int)(hr_code:Rd w0 w0.heap.size Xcd encU Acd code)(hcd:∀ x ∈ code,0≤x∧x≤255){Xce:TypeId}(Ace:Option Addr)(cce:Nat)(more:List Int)(hr_more:Rd w0 w0.heap.size Xce encU Ace more)(hcm:∀ x ∈ more,0≤x∧x≤255) : Ret Tryz.prog 6 [.slice Acd code.length ccd,.slice Ace more.length cce] w0 (fun v w=>v=.bool true∧Below w0.heap.size w0 w):=by
 refine enter Tryz.func6 rfl 168 rfl rfl ?_;intro a hf
 have hW:Below w0.heap.size w0 w0:=Below.refl _ _
 refine Zs hf fun _ hK3=>?_;refine Za rfl ?_;refine Zt hK3 fun a hf=>?_;refine wp_seq_k fun _ hK4=>?_;refine Zs hf fun _ hK5=>?_;refine Zm rfl<|Ze (X0y rfl X5k)<|Zm rfl<|Ze (X0y rfl X5k)<|Ze (X2k rfl rfl) ?_;refine Ze (X3e rfl rfl) ?_;refine Zt hK5 fun a hf=>?_
 refine Xe hf rfl (fun hc6=>?_) (fun hc6=>?_)
 ·have hc6b:=hc6;have hc6:=of_decide_eq_true hc6;refine Zs hf fun _ hK7=>?_;refine Za rfl ?_;refine Zt hK7 fun a hf=>?_;refine wp_ret ?_;refine X5 ?_;refine X3 hf (Xq hf rfl rfl) ?_;exact ⟨by first|rfl|(rw [hle2];done)|(rw [hle1];done)|exact absurd (hle1.symm.trans (by assumption)) (by decide),hW⟩
 have hc6b:=hc6;have hc6:=of_decide_eq_false hc6;refine wp_skip ?_;refine hK4 _ _ ?_;refine Zs hf fun _ hK8=>?_;refine Zm rfl ?_;refine Zf (Vc (Xtw _ Acd ccd code (hr_code.below' hW).top hcd) Xnx) ?_;rintro _ w1 ⟨cz37,Az37,ez37,rfl,hPz37,hoz37,hE⟩;replace hoz37:=hoz37.lower hW.size;replace hW:=btr hW hE;refine Zf (Xa (zs:=[vi 0,.slice none 0 0]) X5t rfl) ?_;rintro _ w2 ⟨b11,rfl,hl11,hE,hB11⟩;have hlo11:=Nat.le_trans hW.size hl11;have haw1_11:=(hr_code.below' hW).away hl11;have haw2_11:=(hr_more.below' hW).away hl11;replace hoz37:=hoz37.below hE;replace hW:=btr hW hE;refine Zo (Vw [vi cz37.n,.slice Az37 cz37.gs.length ez37] X22 hB11) ?_;rintro _ w3 ⟨ho,hb⟩;have hold:=hB11;replace hoz37:=hoz37.onlyT ho hold rfl;replace hW:=Below.only hW ho hlo11;clear hold;have hB11:=hb;clear hb ho;refine Zt hK8 fun a hf=>?_;refine Zs hf fun _ hK12=>?_;refine Ze (Vn X0q hB11) ?_;refine Zf (Vc (F22 _ cz37 Az37 ez37 hoz37.rd.top (by omega)) Xu9) ?_;rintro _ w4 ⟨A13,c13,rfl,ho13,hE⟩;replace ho13:=ho13.lower hW.size;replace hB11:=hB11.below hE;replace hoz37:=hoz37.below hE;replace hW:=btr hW hE;refine Zm rfl<|Ze (X8 (vs:=[.slice A13 (schedOf cz37).length c13,.bool (cOk cz37)]) rfl rfl)<|Ze (X8 (vs:=[.slice A13 (schedOf cz37).length c13,.bool (cOk cz37)]) rfl rfl)<|Za rfl<|Za rfl ?_;refine Zt hK12 fun a hf=>?_;refine Zs hf fun _ hK14=>?_;refine Ze (Vn X0q hB11) ?_;refine Zf (Vc (F21 _ cz37 Az37 ez37 hoz37.rd.top hoz37.cap (by omega)) Xph) ?_;rintro _ w5 ⟨A15,c15,rfl,ho15,hE⟩;replace ho15:=ho15.lower hW.size;replace hB11:=hB11.below hE;replace hoz37:=hoz37.below hE;replace ho13:=ho13.below hE;replace hW:=btr hW hE;refine Zm rfl<|Ze (X8 (vs:=[.slice A15 (schedOf cz37).length c15,.bool (cOk cz37)]) rfl rfl)<|Ze (X8 (vs:=[.slice A15 (schedOf cz37).length c15,.bool (cOk cz37)]) rfl rfl)<|Za rfl<|Za rfl ?_;refine Zt hK14 fun a hf=>?_
 refine Zs hf fun _ hK16=>?_;refine Zm rfl ?_;refine Zf (Vc (Xu6 _ Ace cce more (hr_more.below' hW).top hcm) Xmo) ?_;rintro _ w6 ⟨cz50,Az50,ez50,lz50,Bz50,fz50,rfl,hPz50,hlz50,hoz50,hrlz50,hE⟩;replace hoz50:=hoz50.lower hW.size;replace hB11:=hB11.below hE;replace hoz37:=hoz37.below hE;replace ho13:=ho13.below hE;replace ho15:=ho15.below hE;replace hW:=btr hW hE;refine Zm rfl<|Ze (X8 (vs:=[.agg #[vi cz50.n,.slice Az50 cz50.gs.length ez50],.slice Bz50 lz50.length fz50]) rfl rfl)<|Ze (X8 (vs:=[.agg #[vi cz50.n,.slice Az50 cz50.gs.length ez50],.slice Bz50 lz50.length fz50]) rfl rfl) ?_;refine Zf (Xa (zs:=[vi 0,.slice none 0 0]) X5t rfl) ?_;rintro _ w7 ⟨b20,rfl,hl20,hE,hB20⟩
 have hne11_20:b11≠b20:=by have:=hB11.lt;omega
 have hlo20:=Nat.le_trans hW.size hl20;have haw1_20:=(hr_code.below' hW).away hl20;have haw2_20:=(hr_more.below' hW).away hl20;replace hB11:=hB11.below hE;replace hoz37:=hoz37.below hE;replace ho13:=ho13.below hE;replace ho15:=ho15.below hE;replace hoz50:=hoz50.below hE;replace hrlz50:=hrlz50.below hE;replace hW:=btr hW hE;refine Zo (Vw [vi cz50.n,.slice Az50 cz50.gs.length ez50] X22 hB20) ?_;rintro _ w8 ⟨ho,hb⟩;have hold:=hB20;replace hB11:=hB11.only ho (by omega);replace hoz37:=hoz37.onlyT ho hold rfl;replace ho13:=ho13.onlyT ho hold rfl;replace ho15:=ho15.onlyT ho hold rfl;replace hoz50:=hoz50.onlyT ho hold rfl;replace hrlz50:=hrlz50.onlyT ho hold rfl;replace hW:=Below.only hW ho hlo20;clear hold;have hB20:=hb;clear hb ho;refine Za rfl ?_;refine Zt hK16 fun a hf=>?_;refine Zs hf fun _ hK21=>?_;refine Ze (Vn X0q hB20)<|Zm rfl ?_;refine Zf (Vc (F18 _ cz50 Az50 ez50 hoz50.rd.top Bz50 fz50 lz50 hrlz50.top (by omega)) Xgq) ?_;rintro _ w9 ⟨rfl,hE⟩;replace hB11:=hB11.below hE;replace hB20:=hB20.below hE;replace hoz37:=hoz37.below hE;replace ho13:=ho13.below hE;replace ho15:=ho15.below hE;replace hoz50:=hoz50.below hE;replace hrlz50:=hrlz50.below hE;replace hW:=btr hW hE;refine Zm rfl<|Ze (X8 (vs:=[vi ((implC cz50 lz50).1),vi ((implC cz50 lz50).2.1),.bool ((implC cz50 lz50).2.2)]) rfl rfl)<|Ze (X8 (vs:=[vi ((implC cz50 lz50).1),vi ((implC cz50 lz50).2.1),.bool ((implC cz50 lz50).2.2)]) rfl rfl)<|Ze (X8 (vs:=[vi ((implC cz50 lz50).1),vi ((implC cz50 lz50).2.1),.bool ((implC cz50 lz50).2.2)]) rfl rfl)<|Za rfl ?_;refine Za rfl<|Za rfl ?_;refine Zt hK21 fun a hf=>?_;refine Zs hf fun _ hK22=>?_;refine Ze (Vn X0q hB20)<|Zm rfl ?_;refine Zf (Vc (F15 _ cz50 Az50 ez50 hoz50.rd.top hoz50.cap Bz50 fz50 lz50 hrlz50.top (by omega)) Xv0) ?_;rintro _ w10 ⟨rfl,hE⟩;replace hB11:=hB11.below hE;replace hB20:=hB20.below hE;replace hoz37:=hoz37.below hE
 replace ho13:=ho13.below hE;replace ho15:=ho15.below hE;replace hoz50:=hoz50.below hE;replace hrlz50:=hrlz50.below hE;replace hW:=btr hW hE;refine Zm rfl<|Ze (X8 (vs:=[vi ((specC cz50 lz50).1),vi ((specC cz50 lz50).2.1),.bool ((specC cz50 lz50).2.2)]) rfl rfl)<|Ze (X8 (vs:=[vi ((specC cz50 lz50).1),vi ((specC cz50 lz50).2.1),.bool ((specC cz50 lz50).2.2)]) rfl rfl)<|Ze (X8 (vs:=[vi ((specC cz50 lz50).1),vi ((specC cz50 lz50).2.1),.bool ((specC cz50 lz50).2.2)]) rfl rfl)<|Za rfl ?_;refine Za rfl<|Za rfl ?_;refine Zt hK22 fun a hf=>?_;refine wp_seq_k fun _ hK23=>?_;refine wp_seq_k fun _ hK24=>?_;refine X08 (fun a w=>Fr a 168 [(5,.pointer (some ⟨b11,0,none⟩)),(6,.slice A13 (schedOf cz37).length c13),(7,.bool (cOk cz37)),(10,.pointer (some ⟨b20,0,none⟩)),(11,.slice Bz50 lz50.length fz50),(12,vi ((implC cz50 lz50).1)),(14,.bool ((implC cz50 lz50).2.2)),(90,.bool ((((((cOk cz37) != (cOk cz37))||(!(decide ((schedOf cz37)=(schedOf cz37)))))||(((implC cz50 lz50).2.2) != ((specC cz50 lz50).2.2)))||(((implC cz50 lz50).1) != ((specC cz50 lz50).1)))||(((implC cz50 lz50).2.1) != ((specC cz50 lz50).2.1))))]∧Below w10.heap.size w10 w) ?_ ?_
 ·have hEc:Below w10.heap.size w10 w10:=Below.refl _ _
  refine Zr hf ?_;refine Zm rfl<|Zm rfl<|Ze (Xoy Tryz.underlying4 rfl rfl)<|Zm rfl ?_
  refine Zg 70 rfl (fun hg25=>?_) (fun hg25=>?_)
  ·refine Zp ⟨_,_,rfl,rfl,hg25⟩ ?_;refine Zp ⟨_,_,rfl,rfl,hg25⟩ ?_;refine Zp ⟨_,_,rfl,rfl,hg25⟩ ?_;refine Zp ⟨_,_,rfl,rfl,hg25⟩ ?_;refine Ze (Xb rfl hg25 rfl)<|Zm rfl<|Zp ⟨_,_,rfl,rfl,rfl⟩ ?_;refine Zp ⟨_,_,rfl,rfl,rfl⟩ ?_;refine Zp ⟨_,_,rfl,rfl,rfl⟩ ?_;refine Ze (Xb rfl rfl rfl)<|Zm rfl<|Zp ⟨_,_,rfl,rfl,rfl⟩ ?_;refine Zp ⟨_,_,rfl,rfl,rfl⟩ ?_;refine Zp ⟨_,_,rfl,rfl,rfl⟩ ?_;refine Ze (Xb rfl rfl rfl)<|Zm rfl<|Zp ⟨_,_,rfl,rfl,rfl⟩ ?_;refine Zp ⟨_,_,rfl,rfl,rfl⟩ ?_;refine Zp ⟨_,_,rfl,rfl,rfl⟩ ?_;refine Ze (Xb rfl rfl rfl) ?_;refine Zn fun a hf=>?_
   have hEE:Below w10.heap.size w10 w10:=hEc
   exact ⟨hf.sub ⟨rfl,rfl,rfl,rfl,rfl,rfl,rfl,X1 rfl (by first|rfl|(simp only [hc6b,hg25,Bool.true_and,Bool.false_and,Bool.true_or,Bool.false_or];done)|(simp [hc6b,hg25];done)|(exfalso;revert hg25;simp)),trivial⟩,hEE⟩
  refine Zv ⟨_,_,rfl,rfl,hg25⟩ (X2 rfl) ?_;refine Zv ⟨_,_,rfl,rfl,hg25⟩ (X2 rfl) ?_;refine Zk ⟨_,_,rfl,rfl,hg25⟩ (Vc (Xuj _ A13 c13 (schedOf cz37) ho13.rd.top A15 c15 (schedOf cz37) ho15.rd.top (Nat.le_trans (X1b _) (by decide))) Xol) ?_;rintro _ w11 ⟨rfl,hE⟩;replace hB11:=hB11.below hE;replace hB20:=hB20.below hE;replace hoz37:=hoz37.below hE;replace ho13:=ho13.below hE;replace ho15:=ho15.below hE;replace hoz50:=hoz50.below hE;replace hrlz50:=hrlz50.below hE;replace hW:=btr hW hE;replace hEc:=btr hEc hE;refine Zv ⟨_,_,rfl,rfl,hg25⟩ (X16 rfl) ?_;refine Ze (X9 rfl hg25 rfl)<|Zm rfl ?_
  refine Zg 76 rfl (fun hg26=>?_) (fun hg26=>?_)
  ·refine Zp ⟨_,_,rfl,rfl,hg26⟩ ?_;refine Zp ⟨_,_,rfl,rfl,hg26⟩ ?_;refine Zp ⟨_,_,rfl,rfl,hg26⟩ ?_;refine Ze (Xb rfl hg26 rfl)<|Zm rfl<|Zp ⟨_,_,rfl,rfl,rfl⟩ ?_;refine Zp ⟨_,_,rfl,rfl,rfl⟩ ?_;refine Zp ⟨_,_,rfl,rfl,rfl⟩ ?_;refine Ze (Xb rfl rfl rfl)<|Zm rfl<|Zp ⟨_,_,rfl,rfl,rfl⟩ ?_;refine Zp ⟨_,_,rfl,rfl,rfl⟩ ?_;refine Zp ⟨_,_,rfl,rfl,rfl⟩ ?_;refine Ze (Xb rfl rfl rfl) ?_;refine Zn fun a hf=>?_
   have hEE:Below w10.heap.size w10 w11:=hEc
   exact ⟨hf.sub ⟨rfl,rfl,rfl,rfl,rfl,rfl,rfl,X1 rfl (by first|rfl|(simp only [hc6b,hg25,hg26,Bool.true_and,Bool.false_and,Bool.true_or,Bool.false_or];done)|(simp [hc6b,hg25,hg26];done)|(exfalso;revert hg26;simp)),trivial⟩,hEE⟩
  refine Zv ⟨_,_,rfl,rfl,hg26⟩ (X2 rfl) ?_;refine Zv ⟨_,_,rfl,rfl,hg26⟩ (X2 rfl) ?_;refine Zv ⟨_,_,rfl,rfl,hg26⟩ (Xoy Tryz.underlying4 rfl rfl) ?_;refine Ze (X9 rfl hg26 rfl)<|Zm rfl ?_
  refine Zg 81 rfl (fun hg27=>?_) (fun hg27=>?_)
  ·refine Zp ⟨_,_,rfl,rfl,hg27⟩ ?_;refine Zp ⟨_,_,rfl,rfl,hg27⟩ ?_;refine Zp ⟨_,_,rfl,rfl,hg27⟩ ?_;refine Ze (Xb rfl hg27 rfl)<|Zm rfl<|Zp ⟨_,_,rfl,rfl,rfl⟩ ?_;refine Zp ⟨_,_,rfl,rfl,rfl⟩ ?_;refine Zp ⟨_,_,rfl,rfl,rfl⟩ ?_;refine Ze (Xb rfl rfl rfl) ?_;refine Zn fun a hf=>?_
   have hEE:Below w10.heap.size w10 w11:=hEc
   exact ⟨hf.sub ⟨rfl,rfl,rfl,rfl,rfl,rfl,rfl,X1 rfl (by first|rfl|(simp only [hc6b,hg25,hg26,hg27,Bool.true_and,Bool.false_and,Bool.true_or,Bool.false_or];done)|(simp [hc6b,hg25,hg26,hg27];done)|(exfalso;revert hg27;simp)),trivial⟩,hEE⟩
  refine Zv ⟨_,_,rfl,rfl,hg27⟩ (X2 rfl) ?_;refine Zv ⟨_,_,rfl,rfl,hg27⟩ (X2 rfl) ?_;refine Zv ⟨_,_,rfl,rfl,hg27⟩ (X29 rfl rfl) ?_;refine Ze (X9 rfl hg27 rfl)<|Zm rfl ?_
  refine Zg 86 rfl (fun hg28=>?_) (fun hg28=>?_)
  ·refine Zp ⟨_,_,rfl,rfl,hg28⟩ ?_;refine Zp ⟨_,_,rfl,rfl,hg28⟩ ?_;refine Zp ⟨_,_,rfl,rfl,hg28⟩ ?_;refine Ze (Xb rfl hg28 rfl) ?_;refine Zn fun a hf=>?_
   have hEE:Below w10.heap.size w10 w11:=hEc
   exact ⟨hf.sub ⟨rfl,rfl,rfl,rfl,rfl,rfl,rfl,X1 rfl (by first|rfl|(simp only [hc6b,hg25,hg26,hg27,hg28,Bool.true_and,Bool.false_and,Bool.true_or,Bool.false_or];done)|(simp [hc6b,hg25,hg26,hg27,hg28];done)|(exfalso;revert hg28;simp)),trivial⟩,hEE⟩
  refine Zv ⟨_,_,rfl,rfl,hg28⟩ (X2 rfl) ?_;refine Zv ⟨_,_,rfl,rfl,hg28⟩ (X2 rfl) ?_;refine Zv ⟨_,_,rfl,rfl,hg28⟩ (X29 rfl rfl) ?_;refine Ze (X9 rfl hg28 rfl) ?_;refine Zn fun a hf=>?_
  have hEE:Below w10.heap.size w10 w11:=hEc
  exact ⟨hf.sub ⟨rfl,rfl,rfl,rfl,rfl,rfl,rfl,X1 rfl (by first|rfl|(simp only [hc6b,hg25,hg26,hg27,hg28,Bool.true_and,Bool.false_and,Bool.true_or,Bool.false_or];done)|(simp [hc6b,hg25,hg26,hg27,hg28];done)|(exfalso;revert hg28;simp)),trivial⟩,hEE⟩
 rintro a w12 ⟨hf,hE⟩;replace hB11:=hB11.below hE;replace hB20:=hB20.below hE;replace hoz37:=hoz37.below hE;replace ho13:=ho13.below hE;replace ho15:=ho15.below hE;replace hoz50:=hoz50.below hE;replace hrlz50:=hrlz50.below hE;replace hW:=btr hW hE;refine hK24 _ _ ?_
 refine Xe hf rfl (fun hc29=>?_) (fun hc29=>?_)
 ·have hc29b:=hc29
  rw [Xe7] at hc29;simp at hc29
 have hc29b:=hc29;refine wp_skip ?_;refine hK23 _ _ ?_;refine wp_seq_k fun _ hK30=>?_;refine wp_seq_k fun _ hK31=>?_;refine X08 (fun a w=>Fr a 168 [(5,.pointer (some ⟨b11,0,none⟩)),(6,.slice A13 (schedOf cz37).length c13),(7,.bool (cOk cz37)),(10,.pointer (some ⟨b20,0,none⟩)),(11,.slice Bz50 lz50.length fz50),(95,.bool (((implC cz50 lz50).2.2)&&(((implC cz50 lz50).1)==0)))]∧w12=w) ?_ ?_
 ·refine Zr hf ?_;refine Zm rfl<|Zm rfl ?_
  refine Zg 92 rfl (fun hg32=>?_) (fun hg32=>?_)
  ·refine Zv ⟨_,_,rfl,rfl,hg32⟩ (X2 rfl) ?_;refine Zv ⟨_,_,rfl,rfl,hg32⟩ (X0u rfl rfl) ?_;refine Ze (Xb rfl hg32 rfl) ?_;refine Zn fun a hf=>?_;exact ⟨hf.sub ⟨rfl,rfl,rfl,rfl,rfl,X1 rfl (by first|rfl|(simp only [hc6b,hc29b,hg32,Bool.true_and,Bool.false_and,Bool.true_or,Bool.false_or];done)|(simp [hc6b,hc29b,hg32];done)|(exfalso;revert hg32;simp)),trivial⟩,rfl⟩
  refine Zp ⟨_,_,rfl,rfl,hg32⟩ ?_;refine Zp ⟨_,_,rfl,rfl,hg32⟩ ?_;refine Ze (X9 rfl hg32 rfl) ?_;refine Zn fun a hf=>?_;exact ⟨hf.sub ⟨rfl,rfl,rfl,rfl,rfl,X1 rfl (by first|rfl|(simp only [hc6b,hc29b,hg32,Bool.true_and,Bool.false_and,Bool.true_or,Bool.false_or];done)|(simp [hc6b,hc29b,hg32];done)|(exfalso;revert hg32;simp)),trivial⟩,rfl⟩
 rintro a _ ⟨hf,rfl⟩;refine hK31 _ _ ?_;refine X08 (fun a w=>Fr a 168 [(5,.pointer (some ⟨b11,0,none⟩)),(6,.slice A13 (schedOf cz37).length c13),(7,.bool (cOk cz37))]∧Blk w b11 31 [vi cz37.n,.slice Az37 cz37.gs.length ez37]∧Own w w0.heap.size 24 3 encG Az37 ez37 cz37.gs∧Own w w0.heap.size 3 1 encI A13 c13 (schedOf cz37)∧Below w0.heap.size w0 w) ?_ ?_
 ·refine Xe hf rfl (fun hc33=>?_) (fun hc33=>?_)
  ·have hc33b:=hc33;obtain ⟨hcx,hdx⟩:=Xhl hc33
   obtain ⟨hsc,hqx⟩:=Xl7 hcx (by omega) hdx
   refine Zs hf fun _ hK34=>?_;refine Ze (Vn X0q hB20)<|Zm rfl ?_;refine Zf (Vc (F32 _ cz50 Az50 ez50 hoz50.rd.top Bz50 fz50 lz50 hrlz50.top (by omega)) Xtt) ?_;rintro _ w13 ⟨A35,c35,rfl,ho35,hE⟩;replace ho35:=ho35.lower hW.size;replace hB11:=hB11.below hE;replace hB20:=hB20.below hE;replace hoz37:=hoz37.below hE;replace ho13:=ho13.below hE;replace hoz50:=hoz50.below hE;replace hrlz50:=hrlz50.below hE;replace hW:=btr hW hE;refine Zm rfl<|Ze (X8 (vs:=[.agg #[vi (((scO cz50 lz50).getD cZ).n),.slice A35 (((scO cz50 lz50).getD cZ).gs).length c35],.bool ((scO cz50 lz50).isSome)]) rfl rfl)<|Ze (X8 (vs:=[.agg #[vi (((scO cz50 lz50).getD cZ).n),.slice A35 (((scO cz50 lz50).getD cZ).gs).length c35],.bool ((scO cz50 lz50).isSome)]) rfl rfl) ?_;refine Zf (Xa (zs:=[vi 0,.slice none 0 0]) X5t rfl) ?_;rintro _ w14 ⟨b37,rfl,hl37,hE,hB37⟩
   have hne11_37:b11≠b37:=by have:=hB11.lt;omega
   have hne20_37:b20≠b37:=by have:=hB20.lt;omega
   have hlo37:=Nat.le_trans hW.size hl37;have haw1_37:=(hr_code.below' hW).away hl37;have haw2_37:=(hr_more.below' hW).away hl37;replace hB11:=hB11.below hE;replace hB20:=hB20.below hE;replace hoz37:=hoz37.below hE;replace ho13:=ho13.below hE;replace hoz50:=hoz50.below hE;replace hrlz50:=hrlz50.below hE;replace ho35:=ho35.below hE;replace hW:=btr hW hE;refine Zo (Vw [vi (((scO cz50 lz50).getD cZ).n),.slice A35 (((scO cz50 lz50).getD cZ).gs).length c35] X22 hB37) ?_;rintro _ w15 ⟨ho,hb⟩;have hold:=hB37;replace hB11:=hB11.only ho (by omega);replace hB20:=hB20.only ho (by omega);replace hoz37:=hoz37.onlyT ho hold rfl;replace ho13:=ho13.onlyT ho hold rfl;replace hoz50:=hoz50.onlyT ho hold rfl;replace hrlz50:=hrlz50.onlyT ho hold rfl;replace ho35:=ho35.onlyT ho hold rfl;replace hW:=Below.only hW ho hlo37;clear hold;have hB37:=hb;clear hb ho;refine Za rfl ?_;refine Zt hK34 fun a hf=>?_;refine wp_seq_k fun _ hK38=>?_;refine X08 (fun a w=>Fr a 168 [(5,.pointer (some ⟨b11,0,none⟩)),(6,.slice A13 (schedOf cz37).length c13),(7,.bool (cOk cz37)),(109,.bool ((!((scO cz50 lz50).isSome))&&true))]∧Below w15.heap.size w15 w) ?_ ?_
   ·have hEc:Below w15.heap.size w15 w15:=Below.refl _ _
    refine Zr hf ?_;refine Zm rfl<|Ze (X16 rfl)<|Zm rfl ?_
    refine Zg 104 rfl (fun hg39=>?_) (fun hg39=>?_)
    ·refine Zp ⟨_,_,rfl,rfl,hg39⟩ ?_;refine Zp ⟨_,_,rfl,rfl,hg39⟩ ?_;refine Zp ⟨_,_,rfl,rfl,hg39⟩ ?_;refine Zp ⟨_,_,rfl,rfl,hg39⟩ ?_;refine Ze (Xb rfl hg39 rfl) ?_;refine Zn fun a hf=>?_
     have hEE:Below w15.heap.size w15 w15:=hEc
     exact ⟨hf.sub ⟨rfl,rfl,rfl,X1 rfl (by first|rfl|(simp only [hc6b,hc29b,hc33b,hg39,Bool.true_and,Bool.false_and,Bool.true_or,Bool.false_or];done)|(simp [hc6b,hc29b,hc33b,hg39];done)|(exfalso;revert hg39;simp)),trivial⟩,hEE⟩
    refine Zv ⟨_,_,rfl,rfl,hg39⟩ (Vn X0q hB20) ?_;refine Zv ⟨_,_,rfl,rfl,hg39⟩ (Vn X0q hB37) ?_;refine Zk ⟨_,_,rfl,rfl,hg39⟩ (Vc (Xt5 _ cz50 Az50 ez50 hoz50.rd.top ((scO cz50 lz50).getD cZ) A35 c35 ho35.rd.top (by omega) (by rw [Xmn hcx hdx];omega) hqx) Xmd) ?_;rintro _ w16 ⟨rfl,hE⟩;replace hB11:=hB11.below hE;replace hB20:=hB20.below hE;replace hB37:=hB37.below hE;replace hoz37:=hoz37.below hE;replace ho13:=ho13.below hE;replace hoz50:=hoz50.below hE;replace ho35:=ho35.below hE;replace hW:=btr hW hE;replace hEc:=btr hEc hE;refine Zv ⟨_,_,rfl,rfl,hg39⟩ (X16 rfl) ?_;refine Ze (X9 rfl hg39 rfl) ?_;refine Zn fun a hf=>?_
    have hEE:Below w15.heap.size w15 w16:=hEc
    exact ⟨hf.sub ⟨rfl,rfl,rfl,X1 rfl (by first|rfl|(simp only [hc6b,hc29b,hc33b,hg39,Bool.true_and,Bool.false_and,Bool.true_or,Bool.false_or];done)|(simp [hc6b,hc29b,hc33b,hg39];done)|(exfalso;revert hg39;simp)),trivial⟩,hEE⟩
   rintro a w17 ⟨hf,hE⟩;replace hB11:=hB11.below hE;replace hB20:=hB20.below hE;replace hB37:=hB37.below hE;replace hoz37:=hoz37.below hE;replace ho13:=ho13.below hE;replace hoz50:=hoz50.below hE;replace ho35:=ho35.below hE;replace hW:=btr hW hE;refine hK38 _ _ ?_
   refine Xe hf rfl (fun hc40=>?_) (fun hc40=>?_)
   ·have hc40b:=hc40
    rw [hsc] at hc40;simp at hc40
   have hc40b:=hc40;refine wp_skip ?_;refine Xc ?_;exact ⟨hf.sub ⟨rfl,rfl,rfl,trivial⟩,hB11,hoz37,ho13,hW⟩
  have hc33b:=hc33;refine wp_skip ?_;refine Xc ?_;exact ⟨hf.sub ⟨rfl,rfl,rfl,trivial⟩,hB11,hoz37,ho13,hW⟩
 rintro a w18 ⟨hf,hB11,hoz37,ho13,hW⟩;refine hK30 _ _ ?_;refine wp_seq_k fun _ hK41=>?_;refine Zs hf fun _ hK42=>?_;refine Zm rfl<|Ze (X16 rfl) ?_;refine Zt hK42 fun a hf=>?_
 refine Xe hf rfl (fun hc43=>?_) (fun hc43=>?_)
 ·have hc43b:=hc43;refine Zs hf fun _ hK44=>?_;refine Za rfl ?_;refine Zt hK44 fun a hf=>?_;refine wp_ret ?_;refine X5 ?_;refine X3 hf (Xq hf rfl rfl) ?_;exact ⟨by first|rfl|(rw [hle2];done)|(rw [hle1];done)|exact absurd (hle1.symm.trans (by assumption)) (by decide),hW⟩
 have hc43b:=hc43
 have hc:cOk cz37=true:=by simpa using hc43
 have hs1:=Xaa hc (X6a hc);have hs2:=Xaa hc (Xej hc);refine wp_skip ?_;refine hK41 _ _ ?_;refine Zs hf fun _ hK45=>?_;refine Ze (Vn X0q hB11)<|Zm rfl ?_;refine Zf (Vc (F18 _ cz37 Az37 ez37 hoz37.rd.top A13 c13 (schedOf cz37) ho13.rd.top (by omega)) Xgq) ?_;rintro _ w19 ⟨rfl,hE⟩;replace hB11:=hB11.below hE;replace hoz37:=hoz37.below hE;replace ho13:=ho13.below hE;replace hW:=btr hW hE;refine Zm rfl<|Ze (X8 (vs:=[vi ((implC cz37 (schedOf cz37)).1),vi ((implC cz37 (schedOf cz37)).2.1),.bool ((implC cz37 (schedOf cz37)).2.2)]) rfl rfl)<|Ze (X8 (vs:=[vi ((implC cz37 (schedOf cz37)).1),vi ((implC cz37 (schedOf cz37)).2.1),.bool ((implC cz37 (schedOf cz37)).2.2)]) rfl rfl)<|Ze (X8 (vs:=[vi ((implC cz37 (schedOf cz37)).1),vi ((implC cz37 (schedOf cz37)).2.1),.bool ((implC cz37 (schedOf cz37)).2.2)]) rfl rfl)<|Za rfl ?_;refine Za rfl<|Za rfl ?_;refine Zt hK45 fun a hf=>?_;refine Zs hf fun _ hK46=>?_;refine Ze (Vn X0q hB11) ?_;refine Zf (Vc (Xu1 _ cz37 Az37 ez37 hoz37.rd.top (by omega)) Xo2) ?_;rintro _ w20 ⟨A47,c47,rfl,ho47,hE⟩;replace ho47:=ho47.lower hW.size;replace hB11:=hB11.below hE;replace hoz37:=hoz37.below hE;replace ho13:=ho13.below hE;replace hW:=btr hW hE;refine Zm rfl<|Ze (X8 (vs:=[.slice A47 (lyD cz37).length c47,.bool (cOk cz37)]) rfl rfl)<|Ze (X8 (vs:=[.slice A47 (lyD cz37).length c47,.bool (cOk cz37)]) rfl rfl)<|Za rfl<|Za rfl ?_;refine Zt hK46 fun a hf=>?_;refine Zs hf fun _ hK48=>?_;refine Ze (Vn X0q hB11)<|Zm rfl ?_;refine Zf (Vc (F18 _ cz37 Az37 ez37 hoz37.rd.top A47 c47 (lyD cz37) ho47.rd.top (by omega)) Xgq) ?_;rintro _ w21 ⟨rfl,hE⟩;replace hB11:=hB11.below hE;replace hoz37:=hoz37.below hE;replace ho13:=ho13.below hE;replace ho47:=ho47.below hE;replace hW:=btr hW hE;refine Zm rfl<|Ze (X8 (vs:=[vi ((implC cz37 (lyD cz37)).1),vi ((implC cz37 (lyD cz37)).2.1),.bool ((implC cz37 (lyD cz37)).2.2)]) rfl rfl)<|Ze (X8 (vs:=[vi ((implC cz37 (lyD cz37)).1),vi ((implC cz37 (lyD cz37)).2.1),.bool ((implC cz37 (lyD cz37)).2.2)]) rfl rfl)<|Ze (X8 (vs:=[vi ((implC cz37 (lyD cz37)).1),vi ((implC cz37 (lyD cz37)).2.1),.bool ((implC cz37 (lyD cz37)).2.2)]) rfl rfl)<|Za rfl ?_
 refine Za rfl<|Za rfl ?_;refine Zt hK48 fun a hf=>?_;refine wp_seq_k fun _ hK49=>?_;refine wp_seq_k fun _ hK50=>?_;refine X08 (fun a w=>Fr a 168 [(5,.pointer (some ⟨b11,0,none⟩)),(6,.slice A13 (schedOf cz37).length c13),(23,.slice A47 (lyD cz37).length c47),(148,.bool (((((!((implC cz37 (schedOf cz37)).2.2))||(!(cOk cz37)))||(!((implC cz37 (lyD cz37)).2.2)))||(((implC cz37 (schedOf cz37)).1) != 0))||(((implC cz37 (lyD cz37)).1) != 0)))]∧w21=w) ?_ ?_
 ·refine Zr hf ?_;refine Zm rfl<|Ze (X16 rfl)<|Zm rfl ?_
  refine Zg 133 rfl (fun hg51=>?_) (fun hg51=>?_)
  ·refine Zp ⟨_,_,rfl,rfl,hg51⟩ ?_;refine Zp ⟨_,_,rfl,rfl,hg51⟩ ?_;refine Ze (Xb rfl hg51 rfl)<|Zm rfl<|Zp ⟨_,_,rfl,rfl,rfl⟩ ?_;refine Zp ⟨_,_,rfl,rfl,rfl⟩ ?_;refine Ze (Xb rfl rfl rfl)<|Zm rfl<|Zp ⟨_,_,rfl,rfl,rfl⟩ ?_;refine Zp ⟨_,_,rfl,rfl,rfl⟩ ?_;refine Ze (Xb rfl rfl rfl)<|Zm rfl<|Zp ⟨_,_,rfl,rfl,rfl⟩ ?_;refine Zp ⟨_,_,rfl,rfl,rfl⟩ ?_;refine Ze (Xb rfl rfl rfl) ?_;refine Zn fun a hf=>?_;exact ⟨hf.sub ⟨rfl,rfl,rfl,X1 rfl (by first|rfl|(simp only [hc6b,hc29b,hc43b,hg51,Bool.true_and,Bool.false_and,Bool.true_or,Bool.false_or];done)|(simp [hc6b,hc29b,hc43b,hg51];done)|(exfalso;revert hg51;simp)),trivial⟩,rfl⟩
  refine Zv ⟨_,_,rfl,rfl,hg51⟩ (X2 rfl) ?_;refine Zv ⟨_,_,rfl,rfl,hg51⟩ (X16 rfl) ?_;refine Ze (X9 rfl hg51 rfl)<|Zm rfl<|Zv ⟨_,_,rfl,rfl,hc43b⟩ (X2 rfl) ?_;refine Zv ⟨_,_,rfl,rfl,hc43b⟩ (X16 rfl) ?_;refine Ze (X9 rfl hc43b rfl)<|Zm rfl ?_
  refine Zg 141 rfl (fun hg52=>?_) (fun hg52=>?_)
  ·refine Zp ⟨_,_,rfl,rfl,hg52⟩ ?_;refine Zp ⟨_,_,rfl,rfl,hg52⟩ ?_;refine Ze (Xb rfl hg52 rfl)<|Zm rfl<|Zp ⟨_,_,rfl,rfl,rfl⟩ ?_;refine Zp ⟨_,_,rfl,rfl,rfl⟩ ?_;refine Ze (Xb rfl rfl rfl) ?_;refine Zn fun a hf=>?_;exact ⟨hf.sub ⟨rfl,rfl,rfl,X1 rfl (by first|rfl|(simp only [hc6b,hc29b,hc43b,hg51,hg52,Bool.true_and,Bool.false_and,Bool.true_or,Bool.false_or];done)|(simp [hc6b,hc29b,hc43b,hg51,hg52];done)|(exfalso;revert hg52;simp)),trivial⟩,rfl⟩
  refine Zv ⟨_,_,rfl,rfl,hg52⟩ (X2 rfl) ?_;refine Zv ⟨_,_,rfl,rfl,hg52⟩ (X29 rfl rfl) ?_;refine Ze (X9 rfl hg52 rfl)<|Zm rfl ?_
  refine Zg 145 rfl (fun hg53=>?_) (fun hg53=>?_)
  ·refine Zp ⟨_,_,rfl,rfl,hg53⟩ ?_;refine Zp ⟨_,_,rfl,rfl,hg53⟩ ?_;refine Ze (Xb rfl hg53 rfl) ?_;refine Zn fun a hf=>?_;exact ⟨hf.sub ⟨rfl,rfl,rfl,X1 rfl (by first|rfl|(simp only [hc6b,hc29b,hc43b,hg51,hg52,hg53,Bool.true_and,Bool.false_and,Bool.true_or,Bool.false_or];done)|(simp [hc6b,hc29b,hc43b,hg51,hg52,hg53];done)|(exfalso;revert hg53;simp)),trivial⟩,rfl⟩
  refine Zv ⟨_,_,rfl,rfl,hg53⟩ (X2 rfl) ?_;refine Zv ⟨_,_,rfl,rfl,hg53⟩ (X29 rfl rfl) ?_;refine Ze (X9 rfl hg53 rfl) ?_;refine Zn fun a hf=>?_;exact ⟨hf.sub ⟨rfl,rfl,rfl,X1 rfl (by first|rfl|(simp only [hc6b,hc29b,hc43b,hg51,hg52,hg53,Bool.true_and,Bool.false_and,Bool.true_or,Bool.false_or];done)|(simp [hc6b,hc29b,hc43b,hg51,hg52,hg53];done)|(exfalso;revert hg53;simp)),trivial⟩,rfl⟩
 rintro a _ ⟨hf,rfl⟩;refine hK50 _ _ ?_
 refine Xe hf rfl (fun hc54=>?_) (fun hc54=>?_)
 ·have hc54b:=hc54
  rw [hs1.1,hs1.2,hs2.1,hs2.2,hc] at hc54;simp at hc54
 have hc54b:=hc54;refine wp_skip ?_;refine hK49 _ _ ?_;refine Zs hf fun _ hK55=>?_;refine Ze (Vn X0q hB11) ?_;refine Zf (Vc (Xu4 _ cz37 Az37 ez37 hoz37.rd.top (by omega)) Xmv) ?_;rintro _ w22 ⟨rfl,hE⟩;replace hB11:=hB11.below hE;replace hoz37:=hoz37.below hE;replace ho13:=ho13.below hE;replace ho47:=ho47.below hE;replace hW:=btr hW hE;refine Zm rfl<|Ze (X8 (vs:=[vi (llI cz37),.bool (llB cz37)]) rfl rfl)<|Ze (X8 (vs:=[vi (llI cz37),.bool (llB cz37)]) rfl rfl)<|Za rfl<|Za rfl ?_;refine Zt hK55 fun a hf=>?_;refine Zs hf fun _ hK56=>?_;refine Zm rfl<|Ze (X16 rfl)<|Zm rfl ?_
 refine Zg 156 rfl (fun hg57=>?_) (fun hg57=>?_)
 ·refine Zp ⟨_,_,rfl,rfl,hg57⟩ ?_;refine Zp ⟨_,_,rfl,rfl,hg57⟩ ?_;refine Zp ⟨_,_,rfl,rfl,hg57⟩ ?_;refine Zp ⟨_,_,rfl,rfl,hg57⟩ ?_;refine Zp ⟨_,_,rfl,rfl,hg57⟩ ?_;refine Zp ⟨_,_,rfl,rfl,trivial⟩ ?_;refine Zp ⟨_,_,rfl,rfl,trivial⟩ ?_;refine Zp ⟨_,_,rfl,rfl,trivial⟩ ?_;refine Zp ⟨_,_,rfl,rfl,trivial⟩ ?_;refine Zp ⟨_,_,rfl,rfl,hg57⟩ ?_;refine Ze (Xb rfl hg57 rfl)<|Za rfl ?_;refine Zt hK56 fun a hf=>?_
  refine wp_ret (X3 hf (Xq hf rfl rfl) ?_)
  exact ⟨by first|rfl|(rw [hle2];done)|(rw [hle1];done)|exact absurd (hle1.symm.trans (by assumption)) (by decide),hW⟩
 refine Zv ⟨_,_,rfl,rfl,hg57⟩ (X2 rfl) ?_;refine Zv ⟨_,_,rfl,rfl,hg57⟩ (X2 rfl) ?_;refine Zk ⟨_,_,rfl,rfl,hg57⟩ (Vc (Xot _ A13 c13 (schedOf cz37) ho13.rd.top (Nat.le_trans (X1b _) (by decide))) Xg8) ?_;rintro _ w23 ⟨xz159,rfl,hPz159,hQz159,hE⟩;replace ho13:=ho13.below hE;replace ho47:=ho47.below hE;replace hW:=btr hW hE
 have hle1:decide (llI cz37≤xz159)=true:=decide_eq_true (Xp6 hc (X6a hc) hPz159 hQz159)
 refine Zv ⟨_,_,rfl,rfl,hg57⟩ (X7h rfl rfl) ?_;refine Zv ⟨_,_,rfl,rfl,hg57⟩ (X2 rfl) ?_
 refine Zg 161 rfl (fun hg58=>?_) (fun hg58=>?_)
 ·refine Zv ⟨_,_,rfl,rfl,hg58⟩ (X2 rfl) ?_;refine Zv ⟨_,_,rfl,rfl,hg58⟩ (X2 rfl) ?_;refine Zk ⟨_,_,rfl,rfl,hg58⟩ (Vc (Xot _ A47 c47 (lyD cz37) ho47.rd.top (Nat.le_trans (Xpy _) (by decide))) Xg8) ?_;rintro _ w24 ⟨xz164,rfl,hPz164,hQz164,hE⟩;replace ho13:=ho13.below hE;replace ho47:=ho47.below hE;replace hW:=btr hW hE
  have hle2:decide (llI cz37≤xz164)=true:=decide_eq_true (Xp6 hc (Xej hc) hPz164 hQz164)
  refine Zv ⟨_,_,rfl,rfl,hg58⟩ (X7h rfl rfl) ?_;refine Zv ⟨_,_,rfl,rfl,hg57⟩ (Xb rfl hg58 rfl) ?_;refine Ze (X9 rfl hg57 rfl)<|Za rfl ?_;refine Zt hK56 fun a hf=>?_
  refine wp_ret (X3 hf (Xq hf rfl rfl) ?_)
  exact ⟨by first|rfl|(rw [hle2];done)|(rw [hle1];done)|exact absurd (hle1.symm.trans (by assumption)) (by decide),hW⟩
 refine Zp ⟨_,_,rfl,rfl,hg58⟩ ?_;refine Zp ⟨_,_,rfl,rfl,hg58⟩ ?_;refine Zp ⟨_,_,rfl,rfl,hg58⟩ ?_;refine Zp ⟨_,_,rfl,rfl,hg58⟩ ?_;refine Zv ⟨_,_,rfl,rfl,hg57⟩ (X9 rfl hg58 rfl) ?_;refine Ze (X9 rfl hg57 rfl)<|Za rfl ?_;refine Zt hK56 fun a hf=>?_
 refine wp_ret (X3 hf (Xq hf rfl rfl) ?_)
 exact ⟨by first|rfl|(rw [hle2];done)|(rw [hle1];done)|exact absurd (hle1.symm.trans (by assumption)) (by decide),hW⟩
end Go.Proofs.YtlfjcmldfbfdbaaGreat
namespace Go.Proofs.YtlfjcmldfbfdbaaGreat
open Go.ChangeShapes Go.WideShapes Go.ChangeAt Go.RowKit Go.Deep Go.Joins
set_option linter.unusedVariables false
set_option maxRecDepth 100000 in
theorem Xa2(os:Os)(started:os.Started)(H:Type)(enc:TypeId×Value→H) :
  ReturnsInHanded {} Tryz.checked os 6 .any (Rows.fnSchedulesSpec.pre6 enc Tryz.prog Tryz.f6 Rows.fnSchedulesRow.domain false) (Rows.fnSchedulesSpec.post enc Tryz.prog Tryz.f6 false true false false):=by
 refine returnsInHanded_of_change (C:=Tryz.checked) own started (by kernel_rfl) Tryz.func6
  (ChangeSpec.witness6 (enc:=enc) (C:=Tryz.checked) false ⟨#[],#[.slice none 0 0,.slice none 0 0],[]⟩ 8 (by kernel_rfl) (by kernel_rfl) (by kernel_rfl) (by kernel_rfl)) ?_
 intro W base args ds gs before hval0 hW hcnd _
 have hval:∀ (j:Nat) t v,Tryz.f6.params[j]? = some t→args[j]? = some v→Value.okWide Tryz.prog W .any base t v:=hval0
 have hW':=hW
 obtain ⟨p,q,hA0,hV,rfl,hfz,hnd⟩:=hW
 have hA:DataW.TrodAll enc Tryz.prog W 0 (fun _=>true) true Tryz.f6.params.toList args.toList ds p:=hA0
 rw [Tryz.params6] at hA hval
 obtain ⟨v0,v1,d0,d1,p0,p1,rfl,rfl,rfl,h0,h1⟩:=trodAll_two hA;obtain ⟨rfl,rfl⟩:=trodVars_none hV;have h0k:=h0;have h1k:=h1
 obtain ⟨A,c,i,E,rfl,hr0,hc0⟩:=X9i (hval 0 22 v0 rfl rfl) h0 (fun _=>rfl)
 obtain ⟨B,l,k,F,rfl,hr1,hc1⟩:=X9i (hval 1 22 v1 rfl rfl) h1 (fun _=>rfl)
 clear hA0 hval0
 simp only [List.append_nil] at hW'
 have hlt:∀ x ∈ p0++p1,x.block<W.heap.size:=fun x hx=>hW'.lt x (by simpa using hx)
 refine Calls.mono (Xt8 W A i c hr0 hc0 B k l hr1 hc1) fun r W' ⟨v,he,hv,hb⟩=>?_
 subst hv
 refine ⟨_,he,Xey (pa:=p0++p1) (pv:=[]) hW' (fun _ _ _=>trodAll_mk1 (shut_bool Tryz.underlying4 true)) (fun sp hsp=>?_) (fun _ _=>rfl) (by simp) hb⟩
 exact trodAll_mk2 (WideElems.Trod_stays Xgw (by kernel_rfl) (of_decide_eq_true (by kernel_rfl)) h0k (fun x hx=>hb.same (hlt x (List.mem_append_left _ hx))) (fun x hx=>hsp x (by simp [hx])))
  (WideElems.Trod_stays Xgw (by kernel_rfl) (of_decide_eq_true (by kernel_rfl)) h1k (fun x hx=>hb.same (hlt x (List.mem_append_right _ hx))) (fun x hx=>hsp x (by simp [hx])))
theorem scheds_holds:Rows.FnSchedulesSaid:=
 OpenClaim.holds_of_wide 6 Tryz.f6 rfl rfl rfl rfl rfl rfl rfl ⟨rfl,rfl,rfl,rfl,rfl⟩ rfl rfl rfl rfl rfl (by kernel_rfl) Tryz.func6 (by kernel_rfl)
  (of_decide_eq_true (by kernel_rfl)) (by unfold Func.isWrapper;first|(rw [if_pos (by decide +kernel)];kernel_rfl)|(rw [if_neg (by decide +kernel)];exact ⟨rfl,rfl⟩))
  (fun os started H enc _=>Xa2 os started H enc)
end Go.Proofs.YtlfjcmldfbfdbaaGreat
