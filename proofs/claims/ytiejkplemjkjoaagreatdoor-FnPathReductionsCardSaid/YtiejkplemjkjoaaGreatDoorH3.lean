/-
  For every drawn path sum, reducing it keeps the operator and leaves nothing to reduce, with no more steps than path variables; conditions: none beside the table of math/bits that the card ties to the text.
-/
import Derived.Test.YtiejkplemjkjoaaGreatDoorH2
import Derived.Test.YtiejkplemjkjoaaGreatDoorH1
set_option linter.unusedVariables false
set_option linter.unusedSimpArgs false
set_option maxHeartbeats 1000000
set_option maxRecDepth 8000
set_option linter.unusedSectionVars false
namespace Go.Proofs.YtiejkplemjkjoaaGreatDoor
open Go.RowKit
theorem Xaf{α:Type}(p q r:α→Bool)(h:∀ x,r x=true→p x=true∨q x=true) : ∀ l:List α,(l.filter r).length≤(l.filter p).length+(l.filter q).length
 | []=>Nat.le_refl _
 | a::l=>by
  have ih:=Xaf p q r h l
  rw [List.filter_cons,List.filter_cons,List.filter_cons]
  cases hr:r a with
  | false=>
   rw [if_neg (by decide)]
   split
   ·split
    ·rw [List.length_cons,List.length_cons];omega
    ·rw [List.length_cons];omega
   ·split
    ·rw [List.length_cons];omega
    ·omega
  | true=>
   rw [if_pos rfl]
   rcases h a hr with h1|h1
   ·rw [h1,if_pos rfl,List.length_cons,List.length_cons]
    split
    ·rw [List.length_cons];omega
    ·omega
   ·rw [h1,if_pos rfl,List.length_cons,List.length_cons]
    split
    ·rw [List.length_cons];omega
    ·omega
theorem X4a{a b:Int}(ha:Mk a)(hb:Mk b) : szI (oI a b)≤szI a+szI b:=by
 obtain ⟨x,hx,rfl⟩:=ha.nat;obtain ⟨y,hy,rfl⟩:=hb.nat
 unfold oI szI
 rw [X1x (X0a hx) (X0a hy)]
 unfold setN
 refine Xaf _ _ _ (fun i h=>?_) _
 rw [show ((x ||| y:Nat) : Int).toNat=x ||| y from rfl,Nat.testBit_or,Bool.or_eq_true] at h
 exact h
theorem X7l{m x:Int}(hm:Mk m)(h:x ∈ lows m) : szI x=1:=by
 obtain ⟨M,hM,rfl⟩:=hm.nat
 unfold lows at h
 obtain ⟨k,hk,rfl⟩:=List.mem_map.1 h
 have hk62:k<62:=by unfold setN at hk;exact List.mem_range.1 (List.mem_filter.1 hk).1
 unfold szI
 rw [show (((2^k:Nat) : Int)).toNat=2^k from rfl]
 have:setN (2^k)=[k]:=by
  refine X6z (X38 _) (List.pairwise_singleton _ _) fun t=>?_
  rw [X16 (X2n hk62),Nat.testBit_two_pow,List.mem_singleton]
  simp [eq_comm]
 rw [this];rfl
def dv(m:Int) : Int:=((2^min (szI m-1) 3:Nat) : Int)
theorem X2r{m:Int}{k:Int}{s:Nat}(h:szI m≤s)(hk:((2^(s-1) : Nat) : Int)∣k) : dv m∣k:=by
 refine Int.dvd_trans ?_ hk
 exact Int.ofNat_dvd.2 (Nat.pow_dvd_pow 2 (by omega))
theorem dv8(m:Int) : dv m∣8:=by
 have:dv m∣((2^3:Nat) : Int):=Int.ofNat_dvd.2 (Nat.pow_dvd_pow 2 (by omega))
 exact this
def Dv(f:Int→Int) : Prop:=∀ x,dv x∣f x
theorem Dv.padd{f:Int→Int}(h:Dv f){m k:Int}(hk:dv m∣k) : Dv (padd f m k):=fun x=>by
 unfold Proofs.YtiejkplemjkjoaaGreatDoor.padd upd
 split
 ·rename_i e
  subst e
  rw [Int.emod_def]
  exact Int.dvd_sub (Int.dvd_add (h x) hk) (Int.dvd_trans (dv8 x) (Int.dvd_mul_right _ _))
 ·exact h x
theorem Dv.fold:∀ {L:List Sm} {f:Int→Int},Dv f→(∀ p ∈ L,dv p.1∣p.2)→Dv (foldA L f)
 | [],_,h,_=>h
 | p::L,f,h,hL=>Dv.fold (L:=L) (h.padd (hL p (by simp))) fun q hq=>hL q (List.mem_cons_of_mem _ hq)
theorem X6n(k:Int) : dv 0∣k:=by
 have:dv 0=1:=by decide +kernel
 rw [this];exact Int.one_dvd _
section
variable {l : List Int} (hl : ∀ x ∈ l, Mk x ∧ szI x = 1)
include hl
theorem X7w(n:Nat) : Mk (l.getD n 0)∧szI (l.getD n 0)≤1:=by
 rw [List.getD_eq_getElem?_getD]
 cases e:l[n]? with
 | none=>exact ⟨Mk.zero,by show szI 0≤1;decide +kernel⟩
 | some x=>have:=hl x (List.mem_of_getElem? e);exact ⟨this.1,Nat.le_of_eq this.2⟩
theorem Xhf{x y k:Int}(hx:Mk x∧szI x≤1)(hy:Mk y∧szI y≤1) : ∀ n,∀ p ∈ exZL 0 x y k l n,dv p.1∣p.2
 | 0,p,h=>by cases h
 | n+1,p,h=>by
  rcases List.mem_append.1 h with h|h
  ·exact Xhf hx hy n p h
  ·rw [List.mem_singleton.1 h]
   have hz:=X7w hl n;have h1:=X4a Mk.zero hx.1;have h2:=X4a (Mk.zero.or hx.1) hy.1;have h3:=X4a ((Mk.zero.or hx.1).or hy.1) hz.1
   have h0:szI 0=0:=by decide +kernel
   exact X2r (s:=3) (by show szI (oI (oI (oI 0 x) y) (l.getD n 0))≤3;omega) (Int.dvd_mul_right 4 k)
theorem Xgq{x k:Int}(hx:Mk x∧szI x≤1) : ∀ n,∀ p ∈ exYL 0 x k l n,dv p.1∣p.2
 | 0,p,h=>by cases h
 | n+1,p,h=>by
  have hy:=X7w hl n
  rcases List.mem_append.1 h with h|h
  ·exact Xgq hx n p h
  ·rcases List.mem_cons.1 h with rfl|h
   ·have h1:=X4a Mk.zero hx.1;have h2:=X4a (Mk.zero.or hx.1) hy.1
    have h0:szI 0=0:=by decide +kernel
    refine X2r (s:=2) (by show szI (oI (oI 0 x) (l.getD n 0))≤2;omega) ?_
    show (2:Int) ∣ -2*k
    exact Int.dvd_trans (by decide) (Int.dvd_mul_right (-2) k)
   ·exact Xhf hl hx hy n p h
theorem Xbp{k:Int} : ∀ n,∀ p ∈ exXL 0 k l n,dv p.1∣p.2
 | 0,p,h=>by cases h
 | n+1,p,h=>by
  have hy:=X7w hl n
  rcases List.mem_append.1 h with h|h
  ·exact Xbp n p h
  ·rcases List.mem_cons.1 h with rfl|h
   ·have h1:=X4a Mk.zero hy.1
    have h0:szI 0=0:=by decide +kernel
    exact X2r (s:=1) (by show szI (oI 0 (l.getD n 0))≤1;omega) (Int.one_dvd _)
   ·exact Xgq hl hy n p h
end
theorem Xbb{k:Int}{a:Af}(ha:Mk a.m) : ∀ p ∈ expL k a 0,dv p.1∣p.2:=fun p hp=>by
 have hl:∀ x ∈ lows a.m,Mk x∧szI x=1:=fun x hx=>⟨X3j ha hx,X7l ha hx⟩
 unfold expL at hp
 split at hp
 ·rcases List.mem_cons.1 hp with rfl|hp
  ·exact X6n _
  ·exact Xbp hl _ p hp
 ·exact Xbp hl _ p hp
theorem Xgl{u v:Af}(hu:Mk u.m)(hv:Mk v.m) : ∀ p ∈ sumS u v,dv p.1∣p.2:=fun p hp=>by
 have h4:∀ k:Int,(2:Int)∣4*k:=fun k=>Int.dvd_trans (by decide) (Int.dvd_mul_right 4 k)
 unfold sumS at hp
 rcases List.mem_append.1 hp with hp|hp
 ·rcases List.mem_append.1 hp with hp|hp
  ·obtain ⟨x,hx,hp⟩:=List.mem_flatMap.1 hp
   rcases List.mem_append.1 hp with hp|hp
   ·obtain ⟨y,hy,rfl⟩:=List.mem_map.1 hp;have h1:=X4a (X3j hu hx) (X3j hv hy);have h2:=X7l hu hx;have h3:=X7l hv hy;exact X2r (s:=2) (by show szI (oI x y)≤2;omega) (show (2:Int)∣4 by decide)
   ·rw [List.mem_singleton.1 hp]
    exact X2r (s:=1) (Nat.le_of_eq (X7l hu hx)) (Int.one_dvd _)
  ·obtain ⟨y,hy,rfl⟩:=List.mem_map.1 hp;exact X2r (s:=1) (Nat.le_of_eq (X7l hv hy)) (Int.one_dvd _)
 ·rw [List.mem_singleton.1 hp];exact X6n _
def Lt(N:Nat)(m:Int) : Prop:=Mk m∧m<((2^N:Nat) : Int)
theorem Lt.zero(N:Nat) : Lt N 0:=⟨Mk.zero,by have:=Nat.two_pow_pos N;omega⟩
theorem Lt.or{N:Nat}{a b:Int}(ha:Lt N a)(hb:Lt N b) : Lt N (oI a b):=by
 refine ⟨ha.1.or hb.1,?_⟩
 obtain ⟨x,hx,rfl⟩:=ha.1.nat;obtain ⟨y,hy,rfl⟩:=hb.1.nat
 unfold oI
 rw [X1x (X0a hx) (X0a hy)]
 have h1:=ha.2;have h2:=hb.2;exact Int.ofNat_lt.2 (Nat.or_lt_two_pow (Int.ofNat_lt.1 h1) (Int.ofNat_lt.1 h2))
theorem Lt.xor{N:Nat}{a b:Int}(ha:Lt N a)(hb:Lt N b) : Lt N (xI a b):=by
 refine ⟨ha.1.xor hb.1,?_⟩
 obtain ⟨x,hx,rfl⟩:=ha.1.nat;obtain ⟨y,hy,rfl⟩:=hb.1.nat
 unfold xI
 rw [X0r (X0a hx) (X0a hy)]
 exact Int.ofNat_lt.2 (Nat.xor_lt_two_pow (Int.ofNat_lt.1 ha.2) (Int.ofNat_lt.1 hb.2))
theorem Lt.mono{N M:Nat}(h:N≤M){m:Int}(hm:Lt N m) : Lt M m:=⟨hm.1,by
 have:=Nat.pow_le_pow_right (n:=2) (by decide) h
 have:=hm.2
 omega⟩
theorem X6u{N:Nat}{m x:Int}(h:Lt N m)(hx:x ∈ lows m) : Lt N x:=by
 refine ⟨X3j h.1 hx,?_⟩
 obtain ⟨M,hM,rfl⟩:=h.1.nat
 unfold lows at hx
 obtain ⟨k,hk,rfl⟩:=List.mem_map.1 hx
 have hk:M.testBit k=true:=(X16 (X0a hM)).1 hk
 have:2^k≤M:=Nat.ge_two_pow_of_testBit hk
 have:=h.2
 omega
theorem X8e{N:Nat}{k r:Int}{a:Af}(ha:Lt N a.m)(hr:Lt N r) : ∀ p ∈ expL k a r,Lt N p.1:=fun p hp=>by
 have hX:=fun k n=>X5n (k:=k) (r:=r) (Q:=Lt N) (l:=lows a.m) (fun _ _ h1 h2=>h1.or h2) (Lt.zero N) (fun x hx=>X6u ha hx) hr n
 unfold expL at hp
 split at hp
 ·rcases List.mem_cons.1 hp with rfl|hp
  ·exact hr
  ·exact hX _ _ p hp
 ·exact hX _ _ p hp
theorem Xhp{N:Nat}{u v:Af}(hu:Lt N u.m)(hv:Lt N v.m) : ∀ p ∈ sumS u v,Lt N p.1:=fun p hp=>by
 unfold sumS at hp
 rcases List.mem_append.1 hp with hp|hp
 ·rcases List.mem_append.1 hp with hp|hp
  ·obtain ⟨x,hx,hp⟩:=List.mem_flatMap.1 hp
   rcases List.mem_append.1 hp with hp|hp
   ·obtain ⟨y,hy,rfl⟩:=List.mem_map.1 hp;exact (X6u hu hx).or (X6u hv hy)
   ·rw [List.mem_singleton.1 hp];exact X6u hu hx
  ·obtain ⟨y,hy,rfl⟩:=List.mem_map.1 hp;exact X6u hv hy
 ·rw [List.mem_singleton.1 hp];exact Lt.zero N
def SupN(N:Nat)(f:Int→Int) : Prop:=∀ x,f x≠0→Lt N x
theorem SupN.fold{N:Nat}{L:List Sm}(h:∀ p ∈ L,Lt N p.1){f:Int→Int}(hf:PO f)(hs:SupN N f) : SupN N (foldA L f):=fun x hx=>by
 rw [X21 _ hf] at hx
 by_cases e:f x=0
 ·refine Classical.byContradiction fun hn=>hx ?_
  rw [e,X27 fun p hp e2=>hn (by rw [← e2];exact h p hp)];rfl
 ·exact hs x e
structure PsV (n:Nat) (s:Pst) : Prop where
 ok:PsOk n s
 sup:SupN (n+s.v) s.f
 dv:Dv s.f
 out:∀ a ∈ s.out,Lt (n+s.v) a.m
theorem Lt.at{N:Nat}{l:List Af}(h:∀ a ∈ l,Lt N a.m)(i:Int) : Lt N (aAt l i).m:=by
 unfold aAt
 rw [List.getD_eq_getElem?_getD]
 cases e:l[i.toNat]? with
 | none=>exact Lt.zero N
 | some a=>exact h a (List.mem_of_getElem? e)
theorem Xhk{n:Nat}(h:n<24) : Lt (n+1) (varA n).m:=⟨(AO.var h).1,Int.ofNat_lt.2 (Nat.pow_lt_pow_right (by decide) (Nat.lt_succ_self n))⟩
theorem PsV.step{n:Nat}{s t:Pst}{g:Gt}(h:PsV n s)(e:psStep n s g=some t) : PsV n t:=by
 have hok:=h.ok.step e;have hu:=AO.at h.ok.all g.a;have hv:=AO.at h.ok.all g.b
 have lu:=Lt.at h.out g.a
 have lv:=Lt.at h.out g.b
 have h0:∀ k,SupN (n+s.v) (padd s.f 0 k):=fun k=>SupN.fold (L:=[(0,k)]) (fun p hp=>by rw [List.mem_singleton.1 hp];exact Lt.zero _) h.ok.po h.sup
 have d0:∀ k,Dv (padd s.f 0 k):=fun k=>h.dv.padd (X6n k)
 unfold psStep at e
 split at e
 ·split at e
  ·cases e
  ·rename_i h24
   have hvar:=Xhk (n:=n+s.v) (by omega)
   injection e with e;subst e
   refine ⟨hok,SupN.fold (Xhp (lu.mono (by show n+s.v≤n+(s.v+1);omega)) hvar) h.ok.po (fun x hx=>(h.sup x hx).mono (by show n+s.v≤n+(s.v+1);omega)),Dv.fold h.dv (Xgl hu.1 hvar.1),X2u (fun a ha=>(h.out a ha).mono (by show n+s.v≤n+(s.v+1);omega)) hvar⟩
 ·split at e
  ·injection e with e;subst e
   exact ⟨hok,h.sup,h.dv,X2u h.out (lu.xor (Lt.zero _))⟩
  ·split at e
   ·injection e with e;subst e
    refine ⟨hok,?_,?_,X2u h.out (lu.xor (Lt.zero _))⟩
    ·show SupN _ (expP _ _ _ _)
     rw [X1t]
     exact SupN.fold (X8e lu (Lt.zero _)) (h.ok.po.padd _ _) (h0 2)
    ·show Dv (expP _ _ _ _)
     rw [X1t]
     exact Dv.fold (d0 2) (Xbb hu.1)
   ·split at e
    ·injection e with e;subst e
     exact ⟨hok,h.sup,h.dv,X2u h.out (lu.xor lv)⟩
    ·split at e
     ·injection e with e;subst e
      exact ⟨hok,SupN.fold (Xhp lu lv) h.ok.po h.sup,Dv.fold h.dv (Xgl hu.1 hv.1),h.out⟩
     ·split at e
      ·injection e with e;subst e
       exact ⟨hok,h.sup,h.dv,X2u (X2u h.out lv) lu⟩
      ·split at e
       ·injection e with e;subst e
        exact ⟨hok,h0 1,d0 1,h.out⟩
       ·injection e with e;subst e
        refine ⟨hok,?_,?_,h.out⟩
        ·show SupN _ (expP _ _ _ _)
         rw [X1t]
         exact SupN.fold (X8e lu (Lt.zero _)) h.ok.po h.sup
        ·show Dv (expP _ _ _ _)
         rw [X1t]
         exact Dv.fold h.dv (Xbb hu.1)
theorem PsV.fold{n:Nat} : ∀ (l:List Gt) {s t:Pst},PsV n s→psAll n l s=some t→PsV n t
 | [],s,t,h,e=>by injection e with e;subst e;exact h
 | g::l,s,t,h,e=>by
  have e:(psStep n s g).bind (psAll n l)=some t:=e
  cases h1:psStep n s g with
  | none=>rw [h1] at e;cases e
  | some u=>rw [h1] at e;exact PsV.fold l (h.step h1) e
theorem PsV.zero{n:Nat}(h:n≤5) : PsV n (ps0 n):=⟨PsOk.zero h,fun x hx=>absurd rfl hx,fun x=>Int.dvd_zero _,fun a ha=>by
 simp only [ps0,varsN,List.mem_map,List.mem_range] at ha
 obtain ⟨k,hk,rfl⟩:=ha
 exact (Xhk (by omega)).mono (by show k+1≤n+0;omega)⟩
theorem PsV.valid{n:Nat}{s:Pst}(h:PsV n s)(hn:1≤n∧n≤5) : validP ⟨(n:Int),s.v,s.v,s.f 0,tms s.f,s.out⟩=true:=by
 have hvs:=h.ok.vs;have h0:=h.ok.po 0
 have hN:((n:Int)+(s.v:Int)).toNat=n+s.v:=by omega
 unfold validP
 simp only [Bool.and_eq_true]
 refine ⟨⟨?_,?_⟩,?_⟩
 ·simp only [okHd,inR,Bool.and_eq_true,decide_eq_true_eq]
  have:=h.ok.len
  exact ⟨⟨⟨⟨⟨by omega,by omega⟩,by omega,by omega⟩,by omega,by omega⟩,by omega,by omega⟩,by rw [this]⟩
 ·rw [hN]
  unfold okTs
  rw [List.all_eq_true]
  intro i hi;have hi:=List.mem_range.1 hi;have hm:=List.mem_of_getElem? (X80 hi);obtain ⟨m1,m2,m3,m4⟩:=((X24 s.f).mem _).1 hm;have hp:=h.ok.po ((tms s.f).getD i tZ).m;have hl:=(h.sup _ m4).2;have hd:=h.dv ((tms s.f).getD i tZ).m
  have hs1:=X8p ⟨by omega,m2⟩ m1
  have hs3:szI ((tms s.f).getD i tZ).m≤3:=by
   rcases Nat.lt_or_ge 3 (szI ((tms s.f).getD i tZ).m) with h9|h9
   ·exfalso
    unfold Proofs.YtiejkplemjkjoaaGreatDoor.dv at hd
    rw [Nat.min_eq_right (by omega)] at hd
    have h8:(8:Int)∣s.f ((tms s.f).getD i tZ).m:=hd
    omega
   ·exact h9
  unfold okTa
  simp only [inR,Bool.and_eq_true,Bool.or_eq_true,decide_eq_true_eq,beq_iff_eq]
  refine ⟨⟨⟨⟨⟨by omega,by omega⟩,hs3⟩,by omega,by omega⟩,?_⟩,?_⟩
  ·rw [m3]
   refine Int.emod_eq_zero_of_dvd ?_
   unfold Proofs.YtiejkplemjkjoaaGreatDoor.dv at hd
   rw [Nat.min_eq_left (by omega)] at hd
   exact hd
  ·rcases Nat.eq_zero_or_pos i with e|e
   ·exact .inl e
   ·right
    have hr:=(X24 s.f).rise
    unfold Rise at hr
    rw [List.pairwise_iff_getElem] at hr
    have:=hr (i-1) i (by omega) hi (by omega)
    rw [List.getD_eq_getElem?_getD,List.getD_eq_getElem?_getD,List.getElem?_eq_getElem hi,List.getElem?_eq_getElem (show i-1<(tms s.f).length by omega)]
    exact this
 ·rw [hN,List.all_eq_true]
  intro a ha;have h1:=h.out a ha;have h2:=h.ok.all a ha
  simp only [okAf,inR,Bool.and_eq_true,decide_eq_true_eq]
  have:=h1.1.1
  have:=h1.2
  rcases h2.2 with e|e<;>omega
theorem Xix{c:Cx}(h:cOk c=true){p:Ps}(hp:psC c=some p) : validP p=true:=by
 obtain ⟨n,hn,hn1,hn5⟩:=Xkc h
 unfold psC at hp
 rw [hn,Int.toNat_natCast] at hp
 cases e:psAll n c.gs (ps0 n) with
 | none=>rw [e] at hp;cases hp
 | some s=>
  rw [e] at hp
  injection hp with hp
  subst hp
  exact (PsV.fold c.gs (PsV.zero hn5) e).valid ⟨hn1,hn5⟩
theorem Xn6(f:Int→Int) : ∀ t ∈ tms f,Mk t.m:=fun t ht=>by
 obtain ⟨a,b,_⟩:=((X24 f).mem t).1 ht;exact ⟨by omega,b⟩
structure BdP (p q:Ps) : Prop where
 mks:∀ t ∈ q.ts,Mk t.m
 len:q.ts.length≤16777216
 out:q.out.length≤100000000
 ins:-1000≤q.ins∧q.ins≤1000
 vars:-1000≤q.vars∧q.vars≤1000
theorem Xf4(p q:Ps)(v:Nat)(y:Af)(ho:q.out.length≤100000000)(hi:-1000≤q.ins∧q.ins≤1000)(hv:-999≤q.vars∧q.vars≤1000) : BdP p (repP q v y):=⟨Xn6 _,X4c _,by show (q.out.map _).length≤_;rw [List.length_map];exact ho,hi,by show -1000≤q.vars-1∧q.vars-1≤1000;omega⟩
theorem Xin{p:Ps}(h:VPs p)(hl:p.out.length≤100000000)(y:Nat) : BdP p (outR p y):=by
 have h1:=h.ins;have h2:=h.vars
 unfold outR
 split
 ·have:=Xf4 p p y afZ hl (by omega) (by omega)
  exact ⟨this.mks,this.len,this.out,this.ins,this.vars⟩
 ·split
  ·have:=Xf4 p p y afZ hl (by omega) (by omega)
   exact ⟨Xn6 _,X4c _,this.out,this.ins,this.vars⟩
  ·refine Xf4 p _ _ _ ?_ ?_ ?_
   ·show (p.out.map _).length≤_
    rw [List.length_map];exact hl
   ·show -1000≤p.ins∧p.ins≤1000
    omega
   ·show -999≤p.vars-1∧p.vars-1≤1000
    omega
theorem Xkr(p:Ps) : BdP p psZ:=⟨fun t h=>(by cases h),by decide,by decide,by decide,by decide⟩
theorem Xu0{p:Ps}(h:VPs p)(hl:p.out.length≤100000000)(j:Nat) : BdP p (ruQ p j):=by
 unfold ruQ
 split
 ·exact Xkr p
 ·exact Xin h hl j
theorem Xoh{p:Ps}(h:VPs p)(hl:p.out.length≤100000000) : BdP p ((stepP p).getD (psZ,0)).1:=by
 unfold stepP
 cases firstY p with
 | none=>exact Xkr p
 | some j=>exact Xin h hl _
structure VPr (p:Ps) : Prop where
 v:VPs p
 root:-60≤p.root∧p.root≤60
 len:p.ts.length≤16777216
 out:p.out.length≤5
theorem VPr.of{p:Ps}(h:validP p=true) : VPr p:=by
 have hv:=VPs.of h
 simp only [validP,okHd,Bool.and_eq_true] at h
 obtain ⟨⟨⟨⟨⟨⟨h1,h2⟩,h3⟩,h4⟩,h5⟩,h6⟩,h7⟩:=h
 simp only [inR,Bool.and_eq_true,decide_eq_true_eq] at h1 h2 h3 h4 h5
 refine ⟨hv,h3,?_,by omega⟩
 have:=X8z (lo:=0) (hi:=16777216) hv.ts.rise fun t ht=>⟨(hv.ts.all t ht).1,(hv.ts.all t ht).2.1⟩
 omega
def bQ(j:Nat)(x:Af) : Bool:=bits .and .i64 (x.m/2^j) 1==1
theorem Xuj{l:List Af}(h:∀ a ∈ l,Mk a.m)(j:Nat) : (l.any fun x=>bQ j x)=outB j l:=by
 unfold outB
 induction l with
 | nil=>rfl
 | cons a l ih=>
  rw [List.any_cons,List.any_cons,ih fun b hb=>h b (List.mem_cons_of_mem _ hb)]
  congr 1
  unfold bQ
  rw [X3h (h a (by simp))]
  unfold bI
  cases bitQ j a.m<;>rfl
theorem Xit{p:Ps}(h:(!(stepP p).isSome||!validP ((stepP p).getD (psZ,0)).1)=true) : nxtP p=none:=by
 unfold nxtP
 cases e:stepP p with
 | none=>rfl
 | some q=>
  rw [e] at h
  have h:validP q.1=false:=by simpa using h
  show (if validP q.1 then some q else none)=none
  rw [h];rfl
theorem Xqc{p:Ps}(h:(!(stepP p).isSome||!validP ((stepP p).getD (psZ,0)).1)=false) : nxtP p=some ((stepP p).getD (psZ,0))∧validP ((stepP p).getD (psZ,0)).1=true:=by
 unfold nxtP
 cases e:stepP p with
 | none=>rw [e] at h;cases h
 | some q=>
  rw [e] at h
  have h:validP q.1=true:=by simpa using h
  refine ⟨?_,h⟩
  show (if validP q.1 then some q else none)=some q
  rw [h];rfl
theorem Xci{p q:Ps}{n:Nat}{r:Ps×Int}(h:redP p=((redP q).1,(redP q).2+n))(hn:nxtP q=some r) : redP p=((redP r.1).1,(redP r.1).2+(n+1)):=by
 rw [h,Xjd hn]
 show ((redP r.1).1,(redP r.1).2+1+n)=_
 rw [Nat.add_assoc,Nat.add_comm 1 n]
theorem Xg6{p q:Ps}{n:Nat}(h:redP p=((redP q).1,(redP q).2+n))(hn:nxtP q=none) : redP p=(q,n):=by
 rw [h,Xj9 hn]
 show (q,0+n)=_
 rw [Nat.zero_add]
def rdP(p:Ps) : Ps×Nat:=if validP p then redP p else (psZ,0)
theorem Xfq{p:Ps}(h:validP p=false) : rdP p=(psZ,0):=by unfold rdP;rw [h];rfl
theorem Xbs{p:Ps}(h:validP p=true) : rdP p=redP p:=by unfold rdP;rw [h];rfl
theorem Xl6{p:Ps}{q:Ps}{r:Int}(h:stepP p=some (q,r)) : nxtP p=if validP q then some (q,r) else none:=by unfold nxtP;rw [h];rfl
theorem Xpz{p:Ps}(h:stepP p=none) : nxtP p=none:=by unfold nxtP;rw [h];rfl
theorem Xh6(d:Nat)(x y:Af)(w:World) : (Op.equalIn (d+2) 62 (aV x) (aV y)).run Tryz.prog w=.ok (decide (x=y)) w:=by
 have hf:=X65 Tryz.underlying62;refine (run_equalIn_struct w (d+1) 62 _ _ (by rw [hf];exact Tryz.underlying62) (by kernel_rfl)).trans ?_
 rw [hf]
 have:decide (x=y)=(decide (x.m=y.m)&&(decide (x.t=y.t)&&true)):=by
  obtain ⟨a,b⟩:=x;obtain ⟨a',b'⟩:=y
  simp
 rw [this]
 refine X1q (by decide) X2 Tryz.underlying3 rfl rfl fun _=>?_;refine X1q (by decide) X2 Tryz.underlying3 rfl rfl fun _=>?_
 rfl
theorem Xhj:Tryz.prog.eqGuardType Tryz.prog.depth 62=false:=by kernel_rfl
def idK(l:List Af)(k:Nat) : Bool:=(List.range k).all fun q=>decide (l.getD q afZ=varA q)
theorem Xdo{l:List Af}{k:Nat}(h:idK l k=true)(h2:l.getD k afZ=varA k) : idK l (k+1)=true:=by
 unfold idK at h ⊢
 rw [List.range_succ,List.all_append,h,List.all_cons,decide_eq_true h2];rfl
theorem Xgr{l:List Af}{k:Nat}(hk:k<l.length)(h2:l.getD k afZ≠varA k) : idK l l.length=false:=by
 unfold idK
 rw [List.all_eq_false]
 exact ⟨k,List.mem_range.2 hk,by rw [decide_eq_false h2];decide⟩
def idH(p:Ps) : Bool:=decide (p.vars=0)&&decide (p.ts.length=0)&&decide (p.root=0)
theorem X7q(p:Ps) : idP p=(idH p&&idK p.out p.out.length):=rfl
theorem Xwd{u:Af}{k:Nat}(h:((u.m != ((2^k:Nat) : Int))||(u.t != 0))=false) : u=varA k:=by
 obtain ⟨m,t⟩:=u
 simp only [Bool.or_eq_false_iff,bne_eq_false_iff_eq] at h
 unfold varA
 rw [h.1,h.2]
theorem Xng(g:Gt) : 1≤bkN g∧bkN g≤7:=by unfold bkN;split<;>omega
theorem X8s{n:Int}{g:Gt}(h:gOk n g=true) : gOk n (bkG g)=true:=by
 obtain ⟨k,a,b⟩:=g
 unfold gOk at h ⊢
 simp only [Bool.and_eq_true] at h ⊢
 obtain ⟨⟨h1,h2⟩,h3⟩:=h
 have h2':1≤k∧k≤12:=by simpa [inR] using h2
 have hk:(bkG ⟨k,a,b⟩).k=if k=5∨k=7 then k+1 else if k=6∨k=8 then k-1 else k:=rfl
 have ha:(bkG ⟨k,a,b⟩).a=a:=rfl
 have hb:(bkG ⟨k,a,b⟩).b=b:=rfl
 rw [ha,hb]
 by_cases e:k=5∨k=7
 ·have hkk:(bkG ⟨k,a,b⟩).k=k+1:=by rw [hk,if_pos e]
  rw [hkk]
  refine ⟨⟨h1,by simp [inR];omega⟩,?_⟩
  rw [if_neg (show ¬ k=12 by omega),if_neg (show ¬ inR k 9 11=true by simp [inR];omega)] at h3
  rw [if_neg (show ¬ k+1=12 by omega),if_neg (show ¬ inR (k+1) 9 11=true by simp [inR];omega)]
  exact h3
 ·by_cases e2:k=6∨k=8
  ·have hkk:(bkG ⟨k,a,b⟩).k=k-1:=by rw [hk,if_neg e,if_pos e2]
   rw [hkk]
   refine ⟨⟨h1,by simp [inR];omega⟩,?_⟩
   rw [if_neg (show ¬ k=12 by omega),if_neg (show ¬ inR k 9 11=true by simp [inR];omega)] at h3
   rw [if_neg (show ¬ k-1=12 by omega),if_neg (show ¬ inR (k-1) 9 11=true by simp [inR];omega)]
   exact h3
  ·have hkk:(bkG ⟨k,a,b⟩).k=k:=by rw [hk,if_neg e,if_neg e2]
   rw [hkk]
   exact ⟨⟨h1,h2⟩,h3⟩
def invG(g:Gt) : List Gt:=List.replicate (bkN g).toNat (bkG g)
def invL(gs:List Gt) : List Gt:=gs.reverse.flatMap invG
def invO(c:Cx) : Option Cx:=if cOk c&&decide ((invL c.gs).length≤400) then some ⟨c.n,invL c.gs⟩ else none
def conO(a b:Cx) : Option Cx:=if cOk a&&cOk b&&decide (a.n=b.n)&&decide (a.gs.length+b.gs.length≤400) then some ⟨a.n,a.gs++b.gs⟩ else none
theorem X55{c:Cx} : cOk c=true↔inR c.n 1 5=true∧c.gs.length≤400∧∀ g ∈ c.gs,gOk c.n g=true:=by
 simp only [cOk,Bool.and_eq_true,decide_eq_true_eq,Bool.not_eq_true',List.any_eq_false]
 constructor
 ·rintro ⟨⟨h1,h2⟩,h3⟩;exact ⟨h1,by omega,fun g hg=>by have:=h3 g hg;simpa using this⟩
 ·rintro ⟨h1,h2,h3⟩;exact ⟨⟨h1,by omega⟩,fun g hg=>by rw [h3 g hg];decide⟩
theorem Xov{c:Cx}(h:cOk c=true) : ∀ g ∈ invL c.gs,gOk c.n g=true:=fun g hg=>by
 unfold invL at hg
 obtain ⟨x,hx,hg⟩:=List.mem_flatMap.1 hg
 unfold invG at hg
 rw [(List.mem_replicate.1 hg).2]
 exact X8s ((X55.1 h).2.2 x (List.mem_reverse.1 hx))
theorem Xpl{a b:Cx}(ha:cOk a=true)(hb:cOk b=true)(hn:a.n=b.n) : cIf ⟨a.n,a.gs++b.gs⟩=conO a b:=by
 unfold cIf conO
 rw [ha,hb,decide_eq_true hn,Bool.true_and,Bool.true_and]
 by_cases hl:a.gs.length+b.gs.length≤400
 ·have hc:cOk ⟨a.n,a.gs++b.gs⟩=true:=X55.2 ⟨(X55.1 ha).1,by show (a.gs++b.gs).length≤400;rw [List.length_append];exact hl,fun g hg=>by
   rcases List.mem_append.1 hg with hg|hg
   ·exact (X55.1 ha).2.2 g hg
   ·rw [show (⟨a.n,a.gs++b.gs⟩ : Cx).n=b.n from hn];exact (X55.1 hb).2.2 g hg⟩
  rw [if_pos hc,if_pos (by rw [decide_eq_true hl];rfl)]
 ·have hc:¬ cOk ⟨a.n,a.gs++b.gs⟩=true:=fun h2=>hl (by have:=(X55.1 h2).2.1;rwa [show (⟨a.n,a.gs++b.gs⟩ : Cx).gs.length=a.gs.length+b.gs.length from List.length_append] at this)
  rw [if_neg hc,if_neg (by rw [decide_eq_false hl];decide)]
theorem Xtd{a b c:Cx}(h:conO a b=some c) : cOk c=true:=by
 unfold conO at h
 split at h
 ·rename_i hc
  injection h with h
  simp only [Bool.and_eq_true,decide_eq_true_eq] at hc
  rw [← h]
  have:=Xpl hc.1.1.1 hc.1.1.2 hc.1.2
  unfold cIf at this
  split at this
  ·assumption
  ·unfold conO at this
   rw [if_pos (by simp only [Bool.and_eq_true,decide_eq_true_eq];exact hc)] at this
   cases this
 ·cases h
theorem Xrc{gs:List Gt}{k:Nat}(h:k<gs.length) : gs.reverse[k]? = some (gs.getD (gs.length-1-k) gZ):=by
 rw [List.getElem?_reverse h,Xsv (by omega)]
theorem Xnm{gs:List Gt}{k:Nat}(h:k<gs.length) : (gs.reverse.take (k+1)).flatMap invG=(gs.reverse.take k).flatMap invG++List.replicate (bkN (gs.getD (gs.length-1-k) gZ)).toNat (bkG (gs.getD (gs.length-1-k) gZ)):=by
 rw [List.take_add_one,Xrc h,List.flatMap_append]
 simp [invG]
theorem Xnu{α:Type}(j:Nat)(x:α) : List.replicate (j+1) x=List.replicate j x++[x]:=by rw [List.replicate_succ']
def veP(p:Ps) : Int×Int×Bool:=if idP (redP p).1 then (1,(redP p).1.phase,true) else if (redP p).1.vars=0 then (2,0,true) else (0,0,true)
def veO(o:Option Cx) : Int×Int×Bool:=(o.bind psC).elim (0,0,false) veP
def veM(a b:Cx) : Int×Int×Bool:=veO ((invO b).bind (conO a))
theorem X5z{p:Ps}(h:validP p=true) : validP (redP p).1=true:=by
 unfold redP
 generalize p.vars.toNat=n
 induction n generalizing p with
 | zero=>exact h
 | succ n ih=>
  unfold redN
  cases e:nxtP p with
  | none=>exact h
  | some q=>exact ih (X20 e).2.1
theorem Xmf(w0:World)(m:Int)(hm:0≤m∧m<2^62) : Ret Tryz.prog 152 [vi m] w0 (fun v w=>∃ A c,v=.slice A (lows m).length c∧Own w w0.heap.size 3 1 encI A c (lows m)∧Below w0.heap.size w0 w):=by
 have h:=Xwe w0 m.toNat (by rw [show (2:Nat)^62=4611686018427387904 from by decide];have:=hm.2;rw [show (2:Int)^62=4611686018427387904 from by decide] at this;have:=hm.1;omega)
 rw [Int.toNat_of_nonneg hm.1] at h
 exact h
theorem Xrs(w0:World)(bV:Nat)(f:Int→Int)(b:MapF w0 bV f)(k:Int)(u:Af)(r:Int)(aC:PO f)(hk:-8≤k∧k≤8)(hu:AO u) : Ret Tryz.prog 125 [.map (some bV),vi k,.agg #[vi u.m,vi u.t],vi r] w0 (fun v w=>v=.tuple #[]∧Kept bV w0.heap.size w0 w∧MapF w bV (expP f k u r)):=by
 have cG:=b.lt;have cP:=X5j u.m;refine enter Tryz.func125 rfl 80 rfl rfl ?_;intro a c
 have n:Kept bV w0.heap.size w0 w0:=Kept.refl _ _ _
 refine Zs c fun _ c5=>?_;refine Zf (X1b (zs:=[vi u.m,vi u.t]) rfl rfl) ?_;rintro _ w1 ⟨b2,rfl,c6,y,W⟩;have cH:=Nat.le_trans n.size c6;have b:=b.below y;have n:=ktr n y;refine ZX c5 fun a c _ aW=>?_;refine Zs c fun _ cA=>?_;refine Ze (Vd rfl X0t 1)<|Ze (X0 rfl X2 (W.at 1))<|Ze (X0x rfl rfl)<|Zt cA fun a c=>?_
 refine Xg c rfl (fun a8=>?_) (fun a8=>?_)
 ·have aX:=a8
  have aD:u.t=1:=by simpa using a8
  refine Zs c fun _ cC=>?_;refine Zm rfl<|Zm rfl<|Zm rfl<|Zf (Vc (X8a _ bV f b r k aC (by omega)) X49) ?_;rintro _ w2 ⟨rfl,N,h⟩;obtain ⟨wm,A,hm,y⟩:=N.mid;clear hm;have e:=b.nc;have W:=W.onlyN A e;have n:=n.self A;have W:=W.below y;have n:=ktr n y
  clear e y A N;have b:=h;clear h;refine Zt cC fun a c=>?_;refine Zr c<|Zm rfl<|Ze (Vx (Xu4 rfl) (Xig hk))<|Za rfl<|Zx aW fun a c _ cD=>?_;refine Ze (Vd rfl X0b 0)<|Ze (X0 rfl X2 (W.at 0))<|Zf (Vc (Xmf _ u.m (Mk.b62 hu.1)) Xh0) ?_;rintro _ w3 ⟨A8,c8,rfl,o,y⟩;have o:=o.lower n.size;have b:=b.below y;have n:=ktr n y;refine Za rfl<|Zx cD fun a c _ cE=>?_;refine Zm rfl<|Ze (X10 rfl X00)<|Zm rfl<|Zt cE fun a c=>?_;refine wp_block<|Xw (σ:=Nat×(Int→Int)) (fun (s:Nat×(Int→Int)) (a:Act) (w:World)=>match s with|(i,g)=>Fr a 80 [(0,.map (some bV)),(1,vi (-k)),(3,vi r),(8,.slice A8 (lows u.m).length c8),(27,.slice A8 (lows u.m).length c8),(28,vi ((lows u.m).length:Int)),(29,vi (i:Int))]∧(i≤(lows u.m).length)∧(g=exX r (-k) (lows u.m) (padd f r k) i)∧(PO g)∧MapF w bV g∧Own w w0.heap.size 3 1 encI A8 c8 (lows u.m)∧Kept bV w0.heap.size w0 w) (fun (s:Nat×(Int→Int))=>match s with|(i,g)=>(lows u.m).length-i) (0,(padd f r k)) ?_ ?_
  ·exact ⟨c.sb,(Nat.zero_le _),rfl,(aC.padd _ _),b,o,n⟩
  rintro ⟨i,g⟩ a w4 ⟨c,hi,hg,hp,b,o,n⟩;refine Zs c fun _ aY=>?_;refine Ze (X1h rfl rfl)<|ZX aY fun a c _ aZ=>?_
  refine Xg c rfl (fun H=>?_) (fun H=>?_)
  ·have aE:=H;have H:=of_decide_eq_true H
   obtain ⟨cQ,cJ⟩:=Xj (l:=(lows u.m)) (k:=i) (by omega)
   refine wp_skip<|aZ _ _<|wp_seq_k fun _ b0=>?_;refine wp_block<|Zs c fun _ b1=>?_;refine Zm rfl<|Zi (k:=i) (u:=((lows u.m).getD i 0)) (enc:=encI) (l:=(lows u.m)) trivial rfl rfl X00 X0l X05 o.rd (Xh8 (by omega)) rfl ?_;intro cR aF;refine Ze (X0 rfl X2 aF)<|Za rfl<|Za rfl<|Zx b1 fun a c _ b3=>?_;refine Zm rfl<|Zm rfl<|Zm rfl<|Ze (Vx (Vor rfl rfl) (rfl:_=(oI r ((lows u.m).getD i 0))))<|Zm rfl ?_;refine Zf (Vc (X8a _ bV g b (oI r ((lows u.m).getD i 0)) (-k) hp (by omega)) X49) ?_;rintro _ w5 ⟨rfl,N,h⟩;obtain ⟨wm,A,hm,y⟩:=N.mid;clear hm;have e:=b.nc;have o:=o.onlyN A e;have n:=n.self A;have o:=o.below y;have n:=ktr n y
   clear e y A N;have b:=h;clear h;refine Zx b3 fun a c _ b4=>?_;refine Zm rfl<|Zm rfl ?_;have p:=(o.rd.top).takeK X05 i;refine Ze (X3y (l:=(lows u.m)) (k:=i) rfl rfl X00 X0l rfl (by omega) o.cap)<|Ze (X10 rfl X00)<|Zm rfl<|Zt b4 fun a c=>?_;refine wp_block<|Xw (σ:=Nat×(Int→Int)) (fun (s:Nat×(Int→Int)) (a:Act) (w:World)=>match s with|(j,Q)=>Fr a 80 [(0,.map (some bV)),(1,vi (-k)),(3,vi r),(8,.slice A8 (lows u.m).length c8),(10,vi ((lows u.m).getD i 0)),(27,.slice A8 (lows u.m).length c8),(28,vi ((lows u.m).length:Int)),(29,vi (i:Int)),(42,.slice A8 ((lows u.m).take i).length c8),(43,vi (((lows u.m).take i).length:Int)),(44,vi (j:Int))]∧(j≤i)∧(Q=exY r ((lows u.m).getD i 0) (-k) (lows u.m) (padd (exX r (-k) (lows u.m) (padd f r k) i) (oI r ((lows u.m).getD i 0)) (-k)) j)∧(PO Q)∧MapF w bV Q∧Own w w0.heap.size 3 1 encI A8 c8 (lows u.m)∧Rd w w5.heap.size 3 encI A8 ((lows u.m).take i)∧Kept bV w0.heap.size w0 w) (fun (s:Nat×(Int→Int))=>match s with|(j,Q)=>i-j) (0,(padd g (oI r ((lows u.m).getD i 0)) (-k))) ?_ ?_
   ·exact ⟨c.sb,(Nat.zero_le _),(by rw [hg];rfl),(hp.padd _ _),b,o,p,n⟩
   rintro ⟨j,Q⟩ a w6 ⟨c,hj,aA,a6,b,o,p,n⟩;refine Zs c fun _ b5=>?_;refine Ze (X1h rfl rfl)<|ZX b5 fun a c _ b6=>?_
   refine Xg c rfl (fun C=>?_) (fun C=>?_)
   ·have aG:=C;have C:=of_decide_eq_true C
    obtain ⟨cS,cK⟩:=Xj (l:=((lows u.m).take i)) (k:=j) (by omega)
    have aH:j<i:=by have:=C;rw [List.length_take] at this;omega
    refine wp_skip<|b6 _ _<|wp_seq_k fun _ b7=>?_;refine wp_block<|Zs c fun _ b8=>?_;refine Zm rfl<|Zi (k:=j) (u:=((lows u.m).getD j 0)) (enc:=encI) (l:=((lows u.m).take i)) trivial rfl rfl X00 X0l X05 p (X57 aH (by omega)) rfl ?_;intro cU aI;refine Ze (X0 rfl X2 aI)<|Za rfl<|Za rfl<|Zx b8 fun a c _ b9=>?_;refine Zm rfl<|Zm rfl<|Zm rfl<|Ze (Vx (Vor rfl rfl) (rfl:_=(oI r ((lows u.m).getD i 0))))<|Zm rfl ?_;refine Ze (Vx (Vor rfl rfl) (rfl:_=(oI (oI r ((lows u.m).getD i 0)) ((lows u.m).getD j 0))))<|Zm rfl<|Ze (X37 rfl rfl (by omega) (by omega))<|Zf (Vc (X8a _ bV Q b (oI (oI r ((lows u.m).getD i 0)) ((lows u.m).getD j 0)) ((-2)*(-k)) a6 (by omega)) X49) ?_;rintro _ w7 ⟨rfl,N,h⟩;obtain ⟨wm,A,hm,y⟩:=N.mid;clear hm;have e:=b.nc;have o:=o.onlyN A e;have p:=p.onlyN A e;have n:=n.self A;have o:=o.below y;have p:=p.below y;have n:=ktr n y
    clear e y A N;have b:=h;clear h;refine Zx b9 fun a c _ bA=>?_;refine Zm rfl<|Zm rfl ?_;have I:=(o.rd.top).takeK X05 j;refine Ze (X3y (l:=(lows u.m)) (k:=j) rfl rfl X00 X0l rfl (by omega) o.cap)<|Ze (X10 rfl X00)<|Zm rfl<|Zt bA fun a c=>?_;refine wp_block<|Xw (σ:=Nat×(Int→Int)) (fun (s:Nat×(Int→Int)) (a:Act) (w:World)=>match s with|(z,U)=>Fr a 80 [(0,.map (some bV)),(1,vi (-k)),(3,vi r),(8,.slice A8 (lows u.m).length c8),(10,vi ((lows u.m).getD i 0)),(12,vi ((lows u.m).getD j 0)),(27,.slice A8 (lows u.m).length c8),(28,vi ((lows u.m).length:Int)),(29,vi (i:Int)),(42,.slice A8 ((lows u.m).take i).length c8),(43,vi (((lows u.m).take i).length:Int)),(44,vi (j:Int)),(60,.slice A8 ((lows u.m).take j).length c8),(61,vi (((lows u.m).take j).length:Int)),(62,vi (z:Int))]∧(z≤j)∧(U=exZ r ((lows u.m).getD i 0) ((lows u.m).getD j 0) (-k) (lows u.m) (padd (exY r ((lows u.m).getD i 0) (-k) (lows u.m) (padd (exX r (-k) (lows u.m) (padd f r k) i) (oI r ((lows u.m).getD i 0)) (-k)) j) (oI (oI r ((lows u.m).getD i 0)) ((lows u.m).getD j 0)) (-2*(-k))) z)∧(PO U)∧MapF w bV U∧Own w w0.heap.size 3 1 encI A8 c8 (lows u.m)∧Rd w w5.heap.size 3 encI A8 ((lows u.m).take i)∧Rd w w7.heap.size 3 encI A8 ((lows u.m).take j)∧Kept bV w0.heap.size w0 w) (fun (s:Nat×(Int→Int))=>match s with|(z,U)=>j-z) (0,(padd Q (oI (oI r ((lows u.m).getD i 0)) ((lows u.m).getD j 0)) (-2*(-k)))) ?_ ?_
    ·exact ⟨c.sb,(Nat.zero_le _),(by rw [aA];rfl),(a6.padd _ _),b,o,p,I,n⟩
    rintro ⟨z,U⟩ a w8 ⟨c,hz,aB,a7,b,o,p,I,n⟩;refine Zs c fun _ bB=>?_;refine Ze (X1h rfl rfl)<|ZX bB fun a c _ bC=>?_
    refine Xg c rfl (fun D=>?_) (fun D=>?_)
    ·have aJ:=D;have D:=of_decide_eq_true D
     obtain ⟨cV,cL⟩:=Xj (l:=((lows u.m).take j)) (k:=z) (by omega)
     have aK:z<j:=by have:=D;rw [List.length_take] at this;omega
     refine wp_skip<|bC _ _<|wp_seq_k fun _ bD=>?_;refine wp_block<|Zs c fun _ bE=>?_;refine Zi (k:=z) (u:=((lows u.m).getD z 0)) (enc:=encI) (l:=((lows u.m).take j)) trivial rfl rfl X00 X0l X05 I (X57 aK (by omega)) rfl ?_;intro cW aL;refine Ze (X0 rfl X2 aL)<|Za rfl<|Zt bE fun a c=>?_;refine Zr c<|Zm rfl<|Zm rfl<|Zm rfl<|Ze (Vx (Vor rfl rfl) (rfl:_=(oI r ((lows u.m).getD i 0))))<|Zm rfl ?_;refine Ze (Vx (Vor rfl rfl) (rfl:_=(oI (oI r ((lows u.m).getD i 0)) ((lows u.m).getD j 0))))<|Zm rfl<|Ze (Vx (Vor rfl rfl) (rfl:_=(oI (oI (oI r ((lows u.m).getD i 0)) ((lows u.m).getD j 0)) ((lows u.m).getD z 0))))<|Zm rfl<|Ze (X37 rfl rfl (by omega) (by omega)) ?_;refine Zf (Vc (X8a _ bV U b (oI (oI (oI r ((lows u.m).getD i 0)) ((lows u.m).getD j 0)) ((lows u.m).getD z 0)) (4*(-k)) a7 (by omega)) X49) ?_;rintro _ w9 ⟨rfl,N,h⟩;obtain ⟨wm,A,hm,y⟩:=N.mid;clear hm;have e:=b.nc;have o:=o.onlyN A e;have p:=p.onlyN A e;have I:=I.onlyN A e;have n:=n.self A;have o:=o.below y;have p:=p.below y;have I:=I.below y;have n:=ktr n y
     clear e y A N;have b:=h;clear h;refine Zn fun a c=>?_;refine Xa<|bD _ _<|Zr c<|Ze (Xm rfl rfl (by omega) (by omega))<|Zm rfl ?_;refine Zn fun a c=>?_;refine Xb ?_;exact ⟨(z+1,padd U (oI (oI (oI r ((lows u.m).getD i 0)) ((lows u.m).getD j 0)) ((lows u.m).getD z 0)) (4*(-k))),⟨c.sb,(by omega),(by rw [aB];rfl),(a7.padd _ _),b,o,p,I,n⟩,(by first|omega|(dsimp only;omega))⟩
    have aJ:=D;have D:=of_decide_eq_false D
    have aM:j≤z:=by have:=D;rw [List.length_take] at this;omega
    refine wp_exit<|Xe<|Xe<|Xq ?_;refine Xa<|b7 _ _<|Zr c<|Ze (Xm rfl rfl (by omega) (by omega))<|Zm rfl ?_;refine Zn fun a c=>?_;refine Xb ?_;exact ⟨(j+1,U),⟨c.sb,(by omega),(by rw [aB,show z=j from by have:=aM;omega];rfl),a7,b,o,p,n⟩,(by first|omega|(dsimp only;omega))⟩
   have aG:=C;have C:=of_decide_eq_false C
   have aN:i≤j:=by have:=C;rw [List.length_take] at this;omega
   refine wp_exit<|Xe<|Xe<|Xq ?_;refine Xa<|b0 _ _<|Zr c<|Ze (Xm rfl rfl (by omega) (by omega))<|Zm rfl ?_;refine Zn fun a c=>?_;refine Xb ?_;exact ⟨(i+1,Q),⟨c.sb,(by omega),(by first|(rw [aA,show j=i from by have:=aN;omega];rfl)|(have e9:i=0:=by omega;subst e9;rw [hg];rfl)),a6,b,o,n⟩,(by first|omega|(dsimp only;omega))⟩
  have aE:=H;have H:=of_decide_eq_false H
  have aO:i=(lows u.m).length:=by have:=H;omega
  refine wp_exit<|Xe<|Xe<|Xq ?_;refine X92 c (X91 rfl) ?_;exact ⟨rfl,n,b.cong fun x=>by rw [hg,aO];unfold expP;rw [if_pos aD]⟩
 have aX:=a8
 have aD:¬ u.t=1:=by simpa using a8
 refine wp_skip<|aW _ _<|Zs c fun _ bF=>?_;refine Ze (Vd rfl X0b 0)<|Ze (X0 rfl X2 (W.at 0))<|Zf (Vc (Xmf _ u.m (Mk.b62 hu.1)) Xh0) ?_;rintro _ cX ⟨B,M,rfl,d,y⟩;have d:=d.lower n.size;have b:=b.below y;have n:=ktr n y;refine Za rfl<|Zx bF fun a c _ bG=>?_;refine Zm rfl<|Ze (X10 rfl X00)<|Zm rfl<|Zt bG fun a c=>?_;refine wp_block<|Xw (σ:=Nat×(Int→Int)) (fun (s:Nat×(Int→Int)) (a:Act) (w:World)=>match s with|(i,g)=>Fr a 80 [(0,.map (some bV)),(1,vi k),(3,vi r),(8,.slice B (lows u.m).length M),(27,.slice B (lows u.m).length M),(28,vi ((lows u.m).length:Int)),(29,vi (i:Int))]∧(i≤(lows u.m).length)∧(g=exX r k (lows u.m) f i)∧(PO g)∧MapF w bV g∧Own w w0.heap.size 3 1 encI B M (lows u.m)∧Kept bV w0.heap.size w0 w) (fun (s:Nat×(Int→Int))=>match s with|(i,g)=>(lows u.m).length-i) (0,f) ?_ ?_
 ·exact ⟨c.sb,(Nat.zero_le _),rfl,aC,b,d,n⟩
 rintro ⟨i,g⟩ a cY ⟨c,hi,hg,hp,b,d,n⟩;refine Zs c fun _ bH=>?_;refine Ze (X1h rfl rfl)<|ZX bH fun a c _ bJ=>?_
 refine Xg c rfl (fun J=>?_) (fun J=>?_)
 ·have aP:=J;have J:=of_decide_eq_true J
  obtain ⟨d5,cM⟩:=Xj (l:=(lows u.m)) (k:=i) (by omega)
  refine wp_skip<|bJ _ _<|wp_seq_k fun _ bK=>?_;refine wp_block<|Zs c fun _ bL=>?_;refine Zm rfl<|Zi (k:=i) (u:=((lows u.m).getD i 0)) (enc:=encI) (l:=(lows u.m)) trivial rfl rfl X00 X0l X05 d.rd (Xh8 (by omega)) rfl ?_;intro d6 aQ;refine Ze (X0 rfl X2 aQ)<|Za rfl<|Za rfl<|Zx bL fun a c _ bM=>?_;refine Zm rfl<|Zm rfl<|Zm rfl<|Ze (Vx (Vor rfl rfl) (rfl:_=(oI r ((lows u.m).getD i 0))))<|Zm rfl ?_;refine Zf (Vc (X8a _ bV g b (oI r ((lows u.m).getD i 0)) k hp (by omega)) X49) ?_;rintro _ bN ⟨rfl,N,h⟩;obtain ⟨wm,A,hm,y⟩:=N.mid;clear hm;have e:=b.nc;have d:=d.onlyN A e;have n:=n.self A;have d:=d.below y;have n:=ktr n y
  clear e y A N;have b:=h;clear h;refine Zx bM fun a c _ bO=>?_;refine Zm rfl<|Zm rfl ?_;have q:=(d.rd.top).takeK X05 i;refine Ze (X3y (l:=(lows u.m)) (k:=i) rfl rfl X00 X0l rfl (by omega) d.cap)<|Ze (X10 rfl X00)<|Zm rfl<|Zt bO fun a c=>?_;refine wp_block<|Xw (σ:=Nat×(Int→Int)) (fun (s:Nat×(Int→Int)) (a:Act) (w:World)=>match s with|(j,Q)=>Fr a 80 [(0,.map (some bV)),(1,vi k),(3,vi r),(8,.slice B (lows u.m).length M),(10,vi ((lows u.m).getD i 0)),(27,.slice B (lows u.m).length M),(28,vi ((lows u.m).length:Int)),(29,vi (i:Int)),(42,.slice B ((lows u.m).take i).length M),(43,vi (((lows u.m).take i).length:Int)),(44,vi (j:Int))]∧(j≤i)∧(Q=exY r ((lows u.m).getD i 0) k (lows u.m) (padd (exX r k (lows u.m) f i) (oI r ((lows u.m).getD i 0)) k) j)∧(PO Q)∧MapF w bV Q∧Own w w0.heap.size 3 1 encI B M (lows u.m)∧Rd w bN.heap.size 3 encI B ((lows u.m).take i)∧Kept bV w0.heap.size w0 w) (fun (s:Nat×(Int→Int))=>match s with|(j,Q)=>i-j) (0,(padd g (oI r ((lows u.m).getD i 0)) k)) ?_ ?_
  ·exact ⟨c.sb,(Nat.zero_le _),(by rw [hg];rfl),(hp.padd _ _),b,d,q,n⟩
  rintro ⟨j,Q⟩ a d7 ⟨c,hj,aA,a6,b,d,q,n⟩;refine Zs c fun _ bP=>?_;refine Ze (X1h rfl rfl)<|ZX bP fun a c _ bR=>?_
  refine Xg c rfl (fun E=>?_) (fun E=>?_)
  ·have aR:=E;have E:=of_decide_eq_true E
   obtain ⟨d8,cN⟩:=Xj (l:=((lows u.m).take i)) (k:=j) (by omega)
   have aH:j<i:=by have:=E;rw [List.length_take] at this;omega
   refine wp_skip<|bR _ _<|wp_seq_k fun _ bS=>?_;refine wp_block<|Zs c fun _ bT=>?_;refine Zm rfl<|Zi (k:=j) (u:=((lows u.m).getD j 0)) (enc:=encI) (l:=((lows u.m).take i)) trivial rfl rfl X00 X0l X05 q (X57 aH (by omega)) rfl ?_;intro dB aS;refine Ze (X0 rfl X2 aS)<|Za rfl<|Za rfl<|Zx bT fun a c _ bU=>?_;refine Zm rfl<|Zm rfl<|Zm rfl<|Ze (Vx (Vor rfl rfl) (rfl:_=(oI r ((lows u.m).getD i 0))))<|Zm rfl ?_;refine Ze (Vx (Vor rfl rfl) (rfl:_=(oI (oI r ((lows u.m).getD i 0)) ((lows u.m).getD j 0))))<|Zm rfl<|Ze (X37 rfl rfl (by omega) (by omega))<|Zf (Vc (X8a _ bV Q b (oI (oI r ((lows u.m).getD i 0)) ((lows u.m).getD j 0)) ((-2)*k) a6 (by omega)) X49) ?_;rintro _ cF ⟨rfl,N,h⟩;obtain ⟨wm,A,hm,y⟩:=N.mid;clear hm;have e:=b.nc;have d:=d.onlyN A e;have q:=q.onlyN A e;have n:=n.self A;have d:=d.below y;have q:=q.below y;have n:=ktr n y
   clear e y A N;have b:=h;clear h;refine Zx bU fun a c _ bW=>?_;refine Zm rfl<|Zm rfl ?_;have L:=(d.rd.top).takeK X05 j;refine Ze (X3y (l:=(lows u.m)) (k:=j) rfl rfl X00 X0l rfl (by omega) d.cap)<|Ze (X10 rfl X00)<|Zm rfl<|Zt bW fun a c=>?_;refine wp_block<|Xw (σ:=Nat×(Int→Int)) (fun (s:Nat×(Int→Int)) (a:Act) (w:World)=>match s with|(z,U)=>Fr a 80 [(0,.map (some bV)),(1,vi k),(3,vi r),(8,.slice B (lows u.m).length M),(10,vi ((lows u.m).getD i 0)),(12,vi ((lows u.m).getD j 0)),(27,.slice B (lows u.m).length M),(28,vi ((lows u.m).length:Int)),(29,vi (i:Int)),(42,.slice B ((lows u.m).take i).length M),(43,vi (((lows u.m).take i).length:Int)),(44,vi (j:Int)),(60,.slice B ((lows u.m).take j).length M),(61,vi (((lows u.m).take j).length:Int)),(62,vi (z:Int))]∧(z≤j)∧(U=exZ r ((lows u.m).getD i 0) ((lows u.m).getD j 0) k (lows u.m) (padd (exY r ((lows u.m).getD i 0) k (lows u.m) (padd (exX r k (lows u.m) f i) (oI r ((lows u.m).getD i 0)) k) j) (oI (oI r ((lows u.m).getD i 0)) ((lows u.m).getD j 0)) (-2*k)) z)∧(PO U)∧MapF w bV U∧Own w w0.heap.size 3 1 encI B M (lows u.m)∧Rd w bN.heap.size 3 encI B ((lows u.m).take i)∧Rd w cF.heap.size 3 encI B ((lows u.m).take j)∧Kept bV w0.heap.size w0 w) (fun (s:Nat×(Int→Int))=>match s with|(z,U)=>j-z) (0,(padd Q (oI (oI r ((lows u.m).getD i 0)) ((lows u.m).getD j 0)) (-2*k))) ?_ ?_
   ·exact ⟨c.sb,(Nat.zero_le _),(by rw [aA];rfl),(a6.padd _ _),b,d,q,L,n⟩
   rintro ⟨z,U⟩ a dC ⟨c,hz,aB,a7,b,d,q,L,n⟩;refine Zs c fun _ bX=>?_;refine Ze (X1h rfl rfl)<|ZX bX fun a c _ bY=>?_
   refine Xg c rfl (fun G=>?_) (fun G=>?_)
   ·have aT:=G;have G:=of_decide_eq_true G
    obtain ⟨dD,cO⟩:=Xj (l:=((lows u.m).take j)) (k:=z) (by omega)
    have aK:z<j:=by have:=G;rw [List.length_take] at this;omega
    refine wp_skip<|bY _ _<|wp_seq_k fun _ bZ=>?_;refine wp_block<|Zs c fun _ c4=>?_;refine Zi (k:=z) (u:=((lows u.m).getD z 0)) (enc:=encI) (l:=((lows u.m).take j)) trivial rfl rfl X00 X0l X05 L (X57 aK (by omega)) rfl ?_;intro dE aU;refine Ze (X0 rfl X2 aU)<|Za rfl<|Zt c4 fun a c=>?_;refine Zr c<|Zm rfl<|Zm rfl<|Zm rfl<|Ze (Vx (Vor rfl rfl) (rfl:_=(oI r ((lows u.m).getD i 0))))<|Zm rfl ?_;refine Ze (Vx (Vor rfl rfl) (rfl:_=(oI (oI r ((lows u.m).getD i 0)) ((lows u.m).getD j 0))))<|Zm rfl<|Ze (Vx (Vor rfl rfl) (rfl:_=(oI (oI (oI r ((lows u.m).getD i 0)) ((lows u.m).getD j 0)) ((lows u.m).getD z 0))))<|Zm rfl<|Ze (X37 rfl rfl (by omega) (by omega)) ?_;refine Zf (Vc (X8a _ bV U b (oI (oI (oI r ((lows u.m).getD i 0)) ((lows u.m).getD j 0)) ((lows u.m).getD z 0)) (4*k) a7 (by omega)) X49) ?_;rintro _ dF ⟨rfl,N,h⟩;obtain ⟨wm,A,hm,y⟩:=N.mid;clear hm;have e:=b.nc;have d:=d.onlyN A e;have q:=q.onlyN A e;have L:=L.onlyN A e;have n:=n.self A;have d:=d.below y;have q:=q.below y;have L:=L.below y;have n:=ktr n y
    clear e y A N;have b:=h;clear h;refine Zn fun a c=>?_;refine Xa<|bZ _ _<|Zr c<|Ze (Xm rfl rfl (by omega) (by omega))<|Zm rfl ?_;refine Zn fun a c=>?_;refine Xb ?_;exact ⟨(z+1,padd U (oI (oI (oI r ((lows u.m).getD i 0)) ((lows u.m).getD j 0)) ((lows u.m).getD z 0)) (4*k)),⟨c.sb,(by omega),(by rw [aB];rfl),(a7.padd _ _),b,d,q,L,n⟩,(by first|omega|(dsimp only;omega))⟩
   have aT:=G;have G:=of_decide_eq_false G
   have aM:j≤z:=by have:=G;rw [List.length_take] at this;omega
   refine wp_exit<|Xe<|Xe<|Xq ?_;refine Xa<|bS _ _<|Zr c<|Ze (Xm rfl rfl (by omega) (by omega))<|Zm rfl ?_;refine Zn fun a c=>?_;refine Xb ?_;exact ⟨(j+1,U),⟨c.sb,(by omega),(by rw [aB,show z=j from by have:=aM;omega];rfl),a7,b,d,q,n⟩,(by first|omega|(dsimp only;omega))⟩
  have aR:=E;have E:=of_decide_eq_false E
  have aN:i≤j:=by have:=E;rw [List.length_take] at this;omega
  refine wp_exit<|Xe<|Xe<|Xq ?_;refine Xa<|bK _ _<|Zr c<|Ze (Xm rfl rfl (by omega) (by omega))<|Zm rfl ?_;refine Zn fun a c=>?_;refine Xb ?_;exact ⟨(i+1,Q),⟨c.sb,(by omega),(by first|(rw [aA,show j=i from by have:=aN;omega];rfl)|(have e9:i=0:=by omega;subst e9;rw [hg];rfl)),a6,b,d,n⟩,(by first|omega|(dsimp only;omega))⟩
 have aP:=J;have J:=of_decide_eq_false J
 have aO:i=(lows u.m).length:=by have:=J;omega
 refine wp_exit<|Xe<|Xe<|Xq ?_;refine X92 c (X91 rfl) ?_;exact ⟨rfl,n,b.cong fun x=>by rw [hg,aO];unfold expP;rw [if_neg aD]⟩
theorem Xhr(u:World)(bV:Nat)(f:Int→Int)(e:MapF u bV f)(aN:PO f)(q:SupF f) : Ret Tryz.prog 99 [.map (some bV)] u (fun v w=>∃ A c,v=.slice A (tms f).length c∧Own w u.heap.size 59 2 encT A c (tms f)∧Below u.heap.size u w):=by
 refine enter Tryz.func99 rfl 29 rfl rfl ?_;intro a d
 have j:=bz u
 refine Zs d fun _ aO=>?_;refine Za rfl<|Zx aO fun a d _ aP=>?_;refine Zf (X5 (k:=0) (vs:=[]) (zs:=[]) rfl Xk X0m rfl rfl) ?_;rintro _ w1 ⟨b4,rfl,aQ,y,a6⟩;have aA:=Nat.le_trans j.size aQ;have e:=e.below y;have j:=btr j y;refine Za rfl<|ZX aP fun a d _ aR=>?_;refine Zs d fun _ aS=>?_;refine Zm rfl<|Zf (Xto (f:=f) rfl Tryz.underlying143 e) ?_;rintro _ w2 ⟨b8,left0,aB,rfl,aT,y,g,aC⟩;have aD:=Nat.le_trans j.size aT;have e:=e.below y;have a6:=a6.below y;have j:=btr j y;refine Zt aS fun a d=>?_;refine wp_block<|Xw (σ:=(List Tm)×(Int→Bool)×Nat) (fun (s:(List Tm)×(Int→Bool)×Nat) (a:Act) (w:World)=>match s with|(l,left1,t)=>∃ A9 c9,Fr a 29 [(3,.slice A9 l.length c9),(8,.pointer (some ⟨b8,0,none⟩))]∧(Gath f left1 l)∧MapF w bV f∧Own w u.heap.size 59 2 encT A9 c9 l∧MapR w bV b8 f left1 t∧Below u.heap.size u w) (fun (s:(List Tm)×(Int→Bool)×Nat)=>match s with|(l,left1,t)=>t) ([],left0,aB) ?_ ?_
 ·exact ⟨some ⟨b4,0,none⟩,0,d.sb,(Gath.start aC),e,(Own.empty a6 aA),g,j⟩
 rintro ⟨l,left1,t⟩ a w3 ⟨A9,c9,d,n,e,i,g,j⟩;refine Zs d fun _ C=>?_
 refine Zf (Xwu rfl g) ?_;rintro _ w4 (⟨rfl,rfl,D⟩|⟨k9,E,rfl,G,ho,H,I,aE⟩)
 ·have aU:=n.leneq q D;refine Ze (X9 (vs:=[.bool false]) rfl rfl)<|ZX C fun a d _ aZ=>?_;refine Xca d rfl ?_;refine wp_exit<|Xe<|Xe<|Xq ?_;refine aR _ _<|Zs d fun _ aF=>?_;refine Zm rfl<|Zf (Vc (Xvg _ u.heap.size A9 c9 l f left1 i n q D) Xql) ?_;rintro _ w5 ⟨rfl,J,hg⟩;have m:=i;have j:=Below.app j m hg (Nat.le_refl _) j.size
  clear m hg;clear i;have i:=J;clear J;refine Zx aF fun a d _ aG=>?_;refine Zm rfl<|Za rfl<|Zt aG fun a d=>?_
  refine wp_ret (X7 d (X03 d rfl rfl) ?_)
  exact ⟨A9,c9,by rw [aU],i,j⟩
 have aH:=g.nc;have i:=i.onlyN ho aH;have j:=Below.only j ho aD
 clear aH ho g;have g:=H;clear H;have e:=g.mapF;refine Ze (X9 (vs:=[.bool true,vi k9,vi (f k9)]) rfl rfl)<|ZX C fun a d _ aI=>?_;refine Xff d rfl ?_;refine wp_skip<|aI _ _<|wp_block<|Zs d fun _ aJ=>?_;refine Ze (Xum rfl aE)<|Ze (X9 (vs:=[vi k9,vi (f k9)]) rfl rfl)<|Ze (X9 (vs:=[vi k9,vi (f k9)]) rfl rfl)<|Za rfl<|Za rfl ?_;refine ZX aJ fun a d _ aK=>?_;refine X0i (fun a w=>Fr a 29 [(3,.slice A9 l.length c9),(4,vi k9),(5,vi (f k9)),(8,.pointer (some ⟨b8,0,none⟩)),(19,.bool ((decide (0<k9))&&(decide (0<(f k9)))))]∧w4=w) ?_ ?_
 ·refine Zr d<|Zm rfl<|Ze (X3o rfl rfl)<|Zm rfl ?_
  refine Zg 16 rfl (fun b=>?_) (fun b=>?_)
  ·refine Zv (gW b) (Xd rfl) ?_;refine Zv (gW b) (X3o rfl rfl) ?_;refine Ze (X6 rfl b rfl) ?_;refine Zn fun a d=>?_;exact ⟨d.sub ⟨rfl,rfl,rfl,rfl,X1 rfl (by first|rfl|(simp only [b,bs];done)|simp [b]),trivial⟩,rfl⟩
  refine Zp (gP b) ?_;refine Zp (gP b) ?_;refine Ze (Xf rfl b rfl) ?_;refine Zn fun a d=>?_;exact ⟨d.sub ⟨rfl,rfl,rfl,rfl,X1 rfl (by first|rfl|(simp only [b,bs];done)|simp [b]),trivial⟩,rfl⟩
 rintro a _ ⟨d,rfl⟩;refine aK _ _ ?_
 refine Xg d rfl (fun o=>?_) (fun o=>?_)
 ·have a7:=o
  have p:0<k9∧0<f k9:=by have:=o;simpa using this
  refine Zr d<|Zm rfl<|Zm rfl<|Zm rfl<|Ze (Xs (ps:=[(0,vi k9),(1,vi (f k9))]) (cs:=[vi k9,vi (f k9)]) rfl (fun _=>by first|rfl|kernel_rfl))<|Zf (X5 (k:=1) (vs:=[.agg #[vi k9,vi (f k9)]]) (zs:=[vi k9,vi (f k9)]) rfl Xk X0m rfl rfl) ?_;rintro _ w6 ⟨b0,rfl,L,y,h⟩;have aW:=Nat.le_trans j.size L;have B:=i.away L;have e:=e.below y;have i:=i.below y;have g:=g.below y;have j:=btr j y;refine Zf (X0p (enc:=encT) (l:=(l)) (l2:=([(⟨k9,f k9⟩ : Tm)])) (B0:=u.heap.size) rfl rfl Xk X0m Xx X22 i (Rd.of_blk h rfl _ h.lt) (by simp only [maxLen];simp;have:=n.len q;omega) (by simp;have:=n.len q;omega) j.size) ?_;rintro _ w7 ⟨aX,aY,rfl,aL,hg,aM⟩
  have m:Own _ u.heap.size 59 2 encT _ _ (l):=i
  have a8:=aM _ h.lt B;clear aM;have e:=e.app m hg;have g:=g.app m hg;have j:=Below.app j m hg (Nat.le_refl _) j.size;clear m hg;refine Za rfl ?_;refine Zn fun a d=>?_;refine Xa<|Xb ?_;exact ⟨(l++([(⟨k9,f k9⟩ : Tm)]),(fun x=>left1 x&&x != k9),E),⟨aX,aY,d.sb,(by first|exact n.push G p.1 p.2|exact n.skip p),e,aL,g,j⟩,I⟩
 have a7:=o
 have p:¬ (0<k9∧f k9≠0):=by have h5:=(aN k9).1;have:=o;simp at this;omega
 refine wp_skip<|Xa<|Xb ?_;exact ⟨(l,(fun x=>left1 x&&x != k9),E),⟨A9,c9,d.sb,(by first|exact n.push G p.1 p.2|exact n.skip p),e,i,g,j⟩,I⟩
theorem X30(w0:World)(bV:Nat)(f:Int→Int)(AT:Option Addr)(cT:Nat)(b:Blk w0 bV 120 [vi (f 0),.slice AT (tms f).length cT])(A:Rd w0 w0.heap.size 59 encT AT (tms f))(M:(tms f).length≤cT)(aT:PO f)(dJ:SupF f)(m:Int)(k:Int)(hm:Mk m)(hk:-1000≤k∧k≤1000) : Ret Tryz.prog 78 [.pointer (some ⟨bV,0,none⟩),vi m,vi k] w0 (fun v w=>v=.tuple #[]∧Kept bV w0.heap.size w0 w∧∃ A9 c9,Blk w bV 120 [vi ((padd f m k) 0),.slice A9 (tms (padd f m k)).length c9]∧Rd w w.heap.size 59 encT A9 (tms (padd f m k))∧(tms (padd f m k)).length≤c9):=by
 have dI:=b.lt;have dK:=X4c f;have dL:=Xnt k;have dM:=aT 0;refine enter Tryz.func78 rfl 154 rfl rfl ?_;intro a p
 have g:Kept bV w0.heap.size w0 w0:=Kept.refl _ _ _
 refine Zs p fun _ d6=>?_;refine Zm rfl<|Ze (X5c rfl rfl rfl)<|Ze (Xm rfl rfl (by omega) (by omega))<|Ze (Vx (X5c rfl rfl rfl) (Xsa k))<|Za rfl ?_;refine ZX d6 fun a p _ d7=>?_;refine Zs p fun _ d8=>?_;refine Zm rfl<|Ze (X0x rfl rfl)<|Zt d8 fun a p=>?_
 refine Xg p rfl (fun aN=>?_) (fun aN=>?_)
 ·have C:=aN
  have bP:m=0:=by have:=aN;simpa using this
  refine Zs p fun _ dB=>?_;refine Zm rfl<|Zm rfl<|Ze (X1p rfl)<|Ze (Vd rfl X3e 0)<|Ze (X0 rfl X2 (b.at 0)) ?_;refine Zm rfl<|Ze (Xm rfl rfl (by omega) (by omega))<|Ze (Vx (X5c rfl rfl rfl) (X8r (by omega)))<|Ze (X1p rfl)<|Ze (Vd rfl X3e 0) ?_;refine Zo (X34 (vs:=[vi ((f 0+k % 8) % 8)]) (l':=[vi ((f 0+k % 8) % 8),.slice AT (tms f).length cT]) rfl rfl X0l b rfl rfl rfl rfl rfl) ?_;rintro _ w1 ⟨H,hb⟩;have q:=b;have A:=A.onlyT H q rfl;have g:=g.self H;have b:=hb;refine Zt dB fun a p=>?_;refine wp_ret<|X8<|X7 p (X91 rfl) ?_
  subst bP
  rw [show f 0+k % 8=f 0+k % 8 from rfl,show (f 0+k % 8) % 8=padd f 0 k 0 from by show _=upd f 0 _ 0;rw [X4f];omega] at b
  rw [← Xar f k] at b A M
  exact ⟨rfl,g,AT,cT,b,A.top,M⟩
 have C:=aN
 have bP:m≠0:=by have:=aN;simpa using this
 have aG:0<m:=by have:=hm.1;omega
 refine wp_skip<|d7 _ _<|wp_seq_k fun _ dC=>?_;refine Zs p fun _ dD=>?_;refine Zm rfl<|Ze (X0x rfl rfl)<|Zt dD fun a p=>?_
 refine Xg p rfl (fun aO=>?_) (fun aO=>?_)
 ·have D:=aO
  have aZ:k % 8=0:=by have:=aO;simpa using this
  refine wp_ret<|X8<|X7 p (X91 rfl) ?_
  rw [Xiz aT aZ]
  exact ⟨rfl,g,AT,cT,b,A.top,M⟩
 have D:=aO
 have aZ:k % 8≠0:=by have:=aO;simpa using this
 refine wp_skip<|dC _ _<|Zs p fun _ bR=>?_;refine Za rfl<|ZX bR fun a p _ bS=>?_;refine wp_block<|Xw (σ:=Nat) (fun (i:Nat) (a:Act) (w:World)=>Fr a 154 [(0,.pointer (some ⟨bV,0,none⟩)),(1,vi m),(2,vi (k % 8)),(6,vi (i:Int))]∧(i≤(tms f).length)∧(∀ t ∈ (tms f).take i,t.m<m)∧Blk w bV 120 [vi (f 0),.slice AT (tms f).length cT]∧Rd w w0.heap.size 59 encT AT (tms f)∧(tms f).length≤cT∧Kept bV w0.heap.size w0 w) (fun (i:Nat)=>(tms f).length-i) 0 ?_ ?_
 ·exact ⟨p.sb,(Nat.zero_le _),(fun t ht=>by cases ht),b,A,M,g⟩
 rintro i a w2 ⟨p,hi,aB,b,A,M,g⟩;refine wp_seq_k fun _ bT=>?_;refine wp_seq_k fun _ bU=>?_;refine X0i (fun a w=>Fr a 154 [(0,.pointer (some ⟨bV,0,none⟩)),(1,vi m),(2,vi (k % 8)),(6,vi (i:Int)),(45,.bool ((decide ((i:Int)<((tms f).length:Int)))&&(decide ((((tms f).getD i tZ).m)<m))))]∧w2=w) ?_ ?_
 ·refine Zr p<|Zm rfl<|Zm rfl<|Ze (X1p rfl)<|Ze (Vd rfl X0e 1)<|Ze (X0 rfl X02 (b.at 1)) ?_;refine Ze (X10 rfl Xk)<|Ze (X1h rfl rfl)<|Zm rfl ?_
  refine Zg 34 rfl (fun d=>?_) (fun d=>?_)
  ·have aU:i<(tms f).length:=by have:=d;simpa using this
   refine Zv (gW d) (Xd rfl) ?_;refine Zv (gW d) (X1p rfl) ?_;refine Zv (gW d) (Vd rfl X0e 1) ?_;refine Zv (gW d) (X0 rfl X02 (b.at 1)) ?_;refine Zv (gW d) (Xd rfl) ?_;refine Zi (k:=i) (u:=((tms f).getD i tZ)) (enc:=encT) (l:=(tms f)) ⟨_,_,rfl,rfl,d⟩ rfl rfl Xk X0o Xx A (X80 aU) rfl ?_;intro dN b0;refine Zv (gW d) (X9k rfl X09) ?_;refine Zv (gW d) (X0 rfl X2 (b0.drop 0)) ?_;refine Zv (gW d) (Xd rfl) ?_;refine Zv (gW d) (X1h rfl rfl) ?_;refine Ze (X6 rfl d rfl) ?_;refine Zn fun a p=>?_;exact ⟨p.sub ⟨rfl,rfl,rfl,rfl,X1 rfl (by first|rfl|(simp only [C,D,d,bs];done)|simp [C,D,d]),trivial⟩,rfl⟩
  refine Zp (gP d) ?_;refine Zp (gP d) ?_;refine Zp (gP d) ?_;refine Zp (gP d) ?_;refine Zp (gP d) ?_;refine Zp (gP d) ?_;refine Zp (gP d) ?_;refine Zp (gP d) ?_;refine Zp (gP d) ?_;refine Zp (gP d) ?_;refine Ze (Xf rfl d rfl) ?_;refine Zn fun a p=>?_;exact ⟨p.sub ⟨rfl,rfl,rfl,rfl,X1 rfl (by first|rfl|(simp only [C,D,d,bs];done)|simp [C,D,d]),trivial⟩,rfl⟩
 rintro a _ ⟨p,rfl⟩;refine bU _ _ ?_
 refine Xg p rfl (fun U=>?_) (fun U=>?_)
 ·have I:=U
  have aU:i<(tms f).length∧((tms f).getD i tZ).m<m:=by have:=U;simpa using this
  refine wp_skip<|bT _ _<|wp_block<|Zr p ?_;refine Zm rfl<|Ze (Xm rfl rfl (by omega) (by omega))<|Za rfl ?_;refine Zn fun a p=>?_;refine Xa<|Xb ?_;exact ⟨i+1,⟨p.sb,(by omega),(Xog aB aU.1 aU.2),b,A,M,g⟩,(by omega)⟩
 have I:=U
 have dE:¬ (i<(tms f).length∧((tms f).getD i tZ).m<m):=by have:=U;simpa using this
 refine wp_exit<|Xe<|Xe<|Xq ?_;refine bS _ _<|wp_seq_k fun _ bW=>?_;refine wp_seq_k fun _ bX=>?_;refine X0i (fun a w=>Fr a 154 [(0,.pointer (some ⟨bV,0,none⟩)),(1,vi m),(2,vi (k % 8)),(6,vi (i:Int)),(66,.bool ((decide ((i:Int)<((tms f).length:Int)))&&((((tms f).getD i tZ).m)==m)))]∧w2=w) ?_ ?_
 ·refine Zr p<|Zm rfl<|Zm rfl<|Ze (X1p rfl)<|Ze (Vd rfl X0e 1)<|Ze (X0 rfl X02 (b.at 1)) ?_;refine Ze (X10 rfl Xk)<|Ze (X1h rfl rfl)<|Zm rfl ?_
  refine Zg 55 rfl (fun e=>?_) (fun e=>?_)
  ·have J:i<(tms f).length:=by have:=e;simpa using this
   refine Zv (gW e) (Xd rfl) ?_;refine Zv (gW e) (X1p rfl) ?_;refine Zv (gW e) (Vd rfl X0e 1) ?_;refine Zv (gW e) (X0 rfl X02 (b.at 1)) ?_;refine Zv (gW e) (Xd rfl) ?_;refine Zi (k:=i) (u:=((tms f).getD i tZ)) (enc:=encT) (l:=(tms f)) ⟨_,_,rfl,rfl,e⟩ rfl rfl Xk X0o Xx A (X80 J) rfl ?_;intro dO b1;refine Zv (gW e) (X9k rfl X09) ?_;refine Zv (gW e) (X0 rfl X2 (b1.drop 0)) ?_;refine Zv (gW e) (Xd rfl) ?_;refine Zv (gW e) (X0x rfl rfl) ?_;refine Ze (X6 rfl e rfl) ?_;refine Zn fun a p=>?_;exact ⟨p.sub ⟨rfl,rfl,rfl,rfl,X1 rfl (by first|rfl|(simp only [C,D,I,e,bs];done)|simp [C,D,I,e]),trivial⟩,rfl⟩
  refine Zp (gP e) ?_;refine Zp (gP e) ?_;refine Zp (gP e) ?_;refine Zp (gP e) ?_;refine Zp (gP e) ?_;refine Zp (gP e) ?_;refine Zp (gP e) ?_;refine Zp (gP e) ?_;refine Zp (gP e) ?_;refine Zp (gP e) ?_;refine Ze (Xf rfl e rfl) ?_;refine Zn fun a p=>?_;exact ⟨p.sub ⟨rfl,rfl,rfl,rfl,X1 rfl (by first|rfl|(simp only [C,D,I,e,bs];done)|simp [C,D,I,e]),trivial⟩,rfl⟩
 rintro a _ ⟨p,rfl⟩;refine bX _ _ ?_
 refine Xg p rfl (fun W=>?_) (fun W=>?_)
 ·have b2:=W
  obtain ⟨J,bY⟩ : i<(tms f).length∧((tms f).getD i tZ).m=m:=by have:=W;simpa using this
  have dP:=Xc0 J;have dQ:=aT ((tms f).getD i tZ).m;refine Zs p fun _ bZ=>?_;refine Zm rfl<|Zm rfl<|Ze (X1p rfl)<|Ze (Vd rfl X0e 1)<|Ze (X0 rfl X02 (b.at 1)) ?_;refine Zm rfl<|Zi (k:=i) (u:=((tms f).getD i tZ)) (enc:=encT) (l:=(tms f)) trivial rfl rfl Xk X0o Xx A (X80 J) rfl ?_;intro dR b3;refine Ze (X9k rfl X1c)<|Ze (X0 rfl X2 (b3.drop 1))<|Ze (Xm rfl rfl (by omega) (by omega))<|Ze (Vx (X5c rfl rfl rfl) (X8r (by have:=Xc0 J;have:=aT ((tms f).getD i tZ).m;omega)))<|Za rfl ?_;refine Zx bZ fun a p _ c4=>?_;refine Zf (X5 (k:=0) (vs:=[]) (zs:=[]) rfl Xk X0m rfl rfl) ?_;rintro _ w3 ⟨dS,rfl,aW,y,c5⟩;have b4:=Nat.le_trans g.size aW;have c6:=A.away aW;have b:=b.below y;have A:=A.below y;have g:=ktr g y;refine Zm rfl<|Ze (X1p rfl)<|Ze (Vd rfl X0e 1)<|Ze (X0 rfl X02 (b.at 1))<|Zm rfl ?_;refine Ze (Xm rfl rfl (by omega) (by omega)) ?_;have cA:=(A.top).dropK Xx (c:=cT) M (i+1);refine Ze (Xeq (l:=(tms f)) (k:=(i+1)) rfl rfl Xk X0o (by omega) (by omega))<|Zf (X2y (enc:=encT) (l2:=(((tms f).drop (i+1)))) rfl rfl Xk X0m Xx X22 c5 cA (by simp only [maxLen];simp;omega) (by simp;omega)) ?_;rintro _ w4 ⟨dU,dW,rfl,j,y,x⟩;clear x;have j:=j.lower b4;have b:=b.below y;have A:=A.below y;have g:=ktr g y;refine Za rfl<|Zx c4 fun a p _ cC=>?_;refine Zm rfl<|Zf (X5 (k:=0) (vs:=[]) (zs:=[]) rfl Xk X0m rfl rfl) ?_;rintro _ w5 ⟨dX,rfl,aP,y,cD⟩;have b5:=Nat.le_trans g.size aP;have cE:=A.away aP;have aH:=j.away aP;have b:=b.below y;have A:=A.below y;have j:=j.below y
  have g:=ktr g y;refine Zm rfl<|Ze (X1p rfl)<|Ze (Vd rfl X0e 1)<|Ze (X0 rfl X02 (b.at 1))<|Zm rfl ?_;have cF:=(A.top).takeK Xx i;refine Ze (X3y (l:=(tms f)) (k:=i) rfl rfl Xk X0o rfl (by omega) M)<|Zf (X2y (enc:=encT) (l2:=(((tms f).take i))) rfl rfl Xk X0m Xx X22 cD cF (by simp only [maxLen];simp;omega) (by simp;omega)) ?_;rintro _ w6 ⟨cG,cH,rfl,B,y,x⟩;have G:=Apart.new0 j aH x;clear x;have B:=B.lower b5;have b:=b.below y;have A:=A.below y;have j:=j.below y;have g:=ktr g y;refine Ze (X1p rfl)<|Ze (Vd rfl X0e 1)<|Zo (X34 (vs:=[.slice cG ((tms f).take i).length cH]) (l':=[vi (f 0),.slice cG ((tms f).take i).length cH]) rfl rfl X1o b rfl rfl rfl rfl rfl) ?_;rintro _ w7 ⟨H,hb⟩;have q:=b;have A:=A.onlyT H q rfl;have j:=j.onlyT H q rfl;have B:=B.onlyT H q rfl;have g:=g.self H;have b:=hb;refine ZX cC fun a p _ aX=>?_;refine Zs p fun _ cJ=>?_;refine Zm rfl<|Ze (X3o rfl rfl)<|Zt cJ fun a p=>?_
  refine Xg p rfl (fun E=>?_) (fun E=>?_)
  ·have b6:=E;have E:=of_decide_eq_true E
   have b7:(k % 8+((tms f).getD i tZ).c) % 8≠0:=by have:=E;omega
   refine Zr p<|Zm rfl<|Zm rfl<|Ze (X1p rfl)<|Ze (Vd rfl X0e 1)<|Ze (X0 rfl X02 (b.at 1)) ?_;refine Zm rfl<|Zm rfl<|Ze (Xs (ps:=[(0,vi m),(1,vi ((k % 8+((tms f).getD i tZ).c) % 8))]) (cs:=[vi m,vi ((k % 8+((tms f).getD i tZ).c) % 8)]) rfl (fun _=>by first|rfl|kernel_rfl))<|Zf (X5 (k:=1) (vs:=[.agg #[vi m,vi ((k % 8+((tms f).getD i tZ).c) % 8)]]) (zs:=[vi m,vi ((k % 8+((tms f).getD i tZ).c) % 8)]) rfl Xk X0m rfl rfl) ?_;rintro _ w8 ⟨e8,rfl,aC,y,aQ⟩;have dF:=Nat.le_trans g.size aC;have cK:=A.away aC;have bG:=j.away aC;have aI:=B.away aC;have b:=b.below y;have j:=j.below y;have B:=B.below y;have g:=ktr g y;refine Zf (X0p (enc:=encT) (l:=(((tms f).take i))) (l2:=([(⟨m,((k % 8+((tms f).getD i tZ).c) % 8)⟩ : Tm)])) (B0:=w0.heap.size) rfl rfl Xk X0m Xx X22 B (Rd.of_blk aQ rfl _ aQ.lt) (by simp only [maxLen];simp;omega) (by simp;omega) g.size) ?_;rintro _ w9 ⟨cL,cM,rfl,aD,N,x⟩
   have n:Own _ w0.heap.size 59 2 encT _ _ (((tms f).take i)):=B
   have bH:=x _ aQ.lt aI;have aJ:=Apart.app j G x;clear x;have b:=b.appT n N rfl;have j:=j.appP N G;have g:=Kept.app g n N (Nat.le_refl _) g.size;clear n N;refine Ze (X1p rfl)<|Ze (Vd rfl X0e 1)<|Zo (X34 (vs:=[.slice cL (((tms f).take i)++([(⟨m,((k % 8+((tms f).getD i tZ).c) % 8)⟩ : Tm)])).length cM]) (l':=[vi (f 0),.slice cL (((tms f).take i)++([(⟨m,((k % 8+((tms f).getD i tZ).c) % 8)⟩ : Tm)])).length cM]) rfl rfl X1o b rfl rfl rfl rfl rfl) ?_;rintro _ eA ⟨H,hb⟩;have q:=b;have j:=j.onlyT H q rfl;have aD:=aD.onlyT H q rfl;have g:=g.self H;have b:=hb;refine Zx aX fun a p _ cN=>?_;refine Zm rfl<|Zm rfl<|Ze (X1p rfl)<|Ze (Vd rfl X0e 1)<|Ze (X0 rfl X02 (b.at 1)) ?_;refine Zm rfl<|Zf (X0p (enc:=encT) (l:=(((tms f).take i)++([(⟨m,((k % 8+((tms f).getD i tZ).c) % 8)⟩ : Tm)]))) (l2:=(((tms f).drop (i+1)))) (B0:=w0.heap.size) rfl rfl Xk X0m Xx X22 aD j.rd (by simp only [maxLen];simp;omega) (by simp;omega) g.size) ?_;rintro _ eB ⟨b8,b9,rfl,a6,N,x⟩
   have n:Own _ w0.heap.size 59 2 encT _ _ (((tms f).take i)++([(⟨m,((k % 8+((tms f).getD i tZ).c) % 8)⟩ : Tm)])):=aD
   have bJ:=Apart.app j aJ x;clear x;have b:=b.appT n N rfl;have g:=Kept.app g n N (Nat.le_refl _) g.size;clear n N;refine Ze (X1p rfl)<|Ze (Vd rfl X0e 1)<|Zo (X34 (vs:=[.slice b8 ((((tms f).take i)++([(⟨m,((k % 8+((tms f).getD i tZ).c) % 8)⟩ : Tm)]))++((tms f).drop (i+1))).length b9]) (l':=[vi (f 0),.slice b8 ((((tms f).take i)++([(⟨m,((k % 8+((tms f).getD i tZ).c) % 8)⟩ : Tm)]))++((tms f).drop (i+1))).length b9]) rfl rfl X1o b rfl rfl rfl rfl rfl) ?_;rintro _ eC ⟨H,hb⟩;have q:=b;have a6:=a6.onlyT H q rfl;have g:=g.self H;have b:=hb;refine Zt cN fun a p=>?_;refine wp_ret<|X8<|X7 p (X91 rfl) ?_
   have e9:=Xgb (k:=k) aG hm aB J bY
   rw [if_pos b7] at e9
   rw [e9] at b a6
   rw [← X8w (f:=f) (k:=k) aG] at b
   exact ⟨rfl,g,b8,b9,b,a6.rd.top,a6.cap⟩
  have b6:=E;have E:=of_decide_eq_false E
  have b7:¬ (k % 8+((tms f).getD i tZ).c) % 8≠0:=by have:=E;omega
  refine wp_skip<|aX _ _<|Zs p fun _ cO=>?_;refine Zm rfl<|Zm rfl<|Ze (X1p rfl)<|Ze (Vd rfl X0e 1)<|Ze (X0 rfl X02 (b.at 1)) ?_;refine Zm rfl<|Zf (X0p (enc:=encT) (l:=(((tms f).take i))) (l2:=(((tms f).drop (i+1)))) (B0:=w0.heap.size) rfl rfl Xk X0m Xx X22 B j.rd (by simp only [maxLen];simp;omega) (by simp;omega) g.size) ?_;rintro _ eD ⟨bA,bB,rfl,a7,N,x⟩
  have n:Own _ w0.heap.size 59 2 encT _ _ (((tms f).take i)):=B
  have bK:=Apart.app j G x;clear x;have b:=b.appT n N rfl;have g:=Kept.app g n N (Nat.le_refl _) g.size;clear n N;refine Ze (X1p rfl)<|Ze (Vd rfl X0e 1)<|Zo (X34 (vs:=[.slice bA (((tms f).take i)++((tms f).drop (i+1))).length bB]) (l':=[vi (f 0),.slice bA (((tms f).take i)++((tms f).drop (i+1))).length bB]) rfl rfl X1o b rfl rfl rfl rfl rfl) ?_;rintro _ eE ⟨H,hb⟩;have q:=b;have a7:=a7.onlyT H q rfl;have g:=g.self H;have b:=hb;refine Zt cO fun a p=>?_;refine wp_ret<|X8<|X7 p (X91 rfl) ?_
  have e9:=Xgb (k:=k) aG hm aB J bY
  rw [if_neg b7,List.append_nil] at e9
  rw [e9] at b a7
  rw [← X8w (f:=f) (k:=k) aG] at b
  exact ⟨rfl,g,bA,bB,b,a7.rd.top,a7.cap⟩
 have b2:=W
 have dG:∀ h:i<(tms f).length,¬ ((tms f).getD i tZ).m<m∧((tms f).getD i tZ).m≠m:=by have h7:=W;intro h8;refine ⟨fun h9=>dE ⟨h8,h9⟩,fun h9=>?_⟩;rw [show (((tms f).getD i tZ).m==m)=true from by rw [h9];exact beq_self_eq_true m,Bool.and_true,decide_eq_false_iff_not] at h7;omega
 refine wp_skip<|bW _ _<|Zs p fun _ cP=>?_;refine Zf (X5 (k:=0) (vs:=[]) (zs:=[]) rfl Xk X0m rfl rfl) ?_;rintro _ eF ⟨eG,rfl,aY,y,cQ⟩;have bC:=Nat.le_trans g.size aY;have cR:=A.away aY;have b:=b.below y;have A:=A.below y;have g:=ktr g y;refine Zm rfl<|Ze (X1p rfl)<|Ze (Vd rfl X0e 1)<|Ze (X0 rfl X02 (b.at 1))<|Zm rfl ?_;have cS:=(A.top).dropK Xx (c:=cT) M i;refine Ze (Xeq (l:=(tms f)) (k:=i) rfl rfl Xk X0o rfl (by omega))<|Zf (X2y (enc:=encT) (l2:=(((tms f).drop i))) rfl rfl Xk X0m Xx X22 cQ cS (by simp only [maxLen];simp;omega) (by simp;omega)) ?_;rintro _ eH ⟨eI,eJ,rfl,o,y,x⟩;clear x;have o:=o.lower bC;have b:=b.below y;have A:=A.below y;have g:=ktr g y;refine Za rfl<|Zx cP fun a p _ cU=>?_;refine Zm rfl<|Zf (X5 (k:=0) (vs:=[]) (zs:=[]) rfl Xk X0m rfl rfl) ?_;rintro _ eK ⟨eL,rfl,aR,y,cV⟩;have bD:=Nat.le_trans g.size aR;have cW:=A.away aR;have aK:=o.away aR;have b:=b.below y;have A:=A.below y;have o:=o.below y;have g:=ktr g y;refine Zm rfl<|Ze (X1p rfl)<|Ze (Vd rfl X0e 1)<|Ze (X0 rfl X02 (b.at 1))<|Zm rfl ?_;have aE:=(A.top).takeK Xx i;refine Ze (X3y (l:=(tms f)) (k:=i) rfl rfl Xk X0o rfl (by omega) M)<|Zf (X2y (enc:=encT) (l2:=(((tms f).take i))) rfl rfl Xk X0m Xx X22 cV aE (by simp only [maxLen];simp;omega) (by simp;omega)) ?_;rintro _ eM ⟨eN,eO,rfl,L,y,x⟩;have Q:=Apart.new0 o aK x;clear x;have L:=L.lower bD;have b:=b.below y;have A:=A.below y;have o:=o.below y;have aE:=aE.below y
 have g:=ktr g y;refine Zm rfl<|Zm rfl<|Ze (Xs (ps:=[(0,vi m),(1,vi (k % 8))]) (cs:=[vi m,vi (k % 8)]) rfl (fun _=>by first|rfl|kernel_rfl))<|Zf (X5 (k:=1) (vs:=[.agg #[vi m,vi (k % 8)]]) (zs:=[vi m,vi (k % 8)]) rfl Xk X0m rfl rfl) ?_;rintro _ eP ⟨eQ,rfl,a8,y,aS⟩;have dH:=Nat.le_trans g.size a8;have cX:=A.away a8;have bL:=o.away a8;have bM:=aE.away a8;have aL:=L.away a8;have b:=b.below y;have o:=o.below y;have L:=L.below y;have g:=ktr g y;refine Zf (X0p (enc:=encT) (l:=(((tms f).take i))) (l2:=([(⟨m,(k % 8)⟩ : Tm)])) (B0:=w0.heap.size) rfl rfl Xk X0m Xx X22 L (Rd.of_blk aS rfl _ aS.lt) (by simp only [maxLen];simp;omega) (by simp;omega) g.size) ?_;rintro _ eR ⟨cY,d5,rfl,aF,N,x⟩
 have n:Own _ w0.heap.size 59 2 encT _ _ (((tms f).take i)):=L
 have bN:=x _ aS.lt aL;have aM:=Apart.app o Q x;clear x;have b:=b.appT n N rfl;have o:=o.appP N Q;have g:=Kept.app g n N (Nat.le_refl _) g.size;clear n N;refine Ze (X1p rfl)<|Ze (Vd rfl X0e 1)<|Zo (X34 (vs:=[.slice cY (((tms f).take i)++([(⟨m,(k % 8)⟩ : Tm)])).length d5]) (l':=[vi (f 0),.slice cY (((tms f).take i)++([(⟨m,(k % 8)⟩ : Tm)])).length d5]) rfl rfl X1o b rfl rfl rfl rfl rfl) ?_;rintro _ eS ⟨H,hb⟩;have q:=b;have o:=o.onlyT H q rfl;have aF:=aF.onlyT H q rfl;have g:=g.self H;have b:=hb;refine Zt cU fun a p=>?_;refine Zr p<|Zm rfl<|Zm rfl<|Ze (X1p rfl)<|Ze (Vd rfl X0e 1)<|Ze (X0 rfl X02 (b.at 1)) ?_;refine Zm rfl<|Zf (X0p (enc:=encT) (l:=(((tms f).take i)++([(⟨m,(k % 8)⟩ : Tm)]))) (l2:=(((tms f).drop i))) (B0:=w0.heap.size) rfl rfl Xk X0m Xx X22 aF o.rd (by simp only [maxLen];simp;omega) (by simp;omega) g.size) ?_;rintro _ eT ⟨bE,bF,rfl,aA,N,x⟩
 have n:Own _ w0.heap.size 59 2 encT _ _ (((tms f).take i)++([(⟨m,(k % 8)⟩ : Tm)])):=aF
 have bO:=Apart.app o aM x;clear x;have b:=b.appT n N rfl;have g:=Kept.app g n N (Nat.le_refl _) g.size;clear n N;refine Ze (X1p rfl)<|Ze (Vd rfl X0e 1)<|Zo (X34 (vs:=[.slice bE ((((tms f).take i)++([(⟨m,(k % 8)⟩ : Tm)]))++((tms f).drop i)).length bF]) (l':=[vi (f 0),.slice bE ((((tms f).take i)++([(⟨m,(k % 8)⟩ : Tm)]))++((tms f).drop i)).length bF]) rfl rfl X1o b rfl rfl rfl rfl rfl) ?_;rintro _ eU ⟨H,hb⟩;have q:=b;have aA:=aA.onlyT H q rfl;have g:=g.self H;have b:=hb;refine Zn fun a p=>?_;refine X92 p (X91 rfl) ?_
 have e9:=Xnp aG hm aB hi dG aZ
 rw [e9] at b aA
 rw [← X8w (f:=f) (k:=k) aG] at b
 exact ⟨rfl,g,bE,bF,b,aA.rd.top,aA.cap⟩
theorem X4h(w0:World)(m:Int)(hm:0≤m∧m<2^62) : Ret Tryz.prog 67 [vi m] w0 (fun v w=>∃ A c,v=.slice A (setI m.toNat).length c∧Own w w0.heap.size 3 1 encI A c (setI m.toNat)∧Below w0.heap.size w0 w):=by
 have h:=Xxc w0 m.toNat (by rw [show (2:Nat)^62=4611686018427387904 from by decide];have:=hm.2;rw [show (2:Int)^62=4611686018427387904 from by decide] at this;have:=hm.1;omega)
 rw [Int.toNat_of_nonneg hm.1] at h
 exact h
theorem Xd7(w0:World)(bV:Nat)(f:Int→Int)(AT:Option Addr)(cT:Nat)(b:Blk w0 bV 120 [vi (f 0),.slice AT (tms f).length cT])(B:Rd w0 w0.heap.size 59 encT AT (tms f))(a7:(tms f).length≤cT)(b2:PO f)(b8:SupF f)(r:Int)(k:Int)(u:Af)(hr:Mk r)(hk:-8≤k∧k≤8)(o:AO u) : Ret Tryz.prog 79 [.pointer (some ⟨bV,0,none⟩),vi r,vi k,.agg #[vi u.m,vi u.t]] w0 (fun v w=>v=.tuple #[]∧Kept bV w0.heap.size w0 w∧∃ A9 c9,Blk w bV 120 [vi ((expP f k u r) 0),.slice A9 (tms (expP f k u r)).length c9]∧Rd w w.heap.size 59 encT A9 (tms (expP f k u r))∧(tms (expP f k u r)).length≤c9):=by
 have eN:=b.lt;have eW:=X4c f;have eX:=X6q u.m;have eY:=X5j u.m;refine enter Tryz.func79 rfl 92 rfl rfl ?_;intro a d
 have p:Kept bV w0.heap.size w0 w0:=Kept.refl _ _ _
 refine Zs d fun _ dS=>?_;refine Zf (X1b (zs:=[vi u.m,vi u.t]) rfl rfl) ?_;rintro _ w1 ⟨b3,rfl,dU,q,aB⟩;have eO:=Nat.le_trans p.size dU;have b:=b.below q;have B:=B.below q;have p:=ktr p q;refine ZX dS fun a d _ c5=>?_;refine Zs d fun _ dW=>?_;refine Ze (Vd rfl X0t 1)<|Ze (X0 rfl X2 (aB.at 1))<|Ze (X0x rfl rfl)<|Zt dW fun a d=>?_
 refine Xg d rfl (fun aG=>?_) (fun aG=>?_)
 ·have c6:=aG
  have b9:u.t=1:=by simpa using aG
  refine Zs d fun _ dX=>?_;refine Zm rfl<|Zm rfl<|Zm rfl<|Zf (Vc (X30 _ bV f AT cT b B.top a7 b2 b8 r k hr (by omega)) X1n) ?_;rintro _ w2 ⟨rfl,hK,A8,c8,h,bA,cA⟩;obtain ⟨wm,A,hm,q⟩:=hK.mid;clear hm;have c:=b;have aB:=aB.only A (Blk.ne aB c rfl);have B:=B.onlyT A c rfl;have p:=p.self A;have aB:=aB.below q;have B:=B.below q;have p:=ktr p q
  clear c q A hK;have b:=h;clear h;refine Zt dX fun a d=>?_;refine Zr d<|Zm rfl<|Ze (Vx (Xu4 rfl) (Xig hk))<|Za rfl<|Zx c5 fun a d _ e8=>?_;refine Ze (Vd rfl X0b 0)<|Ze (X0 rfl X2 (aB.at 0))<|Zf (Vc (X4h _ u.m o.1.b62) X3g) ?_;rintro _ w3 ⟨C,Q,rfl,e,q⟩;have e:=e.lower p.size;have b:=b.below q;have B:=B.below q;have bA:=bA.below q;have p:=ktr p q;refine Za rfl<|Zx e8 fun a d _ cC=>?_;refine Zm rfl<|Ze (X10 rfl X00)<|Zm rfl<|Zt cC fun a d=>?_;refine wp_block<|Xw (σ:=Nat×(Int→Int)) (fun (s:Nat×(Int→Int)) (a:Act) (w:World)=>match s with|(i,g)=>∃ aH aI,Fr a 92 [(0,.pointer (some ⟨bV,0,none⟩)),(1,vi r),(2,vi (-k)),(8,.slice C (setI u.m.toNat).length Q),(27,.slice C (setI u.m.toNat).length Q),(28,vi ((setI u.m.toNat).length:Int)),(29,vi (i:Int))]∧(i≤(setI u.m.toNat).length)∧(g=exX r (-k) (lows u.m) (padd f r k) i)∧(PO g)∧(SupF g)∧Blk w bV 120 [vi (g 0),.slice aH (tms g).length aI]∧Rd w w0.heap.size 59 encT AT (tms f)∧Own w w0.heap.size 3 1 encI C Q (setI u.m.toNat)∧Rd w w.heap.size 59 encT aH (tms g)∧(tms f).length≤cT∧(tms g).length≤aI∧Kept bV w0.heap.size w0 w) (fun (s:Nat×(Int→Int))=>match s with|(i,g)=>(setI u.m.toNat).length-i) (0,(padd f r k)) ?_ ?_
  ·exact ⟨A8,c8,d.sb,(Nat.zero_le _),rfl,(b2.padd _ _),(b8.pad b2 hr),b,B,e,bA.top,a7,cA,p⟩
  rintro ⟨i,g⟩ a w4 ⟨aH,aI,d,hi,hg,hp,hs,b,B,e,aJ,a7,aC,p⟩;refine Zs d fun _ cD=>?_;refine Ze (X1h rfl rfl)<|ZX cD fun a d _ cE=>?_
  refine Xg d rfl (fun J=>?_) (fun J=>?_)
  ·have bB:=J;have J:=of_decide_eq_true J
   obtain ⟨f4,eP⟩:=Xj (l:=(setI u.m.toNat)) (k:=i) (by omega)
   refine wp_skip<|cE _ _<|wp_seq_k fun _ cF=>?_;refine wp_block<|Zs d fun _ cG=>?_;refine Zm rfl<|Zi (k:=i) (u:=((nS u.m i:Nat) : Int)) (enc:=encI) (l:=(setI u.m.toNat)) trivial rfl rfl X00 X0l X05 e.rd (X3z (by omega)) rfl ?_;intro f5 bC;refine Ze (X0 rfl X2 bC)<|Za rfl<|Za rfl<|Zx cG fun a d _ cH=>?_;refine Zm rfl<|Zm rfl<|Zm rfl<|Ze (X4p (m:=(nS u.m i)) Tryz.underlying3 Tryz.underlying109 rfl rfl (by have:=X1l o.1.b62 i;omega))<|Ze (Vx (X29 (m:=(nS u.m i)) rfl rfl rfl (by have:=X1l o.1.b62 i;omega)) (X2o o.1.b62 (by omega))) ?_;refine Ze (Vx (Vor rfl rfl) (rfl:_=(oI r ((lows u.m).getD i 0))))<|Zm rfl<|Zf (Vc (X30 _ bV g aH aI b aJ.top aC hp hs (oI r ((lows u.m).getD i 0)) (-k) (hr.or (X0j o.1 i)) (by omega)) X1n) ?_;rintro _ w5 ⟨rfl,hK,eA,eB,h,cJ,bD⟩;obtain ⟨wm,A,hm,q⟩:=hK.mid;clear hm;have c:=b;have B:=B.onlyT A c rfl;have e:=e.onlyT A c rfl;have p:=p.self A;have B:=B.below q;have e:=e.below q;have p:=ktr p q
   clear c q A hK;have b:=h;clear h;refine Zx cH fun a d _ cK=>?_;refine Zm rfl<|Zm rfl ?_;have x:=(e.rd.top).takeK X05 i;refine Ze (X3y (l:=(setI u.m.toNat)) (k:=i) rfl rfl X00 X0l rfl (by omega) e.cap)<|Ze (X10 rfl X00)<|Zm rfl<|Zt cK fun a d=>?_;refine wp_block<|Xw (σ:=Nat×(Int→Int)) (fun (s:Nat×(Int→Int)) (a:Act) (w:World)=>match s with|(j,U)=>∃ aK aL,Fr a 92 [(0,.pointer (some ⟨bV,0,none⟩)),(1,vi r),(2,vi (-k)),(8,.slice C (setI u.m.toNat).length Q),(10,vi ((nS u.m i:Nat) : Int)),(27,.slice C (setI u.m.toNat).length Q),(28,vi ((setI u.m.toNat).length:Int)),(29,vi (i:Int)),(44,.slice C ((setI u.m.toNat).take i).length Q),(45,vi (((setI u.m.toNat).take i).length:Int)),(46,vi (j:Int))]∧(j≤i)∧(U=exY r ((lows u.m).getD i 0) (-k) (lows u.m) (padd (exX r (-k) (lows u.m) (padd f r k) i) (oI r ((lows u.m).getD i 0)) (-k)) j)∧(PO U)∧(SupF U)∧Blk w bV 120 [vi (U 0),.slice aK (tms U).length aL]∧Rd w w0.heap.size 59 encT AT (tms f)∧Own w w0.heap.size 3 1 encI C Q (setI u.m.toNat)∧Rd w w5.heap.size 3 encI C ((setI u.m.toNat).take i)∧Rd w w.heap.size 59 encT aK (tms U)∧(tms f).length≤cT∧(tms U).length≤aL∧Kept bV w0.heap.size w0 w) (fun (s:Nat×(Int→Int))=>match s with|(j,U)=>i-j) (0,(padd g (oI r ((lows u.m).getD i 0)) (-k))) ?_ ?_
   ·exact ⟨eA,eB,d.sb,(Nat.zero_le _),(by rw [hg];rfl),(hp.padd _ _),(hs.pad hp (hr.or (X0j o.1 i))),b,B,e,x,cJ.top,a7,bD,p⟩
   rintro ⟨j,U⟩ a w6 ⟨aK,aL,d,hj,aM,a8,aD,b,B,e,x,b4,a7,aN,p⟩;refine Zs d fun _ cL=>?_;refine Ze (X1h rfl rfl)<|ZX cL fun a d _ cM=>?_
   refine Xg d rfl (fun E=>?_) (fun E=>?_)
   ·have bE:=E;have E:=of_decide_eq_true E
    obtain ⟨f7,eQ⟩:=Xj (l:=((setI u.m.toNat).take i)) (k:=j) (by omega)
    have bF:j<i:=by have:=E;rw [List.length_take] at this;omega
    refine wp_skip<|cM _ _<|wp_seq_k fun _ cN=>?_;refine wp_block<|Zs d fun _ cO=>?_;refine Zm rfl<|Zi (k:=j) (u:=((nS u.m j:Nat) : Int)) (enc:=encI) (l:=((setI u.m.toNat).take i)) trivial rfl rfl X00 X0l X05 x (X61 bF (by omega)) rfl ?_;intro f8 bG;refine Ze (X0 rfl X2 bG)<|Za rfl<|Za rfl<|Zx cO fun a d _ cP=>?_;refine Zm rfl<|Zm rfl<|Zm rfl<|Ze (X4p (m:=(nS u.m i)) Tryz.underlying3 Tryz.underlying109 rfl rfl (by have:=X1l o.1.b62 i;omega))<|Ze (Vx (X29 (m:=(nS u.m i)) rfl rfl rfl (by have:=X1l o.1.b62 i;omega)) (X2o o.1.b62 (by omega))) ?_;refine Ze (Vx (Vor rfl rfl) (rfl:_=(oI r ((lows u.m).getD i 0))))<|Zm rfl<|Ze (X4p (m:=(nS u.m j)) Tryz.underlying3 Tryz.underlying109 rfl rfl (by have:=X1l o.1.b62 j;omega))<|Ze (Vx (X29 (m:=(nS u.m j)) rfl rfl rfl (by have:=X1l o.1.b62 j;omega)) (X2o o.1.b62 (by omega)))<|Ze (Vx (Vor rfl rfl) (rfl:_=(oI (oI r ((lows u.m).getD i 0)) ((lows u.m).getD j 0)))) ?_;refine Zm rfl<|Ze (X37 rfl rfl (by omega) (by omega))<|Zf (Vc (X30 _ bV U aK aL b b4.top aN a8 aD (oI (oI r ((lows u.m).getD i 0)) ((lows u.m).getD j 0)) ((-2)*(-k)) ((hr.or (X0j o.1 i)).or (X0j o.1 j)) (by omega)) X1n) ?_;rintro _ w7 ⟨rfl,hK,eC,eD,h,cQ,bH⟩;obtain ⟨wm,A,hm,q⟩:=hK.mid;clear hm;have c:=b;have B:=B.onlyT A c rfl;have e:=e.onlyT A c rfl;have x:=x.onlyT A c rfl;have p:=p.self A;have B:=B.below q;have e:=e.below q;have x:=x.below q;have p:=ktr p q
    clear c q A hK;have b:=h;clear h;refine Zx cP fun a d _ cR=>?_;refine Zm rfl<|Zm rfl ?_;have L:=(e.rd.top).takeK X05 j;refine Ze (X3y (l:=(setI u.m.toNat)) (k:=j) rfl rfl X00 X0l rfl (by omega) e.cap)<|Ze (X10 rfl X00)<|Zm rfl<|Zt cR fun a d=>?_;refine wp_block<|Xw (σ:=Nat×(Int→Int)) (fun (s:Nat×(Int→Int)) (a:Act) (w:World)=>match s with|(z,W)=>∃ aO aP,Fr a 92 [(0,.pointer (some ⟨bV,0,none⟩)),(1,vi r),(2,vi (-k)),(8,.slice C (setI u.m.toNat).length Q),(10,vi ((nS u.m i:Nat) : Int)),(12,vi ((nS u.m j:Nat) : Int)),(27,.slice C (setI u.m.toNat).length Q),(28,vi ((setI u.m.toNat).length:Int)),(29,vi (i:Int)),(44,.slice C ((setI u.m.toNat).take i).length Q),(45,vi (((setI u.m.toNat).take i).length:Int)),(46,vi (j:Int)),(66,.slice C ((setI u.m.toNat).take j).length Q),(67,vi (((setI u.m.toNat).take j).length:Int)),(68,vi (z:Int))]∧(z≤j)∧(W=exZ r ((lows u.m).getD i 0) ((lows u.m).getD j 0) (-k) (lows u.m) (padd (exY r ((lows u.m).getD i 0) (-k) (lows u.m) (padd (exX r (-k) (lows u.m) (padd f r k) i) (oI r ((lows u.m).getD i 0)) (-k)) j) (oI (oI r ((lows u.m).getD i 0)) ((lows u.m).getD j 0)) (-2*(-k))) z)∧(PO W)∧(SupF W)∧Blk w bV 120 [vi (W 0),.slice aO (tms W).length aP]∧Rd w w0.heap.size 59 encT AT (tms f)∧Own w w0.heap.size 3 1 encI C Q (setI u.m.toNat)∧Rd w w5.heap.size 3 encI C ((setI u.m.toNat).take i)∧Rd w w7.heap.size 3 encI C ((setI u.m.toNat).take j)∧Rd w w.heap.size 59 encT aO (tms W)∧(tms f).length≤cT∧(tms W).length≤aP∧Kept bV w0.heap.size w0 w) (fun (s:Nat×(Int→Int))=>match s with|(z,W)=>j-z) (0,(padd U (oI (oI r ((lows u.m).getD i 0)) ((lows u.m).getD j 0)) (-2*(-k)))) ?_ ?_
    ·exact ⟨eC,eD,d.sb,(Nat.zero_le _),(by rw [aM];rfl),(a8.padd _ _),(aD.pad a8 ((hr.or (X0j o.1 i)).or (X0j o.1 j))),b,B,e,x,L,cQ.top,a7,bH,p⟩
    rintro ⟨z,W⟩ a w8 ⟨aO,aP,d,hz,aQ,aA,aE,b,B,e,x,L,b5,a7,aR,p⟩;refine Zs d fun _ cS=>?_;refine Ze (X1h rfl rfl)<|ZX cS fun a d _ cU=>?_
    refine Xg d rfl (fun G=>?_) (fun G=>?_)
    ·have bJ:=G;have G:=of_decide_eq_true G
     obtain ⟨f9,eR⟩:=Xj (l:=((setI u.m.toNat).take j)) (k:=z) (by omega)
     have bK:z<j:=by have:=G;rw [List.length_take] at this;omega
     refine wp_skip<|cU _ _<|wp_seq_k fun _ cV=>?_;refine wp_block<|Zs d fun _ cW=>?_;refine Zi (k:=z) (u:=((nS u.m z:Nat) : Int)) (enc:=encI) (l:=((setI u.m.toNat).take j)) trivial rfl rfl X00 X0l X05 L (X61 bK (by omega)) rfl ?_;intro fA bL;refine Ze (X0 rfl X2 bL)<|Za rfl<|Zt cW fun a d=>?_;refine Zr d<|Zm rfl<|Zm rfl<|Zm rfl<|Ze (X4p (m:=(nS u.m i)) Tryz.underlying3 Tryz.underlying109 rfl rfl (by have:=X1l o.1.b62 i;omega))<|Ze (Vx (X29 (m:=(nS u.m i)) rfl rfl rfl (by have:=X1l o.1.b62 i;omega)) (X2o o.1.b62 (by omega))) ?_;refine Ze (Vx (Vor rfl rfl) (rfl:_=(oI r ((lows u.m).getD i 0))))<|Zm rfl<|Ze (X4p (m:=(nS u.m j)) Tryz.underlying3 Tryz.underlying109 rfl rfl (by have:=X1l o.1.b62 j;omega))<|Ze (Vx (X29 (m:=(nS u.m j)) rfl rfl rfl (by have:=X1l o.1.b62 j;omega)) (X2o o.1.b62 (by omega)))<|Ze (Vx (Vor rfl rfl) (rfl:_=(oI (oI r ((lows u.m).getD i 0)) ((lows u.m).getD j 0)))) ?_;refine Zm rfl<|Ze (X4p (m:=(nS u.m z)) Tryz.underlying3 Tryz.underlying109 rfl rfl (by have:=X1l o.1.b62 z;omega))<|Ze (Vx (X29 (m:=(nS u.m z)) rfl rfl rfl (by have:=X1l o.1.b62 z;omega)) (X2o o.1.b62 (by omega)))<|Ze (Vx (Vor rfl rfl) (rfl:_=(oI (oI (oI r ((lows u.m).getD i 0)) ((lows u.m).getD j 0)) ((lows u.m).getD z 0))))<|Zm rfl ?_;refine Ze (X37 rfl rfl (by omega) (by omega))<|Zf (Vc (X30 _ bV W aO aP b b5.top aR aA aE (oI (oI (oI r ((lows u.m).getD i 0)) ((lows u.m).getD j 0)) ((lows u.m).getD z 0)) (4*(-k)) (((hr.or (X0j o.1 i)).or (X0j o.1 j)).or (X0j o.1 z)) (by omega)) X1n) ?_;rintro _ w9 ⟨rfl,hK,eE,eF,h,cX,bM⟩;obtain ⟨wm,A,hm,q⟩:=hK.mid;clear hm;have c:=b;have B:=B.onlyT A c rfl;have e:=e.onlyT A c rfl;have x:=x.onlyT A c rfl;have L:=L.onlyT A c rfl
     have p:=p.self A;have B:=B.below q;have e:=e.below q;have x:=x.below q;have L:=L.below q;have p:=ktr p q
     clear c q A hK;have b:=h;clear h;refine Zn fun a d=>?_;refine Xa<|cV _ _<|Zr d<|Ze (Xm rfl rfl (by omega) (by omega))<|Zm rfl ?_;refine Zn fun a d=>?_;refine Xb ?_;exact ⟨(z+1,(padd W (oI (oI (oI r ((lows u.m).getD i 0)) ((lows u.m).getD j 0)) ((lows u.m).getD z 0)) (4*(-k)))),⟨eE,eF,d.sb,(by omega),(by rw [aQ];rfl),(aA.padd _ _),(aE.pad aA (((hr.or (X0j o.1 i)).or (X0j o.1 j)).or (X0j o.1 z))),b,B,e,x,L,cX.top,a7,bM,p⟩,(by first|omega|(dsimp only;omega))⟩
    have bJ:=G;have G:=of_decide_eq_false G
    have bN:j≤z:=by have:=G;rw [List.length_take] at this;omega
    refine wp_exit<|Xe<|Xe<|Xq ?_;refine Xa<|cN _ _<|Zr d<|Ze (Xm rfl rfl (by omega) (by omega))<|Zm rfl ?_;refine Zn fun a d=>?_;refine Xb ?_;exact ⟨(j+1,W),⟨aO,aP,d.sb,(by omega),(by rw [aQ,show z=j from by have:=bN;omega];rfl),aA,aE,b,B,e,x,b5.top,a7,aR,p⟩,(by first|omega|(dsimp only;omega))⟩
   have bE:=E;have E:=of_decide_eq_false E
   have bO:i≤j:=by have:=E;rw [List.length_take] at this;omega
   refine wp_exit<|Xe<|Xe<|Xq ?_;refine Xa<|cF _ _<|Zr d<|Ze (Xm rfl rfl (by omega) (by omega))<|Zm rfl ?_;refine Zn fun a d=>?_;refine Xb ?_;exact ⟨(i+1,U),⟨aK,aL,d.sb,(by omega),(by rw [aM,show j=i from by have:=bO;omega];rfl),a8,aD,b,B,e,b4.top,a7,aN,p⟩,(by first|omega|(dsimp only;omega))⟩
  have bB:=J;have J:=of_decide_eq_false J
  have bP:i=(lows u.m).length:=by have:=J;omega
  refine wp_exit<|Xe<|Xe<|Xq ?_;refine X92 d (X91 rfl) ?_
  have e9:g=expP f k u r:=by rw [hg,bP];unfold expP;rw [if_pos b9]
  rw [e9] at b aJ aC
  exact ⟨rfl,p,aH,aI,b,aJ.top,aC⟩
 have c6:=aG
 have b9:¬ u.t=1:=by simpa using aG
 refine wp_skip<|c5 _ _<|Zs d fun _ cY=>?_;refine Ze (Vd rfl X0b 0)<|Ze (X0 rfl X2 (aB.at 0))<|Zf (Vc (X4h _ u.m o.1.b62) X3g) ?_;rintro _ fB ⟨D,a6,rfl,n,q⟩;have n:=n.lower p.size;have b:=b.below q;have B:=B.below q;have p:=ktr p q;refine Za rfl<|Zx cY fun a d _ d5=>?_;refine Zm rfl<|Ze (X10 rfl X00)<|Zm rfl<|Zt d5 fun a d=>?_;refine wp_block<|Xw (σ:=Nat×(Int→Int)) (fun (s:Nat×(Int→Int)) (a:Act) (w:World)=>match s with|(i,g)=>∃ aS aT,Fr a 92 [(0,.pointer (some ⟨bV,0,none⟩)),(1,vi r),(2,vi k),(8,.slice D (setI u.m.toNat).length a6),(27,.slice D (setI u.m.toNat).length a6),(28,vi ((setI u.m.toNat).length:Int)),(29,vi (i:Int))]∧(i≤(setI u.m.toNat).length)∧(g=exX r k (lows u.m) f i)∧(PO g)∧(SupF g)∧Blk w bV 120 [vi (g 0),.slice aS (tms g).length aT]∧Own w w0.heap.size 3 1 encI D a6 (setI u.m.toNat)∧Rd w w.heap.size 59 encT aS (tms g)∧(tms g).length≤aT∧Kept bV w0.heap.size w0 w) (fun (s:Nat×(Int→Int))=>match s with|(i,g)=>(setI u.m.toNat).length-i) (0,f) ?_ ?_
 ·exact ⟨AT,cT,d.sb,(Nat.zero_le _),rfl,b2,b8,b,n,B.top,a7,p⟩
 rintro ⟨i,g⟩ a fC ⟨aS,aT,d,hi,hg,hp,hs,b,n,aU,aF,p⟩;refine Zs d fun _ d6=>?_;refine Ze (X1h rfl rfl)<|ZX d6 fun a d _ d7=>?_
 refine Xg d rfl (fun M=>?_) (fun M=>?_)
 ·have bR:=M;have M:=of_decide_eq_true M
  obtain ⟨fD,eS⟩:=Xj (l:=(setI u.m.toNat)) (k:=i) (by omega)
  refine wp_skip<|d7 _ _<|wp_seq_k fun _ d8=>?_;refine wp_block<|Zs d fun _ dB=>?_;refine Zm rfl<|Zi (k:=i) (u:=((nS u.m i:Nat) : Int)) (enc:=encI) (l:=(setI u.m.toNat)) trivial rfl rfl X00 X0l X05 n.rd (X3z (by omega)) rfl ?_;intro fE bS;refine Ze (X0 rfl X2 bS)<|Za rfl<|Za rfl<|Zx dB fun a d _ dC=>?_;refine Zm rfl<|Zm rfl<|Zm rfl<|Ze (X4p (m:=(nS u.m i)) Tryz.underlying3 Tryz.underlying109 rfl rfl (by have:=X1l o.1.b62 i;omega))<|Ze (Vx (X29 (m:=(nS u.m i)) rfl rfl rfl (by have:=X1l o.1.b62 i;omega)) (X2o o.1.b62 (by omega))) ?_;refine Ze (Vx (Vor rfl rfl) (rfl:_=(oI r ((lows u.m).getD i 0))))<|Zm rfl<|Zf (Vc (X30 _ bV g aS aT b aU.top aF hp hs (oI r ((lows u.m).getD i 0)) k (hr.or (X0j o.1 i)) (by omega)) X1n) ?_;rintro _ dD ⟨rfl,hK,eG,eH,h,dE,bT⟩;obtain ⟨wm,A,hm,q⟩:=hK.mid;clear hm;have c:=b;have n:=n.onlyT A c rfl;have p:=p.self A;have n:=n.below q;have p:=ktr p q
  clear c q A hK;have b:=h;clear h;refine Zx dC fun a d _ dF=>?_;refine Zm rfl<|Zm rfl ?_;have y:=(n.rd.top).takeK X05 i;refine Ze (X3y (l:=(setI u.m.toNat)) (k:=i) rfl rfl X00 X0l rfl (by omega) n.cap)<|Ze (X10 rfl X00)<|Zm rfl<|Zt dF fun a d=>?_;refine wp_block<|Xw (σ:=Nat×(Int→Int)) (fun (s:Nat×(Int→Int)) (a:Act) (w:World)=>match s with|(j,U)=>∃ aW aX,Fr a 92 [(0,.pointer (some ⟨bV,0,none⟩)),(1,vi r),(2,vi k),(8,.slice D (setI u.m.toNat).length a6),(10,vi ((nS u.m i:Nat) : Int)),(27,.slice D (setI u.m.toNat).length a6),(28,vi ((setI u.m.toNat).length:Int)),(29,vi (i:Int)),(44,.slice D ((setI u.m.toNat).take i).length a6),(45,vi (((setI u.m.toNat).take i).length:Int)),(46,vi (j:Int))]∧(j≤i)∧(U=exY r ((lows u.m).getD i 0) k (lows u.m) (padd (exX r k (lows u.m) f i) (oI r ((lows u.m).getD i 0)) k) j)∧(PO U)∧(SupF U)∧Blk w bV 120 [vi (U 0),.slice aW (tms U).length aX]∧Own w w0.heap.size 3 1 encI D a6 (setI u.m.toNat)∧Rd w dD.heap.size 3 encI D ((setI u.m.toNat).take i)∧Rd w w.heap.size 59 encT aW (tms U)∧(tms U).length≤aX∧Kept bV w0.heap.size w0 w) (fun (s:Nat×(Int→Int))=>match s with|(j,U)=>i-j) (0,(padd g (oI r ((lows u.m).getD i 0)) k)) ?_ ?_
  ·exact ⟨eG,eH,d.sb,(Nat.zero_le _),(by rw [hg];rfl),(hp.padd _ _),(hs.pad hp (hr.or (X0j o.1 i))),b,n,y,dE.top,bT,p⟩
  rintro ⟨j,U⟩ a fF ⟨aW,aX,d,hj,aM,a8,aD,b,n,y,b6,aY,p⟩;refine Zs d fun _ dG=>?_;refine Ze (X1h rfl rfl)<|ZX dG fun a d _ dH=>?_
  refine Xg d rfl (fun H=>?_) (fun H=>?_)
  ·have bU:=H;have H:=of_decide_eq_true H
   obtain ⟨fG,eT⟩:=Xj (l:=((setI u.m.toNat).take i)) (k:=j) (by omega)
   have bF:j<i:=by have:=H;rw [List.length_take] at this;omega
   refine wp_skip<|dH _ _<|wp_seq_k fun _ dI=>?_;refine wp_block<|Zs d fun _ dJ=>?_;refine Zm rfl<|Zi (k:=j) (u:=((nS u.m j:Nat) : Int)) (enc:=encI) (l:=((setI u.m.toNat).take i)) trivial rfl rfl X00 X0l X05 y (X61 bF (by omega)) rfl ?_;intro fH bW;refine Ze (X0 rfl X2 bW)<|Za rfl<|Za rfl<|Zx dJ fun a d _ dK=>?_;refine Zm rfl<|Zm rfl<|Zm rfl<|Ze (X4p (m:=(nS u.m i)) Tryz.underlying3 Tryz.underlying109 rfl rfl (by have:=X1l o.1.b62 i;omega))<|Ze (Vx (X29 (m:=(nS u.m i)) rfl rfl rfl (by have:=X1l o.1.b62 i;omega)) (X2o o.1.b62 (by omega))) ?_;refine Ze (Vx (Vor rfl rfl) (rfl:_=(oI r ((lows u.m).getD i 0))))<|Zm rfl<|Ze (X4p (m:=(nS u.m j)) Tryz.underlying3 Tryz.underlying109 rfl rfl (by have:=X1l o.1.b62 j;omega))<|Ze (Vx (X29 (m:=(nS u.m j)) rfl rfl rfl (by have:=X1l o.1.b62 j;omega)) (X2o o.1.b62 (by omega)))<|Ze (Vx (Vor rfl rfl) (rfl:_=(oI (oI r ((lows u.m).getD i 0)) ((lows u.m).getD j 0)))) ?_;refine Zm rfl<|Ze (X37 rfl rfl (by omega) (by omega))<|Zf (Vc (X30 _ bV U aW aX b b6.top aY a8 aD (oI (oI r ((lows u.m).getD i 0)) ((lows u.m).getD j 0)) ((-2)*k) ((hr.or (X0j o.1 i)).or (X0j o.1 j)) (by omega)) X1n) ?_;rintro _ eI ⟨rfl,hK,eJ,eK,h,dL,bX⟩;obtain ⟨wm,A,hm,q⟩:=hK.mid;clear hm;have c:=b;have n:=n.onlyT A c rfl;have y:=y.onlyT A c rfl;have p:=p.self A;have n:=n.below q;have y:=y.below q;have p:=ktr p q
   clear c q A hK;have b:=h;clear h;refine Zx dK fun a d _ dM=>?_;refine Zm rfl<|Zm rfl ?_;have N:=(n.rd.top).takeK X05 j;refine Ze (X3y (l:=(setI u.m.toNat)) (k:=j) rfl rfl X00 X0l rfl (by omega) n.cap)<|Ze (X10 rfl X00)<|Zm rfl<|Zt dM fun a d=>?_;refine wp_block<|Xw (σ:=Nat×(Int→Int)) (fun (s:Nat×(Int→Int)) (a:Act) (w:World)=>match s with|(z,W)=>∃ aZ b0,Fr a 92 [(0,.pointer (some ⟨bV,0,none⟩)),(1,vi r),(2,vi k),(8,.slice D (setI u.m.toNat).length a6),(10,vi ((nS u.m i:Nat) : Int)),(12,vi ((nS u.m j:Nat) : Int)),(27,.slice D (setI u.m.toNat).length a6),(28,vi ((setI u.m.toNat).length:Int)),(29,vi (i:Int)),(44,.slice D ((setI u.m.toNat).take i).length a6),(45,vi (((setI u.m.toNat).take i).length:Int)),(46,vi (j:Int)),(66,.slice D ((setI u.m.toNat).take j).length a6),(67,vi (((setI u.m.toNat).take j).length:Int)),(68,vi (z:Int))]∧(z≤j)∧(W=exZ r ((lows u.m).getD i 0) ((lows u.m).getD j 0) k (lows u.m) (padd (exY r ((lows u.m).getD i 0) k (lows u.m) (padd (exX r k (lows u.m) f i) (oI r ((lows u.m).getD i 0)) k) j) (oI (oI r ((lows u.m).getD i 0)) ((lows u.m).getD j 0)) (-2*k)) z)∧(PO W)∧(SupF W)∧Blk w bV 120 [vi (W 0),.slice aZ (tms W).length b0]∧Own w w0.heap.size 3 1 encI D a6 (setI u.m.toNat)∧Rd w dD.heap.size 3 encI D ((setI u.m.toNat).take i)∧Rd w eI.heap.size 3 encI D ((setI u.m.toNat).take j)∧Rd w w.heap.size 59 encT aZ (tms W)∧(tms W).length≤b0∧Kept bV w0.heap.size w0 w) (fun (s:Nat×(Int→Int))=>match s with|(z,W)=>j-z) (0,(padd U (oI (oI r ((lows u.m).getD i 0)) ((lows u.m).getD j 0)) (-2*k))) ?_ ?_
   ·exact ⟨eJ,eK,d.sb,(Nat.zero_le _),(by rw [aM];rfl),(a8.padd _ _),(aD.pad a8 ((hr.or (X0j o.1 i)).or (X0j o.1 j))),b,n,y,N,dL.top,bX,p⟩
   rintro ⟨z,W⟩ a fI ⟨aZ,b0,d,hz,aQ,aA,aE,b,n,y,N,b7,b1,p⟩;refine Zs d fun _ dN=>?_;refine Ze (X1h rfl rfl)<|ZX dN fun a d _ dO=>?_
   refine Xg d rfl (fun I=>?_) (fun I=>?_)
   ·have bY:=I;have I:=of_decide_eq_true I
    obtain ⟨fJ,eU⟩:=Xj (l:=((setI u.m.toNat).take j)) (k:=z) (by omega)
    have bK:z<j:=by have:=I;rw [List.length_take] at this;omega
    refine wp_skip<|dO _ _<|wp_seq_k fun _ dP=>?_;refine wp_block<|Zs d fun _ dQ=>?_;refine Zi (k:=z) (u:=((nS u.m z:Nat) : Int)) (enc:=encI) (l:=((setI u.m.toNat).take j)) trivial rfl rfl X00 X0l X05 N (X61 bK (by omega)) rfl ?_;intro fK bZ;refine Ze (X0 rfl X2 bZ)<|Za rfl<|Zt dQ fun a d=>?_;refine Zr d<|Zm rfl<|Zm rfl<|Zm rfl<|Ze (X4p (m:=(nS u.m i)) Tryz.underlying3 Tryz.underlying109 rfl rfl (by have:=X1l o.1.b62 i;omega))<|Ze (Vx (X29 (m:=(nS u.m i)) rfl rfl rfl (by have:=X1l o.1.b62 i;omega)) (X2o o.1.b62 (by omega))) ?_;refine Ze (Vx (Vor rfl rfl) (rfl:_=(oI r ((lows u.m).getD i 0))))<|Zm rfl<|Ze (X4p (m:=(nS u.m j)) Tryz.underlying3 Tryz.underlying109 rfl rfl (by have:=X1l o.1.b62 j;omega))<|Ze (Vx (X29 (m:=(nS u.m j)) rfl rfl rfl (by have:=X1l o.1.b62 j;omega)) (X2o o.1.b62 (by omega)))<|Ze (Vx (Vor rfl rfl) (rfl:_=(oI (oI r ((lows u.m).getD i 0)) ((lows u.m).getD j 0)))) ?_;refine Zm rfl<|Ze (X4p (m:=(nS u.m z)) Tryz.underlying3 Tryz.underlying109 rfl rfl (by have:=X1l o.1.b62 z;omega))<|Ze (Vx (X29 (m:=(nS u.m z)) rfl rfl rfl (by have:=X1l o.1.b62 z;omega)) (X2o o.1.b62 (by omega)))<|Ze (Vx (Vor rfl rfl) (rfl:_=(oI (oI (oI r ((lows u.m).getD i 0)) ((lows u.m).getD j 0)) ((lows u.m).getD z 0))))<|Zm rfl ?_;refine Ze (X37 rfl rfl (by omega) (by omega))<|Zf (Vc (X30 _ bV W aZ b0 b b7.top b1 aA aE (oI (oI (oI r ((lows u.m).getD i 0)) ((lows u.m).getD j 0)) ((lows u.m).getD z 0)) (4*k) (((hr.or (X0j o.1 i)).or (X0j o.1 j)).or (X0j o.1 z)) (by omega)) X1n) ?_;rintro _ fL ⟨rfl,hK,eL,eM,h,dR,c4⟩;obtain ⟨wm,A,hm,q⟩:=hK.mid;clear hm;have c:=b;have n:=n.onlyT A c rfl;have y:=y.onlyT A c rfl;have N:=N.onlyT A c rfl;have p:=p.self A;have n:=n.below q
    have y:=y.below q;have N:=N.below q;have p:=ktr p q
    clear c q A hK;have b:=h;clear h;refine Zn fun a d=>?_;refine Xa<|dP _ _<|Zr d<|Ze (Xm rfl rfl (by omega) (by omega))<|Zm rfl ?_;refine Zn fun a d=>?_;refine Xb ?_;exact ⟨(z+1,(padd W (oI (oI (oI r ((lows u.m).getD i 0)) ((lows u.m).getD j 0)) ((lows u.m).getD z 0)) (4*k))),⟨eL,eM,d.sb,(by omega),(by rw [aQ];rfl),(aA.padd _ _),(aE.pad aA (((hr.or (X0j o.1 i)).or (X0j o.1 j)).or (X0j o.1 z))),b,n,y,N,dR.top,c4,p⟩,(by first|omega|(dsimp only;omega))⟩
   have bY:=I;have I:=of_decide_eq_false I
   have bN:j≤z:=by have:=I;rw [List.length_take] at this;omega
   refine wp_exit<|Xe<|Xe<|Xq ?_;refine Xa<|dI _ _<|Zr d<|Ze (Xm rfl rfl (by omega) (by omega))<|Zm rfl ?_;refine Zn fun a d=>?_;refine Xb ?_;exact ⟨(j+1,W),⟨aZ,b0,d.sb,(by omega),(by rw [aQ,show z=j from by have:=bN;omega];rfl),aA,aE,b,n,y,b7.top,b1,p⟩,(by first|omega|(dsimp only;omega))⟩
  have bU:=H;have H:=of_decide_eq_false H
  have bO:i≤j:=by have:=H;rw [List.length_take] at this;omega
  refine wp_exit<|Xe<|Xe<|Xq ?_;refine Xa<|d8 _ _<|Zr d<|Ze (Xm rfl rfl (by omega) (by omega))<|Zm rfl ?_;refine Zn fun a d=>?_;refine Xb ?_;exact ⟨(i+1,U),⟨aW,aX,d.sb,(by omega),(by rw [aM,show j=i from by have:=bO;omega];rfl),a8,aD,b,n,b6.top,aY,p⟩,(by first|omega|(dsimp only;omega))⟩
 have bR:=M;have M:=of_decide_eq_false M
 have bP:i=(lows u.m).length:=by have:=M;omega
 refine wp_exit<|Xe<|Xe<|Xq ?_;refine X92 d (X91 rfl) ?_
 have e9:g=expP f k u r:=by rw [hg,bP];unfold expP;rw [if_neg b9]
 rw [e9] at b aU aF
 exact ⟨rfl,p,aS,aT,b,aU.top,aF⟩
theorem Xsd(w0:World)(bV:Nat)(f:Int→Int)(AT:Option Addr)(cT:Nat)(c:Blk w0 bV 120 [vi (f 0),.slice AT (tms f).length cT])(hT:Rd w0 w0.heap.size 59 encT AT (tms f))(bL:(tms f).length≤cT)(bM:PO f)(bN:SupF f)(u:Af)(y:Af)(N:AO u)(H:AO y) : Ret Tryz.prog 76 [.pointer (some ⟨bV,0,none⟩),.agg #[vi u.m,vi u.t],.agg #[vi y.m,vi y.t]] w0 (fun v w=>v=.tuple #[]∧Kept bV w0.heap.size w0 w∧∃ A9 c9,Blk w bV 120 [vi ((foldA (sumS u y) f) 0),.slice A9 (tms (foldA (sumS u y) f)).length c9]∧Rd w w.heap.size 59 encT A9 (tms (foldA (sumS u y) f))∧(tms (foldA (sumS u y) f)).length≤c9):=by
 have cJ:=c.lt;have cR:=X4c f;have cS:=X6q u.m;have cU:=X5j u.m;have cK:=X6q y.m;have cL:=X5j y.m;have bO:=N.2;have bP:=H.2;have cV:=Xym bO bP;refine enter Tryz.func76 rfl 72 rfl rfl ?_;intro a o
 have p:Kept bV w0.heap.size w0 w0:=Kept.refl _ _ _
 refine Zs o fun _ bR=>?_;refine Zf (X1b (zs:=[vi u.m,vi u.t]) rfl rfl) ?_;rintro _ w1 ⟨b3,rfl,bS,n,b⟩;have cM:=Nat.le_trans p.size bS;have c:=c.below n;have hT:=hT.below n;have p:=ktr p n;refine Zf (X1b (zs:=[vi y.m,vi y.t]) rfl rfl) ?_;rintro _ w2 ⟨b4,rfl,bT,n,d⟩
 have bK:b3≠b4:=by have:=b.lt;omega
 have cN:=Nat.le_trans p.size bT;have c:=c.below n;have b:=b.below n;have hT:=hT.below n;have p:=ktr p n;refine ZX bR fun a o _ bU=>?_;refine Zs o fun _ bW=>?_;refine Ze (Vd rfl X0b 0)<|Ze (X0 rfl X2 (b.at 0))<|Zf (Vc (X4h _ u.m N.1.b62) X3g) ?_;rintro _ w3 ⟨A7,c7,rfl,q,n⟩;have q:=q.lower p.size;have c:=c.below n;have b:=b.below n;have d:=d.below n;have hT:=hT.below n;have p:=ktr p n;refine Ze (X10 rfl X00)<|Zm rfl<|Zt bW fun a o=>?_;refine wp_block<|Xw (σ:=Nat×(Int→Int)) (fun (s:Nat×(Int→Int)) (a:Act) (w:World)=>match s with|(i,g)=>∃ A8 c8,Fr a 72 [(0,.pointer (some ⟨bV,0,none⟩)),(4,.pointer (some ⟨b3,0,none⟩)),(5,.pointer (some ⟨b4,0,none⟩)),(14,.slice A7 (setI u.m.toNat).length c7),(15,vi ((setI u.m.toNat).length:Int)),(16,vi (i:Int))]∧(i≤(setI u.m.toNat).length)∧(g=foldA (((lows u.m).take i).flatMap fun x=>((lows y.m).map fun z=>(oI x z,4))++[(x,4*y.t)]) f)∧(PO g)∧(SupF g)∧Blk w bV 120 [vi (g 0),.slice A8 (tms g).length c8]∧Blk w b3 62 [vi u.m,vi u.t]∧Blk w b4 62 [vi y.m,vi y.t]∧Own w w0.heap.size 3 1 encI A7 c7 (setI u.m.toNat)∧Rd w w.heap.size 59 encT A8 (tms g)∧(tms g).length≤c8∧Kept bV w0.heap.size w0 w) (fun (s:Nat×(Int→Int))=>match s with|(i,g)=>(setI u.m.toNat).length-i) (0,f) ?_ ?_
 ·exact ⟨AT,cT,o.sb,(Nat.zero_le _),rfl,bM,bN,c,b,d,q,hT.top,bL,p⟩
 rintro ⟨i,g⟩ a w4 ⟨A8,c8,o,hi,hg,hp,hs,c,b,d,q,I,aD,p⟩;refine Zs o fun _ bX=>?_;refine Ze (X1h rfl rfl)<|ZX bX fun a o _ aT=>?_
 refine Xg o rfl (fun B=>?_) (fun B=>?_)
 ·have aH:=B;have B:=of_decide_eq_true B
  obtain ⟨cW,cO⟩:=Xj (l:=(setI u.m.toNat)) (k:=i) (by omega)
  have bY:=Xc6 (m:=u.m) (i:=i) (by have:=B;omega)
  refine wp_skip<|aT _ _<|wp_seq_k fun _ aU=>?_;refine wp_block<|Zs o fun _ aW=>?_;refine Zi (k:=i) (u:=((nS u.m i:Nat) : Int)) (enc:=encI) (l:=(setI u.m.toNat)) trivial rfl rfl X00 X0l X05 q.rd (X3z (by omega)) rfl ?_;intro cX aI;refine Ze (X0 rfl X2 aI)<|Za rfl<|ZX aW fun a o _ aX=>?_;refine Zs o fun _ aY=>?_;refine Ze (Vd rfl X0b 0)<|Ze (X0 rfl X2 (d.at 0))<|Zf (Vc (X4h _ y.m H.1.b62) X3g) ?_;rintro _ w5 ⟨aZ,b0,rfl,h,n⟩;have h:=h.lower p.size;have c:=c.below n;have b:=b.below n;have d:=d.below n;have q:=q.below n;have I:=I.below n;have p:=ktr p n;refine Ze (X10 rfl X00)<|Zm rfl<|Zt aY fun a o=>?_;refine wp_block<|Xw (σ:=Nat×(Int→Int)) (fun (s:Nat×(Int→Int)) (a:Act) (w:World)=>match s with|(j,J)=>∃ Q U,Fr a 72 [(0,.pointer (some ⟨bV,0,none⟩)),(4,.pointer (some ⟨b3,0,none⟩)),(5,.pointer (some ⟨b4,0,none⟩)),(7,vi ((nS u.m i:Nat) : Int)),(14,.slice A7 (setI u.m.toNat).length c7),(15,vi ((setI u.m.toNat).length:Int)),(16,vi (i:Int)),(22,.slice aZ (setI y.m.toNat).length b0),(23,vi ((setI y.m.toNat).length:Int)),(24,vi (j:Int))]∧(j≤(setI y.m.toNat).length)∧(J=foldA (((lows y.m).take j).map fun z=>(oI ((lows u.m).getD i 0) z,4)) (foldA (((lows u.m).take i).flatMap fun x=>((lows y.m).map fun z=>(oI x z,4))++[(x,4*y.t)]) f))∧(PO J)∧(SupF J)∧Blk w bV 120 [vi (J 0),.slice Q (tms J).length U]∧Blk w b3 62 [vi u.m,vi u.t]∧Blk w b4 62 [vi y.m,vi y.t]∧Own w w0.heap.size 3 1 encI A7 c7 (setI u.m.toNat)∧Own w w0.heap.size 3 1 encI aZ b0 (setI y.m.toNat)∧Rd w w.heap.size 59 encT Q (tms J)∧(tms J).length≤U∧Kept bV w0.heap.size w0 w) (fun (s:Nat×(Int→Int))=>match s with|(j,J)=>(setI y.m.toNat).length-j) (0,g) ?_ ?_
  ·exact ⟨A8,c8,o.sb,(Nat.zero_le _),(by rw [hg];rfl),hp,hs,c,b,d,q,h,I.top,aD,p⟩
  rintro ⟨j,J⟩ a w6 ⟨Q,U,o,hj,aJ,L,aB,c,b,d,q,h,aE,W,p⟩;refine Zs o fun _ b1=>?_;refine Ze (X1h rfl rfl)<|ZX b1 fun a o _ b2=>?_
  refine Xg o rfl (fun C=>?_) (fun C=>?_)
  ·have aK:=C;have C:=of_decide_eq_true C
   obtain ⟨cY,cP⟩:=Xj (l:=(setI y.m.toNat)) (k:=j) (by omega)
   have aL:=Xc6 (m:=y.m) (i:=j) (by have:=C;omega)
   refine wp_skip<|b2 _ _<|wp_seq_k fun _ b5=>?_;refine wp_block<|Zs o fun _ b6=>?_;refine Zi (k:=j) (u:=((nS y.m j:Nat) : Int)) (enc:=encI) (l:=(setI y.m.toNat)) trivial rfl rfl X00 X0l X05 h.rd (X3z (by omega)) rfl ?_;intro d5 aM;refine Ze (X0 rfl X2 aM)<|Za rfl<|Zt b6 fun a o=>?_;refine Zr o<|Zm rfl<|Zm rfl<|Ze (X4p (m:=(nS u.m i)) Tryz.underlying3 Tryz.underlying109 rfl rfl (by have:=X1l N.1.b62 i;omega))<|Ze (Vx (X29 (m:=(nS u.m i)) rfl rfl rfl (by have:=X1l N.1.b62 i;omega)) (X2o N.1.b62 (by omega)))<|Zm rfl ?_;refine Ze (X4p (m:=(nS y.m j)) Tryz.underlying3 Tryz.underlying109 rfl rfl (by have:=X1l H.1.b62 j;omega))<|Ze (Vx (X29 (m:=(nS y.m j)) rfl rfl rfl (by have:=X1l H.1.b62 j;omega)) (X2o H.1.b62 (by omega)))<|Ze (Vx (Vor rfl rfl) (rfl:_=(oI ((lows u.m).getD i 0) ((lows y.m).getD j 0))))<|Zf (Vc (X30 _ bV J Q U c aE.top W L aB (oI ((lows u.m).getD i 0) ((lows y.m).getD j 0)) 4 ((X0j N.1 i).or (X0j H.1 j)) (by omega)) X1n) ?_;rintro _ w7 ⟨rfl,hK,bZ,c4,E,b7,aN⟩;obtain ⟨wm,G,hm,n⟩:=hK.mid;clear hm;have e:=c;have b:=b.only G (Blk.ne b e rfl);have d:=d.only G (Blk.ne d e rfl);have q:=q.onlyT G e rfl;have h:=h.onlyT G e rfl;have p:=p.self G;have b:=b.below n;have d:=d.below n;have q:=q.below n;have h:=h.below n;have p:=ktr p n
   clear e n G hK;have c:=E;clear E;refine Zn fun a o=>?_;refine Xa<|b5 _ _<|Zr o<|Ze (Xm rfl rfl (by omega) (by omega))<|Zm rfl ?_;refine Zn fun a o=>?_;refine Xb ?_;exact ⟨(j+1,(padd J (oI ((lows u.m).getD i 0) ((lows y.m).getD j 0)) 4)),⟨bZ,c4,o.sb,(by omega),(by rw [aJ];exact (Xaa _ aL _).symm),(L.padd _ _),(aB.pad L ((X0j N.1 i).or (X0j H.1 j))),c,b,d,q,h,b7.top,aN,p⟩,(by first|omega|(dsimp only;omega))⟩
  have aK:=C;have C:=of_decide_eq_false C
  have c5:j=(lows y.m).length:=by have:=C;omega
  rw [c5] at aJ
  refine wp_exit<|Xe<|Xe<|Xq ?_;refine aX _ _<|Zr o<|Zm rfl<|Zm rfl<|Ze (X4p (m:=(nS u.m i)) Tryz.underlying3 Tryz.underlying109 rfl rfl (by have:=X1l N.1.b62 i;omega))<|Ze (Vx (X29 (m:=(nS u.m i)) rfl rfl rfl (by have:=X1l N.1.b62 i;omega)) (X2o N.1.b62 (by omega)))<|Ze (Vd rfl X0t 1) ?_;refine Ze (X0 rfl X2 (d.at 1))<|Ze (X37 rfl rfl (by omega) (by omega))<|Zf (Vc (X30 _ bV J Q U c aE.top W L aB ((lows u.m).getD i 0) (4*y.t) (X0j N.1 i) (by omega)) X1n) ?_;rintro _ w8 ⟨rfl,hK,c6,cA,E,b8,aO⟩;obtain ⟨wm,G,hm,n⟩:=hK.mid;clear hm;have e:=c;have b:=b.only G (Blk.ne b e rfl);have d:=d.only G (Blk.ne d e rfl);have q:=q.onlyT G e rfl;have p:=p.self G;have b:=b.below n;have d:=d.below n;have q:=q.below n;have p:=ktr p n
  clear e n G hK;have c:=E;clear E;refine Zn fun a o=>?_;refine Xa<|aU _ _<|Zr o<|Ze (Xm rfl rfl (by omega) (by omega))<|Zm rfl ?_;refine Zn fun a o=>?_;refine Xb ?_;exact ⟨(i+1,(padd J ((lows u.m).getD i 0) (4*y.t))),⟨c6,cA,o.sb,(by omega),(Xn8 bY aJ),(L.padd _ _),(aB.pad L (X0j N.1 i)),c,b,d,q,b8.top,aO,p⟩,(by first|omega|(dsimp only;omega))⟩
 have aH:=B;have B:=of_decide_eq_false B
 have cC:i=(lows u.m).length:=by have:=B;omega
 refine wp_exit<|Xe<|Xe<|Xq ?_;refine bU _ _<|wp_seq_k fun _ b9=>?_;refine Zs o fun _ bA=>?_;refine Ze (Vd rfl X0b 0)<|Ze (X0 rfl X2 (d.at 0))<|Zf (Vc (X4h _ y.m H.1.b62) X3g) ?_;rintro _ w9 ⟨bB,bC,rfl,A,n⟩;have A:=A.lower p.size;have c:=c.below n;have b:=b.below n;have d:=d.below n;have I:=I.below n;have p:=ktr p n;refine Ze (X10 rfl X00)<|Zm rfl<|Zt bA fun a o=>?_;refine wp_block<|Xw (σ:=Nat×(Int→Int)) (fun (s:Nat×(Int→Int)) (a:Act) (w:World)=>match s with|(z,M)=>∃ a6 a7,Fr a 72 [(0,.pointer (some ⟨bV,0,none⟩)),(4,.pointer (some ⟨b3,0,none⟩)),(5,.pointer (some ⟨b4,0,none⟩)),(49,.slice bB (setI y.m.toNat).length bC),(50,vi ((setI y.m.toNat).length:Int)),(51,vi (z:Int))]∧(z≤(setI y.m.toNat).length)∧(M=foldA (((lows y.m).take z).map fun x=>(x,4*u.t)) g)∧(PO M)∧(SupF M)∧Blk w bV 120 [vi (M 0),.slice a6 (tms M).length a7]∧Blk w b3 62 [vi u.m,vi u.t]∧Blk w b4 62 [vi y.m,vi y.t]∧Own w w0.heap.size 3 1 encI bB bC (setI y.m.toNat)∧Rd w w.heap.size 59 encT a6 (tms M)∧(tms M).length≤a7∧Kept bV w0.heap.size w0 w) (fun (s:Nat×(Int→Int))=>match s with|(z,M)=>(setI y.m.toNat).length-z) (0,g) ?_ ?_
 ·exact ⟨A8,c8,o.sb,(Nat.zero_le _),rfl,hp,hs,c,b,d,A,I.top,aD,p⟩
 rintro ⟨z,M⟩ a d6 ⟨a6,a7,o,hz,bD,aC,aP,c,b,d,A,aF,a8,p⟩;refine Zs o fun _ bE=>?_;refine Ze (X1h rfl rfl)<|ZX bE fun a o _ bF=>?_
 refine Xg o rfl (fun D=>?_) (fun D=>?_)
 ·have aQ:=D;have D:=of_decide_eq_true D
  obtain ⟨d7,cQ⟩:=Xj (l:=(setI y.m.toNat)) (k:=z) (by omega)
  have aL:=Xc6 (m:=y.m) (i:=z) (by have:=D;omega)
  refine wp_skip<|bF _ _<|wp_seq_k fun _ bG=>?_;refine wp_block<|Zs o fun _ bH=>?_;refine Zi (k:=z) (u:=((nS y.m z:Nat) : Int)) (enc:=encI) (l:=(setI y.m.toNat)) trivial rfl rfl X00 X0l X05 A.rd (X3z (by omega)) rfl ?_;intro d8 aR;refine Ze (X0 rfl X2 aR)<|Za rfl<|Zt bH fun a o=>?_;refine Zr o<|Zm rfl<|Zm rfl<|Ze (X4p (m:=(nS y.m z)) Tryz.underlying3 Tryz.underlying109 rfl rfl (by have:=X1l H.1.b62 z;omega))<|Ze (Vx (X29 (m:=(nS y.m z)) rfl rfl rfl (by have:=X1l H.1.b62 z;omega)) (X2o H.1.b62 (by omega)))<|Ze (Vd rfl X0t 1) ?_;refine Ze (X0 rfl X2 (b.at 1))<|Ze (X37 rfl rfl (by omega) (by omega))<|Zf (Vc (X30 _ bV M a6 a7 c aF.top a8 aC aP ((lows y.m).getD z 0) (4*u.t) (X0j H.1 z) (by omega)) X1n) ?_;rintro _ dB ⟨rfl,hK,cD,cE,E,bJ,aS⟩;obtain ⟨wm,G,hm,n⟩:=hK.mid;clear hm;have e:=c;have b:=b.only G (Blk.ne b e rfl);have d:=d.only G (Blk.ne d e rfl);have A:=A.onlyT G e rfl;have p:=p.self G;have b:=b.below n;have d:=d.below n;have A:=A.below n;have p:=ktr p n
  clear e n G hK;have c:=E;clear E;refine Zn fun a o=>?_;refine Xa<|bG _ _<|Zr o<|Ze (Xm rfl rfl (by omega) (by omega))<|Zm rfl ?_;refine Zn fun a o=>?_;refine Xb ?_;exact ⟨(z+1,(padd M ((lows y.m).getD z 0) (4*u.t))),⟨cD,cE,o.sb,(by omega),(by rw [bD];exact (Xaa _ aL _).symm),(aC.padd _ _),(aP.pad aC (X0j H.1 z)),c,b,d,A,bJ.top,aS,p⟩,(by first|omega|(dsimp only;omega))⟩
 have aQ:=D;have D:=of_decide_eq_false D
 have cF:z=(lows y.m).length:=by have:=D;omega
 refine wp_exit<|Xe<|Xe<|Xq ?_;refine b9 _ _<|Zr o<|Zm rfl<|Ze (Vd rfl X0t 1)<|Ze (X0 rfl X2 (b.at 1))<|Ze (X37 rfl rfl (by omega) (by omega))<|Ze (Vd rfl X0t 1) ?_;refine Ze (X0 rfl X2 (d.at 1))<|Ze (X37 rfl rfl (by omega) (by omega))<|Zf (Vc (X30 _ bV M a6 a7 c aF.top a8 aC aP 0 ((4*u.t)*y.t) Mk.zero (by omega)) X1n) ?_;rintro _ dC ⟨rfl,hK,cG,cH,E,aG,aA⟩;obtain ⟨wm,G,hm,n⟩:=hK.mid;clear hm;have e:=c;have p:=p.self G;have p:=ktr p n
 clear e n G hK;have c:=E;clear E;refine Zn fun a o=>?_;refine X92 o (X91 rfl) ?_
 have e9:padd M 0 (4*u.t*y.t)=foldA (sumS u y) f:=by rw [bD,cF,List.take_length,hg,cC,List.take_length];unfold sumS;rw [X1y,X1y];rfl
 rw [e9] at c aG aA
 exact ⟨rfl,p,cG,cH,c,aG.top,aA⟩
theorem Xla(w0:World)(p:Af)(q:Af) : Ret Tryz.prog 77 [.agg #[vi p.m,vi p.t],.agg #[vi q.m,vi q.t]] w0 (fun v w=>v=aV (aXor p q)∧Below w0.heap.size w0 w):=by
 refine enter Tryz.func77 rfl 16 rfl rfl ?_;intro a hf
 have c:=bz w0
 refine Zs hf fun _ aB=>?_;refine Zf (X1b (zs:=[vi p.m,vi p.t]) rfl rfl) ?_;rintro _ w1 ⟨b2,rfl,aC,f,b⟩;have aG:=Nat.le_trans c.size aC;have c:=btr c f;refine Zf (X1b (zs:=[vi q.m,vi q.t]) rfl rfl) ?_;rintro _ w2 ⟨b3,rfl,aD,f,d⟩
 have a7:b2≠b3:=by have:=b.lt;omega
 have aH:=Nat.le_trans c.size aD;have b:=b.below f;have c:=btr c f;refine Zf (X4 (zs:=[vi 0,vi 0]) X0v rfl) ?_;rintro _ w3 ⟨b4,rfl,aE,f,e⟩
 have a8:b2≠b4:=by have:=b.lt;omega
 have aA:b3≠b4:=by have:=d.lt;omega
 have a6:=Nat.le_trans c.size aE;have b:=b.below f;have d:=d.below f;have c:=btr c f;refine Zx aB fun a hf _ aF=>?_;refine Ze (Vd rfl X0b 0)<|Ze (X0 rfl X2 (b.at 0))<|Ze (Vd rfl X0b 0)<|Ze (X0 rfl X2 (d.at 0))<|Ze (X6h rfl rfl) ?_;refine Ze (Vd rfl X0t 1)<|Ze (X0 rfl X2 (b.at 1))<|Ze (Vd rfl X0t 1)<|Ze (X0 rfl X2 (d.at 1))<|Ze (X6h rfl rfl) ?_;refine Ze (Xs (ps:=[(0,vi (bits .xor .i64 p.m q.m)),(1,vi (bits .xor .i64 p.t q.t))]) (cs:=[vi (bits .xor .i64 p.m q.m),vi (bits .xor .i64 p.t q.t)]) rfl (fun _=>by first|rfl|kernel_rfl))<|Zo (Vw [vi (bits .xor .i64 p.m q.m),vi (bits .xor .i64 p.t q.t)] Xu e) ?_;rintro _ w4 ⟨ho,hb⟩;have aI:=e;have c:=Below.only c ho a6;have e:=hb;refine Zt aF fun a hf=>?_
 refine wp_ret (X7 hf (X03 hf rfl (ResV.cellN (l:=[vi (bits .xor .i64 p.m q.m),vi (bits .xor .i64 p.t q.t)]) rfl X08 (e.at 0) rfl)) ?_)
 exact ⟨rfl,c⟩
theorem Xwl(w0:World)(k:Int) : Ret Tryz.prog 80 [vi k] w0 (fun v w=>v=vi (rotC k)∧w0=w):=by
 refine enter Tryz.func80 rfl 14 rfl rfl ?_;intro a b
 have hW:=bz w0
 refine Zs b fun _ aL=>?_;refine Za rfl<|ZX aL fun a b _ aM=>?_;refine Zs b fun _ aN=>?_;refine Zm rfl<|Zt aN fun a b=>?_;refine wp_block<|Zs b fun _ aO=>?_;refine Ze (X0x rfl rfl)<|Za rfl<|Zt aO fun a b=>?_
 refine Xg b rfl (fun a6=>?_) (fun a6=>?_)
 ·have aC:=a6;refine Zs b fun _ aP=>?_;refine Za rfl<|Zt aP fun a b=>?_;refine wp_ret<|Xr<|X8<|X7 b (X03 b rfl rfl) ?_;exact ⟨by unfold rotC;simp_all,rfl⟩
 have aC:=a6;refine Zs b fun _ aQ=>?_;refine Ze (X0x rfl rfl)<|Za rfl<|Zt aQ fun a b=>?_
 refine Xg b rfl (fun a7=>?_) (fun a7=>?_)
 ·have aD:=a7;refine Zs b fun _ aR=>?_;refine Za rfl<|Zt aR fun a b=>?_;refine wp_ret<|Xr<|X8<|X7 b (X03 b rfl rfl) ?_;exact ⟨by unfold rotC;simp_all,rfl⟩
 have aD:=a7;refine Zs b fun _ aE=>?_;refine Ze (X0x rfl rfl)<|Za rfl<|Zt aE fun a b=>?_
 refine Xg b rfl (fun c=>?_) (fun c=>?_)
 ·have a8:=c;refine Zs b fun _ aF=>?_;refine Za rfl<|Zt aF fun a b=>?_;refine wp_ret<|Xr<|X8<|X7 b (X03 b rfl rfl) ?_;exact ⟨by unfold rotC;simp_all,rfl⟩
 have a8:=c;refine Zs b fun _ aG=>?_;refine Ze (X0x rfl rfl)<|Za rfl<|Zt aG fun a b=>?_
 refine Xg b rfl (fun d=>?_) (fun d=>?_)
 ·have aA:=d;refine Zs b fun _ aH=>?_;refine Za rfl<|Zt aH fun a b=>?_;refine wp_ret<|Xr<|X8<|X7 b (X03 b rfl rfl) ?_;exact ⟨by unfold rotC;simp_all,rfl⟩
 have aA:=d;refine Zs b fun _ aI=>?_;refine Ze (X0x rfl rfl)<|Za rfl<|Zt aI fun a b=>?_
 refine Xg b rfl (fun e=>?_) (fun e=>?_)
 ·have aB:=e;refine Zs b fun _ aJ=>?_;refine Za rfl<|Zt aJ fun a b=>?_;refine wp_ret<|Xr<|X8<|X7 b (X03 b rfl rfl) ?_;exact ⟨by unfold rotC;simp_all,rfl⟩
 have aB:=e;refine wp_skip<|Xa<|aM _ _<|Zs b fun _ aK=>?_;refine Za rfl<|Zt aK fun a b=>?_
 refine wp_ret (X7 b (X03 b rfl rfl) ?_)
 exact ⟨by unfold rotC;simp_all,rfl⟩
theorem Xwt(w0:World)(x:Nat)(hx:x<16777216) : Ret Tryz.prog 151 [.int .u64 (x:Int)] w0 (fun v w=>v=vi ((popS x:Nat) : Int)∧w0=w):=by
 have aF:x/2 &&& 6148914691236517205≤6148914691236517205:=Nat.and_le_right
 have aG:x &&& 6148914691236517205≤6148914691236517205:=Nat.and_le_right
 have aH:onA x=(x/2 &&& 6148914691236517205)+(x &&& 6148914691236517205):=rfl
 have aI:(onA x)/4 &&& 3689348814741910323≤3689348814741910323:=Nat.and_le_right
 have aJ:(onA x) &&& 3689348814741910323≤3689348814741910323:=Nat.and_le_right
 have aK:onB (onA x)=((onA x)/4 &&& 3689348814741910323)+((onA x) &&& 3689348814741910323):=rfl
 have aL:(onC (onB (onA x)))≤1085102592571150095:=Nat.and_le_right
 have aM:(2:Nat)^64=18446744073709551616:=by decide
 have aN:(2:Nat)^62=4611686018427387904:=by decide
 refine enter Tryz.func151 rfl 35 rfl rfl ?_;intro a b
 have hW:=bz w0
 refine Zs b fun _ a6=>?_;refine Za rfl<|Zx a6 fun a b _ a7=>?_;refine Zm rfl<|Ze (Vx (X74 (m:=1) rfl rfl rfl (by decide)) (X6j x 1))<|Ze (Vx (X81 rfl rfl) (Xiv (x:=x/2) (y:=6148914691236517205) (by omega) (by omega)))<|Zm rfl<|Ze (Vx (X81 rfl rfl) (Xiv (x:=x) (y:=6148914691236517205) (by omega) (by omega))) ?_;refine Ze (Vx (X6b rfl rfl) (Xiu _ _ (by omega)))<|Za rfl<|Zx a7 fun a b _ a8=>?_;refine Zm rfl<|Ze (Vx (X74 (m:=2) rfl rfl rfl (by decide)) (X6j (onA x) 2))<|Ze (Vx (X81 rfl rfl) (Xiv (x:=(onA x)/4) (y:=3689348814741910323) (by omega) (by omega)))<|Zm rfl<|Ze (Vx (X81 rfl rfl) (Xiv (x:=(onA x)) (y:=3689348814741910323) (by omega) (by omega))) ?_;refine Ze (Vx (X6b rfl rfl) (Xiu _ _ (by omega)))<|Za rfl<|Zx a8 fun a b _ aA=>?_;refine Zm rfl<|Ze (Vx (X74 (m:=4) rfl rfl rfl (by decide)) (X6j (onB (onA x)) 4))<|Zm rfl<|Ze (Vx (X6b rfl rfl) (Xiu _ _ (by omega)))<|Ze (Vx (X81 rfl rfl) (Xiv (x:=(onB (onA x))/16+(onB (onA x))) (y:=1085102592571150095) (by omega) (by omega))) ?_;refine Za rfl<|Zx aA fun a b _ aB=>?_;refine Zm rfl<|Zm rfl<|Ze (Vx (X74 (m:=8) rfl rfl rfl (by decide)) (X6j (onC (onB (onA x))) 8))<|Ze (Vx (X6b rfl rfl) (Xiu (onC (onB (onA x))) ((onC (onB (onA x)))/256) (by omega)))<|Za rfl ?_;refine Zx aB fun a b _ aC=>?_;refine Zm rfl<|Zm rfl<|Ze (Vx (X74 (m:=16) rfl rfl rfl (by decide)) (X6j ((onC (onB (onA x)))+(onC (onB (onA x)))/256) 16))<|Ze (Vx (X6b rfl rfl) (Xiu ((onC (onB (onA x)))+(onC (onB (onA x)))/256) (((onC (onB (onA x)))+(onC (onB (onA x)))/256)/65536) (by omega)))<|Za rfl ?_;refine Zx aC fun a b _ aD=>?_;refine Zm rfl<|Zm rfl<|Ze (Vx (X74 (m:=32) rfl rfl rfl (by decide)) (X6j (((onC (onB (onA x)))+(onC (onB (onA x)))/256)+((onC (onB (onA x)))+(onC (onB (onA x)))/256)/65536) 32))<|Ze (Vx (X6b rfl rfl) (Xiu (((onC (onB (onA x)))+(onC (onB (onA x)))/256)+((onC (onB (onA x)))+(onC (onB (onA x)))/256)/65536) ((((onC (onB (onA x)))+(onC (onB (onA x)))/256)+((onC (onB (onA x)))+(onC (onB (onA x)))/256)/65536)/4294967296) (by omega)))<|Za rfl ?_
 refine Zx aD fun a b _ aE=>?_;refine Zm rfl<|Ze (Xv5 Tryz.underlying67 Tryz.underlying3 rfl (by omega))<|Ze (Vx (X5b rfl rfl) (X3x (x:=((((onC (onB (onA x)))+(onC (onB (onA x)))/256)+((onC (onB (onA x)))+(onC (onB (onA x)))/256)/65536)+(((onC (onB (onA x)))+(onC (onB (onA x)))/256)+((onC (onB (onA x)))+(onC (onB (onA x)))/256)/65536)/4294967296)) (y:=127) (by omega) (by omega)))<|Za rfl<|Zt aE fun a b=>?_
 refine wp_ret (X7 b (X03 b rfl rfl) ?_)
 exact ⟨rfl,rfl⟩
theorem Xsf(w0:World)(x:Nat)(hx:x<16777216) : Ret Tryz.prog 115 [.int .u64 (x:Int)] w0 (fun v w=>v=vi ((popS x:Nat) : Int)∧w0=w):=by
 refine enter Tryz.func115 rfl 8 rfl rfl ?_;intro a hf
 have hW:=bz w0
 refine Zs hf fun _ a6=>?_;refine Za rfl<|ZX a6 fun a hf _ a7=>?_;refine Xca hf rfl ?_;refine wp_skip<|a7 _ _<|Zs hf fun _ a8=>?_;refine Zm rfl<|Zf (Vc (Xwt _ x hx) Xp3) ?_;rintro _ _ ⟨rfl,rfl⟩;refine Za rfl<|Zt a8 fun a hf=>?_
 refine wp_ret (X7 hf (X03 hf rfl rfl) ?_)
 exact ⟨rfl,rfl⟩
theorem Xsr(w0:World)(m:Int)(hm:Mk m) : Ret Tryz.prog 63 [vi m] w0 (fun v w=>v=vi ((szI m:Nat) : Int)∧w0=w):=by
 have a8:=hm.1;have aA:=hm.2;refine enter Tryz.func63 rfl 6 rfl rfl ?_;intro a hf
 have hW:=bz w0
 refine Zs hf fun _ a6=>?_;refine Za rfl<|Zx a6 fun a hf _ a7=>?_;refine Zm rfl<|Ze (X2x (m:=m.toNat) Tryz.underlying3 Tryz.underlying109 rfl (by omega) (by omega))<|Zf (Vc (Xsf _ m.toNat (by omega)) Xgk) ?_;rintro _ _ ⟨rfl,rfl⟩;refine Za rfl<|Zt a7 fun a hf=>?_
 refine wp_ret (X7 hf (X03 hf rfl rfl) ?_)
 exact ⟨by rw [Xkq (show m.toNat<2^24 by omega)];rfl,rfl⟩
theorem Xwq(w0:World)(u:Af)(n:Nat)(hn:n≤24) : Ret Tryz.prog 65 [.agg #[vi u.m,vi u.t],vi (n:Int)] w0 (fun v w=>v=.bool (okAf n u)∧Below w0.heap.size w0 w):=by
 have aC:=X5q hn;refine enter Tryz.func65 rfl 16 rfl rfl ?_;intro a c
 have f:=bz w0
 refine Zs c fun _ a7=>?_;refine Zf (X1b (zs:=[vi u.m,vi u.t]) rfl rfl) ?_;rintro _ w1 ⟨b2,rfl,a8,hE,d⟩;have aB:=Nat.le_trans f.size a8;have f:=btr f hE;refine Za rfl<|ZX a7 fun a c _ aA=>?_;refine X0i (fun a w=>Fr a 16 [(4,.bool ((inR u.m 0 (((2^n:Nat) : Int)-1))&&(inR u.t 0 1)))]∧Below w1.heap.size w1 w) ?_ ?_
 ·have e:Below w1.heap.size w1 w1:=Below.refl _ _
  refine Xp none (fun _=>false) mixed ?_;intro w2 hE;have d:=d.below hE;have f:=btr f hE;have e:=btr e hE;refine Yb c<|Yo 0 rfl (fun _=>Vd rfl X0b 0)<|Ye 1 rfl (X0 rfl X2 (d.at 0))<|Yo 2 rfl (fun _=>Xd rfl)<|Yo 3 rfl (fun _=>Vx (X29 (m:=n) rfl rfl rfl (by omega)) (X39 (by omega)))<|Yo 4 rfl (fun _=>X11 rfl rfl (by omega) (by omega)) ?_;refine Y1 5<|Yz rfl trivial (Vc (F91 _ u.m 0 (((2^n:Nat) : Int)-1)) X5o) ?_;refine Yo 6 rfl (fun _=>Xd rfl) ?_
  refine Yl 11 rfl (fun b=>?_) (fun b=>?_)
  ·refine Yu 7 rfl (gW b) (fun _=>Vd rfl X0t 1) ?_;refine Yv 8 rfl (gW b) (X0 rfl X2 (d.at 1)) ?_;refine Y1 9<|Yz rfl ⟨_,_,rfl,rfl,b⟩ (Vc (F91 _ u.t 0 1) X5o) ?_;refine Yo 10 rfl (fun _=>X6 rfl b rfl)<|Yo 11 rfl (fun _=>X31 rfl) ?_;refine Yd fun a c=>?_
   have a6:Below w1.heap.size w1 w2:=e
   exact ⟨c.sub ⟨X1 rfl (by first|rfl|(simp only [b,bs];done)|simp [b]),trivial⟩,a6⟩
  refine Yp 7 rfl (gP b) ?_;refine Yp 8 rfl (gP b) ?_;refine Y1 9<|Yq rfl ⟨_,_,rfl,rfl,b⟩ ?_;refine Yo 10 rfl (fun _=>Xf rfl b rfl)<|Yo 11 rfl (fun _=>X31 rfl) ?_;refine Yd fun a c=>?_
  have a6:Below w1.heap.size w1 w2:=e
  exact ⟨c.sub ⟨X1 rfl (by first|rfl|(simp only [b,bs];done)|simp [b]),trivial⟩,a6⟩
 rintro a w3 ⟨c,hE⟩;have f:=btr f hE;refine aA _ _ ?_
 refine wp_ret (X7 c (X03 c rfl rfl) ?_)
 exact ⟨rfl,f⟩
theorem Xxx(e:World)(Al:Option Addr)(cl:Nat)(l:List Af)(aB:Rd e e.heap.size 62 encA Al l)(kq:FuncId)(pq:List Value)(Fq:FuncF Tryz.prog kq)(q:Af→Bool)(hq:∀ x w,Below e.heap.size e w→Ret Tryz.prog kq ([aV x]++pq) w (fun v w'=>v=.bool (q x)∧Below w.heap.size w w'))(aO:l.length≤2305843009213693951) : Ret Tryz.prog 82 [.slice Al l.length cl,.func (.func kq) #[] pq.toArray] e (fun v w=>∃ i:Int,v=vi i∧decide (0≤i)=l.any q∧Below e.heap.size e w):=by
 refine enter Tryz.func82 rfl 19 rfl rfl ?_;intro a b
 have f:=bz e
 refine Zs b fun _ aH=>?_;refine Za rfl<|ZX aH fun a b _ aI=>?_;refine Zs b fun _ aJ=>?_;refine Zm rfl<|Ze (X10 rfl Xn)<|Zm rfl<|Zt aJ fun a b=>?_;refine wp_block<|Xw (σ:=Nat) (fun (k:Nat) (a:Act) (w:World)=>Fr a 19 [(0,.slice Al l.length cl),(1,.func (.func kq) #[] pq.toArray),(7,vi (l.length:Int)),(8,vi (k:Int))]∧(k≤l.length)∧((l.take k).all (fun x=>!q x)=true)∧Below e.heap.size e w) (fun (k:Nat)=>l.length+1-k) 0 ?_ ?_
 ·exact ⟨b.sb,(Nat.zero_le _),(by simp),f⟩
 rintro k a w1 ⟨b,hk,g,f⟩;refine Zs b fun _ aK=>?_;refine Ze (X1h rfl rfl)<|ZX aK fun a b _ aL=>?_
 refine Xg b rfl (fun d=>?_) (fun d=>?_)
 ·have aC:=d;have d:=of_decide_eq_true d
  obtain ⟨j,a6⟩:=Xj (l:=l) (k:=k) (by omega)
  refine wp_skip<|aL _ _<|wp_seq_k fun _ aM=>?_;refine wp_block<|Zs b fun _ aD=>?_;refine Zm rfl<|Za rfl<|Zx aD fun a b _ aE=>?_;refine Zm rfl<|Zm rfl<|Zm rfl<|Zi (k:=k) (u:=j) (enc:=encA) (l:=l) trivial rfl rfl Xn Xu X06 (aB.below' f) a6 rfl ?_;intro aP a7;refine Ze (X04 (l:=[vi j.m,vi j.t]) rfl X08 a7 rfl)<|Zf (Xo0 (cs:=pq) (vs:=[.agg #[vi j.m,vi j.t]]) rfl rfl Fq (hq j _ f)) ?_;rintro _ w2 ⟨rfl,hE⟩;have f:=btr f hE;refine Zt aE fun a b=>?_
  refine Xg b rfl (fun c=>?_) (fun c=>?_)
  ·have a8:=c
   have aA:l.any q=true:=Xeh a6 c
   refine Zs b fun _ aF=>?_;refine Zm rfl<|Za rfl<|Zt aF fun a b=>?_;refine wp_ret<|Xr<|X8<|X8 ?_;refine Xr<|X8<|X7 b (X03 b rfl rfl) ?_;exact ⟨_,rfl,by rw [aA];simp,f⟩
  have a8:=c
  have aN:(!q j)=true:=by revert c;cases q j<;>simp
  refine wp_skip<|Xa<|aM _ _<|Zr b ?_;refine Ze (Xm rfl rfl (by omega) (by omega))<|Zm rfl ?_;refine Zn fun a b=>?_;refine Xb ?_;exact ⟨k+1,⟨b.sb,(by omega),(X5u g a6 aN),f⟩,(by omega)⟩
 have aC:=d;have d:=of_decide_eq_false d;refine wp_exit<|Xe<|Xe<|Xq ?_;refine aI _ _<|Zs b fun _ aG=>?_;refine Za rfl<|Zt aG fun a b=>?_
 refine wp_ret (X7 b (X03 b rfl rfl) ?_)
 have aA:l.any q=false:=Xan (X4r g (by omega))
 exact ⟨_,rfl,by rw [aA];rfl,f⟩
theorem Xs1(b:World)(Al:Option Addr)(cl:Nat)(l:List Af)(a6:Rd b b.heap.size 62 encA Al l)(kq:FuncId)(pq:List Value)(Fq:FuncF Tryz.prog kq)(q:Af→Bool)(hq:∀ x w,Below b.heap.size b w→Ret Tryz.prog kq ([aV x]++pq) w (fun v w'=>v=.bool (q x)∧Below w.heap.size w w'))(a7:l.length≤2305843009213693951) : Ret Tryz.prog 40 [.slice Al l.length cl,.func (.func kq) #[] pq.toArray] b (fun v w=>v=.bool (l.any q)∧Below b.heap.size b w):=by
 refine enter Tryz.func40 rfl 9 rfl rfl ?_;intro a hf
 have hW:=bz b
 refine Zs hf fun _ a8=>?_;refine Za rfl<|Zx a8 fun a hf _ aA=>?_;refine Zm rfl<|Zm rfl<|Zf (Vc (Xxx _ Al cl l (a6.below' hW).top kq pq Fq q (fun x w' hE'=>hq x w' (hW.trans (hE'.mono hW.size))) a7) Xp7) ?_;rintro _ w1 ⟨ix,rfl,aB,hE⟩;have hW:=btr hW hE;refine Ze (Xnj rfl rfl)<|Za rfl<|Zt aA fun a hf=>?_
 refine wp_ret (X7 hf (X03 hf rfl rfl) ?_)
 exact ⟨by rw [← aB],hW⟩
theorem Xwc(w0:World)(x:Af)(n:Nat)(ba:Nat)(b:Blk w0 ba 3 [vi (n:Int)])(hn:n≤24) : Ret Tryz.prog 64 [.agg #[vi x.m,vi x.t],.pointer (some ⟨ba,0,none⟩)] w0 (fun v w=>v=.bool (!okAf n x)∧Below w0.heap.size w0 w):=by
 have a6:=b.lt;refine enter Tryz.func64 rfl 8 rfl rfl ?_;intro a hf
 have hW:=bz w0
 refine Zs hf fun _ a7=>?_;refine Zf (X1b (zs:=[vi x.m,vi x.t]) rfl rfl) ?_;rintro _ w1 ⟨b2,rfl,a8,hE,aA⟩;have aC:=Nat.le_trans hW.size a8;have b:=b.below hE;have hW:=btr hW hE;refine Za rfl<|Zx a7 fun a hf _ aB=>?_;refine Ze (Vn X08 aA)<|Ze (X0 rfl X2 (b.at 0))<|Zf (Vc (Xwq _ x n hn) Xo3) ?_;rintro _ w2 ⟨rfl,hE⟩;have hW:=btr hW hE;refine Ze (X1v rfl)<|Za rfl<|Zt aB fun a hf=>?_
 refine wp_ret (X7 hf (X03 hf rfl rfl) ?_)
 exact ⟨rfl,hW⟩
theorem Xdh(w0:World)(x:Ps)(Ax:Option Addr)(cx:Nat)(Q:Rd w0 w0.heap.size 59 encT Ax x.ts)(Bx:Option Addr)(dx:Nat)(aH:Rd w0 w0.heap.size 62 encA Bx x.out)(a6:∀ t ∈ x.ts,Mk t.m)(b6:-1000≤x.ins∧x.ins≤1000)(b7:x.ts.length≤100000000)(b8:x.out.length≤100000000) : Ret Tryz.prog 25 [.agg #[vi x.ins,vi x.vars,vi x.root,vi x.phase,.slice Ax x.ts.length cx,.slice Bx x.out.length dx]] w0 (fun v w=>v=.bool (validP x)∧Below w0.heap.size w0 w):=by
 refine enter Tryz.func25 rfl 104 rfl rfl ?_;intro a o
 have D:=bz w0
 refine Zs o fun _ aY=>?_;refine Zf (X1b (zs:=[vi x.ins,vi x.vars,vi x.root,vi x.phase,.slice Ax x.ts.length cx,.slice Bx x.out.length dx]) rfl rfl) ?_;rintro _ w1 ⟨b4,rfl,aZ,H,g⟩;have b5:=Nat.le_trans D.size aZ;have D:=btr D H;refine Za rfl<|ZX aY fun a o _ b0=>?_;refine wp_seq_k fun _ b1=>?_;refine X0i (fun a w=>Fr a 104 [(1,.pointer (some ⟨b4,0,none⟩)),(39,.bool (((((!(inR x.ins 1 5))||(!(inR x.vars 0 (24-x.ins))))||(!(inR x.root (-60) 60)))||(!(inR x.phase 0 7)))||((x.out.length:Int) != x.ins)))]∧w1=w) ?_ ?_
 ·refine Zr o<|Ze (Vd rfl X01 0)<|Ze (X0 rfl X2 (g.at 0))<|Zf (Vc (F91 _ x.ins 1 5) X5o) ?_;rintro _ _ ⟨rfl,rfl⟩;refine Ze (X1v rfl)<|Zm rfl ?_
  refine Zg 11 rfl (fun p=>?_) (fun p=>?_)
  ·refine Zp (gP p) ?_;refine Zp (gP p) ?_;refine Zp (gP p) ?_;refine Zp (gP p) ?_;refine Zp (gP p) ?_;refine Zp (gP p) ?_;refine Zp (gP p) ?_;refine Ze (X6 rfl p rfl)<|Zm rfl<|Zp (gP rfl) ?_;refine Zp (gP rfl) ?_;refine Zp (gP rfl) ?_;refine Zp (gP rfl) ?_;refine Ze (X6 rfl rfl rfl)<|Zm rfl<|Zp (gP rfl) ?_;refine Zp (gP rfl) ?_;refine Zp (gP rfl) ?_;refine Zp (gP rfl) ?_;refine Ze (X6 rfl rfl rfl)<|Zm rfl<|Zp (gP rfl) ?_;refine Zp (gP rfl) ?_;refine Zp (gP rfl) ?_;refine Zp (gP rfl) ?_;refine Zp (gP rfl) ?_;refine Zp (gP rfl) ?_;refine Ze (X6 rfl rfl rfl) ?_;refine Zn fun a o=>?_;exact ⟨o.sub ⟨rfl,X1 rfl (by first|rfl|(simp only [p,bs];done)|simp [p]),trivial⟩,rfl⟩
  refine Zv (gW p) (Vd rfl X0n 1) ?_;refine Zv (gW p) (X0 rfl X2 (g.at 1)) ?_;refine Zv (gW p) (Vd rfl X01 0) ?_;refine Zv (gW p) (X0 rfl X2 (g.at 0)) ?_;refine Zv (gW p) (X11 rfl rfl (by omega) (by omega)) ?_;refine Zk (gW p) (Vc (F91 _ x.vars 0 (24-x.ins)) X5o) ?_;rintro _ _ ⟨rfl,rfl⟩;refine Zv (gW p) (X1v rfl) ?_;refine Ze (Xf rfl p rfl)<|Zm rfl ?_
  refine Zg 20 rfl (fun A=>?_) (fun A=>?_)
  ·refine Zp (gP A) ?_;refine Zp (gP A) ?_;refine Zp (gP A) ?_;refine Zp (gP A) ?_;refine Ze (X6 rfl A rfl)<|Zm rfl<|Zp (gP rfl) ?_;refine Zp (gP rfl) ?_;refine Zp (gP rfl) ?_;refine Zp (gP rfl) ?_;refine Ze (X6 rfl rfl rfl)<|Zm rfl<|Zp (gP rfl) ?_;refine Zp (gP rfl) ?_;refine Zp (gP rfl) ?_;refine Zp (gP rfl) ?_;refine Zp (gP rfl) ?_;refine Zp (gP rfl) ?_;refine Ze (X6 rfl rfl rfl) ?_;refine Zn fun a o=>?_;exact ⟨o.sub ⟨rfl,X1 rfl (by first|rfl|(simp only [p,A,bs];done)|simp [p,A]),trivial⟩,rfl⟩
  refine Zv (gW A) (Vd rfl X0c 2) ?_;refine Zv (gW A) (X0 rfl X2 (g.at 2)) ?_;refine Zk (gW A) (Vc (F91 _ x.root (-60) 60) X5o) ?_;rintro _ _ ⟨rfl,rfl⟩;refine Zv (gW A) (X1v rfl) ?_;refine Ze (Xf rfl A rfl)<|Zm rfl ?_
  refine Zg 26 rfl (fun B=>?_) (fun B=>?_)
  ·refine Zp (gP B) ?_;refine Zp (gP B) ?_;refine Zp (gP B) ?_;refine Zp (gP B) ?_;refine Ze (X6 rfl B rfl)<|Zm rfl<|Zp (gP rfl) ?_;refine Zp (gP rfl) ?_;refine Zp (gP rfl) ?_;refine Zp (gP rfl) ?_;refine Zp (gP rfl) ?_;refine Zp (gP rfl) ?_;refine Ze (X6 rfl rfl rfl) ?_;refine Zn fun a o=>?_;exact ⟨o.sub ⟨rfl,X1 rfl (by first|rfl|(simp only [p,A,B,bs];done)|simp [p,A,B]),trivial⟩,rfl⟩
  refine Zv (gW B) (Vd rfl X0h 3) ?_;refine Zv (gW B) (X0 rfl X2 (g.at 3)) ?_;refine Zk (gW B) (Vc (F91 _ x.phase 0 7) X5o) ?_;rintro _ _ ⟨rfl,rfl⟩;refine Zv (gW B) (X1v rfl) ?_;refine Ze (Xf rfl B rfl)<|Zm rfl ?_
  refine Zg 32 rfl (fun i=>?_) (fun i=>?_)
  ·refine Zp (gP i) ?_;refine Zp (gP i) ?_;refine Zp (gP i) ?_;refine Zp (gP i) ?_;refine Zp (gP i) ?_;refine Zp (gP i) ?_;refine Ze (X6 rfl i rfl) ?_;refine Zn fun a o=>?_;exact ⟨o.sub ⟨rfl,X1 rfl (by first|rfl|(simp only [p,A,B,i,bs];done)|simp [p,A,B,i]),trivial⟩,rfl⟩
  refine Zv (gW i) (Vd rfl Xl 5) ?_;refine Zv (gW i) (X0 rfl Xy (g.at 5)) ?_;refine Zv (gW i) (X10 rfl Xn) ?_;refine Zv (gW i) (Vd rfl X01 0) ?_;refine Zv (gW i) (X0 rfl X2 (g.at 0)) ?_;refine Zv (gW i) (X3q rfl rfl) ?_;refine Ze (Xf rfl i rfl) ?_;refine Zn fun a o=>?_;exact ⟨o.sub ⟨rfl,X1 rfl (by first|rfl|(simp only [p,A,B,i,bs];done)|simp [p,A,B,i]),trivial⟩,rfl⟩
 rintro a _ ⟨o,rfl⟩;refine b1 _ _ ?_
 refine Xg o rfl (fun I=>?_) (fun I=>?_)
 ·have q:=I
  have a7:okHd x=false:=by have h7:=I;clear a6;unfold okHd;revert h7;cases inR x.ins 1 5<;>cases inR x.vars 0 (24-x.ins)<;>cases inR x.root (-60) 60<;>cases inR x.phase 0 7<;>simp
  refine Zs o fun _ aI=>?_;refine Za rfl<|Zt aI fun a o=>?_;refine wp_ret<|X8<|X7 o (X03 o rfl rfl) ?_;exact ⟨by rw [Xel a7],D⟩
 have q:=I
 have a7:okHd x=true:=by have h7:=I;clear a6;unfold okHd;revert h7;cases inR x.ins 1 5<;>cases inR x.vars 0 (24-x.ins)<;>cases inR x.root (-60) 60<;>cases inR x.phase 0 7<;>simp
 obtain ⟨n,hn,a8⟩:=Xld a7;have b9:=X5q a8;refine wp_skip<|b0 _ _<|Zs o fun _ aJ=>?_;refine Ze (Vd rfl X01 0)<|Ze (X0 rfl X2 (g.at 0))<|Ze (Vd rfl X0n 1)<|Ze (X0 rfl X2 (g.at 1))<|Ze (X36 (k:=(n:Int)) rfl rfl hn (by omega) (by omega)) ?_;refine Zf (X4 (zs:=[vi 0]) z_3 rfl) ?_;rintro _ w2 ⟨U,rfl,aK,H,h⟩;have aC:=Nat.le_trans D.size aK;have g:=g.below H;have D:=btr D H;refine Zo (Vw [vi (n:Int)] X0l h) ?_;rintro _ w3 ⟨ho,hb⟩;have M:=h;have g:=g.only ho (Blk.ne g M rfl);have D:=Below.only D ho aC;have h:=hb;refine ZX aJ fun a o _ aL=>?_;refine Zs o fun _ aM=>?_;refine Ze (Vd rfl Xt 4)<|Ze (X0 rfl X02 (g.at 4))<|Ze (X10 rfl Xk)<|Zm rfl<|Zt aM fun a o=>?_;refine wp_block<|Xw (σ:=Nat) (fun (k:Nat) (a:Act) (w:World)=>Fr a 104 [(1,.pointer (some ⟨b4,0,none⟩)),(3,.pointer (some ⟨U,0,none⟩)),(46,.slice Ax x.ts.length cx),(47,vi (x.ts.length:Int)),(48,vi (k:Int))]∧(k≤x.ts.length)∧(okTs n x.ts k=true)∧Blk w b4 26 [vi x.ins,vi x.vars,vi x.root,vi x.phase,.slice Ax x.ts.length cx,.slice Bx x.out.length dx]∧Blk w U 3 [vi (n:Int)]∧Below w0.heap.size w0 w) (fun (k:Nat)=>x.ts.length-k) 0 ?_ ?_
 ·exact ⟨o.sb,(Nat.zero_le _),rfl,g,h,D⟩
 rintro k a w4 ⟨o,hk,aA,g,h,D⟩;refine Zs o fun _ aN=>?_;refine Ze (X1h rfl rfl)<|ZX aN fun a o _ aO=>?_
 refine Xg o rfl (fun E=>?_) (fun E=>?_)
 ·have y:=E;have E:=of_decide_eq_true E
  obtain ⟨u20,N⟩:=Xj (l:=x.ts) (k:=k) (by omega)
  have aP:x.ts.getD k tZ=u20:=by rw [List.getD_eq_getElem?_getD,N];rfl
  refine wp_skip<|aO _ _<|wp_seq_k fun _ aQ=>?_;refine wp_block<|Zs o fun _ aR=>?_;refine Zm rfl<|Zi (k:=k) (u:=u20) (enc:=encT) (l:=x.ts) trivial rfl rfl Xk X0o Xx (Q.below' D) N rfl ?_;intro bA aD;refine Ze (X04 (l:=[vi u20.m,vi u20.c]) rfl X2t aD rfl)<|Zf (X4 (zs:=[vi 0,vi 0]) X4i rfl) ?_;rintro _ w5 ⟨bB,rfl,aB,H,C⟩;have aE:=Nat.le_trans D.size aB;have aS:=(Q.below' D).away aB;have g:=g.below H;have h:=h.below H;have D:=btr D H;refine Za rfl<|Zo (Vw [vi u20.m,vi u20.c] X0o C) ?_;rintro _ w6 ⟨ho,hb⟩;have M:=C;have g:=g.only ho (Blk.ne g M rfl);have h:=h.only ho (Blk.ne h M rfl);have D:=Below.only D ho aE;have C:=hb;refine Zx aR fun a o _ aT=>?_;refine Ze (Vd rfl X09 0)<|Ze (X0 rfl X2 (C.at 0))<|Zf (Vc (Xsr _ u20.m (a6 _ (List.mem_of_getElem? N))) Xga) ?_;rintro _ _ ⟨rfl,rfl⟩;refine Za rfl<|ZX aT fun a o _ aU=>?_;refine X0i (fun a w=>Fr a 104 [(1,.pointer (some ⟨b4,0,none⟩)),(3,.pointer (some ⟨U,0,none⟩)),(46,.slice Ax x.ts.length cx),(47,vi (x.ts.length:Int)),(48,vi (k:Int)),(97,.bool (((((!(inR u20.m 1 (((2^n:Nat) : Int)-1)))||(decide (3<((szI u20.m:Nat) : Int))))||(!(inR u20.c 1 7)))||((u20.c.tmod ((2^(szI u20.m-1) : Nat) : Int)) != 0))||((decide (0<(k:Int)))&&(decide (u20.m≤((x.ts.getD (k-1) tZ).m))))))]∧Below w6.heap.size w6 w) ?_ ?_
  ·have J:Below w6.heap.size w6 w6:=Below.refl _ _
   refine Xp none (fun _=>false) mixed ?_;intro w7 H;have g:=g.below H;have h:=h.below H;have C:=C.below H;have D:=btr D H;have J:=btr J H;refine Yb o<|Yo 0 rfl (fun _=>Vd rfl X09 0)<|Ye 1 rfl (X0 rfl X2 (C.at 0))<|Ye 2 rfl (X0 rfl X2 (h.at 0))<|Yo 3 rfl (fun _=>Vx (X29 (m:=n) rfl rfl rfl (by omega)) (X39 (by omega)))<|Yo 4 rfl (fun _=>X11 rfl rfl (by omega) (by omega)) ?_;refine Y1 5<|Yz rfl trivial (Vc (F91 _ u20.m 1 (((2^n:Nat) : Int)-1)) X5o) ?_;refine Yo 6 rfl (fun _=>X1v rfl)<|Yo 7 rfl (fun _=>Xd rfl) ?_
   refine Yl 63 rfl (fun f=>?_) (fun f=>?_)
   ·refine Yp 8 rfl (gP f) ?_;refine Yp 9 rfl (gP f) ?_;refine Yo 10 rfl (fun _=>X6 rfl f rfl)<|Yo 11 rfl (fun _=>Xd rfl)<|Yp 12 rfl (gP rfl) ?_;refine Yp 13 rfl (gP rfl) ?_;refine Y1 14<|Yq rfl ⟨_,_,rfl,rfl,rfl⟩ ?_;refine Yp 15 rfl (gP rfl) ?_;refine Yo 16 rfl (fun _=>X6 rfl rfl rfl)<|Yo 17 rfl (fun _=>Xd rfl)<|Yp 18 rfl (gP rfl) ?_;refine Yp 19 rfl (gP rfl) ?_;refine Yp 20 rfl (gP rfl) ?_;refine Yp 21 rfl (gP rfl) ?_;refine Yp 22 rfl (gP rfl) ?_;refine Yp 23 rfl (gP rfl) ?_;refine Yp 24 rfl (gP rfl) ?_;refine Yo 25 rfl (fun _=>X6 rfl rfl rfl)<|Yo 26 rfl (fun _=>Xd rfl)<|Yp 27 rfl (gP rfl) ?_;refine Yp 28 rfl (gP rfl) ?_;refine Yp 29 rfl (gP rfl) ?_;refine Yp 30 rfl (gP trivial) ?_;refine Yp 31 rfl (gP trivial) ?_;refine Yp 32 rfl (gP trivial) ?_;refine Yp 33 rfl (gP trivial) ?_;refine Yp 34 rfl (gP trivial) ?_;refine Yp 35 rfl (gP trivial) ?_;refine Yp 36 rfl (gP trivial) ?_;refine Yp 37 rfl (gP trivial) ?_;refine Yp 38 rfl (gP trivial) ?_;refine Yp 39 rfl (gP trivial) ?_;refine Yp 40 rfl (gP rfl) ?_;refine Yo 41 rfl (fun _=>X6 rfl rfl rfl) ?_;refine Yd fun a o=>?_
    have G:Below w6.heap.size w6 w7:=J
    exact ⟨o.sub ⟨rfl,rfl,rfl,rfl,rfl,X1 rfl (by first|rfl|(simp only [q,y,f,bs];done)|simp [q,y,f]),trivial⟩,G⟩
   have b2:inR u20.m 1 (((2^n:Nat) : Int)-1)=true:=by have:=f;simpa using this
   have bC:=Xz.1 b2;refine Yu 8 rfl (gW f) (fun _=>Xd rfl) ?_;refine Yu 9 rfl (gW f) (fun _=>X3o rfl rfl) ?_;refine Yo 10 rfl (fun _=>Xf rfl f rfl)<|Yo 11 rfl (fun _=>Xd rfl) ?_
   refine Yl 67 rfl (fun e=>?_) (fun e=>?_)
   ·refine Yp 12 rfl (gP e) ?_;refine Yp 13 rfl (gP e) ?_;refine Y1 14<|Yq rfl ⟨_,_,rfl,rfl,e⟩ ?_;refine Yp 15 rfl (gP e) ?_;refine Yo 16 rfl (fun _=>X6 rfl e rfl)<|Yo 17 rfl (fun _=>Xd rfl)<|Yp 18 rfl (gP rfl) ?_;refine Yp 19 rfl (gP rfl) ?_;refine Yp 20 rfl (gP rfl) ?_;refine Yp 21 rfl (gP rfl) ?_;refine Yp 22 rfl (gP rfl) ?_;refine Yp 23 rfl (gP rfl) ?_;refine Yp 24 rfl (gP rfl) ?_;refine Yo 25 rfl (fun _=>X6 rfl rfl rfl)<|Yo 26 rfl (fun _=>Xd rfl)<|Yp 27 rfl (gP rfl) ?_;refine Yp 28 rfl (gP rfl) ?_;refine Yp 29 rfl (gP rfl) ?_;refine Yp 30 rfl (gP trivial) ?_;refine Yp 31 rfl (gP trivial) ?_;refine Yp 32 rfl (gP trivial) ?_;refine Yp 33 rfl (gP trivial) ?_;refine Yp 34 rfl (gP trivial) ?_;refine Yp 35 rfl (gP trivial) ?_;refine Yp 36 rfl (gP trivial) ?_;refine Yp 37 rfl (gP trivial) ?_;refine Yp 38 rfl (gP trivial) ?_;refine Yp 39 rfl (gP trivial) ?_;refine Yp 40 rfl (gP rfl) ?_;refine Yo 41 rfl (fun _=>X6 rfl rfl rfl) ?_;refine Yd fun a o=>?_
    have G:Below w6.heap.size w6 w7:=J
    exact ⟨o.sub ⟨rfl,rfl,rfl,rfl,rfl,X1 rfl (by first|rfl|(simp only [q,y,f,e,bs];done)|simp [q,y,f,e]),trivial⟩,G⟩
   have bD:szI u20.m≤3:=by have:=e;simp at this;omega
   refine Yu 12 rfl (gW e) (fun _=>Vd rfl X1c 1) ?_;refine Yv 13 rfl (gW e) (X0 rfl X2 (C.at 1)) ?_;refine Y1 14<|Yz rfl ⟨_,_,rfl,rfl,e⟩ (Vc (F91 _ u20.c 1 7) X5o) ?_;refine Yu 15 rfl (gW e) (fun _=>X1v rfl) ?_;refine Yo 16 rfl (fun _=>Xf rfl e rfl)<|Yo 17 rfl (fun _=>Xd rfl) ?_
   refine Yl 73 rfl (fun d=>?_) (fun d=>?_)
   ·refine Yp 18 rfl (gP d) ?_;refine Yp 19 rfl (gP d) ?_;refine Yp 20 rfl (gP d) ?_;refine Yp 21 rfl (gP d) ?_;refine Yp 22 rfl (gP d) ?_;refine Yp 23 rfl (gP d) ?_;refine Yp 24 rfl (gP d) ?_;refine Yo 25 rfl (fun _=>X6 rfl d rfl)<|Yo 26 rfl (fun _=>Xd rfl)<|Yp 27 rfl (gP rfl) ?_;refine Yp 28 rfl (gP rfl) ?_;refine Yp 29 rfl (gP rfl) ?_;refine Yp 30 rfl (gP trivial) ?_;refine Yp 31 rfl (gP trivial) ?_;refine Yp 32 rfl (gP trivial) ?_;refine Yp 33 rfl (gP trivial) ?_;refine Yp 34 rfl (gP trivial) ?_;refine Yp 35 rfl (gP trivial) ?_;refine Yp 36 rfl (gP trivial) ?_;refine Yp 37 rfl (gP trivial) ?_;refine Yp 38 rfl (gP trivial) ?_;refine Yp 39 rfl (gP trivial) ?_;refine Yp 40 rfl (gP rfl) ?_;refine Yo 41 rfl (fun _=>X6 rfl rfl rfl) ?_;refine Yd fun a o=>?_
    have G:Below w6.heap.size w6 w7:=J
    exact ⟨o.sub ⟨rfl,rfl,rfl,rfl,rfl,X1 rfl (by first|rfl|(simp only [q,y,f,e,d,bs];done)|simp [q,y,f,e,d]),trivial⟩,G⟩
   have bE:=X8p (a6 _ (List.mem_of_getElem? N)) (by omega)
   refine Yu 18 rfl (gW d) (fun _=>Vd rfl X1c 1) ?_;refine Yv 19 rfl (gW d) (X0 rfl X2 (C.at 1)) ?_;refine Yu 20 rfl (gW d) (fun _=>Xd rfl) ?_;refine Yu 21 rfl (gW d) (fun _=>X11 rfl rfl (by omega) (by omega)) ?_;refine Yu 22 rfl (gW d) (fun _=>Vx (X29 (m:=(szI u20.m-1)) rfl rfl (by omega) (by omega)) (X39 (by omega))) ?_;refine Yu 23 rfl (gW d) (fun _=>X5c rfl rfl (Xnr _)) ?_;refine Yu 24 rfl (gW d) (fun _=>X3q rfl rfl) ?_;refine Yo 25 rfl (fun _=>Xf rfl d rfl)<|Yo 26 rfl (fun _=>Xd rfl) ?_
   refine Yl 82 rfl (fun j=>?_) (fun j=>?_)
   ·refine Yp 27 rfl (gP j) ?_;refine Yp 28 rfl (gP j) ?_;refine Yp 29 rfl (gP j) ?_;refine Yp 30 rfl (gP trivial) ?_;refine Yp 31 rfl (gP trivial) ?_;refine Yp 32 rfl (gP trivial) ?_;refine Yp 33 rfl (gP trivial) ?_;refine Yp 34 rfl (gP trivial) ?_;refine Yp 35 rfl (gP trivial) ?_;refine Yp 36 rfl (gP trivial) ?_;refine Yp 37 rfl (gP trivial) ?_;refine Yp 38 rfl (gP trivial) ?_;refine Yp 39 rfl (gP trivial) ?_;refine Yp 40 rfl (gP j) ?_;refine Yo 41 rfl (fun _=>X6 rfl j rfl) ?_;refine Yd fun a o=>?_
    have G:Below w6.heap.size w6 w7:=J
    exact ⟨o.sub ⟨rfl,rfl,rfl,rfl,rfl,X1 rfl (by first|rfl|(simp only [q,y,f,e,d,j,bs];done)|simp [q,y,f,e,d,j]),trivial⟩,G⟩
   refine Yu 27 rfl (gW j) (fun _=>Xd rfl) ?_;refine Yu 28 rfl (gW j) (fun _=>X3o rfl rfl) ?_;refine Yu 29 rfl (gW j) (fun _=>Xd rfl) ?_
   refine Yl 85 rfl (fun b=>?_) (fun b=>?_)
   ·have bF:0<k:=by have:=b;simp at this;omega
    refine Yu 30 rfl (gW b) (fun _=>Vd rfl Xt 4) ?_;refine Yv 31 rfl (gW b) (X0 rfl X02 (g.at 4)) ?_;refine Yu 32 rfl (gW b) (fun _=>Xd rfl) ?_;refine Yu 33 rfl (gW b) (fun _=>X11 rfl rfl (by omega) (by omega)) ?_;refine Yi (k:=(k-1)) (u:=(x.ts.getD (k-1) tZ)) (enc:=encT) (l:=x.ts) 34 rfl ⟨_,_,rfl,rfl,b⟩ rfl rfl Xk X0o Xx (Q.below' D) (X80 (by omega)) (by omega) ?_;intro bG aF;refine Yu 35 rfl (gW b) (fun _=>X9k rfl X09) ?_;refine Yv 36 rfl (gW b) (X0 rfl X2 (aF.drop 0)) ?_;refine Yu 37 rfl (gW b) (fun _=>Vd rfl X09 0) ?_;refine Yv 38 rfl (gW b) (X0 rfl X2 (C.at 0)) ?_;refine Yu 39 rfl (gW b) (fun _=>Xnj rfl rfl) ?_;refine Yu 40 rfl (gW j) (fun _=>X6 rfl b rfl) ?_;refine Yo 41 rfl (fun _=>Xf rfl j rfl) ?_;refine Yd fun a o=>?_
    have G:Below w6.heap.size w6 w7:=J
    exact ⟨o.sub ⟨rfl,rfl,rfl,rfl,rfl,X1 rfl (by first|rfl|(simp only [q,y,f,e,d,j,b,bs];done)|simp [q,y,f,e,d,j,b]),trivial⟩,G⟩
   refine Yp 30 rfl (gP b) ?_;refine Yp 31 rfl (gP b) ?_;refine Yp 32 rfl (gP b) ?_;refine Yp 33 rfl (gP b) ?_;refine Yp 34 rfl (gP b) ?_;refine Yp 35 rfl (gP b) ?_;refine Yp 36 rfl (gP b) ?_;refine Yp 37 rfl (gP b) ?_;refine Yp 38 rfl (gP b) ?_;refine Yp 39 rfl (gP b) ?_;refine Yu 40 rfl (gW j) (fun _=>Xf rfl b rfl) ?_;refine Yo 41 rfl (fun _=>Xf rfl j rfl) ?_;refine Yd fun a o=>?_
   have G:Below w6.heap.size w6 w7:=J
   exact ⟨o.sub ⟨rfl,rfl,rfl,rfl,rfl,X1 rfl (by first|rfl|(simp only [q,y,f,e,d,j,b,bs];done)|simp [q,y,f,e,d,j,b]),trivial⟩,G⟩
  rintro a w8 ⟨o,H⟩;have g:=g.below H;have h:=h.below H;have D:=btr D H;refine aU _ _ ?_
  refine Xg o rfl (fun L=>?_) (fun L=>?_)
  ·have aG:=L
   have W:okTa n x.ts k=false:=by have h7:=L;rw [Xc8 aP] at h7;simpa using h7
   refine Zs o fun _ aW=>?_;refine Za rfl<|Zt aW fun a o=>?_;refine wp_ret<|Xr<|X8<|X8 ?_;refine Xr<|X8<|X7 o (X03 o rfl rfl) ?_;exact ⟨by rw [X9m hn (by omega) W],D⟩
  have aG:=L
  have W:okTa n x.ts k=true:=by have h7:=L;rw [Xc8 aP] at h7;simpa using h7
  refine wp_skip<|Xa<|aQ _ _<|Zr o ?_;refine Ze (Xm rfl rfl (by omega) (by omega))<|Zm rfl ?_;refine Zn fun a o=>?_;refine Xb ?_;exact ⟨k+1,⟨o.sb,(by omega),(Xal aA W),g,h,D⟩,(by omega)⟩
 have y:=E;have E:=of_decide_eq_false E
 have b3:k=x.ts.length:=by have:=E;omega
 subst b3
 refine wp_exit<|Xe<|Xe<|Xq ?_;refine aL _ _<|Zs o fun _ aX=>?_;refine Ze (Vd rfl Xl 5)<|Ze (X0 rfl Xy (g.at 5))<|Ze (X7n (vs:=[.pointer (some ⟨U,0,none⟩)]) rfl)<|Zf (Vc (Xs1 _ Bx dx x.out (aH.below' D).top 64 [.pointer (some ⟨U,0,none⟩)] Xof (fun x=>!okAf n x) (fun x w' hE'=>Xwc w' x n _ (h.below hE') a8) (by omega)) Xhs) ?_;rintro _ w9 ⟨rfl,H⟩;have D:=btr D H;refine Ze (X1v rfl)<|Za rfl<|Zt aX fun a o=>?_
 refine wp_ret (X7 o (X03 o rfl rfl) ?_)
 exact ⟨by rw [X7v a7 hn aA,Xhh],D⟩
theorem Xnk(w0:World)(x:Ps)(Ax:Option Addr)(cx:Nat)(aB:Rd w0 w0.heap.size 59 encT Ax x.ts)(Bx:Option Addr)(dx:Nat)(aG:Rd w0 w0.heap.size 62 encA Bx x.out)(aY:(-1000≤x.ins∧x.ins≤1000)∧-1000≤x.vars∧x.vars≤1000)(cG:x.ts.length≤100000000)(cH:x.out.length≤100000000) : Ret Tryz.prog 28 [.agg #[vi x.ins,vi x.vars,vi x.root,vi x.phase,.slice Ax x.ts.length cx,.slice Bx x.out.length dx]] w0 (fun v w=>v=.bool (validP x)∧Below w0.heap.size w0 w):=by
 refine enter Tryz.func28 rfl 124 rfl rfl ?_;intro a b
 have D:=bz w0
 refine Zs b fun _ bU=>?_;refine Zf (X1b (zs:=[vi x.ins,vi x.vars,vi x.root,vi x.phase,.slice Ax x.ts.length cx,.slice Bx x.out.length dx]) rfl rfl) ?_;rintro _ w1 ⟨b4,rfl,bW,G,p⟩;have cF:=Nat.le_trans D.size bW;have D:=btr D G;refine Za rfl<|Zx bU fun a b _ bX=>?_;refine Ze (Vd rfl X01 0)<|Ze (X0 rfl X2 (p.at 0))<|Ze (Vd rfl X0n 1)<|Ze (X0 rfl X2 (p.at 1))<|Ze (Xm rfl rfl (by omega) (by omega)) ?_;refine Za rfl<|ZX bX fun a b _ bY=>?_;refine wp_seq_k fun _ bZ=>?_;refine X0i (fun a w=>Fr a 124 [(1,.pointer (some ⟨b4,0,none⟩)),(3,vi (x.ins+x.vars)),(46,.bool (((((!(inR x.ins 1 5))||(!(inR x.vars 0 (24-x.ins))))||(!(inR x.root (-60) 60)))||(!(inR x.phase 0 7)))||((x.out.length:Int) != x.ins)))]∧w1=w) ?_ ?_
 ·refine Zr b<|Ze (Vd rfl X01 0)<|Ze (X0 rfl X2 (p.at 0))<|Zf (Vc (F85 _ x.ins 1 5) X3w) ?_;rintro _ _ ⟨rfl,rfl⟩;refine Ze (X1v rfl)<|Zm rfl ?_
  refine Zg 18 rfl (fun y=>?_) (fun y=>?_)
  ·refine Zp (gP y) ?_;refine Zp (gP y) ?_;refine Zp (gP y) ?_;refine Zp (gP y) ?_;refine Zp (gP y) ?_;refine Zp (gP y) ?_;refine Zp (gP y) ?_;refine Ze (X6 rfl y rfl)<|Zm rfl<|Zp (gP rfl) ?_;refine Zp (gP rfl) ?_;refine Zp (gP rfl) ?_;refine Zp (gP rfl) ?_;refine Ze (X6 rfl rfl rfl)<|Zm rfl<|Zp (gP rfl) ?_;refine Zp (gP rfl) ?_;refine Zp (gP rfl) ?_;refine Zp (gP rfl) ?_;refine Ze (X6 rfl rfl rfl)<|Zm rfl<|Zp (gP rfl) ?_;refine Zp (gP rfl) ?_;refine Zp (gP rfl) ?_;refine Zp (gP rfl) ?_;refine Zp (gP rfl) ?_;refine Zp (gP rfl) ?_;refine Ze (X6 rfl rfl rfl) ?_;refine Zn fun a b=>?_;exact ⟨b.sub ⟨rfl,rfl,X1 rfl (by first|rfl|(simp only [y,bs];done)|simp [y]),trivial⟩,rfl⟩
  refine Zv (gW y) (Vd rfl X0n 1) ?_;refine Zv (gW y) (X0 rfl X2 (p.at 1)) ?_;refine Zv (gW y) (Vd rfl X01 0) ?_;refine Zv (gW y) (X0 rfl X2 (p.at 0)) ?_;refine Zv (gW y) (X11 rfl rfl (by omega) (by omega)) ?_;refine Zk (gW y) (Vc (F85 _ x.vars 0 (24-x.ins)) X3w) ?_;rintro _ _ ⟨rfl,rfl⟩;refine Zv (gW y) (X1v rfl) ?_;refine Ze (Xf rfl y rfl)<|Zm rfl ?_
  refine Zg 27 rfl (fun E=>?_) (fun E=>?_)
  ·refine Zp (gP E) ?_;refine Zp (gP E) ?_;refine Zp (gP E) ?_;refine Zp (gP E) ?_;refine Ze (X6 rfl E rfl)<|Zm rfl<|Zp (gP rfl) ?_;refine Zp (gP rfl) ?_;refine Zp (gP rfl) ?_;refine Zp (gP rfl) ?_;refine Ze (X6 rfl rfl rfl)<|Zm rfl<|Zp (gP rfl) ?_;refine Zp (gP rfl) ?_;refine Zp (gP rfl) ?_;refine Zp (gP rfl) ?_;refine Zp (gP rfl) ?_;refine Zp (gP rfl) ?_;refine Ze (X6 rfl rfl rfl) ?_;refine Zn fun a b=>?_;exact ⟨b.sub ⟨rfl,rfl,X1 rfl (by first|rfl|(simp only [y,E,bs];done)|simp [y,E]),trivial⟩,rfl⟩
  refine Zv (gW E) (Vd rfl X0c 2) ?_;refine Zv (gW E) (X0 rfl X2 (p.at 2)) ?_;refine Zk (gW E) (Vc (F85 _ x.root (-60) 60) X3w) ?_;rintro _ _ ⟨rfl,rfl⟩;refine Zv (gW E) (X1v rfl) ?_;refine Ze (Xf rfl E rfl)<|Zm rfl ?_
  refine Zg 33 rfl (fun A=>?_) (fun A=>?_)
  ·refine Zp (gP A) ?_;refine Zp (gP A) ?_;refine Zp (gP A) ?_;refine Zp (gP A) ?_;refine Ze (X6 rfl A rfl)<|Zm rfl<|Zp (gP rfl) ?_;refine Zp (gP rfl) ?_;refine Zp (gP rfl) ?_;refine Zp (gP rfl) ?_;refine Zp (gP rfl) ?_;refine Zp (gP rfl) ?_;refine Ze (X6 rfl rfl rfl) ?_;refine Zn fun a b=>?_;exact ⟨b.sub ⟨rfl,rfl,X1 rfl (by first|rfl|(simp only [y,E,A,bs];done)|simp [y,E,A]),trivial⟩,rfl⟩
  refine Zv (gW A) (Vd rfl X0h 3) ?_;refine Zv (gW A) (X0 rfl X2 (p.at 3)) ?_;refine Zk (gW A) (Vc (F85 _ x.phase 0 7) X3w) ?_;rintro _ _ ⟨rfl,rfl⟩;refine Zv (gW A) (X1v rfl) ?_;refine Ze (Xf rfl A rfl)<|Zm rfl ?_
  refine Zg 39 rfl (fun i=>?_) (fun i=>?_)
  ·refine Zp (gP i) ?_;refine Zp (gP i) ?_;refine Zp (gP i) ?_;refine Zp (gP i) ?_;refine Zp (gP i) ?_;refine Zp (gP i) ?_;refine Ze (X6 rfl i rfl) ?_;refine Zn fun a b=>?_;exact ⟨b.sub ⟨rfl,rfl,X1 rfl (by first|rfl|(simp only [y,E,A,i,bs];done)|simp [y,E,A,i]),trivial⟩,rfl⟩
  refine Zv (gW i) (Vd rfl Xl 5) ?_;refine Zv (gW i) (X0 rfl Xy (p.at 5)) ?_;refine Zv (gW i) (X10 rfl Xn) ?_;refine Zv (gW i) (Vd rfl X01 0) ?_;refine Zv (gW i) (X0 rfl X2 (p.at 0)) ?_;refine Zv (gW i) (X3q rfl rfl) ?_;refine Ze (Xf rfl i rfl) ?_;refine Zn fun a b=>?_;exact ⟨b.sub ⟨rfl,rfl,X1 rfl (by first|rfl|(simp only [y,E,A,i,bs];done)|simp [y,E,A,i]),trivial⟩,rfl⟩
 rintro a _ ⟨b,rfl⟩;refine bZ _ _ ?_
 refine Xg b rfl (fun a6=>?_) (fun a6=>?_)
 ·have f:=a6
  have aC:okHd x=false:=by have h7:=a6;clear aY;unfold okHd;revert h7;cases inR x.ins 1 5<;>cases inR x.vars 0 (24-x.ins)<;>cases inR x.root (-60) 60<;>cases inR x.phase 0 7<;>simp
  refine Zs b fun _ aZ=>?_;refine Za rfl<|Zt aZ fun a b=>?_;refine wp_ret<|X8<|X7 b (X03 b rfl rfl) ?_;exact ⟨by rw [Xel aC],D⟩
 have f:=a6
 have aC:okHd x=true:=by have h7:=a6;clear aY;unfold okHd;revert h7;cases inR x.ins 1 5<;>cases inR x.vars 0 (24-x.ins)<;>cases inR x.root (-60) 60<;>cases inR x.phase 0 7<;>simp
 obtain ⟨n,hn,b0⟩:=Xld aC;have cJ:=X5q b0;refine wp_skip<|bY _ _<|wp_seq_k fun _ b1=>?_;refine Zs b fun _ b2=>?_;refine Ze (Vd rfl Xt 4)<|Ze (X0 rfl X02 (p.at 4))<|Ze (X10 rfl Xk)<|Zm rfl<|Zt b2 fun a b=>?_;refine wp_block<|Xw (σ:=Nat) (fun (k:Nat) (a:Act) (w:World)=>Fr a 124 [(1,.pointer (some ⟨b4,0,none⟩)),(3,vi (x.ins+x.vars)),(48,.slice Ax x.ts.length cx),(49,vi (x.ts.length:Int)),(50,vi (k:Int))]∧(k≤x.ts.length)∧(okTs n x.ts k=true)∧Blk w b4 26 [vi x.ins,vi x.vars,vi x.root,vi x.phase,.slice Ax x.ts.length cx,.slice Bx x.out.length dx]∧Below w0.heap.size w0 w) (fun (k:Nat)=>x.ts.length-k) 0 ?_ ?_
 ·exact ⟨b.sb,(Nat.zero_le _),rfl,p,D⟩
 rintro k a w2 ⟨b,hk,aD,p,D⟩;refine Zs b fun _ b3=>?_;refine Ze (X1h rfl rfl)<|ZX b3 fun a b _ b5=>?_
 refine Xg b rfl (fun J=>?_) (fun J=>?_)
 ·have g:=J;have J:=of_decide_eq_true J
  obtain ⟨u19,aH⟩:=Xj (l:=x.ts) (k:=k) (by omega)
  have b6:x.ts.getD k tZ=u19:=by rw [List.getD_eq_getElem?_getD,aH];rfl
  refine wp_skip<|b5 _ _<|wp_seq_k fun _ b7=>?_;refine wp_block<|Zs b fun _ b8=>?_;refine Zm rfl<|Zi (k:=k) (u:=u19) (enc:=encT) (l:=x.ts) trivial rfl rfl Xk X0o Xx (aB.below' D) aH rfl ?_;intro cK aO;refine Ze (X04 (l:=[vi u19.m,vi u19.c]) rfl X2t aO rfl)<|Zf (X4 (zs:=[vi 0,vi 0]) X4i rfl) ?_;rintro _ w3 ⟨c4,rfl,aI,G,B⟩;have aP:=Nat.le_trans D.size aI;have b9:=(aB.below' D).away aI;have p:=p.below G;have D:=btr D G;refine Za rfl<|Zo (Vw [vi u19.m,vi u19.c] X0o B) ?_;rintro _ w4 ⟨ho,hb⟩;have aJ:=B;have p:=p.only ho (Blk.ne p aJ rfl);have D:=Below.only D ho aP;have B:=hb;refine ZX b8 fun a b _ bA=>?_;refine wp_seq_k fun _ bB=>?_;refine X0i (fun a w=>Fr a 124 [(1,.pointer (some ⟨b4,0,none⟩)),(3,vi (x.ins+x.vars)),(5,.pointer (some ⟨c4,0,none⟩)),(48,.slice Ax x.ts.length cx),(49,vi (x.ts.length:Int)),(50,vi (k:Int)),(84,.bool (((!(inR u19.m 1 (((2^n:Nat) : Int)-1)))||(!(inR u19.c 1 7)))||((decide (0<(k:Int)))&&(decide (u19.m≤((x.ts.getD (k-1) tZ).m))))))]∧Below w4.heap.size w4 w) ?_ ?_
  ·have H:Below w4.heap.size w4 w4:=Below.refl _ _
   refine Xp none (fun _=>false) mixed ?_;intro w5 G;have p:=p.below G;have B:=B.below G;have D:=btr D G;have H:=btr H G;refine Yb b<|Yo 0 rfl (fun _=>Vd rfl X09 0)<|Ye 1 rfl (X0 rfl X2 (B.at 0))<|Yo 2 rfl (fun _=>Xd rfl)<|Yo 3 rfl (fun _=>X2x (m:=n) Tryz.underlying3 Tryz.underlying109 rfl hn (by omega))<|Yo 4 rfl (fun _=>Vx (X29 (m:=n) rfl rfl rfl (by omega)) (X39 (by omega))) ?_;refine Yo 5 rfl (fun _=>X11 rfl rfl (by omega) (by omega))<|Y1 6 ?_;refine Yz rfl trivial (Vc (F85 _ u19.m 1 (((2^n:Nat) : Int)-1)) X3w) ?_;refine Yo 7 rfl (fun _=>X1v rfl)<|Yo 8 rfl (fun _=>Xd rfl) ?_
   refine Yl 63 rfl (fun j=>?_) (fun j=>?_)
   ·refine Yp 9 rfl (gP j) ?_;refine Yp 10 rfl (gP j) ?_;refine Y1 11<|Yq rfl ⟨_,_,rfl,rfl,j⟩ ?_;refine Yp 12 rfl (gP j) ?_;refine Yo 13 rfl (fun _=>X6 rfl j rfl)<|Yo 14 rfl (fun _=>Xd rfl)<|Yp 15 rfl (gP rfl) ?_;refine Yp 16 rfl (gP rfl) ?_;refine Yp 17 rfl (gP rfl) ?_;refine Yp 18 rfl (gP trivial) ?_;refine Yp 19 rfl (gP trivial) ?_;refine Yp 20 rfl (gP trivial) ?_;refine Yp 21 rfl (gP trivial) ?_;refine Yp 22 rfl (gP trivial) ?_;refine Yp 23 rfl (gP trivial) ?_;refine Yp 24 rfl (gP trivial) ?_;refine Yp 25 rfl (gP trivial) ?_;refine Yp 26 rfl (gP trivial) ?_;refine Yp 27 rfl (gP trivial) ?_;refine Yp 28 rfl (gP rfl) ?_;refine Yo 29 rfl (fun _=>X6 rfl rfl rfl) ?_;refine Yd fun a b=>?_
    have M:Below w4.heap.size w4 w5:=H
    exact ⟨b.sub ⟨rfl,rfl,rfl,rfl,rfl,rfl,X1 rfl (by first|rfl|(simp only [f,g,j,bs];done)|simp [f,g,j]),trivial⟩,M⟩
   refine Yu 9 rfl (gW j) (fun _=>Vd rfl X1c 1) ?_;refine Yv 10 rfl (gW j) (X0 rfl X2 (B.at 1)) ?_;refine Y1 11<|Yz rfl ⟨_,_,rfl,rfl,j⟩ (Vc (F85 _ u19.c 1 7) X3w) ?_;refine Yu 12 rfl (gW j) (fun _=>X1v rfl) ?_;refine Yo 13 rfl (fun _=>Xf rfl j rfl)<|Yo 14 rfl (fun _=>Xd rfl) ?_
   refine Yl 69 rfl (fun o=>?_) (fun o=>?_)
   ·refine Yp 15 rfl (gP o) ?_;refine Yp 16 rfl (gP o) ?_;refine Yp 17 rfl (gP o) ?_;refine Yp 18 rfl (gP trivial) ?_;refine Yp 19 rfl (gP trivial) ?_;refine Yp 20 rfl (gP trivial) ?_;refine Yp 21 rfl (gP trivial) ?_;refine Yp 22 rfl (gP trivial) ?_;refine Yp 23 rfl (gP trivial) ?_;refine Yp 24 rfl (gP trivial) ?_;refine Yp 25 rfl (gP trivial) ?_;refine Yp 26 rfl (gP trivial) ?_;refine Yp 27 rfl (gP trivial) ?_;refine Yp 28 rfl (gP o) ?_;refine Yo 29 rfl (fun _=>X6 rfl o rfl) ?_;refine Yd fun a b=>?_
    have M:Below w4.heap.size w4 w5:=H
    exact ⟨b.sub ⟨rfl,rfl,rfl,rfl,rfl,rfl,X1 rfl (by first|rfl|(simp only [f,g,j,o,bs];done)|simp [f,g,j,o]),trivial⟩,M⟩
   refine Yu 15 rfl (gW o) (fun _=>Xd rfl) ?_;refine Yu 16 rfl (gW o) (fun _=>X3o rfl rfl) ?_;refine Yu 17 rfl (gW o) (fun _=>Xd rfl) ?_
   refine Yl 72 rfl (fun d=>?_) (fun d=>?_)
   ·have cL:0<k:=by have:=d;simp at this;omega
    refine Yu 18 rfl (gW d) (fun _=>Vd rfl Xt 4) ?_;refine Yv 19 rfl (gW d) (X0 rfl X02 (p.at 4)) ?_;refine Yu 20 rfl (gW d) (fun _=>Xd rfl) ?_;refine Yu 21 rfl (gW d) (fun _=>X11 rfl rfl (by omega) (by omega)) ?_;refine Yi (k:=(k-1)) (u:=(x.ts.getD (k-1) tZ)) (enc:=encT) (l:=x.ts) 22 rfl ⟨_,_,rfl,rfl,d⟩ rfl rfl Xk X0o Xx (aB.below' D) (X80 (by omega)) (by omega) ?_;intro cM aQ;refine Yu 23 rfl (gW d) (fun _=>X9k rfl X09) ?_;refine Yv 24 rfl (gW d) (X0 rfl X2 (aQ.drop 0)) ?_;refine Yu 25 rfl (gW d) (fun _=>Vd rfl X09 0) ?_;refine Yv 26 rfl (gW d) (X0 rfl X2 (B.at 0)) ?_;refine Yu 27 rfl (gW d) (fun _=>Xnj rfl rfl) ?_;refine Yu 28 rfl (gW o) (fun _=>X6 rfl d rfl) ?_;refine Yo 29 rfl (fun _=>Xf rfl o rfl) ?_;refine Yd fun a b=>?_
    have M:Below w4.heap.size w4 w5:=H
    exact ⟨b.sub ⟨rfl,rfl,rfl,rfl,rfl,rfl,X1 rfl (by first|rfl|(simp only [f,g,j,o,d,bs];done)|simp [f,g,j,o,d]),trivial⟩,M⟩
   refine Yp 18 rfl (gP d) ?_;refine Yp 19 rfl (gP d) ?_;refine Yp 20 rfl (gP d) ?_;refine Yp 21 rfl (gP d) ?_;refine Yp 22 rfl (gP d) ?_;refine Yp 23 rfl (gP d) ?_;refine Yp 24 rfl (gP d) ?_;refine Yp 25 rfl (gP d) ?_;refine Yp 26 rfl (gP d) ?_;refine Yp 27 rfl (gP d) ?_;refine Yu 28 rfl (gW o) (fun _=>Xf rfl d rfl) ?_;refine Yo 29 rfl (fun _=>Xf rfl o rfl) ?_;refine Yd fun a b=>?_
   have M:Below w4.heap.size w4 w5:=H
   exact ⟨b.sub ⟨rfl,rfl,rfl,rfl,rfl,rfl,X1 rfl (by first|rfl|(simp only [f,g,j,o,d,bs];done)|simp [f,g,j,o,d]),trivial⟩,M⟩
  rintro a w6 ⟨b,G⟩;have p:=p.below G;have B:=B.below G;have D:=btr D G;refine bB _ _ ?_
  refine Xg b rfl (fun W=>?_) (fun W=>?_)
  ·have N:=W
   have I:okTa n x.ts k=false:=Xte b6 W
   refine Zs b fun _ bC=>?_;refine Za rfl<|Zt bC fun a b=>?_;refine wp_ret<|X8<|Xr<|X8 ?_;refine X8<|Xr<|X8<|X7 b (X03 b rfl rfl) ?_;exact ⟨by rw [X9m hn (by omega) I],D⟩
  have N:=W;have bD:=Xtn b6 W
  have c5:inR u19.m 1 (((2^n:Nat) : Int)-1)=true:=by have h7:=W;revert h7;cases inR u19.m 1 (((2^n:Nat) : Int)-1)<;>simp
  have cN:=Xz.1 c5
  have bE:Mk u19.m:=⟨by omega,by omega⟩
  refine wp_skip<|bA _ _<|Zs b fun _ bF=>?_;refine Ze (Vd rfl X09 0)<|Ze (X0 rfl X2 (B.at 0))<|Zf (Vc (X4h _ u19.m bE.b62) X3g) ?_;rintro _ w7 ⟨cO,cP,rfl,aK,G⟩;have aK:=aK.lower D.size;have p:=p.below G;have B:=B.below G;have D:=btr D G;refine Ze (Vx (X10 rfl X00) (X8n _))<|Za rfl<|ZX bF fun a b _ bG=>?_;refine X0i (fun a w=>Fr a 124 [(1,.pointer (some ⟨b4,0,none⟩)),(3,vi (x.ins+x.vars)),(48,.slice Ax x.ts.length cx),(49,vi (x.ts.length:Int)),(50,vi (k:Int)),(100,.bool ((decide (3<((szI u19.m:Nat) : Int)))||((u19.c.tmod ((2^(szI u19.m-1) : Nat) : Int)) != 0)))]∧Below w7.heap.size w7 w) ?_ ?_
  ·have H:Below w7.heap.size w7 w7:=Below.refl _ _
   refine Xp none (fun _=>false) mixed ?_;intro w8 G;have B:=B.below G;have D:=btr D G;have H:=btr H G;refine Yb b<|Yo 0 rfl (fun _=>Xd rfl)<|Yo 1 rfl (fun _=>X3o rfl rfl)<|Yo 2 rfl (fun _=>Xd rfl) ?_
   refine Yl 91 rfl (fun e=>?_) (fun e=>?_)
   ·refine Yp 3 rfl (gP e) ?_;refine Yp 4 rfl (gP e) ?_;refine Yp 6 rfl (gP e) ?_;refine Y1 5<|Yq rfl ⟨_,_,rfl,rfl,e⟩ ?_;refine Yp 7 rfl (gP e) ?_;refine Yp 8 rfl (gP e) ?_;refine Yp 9 rfl (gP e) ?_;refine Yp 10 rfl (gP e) ?_;refine Yo 11 rfl (fun _=>X6 rfl e rfl) ?_;refine Yd fun a b=>?_
    have M:Below w7.heap.size w7 w8:=H
    exact ⟨b.sub ⟨rfl,rfl,rfl,rfl,rfl,X1 rfl (by first|rfl|(simp only [f,g,N,e,bs];done)|simp [f,g,N,e]),trivial⟩,M⟩
   have c6:szI u19.m≤3:=by have:=e;simp at this;omega
   refine Yu 3 rfl (gW e) (fun _=>Vd rfl X1c 1) ?_;refine Yv 4 rfl (gW e) (X0 rfl X2 (B.at 1)) ?_;refine Yu 6 rfl (gW e) (fun _=>Xd rfl) ?_;refine Y1 5<|Yk rfl ⟨_,_,rfl,rfl,e⟩ (X5 (k:=4) (vs:=[vi 1,vi 1,vi 2,vi 4]) (zs:=[vi 1,vi 1,vi 2,vi 4]) rfl X00 X32 rfl rfl) (fun _ _ ⟨_,_,_,h,_⟩=>h) ?_;rintro _ w9 ⟨cQ,rfl,aL,G,aM⟩;have cA:=Nat.le_trans D.size aL;have cC:=Nat.le_trans H.size aL;have D:=btr D G;have H:=btr H G;refine Yi (k:=(szI u19.m)) (u:=((2^(szI u19.m-1) : Nat) : Int)) (enc:=encI) (l:=[1,1,2,4]) 7 rfl ⟨_,_,rfl,rfl,e⟩ rfl rfl X00 X0l X05 (Rd.of_blk aM rfl _ aM.lt) (Xx9 c6) rfl ?_;intro cR aR;refine Yv 8 rfl (gW e) (X0 rfl X2 aR) ?_;refine Yu 9 rfl (gW e) (fun _=>X5c rfl rfl (Xnr _)) ?_;refine Yu 10 rfl (gW e) (fun _=>X3q rfl rfl) ?_;refine Yo 11 rfl (fun _=>Xf rfl e rfl) ?_;refine Yd fun a b=>?_
   have M:Below w7.heap.size w7 w9:=H
   exact ⟨b.sub ⟨rfl,rfl,rfl,rfl,rfl,X1 rfl (by first|rfl|(simp only [f,g,N,e,bs];done)|simp [f,g,N,e]),trivial⟩,M⟩
  rintro a cS ⟨b,G⟩;have p:=p.below G;have D:=btr D G;refine bG _ _ ?_
  refine Xg b rfl (fun a7=>?_) (fun a7=>?_)
  ·have aS:=a7
   have I:okTa n x.ts k=false:=by have h7:=a7;rw [bD] at h7;simpa using h7
   refine Zs b fun _ bH=>?_;refine Za rfl<|Zt bH fun a b=>?_;refine wp_ret<|Xr<|X8<|X8 ?_;refine Xr<|X8<|X7 b (X03 b rfl rfl) ?_;exact ⟨by rw [X9m hn (by omega) I],D⟩
  have aS:=a7
  have I:okTa n x.ts k=true:=by have h7:=a7;rw [bD] at h7;simpa using h7
  refine wp_skip<|Xa<|b7 _ _<|Zr b ?_;refine Ze (Xm rfl rfl (by omega) (by omega))<|Zm rfl ?_;refine Zn fun a b=>?_;refine Xb ?_;exact ⟨k+1,⟨b.sb,(by omega),(Xal aD I),p,D⟩,(by omega)⟩
 have g:=J;have J:=of_decide_eq_false J
 have cD:k=x.ts.length:=by have:=J;omega
 subst cD
 refine wp_exit<|Xe<|Xe<|Xq ?_;refine b1 _ _<|wp_seq_k fun _ bJ=>?_;refine Zs b fun _ bK=>?_;refine Ze (Vd rfl Xl 5)<|Ze (X0 rfl Xy (p.at 5))<|Ze (X10 rfl Xn)<|Zm rfl<|Zt bK fun a b=>?_;refine wp_block<|Xw (σ:=Nat) (fun (q:Nat) (a:Act) (w:World)=>Fr a 124 [(3,vi (x.ins+x.vars)),(103,.slice Bx x.out.length dx),(104,vi (x.out.length:Int)),(105,vi (q:Int))]∧(q≤x.out.length)∧((x.out.take q).all (okAf n)=true)∧Below w0.heap.size w0 w) (fun (q:Nat)=>x.out.length-q) 0 ?_ ?_
 ·exact ⟨b.sb,(Nat.zero_le _),(by simp),D⟩
 rintro q a cU ⟨b,hq,aE,D⟩;refine Zs b fun _ bL=>?_;refine Ze (X1h rfl rfl)<|ZX bL fun a b _ bM=>?_
 refine Xg b rfl (fun L=>?_) (fun L=>?_)
 ·have Q:=L;have L:=of_decide_eq_true L
  obtain ⟨U,aF⟩:=Xj (l:=x.out) (k:=q) (by omega)
  refine wp_skip<|bM _ _<|wp_seq_k fun _ bN=>?_;refine wp_block<|Zs b fun _ bO=>?_;refine Zi (k:=q) (u:=U) (enc:=encA) (l:=x.out) trivial rfl rfl Xn Xu X06 (aG.below' D) aF rfl ?_;intro cV aT;refine Ze (X04 (l:=[vi U.m,vi U.t]) rfl X08 aT rfl)<|Zf (X4 (zs:=[vi 0,vi 0]) X0v rfl) ?_;rintro _ cW ⟨cX,rfl,aN,G,a8⟩;have aU:=Nat.le_trans D.size aN;have bP:=(aG.below' D).away aN;have D:=btr D G;refine Zo (Vw [vi U.m,vi U.t] Xu a8) ?_;rintro _ cE ⟨ho,hb⟩;have aJ:=a8;have D:=Below.only D ho aU;have a8:=hb;refine ZX bO fun a b _ bR=>?_;refine X0i (fun a w=>Fr a 124 [(3,vi (x.ins+x.vars)),(103,.slice Bx x.out.length dx),(104,vi (x.out.length:Int)),(105,vi (q:Int)),(122,.bool ((!(inR U.m 0 (((2^n:Nat) : Int)-1)))||(!(inR U.t 0 1))))]∧cE=w) ?_ ?_
  ·refine Zr b<|Ze (Vd rfl X0b 0)<|Ze (X0 rfl X2 (a8.at 0))<|Zm rfl<|Ze (X2x (m:=n) Tryz.underlying3 Tryz.underlying109 rfl hn (by omega))<|Ze (Vx (X29 (m:=n) rfl rfl rfl (by omega)) (X39 (by omega))) ?_;refine Ze (X11 rfl rfl (by omega) (by omega))<|Zf (Vc (F85 _ U.m 0 (((2^n:Nat) : Int)-1)) X3w) ?_;rintro _ _ ⟨rfl,rfl⟩;refine Ze (X1v rfl)<|Zm rfl ?_
   refine Zg 117 rfl (fun C=>?_) (fun C=>?_)
   ·refine Zp (gP C) ?_;refine Zp (gP C) ?_;refine Zp (gP C) ?_;refine Zp (gP C) ?_;refine Ze (X6 rfl C rfl) ?_;refine Zn fun a b=>?_;exact ⟨b.sub ⟨rfl,rfl,rfl,rfl,X1 rfl (by first|rfl|(simp only [f,g,Q,C,bs];done)|simp [f,g,Q,C]),trivial⟩,rfl⟩
   refine Zv (gW C) (Vd rfl X0t 1) ?_;refine Zv (gW C) (X0 rfl X2 (a8.at 1)) ?_;refine Zk (gW C) (Vc (F85 _ U.t 0 1) X3w) ?_;rintro _ _ ⟨rfl,rfl⟩;refine Zv (gW C) (X1v rfl) ?_;refine Ze (Xf rfl C rfl) ?_;refine Zn fun a b=>?_;exact ⟨b.sub ⟨rfl,rfl,rfl,rfl,X1 rfl (by first|rfl|(simp only [f,g,Q,C,bs];done)|simp [f,g,Q,C]),trivial⟩,rfl⟩
  rintro a _ ⟨b,rfl⟩;refine bR _ _ ?_
  refine Xg b rfl (fun aA=>?_) (fun aA=>?_)
  ·have aW:=aA
   have I:okAf n U=false:=by have h7:=aA;rw [Xll] at h7;simpa using h7
   refine Zs b fun _ bS=>?_;refine Za rfl<|Zt bS fun a b=>?_;refine wp_ret<|Xr<|X8<|X8 ?_;refine Xr<|X8<|X7 b (X03 b rfl rfl) ?_;exact ⟨by rw [X7v aC hn aD,Xod aF I],D⟩
  have aW:=aA
  have I:okAf n U=true:=by have h7:=aA;rw [Xll] at h7;simpa using h7
  refine wp_skip<|Xa<|bN _ _<|Zr b ?_;refine Ze (Xm rfl rfl (by omega) (by omega))<|Zm rfl ?_;refine Zn fun a b=>?_;refine Xb ?_;exact ⟨q+1,⟨b.sb,(by omega),(X5u aE aF I),D⟩,(by omega)⟩
 have Q:=L;have L:=of_decide_eq_false L
 have aX:x.out.all (okAf n)=true:=X4r aE (by have:=L;omega)
 refine wp_exit<|Xe<|Xe<|Xq ?_;refine bJ _ _<|Zs b fun _ bT=>?_;refine Za rfl<|Zt bT fun a b=>?_
 refine wp_ret (X7 b (X03 b rfl rfl) ?_)
 exact ⟨by rw [X7v aC hn aD,aX],D⟩
theorem Xnn(w0:World)(m:Int)(j:Nat)(hm:Mk m)(hv:j<24) : Ret Tryz.prog 87 [vi m,vi (j:Int)] w0 (fun v w=>v=vi (drI j m)∧Below w0.heap.size w0 w):=by
 have a8:=X5q (show j≤24 by omega)
 refine enter Tryz.func87 rfl 17 rfl rfl ?_;intro a hf
 have hW:=bz w0
 refine Zs hf fun _ a6=>?_;refine Za rfl<|ZX a6 fun a hf _ a7=>?_;refine Xp none (fun _=>false) mixed ?_;intro w1 hE;have hW:=btr hW hE;refine Yb hf<|Yo 0 rfl (fun _=>Xd rfl)<|Yo 1 rfl (fun _=>Xd rfl)<|Yo 2 rfl (fun _=>Vx (X29 (m:=j) rfl rfl rfl (by omega)) (X39 (by omega)))<|Yo 3 rfl (fun _=>X11 rfl rfl (by omega) (by omega))<|Yo 4 rfl (fun _=>X5b rfl rfl) ?_;refine Yo 5 rfl (fun _=>Xd rfl)<|Yo 6 rfl (fun _=>Xd rfl)<|Yo 7 rfl (fun _=>X36 (k:=((j+1:Nat) : Int)) rfl rfl rfl (by omega) (by omega))<|Yo 8 rfl (fun _=>X5d (m:=(j+1)) rfl rfl rfl (by omega))<|Yo 9 rfl (fun _=>Xd rfl) ?_;refine Yo 10 rfl (fun _=>X29 (m:=j) rfl rfl rfl (by omega))<|Yo 11 rfl (fun _=>Vx (Vor rfl rfl) (Xcf hm hv))<|Yo 12 rfl (fun _=>X31 rfl) ?_;refine Yd fun a hf=>?_;refine a7 _ _ ?_
 refine wp_ret (X7 hf (X03 hf rfl rfl) ?_)
 exact ⟨rfl,hW⟩
theorem Xaj(w0:World)(m:Int)(j:Nat)(hm:Mk m)(hv:j<24) : Ret Tryz.prog 118 [vi m,vi (j:Int)] w0 (fun v w=>v=vi (drI j m)∧w0=w):=by
 have a8:=X5q (show j≤24 by omega)
 refine enter Tryz.func118 rfl 20 rfl rfl ?_;intro a hf
 have hW:=bz w0
 refine Zs hf fun _ a6=>?_;refine Za rfl<|Zx a6 fun a hf _ a7=>?_;refine Zm rfl<|Zm rfl<|Ze (X2x (m:=j) Tryz.underlying3 Tryz.underlying109 rfl rfl (by omega))<|Ze (Vx (X29 (m:=j) rfl rfl rfl (by omega)) (X39 (by omega)))<|Ze (X11 rfl rfl (by omega) (by omega)) ?_;refine Ze (X5b rfl rfl)<|Zm rfl<|Zm rfl<|Ze (X36 (k:=((j+1:Nat) : Int)) rfl rfl rfl (by omega) (by omega))<|Ze (X2x (m:=(j+1)) Tryz.underlying3 Tryz.underlying109 rfl rfl (by omega)) ?_;refine Ze (X5d (m:=(j+1)) rfl rfl rfl (by omega))<|Zm rfl<|Ze (X2x (m:=j) Tryz.underlying3 Tryz.underlying109 rfl rfl (by omega))<|Ze (X29 (m:=j) rfl rfl rfl (by omega))<|Ze (Vx (Vor rfl rfl) (Xcf hm hv)) ?_;refine Za rfl<|Zt a7 fun a hf=>?_
 refine wp_ret (X7 hf (X03 hf rfl rfl) ?_)
 exact ⟨rfl,rfl⟩
theorem Xmb(M:World)(p:Ps)(Ap:Option Addr)(cp:Nat)(aB:Rd M M.heap.size 59 encT Ap p.ts)(Bp:Option Addr)(dp:Nat)(aC:Rd M M.heap.size 62 encA Bp p.out)(j:Nat)(bY:∀ t ∈ p.ts,Mk t.m)(bZ:∀ a ∈ p.out,Mk a.m)(hv:j<24)(cK:-1000≤p.vars∧p.vars≤1000)(cL:p.ts.length≤100000000)(cM:p.out.length≤100000000) : Ret Tryz.prog 85 [.agg #[vi p.ins,vi p.vars,vi p.root,vi p.phase,.slice Ap p.ts.length cp,.slice Bp p.out.length dp],vi (j:Int)] M (fun v w=>∃ A9 c9 B9 d9,v=psV A9 c9 B9 d9 (woP p j)∧Rd w w.heap.size 59 encT A9 (woP p j).ts∧Rd w w.heap.size 62 encA B9 (woP p j).out∧Below M.heap.size M w):=by
 refine enter Tryz.func85 rfl 58 rfl rfl ?_;intro a D
 have g:=bz M
 refine Zs D fun _ c4=>?_;refine Zf (X1b (zs:=[vi p.ins,vi p.vars,vi p.root,vi p.phase,.slice Ap p.ts.length cp,.slice Bp p.out.length dp]) rfl rfl) ?_;rintro _ w1 ⟨b4,rfl,c5,i,f⟩;have cJ:=Nat.le_trans g.size c5;have g:=btr g i;refine Zf (X4 (zs:=[vi 0,vi 0,vi 0,vi 0,.slice none 0 0,.slice none 0 0]) X0f rfl) ?_;rintro _ w2 ⟨b7,rfl,c6,i,e⟩
 have bX:b4≠b7:=by have:=f.lt;omega
 have b6:=Nat.le_trans g.size c6;have f:=f.below i;have g:=btr g i;refine Zx c4 fun a D _ cA=>?_;refine Ze (Vn X3 f)<|Zf (X4 (zs:=[vi 0,vi 0,vi 0,vi 0,.slice none 0 0,.slice none 0 0]) X0f rfl) ?_;rintro _ w3 ⟨b11,rfl,b8,i,b⟩
 have b9:b4≠b11:=by have:=f.lt;omega
 have bA:b7≠b11:=by have:=e.lt;omega
 have G:=Nat.le_trans g.size b8;have f:=f.below i;have e:=e.below i;have g:=btr g i;refine Zo (Vw [vi p.ins,vi p.vars,vi p.root,vi p.phase,.slice Ap p.ts.length cp,.slice Bp p.out.length dp] Xi b) ?_;rintro _ w4 ⟨A,U⟩;have n:=b;have f:=f.only A (by omega);have e:=e.only A (by omega);have g:=Below.only g A G;have b:=U;refine Zx cA fun a D _ bB=>?_;refine Ze (Vd rfl X0n 1)<|Ze (X0 rfl X2 (b.at 1))<|Ze (X11 rfl rfl (by omega) (by omega))<|Ze (Vd rfl X0n 1)<|Zo (Vu (vs:=[vi (p.vars-1)]) (l':=[vi p.ins,vi (p.vars-1),vi p.root,vi p.phase,.slice Ap p.ts.length cp,.slice Bp p.out.length dp]) rfl rfl X0l b) ?_;rintro _ w5 ⟨A,U⟩;have n:=b;have f:=f.only A (by omega);have e:=e.only A (by omega);have g:=Below.only g A G;have b:=U;refine Zx bB fun a D _ bC=>?_;refine Ze (Vd rfl Xt 4)<|Zo (Vu (vs:=[.slice none 0 0]) (l':=[vi p.ins,vi (p.vars-1),vi p.root,vi p.phase,.slice none 0 0,.slice Bp p.out.length dp]) rfl rfl X1o b) ?_;rintro _ w6 ⟨A,U⟩;have n:=b;have f:=f.only A (by omega);have e:=e.only A (by omega);have g:=Below.only g A G;have b:=U;refine Ze (Vd rfl Xl 5)<|Zo (Vu (vs:=[.slice none 0 0]) (l':=[vi p.ins,vi (p.vars-1),vi p.root,vi p.phase,.slice none 0 0,.slice none 0 0]) rfl rfl X2s b) ?_;rintro _ w7 ⟨A,U⟩;have n:=b;have f:=f.only A (by omega);have e:=e.only A (by omega);have g:=Below.only g A G;have b:=U;refine ZX bC fun a D _ bD=>?_;refine Zs D fun _ bE=>?_;refine Ze (Vd rfl Xt 4)<|Ze (X0 rfl X02 (f.at 4))<|Ze (X10 rfl Xk)<|Zm rfl<|Zt bE fun a D=>?_
 refine wp_block<|Xw (σ:=Nat×(List Tm)) (fun (s:Nat×(List Tm)) (a:Act) (w:World)=>match s with|(k,l)=>∃ N Q,Fr a 58 [(1,vi (j:Int)),(2,.pointer (some ⟨b4,0,none⟩)),(4,.pointer (some ⟨b7,0,none⟩)),(5,.pointer (some ⟨b11,0,none⟩)),(18,.slice Ap p.ts.length cp),(19,vi (p.ts.length:Int)),(20,vi (k:Int))]∧(k≤p.ts.length)∧(l=(p.ts.take k).map (dT j))∧Blk w b4 26 [vi p.ins,vi p.vars,vi p.root,vi p.phase,.slice Ap p.ts.length cp,.slice Bp p.out.length dp]∧Blk w b7 26 [vi 0,vi 0,vi 0,vi 0,.slice none 0 0,.slice none 0 0]∧Blk w b11 26 [vi p.ins,vi (p.vars-1),vi p.root,vi p.phase,.slice N l.length Q,.slice none 0 0]∧Own w M.heap.size 59 2 encT N Q l∧Below M.heap.size M w) (fun (s:Nat×(List Tm))=>match s with|(k,l)=>p.ts.length-k) (0,[]) ?_ ?_
 ·exact ⟨none,0,D.sb,(Nat.zero_le _),rfl,f,e,b,(Own.nil _ _ _ _ _),g⟩
 rintro ⟨k,l⟩ a w8 ⟨N,Q,D,hk,hl,f,e,b,d,g⟩;refine Zs D fun _ bF=>?_;refine Ze (X1h rfl rfl)<|ZX bF fun a D _ bG=>?_
 refine Xg D rfl (fun H=>?_) (fun H=>?_)
 ·have aO:=H;have H:=of_decide_eq_true H
  obtain ⟨x,aD⟩:=Xj (l:=p.ts) (k:=k) (by omega)
  refine wp_skip<|bG _ _<|wp_seq_k fun _ bH=>?_;refine wp_block<|Zs D fun _ bJ=>?_;refine Zi (k:=k) (u:=x) (enc:=encT) (l:=p.ts) trivial rfl rfl Xk X0o Xx (aB.below' g) aD rfl ?_;intro cN aP;refine Ze (X04 (l:=[vi x.m,vi x.c]) rfl X2t aP rfl)<|Zf (X4 (zs:=[vi 0,vi 0]) X4i rfl) ?_;rintro _ w9 ⟨cC,rfl,aE,i,B⟩;have aQ:=Nat.le_trans g.size aE;have bK:=(aB.below' g).away aE;have J:=d.away aE;have f:=f.below i;have e:=e.below i;have b:=b.below i;have d:=d.below i;have g:=btr g i;refine Zo (Vw [vi x.m,vi x.c] X0o B) ?_;rintro _ cO ⟨A,U⟩;have n:=B;have f:=f.only A (Blk.ne f n rfl);have e:=e.only A (Blk.ne e n rfl);have b:=b.only A (Blk.ne b n rfl);have d:=d.onlyA A J;have g:=Below.only g A aQ;have B:=U;refine Zt bJ fun a D=>?_;refine Xp none (fun j=>[10,12].contains j) mixed ?_;intro cP i;have f:=f.below i;have e:=e.below i;have b:=b.below i;have B:=B.below i;have d:=d.below i;have g:=btr g i;refine Yb D<|Yo 0 rfl (fun _=>Vd rfl Xt 4)<|Ye 1 rfl (X0 rfl X02 (b.at 4))<|Yo 2 rfl (fun _=>Vd rfl X09 0)<|Ye 3 rfl (X0 rfl X2 (B.at 0))<|Yo 4 rfl (fun _=>Xd rfl) ?_;refine Yo 6 rfl (fun _=>Vd rfl X1c 1)<|Ye 7 rfl (X0 rfl X2 (B.at 1))<|Y1 5 ?_;refine Yk rfl trivial (Vc (Xnn _ x.m j (bY _ (List.mem_of_getElem? aD)) hv) Xbc) (fun _ _ ⟨_,i⟩=>i) ?_;rintro _ cQ ⟨rfl,i⟩;have f:=f.below i;have e:=e.below i;have b:=b.below i;have B:=B.below i;have d:=d.below i;have g:=btr g i;refine Yo 8 rfl (fun _=>Xs (ps:=[(0,vi (drI j x.m)),(1,vi x.c)]) (cs:=[vi (drI j x.m),vi x.c]) rfl (fun _=>by first|rfl|kernel_rfl))<|Y1 9 ?_
  refine Yk rfl trivial (X5 (k:=1) (vs:=[.agg #[vi (drI j x.m),vi x.c]]) (zs:=[vi (drI j x.m),vi x.c]) rfl Xk X0m rfl rfl) (fun _ _ ⟨_,_,_,h,_⟩=>h) ?_;rintro _ cR ⟨b28,rfl,aF,i,aG⟩
  have aZ:cC≠b28:=by have:=B.lt;omega
  have cD:=Nat.le_trans g.size aF;have bL:=(aB.below' g).away aF;have a6:=d.away aF;have f:=f.below i;have e:=e.below i;have b:=b.below i;have B:=B.below i;have d:=d.below i;have g:=btr g i;refine Y1 10<|Yt rfl trivial rfl (X0p (enc:=encT) (l:=(l)) (l2:=([(⟨drI j x.m,x.c⟩ : Tm)])) (B0:=M.heap.size) rfl rfl Xk X0m Xx X22 d (Rd.of_blk aG rfl _ aG.lt) (by simp only [maxLen];rw [hl];simp;omega) (by rw [hl];simp;omega) g.size) ?_;rintro _ cS ⟨aR,aS,rfl,aH,hg,W⟩
  have E:Own _ M.heap.size 59 2 encT _ _ (l):=d
  have b0:=W _ B.lt J;have b1:=W _ aG.lt a6;clear W;have f:=f.appT E hg rfl;have e:=e.appT E hg rfl;have b:=b.appT E hg rfl;have g:=Below.app g E hg (Nat.le_refl _) g.size;clear E hg;refine Yo 11 rfl (fun _=>Vd rfl Xt 4)<|Y1 12 ?_;refine Yh rfl trivial rfl (Vu (vs:=[.slice aR (l++([(⟨drI j x.m,x.c⟩ : Tm)])).length aS]) (l':=[vi p.ins,vi (p.vars-1),vi p.root,vi p.phase,.slice aR (l++([(⟨drI j x.m,x.c⟩ : Tm)])).length aS,.slice none 0 0]) rfl rfl X1o b) ?_;rintro _ cU ⟨A,U⟩;have n:=b;have f:=f.only A (by omega);have e:=e.only A (by omega);have aH:=aH.onlyT A n rfl;have g:=Below.only g A G;have b:=U;refine Yd fun a D=>?_;refine Xa<|bH _ _<|Zr D<|Ze (Xm rfl rfl (by omega) (by omega))<|Zm rfl ?_;refine Zn fun a D=>?_;refine Xb ?_;exact ⟨(k+1,l++([(⟨drI j x.m,x.c⟩ : Tm)])),⟨aR,aS,D.sb,(by omega),(by rw [hl];exact (X3t (dT j) aD).symm),f,e,b,aH,g⟩,(by first|omega|(dsimp only;omega))⟩
 have aO:=H;have H:=of_decide_eq_false H
 have cE:k=p.ts.length:=by have:=H;omega
 refine wp_exit<|Xe<|Xe<|Xq ?_;refine bD _ _<|wp_seq_k fun _ bM=>?_;refine Zs D fun _ bN=>?_;refine Ze (Vd rfl Xl 5)<|Ze (X0 rfl Xy (f.at 5))<|Ze (X10 rfl Xn)<|Zm rfl<|Zt bN fun a D=>?_;refine wp_block<|Xw (σ:=Nat×(List Af)) (fun (s:Nat×(List Af)) (a:Act) (w:World)=>match s with|(q,l2)=>∃ a7 a8,Fr a 58 [(1,vi (j:Int)),(4,.pointer (some ⟨b7,0,none⟩)),(5,.pointer (some ⟨b11,0,none⟩)),(38,.slice Bp p.out.length dp),(39,vi (p.out.length:Int)),(40,vi (q:Int))]∧(q≤p.out.length)∧(l2=(p.out.take q).map (dA j))∧Blk w b7 26 [vi 0,vi 0,vi 0,vi 0,.slice none 0 0,.slice none 0 0]∧Blk w b11 26 [vi p.ins,vi (p.vars-1),vi p.root,vi p.phase,.slice N l.length Q,.slice a7 l2.length a8]∧Own w M.heap.size 59 2 encT N Q l∧Own w M.heap.size 62 2 encA a7 a8 l2∧Below M.heap.size M w) (fun (s:Nat×(List Af))=>match s with|(q,l2)=>p.out.length-q) (0,[]) ?_ ?_
 ·exact ⟨none,0,D.sb,(Nat.zero_le _),rfl,e,b,d,(Own.nil _ _ _ _ _),g⟩
 rintro ⟨q,l2⟩ a cV ⟨a7,a8,D,hq,aN,e,b,d,o,g⟩;refine Zs D fun _ bO=>?_;refine Ze (X1h rfl rfl)<|ZX bO fun a D _ bP=>?_
 refine Xg D rfl (fun I=>?_) (fun I=>?_)
 ·have aT:=I;have I:=of_decide_eq_true I
  obtain ⟨y,aI⟩:=Xj (l:=p.out) (k:=q) (by omega)
  refine wp_skip<|bP _ _<|wp_seq_k fun _ bR=>?_;refine wp_block<|Zs D fun _ bS=>?_;refine Zi (k:=q) (u:=y) (enc:=encA) (l:=p.out) trivial rfl rfl Xn Xu X06 (aC.below' g) aI rfl ?_;intro cW aU;refine Ze (X04 (l:=[vi y.m,vi y.t]) rfl X08 aU rfl)<|Zf (X4 (zs:=[vi 0,vi 0]) X0v rfl) ?_;rintro _ cX ⟨cF,rfl,aJ,i,C⟩;have aW:=Nat.le_trans g.size aJ;have bT:=(aC.below' g).away aJ;have L:=o.away aJ;have e:=e.below i;have b:=b.below i;have d:=d.below i;have o:=o.below i;have g:=btr g i;refine Zo (Vw [vi y.m,vi y.t] Xu C) ?_;rintro _ cY ⟨A,U⟩;have n:=C;have e:=e.only A (Blk.ne e n rfl);have b:=b.only A (Blk.ne b n rfl);have d:=d.onlyT A n rfl;have o:=o.onlyA A L;have g:=Below.only g A aW;have C:=U;refine Zt bS fun a D=>?_;refine Xp none (fun j=>[10,12].contains j) mixed ?_;intro d5 i;have e:=e.below i;have b:=b.below i;have C:=C.below i;have d:=d.below i;have o:=o.below i;have g:=btr g i;refine Yb D<|Yo 0 rfl (fun _=>Vd rfl Xl 5)<|Ye 1 rfl (X0 rfl Xy (b.at 5))<|Yo 2 rfl (fun _=>Vd rfl X0b 0)<|Ye 3 rfl (X0 rfl X2 (C.at 0))<|Yo 4 rfl (fun _=>Xd rfl) ?_;refine Yo 6 rfl (fun _=>Vd rfl X0t 1)<|Ye 7 rfl (X0 rfl X2 (C.at 1))<|Y1 5 ?_;refine Yk rfl trivial (Vc (Xnn _ y.m j (bZ _ (List.mem_of_getElem? aI)) hv) Xbc) (fun _ _ ⟨_,i⟩=>i) ?_;rintro _ d6 ⟨rfl,i⟩;have e:=e.below i;have b:=b.below i;have C:=C.below i;have d:=d.below i;have o:=o.below i;have g:=btr g i;refine Yo 8 rfl (fun _=>Xs (ps:=[(0,vi (drI j y.m)),(1,vi y.t)]) (cs:=[vi (drI j y.m),vi y.t]) rfl (fun _=>by first|rfl|kernel_rfl))<|Y1 9 ?_
  refine Yk rfl trivial (X5 (k:=1) (vs:=[.agg #[vi (drI j y.m),vi y.t]]) (zs:=[vi (drI j y.m),vi y.t]) rfl Xn X19 rfl rfl) (fun _ _ ⟨_,_,_,h,_⟩=>h) ?_;rintro _ d7 ⟨b43,rfl,aK,i,aL⟩
  have b2:cF≠b43:=by have:=C.lt;omega
  have cG:=Nat.le_trans g.size aK;have bU:=(aC.below' g).away aK;have aA:=o.away aK;have e:=e.below i;have b:=b.below i;have C:=C.below i;have d:=d.below i;have o:=o.below i;have g:=btr g i;refine Y1 10<|Yt rfl trivial rfl (X0p (enc:=encA) (l:=(l2)) (l2:=([(⟨drI j y.m,y.t⟩ : Af)])) (B0:=M.heap.size) rfl rfl Xn X19 X06 X2z o (Rd.of_blk aL rfl _ aL.lt) (by simp only [maxLen];rw [aN];simp;omega) (by rw [aN];simp;omega) g.size) ?_;rintro _ d8 ⟨aX,aY,rfl,aM,hg,W⟩
  have E:Own _ M.heap.size 62 2 encA _ _ (l2):=o
  have b3:=W _ C.lt L;have b5:=W _ aL.lt aA;clear W;have e:=e.appT E hg rfl;have b:=b.appT E hg rfl;have d:=d.appT E hg rfl;have g:=Below.app g E hg (Nat.le_refl _) g.size;clear E hg;refine Yo 11 rfl (fun _=>Vd rfl Xl 5)<|Y1 12 ?_;refine Yh rfl trivial rfl (Vu (vs:=[.slice aX (l2++([(⟨drI j y.m,y.t⟩ : Af)])).length aY]) (l':=[vi p.ins,vi (p.vars-1),vi p.root,vi p.phase,.slice N l.length Q,.slice aX (l2++([(⟨drI j y.m,y.t⟩ : Af)])).length aY]) rfl rfl X2s b) ?_;rintro _ dB ⟨A,U⟩;have n:=b;have e:=e.only A (by omega);have d:=d.onlyT A n rfl;have aM:=aM.onlyT A n rfl;have g:=Below.only g A G;have b:=U;refine Yd fun a D=>?_;refine Xa<|bR _ _<|Zr D<|Ze (Xm rfl rfl (by omega) (by omega))<|Zm rfl ?_;refine Zn fun a D=>?_;refine Xb ?_;exact ⟨(q+1,l2++([(⟨drI j y.m,y.t⟩ : Af)])),⟨aX,aY,D.sb,(by omega),(by rw [aN];exact (X3t (dA j) aI).symm),e,b,d,aM,g⟩,(by first|omega|(dsimp only;omega))⟩
 have aT:=I;have I:=of_decide_eq_false I
 have cH:q=p.out.length:=by have:=I;omega
 refine wp_exit<|Xe<|Xe<|Xq ?_;refine bM _ _<|Zs D fun _ bW=>?_;refine Ze (Vn X3 b)<|Zo (Vw [vi p.ins,vi (p.vars-1),vi p.root,vi p.phase,.slice N l.length Q,.slice a7 l2.length a8] Xi e) ?_;rintro _ dC ⟨A,U⟩;have n:=e;have d:=d.onlyT A n rfl;have o:=o.onlyT A n rfl;have g:=Below.only g A b6;have e:=U;refine Zt bW fun a D=>?_
 refine wp_ret (X7 D (X03 D rfl (ResV.cellN (l:=[vi p.ins,vi (p.vars-1),vi p.root,vi p.phase,.slice N l.length Q,.slice a7 l2.length a8]) rfl X3 (e.at 0) rfl)) ?_)
 obtain rfl:l=p.ts.map (dT j):=by rw [hl,cE,List.take_length]
 obtain rfl:l2=p.out.map (dA j):=by rw [aN,cH,List.take_length]
 exact ⟨N,Q,a7,a8,rfl,d.rd.top,o.rd.top,g⟩
theorem Xs2(w0:World)(p:Ps)(Ap:Option Addr)(cp:Nat)(b6:Rd w0 w0.heap.size 59 encT Ap p.ts)(Bp:Option Addr)(dp:Nat)(aC:Rd w0 w0.heap.size 62 encA Bp p.out)(j:Nat)(y:Af)(dE:0≤p.phase∧p.phase<8)(hT:∀ t ∈ p.ts,Mk t.m∧0<t.c∧t.c<8)(bD:∀ a ∈ p.out,AO a)(hv:j<24)(hy:AO y)(dR:-1000≤p.vars∧p.vars≤1000)(dS:p.ts.length≤100000000)(dU:p.out.length≤100000000) : Ret Tryz.prog 119 [.agg #[vi p.ins,vi p.vars,vi p.root,vi p.phase,.slice Ap p.ts.length cp,.slice Bp p.out.length dp],vi (j:Int),.agg #[vi y.m,vi y.t]] w0 (fun v w=>∃ A9 c9 B9 d9,v=psV A9 c9 B9 d9 (repP p j y)∧Rd w w.heap.size 59 encT A9 (repP p j y).ts∧Rd w w.heap.size 62 encA B9 (repP p j y).out∧(repP p j y).ts.length≤c9∧Below w0.heap.size w0 w):=by
 refine enter Tryz.func119 rfl 114 rfl rfl ?_;intro a E
 have B:=bz w0
 refine Zs E fun _ dF=>?_;refine Zf (X1b (zs:=[vi p.ins,vi p.vars,vi p.root,vi p.phase,.slice Ap p.ts.length cp,.slice Bp p.out.length dp]) rfl rfl) ?_;rintro _ w1 ⟨b4,rfl,dG,o,A⟩;have dP:=Nat.le_trans B.size dG;have B:=btr B o;refine Zf (X1b (zs:=[vi y.m,vi y.t]) rfl rfl) ?_;rintro _ w2 ⟨b5,rfl,bY,o,b⟩;have dQ:=Nat.le_trans B.size bY;have dC:=(aC.below' B).away bY;have A:=A.below o;have B:=btr B o;refine Zf (X4 (zs:=[vi 0,vi 0,vi 0,vi 0,.slice none 0 0,.slice none 0 0]) X0f rfl) ?_;rintro _ w3 ⟨b8,rfl,dH,o,e⟩
 have dD:b4≠b8:=by have:=A.lt;omega
 have bZ:=Nat.le_trans B.size dH;have A:=A.below o;have b:=b.below o;have B:=btr B o;refine Zx dF fun a E _ dI=>?_;refine Ze (Vd rfl X0h 3)<|Ze (X0 rfl X2 (A.at 3))<|Ze (Xs (ps:=[(0,vi p.phase)]) (cs:=[vi p.phase,.slice none 0 0]) rfl (fun _=>by first|rfl|kernel_rfl))<|Zf (X1b (zs:=[vi p.phase,.slice none 0 0]) rfl rfl) ?_;rintro _ w4 ⟨aF,rfl,c4,o,x⟩;have aO:=Nat.le_trans B.size c4;have A:=A.below o;have b:=b.below o;have e:=e.below o;have B:=btr B o;refine Za rfl<|ZX dI fun a E _ c5=>?_;refine Zs E fun _ c6=>?_;refine Ze (Vd rfl Xt 4)<|Ze (X0 rfl X02 (A.at 4))<|Ze (X10 rfl Xk)<|Zm rfl<|Zt c6 fun a E=>?_;refine wp_block ?_
 replace x:Blk w4 aF 120 [vi ((cPh p.phase) 0),.slice none (tms (cPh p.phase)).length 0]:=by rw [Xfo,Xqj];exact x
 have dJ:Rd w4 w4.heap.size 59 encT none (tms (cPh p.phase)):=by rw [Xfo];exact Rd.nil _ _ _ _ _
 have cA:(tms (cPh p.phase)).length≤0:=by rw [Xfo];exact Nat.le_refl _
 refine Xw (σ:=Nat×(Int→Int)) (fun (s:Nat×(Int→Int)) (a:Act) (w:World)=>match s with|(k,g)=>∃ N Q,Fr a 114 [(1,vi (j:Int)),(3,.pointer (some ⟨b4,0,none⟩)),(5,.pointer (some ⟨b5,0,none⟩)),(6,.pointer (some ⟨b8,0,none⟩)),(7,.pointer (some ⟨aF,0,none⟩)),(18,.slice Ap p.ts.length cp),(19,vi (p.ts.length:Int)),(20,vi (k:Int))]∧(k≤p.ts.length)∧(g=foldA ((p.ts.take k).flatMap (rL j y)) (cPh p.phase))∧(PO g)∧(SupF g)∧Blk w b4 26 [vi p.ins,vi p.vars,vi p.root,vi p.phase,.slice Ap p.ts.length cp,.slice Bp p.out.length dp]∧Blk w b5 62 [vi y.m,vi y.t]∧Blk w b8 26 [vi 0,vi 0,vi 0,vi 0,.slice none 0 0,.slice none 0 0]∧Blk w aF 120 [vi (g 0),.slice N (tms g).length Q]∧Rd w w.heap.size 59 encT N (tms g)∧(tms g).length≤Q∧Below w0.heap.size w0 w) (fun (s:Nat×(Int→Int))=>match s with|(k,g)=>p.ts.length-k) (0,(cPh p.phase)) ?_ ?_
 ·exact ⟨none,0,E.sb,(Nat.zero_le _),rfl,(PO.cPh dE),(SupF.cPh _),A,b,e,x,dJ.top,cA,B⟩
 rintro ⟨k,g⟩ a w5 ⟨N,Q,E,hk,hg,hp,hs,A,b,e,x,d,U,B⟩;refine Zs E fun _ cC=>?_;refine Ze (X1h rfl rfl)<|ZX cC fun a E _ cD=>?_
 refine Xg E rfl (fun a6=>?_) (fun a6=>?_)
 ·have bE:=a6;have a6:=of_decide_eq_true a6
  obtain ⟨J,G⟩:=Xj (l:=p.ts) (k:=k) (by omega)
  refine wp_skip<|cD _ _<|wp_seq_k fun _ b7=>?_;refine wp_block<|Zs E fun _ cE=>?_;refine Zi (k:=k) (u:=J) (enc:=encT) (l:=p.ts) trivial rfl rfl Xk X0o Xx (b6.below' B) G rfl ?_;intro dW bF;refine Ze (X04 (l:=[vi J.m,vi J.c]) rfl X2t bF rfl)<|Zf (X4 (zs:=[vi 0,vi 0]) X4i rfl) ?_;rintro _ w6 ⟨dX,rfl,aP,o,H⟩;have bG:=Nat.le_trans B.size aP;have cF:=(b6.below' B).away aP;have aK:=d.away aP;have A:=A.below o;have b:=b.below o;have e:=e.below o;have x:=x.below o;have d:=d.below o;have B:=btr B o;refine Zo (Vw [vi J.m,vi J.c] X0o H) ?_;rintro _ w7 ⟨I,hb⟩;have f:=H;have A:=A.only I (Blk.ne A f rfl);have b:=b.only I (Blk.ne b f rfl);have e:=e.only I (Blk.ne e f rfl);have x:=x.only I (Blk.ne x f rfl);have d:=d.onlyA I aK;have B:=Below.only B I bG;have H:=hb;refine Zx cE fun a E _ cG=>?_;refine Ze (Vd rfl X09 0)<|Ze (X0 rfl X2 (H.at 0))<|Zm rfl<|Ze (X2x (m:=j) Tryz.underlying3 Tryz.underlying109 rfl rfl (by omega))<|Ze (X5d (m:=j) rfl rfl rfl (by omega)) ?_;refine Ze (Vx (X5b rfl rfl) (X3h (hT _ (List.mem_of_getElem? G)).1 j))<|Ze (X0x rfl rfl)<|Zt cG fun a E=>?_
  refine Xg E rfl (fun aD=>?_) (fun aD=>?_)
  ·have bH:=aD
   have a8:bitQ j J.m=false:=Xts aD
   have dK:=hT _ (List.mem_of_getElem? G);refine Xp (some aF) (fun _=>false) mixed ?_;intro w8 o;have A:=A.below o;have b:=b.below o;have e:=e.below o;have x:=x.below o;have H:=H.below o;have d:=d.below o;have B:=btr B o;refine Yb E<|Yo 0 rfl (fun _=>Xd rfl)<|Yo 1 rfl (fun _=>Vd rfl X09 0) ?_;refine Yw 2 rfl trivial (fun w1 h1=>X0 rfl X2 ((H.only h1 (Blk.ne H x rfl)).at 0)) ?_;refine Yo 3 rfl (fun _=>Xd rfl)<|Yo 5 rfl (fun _=>Vd rfl X1c 1) ?_;refine Yw 6 rfl trivial (fun w1 h1=>X0 rfl X2 ((H.only h1 (Blk.ne H x rfl)).at 1)) ?_;refine Y1 4<|Yz rfl trivial (Vc (Xaj _ J.m j (hT _ (List.mem_of_getElem? G)).1 hv) X62) ?_;refine Y1 7<|Yf rfl trivial (EfW.mono (Vc (X30 _ aF g N Q x d.top U hp hs (drI j J.m) J.c (hT _ (List.mem_of_getElem? G)).1.dr (by omega)) X1n) (fun _ _ h=>⟨fun _=>by obtain ⟨rfl,hK,cH,cJ,aG,b9,aQ⟩:=h;exact hK.keep,h⟩)) ?_;rintro _ w9 ⟨rfl,hK,cH,cJ,aG,b9,aQ⟩;obtain ⟨wm,hO,hm,o⟩:=hK.mid;clear hm;have f:=x;have A:=A.only hO (Blk.ne A f rfl);have b:=b.only hO (Blk.ne b f rfl);have e:=e.only hO (Blk.ne e f rfl);have B:=Below.only B hO aO;have A:=A.below o;have b:=b.below o;have e:=e.below o;have B:=btr B o
   clear f o hO hK;have x:=aG;clear aG;refine Yd fun a E=>?_;refine Xa<|b7 _ _<|Zr E<|Ze (Xm rfl rfl (by omega) (by omega))<|Zm rfl ?_;refine Zn fun a E=>?_;refine Xb ?_;exact ⟨(k+1,(padd g (drI j J.m) J.c)),⟨cH,cJ,E.sb,(by omega),(by first|exact Xsu G hg a8|exact Xsp G hg a8),(by first|exact hp.padd _ _|exact hp.expP _ _ _),(by first|exact hs.pad hp (hT _ (List.mem_of_getElem? G)).1.dr|exact hs.exp hp hy.dA (hT _ (List.mem_of_getElem? G)).1.dr),A,b,e,x,b9.top,aQ,B⟩,(by first|omega|(dsimp only;omega))⟩
  have bH:=aD
  have a8:bitQ j J.m=true:=Xn9 aD
  have dK:=hT _ (List.mem_of_getElem? G);refine Xp (some aF) (fun _=>false) mixed ?_;intro e8 o;have A:=A.below o;have b:=b.below o;have e:=e.below o;have x:=x.below o;have H:=H.below o;have d:=d.below o;have B:=btr B o;refine Yb E<|Yo 0 rfl (fun _=>Xd rfl)<|Yo 1 rfl (fun _=>Vd rfl X09 0) ?_;refine Yw 2 rfl trivial (fun w1 h1=>X0 rfl X2 ((H.only h1 (Blk.ne H x rfl)).at 0)) ?_;refine Yo 3 rfl (fun _=>Xd rfl)<|Yo 5 rfl (fun _=>Vd rfl X1c 1) ?_;refine Yw 6 rfl trivial (fun w1 h1=>X0 rfl X2 ((H.only h1 (Blk.ne H x rfl)).at 1)) ?_;refine Yo 7 rfl (fun _=>Vd rfl X0b 0) ?_;refine Yw 8 rfl trivial (fun w1 h1=>X0 rfl X2 ((b.only h1 (Blk.ne b x rfl)).at 0)) ?_;refine Yo 9 rfl (fun _=>Xd rfl)<|Yo 11 rfl (fun _=>Vd rfl X0t 1) ?_;refine Yw 12 rfl trivial (fun w1 h1=>X0 rfl X2 ((b.only h1 (Blk.ne b x rfl)).at 1)) ?_;refine Y1 4<|Yz rfl trivial (Vc (Xaj _ J.m j (hT _ (List.mem_of_getElem? G)).1 hv) X62) ?_;refine Y1 10<|Yz rfl trivial (Vc (Xaj _ y.m j hy.1 hv) X62) ?_;refine Yo 13 rfl (fun _=>Xs (ps:=[(0,vi (drI j y.m)),(1,vi y.t)]) (cs:=[vi (drI j y.m),vi y.t]) rfl (fun _=>by first|rfl|kernel_rfl))<|Y1 14 ?_;refine Yf rfl trivial (EfW.mono (Vc (Xd7 _ aF g N Q x d.top U hp hs (drI j J.m) J.c (⟨drI j y.m,y.t⟩ : Af) (hT _ (List.mem_of_getElem? G)).1.dr (by omega) hy.dA) X6s) (fun _ _ h=>⟨fun _=>by obtain ⟨rfl,hK,cK,cL,aG,bA,aR⟩:=h;exact hK.keep,h⟩)) ?_;rintro _ eA ⟨rfl,hK,cK,cL,aG,bA,aR⟩;obtain ⟨wm,hO,hm,o⟩:=hK.mid;clear hm;have f:=x;have A:=A.only hO (Blk.ne A f rfl);have b:=b.only hO (Blk.ne b f rfl);have e:=e.only hO (Blk.ne e f rfl);have B:=Below.only B hO aO
  have A:=A.below o;have b:=b.below o;have e:=e.below o;have B:=btr B o
  clear f o hO hK;have x:=aG;clear aG;refine Yd fun a E=>?_;refine Xa<|b7 _ _<|Zr E<|Ze (Xm rfl rfl (by omega) (by omega))<|Zm rfl ?_;refine Zn fun a E=>?_;refine Xb ?_;exact ⟨(k+1,(expP g J.c (⟨drI j y.m,y.t⟩ : Af) (drI j J.m))),⟨cK,cL,E.sb,(by omega),(by first|exact Xsu G hg a8|exact Xsp G hg a8),(by first|exact hp.padd _ _|exact hp.expP _ _ _),(by first|exact hs.pad hp (hT _ (List.mem_of_getElem? G)).1.dr|exact hs.exp hp hy.dA (hT _ (List.mem_of_getElem? G)).1.dr),A,b,e,x,bA.top,aR,B⟩,(by first|omega|(dsimp only;omega))⟩
 have bE:=a6;have a6:=of_decide_eq_false a6
 have dL:k=p.ts.length:=by have:=a6;omega
 refine wp_exit<|Xe<|Xe<|Xq ?_;refine c5 _ _<|wp_seq_k fun _ cM=>?_;refine Xp none (fun j=>[17].contains j) mixed ?_;intro eB o;have A:=A.below o;have b:=b.below o;have e:=e.below o;have x:=x.below o;have d:=d.below o;have B:=btr B o;refine Yb E<|Yo 0 rfl (fun _=>Vd rfl X01 0)<|Ye 1 rfl (X0 rfl X2 (A.at 0))<|Yo 2 rfl (fun _=>Vd rfl X0n 1)<|Ye 3 rfl (X0 rfl X2 (A.at 1))<|Yo 4 rfl (fun _=>X11 rfl rfl (by omega) (by omega)) ?_;refine Yo 5 rfl (fun _=>Vd rfl X0c 2)<|Ye 6 rfl (X0 rfl X2 (A.at 2))<|Yo 7 rfl (fun _=>Xd rfl)<|Yo 8 rfl (fun _=>X1p rfl)<|Yo 9 rfl (fun _=>Vd rfl X3e 0) ?_;refine Ye 10 rfl (X0 rfl X2 (x.at 0))<|Yo 11 rfl (fun _=>Xd rfl)<|Yo 12 rfl (fun _=>X1p rfl)<|Yo 13 rfl (fun _=>Vd rfl X0e 1)<|Ye 14 rfl (X0 rfl X02 (x.at 1)) ?_;refine Yo 15 rfl (fun _=>Xs (ps:=[(0,vi p.ins),(1,vi (p.vars-1)),(2,vi p.root),(3,vi (g 0)),(4,.slice N (tms g).length Q)]) (cs:=[vi p.ins,vi (p.vars-1),vi p.root,vi (g 0),.slice N (tms g).length Q,.slice none 0 0]) rfl (fun _=>by first|rfl|kernel_rfl))<|Y1 16 ?_;refine Yk rfl trivial (X4 (zs:=[vi 0,vi 0,vi 0,vi 0,.slice none 0 0,.slice none 0 0]) X0f rfl) (fun _ _ ⟨_,_,_,h,_⟩=>h) ?_;rintro _ eC ⟨b33,rfl,cN,o,i⟩
 have cO:b4≠b33:=by have:=A.lt;omega
 have cP:b8≠b33:=by have:=e.lt;omega
 have aH:=Nat.le_trans B.size cN;have A:=A.below o;have b:=b.below o;have e:=e.below o;have d:=d.below o;have B:=btr B o;refine Y1 17<|Yh rfl trivial rfl (Vw [vi p.ins,vi (p.vars-1),vi p.root,vi (g 0),.slice N (tms g).length Q,.slice none 0 0] Xi i) ?_;rintro _ eD ⟨I,hb⟩;have f:=i;have A:=A.only I (by omega);have b:=b.only I (Blk.ne b f rfl);have e:=e.only I (by omega);have d:=d.onlyT I f rfl;have B:=Below.only B I aH;have i:=hb;refine Yd fun a E=>?_;refine cM _ _<|wp_seq_k fun _ cQ=>?_;refine Zs E fun _ cR=>?_;refine Ze (Vd rfl Xl 5)<|Ze (X0 rfl Xy (A.at 5))<|Ze (X10 rfl Xn)<|Zm rfl<|Zt cR fun a E=>?_;refine wp_block<|Xw (σ:=Nat×(List Af)) (fun (s:Nat×(List Af)) (a:Act) (w:World)=>match s with|(q,l2)=>∃ aI aL,Fr a 114 [(1,vi (j:Int)),(5,.pointer (some ⟨b5,0,none⟩)),(6,.pointer (some ⟨b8,0,none⟩)),(10,.pointer (some ⟨b33,0,none⟩)),(72,.slice Bp p.out.length dp),(73,vi (p.out.length:Int)),(74,vi (q:Int))]∧(q≤p.out.length)∧(l2=(p.out.take q).map fun a=>dA j (sA j y a))∧Blk w b5 62 [vi y.m,vi y.t]∧Blk w b8 26 [vi 0,vi 0,vi 0,vi 0,.slice none 0 0,.slice none 0 0]∧Blk w b33 26 [vi p.ins,vi (p.vars-1),vi p.root,vi (g 0),.slice N (tms g).length Q,.slice aI l2.length aL]∧Rd w w5.heap.size 59 encT N (tms g)∧Own w w0.heap.size 62 2 encA aI aL l2∧(tms g).length≤Q∧Away aI b5∧Below w0.heap.size w0 w) (fun (s:Nat×(List Af))=>match s with|(q,l2)=>p.out.length-q) (0,[]) ?_ ?_
 ·exact ⟨none,0,E.sb,(Nat.zero_le _),rfl,b,e,i,d,(Own.nil _ _ _ _ _),U,(Away.no _),B⟩
 rintro ⟨q,l2⟩ a eE ⟨aI,aL,E,hq,aJ,b,e,i,d,D,U,W,B⟩;refine Zs E fun _ cS=>?_;refine Ze (X1h rfl rfl)<|ZX cS fun a E _ cU=>?_
 refine Xg E rfl (fun a7=>?_) (fun a7=>?_)
 ·have bJ:=a7;have a7:=of_decide_eq_true a7
  obtain ⟨n,aA⟩:=Xj (l:=p.out) (k:=q) (by omega)
  refine wp_skip<|cU _ _<|wp_seq_k fun _ bB=>?_;refine wp_block<|Zs E fun _ cV=>?_;refine Zi (k:=q) (u:=n) (enc:=encA) (l:=p.out) trivial rfl rfl Xn Xu X06 (aC.below' B) aA rfl ?_;intro eF bK;refine Ze (X04 (l:=[vi n.m,vi n.t]) rfl X08 bK rfl)<|Zf (X4 (zs:=[vi 0,vi 0]) X0v rfl) ?_;rintro _ eG ⟨b45,rfl,aS,o,C⟩
  have cW:b5≠b45:=by have:=b.lt;omega
  have aT:=Nat.le_trans B.size aS;have cX:=(aC.below' B).away aS;have M:=D.away aS;have b:=b.below o;have e:=e.below o;have i:=i.below o;have d:=d.below o;have D:=D.below o;have B:=btr B o;refine Zo (Vw [vi n.m,vi n.t] Xu C) ?_;rintro _ eH ⟨I,hb⟩;have f:=C;have b:=b.only I (by omega);have e:=e.only I (Blk.ne e f rfl);have i:=i.only I (Blk.ne i f rfl);have d:=d.onlyT I f rfl;have D:=D.onlyA I M;have B:=Below.only B I aT;have C:=hb;refine ZX cV fun a E _ bC=>?_;refine Zs E fun _ cY=>?_;refine Ze (Vd rfl X0b 0)<|Ze (X0 rfl X2 (C.at 0))<|Zm rfl<|Ze (X2x (m:=j) Tryz.underlying3 Tryz.underlying109 rfl rfl (by omega))<|Ze (X5d (m:=j) rfl rfl rfl (by omega)) ?_;refine Ze (Vx (X5b rfl rfl) (X3h (bD _ (List.mem_of_getElem? aA)).1 j))<|Ze (X0x rfl rfl)<|Zt cY fun a E=>?_
  refine Xg E rfl (fun aE=>?_) (fun aE=>?_)
  ·have bL:=aE
   have a8:bitQ j n.m=true:=Xn0 aE
   have aU:=bD _ (List.mem_of_getElem? aA);refine Zr E<|Ze (Vd rfl X0b 0)<|Ze (X0 rfl X2 (C.at 0))<|Zm rfl<|Ze (X2x (m:=j) Tryz.underlying3 Tryz.underlying109 rfl rfl (by omega))<|Ze (Vx (X29 (m:=j) rfl rfl rfl (by omega)) (X4x hv)) ?_;refine Ze (Vx (X6h rfl rfl) (rfl:_=(xI n.m (pw j))))<|Ze (Vd rfl X0b 0)<|Ze (X0 rfl X2 (b.at 0))<|Ze (Vx (X6h rfl rfl) (rfl:_=(xI (xI n.m (pw j)) y.m)))<|Ze (Vd rfl X0t 1) ?_;refine Ze (X0 rfl X2 (C.at 1))<|Ze (Vd rfl X0t 1)<|Ze (X0 rfl X2 (b.at 1))<|Ze (Vx (X6h rfl rfl) (rfl:_=(xI n.t y.t)))<|Ze (Xs (ps:=[(0,vi (xI (xI n.m (pw j)) y.m)),(1,vi (xI n.t y.t))]) (cs:=[vi (xI (xI n.m (pw j)) y.m),vi (xI n.t y.t)]) rfl (fun _=>by first|rfl|kernel_rfl)) ?_;refine Zo (Vw [vi (xI (xI n.m (pw j)) y.m),vi (xI n.t y.t)] Xu C) ?_;rintro _ eI ⟨I,hb⟩;have f:=C;have b:=b.only I (by omega);have e:=e.only I (Blk.ne e f rfl);have i:=i.only I (Blk.ne i f rfl);have d:=d.onlyT I f rfl;have D:=D.onlyA I M;have B:=Below.only B I aT;have C:=hb;refine Zt bC fun a E=>?_;refine Xp none (fun j=>[10,12].contains j) mixed ?_;intro eJ o;have b:=b.below o;have e:=e.below o;have i:=i.below o;have C:=C.below o;have d:=d.below o;have D:=D.below o;have B:=btr B o;refine Yb E<|Yo 0 rfl (fun _=>Vd rfl Xl 5)<|Ye 1 rfl (X0 rfl Xy (i.at 5))<|Yo 2 rfl (fun _=>Vd rfl X0b 0)<|Ye 3 rfl (X0 rfl X2 (C.at 0))<|Yo 4 rfl (fun _=>Xd rfl) ?_;refine Yo 6 rfl (fun _=>Vd rfl X0t 1)<|Ye 7 rfl (X0 rfl X2 (C.at 1))<|Y1 5 ?_;refine Yz rfl trivial (Vc (Xaj _ (xI (xI n.m (pw j)) y.m) j (by first|exact aU.1|exact (aU.1.xor (X2k hv)).xor hy.1) hv) X62) ?_
   refine Yo 8 rfl (fun _=>Xs (ps:=[(0,vi (drI j (xI (xI n.m (pw j)) y.m))),(1,vi (xI n.t y.t))]) (cs:=[vi (drI j (xI (xI n.m (pw j)) y.m)),vi (xI n.t y.t)]) rfl (fun _=>by first|rfl|kernel_rfl))<|Y1 9 ?_;refine Yk rfl trivial (X5 (k:=1) (vs:=[.agg #[vi (drI j (xI (xI n.m (pw j)) y.m)),vi (xI n.t y.t)]]) (zs:=[vi (drI j (xI (xI n.m (pw j)) y.m)),vi (xI n.t y.t)]) rfl Xn X19 rfl rfl) (fun _ _ ⟨_,_,_,h,_⟩=>h) ?_;rintro _ eK ⟨b49,rfl,aW,o,aX⟩
   have d5:b5≠b49:=by have:=b.lt;omega
   have bR:b45≠b49:=by have:=C.lt;omega
   have dM:=Nat.le_trans B.size aW;have d6:=(aC.below' B).away aW;have aM:=D.away aW;have b:=b.below o;have e:=e.below o;have i:=i.below o;have C:=C.below o;have d:=d.below o;have D:=D.below o;have B:=btr B o;refine Y1 10<|Yt rfl trivial rfl (X0p (enc:=encA) (l:=(l2)) (l2:=([(⟨drI j (xI (xI n.m (pw j)) y.m),(xI n.t y.t)⟩ : Af)])) (B0:=w0.heap.size) rfl rfl Xn X19 X06 X2z D (Rd.of_blk aX rfl _ aX.lt) (by simp only [maxLen];rw [aJ];simp;omega) (by rw [aJ];simp;omega) B.size) ?_;rintro _ eL ⟨bM,bN,rfl,aY,hg,aB⟩
   have L:Own _ w0.heap.size 62 2 encA _ _ (l2):=D
   have aZ:=aB _ b.lt W;have bS:=aB _ C.lt M;have bT:=aB _ aX.lt aM;clear aB;have b:=b.appA hg W;have e:=e.appT L hg rfl;have i:=i.appT L hg rfl;have d:=d.appT L hg rfl;have B:=Below.app B L hg (Nat.le_refl _) B.size;clear L hg;refine Yo 11 rfl (fun _=>Vd rfl Xl 5)<|Y1 12 ?_;refine Yh rfl trivial rfl (Vu (vs:=[.slice bM (l2++([(⟨drI j (xI (xI n.m (pw j)) y.m),(xI n.t y.t)⟩ : Af)])).length bN]) (l':=[vi p.ins,vi (p.vars-1),vi p.root,vi (g 0),.slice N (tms g).length Q,.slice bM (l2++([(⟨drI j (xI (xI n.m (pw j)) y.m),(xI n.t y.t)⟩ : Af)])).length bN]) rfl rfl X2s i) ?_;rintro _ eM ⟨I,hb⟩;have f:=i;have b:=b.only I (Blk.ne b f rfl);have e:=e.only I (by omega);have d:=d.onlyT I f rfl;have aY:=aY.onlyT I f rfl;have B:=Below.only B I aH;have i:=hb;refine Yd fun a E=>?_;refine Xa<|bB _ _<|Zr E<|Ze (Xm rfl rfl (by omega) (by omega))<|Zm rfl ?_;refine Zn fun a E=>?_;refine Xb ?_;exact ⟨(q+1,l2++([(⟨drI j (xI (xI n.m (pw j)) y.m),(xI n.t y.t)⟩ : Af)])),⟨bM,bN,E.sb,(by omega),(by rw [aJ,X3t (fun a=>dA j (sA j y a)) aA];first|(rw [X48 a8];rfl)|(rw [Xk1 a8];rfl)),b,e,i,d,aY,U,aZ,B⟩,(by first|omega|(dsimp only;omega))⟩
  have bL:=aE
  have a8:bitQ j n.m=false:=Xe4 aE
  have aU:=bD _ (List.mem_of_getElem? aA);refine wp_skip<|bC _ _<|Xp none (fun j=>[10,12].contains j) mixed ?_;intro eN o;have b:=b.below o;have e:=e.below o;have i:=i.below o;have C:=C.below o;have d:=d.below o;have D:=D.below o;have B:=btr B o;refine Yb E<|Yo 0 rfl (fun _=>Vd rfl Xl 5)<|Ye 1 rfl (X0 rfl Xy (i.at 5))<|Yo 2 rfl (fun _=>Vd rfl X0b 0)<|Ye 3 rfl (X0 rfl X2 (C.at 0))<|Yo 4 rfl (fun _=>Xd rfl) ?_;refine Yo 6 rfl (fun _=>Vd rfl X0t 1)<|Ye 7 rfl (X0 rfl X2 (C.at 1))<|Y1 5 ?_;refine Yz rfl trivial (Vc (Xaj _ n.m j (by first|exact aU.1|exact (aU.1.xor (X2k hv)).xor hy.1) hv) X62) ?_;refine Yo 8 rfl (fun _=>Xs (ps:=[(0,vi (drI j n.m)),(1,vi n.t)]) (cs:=[vi (drI j n.m),vi n.t]) rfl (fun _=>by first|rfl|kernel_rfl))<|Y1 9 ?_;refine Yk rfl trivial (X5 (k:=1) (vs:=[.agg #[vi (drI j n.m),vi n.t]]) (zs:=[vi (drI j n.m),vi n.t]) rfl Xn X19 rfl rfl) (fun _ _ ⟨_,_,_,h,_⟩=>h) ?_;rintro _ eO ⟨b52,rfl,b0,o,b1⟩
  have d7:b5≠b52:=by have:=b.lt;omega
  have bU:b45≠b52:=by have:=C.lt;omega
  have dN:=Nat.le_trans B.size b0;have d8:=(aC.below' B).away b0;have aN:=D.away b0;have b:=b.below o;have e:=e.below o;have i:=i.below o;have C:=C.below o;have d:=d.below o;have D:=D.below o;have B:=btr B o;refine Y1 10<|Yt rfl trivial rfl (X0p (enc:=encA) (l:=(l2)) (l2:=([(⟨drI j n.m,n.t⟩ : Af)])) (B0:=w0.heap.size) rfl rfl Xn X19 X06 X2z D (Rd.of_blk b1 rfl _ b1.lt) (by simp only [maxLen];rw [aJ];simp;omega) (by rw [aJ];simp;omega) B.size) ?_;rintro _ eP ⟨bO,bP,rfl,b2,hg,aB⟩
  have L:Own _ w0.heap.size 62 2 encA _ _ (l2):=D
  have b3:=aB _ b.lt W;have bW:=aB _ C.lt M;have bX:=aB _ b1.lt aN;clear aB;have b:=b.appA hg W;have e:=e.appT L hg rfl;have i:=i.appT L hg rfl;have d:=d.appT L hg rfl;have B:=Below.app B L hg (Nat.le_refl _) B.size;clear L hg;refine Yo 11 rfl (fun _=>Vd rfl Xl 5)<|Y1 12 ?_;refine Yh rfl trivial rfl (Vu (vs:=[.slice bO (l2++([(⟨drI j n.m,n.t⟩ : Af)])).length bP]) (l':=[vi p.ins,vi (p.vars-1),vi p.root,vi (g 0),.slice N (tms g).length Q,.slice bO (l2++([(⟨drI j n.m,n.t⟩ : Af)])).length bP]) rfl rfl X2s i) ?_;rintro _ eQ ⟨I,hb⟩;have f:=i;have b:=b.only I (Blk.ne b f rfl);have e:=e.only I (by omega);have d:=d.onlyT I f rfl;have b2:=b2.onlyT I f rfl;have B:=Below.only B I aH;have i:=hb;refine Yd fun a E=>?_;refine Xa<|bB _ _<|Zr E<|Ze (Xm rfl rfl (by omega) (by omega))<|Zm rfl ?_;refine Zn fun a E=>?_;refine Xb ?_;exact ⟨(q+1,l2++([(⟨drI j n.m,n.t⟩ : Af)])),⟨bO,bP,E.sb,(by omega),(by rw [aJ,X3t (fun a=>dA j (sA j y a)) aA];first|(rw [X48 a8];rfl)|(rw [Xk1 a8];rfl)),b,e,i,d,b2,U,b3,B⟩,(by first|omega|(dsimp only;omega))⟩
 have bJ:=a7;have a7:=of_decide_eq_false a7
 have dO:q=p.out.length:=by have:=a7;omega
 refine wp_exit<|Xe<|Xe<|Xq ?_;refine cQ _ _<|Zs E fun _ dB=>?_;refine Ze (Vn X3 i)<|Zo (Vw [vi p.ins,vi (p.vars-1),vi p.root,vi (g 0),.slice N (tms g).length Q,.slice aI l2.length aL] Xi e) ?_;rintro _ eR ⟨I,hb⟩;have f:=e;have d:=d.onlyT I f rfl;have D:=D.onlyT I f rfl;have B:=Below.only B I bZ;have e:=hb;refine Zt dB fun a E=>?_
 refine wp_ret (X7 E (X03 E rfl (ResV.cellN (l:=[vi p.ins,vi (p.vars-1),vi p.root,vi (g 0),.slice N (tms g).length Q,.slice aI l2.length aL]) rfl X3 (e.at 0) rfl)) ?_)
 obtain rfl:g=foldA (p.ts.flatMap (rL j y)) (cPh p.phase):=by rw [hg,dL,List.take_length]
 obtain rfl:l2=p.out.map fun a=>dA j (sA j y a):=by rw [aJ,dO,List.take_length]
 exact ⟨N,Q,aI,aL,rfl,d.top,D.rd.top,U,B⟩
theorem Xy2(g:World)(p:Ps)(Ap:Option Addr)(cp:Nat)(aA:Rd g g.heap.size 59 encT Ap p.ts)(Bp:Option Addr)(dp:Nat)(aB:Rd g g.heap.size 62 encA Bp p.out)(j:Nat)(aF:0≤p.phase∧p.phase<8)(hT:∀ t ∈ p.ts,Mk t.m∧0<t.c∧t.c<8)(aG:∀ a ∈ p.out,AO a)(hv:j<24)(aH:-1000≤p.vars∧p.vars≤1000)(aI:p.ts.length≤100000000)(aJ:p.out.length≤100000000) : Ret Tryz.prog 117 [.agg #[vi p.ins,vi p.vars,vi p.root,vi p.phase,.slice Ap p.ts.length cp,.slice Bp p.out.length dp],vi (j:Int)] g (fun v w=>∃ A9 c9 B9 d9,v=psV A9 c9 B9 d9 (repP p j afZ)∧Rd w w.heap.size 59 encT A9 (repP p j afZ).ts∧Rd w w.heap.size 62 encA B9 (repP p j afZ).out∧(repP p j afZ).ts.length≤c9∧Below g.heap.size g w):=by
 refine enter Tryz.func117 rfl 9 rfl rfl ?_;intro a hf
 have b:=bz g
 refine Zs hf fun _ aK=>?_;refine Zf (X1b (zs:=[vi p.ins,vi p.vars,vi p.root,vi p.phase,.slice Ap p.ts.length cp,.slice Bp p.out.length dp]) rfl rfl) ?_;rintro _ w1 ⟨b4,rfl,aL,hE,f⟩;have aO:=Nat.le_trans b.size aL;have b:=btr b hE;refine Zf (X4 (zs:=[vi 0,vi 0,vi 0,vi 0,.slice none 0 0,.slice none 0 0]) X0f rfl) ?_;rintro _ w2 ⟨b7,rfl,aM,hE,d⟩
 have aE:b4≠b7:=by have:=f.lt;omega
 have aC:=Nat.le_trans b.size aM;have f:=f.below hE;have b:=btr b hE;refine Zx aK fun a hf _ aN=>?_;refine Ze (Vn X3 f)<|Zm rfl<|Ze (Xs (ps:=[]) (cs:=[vi 0,vi 0]) rfl (fun _=>by first|rfl|kernel_rfl))<|Zf (Vc (Xs2 _ p Ap cp (aA.below' b).top Bp dp (aB.below' b).top j (⟨0,0⟩ : Af) aF hT aG hv AO.z aH aI aJ) Xfy) ?_;rintro _ w3 ⟨A9,c9,a6,a7,rfl,a8,e,aD,hE⟩;have d:=d.below hE;have b:=btr b hE;refine Zo (Vw [vi ((repP p j (⟨0,0⟩ : Af)).ins),vi ((repP p j (⟨0,0⟩ : Af)).vars),vi ((repP p j (⟨0,0⟩ : Af)).root),vi ((repP p j (⟨0,0⟩ : Af)).phase),.slice A9 ((repP p j (⟨0,0⟩ : Af)).ts).length c9,.slice a6 ((repP p j (⟨0,0⟩ : Af)).out).length a7] Xi d) ?_;rintro _ w4 ⟨ho,hb⟩;have i:=d;have a8:=a8.onlyT ho i rfl;have e:=e.onlyT ho i rfl;have b:=Below.only b ho aC;have d:=hb;refine Zt aN fun a hf=>?_
 refine wp_ret (X7 hf (X03 hf rfl (ResV.cellN (l:=[vi ((repP p j (⟨0,0⟩ : Af)).ins),vi ((repP p j (⟨0,0⟩ : Af)).vars),vi ((repP p j (⟨0,0⟩ : Af)).root),vi ((repP p j (⟨0,0⟩ : Af)).phase),.slice A9 ((repP p j (⟨0,0⟩ : Af)).ts).length c9,.slice a6 ((repP p j (⟨0,0⟩ : Af)).out).length a7]) rfl X3 (d.at 0) rfl)) ?_)
 exact ⟨A9,c9,a6,a7,rfl,a8.top,e.top,aD,b⟩
theorem Xxy(y:World)(p:Ps)(Ap:Option Addr)(cp:Nat)(C:Rd y y.heap.size 59 encT Ap p.ts)(Bp:Option Addr)(dp:Nat)(aP:Rd y y.heap.size 62 encA Bp p.out)(aG:0≤p.phase∧p.phase<8)(hT:OkT p.ts)(aR:p.ts.length≤100000000) : Ret Tryz.prog 124 [.agg #[vi p.ins,vi p.vars,vi p.root,vi p.phase,.slice Ap p.ts.length cp,.slice Bp p.out.length dp]] y (fun v w=>∃ b9,v=.map (some b9)∧y.heap.size≤b9∧MapF w b9 (foldA (sm p.ts) (cPh p.phase))∧Below y.heap.size y w):=by
 refine enter Tryz.func124 rfl 24 rfl rfl ?_;intro a e
 have n:=bz y
 refine Zs e fun _ aH=>?_;refine Zf (X1b (zs:=[vi p.ins,vi p.vars,vi p.root,vi p.phase,.slice Ap p.ts.length cp,.slice Bp p.out.length dp]) rfl rfl) ?_;rintro _ w1 ⟨b4,rfl,aI,hE,x⟩;have aQ:=Nat.le_trans n.size aI;have n:=btr n hE;refine Za rfl<|Zx aH fun a e _ aJ=>?_;refine Zf (Xne) ?_;rintro _ w2 ⟨b6,rfl,aK,hE,b⟩;have h:=Nat.le_trans n.size aK;have x:=x.below hE;have n:=btr n hE;refine Ze (Vd rfl X0h 3)<|Ze (X0 rfl X2 (x.at 3))<|Zo (Xse (f:=fun _=>0) (i:=0) (j:=p.phase) rfl rfl rfl Tryz.underlying143 b) ?_;rintro _ w3 ⟨A,q⟩;have B:=b.nc;have x:=x.onlyN A B;have n:=Below.only n A h
 have b:=q;clear q A B;refine Zm rfl<|Za rfl<|ZX aJ fun a e _ aL=>?_;refine Zs e fun _ aM=>?_;refine Ze (Vd rfl Xt 4)<|Ze (X0 rfl X02 (x.at 4))<|Ze (X10 rfl Xk)<|Zm rfl<|Zt aM fun a e=>?_;refine wp_block<|Xw (σ:=Nat×(Int→Int)) (fun (s:Nat×(Int→Int)) (a:Act) (w:World)=>match s with|(i,g)=>Fr a 24 [(3,.map (some b6)),(11,.slice Ap p.ts.length cp),(12,vi (p.ts.length:Int)),(13,vi (i:Int))]∧(i≤p.ts.length)∧(g=foldA (sm (p.ts.take i)) (cPh p.phase))∧MapF w b6 g∧Below y.heap.size y w) (fun (s:Nat×(Int→Int))=>match s with|(i,g)=>p.ts.length-i) (0,(cPh p.phase)) ?_ ?_
 ·exact ⟨e.sb,(Nat.zero_le _),rfl,b,n⟩
 rintro ⟨i,g⟩ a w4 ⟨e,hi,hg,b,n⟩;refine Zs e fun _ aN=>?_;refine Ze (X1h rfl rfl)<|ZX aN fun a e _ aA=>?_
 refine Xg e rfl (fun d=>?_) (fun d=>?_)
 ·have a6:=d;have d:=of_decide_eq_true d
  obtain ⟨o,D⟩:=Xj (l:=p.ts) (k:=i) (by omega)
  refine wp_skip<|aA _ _<|wp_seq_k fun _ aB=>?_;refine wp_block<|Zs e fun _ aC=>?_;refine Zi (k:=i) (u:=o) (enc:=encT) (l:=p.ts) trivial rfl rfl Xk X0o Xx (C.below' n) D rfl ?_;intro aS a7;refine Ze (X04 (l:=[vi o.m,vi o.c]) rfl X2t a7 rfl)<|Zf (X4 (zs:=[vi 0,vi 0]) X4i rfl) ?_;rintro _ w5 ⟨aT,rfl,E,hE,t⟩;have a8:=Nat.le_trans n.size E;have aD:=(C.below' n).away E;have b:=b.below hE;have n:=btr n hE;refine Zo (Vw [vi o.m,vi o.c] X0o t) ?_;rintro _ w6 ⟨A,hb⟩;have aE:=t;have b:=b.only A (b.ne aE);have n:=Below.only n A a8;have t:=hb;refine Zt aC fun a e=>?_;refine Zr e<|Zm rfl<|Ze (Vd rfl X09 0)<|Ze (X0 rfl X2 (t.at 0))<|Ze (Vd rfl X1c 1)<|Ze (X0 rfl X2 (t.at 1)) ?_;refine Zo (Xrz (f:=g) (i:=o.m) (j:=o.c) rfl rfl rfl Tryz.underlying143 b) ?_;rintro _ w7 ⟨A,q⟩;have B:=b.nc;have n:=Below.only n A h
  have b:=q;clear q A B;refine Zn fun a e=>?_;refine Xa<|aB _ _<|Zr e<|Ze (Xm rfl rfl (by omega) (by omega))<|Zm rfl ?_;refine Zn fun a e=>?_;refine Xb ?_;exact ⟨(i+1,upd g o.m o.c),⟨e.sb,(by omega),(by rw [hg];exact Xj2 hT aG D),b,n⟩,(by first|omega|(dsimp only;omega))⟩
 have a6:=d;have d:=of_decide_eq_false d
 have aO:i=p.ts.length:=by have:=d;omega
 refine wp_exit<|Xe<|Xe<|Xq ?_;refine aL _ _<|Zs e fun _ aF=>?_;refine Zm rfl<|Za rfl<|Zt aF fun a e=>?_
 refine wp_ret (X7 e (X03 e rfl rfl) ?_)
 obtain rfl:g=(foldA (sm p.ts) (cPh p.phase)):=by rw [hg,aO,List.take_length]
 exact ⟨b6,rfl,h,b,n⟩
theorem Xsg(w0:World)(p:Ps)(Ap:Option Addr)(cp:Nat)(bB:Rd w0 w0.heap.size 59 encT Ap p.ts)(Bp:Option Addr)(dp:Nat)(aG:Rd w0 w0.heap.size 62 encA Bp p.out)(j:Nat)(y:Af)(dK:0≤p.phase∧p.phase<8)(hT:∀ t ∈ p.ts,Mk t.m∧0<t.c∧t.c<8)(aE:∀ a ∈ p.out,AO a)(hj:j<24)(hy:AO y)(dL:-1000≤p.vars∧p.vars≤1000)(eC:p.ts.length≤100000000)(eD:p.out.length≤100000000) : Ret Tryz.prog 88 [.agg #[vi p.ins,vi p.vars,vi p.root,vi p.phase,.slice Ap p.ts.length cp,.slice Bp p.out.length dp],vi (j:Int),.agg #[vi y.m,vi y.t]] w0 (fun v w=>∃ A9 c9 B9 d9,v=psV A9 c9 B9 d9 (subP p j y)∧Rd w w.heap.size 59 encT A9 (subP p j y).ts∧Rd w w.heap.size 62 encA B9 (subP p j y).out∧Below w0.heap.size w0 w):=by
 refine enter Tryz.func88 rfl 92 rfl rfl ?_;intro a I
 have B:=bz w0
 refine Zs I fun _ dM=>?_;refine Zf (X1b (zs:=[vi p.ins,vi p.vars,vi p.root,vi p.phase,.slice Ap p.ts.length cp,.slice Bp p.out.length dp]) rfl rfl) ?_;rintro _ w1 ⟨b4,rfl,dN,C,x⟩;have e8:=Nat.le_trans B.size dN;have B:=btr B C;refine Zf (X1b (zs:=[vi y.m,vi y.t]) rfl rfl) ?_;rintro _ w2 ⟨b5,rfl,cE,C,d⟩;have eA:=Nat.le_trans B.size cE;have dI:=(aG.below' B).away cE;have x:=x.below C;have B:=btr B C;refine Zf (X4 (zs:=[vi 0,vi 0,vi 0,vi 0,.slice none 0 0,.slice none 0 0]) X0f rfl) ?_;rintro _ w3 ⟨b8,rfl,dO,C,o⟩
 have dJ:b4≠b8:=by have:=x.lt;omega
 have cF:=Nat.le_trans B.size dO;have x:=x.below C;have d:=d.below C;have B:=btr B C;refine Zx dM fun a I _ dP=>?_;refine Zf (Xne) ?_;rintro _ w4 ⟨aH,rfl,cG,C,n⟩;have aK:=Nat.le_trans B.size cG;have x:=x.below C;have d:=d.below C;have o:=o.below C;have B:=btr B C;refine Ze (Vd rfl X0h 3)<|Ze (X0 rfl X2 (x.at 3))<|Zo (Xse (f:=fun _=>0) (i:=0) (j:=p.phase) rfl rfl rfl Tryz.underlying143 n) ?_;rintro _ w5 ⟨D,bC⟩;have aE:=n.nc;have x:=x.onlyN D aE;have d:=d.onlyN D aE;have o:=o.onlyN D aE;have B:=Below.only B D aK
 have n:=bC;clear bC D aE;refine Zm rfl<|Za rfl<|ZX dP fun a I _ cH=>?_;refine Zs I fun _ cJ=>?_;refine Ze (Vd rfl Xt 4)<|Ze (X0 rfl X02 (x.at 4))<|Ze (X10 rfl Xk)<|Zm rfl<|Zt cJ fun a I=>?_;refine wp_block<|Xw (σ:=Nat×(Int→Int)) (fun (s:Nat×(Int→Int)) (a:Act) (w:World)=>match s with|(k,g)=>Fr a 92 [(1,vi (j:Int)),(3,.pointer (some ⟨b4,0,none⟩)),(5,.pointer (some ⟨b5,0,none⟩)),(6,.pointer (some ⟨b8,0,none⟩)),(7,.map (some aH)),(18,.slice Ap p.ts.length cp),(19,vi (p.ts.length:Int)),(20,vi (k:Int))]∧(k≤p.ts.length)∧(g=foldA ((p.ts.take k).flatMap (sL j y)) (cPh p.phase))∧(PO g)∧(SupF g)∧Blk w b4 26 [vi p.ins,vi p.vars,vi p.root,vi p.phase,.slice Ap p.ts.length cp,.slice Bp p.out.length dp]∧Blk w b5 62 [vi y.m,vi y.t]∧Blk w b8 26 [vi 0,vi 0,vi 0,vi 0,.slice none 0 0,.slice none 0 0]∧MapF w aH g∧Below w0.heap.size w0 w) (fun (s:Nat×(Int→Int))=>match s with|(k,g)=>p.ts.length-k) (0,(cPh p.phase)) ?_ ?_
 ·exact ⟨I.sb,(Nat.zero_le _),rfl,(PO.cPh dK),(SupF.cPh _),x,d,o,n,B⟩
 rintro ⟨k,g⟩ a w6 ⟨I,hk,hg,hp,hs,x,d,o,n,B⟩;refine Zs I fun _ cK=>?_;refine Ze (X1h rfl rfl)<|ZX cK fun a I _ cL=>?_
 refine Xg I rfl (fun aA=>?_) (fun aA=>?_)
 ·have bH:=aA;have aA:=of_decide_eq_true aA
  obtain ⟨N,aB⟩:=Xj (l:=p.ts) (k:=k) (by omega)
  refine wp_skip<|cL _ _<|wp_seq_k fun _ bD=>?_;refine wp_block<|Zs I fun _ cM=>?_;refine Zi (k:=k) (u:=N) (enc:=encT) (l:=p.ts) trivial rfl rfl Xk X0o Xx (bB.below' B) aB rfl ?_;intro eE bJ;refine Ze (X04 (l:=[vi N.m,vi N.c]) rfl X2t bJ rfl)<|Zf (X4 (zs:=[vi 0,vi 0]) X4i rfl) ?_;rintro _ w7 ⟨eF,rfl,bE,C,Q⟩;have bK:=Nat.le_trans B.size bE;have cN:=(bB.below' B).away bE;have x:=x.below C;have d:=d.below C;have o:=o.below C;have n:=n.below C;have B:=btr B C;refine Zo (Vw [vi N.m,vi N.c] X0o Q) ?_;rintro _ w8 ⟨D,hb⟩;have e:=Q;have x:=x.only D (Blk.ne x e rfl);have d:=d.only D (Blk.ne d e rfl);have o:=o.only D (Blk.ne o e rfl);have n:=n.only D (n.ne e);have B:=Below.only B D bK;have Q:=hb;refine Zx cM fun a I _ cO=>?_;refine Ze (Vd rfl X09 0)<|Ze (X0 rfl X2 (Q.at 0))<|Zm rfl<|Ze (X5d (m:=j) rfl rfl rfl (by omega))<|Ze (Vx (X5b rfl rfl) (X3h (hT _ (List.mem_of_getElem? aB)).1 j)) ?_;refine Ze (X0x rfl rfl)<|Zt cO fun a I=>?_
  refine Xg I rfl (fun aI=>?_) (fun aI=>?_)
  ·have bL:=aI
   have W:bitQ j N.m=true:=Xn0 aI
   have aP:=hT _ (List.mem_of_getElem? aB);refine Xp (some aH) (fun _=>false) mixed ?_;intro w9 C;have x:=x.below C;have d:=d.below C;have o:=o.below C;have n:=n.below C;have Q:=Q.below C;have B:=btr B C;refine Yb I<|Yo 0 rfl (fun _=>Xd rfl)<|Yo 1 rfl (fun _=>Vd rfl X1c 1) ?_;refine Yw 2 rfl trivial (fun w1 h1=>X0 rfl X2 ((Q.onlyN h1 n.nc).at 1)) ?_;refine Yw 3 rfl trivial (fun w1 h1=>X04 (l:=[vi y.m,vi y.t]) rfl X08 ((d.onlyN h1 n.nc).at 0) rfl) ?_;refine Yo 4 rfl (fun _=>Vd rfl X09 0) ?_;refine Yw 5 rfl trivial (fun w1 h1=>X0 rfl X2 ((Q.onlyN h1 n.nc).at 0)) ?_;refine Yo 6 rfl (fun _=>Xd rfl)<|Yo 7 rfl (fun _=>Vx (X29 (m:=j) rfl rfl rfl (by omega)) (X4x hj))<|Yo 8 rfl (fun _=>Vx (X6h rfl rfl) (rfl:_=(xI N.m (pw j))))<|Y1 9 ?_;refine Yf rfl trivial (EfW.mono (Vc (Xrs _ aH g n N.c y (xI N.m (pw j)) hp (by omega) hy) Xi9) (fun _ _ h=>⟨fun _=>by obtain ⟨rfl,hK,aM⟩:=h;exact hK.keep,h⟩)) ?_;rintro _ eG ⟨rfl,hK,aM⟩;obtain ⟨wm,hO,hm,C⟩:=hK.mid;clear hm;have e:=n.nc;have x:=x.onlyN hO e;have d:=d.onlyN hO e;have o:=o.onlyN hO e;have B:=Below.only B hO aK;have x:=x.below C;have d:=d.below C;have o:=o.below C;have B:=btr B C
   clear e C hO hK;have n:=aM;clear aM;refine Yd fun a I=>?_;refine Xa<|bD _ _<|Zr I<|Ze (Xm rfl rfl (by omega) (by omega))<|Zm rfl ?_;refine Zn fun a I=>?_;refine Xb ?_;exact ⟨(k+1,expP g N.c y (xI N.m (pw j))),⟨I.sb,(by omega),(by first|exact Xso aB hg W|exact Xsb aB hg W),(by first|exact hp.padd _ _|exact hp.expP _ _ _),(by first|exact hs.pad hp aP.1|exact hs.exp hp hy (aP.1.xor (X2k hj))),x,d,o,n,B⟩,(by first|omega|(dsimp only;omega))⟩
  have bL:=aI
  have W:bitQ j N.m=false:=Xe4 aI
  have aP:=hT _ (List.mem_of_getElem? aB);refine Zr I<|Zm rfl<|Ze (Vd rfl X09 0)<|Ze (X0 rfl X2 (Q.at 0))<|Ze (Vd rfl X1c 1)<|Ze (X0 rfl X2 (Q.at 1)) ?_;refine Zf (Vc (X8a _ aH g n N.m N.c hp (by omega)) X49) ?_;rintro _ eH ⟨rfl,hK,aM⟩;obtain ⟨wm,hO,hm,C⟩:=hK.mid;clear hm;have e:=n.nc;have x:=x.onlyN hO e;have d:=d.onlyN hO e;have o:=o.onlyN hO e;have B:=Below.only B hO aK;have x:=x.below C;have d:=d.below C;have o:=o.below C;have B:=btr B C
  clear e C hO hK;have n:=aM;clear aM;refine Zn fun a I=>?_;refine Xa<|bD _ _<|Zr I<|Ze (Xm rfl rfl (by omega) (by omega))<|Zm rfl ?_;refine Zn fun a I=>?_;refine Xb ?_;exact ⟨(k+1,padd g N.m N.c),⟨I.sb,(by omega),(by first|exact Xso aB hg W|exact Xsb aB hg W),(by first|exact hp.padd _ _|exact hp.expP _ _ _),(by first|exact hs.pad hp aP.1|exact hs.exp hp hy (aP.1.xor (X2k hj))),x,d,o,n,B⟩,(by first|omega|(dsimp only;omega))⟩
 have bH:=aA;have aA:=of_decide_eq_false aA
 have dQ:k=p.ts.length:=by have:=aA;omega
 refine wp_exit<|Xe<|Xe<|Xq ?_;refine cH _ _<|Zs I fun _ cP=>?_;refine Ze (Vn X3 x)<|Zf (X4 (zs:=[vi 0,vi 0,vi 0,vi 0,.slice none 0 0,.slice none 0 0]) X0f rfl) ?_;rintro _ eI ⟨b27,rfl,cQ,C,b⟩
 have cR:b4≠b27:=by have:=x.lt;omega
 have cS:b8≠b27:=by have:=o.lt;omega
 have J:=Nat.le_trans B.size cQ;have x:=x.below C;have d:=d.below C;have o:=o.below C;have n:=n.below C;have B:=btr B C;refine Zo (Vw [vi p.ins,vi p.vars,vi p.root,vi p.phase,.slice Ap p.ts.length cp,.slice Bp p.out.length dp] Xi b) ?_;rintro _ eJ ⟨D,hb⟩;have e:=b;have x:=x.only D (by omega);have d:=d.only D (Blk.ne d e rfl);have o:=o.only D (by omega);have n:=n.only D (n.ne e);have B:=Below.only B D J;have b:=hb;refine ZX cP fun a I _ cU=>?_;refine X0i (fun a w=>∃ a6 a7,Fr a 92 [(1,vi (j:Int)),(3,.pointer (some ⟨b4,0,none⟩)),(5,.pointer (some ⟨b5,0,none⟩)),(6,.pointer (some ⟨b8,0,none⟩)),(10,.pointer (some ⟨b27,0,none⟩))]∧Own w w0.heap.size 59 2 encT a6 a7 (tms g)∧Blk w b4 26 [vi p.ins,vi p.vars,vi p.root,vi p.phase,.slice Ap p.ts.length cp,.slice Bp p.out.length dp]∧Blk w b5 62 [vi y.m,vi y.t]∧Blk w b8 26 [vi 0,vi 0,vi 0,vi 0,.slice none 0 0,.slice none 0 0]∧MapF w aH g∧Blk w b27 26 [vi p.ins,vi p.vars,vi p.root,vi (g 0),.slice a6 (tms g).length a7,.slice none 0 0]∧Below w0.heap.size w0 w) ?_ ?_
 ·refine Xp none (fun j=>[5,7,9].contains j) mixed ?_;intro eK C;have x:=x.below C;have d:=d.below C;have o:=o.below C;have n:=n.below C;have b:=b.below C;have B:=btr B C;refine Yb I<|Yo 0 rfl (fun _=>Xd rfl)<|Yo 2 rfl (fun _=>Xd rfl) ?_;refine Y2 1 3 ?_ ?_
  ·refine Yz rfl trivial (Uev (X95 (f:=g) rfl rfl Tryz.underlying143 n)) ?_;refine Yo 4 rfl (fun _=>Vd rfl X0h 3)<|Y1 3 ?_;refine Yk rfl trivial (Vc (Xhr _ aH g n hp hs) X8m) (fun _ _ ⟨a6,a7,_,A,C⟩=>C) ?_;rintro _ eL ⟨a6,a7,rfl,A,C⟩;have A:=A.lower B.size;have x:=x.below C;have d:=d.below C;have o:=o.below C;have n:=n.below C;have b:=b.below C;have B:=btr B C;refine Y1 5<|Yh rfl trivial rfl (Vu (vs:=[vi (g 0)]) (l':=[vi p.ins,vi p.vars,vi p.root,vi (g 0),.slice Ap p.ts.length cp,.slice Bp p.out.length dp]) rfl rfl X0l b) ?_;rintro _ eM ⟨D,hb⟩;have e:=b;have x:=x.only D (by omega);have d:=d.only D (Blk.ne d e rfl);have o:=o.only D (by omega);have n:=n.only D (n.ne e);have A:=A.onlyT D e rfl;have B:=Below.only B D J;have b:=hb;refine Yo 6 rfl (fun _=>Vd rfl Xt 4)<|Y1 7 ?_;refine Yh rfl trivial rfl (Vu (vs:=[.slice a6 (tms g).length a7]) (l':=[vi p.ins,vi p.vars,vi p.root,vi (g 0),.slice a6 (tms g).length a7,.slice Bp p.out.length dp]) rfl rfl X1o b) ?_;rintro _ eN ⟨D,hb⟩;have e:=b;have x:=x.only D (by omega);have d:=d.only D (Blk.ne d e rfl);have o:=o.only D (by omega);have n:=n.only D (n.ne e);have A:=A.onlyT D e rfl;have B:=Below.only B D J;have b:=hb;refine Yo 8 rfl (fun _=>Vd rfl Xl 5)<|Y1 9 ?_;refine Yh rfl trivial rfl (Vu (vs:=[.slice none 0 0]) (l':=[vi p.ins,vi p.vars,vi p.root,vi (g 0),.slice a6 (tms g).length a7,.slice none 0 0]) rfl rfl X2s b) ?_;rintro _ eO ⟨D,hb⟩;have e:=b;have x:=x.only D (by omega);have d:=d.only D (Blk.ne d e rfl);have o:=o.only D (by omega)
   have n:=n.only D (n.ne e);have A:=A.onlyT D e rfl;have B:=Below.only B D J;have b:=hb;refine Yd fun a I=>?_;exact ⟨a6,a7,I.sb,A,x,d,o,n,b,B⟩
  refine Yk rfl trivial (Vc (Xhr _ aH g n hp hs) X8m) (fun _ _ ⟨aQ,aR,_,U,C⟩=>C) ?_;rintro _ eP ⟨aQ,aR,rfl,U,C⟩;have U:=U.lower B.size;have x:=x.below C;have d:=d.below C;have o:=o.below C;have n:=n.below C;have b:=b.below C;have B:=btr B C;refine Y1 1<|Yz rfl trivial (Uev (X95 (f:=g) rfl rfl Tryz.underlying143 n)) ?_;refine Yo 4 rfl (fun _=>Vd rfl X0h 3)<|Y1 5 ?_;refine Yh rfl trivial rfl (Vu (vs:=[vi (g 0)]) (l':=[vi p.ins,vi p.vars,vi p.root,vi (g 0),.slice Ap p.ts.length cp,.slice Bp p.out.length dp]) rfl rfl X0l b) ?_;rintro _ eQ ⟨D,hb⟩;have e:=b;have x:=x.only D (by omega);have d:=d.only D (Blk.ne d e rfl);have o:=o.only D (by omega);have n:=n.only D (n.ne e);have U:=U.onlyT D e rfl;have B:=Below.only B D J;have b:=hb;refine Yo 6 rfl (fun _=>Vd rfl Xt 4)<|Y1 7 ?_;refine Yh rfl trivial rfl (Vu (vs:=[.slice aQ (tms g).length aR]) (l':=[vi p.ins,vi p.vars,vi p.root,vi (g 0),.slice aQ (tms g).length aR,.slice Bp p.out.length dp]) rfl rfl X1o b) ?_;rintro _ eR ⟨D,hb⟩;have e:=b;have x:=x.only D (by omega);have d:=d.only D (Blk.ne d e rfl);have o:=o.only D (by omega);have n:=n.only D (n.ne e);have U:=U.onlyT D e rfl;have B:=Below.only B D J;have b:=hb;refine Yo 8 rfl (fun _=>Vd rfl Xl 5)<|Y1 9 ?_;refine Yh rfl trivial rfl (Vu (vs:=[.slice none 0 0]) (l':=[vi p.ins,vi p.vars,vi p.root,vi (g 0),.slice aQ (tms g).length aR,.slice none 0 0]) rfl rfl X2s b) ?_;rintro _ eS ⟨D,hb⟩;have e:=b;have x:=x.only D (by omega);have d:=d.only D (Blk.ne d e rfl);have o:=o.only D (by omega)
  have n:=n.only D (n.ne e);have U:=U.onlyT D e rfl;have B:=Below.only B D J;have b:=hb;refine Yd fun a I=>?_;exact ⟨aQ,aR,I.sb,U,x,d,o,n,b,B⟩
 rintro a eT ⟨a6,a7,I,A,x,d,o,n,b,B⟩;refine cU _ _<|wp_seq_k fun _ cV=>?_;refine Zs I fun _ cW=>?_;refine Ze (Vd rfl Xl 5)<|Ze (X0 rfl Xy (x.at 5))<|Ze (X10 rfl Xn)<|Zm rfl<|Zt cW fun a I=>?_;refine wp_block<|Xw (σ:=Nat×(List Af)) (fun (s:Nat×(List Af)) (a:Act) (w:World)=>match s with|(q,l2)=>∃ aS bA,Fr a 92 [(1,vi (j:Int)),(5,.pointer (some ⟨b5,0,none⟩)),(6,.pointer (some ⟨b8,0,none⟩)),(10,.pointer (some ⟨b27,0,none⟩)),(56,.slice Bp p.out.length dp),(57,vi (p.out.length:Int)),(58,vi (q:Int))]∧(q≤p.out.length)∧(l2=(p.out.take q).map (sA j y))∧Blk w b5 62 [vi y.m,vi y.t]∧Blk w b8 26 [vi 0,vi 0,vi 0,vi 0,.slice none 0 0,.slice none 0 0]∧Blk w b27 26 [vi p.ins,vi p.vars,vi p.root,vi (g 0),.slice a6 (tms g).length a7,.slice aS l2.length bA]∧Own w w0.heap.size 59 2 encT a6 a7 (tms g)∧Own w w0.heap.size 62 2 encA aS bA l2∧Away aS b5∧Below w0.heap.size w0 w) (fun (s:Nat×(List Af))=>match s with|(q,l2)=>p.out.length-q) (0,[]) ?_ ?_
 ·exact ⟨none,0,I.sb,(Nat.zero_le _),rfl,d,o,b,A,(Own.nil _ _ _ _ _),(Away.no _),B⟩
 rintro ⟨q,l2⟩ a eU ⟨aS,bA,I,hq,aL,d,o,b,A,H,a8,B⟩;refine Zs I fun _ cX=>?_;refine Ze (X1h rfl rfl)<|ZX cX fun a I _ cY=>?_
 refine Xg I rfl (fun aC=>?_) (fun aC=>?_)
 ·have bM:=aC;have aC:=of_decide_eq_true aC
  obtain ⟨E,aD⟩:=Xj (l:=p.out) (k:=q) (by omega)
  refine wp_skip<|cY _ _<|wp_seq_k fun _ bF=>?_;refine wp_block<|Zs I fun _ d5=>?_;refine Zi (k:=q) (u:=E) (enc:=encA) (l:=p.out) trivial rfl rfl Xn Xu X06 (aG.below' B) aD rfl ?_;intro eW bN;refine Ze (X04 (l:=[vi E.m,vi E.t]) rfl X08 bN rfl)<|Zf (X4 (zs:=[vi 0,vi 0]) X0v rfl) ?_;rintro _ eX ⟨b44,rfl,aT,C,G⟩
  have d6:b5≠b44:=by have:=d.lt;omega
  have aU:=Nat.le_trans B.size aT;have d7:=(aG.below' B).away aT;have M:=H.away aT;have d:=d.below C;have o:=o.below C;have b:=b.below C;have A:=A.below C;have H:=H.below C;have B:=btr B C;refine Zo (Vw [vi E.m,vi E.t] Xu G) ?_;rintro _ eY ⟨D,hb⟩;have e:=G;have d:=d.only D (by omega);have o:=o.only D (Blk.ne o e rfl);have b:=b.only D (Blk.ne b e rfl);have A:=A.onlyT D e rfl;have H:=H.onlyA D M;have B:=Below.only B D aU;have G:=hb;refine ZX d5 fun a I _ bG=>?_;refine Zs I fun _ d8=>?_;refine Ze (Vd rfl X0b 0)<|Ze (X0 rfl X2 (G.at 0))<|Zm rfl<|Ze (X5d (m:=j) rfl rfl rfl (by omega))<|Ze (Vx (X5b rfl rfl) (X3h (aE _ (List.mem_of_getElem? aD)).1 j)) ?_;refine Ze (X0x rfl rfl)<|Zt d8 fun a I=>?_
  refine Xg I rfl (fun aJ=>?_) (fun aJ=>?_)
  ·have bO:=aJ
   have W:bitQ j E.m=true:=Xn0 aJ
   have dR:=aE _ (List.mem_of_getElem? aD);refine Xp none (fun j=>[14].contains j) mixed ?_;intro f4 C;have d:=d.below C;have o:=o.below C;have b:=b.below C;have G:=G.below C;have A:=A.below C;have H:=H.below C;have B:=btr B C;refine Yb I<|Yo 0 rfl (fun _=>Vd rfl X0b 0)<|Ye 1 rfl (X0 rfl X2 (G.at 0))<|Yo 2 rfl (fun _=>Xd rfl)<|Yo 3 rfl (fun _=>Vx (X29 (m:=j) rfl rfl rfl (by omega)) (X4x hj))<|Yo 4 rfl (fun _=>Vx (X6h rfl rfl) (rfl:_=(xI E.m (pw j)))) ?_;refine Yo 5 rfl (fun _=>Vd rfl X0b 0)<|Ye 6 rfl (X0 rfl X2 (d.at 0))<|Yo 7 rfl (fun _=>Vx (X6h rfl rfl) (rfl:_=(xI (xI E.m (pw j)) y.m)))<|Yo 8 rfl (fun _=>Vd rfl X0t 1)<|Ye 9 rfl (X0 rfl X2 (G.at 1)) ?_;refine Yo 10 rfl (fun _=>Vd rfl X0t 1)<|Ye 11 rfl (X0 rfl X2 (d.at 1))<|Yo 12 rfl (fun _=>Vx (X6h rfl rfl) (rfl:_=(xI E.t y.t)))<|Yo 13 rfl (fun _=>Xs (ps:=[(0,vi (xI (xI E.m (pw j)) y.m)),(1,vi (xI E.t y.t))]) (cs:=[vi (xI (xI E.m (pw j)) y.m),vi (xI E.t y.t)]) rfl (fun _=>by first|rfl|kernel_rfl))<|Y1 14 ?_;refine Yh rfl trivial rfl (Vw [vi (xI (xI E.m (pw j)) y.m),vi (xI E.t y.t)] Xu G) ?_;rintro _ f5 ⟨D,hb⟩;have e:=G;have d:=d.only D (by omega);have o:=o.only D (Blk.ne o e rfl);have b:=b.only D (Blk.ne b e rfl);have A:=A.onlyT D e rfl;have H:=H.onlyA D M;have B:=Below.only B D aU;have G:=hb;refine Yd fun a I=>?_;refine bG _ _<|Zr I<|Ze (Vd rfl Xl 5)<|Ze (X0 rfl Xy (b.at 5))<|Ze (Vn X08 G)<|Zf (X5 (k:=1) (vs:=[.agg #[vi (xI (xI E.m (pw j)) y.m),vi (xI E.t y.t)]]) (zs:=[vi (xI (xI E.m (pw j)) y.m),vi (xI E.t y.t)]) rfl Xn X19 rfl rfl) ?_;rintro _ f7 ⟨b48,rfl,aW,C,aX⟩
   have dB:b5≠b48:=by have:=d.lt;omega
   have c4:b44≠b48:=by have:=G.lt;omega
   have dS:=Nat.le_trans B.size aW;have dC:=(aG.below' B).away aW;have aN:=H.away aW;have d:=d.below C;have o:=o.below C;have b:=b.below C;have G:=G.below C;have A:=A.below C;have H:=H.below C;have B:=btr B C;refine Zf (X0p (enc:=encA) (l:=(l2)) (l2:=([(⟨(xI (xI E.m (pw j)) y.m),(xI E.t y.t)⟩ : Af)])) (B0:=w0.heap.size) rfl rfl Xn X19 X06 X2z H (Rd.of_blk aX rfl _ aX.lt) (by simp only [maxLen];rw [aL];simp;omega) (by rw [aL];simp;omega) B.size) ?_;rintro _ f8 ⟨bP,bR,rfl,aY,hg,aF⟩
   have L:Own _ w0.heap.size 62 2 encA _ _ (l2):=H
   have aZ:=aF _ d.lt a8;have c5:=aF _ G.lt M;have c6:=aF _ aX.lt aN;clear aF;have d:=d.appA hg a8;have o:=o.appT L hg rfl;have b:=b.appT L hg rfl;have A:=A.appT L hg rfl;have B:=Below.app B L hg (Nat.le_refl _) B.size;clear L hg;refine Ze (Vd rfl Xl 5)<|Zo (Vu (vs:=[.slice bP (l2++([(⟨(xI (xI E.m (pw j)) y.m),(xI E.t y.t)⟩ : Af)])).length bR]) (l':=[vi p.ins,vi p.vars,vi p.root,vi (g 0),.slice a6 (tms g).length a7,.slice bP (l2++([(⟨(xI (xI E.m (pw j)) y.m),(xI E.t y.t)⟩ : Af)])).length bR]) rfl rfl X2s b) ?_;rintro _ f9 ⟨D,hb⟩;have e:=b;have d:=d.only D (Blk.ne d e rfl);have o:=o.only D (by omega);have A:=A.onlyT D e rfl;have aY:=aY.onlyT D e rfl;have B:=Below.only B D J;have b:=hb;refine Zn fun a I=>?_;refine Xa<|bF _ _<|Zr I<|Ze (Xm rfl rfl (by omega) (by omega))<|Zm rfl ?_;refine Zn fun a I=>?_;refine Xb ?_;exact ⟨(q+1,l2++([(⟨(xI (xI E.m (pw j)) y.m),(xI E.t y.t)⟩ : Af)])),⟨bP,bR,I.sb,(by omega),(by rw [aL,X3t (sA j y) aD];first|rw [X48 W]|(rw [X48 W];rfl)|rw [Xk1 W]|(rw [Xk1 W];rfl)),d,o,b,A,aY,aZ,B⟩,(by first|omega|(dsimp only;omega))⟩
  have bO:=aJ
  have W:bitQ j E.m=false:=Xe4 aJ
  have dR:=aE _ (List.mem_of_getElem? aD);refine wp_skip<|bG _ _<|Zr I<|Ze (Vd rfl Xl 5)<|Ze (X0 rfl Xy (b.at 5))<|Ze (Vn X08 G)<|Zf (X5 (k:=1) (vs:=[.agg #[vi E.m,vi E.t]]) (zs:=[vi E.m,vi E.t]) rfl Xn X19 rfl rfl) ?_;rintro _ fA ⟨b51,rfl,b0,C,b1⟩
  have dD:b5≠b51:=by have:=d.lt;omega
  have cA:b44≠b51:=by have:=G.lt;omega
  have dU:=Nat.le_trans B.size b0;have dE:=(aG.below' B).away b0;have aO:=H.away b0;have d:=d.below C;have o:=o.below C;have b:=b.below C;have G:=G.below C;have A:=A.below C;have H:=H.below C;have B:=btr B C;refine Zf (X0p (enc:=encA) (l:=(l2)) (l2:=([E])) (B0:=w0.heap.size) rfl rfl Xn X19 X06 X2z H (Rd.of_blk b1 rfl _ b1.lt) (by simp only [maxLen];rw [aL];simp;omega) (by rw [aL];simp;omega) B.size) ?_;rintro _ fB ⟨bS,bT,rfl,b2,hg,aF⟩
  have L:Own _ w0.heap.size 62 2 encA _ _ (l2):=H
  have b3:=aF _ d.lt a8;have cC:=aF _ G.lt M;have cD:=aF _ b1.lt aO;clear aF;have d:=d.appA hg a8;have o:=o.appT L hg rfl;have b:=b.appT L hg rfl;have A:=A.appT L hg rfl;have B:=Below.app B L hg (Nat.le_refl _) B.size;clear L hg;refine Ze (Vd rfl Xl 5)<|Zo (Vu (vs:=[.slice bS (l2++([E])).length bT]) (l':=[vi p.ins,vi p.vars,vi p.root,vi (g 0),.slice a6 (tms g).length a7,.slice bS (l2++([E])).length bT]) rfl rfl X2s b) ?_;rintro _ fC ⟨D,hb⟩;have e:=b;have d:=d.only D (Blk.ne d e rfl);have o:=o.only D (by omega);have A:=A.onlyT D e rfl;have b2:=b2.onlyT D e rfl;have B:=Below.only B D J;have b:=hb;refine Zn fun a I=>?_;refine Xa<|bF _ _<|Zr I<|Ze (Xm rfl rfl (by omega) (by omega))<|Zm rfl ?_;refine Zn fun a I=>?_;refine Xb ?_;exact ⟨(q+1,l2++([E])),⟨bS,bT,I.sb,(by omega),(by rw [aL,X3t (sA j y) aD];first|rw [X48 W]|(rw [X48 W];rfl)|rw [Xk1 W]|(rw [Xk1 W];rfl)),d,o,b,A,b2,b3,B⟩,(by first|omega|(dsimp only;omega))⟩
 have bM:=aC;have aC:=of_decide_eq_false aC
 have dW:q=p.out.length:=by have:=aC;omega
 have dX:g=foldA (p.ts.flatMap (sL j y)) (cPh p.phase):=by rw [hg,dQ,List.take_length]
 have bU:l2=p.out.map (sA j y):=by rw [aL,dW,List.take_length]
 have dF:∀ a ∈ l2,Mk a.m:=fun a9 h9=>by rw [bU] at h9;obtain ⟨b9,h8,rfl⟩:=List.mem_map.1 h9;exact (Xwn hj hy (aE b9 h8)).1
 have dG:l2.length≤100000000:=by rw [bU];simp;omega
 have eB:=X4c g;refine wp_exit<|Xe<|Xe<|Xq ?_;refine cV _ _<|Zs I fun _ dH=>?_;refine Ze (Vn X3 b)<|Zm rfl<|Zf (Vc (Xmb _ (⟨p.ins,p.vars,p.root,g 0,(tms g),l2⟩ : Ps) a6 a7 A.rd.top aS bA H.rd.top j (Xbt hp).mks dF hj dL (by show (tms g).length≤100000000;omega) dG) Xbf) ?_;rintro _ fD ⟨bW,bX,bY,bZ,rfl,b6,b7,C⟩;have o:=o.below C;have B:=btr B C;refine Zo (Vw [vi ((woP (⟨p.ins,p.vars,p.root,g 0,(tms g),l2⟩ : Ps) j).ins),vi ((woP (⟨p.ins,p.vars,p.root,g 0,(tms g),l2⟩ : Ps) j).vars),vi ((woP (⟨p.ins,p.vars,p.root,g 0,(tms g),l2⟩ : Ps) j).root),vi ((woP (⟨p.ins,p.vars,p.root,g 0,(tms g),l2⟩ : Ps) j).phase),.slice bW ((woP (⟨p.ins,p.vars,p.root,g 0,(tms g),l2⟩ : Ps) j).ts).length bX,.slice bY ((woP (⟨p.ins,p.vars,p.root,g 0,(tms g),l2⟩ : Ps) j).out).length bZ] Xi o) ?_;rintro _ fE ⟨D,hb⟩;have e:=o;have b6:=b6.onlyT D e rfl;have b7:=b7.onlyT D e rfl;have B:=Below.only B D cF;have o:=hb;refine Zt dH fun a I=>?_
 refine wp_ret (X7 I (X03 I rfl (ResV.cellN (l:=[vi ((woP (⟨p.ins,p.vars,p.root,g 0,(tms g),l2⟩ : Ps) j).ins),vi ((woP (⟨p.ins,p.vars,p.root,g 0,(tms g),l2⟩ : Ps) j).vars),vi ((woP (⟨p.ins,p.vars,p.root,g 0,(tms g),l2⟩ : Ps) j).root),vi ((woP (⟨p.ins,p.vars,p.root,g 0,(tms g),l2⟩ : Ps) j).phase),.slice bW ((woP (⟨p.ins,p.vars,p.root,g 0,(tms g),l2⟩ : Ps) j).ts).length bX,.slice bY ((woP (⟨p.ins,p.vars,p.root,g 0,(tms g),l2⟩ : Ps) j).out).length bZ]) rfl X3 (o.at 0) rfl)) ?_)
 rw [Xsy,← dX,← bU]
 exact ⟨bW,bX,bY,bZ,rfl,b6.top,b7.top,B⟩
theorem Xri(L:World)(p:Ps)(Ap:Option Addr)(cp:Nat)(Q:Rd L L.heap.size 59 encT Ap p.ts)(N:Option Addr)(U:Nat)(aD:Rd L L.heap.size 62 encA N p.out)(j:Nat)(k:Int)(z:Int)(aA:0≤p.phase∧p.phase<8)(hT:OkT p.ts)(W:∀ a ∈ p.out,AO a)(hj:j<24)(hk:-8≤k∧k≤8)(hz:Mk z)(bD:-1000≤p.vars∧p.vars≤1000)(bE:p.ts.length≤100000000)(bF:p.out.length≤100000000) : Ret Tryz.prog 86 [.agg #[vi p.ins,vi p.vars,vi p.root,vi p.phase,.slice Ap p.ts.length cp,.slice N p.out.length U],vi (j:Int),vi k,vi z] L (fun v w=>∃ A9 c9 B9 d9,v=psV A9 c9 B9 d9 (stP p j k z)∧Rd w w.heap.size 59 encT A9 (stP p j k z).ts∧Rd w w.heap.size 62 encA B9 (stP p j k z).out∧Below L.heap.size L w):=by
 refine enter Tryz.func86 rfl 47 rfl rfl ?_;intro a y
 have o:=bz L
 refine Zs y fun _ bG=>?_;refine Zf (X1b (zs:=[vi p.ins,vi p.vars,vi p.root,vi p.phase,.slice Ap p.ts.length cp,.slice N p.out.length U]) rfl rfl) ?_;rintro _ w1 ⟨b4,rfl,bH,t,q⟩;have bO:=Nat.le_trans o.size bH;have o:=btr o t;refine Zf (X4 (zs:=[vi 0,vi 0,vi 0,vi 0,.slice none 0 0,.slice none 0 0]) X0f rfl) ?_;rintro _ w2 ⟨b7,rfl,bJ,t,b⟩
 have bC:b4≠b7:=by have:=q.lt;omega
 have aR:=Nat.le_trans o.size bJ;have q:=q.below t;have o:=btr o t;refine Zx bG fun a y _ bK=>?_;refine Ze (Vn X3 q)<|Zf (Vc (Xxy _ p Ap cp (Q.below' o).top N U (aD.below' o).top aA hT bE) Xqt) ?_;rintro _ w3 ⟨b9,rfl,bL,d,t⟩;have aS:=o.size;have q:=q.below t;have b:=b.below t;have o:=btr o t;have aE:=Nat.le_trans aS bL;refine Za rfl<|ZX bK fun a y _ aT=>?_;refine Zs y fun _ aU=>?_;refine Ze (Vd rfl Xt 4)<|Ze (X0 rfl X02 (q.at 4))<|Ze (X10 rfl Xk)<|Zm rfl<|Zt aU fun a y=>?_;refine wp_block<|Xw (σ:=Nat×(Int→Int)) (fun (s:Nat×(Int→Int)) (a:Act) (w:World)=>match s with|(i,g)=>Fr a 47 [(1,vi (j:Int)),(2,vi k),(3,vi z),(4,.pointer (some ⟨b4,0,none⟩)),(8,.pointer (some ⟨b7,0,none⟩)),(9,.map (some b9)),(16,.slice Ap p.ts.length cp),(17,vi (p.ts.length:Int)),(18,vi (i:Int))]∧(i≤p.ts.length)∧(g=delF j (p.ts.take i) (foldA (sm p.ts) (cPh p.phase)))∧(PO g)∧(SupF g)∧Blk w b4 26 [vi p.ins,vi p.vars,vi p.root,vi p.phase,.slice Ap p.ts.length cp,.slice N p.out.length U]∧Blk w b7 26 [vi 0,vi 0,vi 0,vi 0,.slice none 0 0,.slice none 0 0]∧MapF w b9 g∧Below L.heap.size L w) (fun (s:Nat×(Int→Int))=>match s with|(i,g)=>p.ts.length-i) (0,(foldA (sm p.ts) (cPh p.phase))) ?_ ?_
 ·exact ⟨y.sb,(Nat.zero_le _),rfl,(PO.foldA _ (PO.cPh aA)),(SupF.fold (Xsc hT.mks) (PO.cPh aA) (SupF.cPh _)),q,b,d,o⟩
 rintro ⟨i,g⟩ a w4 ⟨y,hi,hg,hp,hs,q,b,d,o⟩;refine Zs y fun _ aW=>?_;refine Ze (X1h rfl rfl)<|ZX aW fun a y _ aX=>?_
 refine Xg y rfl (fun A=>?_) (fun A=>?_)
 ·have aI:=A;have A:=of_decide_eq_true A
  obtain ⟨E,D⟩:=Xj (l:=p.ts) (k:=i) (by omega)
  refine wp_skip<|aX _ _<|wp_seq_k fun _ aF=>?_;refine wp_block<|Zs y fun _ aY=>?_;refine Zi (k:=i) (u:=E) (enc:=encT) (l:=p.ts) trivial rfl rfl Xk X0o Xx (Q.below' o) D rfl ?_;intro bR aJ;refine Ze (X04 (l:=[vi E.m,vi E.c]) rfl X2t aJ rfl)<|Zf (X4 (zs:=[vi 0,vi 0]) X4i rfl) ?_;rintro _ w5 ⟨bS,rfl,aG,t,I⟩;have aK:=Nat.le_trans o.size aG;have aZ:=(Q.below' o).away aG;have q:=q.below t;have b:=b.below t;have d:=d.below t;have o:=btr o t;refine Zo (Vw [vi E.m,vi E.c] X0o I) ?_;rintro _ w6 ⟨x,M⟩;have n:=I;have q:=q.only x (Blk.ne q n rfl);have b:=b.only x (Blk.ne b n rfl);have d:=d.only x (d.ne n);have o:=Below.only o x aK;have I:=M;refine Zx aY fun a y _ b0=>?_;refine Ze (Vd rfl X09 0)<|Ze (X0 rfl X2 (I.at 0))<|Zm rfl<|Ze (X5d (m:=j) rfl rfl rfl (by omega))<|Ze (Vx (X5b rfl rfl) (X3h (hT.mks _ (List.mem_of_getElem? D)) j)) ?_;refine Ze (X0x rfl rfl)<|Zt b0 fun a y=>?_
  refine Xg y rfl (fun J=>?_) (fun J=>?_)
  ·have aL:=J
   have a6:bitQ j E.m=true:=Xn0 J
   refine Zr y<|Zm rfl<|Ze (Vd rfl X09 0)<|Ze (X0 rfl X2 (I.at 0))<|Zo (Xxn (f:=g) (i:=E.m) rfl rfl Tryz.underlying143 d) ?_;rintro _ w7 ⟨rfl,x,aH⟩;have W:=d.nc;have q:=q.onlyN x W;have b:=b.onlyN x W;have o:=Below.only o x aE
   have d:=aH;clear aH x W;refine Zn fun a y=>?_;refine Xa<|aF _ _<|Zr y<|Ze (Xm rfl rfl (by omega) (by omega))<|Zm rfl ?_;refine Zn fun a y=>?_;refine Xb ?_;exact ⟨(i+1,upd g E.m 0),⟨y.sb,(by omega),(by first|exact Xrk D hg a6|exact Xsh D hg a6),(by first|exact hp.upd0 _|exact hp),(by first|exact hs.upd0 _|exact hs),q,b,d,o⟩,(by first|omega|(dsimp only;omega))⟩
  have aL:=J
  have a6:bitQ j E.m=false:=Xe4 J
  refine wp_skip<|Xa<|aF _ _<|Zr y ?_;refine Ze (Xm rfl rfl (by omega) (by omega))<|Zm rfl ?_;refine Zn fun a y=>?_;refine Xb ?_;exact ⟨(i+1,g),⟨y.sb,(by omega),(by first|exact Xrk D hg a6|exact Xsh D hg a6),(by first|exact hp.upd0 _|exact hp),(by first|exact hs.upd0 _|exact hs),q,b,d,o⟩,(by first|omega|(dsimp only;omega))⟩
 have aI:=A;have A:=of_decide_eq_false A
 have bM:i=p.ts.length:=by have:=A;omega
 have bN:g=foldA (sm (nob j p.ts)) (cPh p.phase):=by rw [hg,bM,List.take_length,Xom hT aA]
 have bP:=X4c (expP g k (⟨z,0⟩ : Af) 0)
 have aM:AO ⟨z,0⟩:=⟨hz,.inl rfl⟩
 refine wp_exit<|Xe<|Xe<|Xq ?_;refine aT _ _<|Zs y fun _ b1=>?_;refine Zm rfl<|Zm rfl<|Zm rfl<|Ze (Xs (ps:=[(0,vi z)]) (cs:=[vi z,vi 0]) rfl (fun _=>by first|rfl|kernel_rfl))<|Zf (Vc (Xrs _ b9 g d k (⟨z,0⟩ : Af) 0 hp hk aM) Xi9) ?_;rintro _ w8 ⟨rfl,hK,b2⟩;obtain ⟨wm,hO,hm,t⟩:=hK.mid;clear hm;have n:=d.nc;have q:=q.onlyN hO n;have b:=b.onlyN hO n;have o:=Below.only o hO aE;have q:=q.below t;have b:=b.below t;have o:=btr o t
 clear n t hO hK;have d:=b2;clear b2;refine Zx b1 fun a y _ b3=>?_;refine Ze (Vn X3 q)<|Zf (X4 (zs:=[vi 0,vi 0,vi 0,vi 0,.slice none 0 0,.slice none 0 0]) X0f rfl) ?_;rintro _ w9 ⟨b27,rfl,b5,t,e⟩
 have b6:b4≠b27:=by have:=q.lt;omega
 have b8:b7≠b27:=by have:=b.lt;omega
 have C:=Nat.le_trans o.size b5;have b:=b.below t;have d:=d.below t;have o:=btr o t;refine Zo (Vw [vi p.ins,vi p.vars,vi p.root,vi p.phase,.slice Ap p.ts.length cp,.slice N p.out.length U] Xi e) ?_;rintro _ bT ⟨x,M⟩;have n:=e;have b:=b.only x (by omega);have d:=d.only x (d.ne n);have o:=Below.only o x C;have e:=M;refine ZX b3 fun a y _ bA=>?_;refine X0i (fun a w=>∃ G H,Fr a 47 [(1,vi (j:Int)),(8,.pointer (some ⟨b7,0,none⟩)),(12,.pointer (some ⟨b27,0,none⟩))]∧Own w L.heap.size 59 2 encT G H (tms (expP g k (⟨z,0⟩ : Af) 0))∧Blk w b7 26 [vi 0,vi 0,vi 0,vi 0,.slice none 0 0,.slice none 0 0]∧MapF w b9 (expP g k (⟨z,0⟩ : Af) 0)∧Blk w b27 26 [vi p.ins,vi p.vars,vi p.root,vi ((expP g k (⟨z,0⟩ : Af) 0) 0),.slice G (tms (expP g k (⟨z,0⟩ : Af) 0)).length H,.slice N p.out.length U]∧Below L.heap.size L w) ?_ ?_
 ·refine Xp none (fun j=>[5,7].contains j) mixed ?_;intro bU t;have b:=b.below t;have d:=d.below t;have e:=e.below t;have o:=btr o t;refine Yb y<|Yo 0 rfl (fun _=>Xd rfl)<|Yo 2 rfl (fun _=>Xd rfl) ?_;refine Y2 1 3 ?_ ?_
  ·refine Yz rfl trivial (Uev (X95 (f:=expP g k (⟨z,0⟩ : Af) 0) rfl rfl Tryz.underlying143 d)) ?_;refine Yo 4 rfl (fun _=>Vd rfl X0h 3)<|Y1 3 ?_;refine Yk rfl trivial (Vc (Xhr _ b9 (expP g k (⟨z,0⟩ : Af) 0) d (hp.expP _ _ _) (hs.exp hp aM Mk.zero)) X8m) (fun _ _ ⟨G,H,_,h,t⟩=>t) ?_;rintro _ bW ⟨G,H,rfl,h,t⟩;have h:=h.lower o.size;have b:=b.below t;have d:=d.below t;have e:=e.below t;have o:=btr o t;refine Y1 5<|Yh rfl trivial rfl (Vu (vs:=[vi ((expP g k (⟨z,0⟩ : Af) 0) 0)]) (l':=[vi p.ins,vi p.vars,vi p.root,vi ((expP g k (⟨z,0⟩ : Af) 0) 0),.slice Ap p.ts.length cp,.slice N p.out.length U]) rfl rfl X0l e) ?_;rintro _ bX ⟨x,M⟩;have n:=e;have b:=b.only x (by omega);have d:=d.only x (d.ne n);have h:=h.onlyT x n rfl;have o:=Below.only o x C;have e:=M;refine Yo 6 rfl (fun _=>Vd rfl Xt 4)<|Y1 7 ?_;refine Yh rfl trivial rfl (Vu (vs:=[.slice G (tms (expP g k (⟨z,0⟩ : Af) 0)).length H]) (l':=[vi p.ins,vi p.vars,vi p.root,vi ((expP g k (⟨z,0⟩ : Af) 0) 0),.slice G (tms (expP g k (⟨z,0⟩ : Af) 0)).length H,.slice N p.out.length U]) rfl rfl X1o e) ?_;rintro _ bY ⟨x,M⟩;have n:=e;have b:=b.only x (by omega);have d:=d.only x (d.ne n);have h:=h.onlyT x n rfl;have o:=Below.only o x C;have e:=M;refine Yd fun a y=>?_;exact ⟨G,H,y.sb,h,b,d,e,o⟩
  refine Yk rfl trivial (Vc (Xhr _ b9 (expP g k (⟨z,0⟩ : Af) 0) d (hp.expP _ _ _) (hs.exp hp aM Mk.zero)) X8m) (fun _ _ ⟨aB,aC,_,B,t⟩=>t) ?_;rintro _ bZ ⟨aB,aC,rfl,B,t⟩;have B:=B.lower o.size;have b:=b.below t;have d:=d.below t;have e:=e.below t;have o:=btr o t;refine Y1 1<|Yz rfl trivial (Uev (X95 (f:=expP g k (⟨z,0⟩ : Af) 0) rfl rfl Tryz.underlying143 d)) ?_;refine Yo 4 rfl (fun _=>Vd rfl X0h 3)<|Y1 5 ?_;refine Yh rfl trivial rfl (Vu (vs:=[vi ((expP g k (⟨z,0⟩ : Af) 0) 0)]) (l':=[vi p.ins,vi p.vars,vi p.root,vi ((expP g k (⟨z,0⟩ : Af) 0) 0),.slice Ap p.ts.length cp,.slice N p.out.length U]) rfl rfl X0l e) ?_;rintro _ c4 ⟨x,M⟩;have n:=e;have b:=b.only x (by omega);have d:=d.only x (d.ne n);have B:=B.onlyT x n rfl;have o:=Below.only o x C;have e:=M;refine Yo 6 rfl (fun _=>Vd rfl Xt 4)<|Y1 7 ?_;refine Yh rfl trivial rfl (Vu (vs:=[.slice aB (tms (expP g k (⟨z,0⟩ : Af) 0)).length aC]) (l':=[vi p.ins,vi p.vars,vi p.root,vi ((expP g k (⟨z,0⟩ : Af) 0) 0),.slice aB (tms (expP g k (⟨z,0⟩ : Af) 0)).length aC,.slice N p.out.length U]) rfl rfl X1o e) ?_;rintro _ c5 ⟨x,M⟩;have n:=e;have b:=b.only x (by omega);have d:=d.only x (d.ne n);have B:=B.onlyT x n rfl;have o:=Below.only o x C;have e:=M;refine Yd fun a y=>?_;exact ⟨aB,aC,y.sb,B,b,d,e,o⟩
 rintro a c6 ⟨G,H,y,h,b,d,e,o⟩;refine bA _ _<|Zs y fun _ bB=>?_;refine Ze (Vn X3 e)<|Zm rfl<|Zf (Vc (Xmb _ (⟨p.ins,p.vars,p.root,(expP g k (⟨z,0⟩ : Af) 0) 0,(tms (expP g k (⟨z,0⟩ : Af) 0)),p.out⟩ : Ps) G H h.rd.top N U (aD.below' o).top j (Xbt (hp.expP _ _ _)).mks (fun a9 h9=>(W a9 h9).1) hj bD (by show (tms (expP g k (⟨z,0⟩ : Af) 0)).length≤100000000;omega) bF) Xbf) ?_;rintro _ cA ⟨aN,aO,aP,aQ,rfl,a7,a8,t⟩;have b:=b.below t;have o:=btr o t;refine Zo (Vw [vi ((woP (⟨p.ins,p.vars,p.root,(expP g k (⟨z,0⟩ : Af) 0) 0,(tms (expP g k (⟨z,0⟩ : Af) 0)),p.out⟩ : Ps) j).ins),vi ((woP (⟨p.ins,p.vars,p.root,(expP g k (⟨z,0⟩ : Af) 0) 0,(tms (expP g k (⟨z,0⟩ : Af) 0)),p.out⟩ : Ps) j).vars),vi ((woP (⟨p.ins,p.vars,p.root,(expP g k (⟨z,0⟩ : Af) 0) 0,(tms (expP g k (⟨z,0⟩ : Af) 0)),p.out⟩ : Ps) j).root),vi ((woP (⟨p.ins,p.vars,p.root,(expP g k (⟨z,0⟩ : Af) 0) 0,(tms (expP g k (⟨z,0⟩ : Af) 0)),p.out⟩ : Ps) j).phase),.slice aN ((woP (⟨p.ins,p.vars,p.root,(expP g k (⟨z,0⟩ : Af) 0) 0,(tms (expP g k (⟨z,0⟩ : Af) 0)),p.out⟩ : Ps) j).ts).length aO,.slice aP ((woP (⟨p.ins,p.vars,p.root,(expP g k (⟨z,0⟩ : Af) 0) 0,(tms (expP g k (⟨z,0⟩ : Af) 0)),p.out⟩ : Ps) j).out).length aQ] Xi b) ?_;rintro _ cC ⟨x,M⟩;have n:=b;have a7:=a7.onlyT x n rfl;have a8:=a8.onlyT x n rfl;have o:=Below.only o x aR;have b:=M;refine Zt bB fun a y=>?_
 refine wp_ret (X7 y (X03 y rfl (ResV.cellN (l:=[vi ((woP (⟨p.ins,p.vars,p.root,(expP g k (⟨z,0⟩ : Af) 0) 0,(tms (expP g k (⟨z,0⟩ : Af) 0)),p.out⟩ : Ps) j).ins),vi ((woP (⟨p.ins,p.vars,p.root,(expP g k (⟨z,0⟩ : Af) 0) 0,(tms (expP g k (⟨z,0⟩ : Af) 0)),p.out⟩ : Ps) j).vars),vi ((woP (⟨p.ins,p.vars,p.root,(expP g k (⟨z,0⟩ : Af) 0) 0,(tms (expP g k (⟨z,0⟩ : Af) 0)),p.out⟩ : Ps) j).root),vi ((woP (⟨p.ins,p.vars,p.root,(expP g k (⟨z,0⟩ : Af) 0) 0,(tms (expP g k (⟨z,0⟩ : Af) 0)),p.out⟩ : Ps) j).phase),.slice aN ((woP (⟨p.ins,p.vars,p.root,(expP g k (⟨z,0⟩ : Af) 0) 0,(tms (expP g k (⟨z,0⟩ : Af) 0)),p.out⟩ : Ps) j).ts).length aO,.slice aP ((woP (⟨p.ins,p.vars,p.root,(expP g k (⟨z,0⟩ : Af) 0) 0,(tms (expP g k (⟨z,0⟩ : Af) 0)),p.out⟩ : Ps) j).out).length aQ]) rfl X3 (b.at 0) rfl)) ?_)
 rw [Xvv,← X1t,← bN]
 exact ⟨aN,aO,aP,aQ,rfl,a7.top,a8.top,o⟩
theorem Xx4(w0:World)(x:Nat)(hx:x<4611686018427387904)(a6:TabAt w0) : Ret Tryz.prog 123 [.int .u64 (x:Int)] w0 (fun v w=>v=vi ((tzN x:Nat) : Int)∧w0=w):=by
 have aE:(2:Nat)^62=4611686018427387904:=by decide
 have aF:(2:Nat)^64=18446744073709551616:=by decide
 refine enter Tryz.func123 rfl 14 rfl rfl ?_;intro a b
 have hW:=bz w0
 refine Zs b fun _ a8=>?_;refine Za rfl<|ZX a8 fun a b _ aA=>?_;refine Zs b fun _ aB=>?_;refine Zm rfl<|Ze (Xxi rfl rfl)<|Zt aB fun a b=>?_
 refine Xg b rfl (fun c=>?_) (fun c=>?_)
 ·have a7:=c
  have h0:x=0:=by have:=c;simp at this;omega
  refine Zs b fun _ aC=>?_;refine Za rfl<|Zt aC fun a b=>?_;refine wp_ret<|X8<|X7 b (X03 b rfl rfl) ?_;exact ⟨by rw [show tzN x=64 from by unfold tzN;rw [if_pos h0]];rfl,rfl⟩
 have a7:=c
 have h0:x≠0:=by have:=c;simp at this;omega
 have hq:=Xvu (by omega) h0
 refine wp_skip<|aA _ _<|Zs b fun _ aD=>?_;refine Zm rfl<|Zm rfl<|Ze (Vx (Xxr rfl) (Xys (by omega) (by omega)))<|Ze (Vx (X81 rfl rfl) (Xw4 (by omega) h0))<|Ze (Vx (Xlk rfl rfl) (Xyc (2^tzN x) 285870213051353865)) ?_;refine Ze (Vx (X74 (m:=58) rfl rfl rfl (by decide)) (X6j (2^tzN x*285870213051353865 % 2^64) 58))<|Ze (Xet (k:=dbI (tzN x)) rfl rfl Tryz.underlying184 Xwa rfl (Xvp (by omega)))<|Ze (X0 rfl Xxd (Xtk a6 (by omega)))<|Ze (Xy1 Tryz.underlying5 Tryz.underlying3 rfl (by omega))<|Za rfl ?_;refine Zt aD fun a b=>?_
 refine wp_ret (X7 b (X03 b rfl rfl) ?_)
 exact ⟨rfl,rfl⟩
theorem Xvs(w0:World)(x:Nat)(hx:x<4611686018427387904)(a6:TabAt w0) : Ret Tryz.prog 84 [.int .u64 (x:Int)] w0 (fun v w=>v=vi ((tzN x:Nat) : Int)∧w0=w):=by
 refine enter Tryz.func84 rfl 8 rfl rfl ?_;intro a hf
 have hW:=bz w0
 refine Zs hf fun _ a7=>?_;refine Za rfl<|ZX a7 fun a hf _ a8=>?_;refine Xca hf rfl ?_;refine wp_skip<|a8 _ _<|Zs hf fun _ aA=>?_;refine Zm rfl<|Zf (Vc (Xx4 _ x hx a6) Xr2) ?_;rintro _ _ ⟨rfl,rfl⟩;refine Za rfl<|Zt aA fun a hf=>?_
 refine wp_ret (X7 hf (X03 hf rfl rfl) ?_)
 exact ⟨rfl,rfl⟩
theorem Xxz(H:World)(p:Ps)(Ap:Option Addr)(cp:Nat)(I:Rd H H.heap.size 59 encT Ap p.ts)(Bp:Option Addr)(dp:Nat)(aT:Rd H H.heap.size 62 encA Bp p.out)(j:Nat)(hT:OkT p.ts)(hj:j<24)(aX:p.ts.length≤100000000) : Ret Tryz.prog 83 [.agg #[vi p.ins,vi p.vars,vi p.root,vi p.phase,.slice Ap p.ts.length cp,.slice Bp p.out.length dp],vi (j:Int)] H (fun v w=>v=.tuple #[vi ((arF j p.ts).c),vi ((arF j p.ts).z),.bool ((arF j p.ts).any),.bool ((arF j p.ts).pl)]∧Below H.heap.size H w):=by
 refine enter Tryz.func83 rfl 55 rfl rfl ?_;intro a b
 have A:=bz H
 refine Zs b fun _ aK=>?_;refine Zf (X1b (zs:=[vi p.ins,vi p.vars,vi p.root,vi p.phase,.slice Ap p.ts.length cp,.slice Bp p.out.length dp]) rfl rfl) ?_;rintro _ w1 ⟨b4,rfl,aL,hE,aM⟩;have aU:=Nat.le_trans A.size aL;have A:=btr A hE;refine Za rfl<|Za rfl<|Za rfl<|Za rfl<|Zx aK fun a b _ aN=>?_;refine Za rfl<|Za rfl<|Za rfl<|Za rfl<|ZX aN fun a b _ aO=>?_;refine Zs b fun _ aP=>?_;refine Ze (Vd rfl Xt 4)<|Ze (X0 rfl X02 (aM.at 4))<|Ze (X10 rfl Xk)<|Zm rfl<|Zt aP fun a b=>?_;refine wp_block<|Xw (σ:=Nat×Ar) (fun (s:Nat×Ar) (a:Act) (w:World)=>match s with|(i,s)=>Fr a 55 [(1,vi (j:Int)),(8,vi s.c),(9,vi s.z),(10,.bool s.any),(11,.bool s.pl),(16,.slice Ap p.ts.length cp),(17,vi (p.ts.length:Int)),(18,vi (i:Int))]∧(i≤p.ts.length)∧(s=arF j (p.ts.take i))∧Below H.heap.size H w) (fun (s:Nat×Ar)=>match s with|(i,s)=>p.ts.length-i) (0,ar0) ?_ ?_
 ·exact ⟨b.sb,(Nat.zero_le _),rfl,A⟩
 rintro ⟨i,s⟩ a w2 ⟨b,hi,hs,A⟩;refine Zs b fun _ aQ=>?_;refine Ze (X1h rfl rfl)<|ZX aQ fun a b _ aR=>?_
 refine Xg b rfl (fun o=>?_) (fun o=>?_)
 ·have q:=o;have o:=of_decide_eq_true o
  obtain ⟨e,t⟩:=Xj (l:=p.ts) (k:=i) (by omega)
  refine wp_skip<|aR _ _<|wp_seq_k fun _ G=>?_;refine wp_block<|Zs b fun _ a8=>?_;refine Zi (k:=i) (u:=e) (enc:=encT) (l:=p.ts) trivial rfl rfl Xk X0o Xx (I.below' A) t rfl ?_;intro aY a6;refine Ze (X04 (l:=[vi e.m,vi e.c]) rfl X2t a6 rfl)<|Zf (X4 (zs:=[vi 0,vi 0]) X4i rfl) ?_;rintro _ w3 ⟨aZ,rfl,J,hE,g⟩;have a7:=Nat.le_trans A.size J;have aA:=(I.below' A).away J;have A:=btr A hE;refine Zo (Vw [vi e.m,vi e.c] X0o g) ?_;rintro _ w4 ⟨ho,hb⟩;have aW:=g;have A:=Below.only A ho a7;have g:=hb;refine ZX a8 fun a b _ aB=>?_;refine Zs b fun _ aC=>?_;refine Ze (Vd rfl X09 0)<|Ze (X0 rfl X2 (g.at 0))<|Zm rfl<|Ze (X5d (m:=j) rfl rfl rfl (by omega))<|Ze (Vx (X5b rfl rfl) (X3h (hT.mks _ (List.mem_of_getElem? t)) j)) ?_;refine Ze (X0x rfl rfl)<|Zt aC fun a b=>?_
  refine Xg b rfl (fun C=>?_) (fun C=>?_)
  ·have x:=C
   have f:bitQ j e.m=false:=Xts C
   refine wp_exit<|Xe<|Xq<|G _ _ ?_;refine Zr b<|Ze (Xm rfl rfl (by omega) (by omega))<|Zm rfl ?_;refine Zn fun a b=>?_;refine Xb ?_;exact ⟨(i+1,(⟨s.c,s.z,s.any,s.pl⟩ : Ar)),⟨b.sb,(by omega),(X4b t hs (by first|exact Xct f|exact Xd1 f n|exact Xa9 f n B|exact Xe9 f n B)),A⟩,(by first|omega|(dsimp only;omega))⟩
  have x:=C
  have f:bitQ j e.m=true:=Xn9 C
  refine wp_skip<|aB _ _<|Zs b fun _ aD=>?_;refine Za rfl<|ZX aD fun a b _ aE=>?_;refine Xp none (fun _=>false) mixed ?_;intro w5 hE;have g:=g.below hE;have A:=btr A hE;refine Yb b<|Yo 0 rfl (fun _=>Vd rfl X09 0)<|Ye 1 rfl (X0 rfl X2 (g.at 0))<|Yo 2 rfl (fun _=>Xd rfl)<|Yo 3 rfl (fun _=>Vx (X29 (m:=j) rfl rfl rfl (by omega)) (X4x hj))<|Yo 4 rfl (fun _=>Vx (X6h rfl rfl) (rfl:_=(xI e.m (pw j)))) ?_;refine Yo 5 rfl (fun _=>X31 rfl) ?_;refine Yd fun a b=>?_;refine aE _ _<|Zs b fun _ aF=>?_;refine Zm rfl<|Zf (Vc (Xsr _ (xI e.m (pw j)) ((hT.mks _ (List.mem_of_getElem? t)).xor (X2k hj))) Xga) ?_;rintro _ _ ⟨rfl,rfl⟩;refine Zt aF fun a b=>?_;refine wp_block<|Zs b fun _ aG=>?_;refine Ze (X0x rfl rfl)<|Za rfl<|Zt aG fun a b=>?_
  refine Xg b rfl (fun D=>?_) (fun D=>?_)
  ·have y:=D
   have n:szI (xI e.m (pw j))=0:=by have:=D;simp at this;omega
   refine Zr b<|Ze (Vd rfl X1c 1)<|Ze (X0 rfl X2 (g.at 1))<|Za rfl ?_;refine Zn fun a b=>?_;refine Xa<|Xa<|G _ _<|Zr b ?_;refine Ze (Xm rfl rfl (by omega) (by omega))<|Zm rfl ?_;refine Zn fun a b=>?_;refine Xb ?_;exact ⟨(i+1,(⟨e.c,s.z,true,s.pl⟩ : Ar)),⟨b.sb,(by omega),(X4b t hs (by first|exact Xct f|exact Xd1 f n|exact Xa9 f n B|exact Xe9 f n B)),A⟩,(by first|omega|(dsimp only;omega))⟩
  have y:=D
  have n:¬ szI (xI e.m (pw j))=0:=by have:=D;simp at this;omega
  refine Zs b fun _ aH=>?_;refine Ze (X0x rfl rfl)<|Za rfl<|Zt aH fun a b=>?_
  refine Xg b rfl (fun E=>?_) (fun E=>?_)
  ·have h:=E
   have B:szI (xI e.m (pw j))=1:=by have:=E;simp at this;omega
   refine Zs b fun _ aI=>?_;refine Zm rfl<|Zm rfl<|Ze (Vx (Vor rfl rfl) (rfl:_=(oI s.z (xI e.m (pw j)))))<|Za rfl<|Zt aI fun a b=>?_;refine X0i (fun a w=>Fr a 55 [(1,vi (j:Int)),(8,vi s.c),(9,vi (oI s.z (xI e.m (pw j)))),(10,.bool true),(11,.bool (s.pl&&(e.c==4))),(16,.slice Ap p.ts.length cp),(17,vi (p.ts.length:Int)),(18,vi (i:Int))]∧w5=w) ?_ ?_
   ·refine Zr b<|Zm rfl<|Zm rfl ?_
    refine Zg 45 rfl (fun d=>?_) (fun d=>?_)
    ·refine Zv (gW d) (Vd rfl X1c 1) ?_;refine Zv (gW d) (X0 rfl X2 (g.at 1)) ?_;refine Zv (gW d) (X0x rfl rfl) ?_;refine Ze (X6 rfl d rfl)<|Za rfl ?_;refine Zn fun a b=>?_;exact ⟨b.sub ⟨rfl,rfl,rfl,rfl,X1 rfl (by first|rfl|(simp only [q,x,y,h,d,bs];done)|simp [q,x,y,h,d]),rfl,rfl,rfl,trivial⟩,rfl⟩
    refine Zp (gP d) ?_;refine Zp (gP d) ?_;refine Zp (gP d) ?_;refine Ze (Xf rfl d rfl)<|Za rfl ?_;refine Zn fun a b=>?_;exact ⟨b.sub ⟨rfl,rfl,rfl,rfl,X1 rfl (by first|rfl|(simp only [q,x,y,h,d,bs];done)|simp [q,x,y,h,d]),rfl,rfl,rfl,trivial⟩,rfl⟩
   rintro a _ ⟨b,rfl⟩;refine Xa<|Xa<|G _ _<|Zr b ?_;refine Ze (Xm rfl rfl (by omega) (by omega))<|Zm rfl ?_;refine Zn fun a b=>?_;refine Xb ?_;exact ⟨(i+1,(⟨s.c,(oI s.z (xI e.m (pw j))),true,s.pl&&(e.c==4)⟩ : Ar)),⟨b.sb,(by omega),(X4b t hs (by first|exact Xct f|exact Xd1 f n|exact Xa9 f n B|exact Xe9 f n B)),A⟩,(by first|omega|(dsimp only;omega))⟩
  have h:=E
  have B:¬ szI (xI e.m (pw j))=1:=by have:=E;simp at this;omega
  refine Zr b<|Za rfl ?_;refine Zn fun a b=>?_;refine Xa<|Xa<|G _ _<|Zr b ?_;refine Ze (Xm rfl rfl (by omega) (by omega))<|Zm rfl ?_;refine Zn fun a b=>?_;refine Xb ?_;exact ⟨(i+1,(⟨s.c,s.z,true,false⟩ : Ar)),⟨b.sb,(by omega),(X4b t hs (by first|exact Xct f|exact Xd1 f n|exact Xa9 f n B|exact Xe9 f n B)),A⟩,(by first|omega|(dsimp only;omega))⟩
 have q:=o;have o:=of_decide_eq_false o
 have aS:i=p.ts.length:=by have:=o;omega
 refine wp_exit<|Xe<|Xe<|Xq ?_;refine aO _ _<|Zs b fun _ aJ=>?_;refine Zm rfl<|Zm rfl<|Zm rfl<|Zm rfl<|Za rfl ?_;refine Za rfl<|Za rfl<|Za rfl<|Zt aJ fun a b=>?_
 refine wp_ret (X7 b (Xye b rfl rfl rfl rfl rfl) ?_)
 obtain rfl:s=arF j p.ts:=by rw [hs,aS,List.take_length]
 exact ⟨rfl,A⟩
theorem Xxb(w0:World)(p:Ps)(Ap:Option Addr)(cp:Nat)(aM:Rd w0 w0.heap.size 59 encT Ap p.ts)(Bp:Option Addr)(dp:Nat)(aN:Rd w0 w0.heap.size 62 encA Bp p.out)(j:Nat)(hV:VPs p)(hj:j<24)(cE:p.ts.length≤100000000)(cF:p.out.length≤100000000) : Ret Tryz.prog 116 [.agg #[vi p.ins,vi p.vars,vi p.root,vi p.phase,.slice Ap p.ts.length cp,.slice Bp p.out.length dp],vi (j:Int)] w0 (fun v w=>v=.tuple #[vi ((ruR p j).1),vi ((ruR p j).2.1),vi ((ruR p j).2.2)]∧Below w0.heap.size w0 w):=by
 have hT:=hV.ts;have cC:=hV.ins;refine enter Tryz.func116 rfl 103 rfl rfl ?_;intro a b
 have h:=bz w0
 refine Zs b fun _ bW=>?_;refine Zf (X1b (zs:=[vi p.ins,vi p.vars,vi p.root,vi p.phase,.slice Ap p.ts.length cp,.slice Bp p.out.length dp]) rfl rfl) ?_;rintro _ w1 ⟨b4,rfl,bX,hE,g⟩;have cD:=Nat.le_trans h.size bX;have h:=btr h hE;refine Za rfl<|Za rfl<|Za rfl<|Zx bW fun a b _ bY=>?_;refine Za rfl<|Za rfl<|ZX bY fun a b _ bZ=>?_;refine Zs b fun _ c4=>?_;refine Ze (Vd rfl Xl 5)<|Ze (X0 rfl Xy (g.at 5))<|Ze (X10 rfl Xn)<|Zm rfl<|Zt c4 fun a b=>?_;refine wp_block<|Xw (σ:=Nat) (fun (q:Nat) (a:Act) (w:World)=>Fr a 103 [(1,vi (j:Int)),(2,.pointer (some ⟨b4,0,none⟩)),(7,vi 0),(8,vi 0),(15,.slice Bp p.out.length dp),(16,vi (p.out.length:Int)),(17,vi (q:Int))]∧(q≤p.out.length)∧((p.out.take q).all (fun a=>!bitQ j a.m)=true)∧Blk w b4 26 [vi p.ins,vi p.vars,vi p.root,vi p.phase,.slice Ap p.ts.length cp,.slice Bp p.out.length dp]∧Below w0.heap.size w0 w) (fun (q:Nat)=>p.out.length-q) 0 ?_ ?_
 ·exact ⟨b.sb,(Nat.zero_le _),(by simp),g,h⟩
 rintro q a w2 ⟨b,hq,aF,g,h⟩;refine Zs b fun _ c5=>?_;refine Ze (X1h rfl rfl)<|ZX c5 fun a b _ c6=>?_
 refine Xg b rfl (fun G=>?_) (fun G=>?_)
 ·have d:=G;have G:=of_decide_eq_true G
  obtain ⟨aB,aC⟩:=Xj (l:=p.out) (k:=q) (by omega)
  refine wp_skip<|c6 _ _<|wp_seq_k fun _ b1=>?_;refine wp_block<|Zs b fun _ b2=>?_;refine Zi (k:=q) (u:=aB) (enc:=encA) (l:=p.out) trivial rfl rfl Xn Xu X06 (aN.below' h) aC rfl ?_;intro cG aR;refine Ze (X04 (l:=[vi aB.m,vi aB.t]) rfl X08 aR rfl)<|Zf (X4 (zs:=[vi 0,vi 0]) X0v rfl) ?_;rintro _ w3 ⟨cH,rfl,aO,hE,aD⟩;have aS:=Nat.le_trans h.size aO;have b3:=(aN.below' h).away aO;have g:=g.below hE;have h:=btr h hE;refine Zo (Vw [vi aB.m,vi aB.t] Xu aD) ?_;rintro _ w4 ⟨ho,hb⟩;have aG:=aD;have g:=g.only ho (Blk.ne g aG rfl);have h:=Below.only h ho aS;have aD:=hb;refine Zx b2 fun a b _ b5=>?_;refine Ze (Vd rfl X0b 0)<|Ze (X0 rfl X2 (aD.at 0))<|Zm rfl<|Ze (X2x (m:=j) Tryz.underlying3 Tryz.underlying109 rfl rfl (by omega))<|Ze (X5d (m:=j) rfl rfl rfl (by omega)) ?_;refine Ze (Vx (X5b rfl rfl) (X3h (hV.out _ (List.mem_of_getElem? aC)).1.1 j))<|Ze (X0x rfl rfl)<|Zt b5 fun a b=>?_
  refine Xg b rfl (fun N=>?_) (fun N=>?_)
  ·have aT:=N
   have L:bitQ j aB.m=true:=Xn0 N
   refine Zs b fun _ b6=>?_;refine Za rfl<|Za rfl<|Za rfl<|Zt b6 fun a b=>?_;refine wp_ret<|Xr<|X8<|X8 ?_;refine Xr<|X8<|X7 b (X3n b rfl rfl rfl rfl) ?_
   rw [Xh5 (Xnf aC L)];exact ⟨rfl,h⟩
  have aT:=N
  have L:bitQ j aB.m=false:=Xe4 N
  refine wp_skip<|Xa<|b1 _ _<|Zr b ?_;refine Ze (Xm rfl rfl (by omega) (by omega))<|Zm rfl ?_;refine Zn fun a b=>?_;refine Xb ?_;exact ⟨q+1,⟨b.sb,(by omega),(X5u aF aC (by rw [L];rfl)),g,h⟩,(by omega)⟩
 have d:=G;have G:=of_decide_eq_false G
 have aH:outB j p.out=false:=Xoe (X4r aF (by have:=G;omega))
 refine wp_exit<|Xe<|Xe<|Xq ?_;refine bZ _ _<|wp_seq_k fun _ b7=>?_;refine Zs b fun _ b8=>?_;refine Ze (Vd rfl Xt 4)<|Ze (X0 rfl X02 (g.at 4))<|Ze (X10 rfl Xk)<|Zm rfl<|Zt b8 fun a b=>?_;refine wp_block<|Xw (σ:=Nat×Ar) (fun (s:Nat×Ar) (a:Act) (w:World)=>match s with|(i,s)=>Fr a 103 [(1,vi (j:Int)),(2,.pointer (some ⟨b4,0,none⟩)),(7,vi s.c),(8,vi s.z),(30,.slice Ap p.ts.length cp),(31,vi (p.ts.length:Int)),(32,vi (i:Int))]∧(i≤p.ts.length)∧(s=arF j (p.ts.take i))∧(s.pl=true)∧Blk w b4 26 [vi p.ins,vi p.vars,vi p.root,vi p.phase,.slice Ap p.ts.length cp,.slice Bp p.out.length dp]∧Below w0.heap.size w0 w) (fun (s:Nat×Ar)=>match s with|(i,s)=>p.ts.length-i) (0,ar0) ?_ ?_
 ·exact ⟨b.sb,(Nat.zero_le _),rfl,rfl,g,h⟩
 rintro ⟨i,s⟩ a w5 ⟨b,hi,hs,M,g,h⟩;refine Zs b fun _ b9=>?_;refine Ze (X1h rfl rfl)<|ZX b9 fun a b _ bA=>?_
 refine Xg b rfl (fun H=>?_) (fun H=>?_)
 ·have e:=H;have H:=of_decide_eq_true H
  obtain ⟨n,D⟩:=Xj (l:=p.ts) (k:=i) (by omega)
  refine wp_skip<|bA _ _<|wp_seq_k fun _ aI=>?_;refine wp_block<|Zs b fun _ bB=>?_;refine Zi (k:=i) (u:=n) (enc:=encT) (l:=p.ts) trivial rfl rfl Xk X0o Xx (aM.below' h) D rfl ?_;intro cJ aU;refine Ze (X04 (l:=[vi n.m,vi n.c]) rfl X2t aU rfl)<|Zf (X4 (zs:=[vi 0,vi 0]) X4i rfl) ?_;rintro _ w6 ⟨cK,rfl,aP,hE,E⟩;have aW:=Nat.le_trans h.size aP;have bC:=(aM.below' h).away aP;have g:=g.below hE;have h:=btr h hE;refine Zo (Vw [vi n.m,vi n.c] X0o E) ?_;rintro _ w7 ⟨ho,hb⟩;have aG:=E;have g:=g.only ho (Blk.ne g aG rfl);have h:=Below.only h ho aW;have E:=hb;refine ZX bB fun a b _ bD=>?_;refine Zs b fun _ bE=>?_;refine Ze (Vd rfl X09 0)<|Ze (X0 rfl X2 (E.at 0))<|Zm rfl<|Ze (X2x (m:=j) Tryz.underlying3 Tryz.underlying109 rfl rfl (by omega))<|Ze (X5d (m:=j) rfl rfl rfl (by omega)) ?_;refine Ze (Vx (X5b rfl rfl) (X3h (hT.mks _ (List.mem_of_getElem? D)) j))<|Ze (X0x rfl rfl)<|Zt bE fun a b=>?_
  refine Xg b rfl (fun Q=>?_) (fun Q=>?_)
  ·have I:=Q
   have L:bitQ j n.m=false:=Xts Q
   refine wp_exit<|Xe<|Xq<|aI _ _ ?_;refine Zr b<|Ze (Xm rfl rfl (by omega) (by omega))<|Zm rfl ?_;refine Zn fun a b=>?_;refine Xb ?_;exact ⟨(i+1,s),⟨b.sb,(by omega),(X4b D hs (Xct L)),M,g,h⟩,(by first|omega|(dsimp only;omega))⟩
  have I:=Q
  have L:bitQ j n.m=true:=Xn9 Q
  refine wp_skip<|bD _ _<|Zs b fun _ bF=>?_;refine Ze (Vd rfl X09 0)<|Ze (X0 rfl X2 (E.at 0))<|Zm rfl<|Ze (X2x (m:=j) Tryz.underlying3 Tryz.underlying109 rfl rfl (by omega))<|Ze (Vx (X29 (m:=j) rfl rfl rfl (by omega)) (X4x hj)) ?_;refine Ze (Vx (X6h rfl rfl) (rfl:_=(xI n.m (pw j))))<|Za rfl<|Zt bF fun a b=>?_;refine wp_block<|Zs b fun _ bG=>?_;refine Zm rfl<|Ze (X0x rfl rfl)<|Za rfl<|Zt bG fun a b=>?_
  refine Xg b rfl (fun U=>?_) (fun U=>?_)
  ·have J:=U
   have aJ:szI (xI n.m (pw j))=0:=(X75 ((hT.mks _ (List.mem_of_getElem? D)).xor (X2k hj))).2 (by simpa using U)
   refine Zr b<|Ze (Vd rfl X1c 1)<|Ze (X0 rfl X2 (E.at 1))<|Za rfl ?_;refine Zn fun a b=>?_;refine Xa<|Xa<|aI _ _<|Zr b ?_;refine Ze (Xm rfl rfl (by omega) (by omega))<|Zm rfl ?_;refine Zn fun a b=>?_;refine Xb ?_;exact ⟨(i+1,(⟨n.c,s.z,true,s.pl⟩ : Ar)),⟨b.sb,(by omega),(X4b D hs (Xd1 L aJ)),M,g,h⟩,(by first|omega|(dsimp only;omega))⟩
  have J:=U
  have aJ:¬ szI (xI n.m (pw j))=0:=fun h9=>by have h8:=(X75 ((hT.mks _ (List.mem_of_getElem? D)).xor (X2k hj))).1 h9;have:=U;rw [h8] at this;cases this
  refine wp_seq_k fun _ bH=>?_;refine X0i (fun a w=>Fr a 103 [(1,vi (j:Int)),(2,.pointer (some ⟨b4,0,none⟩)),(7,vi s.c),(8,vi s.z),(13,vi (xI n.m (pw j))),(30,.slice Ap p.ts.length cp),(31,vi (p.ts.length:Int)),(32,vi (i:Int)),(54,.bool ((((szI (xI n.m (pw j)) : Nat) : Int)==1)&&(n.c==4)))]∧Below w7.heap.size w7 w) ?_ ?_
  ·have aK:Below w7.heap.size w7 w7:=Below.refl _ _
   refine Zr b<|Zm rfl<|Zf (Vc (X4h _ (xI n.m (pw j)) ((hT.mks _ (List.mem_of_getElem? D)).xor (X2k hj)).b62) X3g) ?_;rintro _ w8 ⟨cL,cM,rfl,aQ,hE⟩;have aQ:=aQ.lower h.size;have E:=E.below hE;have h:=btr h hE;have aK:=btr aK hE;refine Ze (Vx (X10 rfl X00) (X8n _))<|Ze (X0x rfl rfl)<|Zm rfl ?_
   refine Zg 59 rfl (fun x=>?_) (fun x=>?_)
   ·refine Zv (gW x) (Vd rfl X1c 1) ?_;refine Zv (gW x) (X0 rfl X2 (E.at 1)) ?_;refine Zv (gW x) (X0x rfl rfl) ?_;refine Ze (X6 rfl x rfl)<|Za rfl ?_;refine Zn fun a b=>?_
    have aX:Below w7.heap.size w7 w8:=aK
    exact ⟨b.sub ⟨rfl,rfl,rfl,rfl,rfl,rfl,rfl,rfl,X1 rfl (by first|rfl|(simp only [d,e,I,J,x,bs];done)|simp [d,e,I,J,x]),trivial⟩,aX⟩
   refine Zp (gP x) ?_;refine Zp (gP x) ?_;refine Zp (gP x) ?_;refine Ze (Xf rfl x rfl)<|Za rfl ?_;refine Zn fun a b=>?_
   have aX:Below w7.heap.size w7 w8:=aK
   exact ⟨b.sub ⟨rfl,rfl,rfl,rfl,rfl,rfl,rfl,rfl,X1 rfl (by first|rfl|(simp only [d,e,I,J,x,bs];done)|simp [d,e,I,J,x]),trivial⟩,aX⟩
  rintro a w9 ⟨b,hE⟩;have g:=g.below hE;have h:=btr h hE;refine bH _ _ ?_
  refine Xg b rfl (fun W=>?_) (fun W=>?_)
  ·have aY:=W
   have bJ:szI (xI n.m (pw j))=1∧(n.c==4)=true:=by have:=W;simp at this ⊢;omega
   refine Zr b<|Zm rfl<|Zm rfl<|Ze (Vx (Vor rfl rfl) (rfl:_=(oI s.z (xI n.m (pw j)))))<|Za rfl ?_;refine Zn fun a b=>?_;refine Xa<|Xa<|aI _ _<|Zr b ?_;refine Ze (Xm rfl rfl (by omega) (by omega))<|Zm rfl ?_;refine Zn fun a b=>?_;refine Xb ?_;exact ⟨(i+1,(⟨s.c,(oI s.z (xI n.m (pw j))),true,s.pl&&n.c==4⟩ : Ar)),⟨b.sb,(by omega),(X4b D hs (Xa9 L aJ bJ.1)),(by show (s.pl&&n.c==4)=true;rw [M,bJ.2];rfl),g,h⟩,(by first|omega|(dsimp only;omega))⟩
  have aY:=W
  have bK:(arStep j s n).pl=false:=by
   by_cases h1:szI (xI n.m (pw j))=1
   ·rw [Xa9 L aJ h1];have:=W;simp [h1] at this ⊢;exact fun _=>this
   ·rw [Xe9 L aJ h1]
  have aZ:(arF j p.ts).pl=false:=Xur (i:=i+1) (by rw [← X4b D hs rfl];exact bK)
  refine Zs b fun _ bL=>?_;refine Za rfl<|Za rfl<|Za rfl<|Zt bL fun a b=>?_;refine wp_ret<|Xr<|Xr<|X8 ?_;refine X8<|Xr<|X8<|X7 b (X3n b rfl rfl rfl rfl) ?_
  rw [Xv7 aH aZ];exact ⟨rfl,h⟩
 have e:=H;have H:=of_decide_eq_false H
 have cA:i=p.ts.length:=by have:=H;omega
 rw [cA,List.take_length] at hs
 refine wp_exit<|Xe<|Xe<|Xq ?_;refine b7 _ _<|wp_seq_k fun _ bM=>?_;refine wp_block<|wp_seq_k fun _ bN=>?_;refine X0i (fun a w=>Fr a 103 [(2,.pointer (some ⟨b4,0,none⟩)),(7,vi s.c),(8,vi s.z),(68,.bool ((s.c==0)&&(s.z==0)))]∧w5=w) ?_ ?_
 ·refine Zr b<|Zm rfl<|Ze (X0x rfl rfl)<|Zm rfl ?_
  refine Zg 71 rfl (fun A=>?_) (fun A=>?_)
  ·refine Zv (gW A) (Xd rfl) ?_;refine Zv (gW A) (X0x rfl rfl) ?_;refine Ze (X6 rfl A rfl)<|Za rfl ?_;refine Zn fun a b=>?_;exact ⟨b.sub ⟨rfl,rfl,rfl,X1 rfl (by first|rfl|(simp only [d,e,A,bs];done)|simp [d,e,A]),trivial⟩,rfl⟩
  refine Zp (gP A) ?_;refine Zp (gP A) ?_;refine Ze (Xf rfl A rfl)<|Za rfl ?_;refine Zn fun a b=>?_;exact ⟨b.sub ⟨rfl,rfl,rfl,X1 rfl (by first|rfl|(simp only [d,e,A,bs];done)|simp [d,e,A]),trivial⟩,rfl⟩
 rintro a _ ⟨b,rfl⟩;refine bN _ _ ?_
 refine Xg b rfl (fun a6=>?_) (fun a6=>?_)
 ·have o:=a6
  have a7:s.c=0∧s.z=0:=by have:=a6;simpa using this
  refine Zs b fun _ bO=>?_;refine Zm rfl<|Zm rfl<|Za rfl<|Za rfl<|Za rfl ?_;refine Zt bO fun a b=>?_;refine wp_ret<|Xr<|X8<|X7 b (X3n b rfl rfl rfl rfl) ?_
  rw [Xi5 aH hs (by rw [Xss M a7];decide),Xss M a7];exact ⟨rfl,h⟩
 have o:=a6
 have a7:¬ (s.c=0∧s.z=0):=by have:=a6;simpa using this
 refine wp_seq_k fun _ bP=>?_;refine X0i (fun a w=>Fr a 103 [(2,.pointer (some ⟨b4,0,none⟩)),(7,vi s.c),(8,vi s.z),(77,.bool ((s.c==2)||(s.c==6)))]∧w5=w) ?_ ?_
 ·refine Zr b<|Zm rfl<|Ze (X0x rfl rfl)<|Zm rfl ?_
  refine Zg 80 rfl (fun B=>?_) (fun B=>?_)
  ·refine Zp (gP B) ?_;refine Zp (gP B) ?_;refine Ze (X6 rfl B rfl)<|Za rfl ?_;refine Zn fun a b=>?_;exact ⟨b.sub ⟨rfl,rfl,rfl,X1 rfl (by first|rfl|(simp only [d,e,o,B,bs];done)|simp [d,e,o,B]),trivial⟩,rfl⟩
  refine Zv (gW B) (Xd rfl) ?_;refine Zv (gW B) (X0x rfl rfl) ?_;refine Ze (Xf rfl B rfl)<|Za rfl ?_;refine Zn fun a b=>?_;exact ⟨b.sub ⟨rfl,rfl,rfl,X1 rfl (by first|rfl|(simp only [d,e,o,B,bs];done)|simp [d,e,o,B]),trivial⟩,rfl⟩
 rintro a _ ⟨b,rfl⟩;refine bP _ _ ?_
 refine Xg b rfl (fun a8=>?_) (fun a8=>?_)
 ·have C:=a8
  have aE:s.c=2∨s.c=6:=by have:=a8;simpa using this
  refine Zs b fun _ bR=>?_;refine Zm rfl<|Zm rfl<|Za rfl<|Za rfl<|Za rfl ?_;refine Zt bR fun a b=>?_;refine wp_ret<|Xr<|X8<|X7 b (X3n b rfl rfl rfl rfl) ?_
  rw [Xi5 aH hs (by rw [Xnx M a7 aE];decide),Xnx M a7 aE];exact ⟨rfl,h⟩
 have C:=a8
 have aE:¬ (s.c=2∨s.c=6):=by have:=a8;simpa using this
 refine wp_seq_k fun _ bS=>?_;refine X0i (fun a w=>Fr a 103 [(7,vi s.c),(8,vi s.z),(86,.bool (((s.c==0)||(s.c==4))&&(decide (0<(s.z/2^p.ins.toNat)))))]∧w5=w) ?_ ?_
 ·refine Zr b<|Zm rfl<|Ze (X0x rfl rfl)<|Zm rfl ?_
  refine Zg 89 rfl (fun y=>?_) (fun y=>?_)
  ·refine Zp (gP y) ?_;refine Zp (gP y) ?_;refine Ze (X6 rfl y rfl)<|Zm rfl<|Zv (gW rfl) (Xd rfl) ?_;refine Zv (gW rfl) (Vd rfl X01 0) ?_;refine Zv (gW rfl) (X0 rfl X2 (g.at 0)) ?_;refine Zv (gW rfl) (X2x (m:=p.ins.toNat) Tryz.underlying3 Tryz.underlying109 rfl (by omega) (by omega)) ?_;refine Zv (gW rfl) (X5d (m:=p.ins.toNat) rfl rfl rfl (by omega)) ?_;refine Zv (gW rfl) (X3o rfl rfl) ?_;refine Ze (X6 rfl rfl rfl)<|Za rfl ?_;refine Zn fun a b=>?_;exact ⟨b.sub ⟨rfl,rfl,X1 rfl (by first|rfl|(simp only [d,e,o,C,y,bs];done)|simp [d,e,o,C,y]),trivial⟩,rfl⟩
  refine Zv (gW y) (Xd rfl) ?_;refine Zv (gW y) (X0x rfl rfl) ?_;refine Ze (Xf rfl y rfl)<|Zm rfl ?_
  refine Zg 93 rfl (fun f=>?_) (fun f=>?_)
  ·refine Zv (gW f) (Xd rfl) ?_;refine Zv (gW f) (Vd rfl X01 0) ?_;refine Zv (gW f) (X0 rfl X2 (g.at 0)) ?_;refine Zv (gW f) (X2x (m:=p.ins.toNat) Tryz.underlying3 Tryz.underlying109 rfl (by omega) (by omega)) ?_;refine Zv (gW f) (X5d (m:=p.ins.toNat) rfl rfl rfl (by omega)) ?_;refine Zv (gW f) (X3o rfl rfl) ?_;refine Ze (X6 rfl f rfl)<|Za rfl ?_;refine Zn fun a b=>?_;exact ⟨b.sub ⟨rfl,rfl,X1 rfl (by first|rfl|(simp only [d,e,o,C,y,f,bs];done)|simp [d,e,o,C,y,f]),trivial⟩,rfl⟩
  refine Zp (gP f) ?_;refine Zp (gP f) ?_;refine Zp (gP f) ?_;refine Zp (gP f) ?_;refine Zp (gP f) ?_;refine Zp (gP f) ?_;refine Ze (Xf rfl f rfl)<|Za rfl ?_;refine Zn fun a b=>?_;exact ⟨b.sub ⟨rfl,rfl,X1 rfl (by first|rfl|(simp only [d,e,o,C,y,f,bs];done)|simp [d,e,o,C,y,f]),trivial⟩,rfl⟩
 rintro a _ ⟨b,rfl⟩;refine bS _ _ ?_
 refine Xg b rfl (fun aA=>?_) (fun aA=>?_)
 ·have b0:=aA
  have aL:(s.c=0∨s.c=4)∧0<s.z/2^p.ins.toNat:=by have:=aA;simpa using this
  refine Zs b fun _ bT=>?_;refine Zm rfl<|Zm rfl<|Za rfl<|Za rfl<|Za rfl ?_;refine Zt bT fun a b=>?_;refine wp_ret<|Xr<|X8<|X7 b (X3n b rfl rfl rfl rfl) ?_
  rw [Xi5 aH hs (by rw [Xmk M a7 aE aL];decide),Xmk M a7 aE aL];exact ⟨rfl,h⟩
 have b0:=aA
 have aL:¬ ((s.c=0∨s.c=4)∧0<s.z/2^p.ins.toNat):=by have:=aA;simpa using this
 refine wp_skip<|Xa<|bM _ _<|Zs b fun _ bU=>?_;refine Za rfl<|Za rfl<|Za rfl<|Zt bU fun a b=>?_
 refine wp_ret (X7 b (X3n b rfl rfl rfl rfl) ?_)
 rw [Xro aH hs (Xs5 M a7 aE aL)];exact ⟨rfl,h⟩
theorem Xvt(w0:World)(p:Ps)(Ap:Option Addr)(cp:Nat)(aD:Rd w0 w0.heap.size 59 encT Ap p.ts)(Bp:Option Addr)(dp:Nat)(aE:Rd w0 w0.heap.size 62 encA Bp p.out)(j:Nat)(Q:VPs p)(hj:p.ins.toNat≤j∧j<24)(aA:outB j p.out=false)(dI:-100≤p.root∧p.root≤100)(aH:p.ts.length≤100000000)(aN:p.out.length≤100000000)(bJ:TabAt w0)(cV:1<w0.heap.size) : Ret Tryz.prog 42 [.agg #[vi p.ins,vi p.vars,vi p.root,vi p.phase,.slice Ap p.ts.length cp,.slice Bp p.out.length dp],vi (j:Int)] w0 (fun v w=>∃ A9 c9 B9 d9,v=.tuple #[psV A9 c9 B9 d9 (ruQ p j),vi (ruK p.ins (arF j p.ts))]∧Rd w w.heap.size 59 encT A9 (ruQ p j).ts∧Rd w w.heap.size 62 encA B9 (ruQ p j).out∧Below w0.heap.size w0 w):=by
 have N:=Xrm hj.2 Q.ts;have dF:=Q.ins;have dJ:=Q.vars
 have dK:=X5q (show p.ins.toNat≤24 by omega)
 have aI:=N.c;obtain ⟨bK,bL,bM,bN⟩:=Xyw Q aA;have dL:=Xyz (arF j p.ts).c
 have dM:(woP p j).root=p.root:=rfl
 have dN:(stP p j (8-(arF j p.ts).c) (arF j p.ts).z).root=p.root:=rfl
 have dO:(stP p j 0 0).root=p.root:=rfl
 have dP:=Xen Q.ph j (8-(arF j p.ts).c) (arF j p.ts).z;refine enter Tryz.func42 rfl 108 rfl rfl ?_;intro a g
 have f:=bz w0
 refine Zs g fun _ cW=>?_;refine Zf (X1b (zs:=[vi p.ins,vi p.vars,vi p.root,vi p.phase,.slice Ap p.ts.length cp,.slice Bp p.out.length dp]) rfl rfl) ?_;rintro _ w1 ⟨b4,rfl,cX,n,y⟩;have dG:=Nat.le_trans f.size cX;have f:=btr f n;refine Zf (X4 (zs:=[vi 0,vi 0,vi 0,vi 0,.slice none 0 0,.slice none 0 0]) X0f rfl) ?_;rintro _ w2 ⟨b7,rfl,cY,n,b⟩
 have cU:b4≠b7:=by have:=y.lt;omega
 have a6:=Nat.le_trans f.size cY;have y:=y.below n;have f:=btr f n;refine Za rfl<|Zx cW fun a g _ d5=>?_;refine Ze (Vn X3 y)<|Zm rfl<|Zf (Vc (Xxz _ p Ap cp (aD.below' f).top Bp dp (aE.below' f).top j Q.ts hj.2 aH) Xp5) ?_;rintro _ w3 ⟨rfl,n⟩;have y:=y.below n;have b:=b.below n;have f:=btr f n;refine Zm rfl<|Ze (X9 (vs:=[vi ((arF j p.ts).c),vi ((arF j p.ts).z),.bool ((arF j p.ts).any),.bool ((arF j p.ts).pl)]) rfl rfl)<|Ze (X9 (vs:=[vi ((arF j p.ts).c),vi ((arF j p.ts).z),.bool ((arF j p.ts).any),.bool ((arF j p.ts).pl)]) rfl rfl)<|Ze (X9 (vs:=[vi ((arF j p.ts).c),vi ((arF j p.ts).z),.bool ((arF j p.ts).any),.bool ((arF j p.ts).pl)]) rfl rfl)<|Ze (X9 (vs:=[vi ((arF j p.ts).c),vi ((arF j p.ts).z),.bool ((arF j p.ts).any),.bool ((arF j p.ts).pl)]) rfl rfl) ?_;refine Za rfl<|Za rfl<|Za rfl<|Za rfl<|Zx d5 fun a g _ d6=>?_;refine Zm rfl<|Ze (Vd rfl X01 0)<|Ze (X0 rfl X2 (y.at 0))<|Ze (Vx (X29 (m:=p.ins.toNat) rfl rfl (by omega) (by omega)) (X39 (by omega)))<|Ze (X11 rfl rfl (by omega) (by omega)) ?_;refine Ze (Vx (Xqn rfl rfl) (Xjl N.z (by omega)))<|Ze (X2x (m:=(without (arF j p.ts).z.toNat (2^p.ins.toNat-1))) Tryz.underlying3 Tryz.underlying109 rfl rfl (by have:=Xxo N.z p.ins.toNat;omega))<|Zf (Vc (Xvs _ (without (arF j p.ts).z.toNat (2^p.ins.toNat-1)) (Xxo N.z p.ins.toNat) (bJ.up f cV)) Xol) ?_;rintro _ _ ⟨rfl,rfl⟩;refine Za rfl<|ZX d6 fun a g _ bO=>?_;refine wp_block<|Zs g fun _ bP=>?_;refine Zm rfl<|Ze (X1v rfl)<|Za rfl<|Zt bP fun a g=>?_
 refine Xg g rfl (fun a7=>?_) (fun a7=>?_)
 ·have q:=a7
  have aF:(arF j p.ts).any=false:=by have:=a7;simpa using this
  refine Zs g fun _ bR=>?_;refine Ze (Vn X3 y)<|Zm rfl<|Zf (Vc (Xmb _ p Ap cp (aD.below' f).top Bp dp (aE.below' f).top j Q.ts.mks (fun a9 h9=>(Q.out a9 h9).1.1) hj.2 (by omega) aH aN) Xbf) ?_;rintro _ w4 ⟨aO,aP,aQ,aR,rfl,G,H,n⟩;have y:=y.below n;have b:=b.below n;have f:=btr f n;refine Zf (X4 (zs:=[vi 0,vi 0,vi 0,vi 0,.slice none 0 0,.slice none 0 0]) X0f rfl) ?_;rintro _ w5 ⟨b18,rfl,bS,n,L⟩
  have bT:b4≠b18:=by have:=y.lt;omega
  have bU:b7≠b18:=by have:=b.lt;omega
  have aS:=Nat.le_trans f.size bS;have b:=b.below n;have G:=G.below n;have H:=H.below n;have f:=btr f n;refine Zo (Vw [vi ((woP p j).ins),vi ((woP p j).vars),vi ((woP p j).root),vi ((woP p j).phase),.slice aO ((woP p j).ts).length aP,.slice aQ ((woP p j).out).length aR] Xi L) ?_;rintro _ w6 ⟨i,M⟩;have d:=L;have b:=b.only i (by omega);have G:=G.onlyT i d rfl;have H:=H.onlyT i d rfl;have f:=Below.only f i aS;have L:=M;refine Zx bR fun a g _ bW=>?_;refine Ze (Vd rfl X0c 2)<|Ze (X0 rfl X2 (L.at 2))<|Ze (X11 rfl rfl (by omega) (by omega))<|Ze (Vd rfl X0c 2)<|Zo (Vu (vs:=[vi (((woP p j).root)-2)]) (l':=[vi ((woP p j).ins),vi ((woP p j).vars),vi (((woP p j).root)-2),vi ((woP p j).phase),.slice aO ((woP p j).ts).length aP,.slice aQ ((woP p j).out).length aR]) rfl rfl X0l L) ?_;rintro _ w7 ⟨i,M⟩;have d:=L;have b:=b.only i (by omega);have G:=G.onlyT i d rfl;have H:=H.onlyT i d rfl;have f:=Below.only f i aS;have L:=M;refine Zx bW fun a g _ bX=>?_;refine Ze (Vn X3 L)<|Zo (Vw [vi ((woP p j).ins),vi ((woP p j).vars),vi (((woP p j).root)-2),vi ((woP p j).phase),.slice aO ((woP p j).ts).length aP,.slice aQ ((woP p j).out).length aR] Xi b) ?_;rintro _ w8 ⟨i,M⟩;have d:=b;have G:=G.onlyT i d rfl;have H:=H.onlyT i d rfl;have f:=Below.only f i a6;have b:=M;refine Za rfl<|Zt bX fun a g=>?_;refine wp_ret<|Xr<|X8<|X7 g (X2l g rfl (ResV.cellN (l:=[vi ((woP p j).ins),vi ((woP p j).vars),vi (((woP p j).root)-2),vi ((woP p j).phase),.slice aO ((woP p j).ts).length aP,.slice aQ ((woP p j).out).length aR]) rfl X3 (b.at 0) rfl) rfl) ?_
  have I:ruK p.ins (arF j p.ts)=1:=(Xx5 Q aA aF).2
  rw [Xef I (by decide),I,← (Xx5 Q aA aF).1]
  exact ⟨aO,aP,aQ,aR,rfl,G.top,H.top,f⟩
 have q:=a7
 have aF:(arF j p.ts).any=true:=by have:=a7;simpa using this
 refine wp_seq_k fun _ bY=>?_;refine X0i (fun a w=>Fr a 108 [(1,vi (j:Int)),(2,.pointer (some ⟨b4,0,none⟩)),(4,.pointer (some ⟨b7,0,none⟩)),(6,vi ((arF j p.ts).c)),(7,vi ((arF j p.ts).z)),(9,.bool ((arF j p.ts).pl)),(10,vi ((tzN (without (arF j p.ts).z.toNat (2^p.ins.toNat-1)) : Nat) : Int)),(42,.bool (((arF j p.ts).pl)&&((((arF j p.ts).c).tmod 4)==2)))]∧w3=w) ?_ ?_
 ·refine Zr g<|Zm rfl<|Zm rfl ?_
  refine Zg 44 rfl (fun h=>?_) (fun h=>?_)
  ·refine Zv (gW h) (Xd rfl) ?_;refine Zv (gW h) (X5c rfl rfl rfl) ?_;refine Zv (gW h) (X0x rfl rfl) ?_;refine Ze (X6 rfl h rfl)<|Za rfl ?_;refine Zn fun a g=>?_;exact ⟨g.sub ⟨rfl,rfl,rfl,rfl,rfl,rfl,rfl,X1 rfl (by first|rfl|(simp only [q,h,bs];done)|simp [q,h]),trivial⟩,rfl⟩
  refine Zp (gP h) ?_;refine Zp (gP h) ?_;refine Zp (gP h) ?_;refine Ze (Xf rfl h rfl)<|Za rfl ?_;refine Zn fun a g=>?_;exact ⟨g.sub ⟨rfl,rfl,rfl,rfl,rfl,rfl,rfl,X1 rfl (by first|rfl|(simp only [q,h,bs];done)|simp [q,h]),trivial⟩,rfl⟩
 rintro a _ ⟨g,rfl⟩;refine bY _ _ ?_
 refine Xg g rfl (fun U=>?_) (fun U=>?_)
 ·have E:=U;have d7:=Xkf aI U;have bZ:=Xx1 (p:=p) aI U;have c4:=d7.2;refine Zs g fun _ c5=>?_;refine Ze (Vn X3 y)<|Zm rfl<|Zm rfl<|Ze (X11 rfl rfl (by omega) (by omega))<|Zm rfl ?_;refine Zf (Vc (Xri _ p Ap cp (aD.below' f).top Bp dp (aE.below' f).top j (8-((arF j p.ts).c)) ((arF j p.ts).z) Q.ph Q.ts (fun a9 h9=>(Q.out a9 h9).1) hj.2 (by omega) N.z (by omega) aH aN) Xgx) ?_;rintro _ w9 ⟨aJ,aK,aL,aM,rfl,A,B,n⟩;have y:=y.below n;have b:=b.below n;have f:=btr f n;refine Zf (X4 (zs:=[vi 0,vi 0,vi 0,vi 0,.slice none 0 0,.slice none 0 0]) X0f rfl) ?_;rintro _ dQ ⟨b29,rfl,c6,n,x⟩
  have cA:b4≠b29:=by have:=y.lt;omega
  have cC:b7≠b29:=by have:=b.lt;omega
  have aB:=Nat.le_trans f.size c6;have b:=b.below n;have A:=A.below n;have B:=B.below n;have f:=btr f n;refine Zo (Vw [vi ((stP p j (8-((arF j p.ts).c)) ((arF j p.ts).z)).ins),vi ((stP p j (8-((arF j p.ts).c)) ((arF j p.ts).z)).vars),vi ((stP p j (8-((arF j p.ts).c)) ((arF j p.ts).z)).root),vi ((stP p j (8-((arF j p.ts).c)) ((arF j p.ts).z)).phase),.slice aJ ((stP p j (8-((arF j p.ts).c)) ((arF j p.ts).z)).ts).length aK,.slice aL ((stP p j (8-((arF j p.ts).c)) ((arF j p.ts).z)).out).length aM] Xi x) ?_;rintro _ dR ⟨i,M⟩;have d:=x;have b:=b.only i (by omega);have A:=A.onlyT i d rfl;have B:=B.onlyT i d rfl;have f:=Below.only f i aB;have x:=M;refine Zx c5 fun a g _ cD=>?_;refine Ze (Vd rfl X0c 2)<|Ze (X0 rfl X2 (x.at 2))<|Ze (X11 rfl rfl (by omega) (by omega))<|Ze (Vd rfl X0c 2)<|Zo (Vu (vs:=[vi (((stP p j (8-((arF j p.ts).c)) ((arF j p.ts).z)).root)-1)]) (l':=[vi ((stP p j (8-((arF j p.ts).c)) ((arF j p.ts).z)).ins),vi ((stP p j (8-((arF j p.ts).c)) ((arF j p.ts).z)).vars),vi (((stP p j (8-((arF j p.ts).c)) ((arF j p.ts).z)).root)-1),vi ((stP p j (8-((arF j p.ts).c)) ((arF j p.ts).z)).phase),.slice aJ ((stP p j (8-((arF j p.ts).c)) ((arF j p.ts).z)).ts).length aK,.slice aL ((stP p j (8-((arF j p.ts).c)) ((arF j p.ts).z)).out).length aM]) rfl rfl X0l x) ?_;rintro _ dS ⟨i,M⟩;have d:=x;have b:=b.only i (by omega);have A:=A.onlyT i d rfl;have B:=B.onlyT i d rfl;have f:=Below.only f i aB;have x:=M;refine ZX cD fun a g _ cE=>?_;refine Xp none (fun j=>[8].contains j) mixed ?_;intro dU n;have b:=b.below n;have x:=x.below n;have A:=A.below n
  have B:=B.below n;have f:=btr f n;refine Yb g<|Yo 0 rfl (fun _=>Vd rfl X0h 3)<|Ye 1 rfl (X0 rfl X2 (x.at 3))<|Yo 2 rfl (fun _=>Xs (ps:=[(2,vi 1),(6,vi 7)]) (cs:=[vi 0,vi 0,vi 1,vi 0,vi 0,vi 0,vi 7]) rfl (fun _=>by first|rfl|kernel_rfl))<|Yo 3 rfl (fun _=>Xd rfl)<|Yo 4 rfl (fun _=>Xw2 (k:=(arF j p.ts).c.toNat) (vs:=[vi 0,vi 0,vi 1,vi 0,vi 0,vi 0,vi 7]) (v:=vi (if (arF j p.ts).c=2 then 1 else 7)) rfl rfl Tryz.underlying132 X0l X2 (by omega) (by omega) (by rcases c4 with e|e<;>rw [e]<;>rfl)) ?_;refine Yo 5 rfl (fun _=>Xm rfl rfl (by omega) (by omega))<|Yo 6 rfl (fun _=>Vx (X5c rfl rfl rfl) (X8r (by omega)))<|Yo 7 rfl (fun _=>Vd rfl X0h 3)<|Y1 8 ?_;refine Yh rfl trivial rfl (Vu (vs:=[vi (((stP p j (8-(arF j p.ts).c) (arF j p.ts).z).phase+(if (arF j p.ts).c=2 then 1 else 7)) % 8)]) (l':=[vi ((stP p j (8-((arF j p.ts).c)) ((arF j p.ts).z)).ins),vi ((stP p j (8-((arF j p.ts).c)) ((arF j p.ts).z)).vars),vi (((stP p j (8-((arF j p.ts).c)) ((arF j p.ts).z)).root)-1),vi (((stP p j (8-(arF j p.ts).c) (arF j p.ts).z).phase+(if (arF j p.ts).c=2 then 1 else 7)) % 8),.slice aJ ((stP p j (8-((arF j p.ts).c)) ((arF j p.ts).z)).ts).length aK,.slice aL ((stP p j (8-((arF j p.ts).c)) ((arF j p.ts).z)).out).length aM]) rfl rfl X0l x) ?_;rintro _ dW ⟨i,M⟩;have d:=x;have b:=b.only i (by omega);have A:=A.onlyT i d rfl;have B:=B.onlyT i d rfl;have f:=Below.only f i aB;have x:=M;refine Yd fun a g=>?_;refine cE _ _<|Zs g fun _ cF=>?_;refine Ze (Vn X3 x)<|Zo (Vw [vi ((stP p j (8-((arF j p.ts).c)) ((arF j p.ts).z)).ins),vi ((stP p j (8-((arF j p.ts).c)) ((arF j p.ts).z)).vars),vi (((stP p j (8-((arF j p.ts).c)) ((arF j p.ts).z)).root)-1),vi (((stP p j (8-(arF j p.ts).c) (arF j p.ts).z).phase+(if (arF j p.ts).c=2 then 1 else 7)) % 8),.slice aJ ((stP p j (8-((arF j p.ts).c)) ((arF j p.ts).z)).ts).length aK,.slice aL ((stP p j (8-((arF j p.ts).c)) ((arF j p.ts).z)).out).length aM] Xi b) ?_;rintro _ dX ⟨i,M⟩
  have d:=b;have A:=A.onlyT i d rfl;have B:=B.onlyT i d rfl;have f:=Below.only f i a6;have b:=M;refine Za rfl<|Zt cF fun a g=>?_;refine wp_ret<|Xr<|X8<|X7 g (X2l g rfl (ResV.cellN (l:=[vi ((stP p j (8-((arF j p.ts).c)) ((arF j p.ts).z)).ins),vi ((stP p j (8-((arF j p.ts).c)) ((arF j p.ts).z)).vars),vi (((stP p j (8-((arF j p.ts).c)) ((arF j p.ts).z)).root)-1),vi (((stP p j (8-(arF j p.ts).c) (arF j p.ts).z).phase+(if (arF j p.ts).c=2 then 1 else 7)) % 8),.slice aJ ((stP p j (8-((arF j p.ts).c)) ((arF j p.ts).z)).ts).length aK,.slice aL ((stP p j (8-((arF j p.ts).c)) ((arF j p.ts).z)).out).length aM]) rfl X3 (b.at 0) rfl) rfl) ?_
  have I:ruK p.ins (arF j p.ts)=2:=bZ
  rw [Xef I (by decide),I,← Xyg Q aA bZ c4 hj.2]
  exact ⟨aJ,aK,aL,aM,rfl,A.top,B.top,f⟩
 have E:=U;have d8:=U;refine wp_seq_k fun _ cG=>?_;refine X0i (fun a w=>Fr a 108 [(1,vi (j:Int)),(2,.pointer (some ⟨b4,0,none⟩)),(4,.pointer (some ⟨b7,0,none⟩)),(6,vi ((arF j p.ts).c)),(7,vi ((arF j p.ts).z)),(10,vi ((tzN (without (arF j p.ts).z.toNat (2^p.ins.toNat-1)) : Nat) : Int)),(68,.bool ((((arF j p.ts).pl)&&((((arF j p.ts).c).tmod 4)==0))&&((((arF j p.ts).z)/2^p.ins.toNat) != 0)))]∧w3=w) ?_ ?_
 ·refine Zr g<|Zm rfl<|Zm rfl ?_
  refine Zg 70 rfl (fun t=>?_) (fun t=>?_)
  ·refine Zv (gW t) (Xd rfl) ?_;refine Zv (gW t) (X5c rfl rfl rfl) ?_;refine Zv (gW t) (X0x rfl rfl) ?_;refine Ze (X6 rfl t rfl)<|Zm rfl ?_
   refine Zg 75 rfl (fun o=>?_) (fun o=>?_)
   ·refine Zv (gW o) (Xd rfl) ?_;refine Zv (gW o) (Vd rfl X01 0) ?_;refine Zv (gW o) (X0 rfl X2 (y.at 0)) ?_;refine Zv (gW o) (X5d (m:=p.ins.toNat) rfl rfl (by omega) (by omega)) ?_;refine Zv (gW o) (X3q rfl rfl) ?_;refine Ze (X6 rfl o rfl)<|Za rfl ?_;refine Zn fun a g=>?_;exact ⟨g.sub ⟨rfl,rfl,rfl,rfl,rfl,rfl,X1 rfl (by first|rfl|(simp only [q,E,t,o,bs];done)|simp [q,E,t,o]),trivial⟩,rfl⟩
   refine Zp (gP o) ?_;refine Zp (gP o) ?_;refine Zp (gP o) ?_;refine Zp (gP o) ?_;refine Zp (gP o) ?_;refine Ze (Xf rfl o rfl)<|Za rfl ?_;refine Zn fun a g=>?_;exact ⟨g.sub ⟨rfl,rfl,rfl,rfl,rfl,rfl,X1 rfl (by first|rfl|(simp only [q,E,t,o,bs];done)|simp [q,E,t,o]),trivial⟩,rfl⟩
  refine Zp (gP t) ?_;refine Zp (gP t) ?_;refine Zp (gP t) ?_;refine Ze (Xf rfl t rfl)<|Zm rfl<|Zp (gP rfl) ?_;refine Zp (gP rfl) ?_;refine Zp (gP rfl) ?_;refine Zp (gP rfl) ?_;refine Zp (gP rfl) ?_;refine Ze (Xf rfl rfl rfl)<|Za rfl ?_;refine Zn fun a g=>?_;exact ⟨g.sub ⟨rfl,rfl,rfl,rfl,rfl,rfl,X1 rfl (by first|rfl|(simp only [q,E,t,bs];done)|simp [q,E,t]),trivial⟩,rfl⟩
 rintro a _ ⟨g,rfl⟩;refine cG _ _ ?_
 refine Xg g rfl (fun W=>?_) (fun W=>?_)
 ·have b6:=W;have dB:=Xml aI N.z W;have b2:=Xw7 (p:=p) aI N.z W;have b8:=dB.2.2;obtain ⟨dC,dD,a8,_,_⟩:=X9r Q hj aA b8;have aG:=dC▸dD;refine Zs g fun _ cH=>?_;refine Ze (Vn X3 y)<|Zm rfl<|Zf (Vc (Xri _ p Ap cp (aD.below' f).top Bp dp (aE.below' f).top j 0 0 Q.ph Q.ts (fun a9 h9=>(Q.out a9 h9).1) hj.2 (by omega) Mk.zero (by omega) aH aN) Xgx) ?_;rintro _ e8 ⟨aT,aU,aW,aX,rfl,C,D,n⟩;have y:=y.below n;have b:=b.below n;have f:=btr f n;refine Zf (X4 (zs:=[vi 0,vi 0,vi 0,vi 0,.slice none 0 0,.slice none 0 0]) X0f rfl) ?_;rintro _ eA ⟨b42,rfl,cJ,n,u⟩
  have cK:b4≠b42:=by have:=y.lt;omega
  have cL:b7≠b42:=by have:=b.lt;omega
  have aC:=Nat.le_trans f.size cJ;have b:=b.below n;have C:=C.below n;have D:=D.below n;have f:=btr f n;refine Zo (Vw [vi ((stP p j 0 0).ins),vi ((stP p j 0 0).vars),vi ((stP p j 0 0).root),vi ((stP p j 0 0).phase),.slice aT ((stP p j 0 0).ts).length aU,.slice aW ((stP p j 0 0).out).length aX] Xi u) ?_;rintro _ eB ⟨i,M⟩;have d:=u;have b:=b.only i (by omega);have C:=C.onlyT i d rfl;have D:=D.onlyT i d rfl;have f:=Below.only f i aC;have u:=M;refine Zx cH fun a g _ cM=>?_;refine Zm rfl<|Zm rfl<|Ze (Vx (X29 (m:=(inI p (arF j p.ts).z)) rfl rfl rfl (by omega)) (X4x a8))<|Ze (Vx (X6h rfl rfl) (rfl:_=(xI (arF j p.ts).z (pw (inI p (arF j p.ts).z)))))<|Zm rfl ?_;refine Zf (Vc (Xnn _ (xI (arF j p.ts).z (pw (inI p (arF j p.ts).z))) j (N.z.xor (X2k a8)) hj.2) Xbc) ?_;rintro _ eC ⟨rfl,n⟩;have b:=b.below n;have u:=u.below n;have C:=C.below n;have D:=D.below n;have f:=btr f n;refine Za rfl<|ZX cM fun a g _ b5=>?_;refine Zs g fun _ cN=>?_;refine Zm rfl<|Zm rfl<|Ze (X3o rfl rfl)<|Zt cN fun a g=>?_
  refine Xg g rfl (fun J=>?_) (fun J=>?_)
  ·have b9:=J;have J:=of_decide_eq_true J
   have b3:j<(inI p (arF j p.ts).z):=by have:=J;unfold inI;omega
   have eD:tzN (without (arF j p.ts).z.toNat (2^p.ins.toNat-1))<24:=a8
   have dH:j<tzN (without (arF j p.ts).z.toNat (2^p.ins.toNat-1)):=b3
   have hJ:inJ p j (arF j p.ts).z=(inI p (arF j p.ts).z)-1:=by unfold inJ;rw [if_pos b3]
   rw [hJ] at aG
   refine Zr g<|Zm rfl<|Ze (Vx (X11 rfl rfl (by omega) (by omega)) (show _=(((inI p (arF j p.ts).z)-1:Nat) : Int) from (by have e9:(inI p (arF j p.ts).z)=tzN (without (arF j p.ts).z.toNat (2^p.ins.toNat-1)):=rfl;omega)))<|Za rfl<|Zx b5 fun a g _ cO=>?_;refine Ze (Vd rfl X0c 2)<|Ze (X0 rfl X2 (u.at 2))<|Ze (X11 rfl rfl (by omega) (by omega))<|Ze (Vd rfl X0c 2)<|Zo (Vu (vs:=[vi (((stP p j 0 0).root)-2)]) (l':=[vi ((stP p j 0 0).ins),vi ((stP p j 0 0).vars),vi (((stP p j 0 0).root)-2),vi ((stP p j 0 0).phase),.slice aT ((stP p j 0 0).ts).length aU,.slice aW ((stP p j 0 0).out).length aX]) rfl rfl X0l u) ?_;rintro _ eE ⟨i,M⟩;have d:=u;have b:=b.only i (by omega);have C:=C.onlyT i d rfl;have D:=D.onlyT i d rfl;have f:=Below.only f i aC;have u:=M;refine Zx cO fun a g _ cP=>?_;refine Ze (Vn X3 u)<|Zm rfl<|Zm rfl<|Zm rfl<|Ze (Vx (Xez rfl rfl rfl) (Xt8 aI)) ?_;refine Ze (Xs (ps:=[(0,vi (drI j (xI (arF j p.ts).z (pw (inI p (arF j p.ts).z))))),(1,vi ((arF j p.ts).c/4))]) (cs:=[vi (drI j (xI (arF j p.ts).z (pw (inI p (arF j p.ts).z)))),vi ((arF j p.ts).c/4)]) rfl (fun _=>by first|rfl|kernel_rfl))<|Zf (Vc (Xsg _ (q4P p j) aT aU C.top aW aX D.top ((inI p (arF j p.ts).z)-1:Nat) (q5A p j) (Xen Q.ph j 0 0) bK bL aG ⟨(N.z.xor (X2k a8)).dr,(by show (arF j p.ts).c/4=0∨(arF j p.ts).c/4=1;omega)⟩ (by show -1000≤p.vars-1∧p.vars-1≤1000;omega) (Nat.le_trans bM aH) (Nat.le_trans (Nat.le_of_eq bN) aN)) Xgs) ?_;rintro _ eF ⟨bA,bB,bC,bD,rfl,aY,aZ,n⟩;have b:=b.below n;have f:=btr f n;refine Zo (Vw [vi ((subP (q4P p j) ((inI p (arF j p.ts).z)-1:Nat) (q5A p j)).ins),vi ((subP (q4P p j) ((inI p (arF j p.ts).z)-1:Nat) (q5A p j)).vars),vi ((subP (q4P p j) ((inI p (arF j p.ts).z)-1:Nat) (q5A p j)).root),vi ((subP (q4P p j) ((inI p (arF j p.ts).z)-1:Nat) (q5A p j)).phase),.slice bA ((subP (q4P p j) ((inI p (arF j p.ts).z)-1:Nat) (q5A p j)).ts).length bB,.slice bC ((subP (q4P p j) ((inI p (arF j p.ts).z)-1:Nat) (q5A p j)).out).length bD] Xi b) ?_;rintro _ eG ⟨i,M⟩
   have d:=b;have aY:=aY.onlyT i d rfl;have aZ:=aZ.onlyT i d rfl;have f:=Below.only f i a6;have b:=M;refine Za rfl<|Zt cP fun a g=>?_;refine wp_ret<|Xr<|X8<|X7 g (X2l g rfl (ResV.cellN (l:=[vi ((subP (q4P p j) ((inI p (arF j p.ts).z)-1:Nat) (q5A p j)).ins),vi ((subP (q4P p j) ((inI p (arF j p.ts).z)-1:Nat) (q5A p j)).vars),vi ((subP (q4P p j) ((inI p (arF j p.ts).z)-1:Nat) (q5A p j)).root),vi ((subP (q4P p j) ((inI p (arF j p.ts).z)-1:Nat) (q5A p j)).phase),.slice bA ((subP (q4P p j) ((inI p (arF j p.ts).z)-1:Nat) (q5A p j)).ts).length bB,.slice bC ((subP (q4P p j) ((inI p (arF j p.ts).z)-1:Nat) (q5A p j)).out).length bD]) rfl X3 (b.at 0) rfl) rfl) ?_
   have I:ruK p.ins (arF j p.ts)=3:=b2
   rw [Xef I (by decide),I,← Xvz Q hj aA b2 b8]
   rw [hJ]
   exact ⟨bA,bB,bC,bD,rfl,aY.top,aZ.top,f⟩
  have b9:=J;have J:=of_decide_eq_false J
  have b3:¬ j<(inI p (arF j p.ts).z):=by have:=J;unfold inI;omega
  have hJ:inJ p j (arF j p.ts).z=(inI p (arF j p.ts).z):=by unfold inJ;rw [if_neg b3]
  rw [hJ] at aG
  refine wp_skip<|b5 _ _<|Zs g fun _ cQ=>?_;refine Ze (Vd rfl X0c 2)<|Ze (X0 rfl X2 (u.at 2))<|Ze (X11 rfl rfl (by omega) (by omega))<|Ze (Vd rfl X0c 2)<|Zo (Vu (vs:=[vi (((stP p j 0 0).root)-2)]) (l':=[vi ((stP p j 0 0).ins),vi ((stP p j 0 0).vars),vi (((stP p j 0 0).root)-2),vi ((stP p j 0 0).phase),.slice aT ((stP p j 0 0).ts).length aU,.slice aW ((stP p j 0 0).out).length aX]) rfl rfl X0l u) ?_;rintro _ eH ⟨i,M⟩;have d:=u;have b:=b.only i (by omega);have C:=C.onlyT i d rfl;have D:=D.onlyT i d rfl;have f:=Below.only f i aC;have u:=M;refine Zx cQ fun a g _ cR=>?_;refine Ze (Vn X3 u)<|Zm rfl<|Zm rfl<|Zm rfl<|Ze (Vx (Xez rfl rfl rfl) (Xt8 aI)) ?_;refine Ze (Xs (ps:=[(0,vi (drI j (xI (arF j p.ts).z (pw (inI p (arF j p.ts).z))))),(1,vi ((arF j p.ts).c/4))]) (cs:=[vi (drI j (xI (arF j p.ts).z (pw (inI p (arF j p.ts).z)))),vi ((arF j p.ts).c/4)]) rfl (fun _=>by first|rfl|kernel_rfl))<|Zf (Vc (Xsg _ (q4P p j) aT aU C.top aW aX D.top (tzN (without (arF j p.ts).z.toNat (2^p.ins.toNat-1)) : Nat) (q5A p j) (Xen Q.ph j 0 0) bK bL aG ⟨(N.z.xor (X2k a8)).dr,(by show (arF j p.ts).c/4=0∨(arF j p.ts).c/4=1;omega)⟩ (by show -1000≤p.vars-1∧p.vars-1≤1000;omega) (Nat.le_trans bM aH) (Nat.le_trans (Nat.le_of_eq bN) aN)) Xgs) ?_;rintro _ eI ⟨bE,bF,bG,bH,rfl,b0,b1,n⟩;have b:=b.below n;have f:=btr f n;refine Zo (Vw [vi ((subP (q4P p j) (tzN (without (arF j p.ts).z.toNat (2^p.ins.toNat-1)) : Nat) (q5A p j)).ins),vi ((subP (q4P p j) (tzN (without (arF j p.ts).z.toNat (2^p.ins.toNat-1)) : Nat) (q5A p j)).vars),vi ((subP (q4P p j) (tzN (without (arF j p.ts).z.toNat (2^p.ins.toNat-1)) : Nat) (q5A p j)).root),vi ((subP (q4P p j) (tzN (without (arF j p.ts).z.toNat (2^p.ins.toNat-1)) : Nat) (q5A p j)).phase),.slice bE ((subP (q4P p j) (tzN (without (arF j p.ts).z.toNat (2^p.ins.toNat-1)) : Nat) (q5A p j)).ts).length bF,.slice bG ((subP (q4P p j) (tzN (without (arF j p.ts).z.toNat (2^p.ins.toNat-1)) : Nat) (q5A p j)).out).length bH] Xi b) ?_;rintro _ eJ ⟨i,M⟩
  have d:=b;have b0:=b0.onlyT i d rfl;have b1:=b1.onlyT i d rfl;have f:=Below.only f i a6;have b:=M;refine Za rfl<|Zt cR fun a g=>?_;refine wp_ret<|Xr<|X8<|X7 g (X2l g rfl (ResV.cellN (l:=[vi ((subP (q4P p j) (tzN (without (arF j p.ts).z.toNat (2^p.ins.toNat-1)) : Nat) (q5A p j)).ins),vi ((subP (q4P p j) (tzN (without (arF j p.ts).z.toNat (2^p.ins.toNat-1)) : Nat) (q5A p j)).vars),vi ((subP (q4P p j) (tzN (without (arF j p.ts).z.toNat (2^p.ins.toNat-1)) : Nat) (q5A p j)).root),vi ((subP (q4P p j) (tzN (without (arF j p.ts).z.toNat (2^p.ins.toNat-1)) : Nat) (q5A p j)).phase),.slice bE ((subP (q4P p j) (tzN (without (arF j p.ts).z.toNat (2^p.ins.toNat-1)) : Nat) (q5A p j)).ts).length bF,.slice bG ((subP (q4P p j) (tzN (without (arF j p.ts).z.toNat (2^p.ins.toNat-1)) : Nat) (q5A p j)).out).length bH]) rfl X3 (b.at 0) rfl) rfl) ?_
  have I:ruK p.ins (arF j p.ts)=3:=b2
  rw [Xef I (by decide),I,← Xvz Q hj aA b2 b8]
  rw [hJ]
  exact ⟨bE,bF,bG,bH,rfl,b0.top,b1.top,f⟩
 have b6:=W;have dE:=W;refine wp_skip<|Xa<|bO _ _<|Zs g fun _ cS=>?_;refine Ze (Xs (ps:=[]) (cs:=[vi 0,vi 0,vi 0,vi 0,.slice none 0 0,.slice none 0 0]) rfl (fun _=>by first|rfl|kernel_rfl))<|Zo (Vw [vi 0,vi 0,vi 0,vi 0,.slice none 0 0,.slice none 0 0] Xi b) ?_;rintro _ eK ⟨i,M⟩;have d:=b;have f:=Below.only f i a6;have b:=M;refine Za rfl<|Zt cS fun a g=>?_
 refine wp_ret (X7 g (X2l g rfl (ResV.cellN (l:=[vi 0,vi 0,vi 0,vi 0,.slice none 0 0,.slice none 0 0]) rfl X3 (b.at 0) rfl) rfl) ?_)
 have I:ruK p.ins (arF j p.ts)=0:=Xxg N aF d8 dE
 rw [Xy3 I,I]
 exact ⟨none,0,none,0,rfl,(Rd.nil _ _ _ _ _),(Rd.nil _ _ _ _ _),f⟩
end Go.Proofs.YtiejkplemjkjoaaGreatDoor
