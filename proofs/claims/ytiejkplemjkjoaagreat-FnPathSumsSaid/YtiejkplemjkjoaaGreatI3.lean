/-
  For every drawn circuit, the path sum has the operator of the circuit, and replacing a variable keeps a drawn path sum valid and gives what the reference gives; conditions: none.
-/
import Derived.Test.YtiejkplemjkjoaaGreatI2
import Derived.Test.YtiejkplemjkjoaaGreatI1
import Derived.WalkSpells
import Derived.Maps.RangeRun
import Derived.Shelf.SlSortCmp.WholeK
import Derived.Shelf.SlSortCmp.NoneTotal
import Derived.Shelf.SlGeneric
set_option linter.unusedVariables false
set_option linter.unusedSimpArgs false
set_option maxHeartbeats 1000000
set_option maxRecDepth 20000
set_option linter.unusedSectionVars false
namespace Go.Proofs.YtiejkplemjkjoaaGreat
theorem Xj4{g:Nat→Option Dy} : ∀ {n:Nat} {l:List Dy},seqO g n=some l→∀ k,k<n→g k=some (l.getD k dZ)
 | 0,l,_,k,hk=>by omega
 | n+1,l,h,k,hk=>by
  simp only [seqO] at h
  split at h
  ·rename_i l' x h1 h2
   injection h with h
   subst h
   have hl:=X5i h1
   by_cases e:k=n
   ·subst e
    rw [h2,List.getD_eq_getElem?_getD,List.getElem?_append_right (by omega),hl,Nat.sub_self]
    rfl
   ·rw [Xj4 h1 k (by omega),List.getD_eq_getElem?_getD,List.getD_eq_getElem?_getD,List.getElem?_append_left (by omega)]
  ·cases h
theorem X6p{R C:Int}{f:Nat→Nat→Option Dy}{M:Mx}(h:matOf R C f=some M) : (∀ i j,i<R.toNat→j<C.toNat→f i j=some (M.at i j))∧M.rows=R∧M.cols=C∧M.cells.length=R.toNat*C.toNat:=by
 unfold matOf at h
 split at h
 ·cases hs:seqO (gridG f C.toNat) (R.toNat*C.toNat) with
  | none=>rw [hs] at h;cases h
  | some l=>
   rw [hs] at h
   injection h with h
   subst h
   refine ⟨fun i j hi hj=>?_,rfl,rfl,X5i hs⟩
   have:=Xj4 hs (i*C.toNat+j) (X77 hi hj)
   rw [X6g hj] at this
   exact this
 ·cases h
theorem Xan{a b:Mx}{i j m m':Nat}{za zb:Nat→Rg} : ∀ n {s:Dy},(∀ k,k<n→V (a.at i k) m (za k))→(∀ k,k<n→V (b.at k j) m' (zb k))→dotI a b i j n=some s→V s (m+m') (sumN (fun k=>za k*zb k) n)
 | 0,s,_,_,h=>by
  injection h with h
  subst h
  exact X6d _
 | n+1,s,ha,hb,h=>by
  rw [dotI] at h
  cases h1:dotI a b i j n with
  | none=>rw [h1] at h;cases h
  | some t=>
   rw [h1,Option.bind_some] at h
   cases h2:dMulI (a.at i n) (b.at n j) with
   | none=>rw [h2] at h;cases h
   | some x=>
    rw [h2,Option.bind_some] at h
    exact (Xtf h (Xan n (fun k hk=>ha k (by omega)) (fun k hk=>hb k (by omega)) h1) (Xuc h2 (ha n (by omega)) (hb n (by omega))).1).1
theorem X9f{N:Nat}{g:Gt}(hg:gOk N g=true){i k:Nat}(hi:i<2^N)(hk:k<2^N) : (gateS N g).at i k=cellI N g i k:=by
 have h:=(X5x hg).1
 unfold gateI at h
 rw [if_pos hg] at h
 have:=(X6p h).1 i k (by rw [Int.toNat_natCast,Int.toNat_natCast];exact hi) (by rw [Int.toNat_natCast,Int.toNat_natCast];exact hk)
 exact (Option.some.inj this).symm
theorem Xcv{a b M:Mx}(h:mulI a b=some M) : (∀ i j,i<a.rows.toNat→j<b.cols.toNat→dotI a b i j a.cols.toNat=some (M.at i j))∧M.rows=a.rows∧M.cols=b.cols∧a.cols=b.rows∧M.cells.length=a.rows.toNat*b.cols.toNat:=by
 unfold mulI at h
 split at h
 ·rename_i h1
  simp only [Bool.and_eq_true,beq_iff_eq] at h1
  obtain ⟨p1,p2,p3,p4⟩:=X6p h;exact ⟨p1,p2,p3,h1.2,p4⟩
 ·cases h
theorem Xby{N:Nat}{C:Nat}{j:Nat}(hj:j<C) : ∀ (l:List Gt) {m0:Nat} {M0 M:Mx} {v:St},(∀ g ∈ l,gOk N g=true)→M0.cols=(C:Int)→(∀ i,i<2^N→V (M0.at i j) m0 (v (pt N i)))→applI N l M0=some M→
  (∀ i,i<2^N→V (M.at i j) (m0+hs l) (run l v (pt N i)))∧M.cols=(C:Int)
 | [],m0,M0,M,v,_,hc,h0,h=>by
  injection h with h
  subst h
  exact ⟨h0,hc⟩
 | g::l,m0,M0,M,v,hg,hc,h0,h=>by
  have hg1:=hg g (by simp)
  rw [applI,(X5x hg1).1,Option.getD_some] at h
  cases h1:mulI (gateS N g) M0 with
  | none=>rw [h1] at h;cases h
  | some M1=>
   rw [h1,Option.bind_some] at h
   obtain ⟨q1,q2,q3,q4,_⟩:=Xcv h1
   have e1:(gateS (N:Int) g).rows.toNat=2^N:=by
    show ((2^(N:Int).toNat:Nat) : Int).toNat=2^N
    rw [Int.toNat_natCast,Int.toNat_natCast]
   have e2:(gateS (N:Int) g).cols.toNat=2^N:=by
    show ((2^(N:Int).toNat:Nat) : Int).toNat=2^N
    rw [Int.toNat_natCast,Int.toNat_natCast]
   rw [e1,e2,hc,Int.toNat_natCast] at q1
   have key:∀ i,i<2^N→V (M1.at i j) (m0+hN g) (act g v (pt N i)):=fun i hi=>by
    have:=Xan (m:=hN g) (m':=m0) (za:=fun k=>zc N g i k) (zb:=fun k=>v (pt N k)) (2^N) (fun k hk=>by rw [X9f hg1 hi hk];exact Xho hg1 i k) (fun k hk=>h0 k hk) (q1 i j hi hj)
    rw [X72 hg1 hi] at this
    rw [Nat.add_comm]
    exact this
   have:=Xby hj l (fun g' hg'=>hg g' (by simp [hg'])) (q3.trans hc) key h
   rw [Nat.add_assoc] at this
   exact this
def eb(N j:Nat) : St:=fun β=>if ∀ q,q<N→β q=pt N j q then 1 else 0
theorem X8t{N i j:Nat}(hN:N≤5)(hi:i<2^N)(hj:j<2^N) : eb N j (pt N i)=if i=j then 1 else 0:=by
 unfold eb
 by_cases e:i=j
 ·subst e
  rw [if_pos rfl,if_pos fun q _=>rfl]
 ·rw [if_neg e,if_neg fun h=>e (Xgq hN hi hj h)]
theorem Xw0{c:Cx}{N:Nat}{M:Mx}(hn:c.n=N)(h:opI c=some M) : (∀ i j,i<2^N→j<2^N→V (M.at i j) (hs c.gs) (run c.gs (eb N j) (pt N i)))∧mOk M=true∧M.rows=((2^N:Nat) : Int)∧M.cols=((2^N:Nat) : Int):=by
 have hop:=Xy7 c
 rw [hop.1] at h
 have hm:=hop.2 M h
 rw [hn,Int.toNat_natCast] at hm
 rw [← hop.1] at h
 unfold opI at h
 split at h
 ·rename_i hc
  obtain ⟨hn5,_,hg⟩:=X41 hc
  have hN:N≤5:=by omega
  rw [hn] at h hg hn5
  cases hi0:idI ((2^(N:Int).toNat:Nat) : Int) with
  | none=>rw [hi0] at h;cases h
  | some U=>
   rw [hi0,Option.bind_some] at h
   unfold idI at hi0
   obtain ⟨u1,u2,u3,_⟩:=X6p hi0
   rw [Int.toNat_natCast,Int.toNat_natCast] at u1
   refine ⟨fun i j hi hj=>?_,hm.1,hm.2,?_⟩
   ·have:=(Xby (N:=N) (C:=2^N) hj c.gs (m0:=0) (v:=eb N j) hg (by rw [u3,Int.toNat_natCast]) (fun i hi=>by
     have e:=Option.some.inj (u1 i j hi hj)
     rw [← e,X8t hN hi hj]
     by_cases e2:i=j
     ·rw [if_pos e2,if_pos e2]
      exact Xhj (by decide) (by decide)
     ·rw [if_neg e2,if_neg e2]
      exact X6d 0) h).1 i hi
    rw [Nat.zero_add] at this
    exact this
   ·exact (Xby (N:=N) (C:=2^N) (j:=0) (Nat.pow_pos (by decide)) c.gs (m0:=0) (v:=eb N 0) hg (by rw [u3,Int.toNat_natCast]) (fun i hi=>by
     have e:=Option.some.inj (u1 i 0 hi (Nat.pow_pos (by decide)))
     rw [← e,X8t hN hi (Nat.pow_pos (by decide))]
     by_cases e2:i=0
     ·rw [if_pos e2,if_pos e2]
      exact Xhj (by decide) (by decide)
     ·rw [if_neg e2,if_neg e2]
      exact X6d 0) h).2
 ·cases h
def Low(N:Nat)(g:Gt) : Prop:=(g.k≠12→g.a.toNat<N)∧(9≤g.k∧g.k≤11→g.b.toNat<N)
def Co(N:Nat)(β γ:Nat→Bool) : Prop:=∀ q,N≤q→β q=γ q
def Dep(N:Nat)(v:St) : Prop:=∀ β γ,(∀ q,q<N→β q=γ q)→v β=v γ
def bools:List Bool:=[false,true]
def chkSur:Bool:=(List.range 6).all fun n=>bools.all fun a=>bools.all fun b=>bools.all fun c=>bools.all fun d=>bools.all fun e=>(List.range (2^n)).any fun i=>(List.range n).all fun q=>pt n i q==[a,b,c,d,e].getD q false
theorem X5j(b:Bool) : b ∈ bools:=by cases b<;>simp [bools]
def put(N j:Nat)(β:Nat→Bool) : Nat→Bool:=fun q=>if q<N then pt N j q else β q
theorem Xap(c:Rg){f:Nat→Rg} : ∀ n,c*sumN f n=sumN (fun k=>c*f k) n
 | 0=>by show c*0=0;exact Xn c
 | n+1=>by rw [sumN,sumN,X0g,Xap c n]
def inj(us:List Int)(β γ:Nat→Bool) : Nat→Bool:=fun p=>if (p:Int) ∈ us then γ (lastN us p us.length).toNat else β p
def Eqv(l m:List Gt) : Prop:=∃ k:Nat,∀ v β,s2^hs m*run l v β=om^k*(s2^hs l*run m v β)
theorem Eqv.refl(l:List Gt) : Eqv l l:=⟨0,fun v β=>by rw [X5c];exact (Xf _).symm⟩
theorem Eqv.trans{l m n:List Gt}(h1:Eqv l m)(h2:Eqv m n) : Eqv l n:=by
 obtain ⟨k,h1⟩:=h1;obtain ⟨j,h2⟩:=h2
 refine ⟨k+j,fun v β=>X3w (hs m) ?_⟩
 have e1:=h1 v β
 have e2:=h2 v β
 rw [X2a]
 rw [show s2^hs m*(s2^hs n*run l v β)=s2^hs n*(s2^hs m*run l v β) by simp only [Xy,Xn,Xf,X07,X01,X0c,X0g,X0t,Xe,Xo,X00,X02,Xp,X0e],e1,show s2^hs n*(om^k*(s2^hs l*run m v β))=om^k*(s2^hs l*(s2^hs n*run m v β)) by simp only [Xy,Xn,Xf,X07,X01,X0c,X0g,X0t,Xe,Xo,X00,X02,Xp,X0e],e2]
 simp only [Xy,Xn,Xf,X07,X01,X0c,X0g,X0t,Xe,Xo,X00,X02,Xp,X0e]
theorem Xkl(k:Nat) : om^k=om^(k % 8):=by
 have h:∀ m:Nat,om^(8*m)=1:=fun m=>by
  induction m with
  | zero=>rfl
  | succ m ih=>rw [Nat.mul_succ,X2a,ih,om8];rfl
 have:=X2a om (8*(k/8)) (k % 8)
 rw [Nat.div_add_mod,h] at this
 rw [this]
 exact Xf _
end Go.Proofs.YtiejkplemjkjoaaGreat
namespace Go.Proofs.YtiejkplemjkjoaaGreat
open Go.RowKit
def encU(i:Int) : List Value:=[.int .u8 i]
theorem Xfw:∀ x,(encU x).length=1:=fun _=>rfl
abbrev wu(i:Int) : Int:=IntKind.u64.wrap i
theorem X9a(i:Int) : 0≤bits .and .u64 i 255∧bits .and .u64 i 255≤255:=by
 have key:∀ b:BitVec 64,0≤IntKind.u64.wrap ((b &&& BitVec.ofInt 64 255).toNat:Int)∧IntKind.u64.wrap ((b &&& BitVec.ofInt 64 255).toNat:Int)≤255:=fun b=>by
  have h1:(BitVec.ofInt 64 255).toNat=255:=by decide
  have h:(b &&& BitVec.ofInt 64 255).toNat≤255:=by
   rw [BitVec.toNat_and,h1]
   exact Nat.and_le_right
  have h2:IntKind.u64.wrap ((b &&& BitVec.ofInt 64 255).toNat:Int)=((b &&& BitVec.ofInt 64 255).toNat:Int):=by
   generalize (b &&& BitVec.ofInt 64 255).toNat=m at h
   simp only [IntKind.wrap,IntKind.bits,IntKind.signed]
   simp
   omega
  rw [h2]
  omega
 exact key _
theorem Xj0(i:Int) : 0≤bits .and .u64 i 255∧bits .and .u64 i 255≤9223372036854775807:=⟨(X9a i).1,Int.le_trans (X9a i).2 (by decide)⟩
theorem pk{x n:Int}(hx:0≤x)(hn:1<n) : 0≤x.tmod n∧(x.tmod n=0∨x.tmod n<n):=⟨Int.tmod_nonneg _ hx,.inr (Int.tmod_lt_of_pos _ (by omega))⟩
theorem X8u{l:List Int}{k:Nat}(h:k<l.length) : l[k]? = some (l.getD k 0):=by
 rw [List.getD_eq_getElem?_getD,List.getElem?_eq_getElem h];rfl
theorem Xcl{l:List Int}{k:Nat}(h:k<l.length) : l.getD k 0 ∈ l:=List.mem_of_getElem? (X8u h)
section
variable {P : Program} {a : Act} {w : World} {n : Nat} {e : Env} {ty : TypeId} {pos : String} {af : Array Edge} {g : Option (Nat × Bool)} {d : Option Tmp}
variable {s t t' : TypeId} {x y : Operand} {i j : Int}
theorem Xqf(hf:Fr a n e)(hx:ev e x=some (.int .u64 i))(hy:ev e y=some (.int .u64 j)) : Ev P ⟨d,.binOp .mul t x y t',ty,pos,af,g⟩ a w (.int .u64 (wu (i*j))):=fun w' _=>by
 simp [execOp,hf.ev hx,hf.ev hy,eqGuard,binOp,Op.intArith]
theorem Xtd(hx:ev e x=some (.int .u64 i))(hy:ev e y=some (.int .u64 j)) : EvW P ⟨d,.binOp .mul t x y t',ty,pos,af,g⟩ n e w (.int .u64 (wu (i*j))):=fun a hf=>Xqf hf hx hy
theorem Xt1(hf:Fr a n e)(hx:ev e x=some (.int .u64 i))(hy:ev e y=some (.int .u64 j)) : Ev P ⟨d,.binOp .add t x y t',ty,pos,af,g⟩ a w (.int .u64 (wu (i+j))):=fun w' _=>by
 simp [execOp,hf.ev hx,hf.ev hy,eqGuard,binOp,Op.intArith]
theorem X7q(hx:ev e x=some (.int .u64 i))(hy:ev e y=some (.int .u64 j)) : EvW P ⟨d,.binOp .add t x y t',ty,pos,af,g⟩ n e w (.int .u64 (wu (i+j))):=fun a hf=>Xt1 hf hx hy
theorem Xqo(hf:Fr a n e)(hx:ev e x=some (.int .u64 i))(hy:ev e y=some (.int .u64 j)) : Ev P ⟨d,.binOp .and t x y t',ty,pos,af,g⟩ a w (.int .u64 (bits .and .u64 i j)):=fun w' _=>by
 simp [execOp,hf.ev hx,hf.ev hy,eqGuard,binOp,Op.intBits,bits]
theorem Xbo(hx:ev e x=some (.int .u64 i))(hy:ev e y=some (.int .u64 j)) : EvW P ⟨d,.binOp .and t x y t',ty,pos,af,g⟩ n e w (.int .u64 (bits .and .u64 i j)):=fun a hf=>Xqo hf hx hy
theorem Xtb{m:Nat}(hf:Fr a n e)(hx:ev e x=some (.int .u64 i))(hy:ev e y=some (.int .u64 j))(hj:j=(m:Int))(hm:m≤64) : Ev P ⟨d,.binOp .shr t x y t',ty,pos,af,g⟩ a w (.int .u64 (i/2^m)):=fun w' _=>by
 subst hj
 have hm':min m 64=m:=by omega
 simp [execOp,hf.ev hx,hf.ev hy,eqGuard,binOp,Op.shift,IntKind.bits,hm']
theorem Xa1{m:Nat}(hx:ev e x=some (.int .u64 i))(hy:ev e y=some (.int .u64 j))(hj:j=(m:Int))(hm:m≤64) : EvW P ⟨d,.binOp .shr t x y t',ty,pos,af,g⟩ n e w (.int .u64 (i/2^m)):=fun a hf=>Xtb hf hx hy hj hm
theorem Xuh(hs:P.underlying s=some (.int .i64))(ht:P.underlying t=some (.int .u64))(hf:Fr a n e)(hx:ev e x=some (.int .i64 i)) : Ev P ⟨d,.convert s t x,ty,pos,af,g⟩ a w (.int .u64 (wu i)):=fun w' _=>by
 simp [execOp,hf.ev hx,convert,X0d hs,X0d ht,Conv.intToInt]
theorem Y0k(hs:P.underlying s=some (.int .i64))(ht:P.underlying t=some (.int .u64))(hx:ev e x=some (.int .i64 i)) : EvW P ⟨d,.convert s t x,ty,pos,af,g⟩ n e w (.int .u64 (wu i)):=fun a hf=>Xuh hs ht hf hx
theorem Xva(hs:P.underlying s=some (.int .u64))(ht:P.underlying t=some (.int .i64))(hf:Fr a n e)(hx:ev e x=some (.int .u64 i))(h:0≤i∧i≤9223372036854775807) : Ev P ⟨d,.convert s t x,ty,pos,af,g⟩ a w (.int .i64 i):=fun w' _=>by
 have h2:IntKind.i64.wrap i=i:=IntWalk.i64_in _ ⟨by omega,by omega⟩
 simp [execOp,hf.ev hx,convert,X0d hs,X0d ht,Conv.intToInt,h2]
theorem Xv5(hs:P.underlying s=some (.int .u64))(ht:P.underlying t=some (.int .i64))(hx:ev e x=some (.int .u64 i))(h:0≤i∧i≤9223372036854775807) : EvW P ⟨d,.convert s t x,ty,pos,af,g⟩ n e w (.int .i64 i):=fun a hf=>Xva hs ht hf hx h
theorem Xup(hs:P.underlying s=some (.int .u8))(ht:P.underlying t=some (.int .i64))(hf:Fr a n e)(hx:ev e x=some (.int .u8 i))(h:0≤i∧i≤255) : Ev P ⟨d,.convert s t x,ty,pos,af,g⟩ a w (.int .i64 i):=fun w' _=>by
 have h2:IntKind.i64.wrap i=i:=IntWalk.i64_in _ ⟨by omega,by omega⟩
 simp [execOp,hf.ev hx,convert,X0d hs,X0d ht,Conv.intToInt,h2]
theorem Y16(hs:P.underlying s=some (.int .u8))(ht:P.underlying t=some (.int .i64))(hx:ev e x=some (.int .u8 i))(h:0≤i∧i≤255) : EvW P ⟨d,.convert s t x,ty,pos,af,g⟩ n e w (.int .i64 i):=fun a hf=>Xup hs ht hf hx h
end
theorem Xtw(w0:World)(bV:Nat){aT:TypeId}(j:Option Addr)(o:Nat)(d:List Int)(e:Rd w0 w0.heap.size aT encU j d)(aD:∀ x ∈ d,0≤x∧x≤255)(aZ:AwayR d j bV)(t:Nat)(sd:Int)(b:Blk w0 bV 51 [.slice j d.length o,vi (t:Int),.int .u64 sd])(ht:t+1≤100000000) : Ret Tryz.prog 45 [.pointer (some ⟨bV,0,none⟩)] w0 (fun v w=>∃ (x:Int) (t1:Nat) (s1:Int),v=vi x∧(0≤x∧x≤255)∧(t≤t1∧t1≤t+1)∧Kept bV w0.heap.size w0 w∧Blk w bV 51 [.slice j d.length o,vi (t1:Int),.int .u64 s1]):=by
 have aY:=b.lt;refine enter Tryz.func45 rfl 62 rfl rfl ?_;intro a c
 have i:Kept bV w0.heap.size w0 w0:=Kept.refl _ _ _
 refine Zs c fun _ aU=>?_;refine Za rfl<|Zx aU fun a c _ aW=>?_;refine Za rfl<|ZX aW fun a c _ aE=>?_;refine wp_seq_k fun _ aX=>?_;refine Xq none (fun _=>false) mixed ?_;intro w1 p;have b:=b.below p;have e:=e.below p;have i:=ktr i p;refine Yb c<|Yo 0 rfl (fun _=>X4 rfl)<|Yo 1 rfl (fun _=>X0v rfl)<|Yo 2 rfl (fun _=>Vd rfl X39 1)<|Ye 3 rfl (X0 rfl X2 (b.at 1))<|Yo 4 rfl (fun _=>X4 rfl) ?_;refine Yo 5 rfl (fun _=>X0v rfl)<|Yo 6 rfl (fun _=>Vd rfl X7d 0)<|Ye 7 rfl (X0 rfl Xao (b.at 0))<|Yo 8 rfl (fun _=>X1f rfl X78)<|Yo 9 rfl (fun _=>X1n rfl rfl) ?_;refine Yd fun a c=>?_;refine aX _ _ ?_
 refine Xg c rfl (fun n=>?_) (fun n=>?_)
 ·have aF:=n;have n:=of_decide_eq_true n
  obtain ⟨u7,aA⟩:=Xm (l:=d) (k:=t) (by omega)
  have b0:=aD _ (List.mem_of_getElem? aA);refine Xq none (fun _=>false) mixed ?_;intro w2 p;have b:=b.below p;have e:=e.below p;have i:=ktr i p;refine Yb c<|Yo 0 rfl (fun _=>X4 rfl)<|Yo 1 rfl (fun _=>X0v rfl)<|Yo 2 rfl (fun _=>Vd rfl X7d 0)<|Ye 3 rfl (X0 rfl Xao (b.at 0))<|Yo 4 rfl (fun _=>X4 rfl) ?_;refine Yo 5 rfl (fun _=>X0v rfl)<|Yo 6 rfl (fun _=>Vd rfl X39 1)<|Ye 7 rfl (X0 rfl X2 (b.at 1))<|Yi (k:=t) (u:=u7) (enc:=encU) (l:=d) 8 rfl trivial rfl rfl X78 Y1b Xfw e aA rfl ?_;intro p9 aG;refine Ye 9 rfl (X0 rfl Y17 aG)<|Yo 10 rfl (fun _=>Y16 Tryz.underlying5 Tryz.underlying3 rfl (aD _ (List.mem_of_getElem? aA)))<|Yo 11 rfl (fun _=>X19 rfl) ?_;refine Yd fun a c=>?_;refine aE _ _<|Zs c fun _ aH=>?_;refine Zm rfl<|Ze (X0v rfl)<|Ze (Vd rfl X39 1)<|Ze (X0 rfl X2 (b.at 1))<|Ze (Xu rfl rfl (by omega) (by omega)) ?_;refine Ze (X0v rfl)<|Ze (Vd rfl X39 1)<|Zo (X2z (vs:=[vi ((t:Int)+1)]) (l':=[.slice j d.length o,vi ((t:Int)+1),.int .u64 sd]) rfl rfl X12 b rfl rfl rfl rfl rfl) ?_;rintro _ w3 ⟨ho,hb⟩;have q:=b;have i:=i.self ho;have b:=hb;refine Zx aH fun a c _ aI=>?_;refine Zm rfl<|Zm rfl<|Ze (X0v rfl)<|Ze (Vd rfl X4f 2)<|Ze (X0 rfl Xef (b.at 2)) ?_;refine Ze (Xtd rfl rfl)<|Zm rfl<|Ze (Y0k Tryz.underlying3 Tryz.underlying49 rfl)<|Ze (X7q rfl rfl)<|Ze (X7q rfl rfl) ?_;refine Ze (X0v rfl)<|Ze (Vd rfl X4f 2)<|Zo (X2z (vs:=[.int .u64 (wu ((wu ((wu (sd*6364136223846793005))+(wu u7)))+1442695040888963407))]) (l':=[.slice j d.length o,vi ((t:Int)+1),.int .u64 (wu ((wu ((wu (sd*6364136223846793005))+(wu u7)))+1442695040888963407))]) rfl rfl Xlx b rfl rfl rfl rfl rfl) ?_;rintro _ w4 ⟨ho,hb⟩
  have q:=b;have i:=i.self ho;have b:=hb;refine ZX aI fun a c _ aJ=>?_;refine wp_seq_k fun _ aK=>?_;refine Xq none (fun _=>false) mixed ?_;intro w5 p;have b:=b.below p;have i:=ktr i p;refine Yb c<|Yo 0 rfl (fun _=>X4 rfl)<|Yo 1 rfl (fun _=>X0v rfl)<|Yo 2 rfl (fun _=>Vd rfl X39 1)<|Ye 3 rfl (X0 rfl X2 (b.at 1))<|Yo 4 rfl (fun _=>X4 rfl) ?_;refine Yo 5 rfl (fun _=>X0v rfl)<|Yo 6 rfl (fun _=>Vd rfl X7d 0)<|Ye 7 rfl (X0 rfl Xao (b.at 0))<|Yo 8 rfl (fun _=>X1f rfl X78)<|Yo 9 rfl (fun _=>Xhd rfl rfl) ?_;refine Yd fun a c=>?_;refine aK _ _ ?_
  refine Xg c rfl (fun f=>?_) (fun f=>?_)
  ·have aB:=f;have f:=of_decide_eq_true f;refine Zs c fun _ aL=>?_;refine Zm rfl<|Za rfl<|Zt aL fun a c=>?_;refine wp_ret<|X7<|X3 c (Xz c rfl rfl) ?_;exact ⟨_,t+1,_,rfl,(by first|omega|exact X9a _),⟨by omega,by omega⟩,i,b⟩
  have aB:=f;have f:=of_decide_eq_false f;refine wp_skip<|aJ _ _<|Zs c fun _ aM=>?_;refine Zm rfl<|Ze (X0v rfl)<|Ze (Vd rfl X4f 2)<|Ze (X0 rfl Xef (b.at 2))<|Ze (Xa1 (m:=40) rfl rfl rfl (by decide)) ?_;refine Ze (Xbo rfl rfl)<|Ze (Xv5 Tryz.underlying49 Tryz.underlying3 rfl (Xj0 _))<|Za rfl<|Zt aM fun a c=>?_
  refine wp_ret (X3 c (Xz c rfl rfl) ?_)
  exact ⟨_,t+1,_,rfl,(by first|omega|exact X9a _),⟨by omega,by omega⟩,i,b⟩
 have aF:=n;have n:=of_decide_eq_false n;refine wp_skip<|aE _ _<|Zs c fun _ aN=>?_;refine Zm rfl<|Ze (X0v rfl)<|Ze (Vd rfl X39 1)<|Ze (X0 rfl X2 (b.at 1))<|Ze (Xu rfl rfl (by omega) (by omega)) ?_;refine Ze (X0v rfl)<|Ze (Vd rfl X39 1)<|Zo (X2z (vs:=[vi ((t:Int)+1)]) (l':=[.slice j d.length o,vi ((t:Int)+1),.int .u64 sd]) rfl rfl X12 b rfl rfl rfl rfl rfl) ?_;rintro _ w6 ⟨ho,hb⟩;have q:=b;have i:=i.self ho;have b:=hb;refine Zx aN fun a c _ aO=>?_;refine Zm rfl<|Zm rfl<|Ze (X0v rfl)<|Ze (Vd rfl X4f 2)<|Ze (X0 rfl Xef (b.at 2)) ?_;refine Ze (Xtd rfl rfl)<|Zm rfl<|Ze (Y0k Tryz.underlying3 Tryz.underlying49 rfl)<|Ze (X7q rfl rfl)<|Ze (X7q rfl rfl) ?_;refine Ze (X0v rfl)<|Ze (Vd rfl X4f 2)<|Zo (X2z (vs:=[.int .u64 (wu ((wu ((wu (sd*6364136223846793005))+(wu 0)))+1442695040888963407))]) (l':=[.slice j d.length o,vi ((t:Int)+1),.int .u64 (wu ((wu ((wu (sd*6364136223846793005))+(wu 0)))+1442695040888963407))]) rfl rfl Xlx b rfl rfl rfl rfl rfl) ?_;rintro _ w7 ⟨ho,hb⟩;have q:=b;have i:=i.self ho;have b:=hb;refine ZX aO fun a c _ aP=>?_;refine wp_seq_k fun _ aQ=>?_;refine Xq none (fun _=>false) mixed ?_;intro w8 p;have b:=b.below p;have i:=ktr i p;refine Yb c<|Yo 0 rfl (fun _=>X4 rfl)<|Yo 1 rfl (fun _=>X0v rfl)<|Yo 2 rfl (fun _=>Vd rfl X39 1)<|Ye 3 rfl (X0 rfl X2 (b.at 1))<|Yo 4 rfl (fun _=>X4 rfl) ?_;refine Yo 5 rfl (fun _=>X0v rfl)<|Yo 6 rfl (fun _=>Vd rfl X7d 0)<|Ye 7 rfl (X0 rfl Xao (b.at 0))<|Yo 8 rfl (fun _=>X1f rfl X78)<|Yo 9 rfl (fun _=>Xhd rfl rfl) ?_;refine Yd fun a c=>?_;refine aQ _ _ ?_
 refine Xg c rfl (fun g=>?_) (fun g=>?_)
 ·have aC:=g;have g:=of_decide_eq_true g;refine Zs c fun _ aR=>?_;refine Zm rfl<|Za rfl<|Zt aR fun a c=>?_;refine wp_ret<|X7<|X3 c (Xz c rfl rfl) ?_;exact ⟨_,t+1,_,rfl,(by first|omega|exact X9a _),⟨by omega,by omega⟩,i,b⟩
 have aC:=g;have g:=of_decide_eq_false g;refine wp_skip<|aP _ _<|Zs c fun _ aS=>?_;refine Zm rfl<|Ze (X0v rfl)<|Ze (Vd rfl X4f 2)<|Ze (X0 rfl Xef (b.at 2))<|Ze (Xa1 (m:=40) rfl rfl rfl (by decide)) ?_;refine Ze (Xbo rfl rfl)<|Ze (Xv5 Tryz.underlying49 Tryz.underlying3 rfl (Xj0 _))<|Za rfl<|Zt aS fun a c=>?_
 refine wp_ret (X3 c (Xz c rfl rfl) ?_)
 exact ⟨_,t+1,_,rfl,(by first|omega|exact X9a _),⟨by omega,by omega⟩,i,b⟩
theorem X1x(w0:World)(bV:Nat){aI:TypeId}(i:Option Addr)(m:Nat)(c:List Int)(b:Rd w0 w0.heap.size aI encU i c)(aD:∀ x ∈ c,0≤x∧x≤255)(aA:AwayR c i bV)(t:Nat)(sd:Int)(f:Blk w0 bV 51 [.slice i c.length m,vi (t:Int),.int .u64 sd])(n:Int)(ht:t+2≤100000000) : Ret Tryz.prog 16 [.pointer (some ⟨bV,0,none⟩),vi n] w0 (fun v w=>∃ (x:Int) (t1:Nat) (s1:Int),v=vi x∧(0≤x∧(x=0∨x<n))∧(t≤t1∧t1≤t+2)∧Kept bV w0.heap.size w0 w∧Blk w bV 51 [.slice i c.length m,vi (t1:Int),.int .u64 s1]):=by
 have aT:=f.lt;refine enter Tryz.func16 rfl 20 rfl rfl ?_;intro a d
 have j:Kept bV w0.heap.size w0 w0:=Kept.refl _ _ _
 refine Zs d fun _ aJ=>?_;refine Za rfl<|ZX aJ fun a d _ aK=>?_;refine Zs d fun _ aL=>?_;refine Zm rfl<|Ze (Xhd rfl rfl)<|Zt aL fun a d=>?_
 refine Xg d rfl (fun g=>?_) (fun g=>?_)
 ·have aE:=g;have g:=of_decide_eq_true g
  have aB:n≤1:=g
  refine Zs d fun _ aM=>?_;refine Za rfl<|Zt aM fun a d=>?_;refine wp_ret<|X7<|X3 d (Xz d rfl rfl) ?_;exact ⟨0,t,sd,rfl,⟨by omega,.inl rfl⟩,⟨by omega,by omega⟩,j,f⟩
 have aE:=g;have g:=of_decide_eq_false g
 have aB:1<n:=by have:=g;omega
 refine wp_skip<|aK _ _<|Zs d fun _ aN=>?_;refine Zm rfl<|Zf (Vc (Xtw _ bV i m c b.top aD aA t sd f (by omega)) Xjr) ?_;rintro _ w1 ⟨b0,aO,aP,rfl,aU,aW,hK,k⟩;obtain ⟨wm,hO,hm,hE⟩:=hK.mid;clear hm;have l:=f;have b:=b.onlyA hO aA;have j:=j.self hO;have b:=b.below hE;have j:=ktr j hE
 clear l hE hO hK;have f:=k;clear k;refine Za rfl<|ZX aN fun a d _ aF=>?_;refine Zs d fun _ aQ=>?_;refine Zm rfl<|Ze (X42 rfl rfl)<|Zt aQ fun a d=>?_
 refine Xg d rfl (fun e=>?_) (fun e=>?_)
 ·have aC:=e;have e:=of_decide_eq_true e;refine Zr d<|Zm rfl<|Ze (X2y rfl rfl (by omega) (by omega))<|Zm rfl<|Zf (Vc (Xtw _ bV i m c b.top aD aA aO aP f (by omega)) Xjr) ?_;rintro _ w2 ⟨aX,aY,aZ,rfl,aR,aS,hK,k⟩;obtain ⟨wm,hO,hm,hE⟩:=hK.mid;clear hm;have l:=f;have j:=j.self hO;have j:=ktr j hE
  clear l hE hO hK;have f:=k;clear k;refine Ze (Xu rfl rfl (by omega) (by omega))<|Za rfl<|Zx aF fun a d _ aG=>?_;refine Zm rfl<|Zm rfl<|Ze (X5v rfl rfl (by simp;omega))<|Za rfl<|Zt aG fun a d=>?_
  refine wp_ret (X3 d (Xz d rfl rfl) ?_)
  exact ⟨_,_,_,rfl,pk (by omega) aB,⟨by omega,by omega⟩,j,f⟩
 have aC:=e;have e:=of_decide_eq_false e;refine wp_skip<|aF _ _<|Zs d fun _ aH=>?_;refine Zm rfl<|Zm rfl<|Ze (X5v rfl rfl (by simp;omega))<|Za rfl<|Zt aH fun a d=>?_
 refine wp_ret (X3 d (Xz d rfl rfl) ?_)
 exact ⟨_,_,_,rfl,pk (by omega) aB,⟨by omega,by omega⟩,j,f⟩
theorem Xlz(w0:World)(bV:Nat){aD:TypeId}(c:Option Addr)(aA:Nat)(b:List Int)(d:Rd w0 w0.heap.size aD encU c b)(aE:∀ x ∈ b,0≤x∧x≤255)(aF:AwayR b c bV)(t:Nat)(sd:Int)(e:Blk w0 bV 51 [.slice c b.length aA,vi (t:Int),.int .u64 sd])(n:Int)(ht:t+2≤100000000) : Ret Tryz.prog 15 [.pointer (some ⟨bV,0,none⟩),vi n] w0 (fun v w=>∃ (x:Bool) (t1:Nat) (s1:Int),v=.bool x∧(True)∧(t≤t1∧t1≤t+2)∧Kept bV w0.heap.size w0 w∧Blk w bV 51 [.slice c b.length aA,vi (t1:Int),.int .u64 s1]):=by
 have aI:=e.lt;refine enter Tryz.func15 rfl 9 rfl rfl ?_;intro a hf
 have hW:Kept bV w0.heap.size w0 w0:=Kept.refl _ _ _
 refine Zs hf fun _ aG=>?_;refine Za rfl<|Zx aG fun a hf _ aH=>?_;refine Zm rfl<|Zm rfl<|Zf (Vc (X1x _ bV c aA b d.top aE aF t sd e n (by omega)) X10) ?_;rintro _ w1 ⟨aL,aM,aN,rfl,aJ,aK,hK,aB⟩;obtain ⟨wm,hO,hm,hE⟩:=hK.mid;clear hm;have aC:=e;have hW:=hW.self hO;have hW:=ktr hW hE
 clear aC hE hO hK;have e:=aB;clear aB;refine Ze (X0l rfl rfl)<|Za rfl<|Zt aH fun a hf=>?_
 refine wp_ret (X3 hf (Xz hf rfl rfl) ?_)
 exact ⟨_,_,_,rfl,trivial,⟨by omega,by omega⟩,hW,e⟩
theorem X8i(w0:World)(bV:Nat){aE:TypeId}(d:Option Addr)(aA:Nat)(b:List Int)(e:Rd w0 w0.heap.size aE encU d b)(aF:∀ x ∈ b,0≤x∧x≤255)(aG:AwayR b d bV)(t:Nat)(sd:Int)(f:Blk w0 bV 51 [.slice d b.length aA,vi (t:Int),.int .u64 sd])(Al:Option Addr)(cl:Nat)(l:List Int)(c:Rd w0 w0.heap.size 3 encI Al l)(aM:0<l.length)(aN:l.length≤1000)(ht:t+2≤100000000) : Ret Tryz.prog 26 [.pointer (some ⟨bV,0,none⟩),.slice Al l.length cl] w0 (fun v w=>∃ (x:Int) (t1:Nat) (s1:Int),v=vi x∧(x ∈ l)∧(t≤t1∧t1≤t+2)∧Kept bV w0.heap.size w0 w∧Blk w bV 51 [.slice d b.length aA,vi (t1:Int),.int .u64 s1]):=by
 have aJ:=f.lt;refine enter Tryz.func26 rfl 12 rfl rfl ?_;intro a hf
 have hW:Kept bV w0.heap.size w0 w0:=Kept.refl _ _ _
 refine Zs hf fun _ aH=>?_;refine Za rfl<|Zx aH fun a hf _ aI=>?_;refine Zm rfl<|Zm rfl<|Zm rfl<|Ze (X1f rfl X0f)<|Zf (Vc (X1x _ bV d aA b e.top aF aG t sd f (l.length:Int) (by omega)) X10) ?_;rintro _ w1 ⟨aB,aO,aP,rfl,aK,aL,hK,aC⟩;obtain ⟨wm,hO,hm,hE⟩:=hK.mid;clear hm;have g:=f;have c:=c.onlyT hO g rfl;have hW:=hW.self hO;have c:=c.below hE;have hW:=ktr hW hE
 clear g hE hO hK;have f:=aC;clear aC;refine Zi (k:=aB.toNat) (u:=(l.getD aB.toNat 0)) (enc:=encI) (l:=l) trivial rfl rfl X0f X12 X0h c (X8u (by omega)) (by omega) ?_;intro p6 aD;refine Ze (X0 rfl X2 aD)<|Za rfl<|Zt aI fun a hf=>?_
 refine wp_ret (X3 hf (Xz hf rfl rfl) ?_)
 exact ⟨_,_,_,rfl,Xcl (by omega),⟨by omega,by omega⟩,hW,f⟩
theorem Xyr(w0:World)(bV:Nat){b2:TypeId}(G:Option Addr)(J:Nat)(q:List Int)(b:Rd w0 w0.heap.size b2 encU G q)(aA:∀ x ∈ q,0≤x∧x≤255)(L:AwayR q G bV)(t:Nat)(sd:Int)(c:Blk w0 bV 51 [.slice G q.length J,vi (t:Int),.int .u64 sd])(n:Int)(Al:Option Addr)(cl:Nat)(l:List Int)(A:Rd w0 w0.heap.size 3 encI Al l)(hn:1≤n∧n≤100)(bF:0<l.length)(bG:l.length≤1000)(ht:t+6≤100000000) : Ret Tryz.prog 104 [.pointer (some ⟨bV,0,none⟩),vi n,.slice Al l.length cl] w0 (fun v w=>∃ (x:Gt) (t1:Nat) (s1:Int),v=gV x∧(True)∧(t≤t1∧t1≤t+6)∧Kept bV w0.heap.size w0 w∧Blk w bV 51 [.slice G q.length J,vi (t1:Int),.int .u64 s1]):=by
 have bE:=c.lt;refine enter Tryz.func104 rfl 42 rfl rfl ?_;intro a o
 have i:Kept bV w0.heap.size w0 w0:=Kept.refl _ _ _
 refine Zs o fun _ b3=>?_;refine Zf (X6 (zs:=[vi 0,vi 0,vi 0]) Xb9 rfl) ?_;rintro _ w1 ⟨b4,rfl,aG,p,d⟩;have H:=Nat.le_trans i.size aG;have aZ:=b.away aG;have c:=c.below p;have b:=b.below p;have A:=A.below p;have i:=ktr i p;refine Zx b3 fun a o _ b5=>?_;refine Zm rfl<|Zm rfl<|Zm rfl<|Ze (X1f rfl X0f)<|Zf (Vc (X1x _ bV G J q b.top aA L t sd c (l.length:Int) (by omega)) X10) ?_;rintro _ w2 ⟨g,aH,aI,rfl,b6,b7,U,B⟩;obtain ⟨wm,E,hm,p⟩:=U.mid;clear hm;have e:=c;have d:=d.only E (Blk.ne d e rfl);have b:=b.onlyA E L;have A:=A.onlyT E e rfl;have i:=i.self E;have d:=d.below p;have b:=b.below p;have A:=A.below p;have i:=ktr i p
 clear e p E U;have c:=B;clear B;refine Zi (k:=g.toNat) (u:=(l.getD g.toNat 0)) (enc:=encI) (l:=l) trivial rfl rfl X0f X12 X0h A (X8u (by omega)) (by omega) ?_;intro p7 aJ;refine Ze (X0 rfl X2 aJ)<|Ze (Xk (ps:=[(0,vi (l.getD g.toNat 0))]) (cs:=[vi (l.getD g.toNat 0),vi 0,vi 0]) rfl (fun _=>by first|rfl|kernel_rfl))<|Zf (X6 (zs:=[vi 0,vi 0,vi 0]) Xb9 rfl) ?_;rintro _ w3 ⟨b8,rfl,aK,p,f⟩
 have b0:b4≠b8:=by have:=d.lt;omega
 have C:=Nat.le_trans i.size aK;have b1:=b.away aK;have c:=c.below p;have d:=d.below p;have b:=b.below p;have i:=ktr i p;refine Zo (Vw [vi (l.getD g.toNat 0),vi 0,vi 0] X2q f) ?_;rintro _ w4 ⟨y,I⟩;have e:=f;have c:=c.only y (Blk.ne c e rfl);have d:=d.only y (by omega);have b:=b.only y C;have i:=Kept.only i y C;have f:=I;refine ZX b5 fun a o _ b9=>?_;refine Zs o fun _ aL=>?_;refine Ze (Vd rfl X1i 0)<|Ze (X0 rfl X2 (f.at 0))<|Ze (X0l rfl rfl)<|Zt aL fun a o=>?_
 refine Xg o rfl (fun M=>?_) (fun M=>?_)
 ·have aB:=M;refine Zs o fun _ aM=>?_;refine Ze (Vn X23 f)<|Zo (Vw [vi (l.getD g.toNat 0),vi 0,vi 0] X2q d) ?_;rintro _ w5 ⟨y,I⟩;have e:=d;have c:=c.only y (Blk.ne c e rfl);have i:=Kept.only i y H;have d:=I;refine Zt aM fun a o=>?_;refine wp_ret<|X7<|X3 o (Xz o rfl (ResV.cellN (l:=[vi (l.getD g.toNat 0),vi 0,vi 0]) rfl X23 (d.at 0) rfl)) ?_;exact ⟨⟨_,_,_⟩,_,_,rfl,trivial,⟨by omega,by omega⟩,i,c⟩
 have aB:=M;refine wp_skip<|b9 _ _<|Zs o fun _ aN=>?_;refine Zm rfl<|Zm rfl<|Zf (Vc (X1x _ bV G J q b.top aA L aH aI c n (by omega)) X10) ?_;rintro _ w6 ⟨m,aO,aP,rfl,bC,bD,U,B⟩;obtain ⟨wm,E,hm,p⟩:=U.mid;clear hm;have e:=c;have d:=d.only E (Blk.ne d e rfl);have f:=f.only E (Blk.ne f e rfl);have b:=b.onlyA E L;have i:=i.self E;have d:=d.below p;have f:=f.below p;have b:=b.below p;have i:=ktr i p
 clear e p E U;have c:=B;clear B;refine Ze (Vd rfl X11 1)<|Zo (Vu (vs:=[vi m]) (l':=[vi (l.getD g.toNat 0),vi m,vi 0]) rfl rfl X12 f) ?_;rintro _ w7 ⟨y,I⟩;have e:=f;have c:=c.only y (Blk.ne c e rfl);have d:=d.only y (by omega);have b:=b.only y C;have i:=Kept.only i y C;have f:=I;refine ZX aN fun a o _ W=>?_;refine Zs o fun _ aQ=>?_;refine Ze (Vd rfl X1i 0)<|Ze (X0 rfl X2 (f.at 0))<|Zf (Vc (F85 _ (l.getD g.toNat 0) 9 11) X3f) ?_;rintro _ _ ⟨rfl,rfl⟩;refine Zt aQ fun a o=>?_
 refine Xg o rfl (fun N=>?_) (fun N=>?_)
 ·have aC:=N;refine wp_seq_k fun _ aR=>?_;refine Zs o fun _ aS=>?_;refine Zm rfl<|Ze (X0l rfl rfl)<|Zt aS fun a o=>?_
  refine Xg o rfl (fun Q=>?_) (fun Q=>?_)
  ·have aD:=Q;refine Zs o fun _ aT=>?_;refine Ze (Xk (ps:=[(0,vi 1)]) (cs:=[vi 1,vi 0,vi 0]) rfl (fun _=>by first|rfl|kernel_rfl))<|Zo (Vw [vi 1,vi 0,vi 0] X2q d) ?_;rintro _ w8 ⟨y,I⟩;have e:=d;have c:=c.only y (Blk.ne c e rfl);have i:=Kept.only i y H;have d:=I;refine Zt aT fun a o=>?_;refine wp_ret<|X7<|X7<|X3 o (Xz o rfl (ResV.cellN (l:=[vi 1,vi 0,vi 0]) rfl X23 (d.at 0) rfl)) ?_;exact ⟨⟨_,_,_⟩,_,_,rfl,trivial,⟨by omega,by omega⟩,i,c⟩
  have aD:=Q;refine wp_skip<|aR _ _<|Xq (some bV) (fun j=>[11].contains j) mixed ?_;intro w9 p;have c:=c.below p;have d:=d.below p;have f:=f.below p;have b:=b.below p;have i:=ktr i p;refine Yb o<|Yo 0 rfl (fun _=>Vd rfl X11 1) ?_;refine Yw 1 rfl trivial (fun w1 h1=>X0 rfl X2 ((f.only h1 (Blk.ne f c rfl)).at 1)) ?_;refine Yo 2 rfl (fun _=>Xu rfl rfl (by omega) (by omega))<|Yo 3 rfl (fun _=>X4 rfl)<|Yo 4 rfl (fun _=>X4 rfl)<|Yo 5 rfl (fun _=>X15 rfl rfl (by omega) (by omega))<|Yo 8 rfl (fun _=>X4 rfl) ?_;refine Y1 6<|Yf rfl trivial (EfW.mono (Vc (X1x _ bV G J q b.top aA L aO aP c (n-1) (by omega)) X10) (fun _ _ h=>⟨fun _=>by obtain ⟨D,aU,aW,rfl,aE,aF,U,B⟩:=h;exact U.keep,h⟩)) ?_;rintro _ bH ⟨D,aU,aW,rfl,aE,aF,U,B⟩;obtain ⟨wm,E,hm,p⟩:=U.mid;clear hm;have e:=c;have d:=d.only E (Blk.ne d e rfl);have f:=f.only E (Blk.ne f e rfl);have i:=i.self E;have d:=d.below p;have f:=f.below p;have i:=ktr i p
  clear e p E U;have c:=B;clear B;refine Yo 7 rfl (fun _=>Xu rfl rfl (by omega) (by omega))<|Yo 9 rfl (fun _=>X5v rfl rfl (by simp;omega))<|Yo 10 rfl (fun _=>Vd rfl X1d 2)<|Y1 11 ?_;refine Yh rfl trivial rfl (Vu (vs:=[vi (((m+1)+D).tmod n)]) (l':=[vi (l.getD g.toNat 0),vi m,vi (((m+1)+D).tmod n)]) rfl rfl X12 f) ?_;rintro _ bJ ⟨y,I⟩;have e:=f;have c:=c.only y (Blk.ne c e rfl);have d:=d.only y (by omega);have i:=Kept.only i y C;have f:=I;refine Yd fun a o=>?_;refine W _ _<|Zs o fun _ aX=>?_;refine Ze (Vn X23 f)<|Zo (Vw [vi (l.getD g.toNat 0),vi m,vi (((m+1)+D).tmod n)] X2q d) ?_;rintro _ bK ⟨y,I⟩;have e:=d;have c:=c.only y (Blk.ne c e rfl);have i:=Kept.only i y H;have d:=I;refine Zt aX fun a o=>?_
  refine wp_ret (X3 o (Xz o rfl (ResV.cellN (l:=[vi (l.getD g.toNat 0),vi m,vi (((m+1)+D).tmod n)]) rfl X23 (d.at 0) rfl)) ?_)
  exact ⟨⟨_,_,_⟩,_,_,rfl,trivial,⟨by omega,by omega⟩,i,c⟩
 have aC:=N;refine wp_skip<|W _ _<|Zs o fun _ aY=>?_;refine Ze (Vn X23 f)<|Zo (Vw [vi (l.getD g.toNat 0),vi m,vi 0] X2q d) ?_;rintro _ bL ⟨y,I⟩;have e:=d;have c:=c.only y (Blk.ne c e rfl);have i:=Kept.only i y H;have d:=I;refine Zt aY fun a o=>?_
 refine wp_ret (X3 o (Xz o rfl (ResV.cellN (l:=[vi (l.getD g.toNat 0),vi m,vi 0]) rfl X23 (d.at 0) rfl)) ?_)
 exact ⟨⟨_,_,_⟩,_,_,rfl,trivial,⟨by omega,by omega⟩,i,c⟩
theorem Y02(w0:World)(bV:Nat){aL:TypeId}(G:Option Addr)(U:Nat)(B:List Int)(d:Rd w0 w0.heap.size aL encU G B)(aM:∀ x ∈ B,0≤x∧x≤255)(aC:AwayR B G bV)(t:Nat)(sd:Int)(g:Blk w0 bV 51 [.slice G B.length U,vi (t:Int),.int .u64 sd])(n:Int)(most:Int)(Al:Option Addr)(cl:Nat)(l:List Int)(f:Rd w0 w0.heap.size 3 encI Al l)(hn:1≤n∧n≤100)(hm:0≤most∧most≤1000)(b6:0<l.length)(b7:l.length≤1000)(ht:t+(2+6*most.toNat)≤100000000) : Ret Tryz.prog 80 [.pointer (some ⟨bV,0,none⟩),vi n,vi most,.slice Al l.length cl] w0 (fun v w=>∃ (c:Cx) (A:Option Addr) (e:Nat) (t1:Nat) (s1:Int),v=.agg #[vi c.n,.slice A c.gs.length e]∧(c.n=n∧(c.gs.length:Int)≤most)∧(t≤t1∧t1≤t+(2+6*most.toNat))∧Own w w0.heap.size 55 3 encG A e c.gs∧Kept bV w0.heap.size w0 w∧Blk w bV 51 [.slice G B.length U,vi (t1:Int),.int .u64 s1]):=by
 have bG:=g.lt;refine enter Tryz.func80 rfl 31 rfl rfl ?_;intro a E
 have y:Kept bV w0.heap.size w0 w0:=Kept.refl _ _ _
 refine Zs E fun _ b8=>?_;refine Zf (X6 (zs:=[vi 0,.slice none 0 0]) Xah rfl) ?_;rintro _ w1 ⟨b5,rfl,aN,q,m⟩;have aO:=Nat.le_trans y.size aN;have b2:=d.away aN;have g:=g.below q;have d:=d.below q;have f:=f.below q;have y:=ktr y q;refine Zx b8 fun a E _ bC=>?_;refine Zm rfl<|Ze (Xk (ps:=[(0,vi n)]) (cs:=[vi n,.slice none 0 0]) rfl (fun _=>by first|rfl|kernel_rfl))<|Zf (X6 (zs:=[vi 0,.slice none 0 0]) Xah rfl) ?_;rintro _ w2 ⟨b9,rfl,aP,q,o⟩
 have b3:b5≠b9:=by have:=m.lt;omega
 have I:=Nat.le_trans y.size aP;have b4:=d.away aP;have g:=g.below q;have m:=m.below q;have d:=d.below q;have f:=f.below q;have y:=ktr y q;refine Zo (Vw [vi n,.slice none 0 0] X45 o) ?_;rintro _ w3 ⟨H,hb⟩;have i:=o;have g:=g.only H (Blk.ne g i rfl);have m:=m.only H (by omega);have d:=d.only H I;have f:=f.onlyT H i rfl;have y:=Kept.only y H I;have o:=hb;refine ZX bC fun a E _ aQ=>?_;refine Zs E fun _ aR=>?_;refine Zm rfl<|Zm rfl<|Ze (Xu rfl rfl (by omega) (by omega))<|Zf (Vc (X1x _ bV G U B d.top aM aC t sd g (most+1) (by omega)) X10) ?_;rintro _ w4 ⟨aS,aT,aU,rfl,bD,bE,hK,L⟩;obtain ⟨wm,J,hm,q⟩:=hK.mid;clear hm;have i:=g;have m:=m.only J (Blk.ne m i rfl);have o:=o.only J (Blk.ne o i rfl);have d:=d.onlyA J aC;have f:=f.onlyT J i rfl;have y:=y.self J;have m:=m.below q;have o:=o.below q;have d:=d.below q;have f:=f.below q;have y:=ktr y q
 clear i q J hK;have g:=L;clear L;refine Za rfl<|Zt aR fun a E=>?_;refine wp_block<|X06 (σ:=Int×(List Gt)×Nat×Int) (fun (s:Int×(List Gt)×Nat×Int) (a:Act) (w:World)=>match s with|(j,gs,t2,s2)=>∃ M N,Fr a 31 [(0,.pointer (some ⟨bV,0,none⟩)),(1,vi n),(3,.slice Al l.length cl),(8,.pointer (some ⟨b5,0,none⟩)),(9,.pointer (some ⟨b9,0,none⟩)),(10,vi j)]∧(0≤j∧j+gs.length≤most)∧(t≤t2∧t2+6*j.toNat≤t+(2+6*most.toNat))∧Blk w bV 51 [.slice G B.length U,vi (t2:Int),.int .u64 s2]∧Blk w b5 25 [vi 0,.slice none 0 0]∧Blk w b9 25 [vi n,.slice M gs.length N]∧Rd w w0.heap.size aL encU G B∧Rd w w0.heap.size 3 encI Al l∧Own w w0.heap.size 55 3 encG M N gs∧Kept bV w0.heap.size w0 w) (fun (s:Int×(List Gt)×Nat×Int)=>match s with|(j,gs,t2,s2)=>j.toNat) (aS,[],aT,aU) ?_ ?_
 ·exact ⟨none,0,E.sb,(by simp;omega),(by omega),g,m,o,d,f,(Own.nil _ _ _ _ _),y⟩
 rintro ⟨j,gs,t2,s2⟩ a w5 ⟨M,N,E,hj,bH,g,m,o,d,f,p,y⟩;refine wp_seq_k fun _ aW=>?_;refine Zs E fun _ aX=>?_;refine Zm rfl<|Ze (X42 rfl rfl)<|Zt aX fun a E=>?_
 refine Xg E rfl (fun C=>?_) (fun C=>?_)
 ·have aF:=C;have C:=of_decide_eq_true C;refine wp_skip<|aW _ _<|wp_seq_k fun _ aY=>?_;refine wp_block<|Xq (some bV) (fun j=>[7,9].contains j) mixed ?_;intro w6 q;have g:=g.below q;have m:=m.below q;have o:=o.below q;have d:=d.below q;have f:=f.below q;have p:=p.below q;have y:=ktr y q;refine Yb E<|Yo 0 rfl (fun _=>Vd rfl X2d 1) ?_;refine Yw 1 rfl trivial (fun w1 h1=>X0 rfl X66 ((o.only h1 (Blk.ne o g rfl)).at 1)) ?_;refine Yo 2 rfl (fun _=>X4 rfl)<|Yo 3 rfl (fun _=>X4 rfl)<|Yo 4 rfl (fun _=>X4 rfl)<|Y1 5 ?_;refine Yf rfl trivial (EfW.mono (Vc (Xyr _ bV G U B d.top aM aC t2 s2 g n Al cl l f.top hn b6 b7 (by omega)) Xil) (fun _ _ h=>⟨fun _=>by obtain ⟨u,aD,aE,rfl,aG,aH,hK,L⟩:=h;exact hK.keep,h⟩)) ?_;rintro _ w7 ⟨u,aD,aE,rfl,aG,aH,hK,L⟩;obtain ⟨wm,J,hm,q⟩:=hK.mid;clear hm;have i:=g;have m:=m.only J (Blk.ne m i rfl);have o:=o.only J (Blk.ne o i rfl);have d:=d.onlyA J aC;have f:=f.onlyT J i rfl;have p:=p.onlyT J i rfl;have y:=y.self J;have m:=m.below q;have o:=o.below q;have d:=d.below q;have f:=f.below q;have p:=p.below q;have y:=ktr y q
  clear i q J hK;have g:=L;clear L;refine Y1 6<|Yf rfl trivial (EfW.mono (Xb (k:=1) (vs:=[.agg #[vi u.k,vi u.a,vi u.b]]) (zs:=[vi u.k,vi u.a,vi u.b]) rfl X3c X4w rfl rfl) (fun _ _ h=>⟨fun _=>by obtain ⟨_,_,_,q,_⟩:=h;exact Keep.of_below q,h⟩)) ?_;rintro _ w8 ⟨bJ,rfl,W,q,aA⟩;have bF:=Nat.le_trans y.size W;have aZ:=d.away W;have Q:=p.away W;have g:=g.below q;have m:=m.below q;have o:=o.below q;have d:=d.below q;have f:=f.below q;have p:=p.below q;have y:=ktr y q;refine Y1 7<|Yt rfl trivial rfl (X1e (enc:=encG) (l:=(gs)) (l2:=([u])) (B0:=w0.heap.size) rfl rfl X3c X4w X3n X8k p (Rd.of_blk aA rfl _ aA.lt) (by simp only [maxLen];simp;omega) (by simp;omega) y.size) ?_;rintro _ w9 ⟨aI,aJ,rfl,aB,hg,b0⟩
  have D:Own _ w0.heap.size 55 3 encG _ _ (gs):=p
  have aK:=b0 _ aA.lt Q;clear b0;have g:=g.appT D hg rfl;have m:=m.appT D hg rfl;have o:=o.appT D hg rfl;have d:=d.appB D hg (Nat.le_refl _);have f:=f.appT D hg rfl;have y:=Kept.app y D hg (Nat.le_refl _) y.size;clear D hg;refine Yo 8 rfl (fun _=>Vd rfl X2d 1)<|Y1 9 ?_;refine Yh rfl trivial rfl (Vu (vs:=[.slice aI (gs++([u])).length aJ]) (l':=[vi n,.slice aI (gs++([u])).length aJ]) rfl rfl Xhx o) ?_;rintro _ bK ⟨H,hb⟩;have i:=o;have g:=g.only H (Blk.ne g i rfl);have m:=m.only H (by omega);have d:=d.only H I;have f:=f.onlyT H i rfl;have aB:=aB.onlyT H i rfl;have y:=Kept.only y H I;have o:=hb;refine Yd fun a E=>?_;refine Xa<|aY _ _<|Zr E<|Zm rfl<|Ze (X15 rfl rfl (by omega) (by omega))<|Za rfl ?_;refine Zn fun a E=>?_;refine Xd ?_;exact ⟨(j-1,gs++[u],aD,aE),⟨aI,aJ,E.sb,(by simp;omega),(by omega),g,m,o,d,f,aB,y⟩,(by first|omega|(dsimp only;omega))⟩
 have aF:=C;have C:=of_decide_eq_false C;refine wp_exit<|Xi<|Xi<|X03 ?_;refine aQ _ _<|Zs E fun _ b1=>?_;refine Ze (Vn X2r o)<|Zo (Vw [vi n,.slice M gs.length N] X45 m) ?_;rintro _ bL ⟨H,hb⟩;have i:=m;have g:=g.only H (Blk.ne g i rfl);have p:=p.onlyT H i rfl;have y:=Kept.only y H aO;have m:=hb;refine Zt b1 fun a E=>?_
 refine wp_ret (X3 E (Xz E rfl (ResV.cellN (l:=[vi n,.slice M gs.length N]) rfl X2r (m.at 0) rfl)) ?_)
 exact ⟨⟨n,gs⟩,M,N,_,_,rfl,⟨rfl,by show (gs.length:Int)≤most;omega⟩,⟨by omega,by omega⟩,p,y,g⟩
theorem Xxz(w0:World)(bV:Nat){aO:TypeId}(q:Option Addr)(y:Nat)(i:List Int)(b:Rd w0 w0.heap.size aO encU q i)(aD:∀ x ∈ i,0≤x∧x≤255)(aA:AwayR i q bV)(t:Nat)(sd:Int)(f:Blk w0 bV 51 [.slice q i.length y,vi (t:Int),.int .u64 sd])(ht:t+52≤100000000) : Ret Tryz.prog 46 [.pointer (some ⟨bV,0,none⟩)] w0 (fun v w=>∃ (c:Cx) (A:Option Addr) (e:Nat) (t1:Nat) (s1:Int),v=.agg #[vi c.n,.slice A c.gs.length e]∧((1≤c.n∧c.n≤3)∧c.gs.length≤8)∧(t≤t1∧t1≤t+52)∧Own w w0.heap.size 55 3 encG A e c.gs∧Kept bV w0.heap.size w0 w∧Blk w bV 51 [.slice q i.length y,vi (t1:Int),.int .u64 s1]):=by
 have aU:=f.lt;refine enter Tryz.func46 rfl 9 rfl rfl ?_;intro a hf
 have m:Kept bV w0.heap.size w0 w0:=Kept.refl _ _ _
 refine Zs hf fun _ aP=>?_;refine Zf (X6 (zs:=[vi 0,.slice none 0 0]) Xah rfl) ?_;rintro _ w1 ⟨b4,rfl,aE,j,d⟩;have aF:=Nat.le_trans m.size aE;have aK:=b.away aE;have f:=f.below j;have b:=b.below j;have m:=ktr m j;refine Zx aP fun a hf _ aQ=>?_;refine Zm rfl<|Zm rfl<|Zf (Xb (k:=4) (vs:=[vi 1,vi 2,vi 2,vi 3]) (zs:=[vi 1,vi 2,vi 2,vi 3]) rfl X0f X2m rfl rfl) ?_;rintro _ w2 ⟨b6,rfl,aG,j,o⟩;have aW:=Nat.le_trans m.size aG;have aL:=b.away aG;have f:=f.below j;have d:=d.below j;have b:=b.below j;have m:=ktr m j;refine Zf (Vc (X8i _ bV q y i b.top aD aA t sd f (some ⟨b6,0,none⟩) 4 ([1,2,2,3]) (Rd.of_blk o rfl _ o.lt) (by simp) (by simp) (by omega)) X49) ?_;rintro _ w3 ⟨aR,aS,aT,rfl,C,aX,hK,u⟩;obtain ⟨wm,h,hm,j⟩:=hK.mid;clear hm;have g:=f;have d:=d.only h (Blk.ne d g rfl);have o:=o.only h (Blk.ne o g rfl);have b:=b.onlyA h aA;have m:=m.self h;have d:=d.below j;have o:=o.below j;have b:=b.below j;have m:=ktr m j
 clear g j h hK;have f:=u;clear u;refine Zf (Xb (k:=15) (vs:=[vi 1,vi 2,vi 3,vi 4,vi 5,vi 6,vi 7,vi 8,vi 9,vi 9,vi 10,vi 11,vi 12,vi 7,vi 1]) (zs:=[vi 1,vi 2,vi 3,vi 4,vi 5,vi 6,vi 7,vi 8,vi 9,vi 9,vi 10,vi 11,vi 12,vi 7,vi 1]) rfl X0f X2m rfl rfl) ?_;rintro _ w4 ⟨b8,rfl,aH,j,aI⟩
 have aM:b6≠b8:=by have:=o.lt;omega
 have aY:=Nat.le_trans m.size aH;have aN:=b.away aH;have f:=f.below j;have d:=d.below j;have b:=b.below j;have m:=ktr m j;refine Zf (Vc (Y02 _ bV q y i b.top aD aA aS aT f aR 8 (some ⟨b8,0,none⟩) 15 ([1,2,3,4,5,6,7,8,9,9,10,11,12,7,1]) (Rd.of_blk aI rfl _ aI.lt) (by simp at C;omega) (by omega) (by simp) (by simp) (by omega)) Xei) ?_;rintro _ w5 ⟨B,aB,aC,b1,b2,rfl,aZ,b0,p,hK,u⟩;have aJ:=m.size;obtain ⟨wm,h,hm,j⟩:=hK.mid;clear hm;have g:=f;have d:=d.only h (Blk.ne d g rfl);have m:=m.self h;have d:=d.below j;have m:=ktr m j
 clear g j h hK;have f:=u;clear u
 have p:=p.lower aJ;clear aJ;refine Zo (Vw [vi B.n,.slice aB B.gs.length aC] X45 d) ?_;rintro _ w6 ⟨ho,hb⟩;have g:=d;have f:=f.only ho (Blk.ne f g rfl);have p:=p.onlyT ho g rfl;have m:=Kept.only m ho aF;have d:=hb;refine Zt aQ fun a hf=>?_
 refine wp_ret (X3 hf (Xz hf rfl (ResV.cellN (l:=[vi B.n,.slice aB B.gs.length aC]) rfl X2r (d.at 0) rfl)) ?_)
 exact ⟨_,aB,aC,_,_,rfl,⟨(by simp at C;omega),(by omega)⟩,⟨by omega,by omega⟩,p,m,f⟩
theorem Xza(w0:World)(bV:Nat){bU:TypeId}(M:Option Addr)(N:Nat)(B:List Int)(b:Rd w0 w0.heap.size bU encU M B)(aC:∀ x ∈ B,0≤x∧x≤255)(I:AwayR B M bV)(t:Nat)(sd:Int)(i:Blk w0 bV 51 [.slice M B.length N,vi (t:Int),.int .u64 sd])(ht:t+60≤100000000) : Ret Tryz.prog 17 [.pointer (some ⟨bV,0,none⟩)] w0 (fun v w=>∃ (c:Cx) (A:Option Addr) (e:Nat) (t1:Nat) (s1:Int),v=.agg #[vi c.n,.slice A c.gs.length e]∧((0≤c.n∧c.n≤6)∧c.gs.length≤9)∧(t≤t1∧t1≤t+60)∧Own w w0.heap.size 55 3 encG A e c.gs∧Kept bV w0.heap.size w0 w∧Blk w bV 51 [.slice M B.length N,vi (t1:Int),.int .u64 s1]):=by
 have cE:=i.lt;refine enter Tryz.func17 rfl 31 rfl rfl ?_;intro a G
 have p:Kept bV w0.heap.size w0 w0:=Kept.refl _ _ _
 refine Zs G fun _ bW=>?_;refine Zf (X6 (zs:=[vi 0,.slice none 0 0]) Xah rfl) ?_;rintro _ w1 ⟨b4,rfl,b3,o,g⟩;have aD:=Nat.le_trans p.size b3;have bP:=b.away b3;have i:=i.below o;have b:=b.below o;have p:=ktr p o;refine Zx bW fun a G _ bX=>?_;refine Zm rfl<|Zf (Vc (Xxz _ bV M N B b.top aC I t sd i (by omega)) Xjj) ?_;rintro _ w2 ⟨q,Q,U,bY,bZ,rfl,cF,cG,f,J,u⟩;have b5:=p.size;obtain ⟨wm,y,hm,o⟩:=J.mid;clear hm;have d:=i;have g:=g.only y (Blk.ne g d rfl);have b:=b.onlyA y I;have p:=p.self y;have g:=g.below o;have b:=b.below o;have p:=ktr p o
 clear d o y J;have i:=u;clear u
 have f:=f.lower b5;clear b5;refine Zf (X6 (zs:=[vi 0,.slice none 0 0]) Xah rfl) ?_;rintro _ w3 ⟨b8,rfl,b6,o,m⟩
 have bR:b4≠b8:=by have:=g.lt;omega
 have aB:=Nat.le_trans p.size b6;have bS:=b.away b6;have i:=i.below o;have g:=g.below o;have b:=b.below o;have f:=f.below o;have p:=ktr p o;refine Zo (Vw [vi q.n,.slice Q q.gs.length U] X45 m) ?_;rintro _ w4 ⟨H,hb⟩;have d:=m;have i:=i.only H (Blk.ne i d rfl);have g:=g.only H (by omega);have b:=b.only H aB;have f:=f.onlyT H d rfl;have p:=Kept.only p H aB;have m:=hb;refine ZX bX fun a G _ aR=>?_;refine Zs G fun _ b7=>?_;refine Zm rfl<|Zf (Vc (X1x _ bV M N B b.top aC I bY bZ i 14 (by omega)) X10) ?_;rintro _ w5 ⟨cM,b9,bC,rfl,cH,cJ,J,u⟩;obtain ⟨wm,y,hm,o⟩:=J.mid;clear hm;have d:=i;have g:=g.only y (Blk.ne g d rfl);have m:=m.only y (Blk.ne m d rfl);have b:=b.onlyA y I;have f:=f.onlyT y d rfl;have p:=p.self y;have g:=g.below o;have m:=m.below o;have b:=b.below o;have f:=f.below o;have p:=ktr p o
 clear d o y J;have i:=u;clear u;refine Zt b7 fun a G=>?_;refine wp_block<|Zs G fun _ bD=>?_;refine Ze (X0l rfl rfl)<|Za rfl<|Zt bD fun a G=>?_
 refine Xg G rfl (fun aE=>?_) (fun aE=>?_)
 ·have aS:=aE;refine Zr G<|Zm rfl<|Zf (Xb (k:=4) (vs:=[vi 0,vi 1,vi 5,vi 6]) (zs:=[vi 0,vi 1,vi 5,vi 6]) rfl X0f X2m rfl rfl) ?_;rintro _ w6 ⟨c4,rfl,aL,o,aM⟩;have cA:=Nat.le_trans p.size aL;have bE:=b.away aL;have i:=i.below o;have g:=g.below o;have m:=m.below o;have b:=b.below o;have f:=f.below o;have p:=ktr p o;refine Zf (Vc (X8i _ bV M N B b.top aC I b9 bC i (some ⟨c4,0,none⟩) 4 ([0,1,5,6]) (Rd.of_blk aM rfl _ aM.lt) (by simp) (by simp) (by omega)) X49) ?_;rintro _ w7 ⟨L,cK,cL,rfl,aT,cC,J,u⟩;obtain ⟨wm,y,hm,o⟩:=J.mid;clear hm;have d:=i;have g:=g.only y (Blk.ne g d rfl);have m:=m.only y (Blk.ne m d rfl);have f:=f.onlyT y d rfl;have p:=p.self y;have g:=g.below o;have m:=m.below o;have f:=f.below o;have p:=ktr p o
  clear d o y J;have i:=u;clear u;refine Ze (Vd rfl X3h 0)<|Zo (Vu (vs:=[vi L]) (l':=[vi L,.slice Q q.gs.length U]) rfl rfl X12 m) ?_;rintro _ w8 ⟨H,hb⟩;have d:=m;have i:=i.only H (Blk.ne i d rfl);have g:=g.only H (by omega);have f:=f.onlyT H d rfl;have p:=Kept.only p H aB;have m:=hb;refine Zn fun a G=>?_;refine Xa<|aR _ _<|Zs G fun _ bF=>?_;refine Ze (Vn X2r m)<|Zo (Vw [vi L,.slice Q q.gs.length U] X45 g) ?_;rintro _ w9 ⟨H,hb⟩;have d:=g;have i:=i.only H (Blk.ne i d rfl);have f:=f.onlyT H d rfl;have p:=Kept.only p H aD;have g:=hb;refine Zt bF fun a G=>?_
  refine wp_ret (X3 G (Xz G rfl (ResV.cellN (l:=[vi L,.slice Q q.gs.length U]) rfl X2r (g.at 0) rfl)) ?_)
  exact ⟨⟨L,q.gs⟩,Q,U,_,_,rfl,⟨(by simp at aT;show 0≤L∧L≤6;omega),(by show q.gs.length≤9;omega)⟩,⟨by omega,by omega⟩,f,p,i⟩
 have aS:=aE;refine Zs G fun _ bG=>?_;refine Ze (X0l rfl rfl)<|Za rfl<|Zt bG fun a G=>?_
 refine Xg G rfl (fun aF=>?_) (fun aF=>?_)
 ·have aU:=aF;refine Xq (some bV) (fun j=>[12,14].contains j) mixed ?_;intro cN o;have i:=i.below o;have g:=g.below o;have m:=m.below o;have b:=b.below o;have f:=f.below o;have p:=ktr p o;refine Yb G<|Yo 0 rfl (fun _=>Vd rfl X2d 1) ?_;refine Yw 1 rfl trivial (fun w1 h1=>X0 rfl X66 ((m.only h1 (Blk.ne m i rfl)).at 1)) ?_;refine Yo 2 rfl (fun _=>X4 rfl)<|Yo 4 rfl (fun _=>X4 rfl)<|Yo 7 rfl (fun _=>X4 rfl)<|Y1 3 ?_;refine Yf rfl trivial (EfW.mono (Vc (X1x _ bV M N B b.top aC I b9 bC i 14 (by omega)) X10) (fun _ _ h=>⟨fun _=>by obtain ⟨C,aN,aO,rfl,aW,aX,J,u⟩:=h;exact J.keep,h⟩)) ?_;rintro _ cO ⟨C,aN,aO,rfl,aW,aX,J,u⟩;obtain ⟨wm,y,hm,o⟩:=J.mid;clear hm;have d:=i;have g:=g.only y (Blk.ne g d rfl);have m:=m.only y (Blk.ne m d rfl);have b:=b.onlyA y I;have f:=f.onlyT y d rfl;have p:=p.self y;have g:=g.below o;have m:=m.below o;have b:=b.below o;have f:=f.below o;have p:=ktr p o
  clear d o y J;have i:=u;clear u;refine Y1 5<|Yf rfl trivial (EfW.mono (Vc (X1x _ bV M N B b.top aC I aN aO i 4 (by omega)) X10) (fun _ _ h=>⟨fun _=>by obtain ⟨D,aP,aQ,rfl,aY,aZ,J,u⟩:=h;exact J.keep,h⟩)) ?_;rintro _ cP ⟨D,aP,aQ,rfl,aY,aZ,J,u⟩;obtain ⟨wm,y,hm,o⟩:=J.mid;clear hm;have d:=i;have g:=g.only y (Blk.ne g d rfl);have m:=m.only y (Blk.ne m d rfl);have b:=b.onlyA y I;have f:=f.onlyT y d rfl;have p:=p.self y;have g:=g.below o;have m:=m.below o;have b:=b.below o;have f:=f.below o;have p:=ktr p o
  clear d o y J;have i:=u;clear u;refine Yo 6 rfl (fun _=>X15 rfl rfl (by omega) (by omega))<|Y1 8 ?_;refine Yf rfl trivial (EfW.mono (Vc (X1x _ bV M N B b.top aC I aP aQ i 4 (by omega)) X10) (fun _ _ h=>⟨fun _=>by obtain ⟨E,bH,bJ,rfl,b0,b1,J,u⟩:=h;exact J.keep,h⟩)) ?_;rintro _ cQ ⟨E,bH,bJ,rfl,b0,b1,J,u⟩;obtain ⟨wm,y,hm,o⟩:=J.mid;clear hm;have d:=i;have g:=g.only y (Blk.ne g d rfl);have m:=m.only y (Blk.ne m d rfl);have b:=b.onlyA y I;have f:=f.onlyT y d rfl;have p:=p.self y;have g:=g.below o;have m:=m.below o;have b:=b.below o;have f:=f.below o;have p:=ktr p o
  clear d o y J;have i:=u;clear u;refine Yo 9 rfl (fun _=>X15 rfl rfl (by omega) (by omega))<|Yo 10 rfl (fun _=>Xk (ps:=[(0,vi C),(1,vi (D-1)),(2,vi (E-1))]) (cs:=[vi C,vi (D-1),vi (E-1)]) rfl (fun _=>by first|rfl|kernel_rfl))<|Y1 11 ?_;refine Yf rfl trivial (EfW.mono (Xb (k:=1) (vs:=[.agg #[vi C,vi (D-1),vi (E-1)]]) (zs:=[vi C,vi (D-1),vi (E-1)]) rfl X3c X4w rfl rfl) (fun _ _ h=>⟨fun _=>by obtain ⟨_,_,_,o,_⟩:=h;exact Keep.of_below o,h⟩)) ?_;rintro _ cR ⟨cS,rfl,aG,o,aH⟩;have cD:=Nat.le_trans p.size aG;have bK:=b.away aG;have aI:=f.away aG;have i:=i.below o;have g:=g.below o;have m:=m.below o;have f:=f.below o;have p:=ktr p o;refine Y1 12<|Yt rfl trivial rfl (X1e (enc:=encG) (l:=(q.gs)) (l2:=([(⟨C,D-1,E-1⟩ : Gt)])) (B0:=w0.heap.size) rfl rfl X3c X4w X3n X8k f (Rd.of_blk aH rfl _ aH.lt) (by simp only [maxLen];simp;omega) (by simp;omega) p.size) ?_;rintro _ cU ⟨aJ,aK,rfl,W,hg,bL⟩
  have aA:Own _ w0.heap.size 55 3 encG _ _ (q.gs):=f
  have b2:=bL _ aH.lt aI;clear bL;have i:=i.appT aA hg rfl;have g:=g.appT aA hg rfl;have m:=m.appT aA hg rfl;have p:=Kept.app p aA hg (Nat.le_refl _) p.size;clear aA hg;refine Yo 13 rfl (fun _=>Vd rfl X2d 1)<|Y1 14 ?_;refine Yh rfl trivial rfl (Vu (vs:=[.slice aJ (q.gs++([(⟨C,D-1,E-1⟩ : Gt)])).length aK]) (l':=[vi q.n,.slice aJ (q.gs++([(⟨C,D-1,E-1⟩ : Gt)])).length aK]) rfl rfl Xhx m) ?_;rintro _ cW ⟨H,hb⟩;have d:=m;have i:=i.only H (Blk.ne i d rfl);have g:=g.only H (by omega);have W:=W.onlyT H d rfl;have p:=Kept.only p H aB;have m:=hb;refine Yd fun a G=>?_;refine Xa<|aR _ _<|Zs G fun _ bN=>?_;refine Ze (Vn X2r m)<|Zo (Vw [vi q.n,.slice aJ (q.gs++([(⟨C,D-1,E-1⟩ : Gt)])).length aK] X45 g) ?_;rintro _ cX ⟨H,hb⟩;have d:=g;have i:=i.only H (Blk.ne i d rfl);have W:=W.onlyT H d rfl;have p:=Kept.only p H aD;have g:=hb;refine Zt bN fun a G=>?_
  refine wp_ret (X3 G (Xz G rfl (ResV.cellN (l:=[vi q.n,.slice aJ (q.gs++([(⟨C,D-1,E-1⟩ : Gt)])).length aK]) rfl X2r (g.at 0) rfl)) ?_)
  exact ⟨⟨q.n,q.gs++[⟨C,D-1,E-1⟩]⟩,aJ,aK,_,_,rfl,⟨(by show 0≤q.n∧q.n≤6;omega),(by show (q.gs++_).length≤9;simp;omega)⟩,⟨by omega,by omega⟩,W,p,i⟩
 have aU:=aF;refine wp_skip<|Xa<|aR _ _<|Zs G fun _ bO=>?_;refine Ze (Vn X2r m)<|Zo (Vw [vi q.n,.slice Q q.gs.length U] X45 g) ?_;rintro _ cY ⟨H,hb⟩;have d:=g;have i:=i.only H (Blk.ne i d rfl);have f:=f.onlyT H d rfl;have p:=Kept.only p H aD;have g:=hb;refine Zt bO fun a G=>?_
 refine wp_ret (X3 G (Xz G rfl (ResV.cellN (l:=[vi q.n,.slice Q q.gs.length U]) rfl X2r (g.at 0) rfl)) ?_)
 exact ⟨q,Q,U,_,_,rfl,⟨(by omega),(by omega)⟩,⟨by omega,by omega⟩,f,p,i⟩
def bkG(g:Gt) : Gt:=⟨if g.k=5∨g.k=7 then g.k+1 else if g.k=6∨g.k=8 then g.k-1 else g.k,g.a,g.b⟩
def bkN(g:Gt) : Int:=if g.k=12 then 7 else 1
def metS(x y:Gt) : Bool:=(usedS [x]).any fun q=>(usedS [y]).any fun z=>z==q
def nextC(g:Gt) : List Gt→Nat→Nat
 | [],j=>j
 | h::l,j=>if metS g h=true then j else nextC g l (j+1)
def canJ(g:Gt)(gs:List Gt)(i:Nat) : Nat:=nextC g (gs.drop (i+1)) (i+1)
def canR(gs:List Gt)(i j:Nat) : Rp:=⟨i,(gs.take (j+1)).drop i,(gs.take j).drop (i+1)⟩
def canB(g:Gt)(gs:List Gt)(i j:Nat) : Bool:=g.k != 12&&(decide ((j:Int)<(gs.length:Int))&&(decide ((j:Int)-(i:Int)<40)&&decide (gs[j]? = some (bkG g))))
def canAt(gs:List Gt)(i:Nat) : Option Rp:=match gs[i]? with
 | none=>none
 | some g=>if canB g gs i (canJ g gs i)=true then some (canR gs i (canJ g gs i)) else none
def canF(gs:List Gt) : Nat→Option Rp
 | 0=>none
 | n+1=>match canF gs n with
  | some r=>some r
  | none=>canAt gs n
def canS(gs:List Gt) : Option Rp:=canF gs gs.length
def rpZ:Rp:=⟨0,[],[]⟩
theorem Xzp(w0:World)(x:Int)(y:Int) : Ret Tryz.prog 25 [vi x,vi y] w0 (fun v w=>v=vi (min x y)∧Below w0.heap.size w0 w):=by
 refine enter Tryz.func25 rfl 10 rfl rfl ?_;intro a c
 have hW:=bz w0
 refine Zs c fun _ aB=>?_;refine Za rfl<|ZX aB fun a c _ aC=>?_;refine Zs c fun _ aD=>?_;refine Zm rfl<|Zm rfl<|Ze (X1n rfl rfl)<|Zt aD fun a c=>?_
 refine Xg c rfl (fun b=>?_) (fun b=>?_)
 ·have aA:=b;have b:=of_decide_eq_true b;refine Zs c fun _ aE=>?_;refine Zm rfl<|Za rfl<|Zt aE fun a c=>?_;refine wp_ret<|X7<|X3 c (Xz c rfl rfl) ?_;exact ⟨by rw [Int.min_eq_left (by omega)],hW⟩
 have aA:=b;have b:=of_decide_eq_false b;refine wp_skip<|aC _ _<|Zs c fun _ aF=>?_;refine Zm rfl<|Za rfl<|Zt aF fun a c=>?_
 refine wp_ret (X3 c (Xz c rfl rfl) ?_)
 exact ⟨by rw [Int.min_eq_right (by omega)],hW⟩
theorem DeepR.nil(w:World)(B:Nat)(E:TypeId) : DeepR w B E []:=fun s hs=>by simp at hs
theorem DeepR.snoc{w:World}{B:Nat}{E:TypeId}{l:List Sr}{x:Sr}(h:DeepR w B E l)(h1:Rd w B E encG x.A x.old)(h2:Rd w B E encG x.B x.new) : DeepR w B E (l++[x]):=fun s hs=>by
 rcases List.mem_append.1 hs with hs|hs
 ·exact h s hs
 ·rw [List.mem_singleton] at hs
  subst hs
  exact ⟨h1,h2⟩
section
variable {P : Program} {a : Act} {w : World} {n : Nat} {e : Env} {ty : TypeId} {pos : String} {af : Array Edge} {g : Option (Nat × Bool)} {d : Option Tmp}
end
theorem Xfe(g:Gt) : ∀ (l:List Gt) (j:Nat),j≤nextC g l j
 | [],j=>Nat.le_refl _
 | h::l,j=>by
  unfold nextC
  split
  ·exact Nat.le_refl _
  ·exact Nat.le_trans (Nat.le_succ j) (Xfe g l (j+1))
theorem Xcp{gs:List Gt}{r:Rp} : ∀ n,canF gs n=some r→∃ i,i<n∧canAt gs i=some r
 | 0,h=>by cases h
 | n+1,h=>by
  unfold canF at h
  split at h
  ·rename_i r' h1
   injection h with h
   subst h
   obtain ⟨i,h2,h3⟩:=Xcp n h1;exact ⟨i,by omega,h3⟩
  ·exact ⟨n,by omega,h⟩
theorem Xkd{gs:List Gt}{r:Rp}(h:canS gs=some r) : ∃ i j g,gs[i]? = some g∧gs[j]? = some (bkG g)∧g.k≠12∧i<j∧j<gs.length∧j<i+40∧j=canJ g gs i∧r=canR gs i j:=by
 obtain ⟨i,hi,h1⟩:=Xcp _ h
 unfold canAt at h1
 split at h1
 ·cases h1
 ·rename_i g hg
  split at h1
  ·rename_i hb
   injection h1 with h1
   unfold canB at hb
   simp only [Bool.and_eq_true,bne_iff_ne,decide_eq_true_eq] at hb
   have:=Xfe g (gs.drop (i+1)) (i+1)
   exact ⟨i,canJ g gs i,g,hg,hb.2.2.2,hb.1,by unfold canJ;omega,by omega,by omega,rfl,h1.symm⟩
  ·cases h1
theorem Xxn{n:Int}{gs:List Gt}{r:Rp}(hc:cOk ⟨n,gs⟩=true)(h:canS gs=some r) :
  ∃ d,applyS ⟨n,gs⟩ r=some d∧d.n=n∧cOk d=true∧d.gs.length+2=gs.length∧r.old.length≤41∧r.new.length≤41:=by
 obtain ⟨i,j,g,hi,hj,hk,hij,hjl,h40,_,rfl⟩:=Xkd h;obtain ⟨hn,hl,hg⟩:=X41 hc
 dsimp only at hn hl hg
 have lo:(canR gs i j).old.length=j+1-i:=by simp [canR];omega
 have ln:(canR gs i j).new.length=j-i-1:=by simp [canR];omega
 have e2:((gs.take ((canR gs i j).pos.toNat+(canR gs i j).old.length)).drop (canR gs i j).pos.toNat)=(canR gs i j).old:=by
  rw [lo]
  show (gs.take ((i:Int).toNat+(j+1-i))).drop (i:Int).toNat=(gs.take (j+1)).drop i
  rw [Int.toNat_natCast,show i+(j+1-i)=j+1 by omega]
 have mo:∀ x ∈ (canR gs i j).old,gOk n x=true:=fun x hx=>hg x (List.mem_of_mem_take (List.mem_of_mem_drop hx))
 have mn:∀ x ∈ (canR gs i j).new,gOk n x=true:=fun x hx=>hg x (List.mem_of_mem_take (List.mem_of_mem_drop hx))
 have hv:validS n (canR gs i j)=true:=by
  unfold validS
  simp only [Bool.and_eq_true,Xt,decide_eq_true_eq,Bool.not_eq_true',List.any_eq_false,lo,ln]
  refine ⟨⟨⟨hn,?_⟩,⟨fun x hx=>by simp [mo x hx],by omega⟩⟩,⟨fun x hx=>by simp [mn x hx],by omega⟩⟩
  show 0≤(i:Int)∧(i:Int)≤400
  omega
 have hf:fitS ⟨n,gs⟩ (canR gs i j)=true:=by
  unfold fitS
  rw [hv,lo,ln]
  simp only [Bool.true_and,Bool.and_eq_true,decide_eq_true_eq]
  constructor
  ·show (i:Int)+((j+1-i:Nat) : Int)≤(gs.length:Int)
   omega
  ·omega
 have ha:=Xfl hf e2;have hk2:=(Xns hc).2 _ ha
 refine ⟨_,ha,hk2.2.1,hk2.1,?_,by omega,by omega⟩
 show (gs.take (canR gs i j).pos.toNat++(canR gs i j).new++gs.drop ((canR gs i j).pos.toNat+(canR gs i j).old.length)).length+2=_
 rw [List.length_append,List.length_append,ln,lo,List.length_take,List.length_drop]
 show min (i:Int).toNat gs.length+(j-i-1)+(gs.length-((i:Int).toNat+(j+1-i)))+2=gs.length
 rw [Int.toNat_natCast]
 omega
def canRun(n:Int) : Nat→List Gt→List Rp×Cx
 | 0,gs=>([],⟨n,gs⟩)
 | k+1,gs=>match canS gs with
  | none=>([],⟨n,gs⟩)
  | some r=>(r::(canRun n k ((applyS ⟨n,gs⟩ r).getD cZ).gs).1,(canRun n k ((applyS ⟨n,gs⟩ r).getD cZ).gs).2)
def canC(c:Cx) : Cx×List Rp×Cx:=if cOk c=true then (c,canRun c.n c.gs.length c.gs) else (cZ,[],cZ)
theorem Xfo{n:Int}{gs:List Gt}(h:canS gs=none) : ∀ k,canRun n k gs=([],⟨n,gs⟩)
 | 0=>rfl
 | k+1=>by unfold canRun;rw [h]
theorem Xfg{n:Int}{gs:List Gt}{r:Rp}(h:canS gs=some r)(k:Nat) : canRun n (k+1) gs=(r::(canRun n k ((applyS ⟨n,gs⟩ r).getD cZ).gs).1,(canRun n k ((applyS ⟨n,gs⟩ r).getD cZ).gs).2):=by
 conv=>lhs;unfold canRun
 rw [h]
structure CanI (c:Cx) (l:List Sr) (d:Cx) (k:Nat) : Prop where
 run:canRun c.n c.gs.length c.gs=(l.map Sr.rp++(canRun c.n k d.gs).1,(canRun c.n k d.gs).2)
 ok:cOk d=true
 n:d.n=c.n
 le:d.gs.length≤k
 len:l.length+d.gs.length≤c.gs.length
 small:∀ s ∈ l,s.old.length≤41∧s.new.length≤41
theorem CanI.start{c:Cx}(h:cOk c=true) : CanI c [] c c.gs.length:=⟨rfl,h,rfl,Nat.le_refl _,by simp,fun s hs=>by simp at hs⟩
theorem CanI.next{c d:Cx}{l:List Sr}{k:Nat}(h:CanI c l d k){r:Rp}(hr:canS d.gs=some r){s:Sr}(hs:s.rp=r) : ∃ k',k=k'+1∧CanI c (l++[s]) ((applyS d r).getD cZ) k':=by
 have hd:d=⟨c.n,d.gs⟩:=by cases d;have:=h.n;simp only at this;rw [this]
 have hok:=h.ok
 rw [hd] at hok
 obtain ⟨e,he,e1,e2,e3,e4,e5⟩:=Xxn hok hr;have hle:=h.le
 obtain ⟨k',rfl⟩ : ∃ k',k=k'+1:=⟨k-1,by omega⟩
 have hd2:applyS d r=some e:=by rw [hd];exact he
 refine ⟨k',rfl,?_⟩
 rw [hd2,Option.getD_some]
 have hrun:=h.run
 rw [Xfg hr k',he,Option.getD_some] at hrun
 refine ⟨?_,e2,e1,by omega,by have:=h.len;simp;omega,fun x hx=>?_⟩
 ·rw [hrun,List.map_append,List.append_assoc]
  simp [hs]
 ·rcases List.mem_append.1 hx with hx|hx
  ·exact h.small x hx
  ·rw [List.mem_singleton] at hx
   subst hx
   subst hs
   exact ⟨e4,e5⟩
theorem CanI.done{c d:Cx}{l:List Sr}{k:Nat}(h:CanI c l d k)(hc:cOk c=true)(hn:canS d.gs=none) : canC c=(c,l.map Sr.rp,d):=by
 unfold canC
 rw [if_pos hc,h.run,Xfo hn k,List.append_nil]
 have:=h.n
 cases d
 simp only at this
 rw [this]
theorem DeepR.drop{w:World}{B:Nat}{E:TypeId}{l:List Sr}(h:DeepR w B E l)(k:Nat) : DeepR w B E (l.drop k):=fun s hs=>h s (List.mem_of_mem_drop hs)
section
variable {P : Program} {a : Act} {w : World} {n : Nat} {e : Env} {ty : TypeId} {pos : String} {af : Array Edge} {g : Option (Nat × Bool)} {d : Option Tmp}
variable {t t' : TypeId} {x y : Operand} {i j k : Int}
theorem Xqb(hf:Fr a n e)(hx:ev e x=some (.int .i64 i))(hy:ev e y=some (.int .i64 j))(hk:i+j=k)(h1:-9223372036854775808≤k)(h2:k≤9223372036854775807) : Ev P ⟨d,.binOp .add t x y t',ty,pos,af,g⟩ a w (.int .i64 k):=by
 subst hk
 exact Xim hf hx hy h1 h2
theorem X3p(hx:ev e x=some (.int .i64 i))(hy:ev e y=some (.int .i64 j))(hk:i+j=k)(h1:-9223372036854775808≤k)(h2:k≤9223372036854775807) : EvW P ⟨d,.binOp .add t x y t',ty,pos,af,g⟩ n e w (.int .i64 k):=fun a hf=>Xqb hf hx hy hk h1 h2
end
end Go.Proofs.YtiejkplemjkjoaaGreat
namespace Go.Proofs.YtiejkplemjkjoaaGreat
open Go.RowKit Go.ChangeShapes Go.WideShapes Go.Deep Go.Joins
theorem Xvr:Tryz.prog.cellsOf 5=1:=by kernel_rfl
theorem Xo6{n:Int}(h:(Lit.int .u8 n).wf=true) : 0≤n∧n≤255:=by
 have h1:IntKind.u8.min=0:=rfl
 have h2:IntKind.u8.max=255:=rfl
 simp [Lit.wf] at h
 omega
set_option maxRecDepth 100000 in
theorem Xb6{H:Type}{enc:TypeId×Value→H}{w:World}{base b0:Nat}{spare:Nat→Bool}{held:Bool}{r:Reach}{v:Value}{d:DataW H}{p:List MemPlace}(hv:Value.okWide Tryz.prog w r b0 22 v)(h:DataW.Trod enc Tryz.prog w base spare held 22 v d p)(hsp:∀ b,spare b=true) :
  ∃ (A:Option Addr) (l:List Int) (k:Nat) (E:TypeId),v=.slice A l.length k∧Rd w w.heap.size E encU A l∧(∀ x ∈ l,0≤x∧x≤255):=by
 obtain ⟨a1,n1,k1,rfl⟩:=okWide_slice Tryz.underlying22 hv;obtain ⟨fuel,hf⟩:=h
 have key:∃ (A:Option Addr) (l:List Int) (c:Nat) (E:TypeId),(Value.slice a1 n1 k1).cells.toList=[Value.slice A l.length c]∧Rd w w.heap.size E encU A l∧(∀ x ∈ l,0≤x∧x≤255):=by
  rcases open_slice Tryz.underlying22 hf with ⟨hcs,_⟩|⟨a,len,cap,m,n,D,Pl,hcs,hb,hl,hm,hmm,_,hi⟩
  ·exact ⟨none,[],0,0,hcs,Rd.nil _ _ _ _ _,by simp⟩
  ·rw [Xvr] at hi
   have hlm:len≤m:=by rw [hmm,hsp];simpa using hl
   obtain ⟨l,h1,h2⟩:=Xpi (n:=len) (Q:=fun i g=>(0≤g∧g≤255)∧∀ j v,(encU g)[j]? = some v→w.cell? (a.add (i*1+j))=some v) fun i hilt=>by
    obtain ⟨cs',hc,ht⟩:=hi i (by omega)
    obtain ⟨g,rfl,_,hwf⟩:=DataW.trod_int Tryz.underlying5 ht;obtain ⟨_,_,hat⟩:=World.cells?_some hc
    refine ⟨g,Xo6 hwf,fun j v hj=>?_⟩
    have hj3:j<1:=by have:=(List.getElem?_eq_some_iff.1 hj).1;simpa [encU] using this
    rw [← X90,hat j hj3]
    exact hj
   obtain ⟨E,hr⟩:=Xfp Xfw (by decide) fun i g hig=>(h2 i g hig).2
   refine ⟨some a,l,cap,E,by rw [hcs,h1],hr,fun x hx=>?_⟩
   obtain ⟨i,hi9,e⟩:=List.getElem_of_mem hx;exact (h2 i x (by rw [List.getElem?_eq_getElem hi9,e])).1
 obtain ⟨A,l,c,E,e0,hr,hb⟩:=key
 simp [Value.cells] at e0
 obtain ⟨rfl,rfl,rfl⟩:=e0;exact ⟨_,l,_,E,rfl,hr,hb⟩
end Go.Proofs.YtiejkplemjkjoaaGreat
namespace Go.Proofs.YtiejkplemjkjoaaGreat
open Go.RowKit
def isTk(k:Int) : Bool:=k==7||k==8
def tcN(l:List Gt) : Nat:=l.countP fun g=>isTk g.k
section
variable {P : Program} {a : Act} {w : World} {n : Nat} {e : Env} {ty : TypeId} {pos : String} {af : Array Edge} {g : Option (Nat × Bool)} {d : Option Tmp}
end
end Go.Proofs.YtiejkplemjkjoaaGreat
namespace Go.Proofs.YtiejkplemjkjoaaGreat
def xb(β m:Nat→Bool) : Nat→Bool:=fun p=>β p != m p
def msk(g:Gt)(β:Nat→Bool) : Nat→Bool:=fun p=>
 if g.k=9 then decide (p=g.b.toNat)&&β g.a.toNat
 else if g.k=11 then (decide (p=g.a.toNat)||decide (p=g.b.toNat))&&(β g.a.toNat != β g.b.toNat)
 else false
def oneK(k:Int) : Bool:=decide (k≠12∧¬ (9≤k∧k≤11))
def flp(g:Gt) : Nat→Bool:=fun p=>oneK g.k&&decide (p=g.a.toNat)
def c0(g:Gt)(β:Nat→Bool) : Rg:=
 if g.k=12 then om else if g.k=9 then 1 else if g.k=10 then (if β g.a.toNat&&β g.b.toNat then om^4 else 1) else if g.k=11 then 1 else u1 g.k (β g.a.toNat) (β g.a.toNat)
def c1(g:Gt)(β:Nat→Bool) : Rg:=if oneK g.k=true then u1 g.k (β g.a.toNat) (!β g.a.toNat) else 0
theorem Xep(β m:Nat→Bool)(h:∀ p,m p=false) : xb β m=β:=by
 funext p;unfold xb;rw [h];cases β p<;>rfl
theorem Xrp(β:Nat→Bool)(q:Nat) : flipB β q=xb β fun p=>decide (p=q):=by
 funext p
 unfold flipB xb
 by_cases e:p=q<;>simp [e]
theorem Xsj{k:Int}(h12:k≠12)(h9:¬ (9≤k∧k≤11)) : oneK k=true:=decide_eq_true ⟨h12,h9⟩
theorem Xaq{k:Int}(h:k=12∨(9≤k∧k≤11)) : oneK k=false:=decide_eq_false (by omega)
def TwoQ(g:Gt) : Prop:=9≤g.k∧g.k≤11→g.a.toNat≠g.b.toNat
theorem Xmc{g:Gt}(ht:TwoQ g)(v:St)(β:Nat→Bool) : act g v β=c0 g β*v (xb β (msk g β))+c1 g β*v (xb β (flp g)):=by
 unfold act
 by_cases h12:g.k=12
 ·rw [if_pos h12,Xep β (msk g β) fun p=>by unfold msk;rw [if_neg (by omega),if_neg (by omega)]]
  unfold c0 c1
  rw [if_pos h12,Xaq (by omega),if_neg Bool.false_ne_true]
  simp only [Xy,Xn,Xf,X07,X01,X0c,X0g,X0t,Xe,Xo,X00,X02,Xp,X0e]
 ·rw [if_neg h12]
  by_cases h9:g.k=9
  ·rw [if_pos h9]
   have e:(if β g.a.toNat then flipB β g.b.toNat else β)=xb β (msk g β):=by
    funext p
    unfold msk xb
    dsimp only
    rw [if_pos h9]
    cases β g.a.toNat
    ·simp
    ·rw [if_pos rfl]
     unfold flipB
     by_cases e:p=g.b.toNat<;>simp [e]
   rw [e]
   unfold c0 c1
   rw [if_neg h12,if_pos h9,Xaq (by omega),if_neg Bool.false_ne_true]
   simp only [Xy,Xn,Xf,X07,X01,X0c,X0g,X0t,Xe,Xo,X00,X02,Xp,X0e]
  ·rw [if_neg h9]
   by_cases h10:g.k=10
   ·rw [if_pos h10,Xep β (msk g β) fun p=>by unfold msk;rw [if_neg (by omega),if_neg (by omega)]]
    unfold c0 c1
    rw [if_neg h12,if_neg h9,if_pos h10,Xaq (by omega),if_neg Bool.false_ne_true]
    simp only [Xy,Xn,Xf,X07,X01,X0c,X0g,X0t,Xe,Xo,X00,X02,Xp,X0e]
   ·rw [if_neg h10]
    by_cases h11:g.k=11
    ·rw [if_pos h11]
     have hab:=ht (by omega)
     have e:(if β g.a.toNat=β g.b.toNat then β else flipB (flipB β g.a.toNat) g.b.toNat)=xb β (msk g β):=by
      funext p
      unfold msk xb
      dsimp only
      rw [if_neg h9,if_pos h11]
      by_cases e0:β g.a.toNat=β g.b.toNat
      ·rw [if_pos e0,e0];simp
      ·rw [if_neg e0]
       have e1:(β g.a.toNat != β g.b.toNat)=true:=by simpa using e0
       rw [e1]
       unfold flipB
       by_cases e2:p=g.b.toNat
       ·subst e2
        rw [if_pos rfl,if_neg (fun h=>hab h.symm)]
        simp
       ·rw [if_neg e2]
        by_cases e3:p=g.a.toNat<;>simp [e2,e3]
     rw [e]
     unfold c0 c1
     rw [if_neg h12,if_neg h9,if_neg h10,if_pos h11,Xaq (by omega),if_neg Bool.false_ne_true]
     simp only [Xy,Xn,Xf,X07,X01,X0c,X0g,X0t,Xe,Xo,X00,X02,Xp,X0e]
    ·rw [if_neg h11]
     have ho:=Xsj h12 (by omega)
     have e:flipB β g.a.toNat=xb β (flp g):=by
      rw [Xrp]
      congr 1
      funext p
      unfold flp
      rw [ho];simp
     rw [Xep β (msk g β) fun p=>by unfold msk;rw [if_neg h9,if_neg h11],e]
     unfold c0 c1
     rw [if_neg h12,if_neg h9,if_neg h10,if_neg h11,ho,if_pos rfl]
def Sup(g:Gt)(q:Nat) : Prop:=(g.k≠12∧q=g.a.toNat)∨((9≤g.k∧g.k≤11)∧q=g.b.toNat)
def Dis(g h:Gt) : Prop:=∀ q,Sup g q→¬ Sup h q
theorem Dis.symm{g h:Gt}(hd:Dis g h) : Dis h g:=fun q h1 h2=>hd q h2 h1
def bkK(k:Int) : Int:=if k=5∨k=7 then k+1 else if k=6∨k=8 then k-1 else k
theorem X75(β:Nat→Bool)(q:Nat) : flipB (flipB β q) q=β:=by
 funext p
 unfold flipB
 by_cases e:p=q<;>simp [e]
theorem Xdm(β:Nat→Bool){p q:Nat}(h:p≠q) : flipB β q p=β p:=by unfold flipB;rw [if_neg h]
def qN(z:Rg) : Int:=z.a*z.a+z.b*z.b+z.c*z.c+z.d*z.d
theorem X94(x:Int) : 0≤x*x:=by
 have:=Int.natAbs_mul_self (a:=x)
 omega
theorem Xmh(z:Rg) : 0≤qN z:=by
 have h1:=X94 z.a;have h2:=X94 z.b;have h3:=X94 z.c;have h4:=X94 z.d
 unfold qN
 omega
theorem Xzr(z:Rg) : qN (s2*z)=2*qN z:=by
 rw [Xbc]
 unfold qN
 dsimp only
 grind
theorem Xy3(z:Rg) : qN (om*z)=qN z:=by
 rw [Xuv]
 unfold qN
 dsimp only
 grind
theorem Xlt:∀ (k:Nat) (z:Rg),qN (om^k*z)=qN z
 | 0,z=>by rw [X5c,show (1:Rg)*z=z from Xf z]
 | k+1,z=>by rw [Xbq,show om^k*om*z=om^k*(om*z) from Xe _ _ _,Xlt k,Xy3]
theorem Xn8:∀ (k:Nat) (z:Rg),qN (s2^k*z)=2^k*qN z
 | 0,z=>by rw [X5c,show (1:Rg)*z=z from Xf z];omega
 | k+1,z=>by
  rw [Xbq,show s2^k*s2*z=s2^k*(s2*z) from Xe _ _ _,Xn8 k,Xzr,Int.pow_succ]
  grind
theorem Xwb(x y:Rg) : qN (x+y)≤2*qN x+2*qN y:=by
 have h:∀ p q:Int,(p+q)*(p+q)≤2*(p*p)+2*(q*q):=fun p q=>by
  have h1:=X94 (p-q)
  have e:(p-q)*(p-q)=2*(p*p)+2*(q*q)-(p+q)*(p+q):=by grind
  omega
 have h1:=h x.a y.a;have h2:=h x.b y.b;have h3:=h x.c y.c;have h4:=h x.d y.d
 show (x.a+y.a)*(x.a+y.a)+(x.b+y.b)*(x.b+y.b)+(x.c+y.c)*(x.c+y.c)+(x.d+y.d)*(x.d+y.d)≤_
 unfold qN
 omega
theorem Xjf{x r:Int}(hr:0≤r)(h:x*x≤r*r) : -r≤x∧x≤r:=by
 have h1:=Int.natAbs_mul_self (a:=x);have h2:=Int.natAbs_mul_self (a:=r)
 have h3:x.natAbs*x.natAbs≤r.natAbs*r.natAbs:=by omega
 have h4:x.natAbs≤r.natAbs:=by
  rcases Nat.lt_or_ge r.natAbs x.natAbs with h5|h5
  ·exact absurd (Nat.mul_lt_mul'' h5 h5) (Nat.not_lt.2 h3)
  ·exact h5
 omega
def Cb(K:Int)(z:Rg) : Prop:=(-K≤z.a∧z.a≤K)∧(-K≤z.b∧z.b≤K)∧(-K≤z.c∧z.c≤K)∧(-K≤z.d∧z.d≤K)
theorem Xto{r:Int}(hr:0≤r){z:Rg}(h:qN z≤r*r) : Cb r z:=by
 have h1:=X94 z.a;have h2:=X94 z.b;have h3:=X94 z.c;have h4:=X94 z.d
 unfold qN at h
 exact ⟨Xjf hr (by omega),Xjf hr (by omega),Xjf hr (by omega),Xjf hr (by omega)⟩
theorem Xib{x r:Int}(h:-r≤x∧x≤r) : x*x≤r*r:=by
 have h1:=Int.natAbs_mul_self (a:=x);have h2:=Int.natAbs_mul_self (a:=r)
 have:=Nat.mul_le_mul (show x.natAbs≤r.natAbs by omega) (show x.natAbs≤r.natAbs by omega)
 omega
theorem Y0g{r:Int}{z:Rg}(h:Cb r z) : qN z≤4*(r*r):=by
 have h1:=Xib h.1;have h2:=Xib h.2.1;have h3:=Xib h.2.2.1;have h4:=Xib h.2.2.2
 unfold qN
 omega
theorem Xxi{r t:Int}{x y:Rg}(hx:Cb r x)(hy:Cb t y) : Cb (r+t) (x+y):=by
 obtain ⟨⟨a1,a2⟩,⟨a3,a4⟩,⟨a5,a6⟩,⟨a7,a8⟩⟩:=hx;obtain ⟨⟨b1,b2⟩,⟨b3,b4⟩,⟨b5,b6⟩,⟨b7,b8⟩⟩:=hy
 refine ⟨?_,?_,?_,?_⟩
 ·show -(r+t)≤x.a+y.a∧x.a+y.a≤r+t;omega
 ·show -(r+t)≤x.b+y.b∧x.b+y.b≤r+t;omega
 ·show -(r+t)≤x.c+y.c∧x.c+y.c≤r+t;omega
 ·show -(r+t)≤x.d+y.d∧x.d+y.d≤r+t;omega
def BB:Int:=1000000000000000000
theorem Xdf{z:Rg}(h:qN z≤BB) : rOk z=true:=by
 obtain ⟨h1,h2,h3,h4⟩:=Xto (r:=1000000000) (by decide) (z:=z) (Int.le_trans h (by decide))
 exact X3e.2 ⟨h1,h2,h3,h4⟩
theorem X84(k:Nat) : (1:Int)≤2^k:=by
 induction k with
 | zero=>decide
 | succ k ih=>rw [Int.pow_succ];omega
theorem Xpk{k:Nat}{x:Int}(h:0≤x) : x≤2^k*x:=by
 have:=Int.mul_le_mul_of_nonneg_right (X84 k) h
 omega
theorem Xam{j i:Nat}{y z:Rg}(hz:z=s2^j*y)(hi:i≤j) : qN (s2^i*y)≤qN z:=by
 rw [hz,show j=(j-i)+i by omega,X2a,show s2^(j-i)*s2^i*y=s2^(j-i)*(s2^i*y) from Xe _ _ _,Xn8 (j-i)]
 exact Xpk (Xmh _)
def Un(z:Rg) : Prop:=z=0∨∃ j:Nat,z=om^j
theorem Xgu{z w:Rg}(h:Un z) : qN (z*w)≤qN w:=by
 rcases h with rfl|⟨j,rfl⟩
 ·rw [show (0:Rg)*w=0 from Xy w]
  have:qN 0=0:=rfl
  have:=Xmh w
  omega
 ·rw [Xlt];exact Int.le_refl _
theorem X5y:Un 0:=.inl rfl
theorem Xc7(j:Nat) : Un (om^j):=.inr ⟨j,rfl⟩
theorem X99:Un 1:=.inr ⟨0,rfl⟩
theorem Xvj:Un (-1):=.inr ⟨4,by rfl⟩
theorem Xli(k:Int)(x y:Bool) : Un (u1 k x y):=by
 unfold u1
 split
 ·split
  ·exact Xvj
  ·exact X99
 ·split
  ·split
   ·exact X5y
   ·exact X99
  ·split
   ·split
    ·exact X5y
    ·split
     ·exact Xc7 6
     ·exact Xc7 2
   ·split
    ·split
     ·exact Xc7 _
     ·exact X99
    ·exact X5y
theorem Y1l(g:Gt)(β:Nat→Bool) : Un (c0 g β)∧Un (c1 g β):=by
 constructor
 ·unfold c0
  split
  ·exact Xc7 1
  ·split
   ·exact X99
   ·split
    ·split
     ·exact Xc7 4
     ·exact X99
    ·split
     ·exact X99
     ·exact Xli _ _ _
 ·unfold c1
  split
  ·exact Xli _ _ _
  ·exact X5y
theorem Xvu(g:Gt)(hk:1≤g.k∧g.k≤12)(β:Nat→Bool) : g.k=1∨c0 g β=0∨c1 g β=0:=by
 by_cases h1:g.k=1
 ·exact .inl h1
 ·right
  by_cases ho:oneK g.k=true
  ·have h:=of_decide_eq_true ho
   have h9:¬ g.k=9:=by omega
   have h10:¬ g.k=10:=by omega
   have h11:¬ g.k=11:=by omega
   unfold c0 c1
   rw [if_neg h.1,if_neg h9,if_neg h10,if_neg h11,if_pos ho]
   unfold u1
   rw [if_neg h1,if_neg h1]
   by_cases h2:g.k=2
   ·left;rw [if_pos h2,if_pos rfl]
   ·rw [if_neg h2,if_neg h2]
    by_cases h3:g.k=3
    ·left;rw [if_pos h3,if_pos rfl]
    ·right
     rw [if_neg h3,if_neg (by cases β g.a.toNat<;>simp)]
  ·right
   unfold c1
   rw [if_neg ho]
theorem Xv6{g:Gt}(ht:TwoQ g)(hk:1≤g.k∧g.k≤12){v:St}{R:Int}(hv:∀ β,qN (v β)≤R)(β:Nat→Bool) : qN (act g v β)≤4^hN g*R:=by
 rw [Xmc ht]
 obtain ⟨u0,u1⟩:=Y1l g β
 have b0:=Int.le_trans (Xgu (w:=v (xb β (msk g β))) u0) (hv _)
 have b1:=Int.le_trans (Xgu (w:=v (xb β (flp g))) u1) (hv _)
 have hR:0≤R:=Int.le_trans (Xmh _) (hv β)
 by_cases h1:g.k=1
 ·have:=Xwb (c0 g β*v (xb β (msk g β))) (c1 g β*v (xb β (flp g)))
  unfold hN
  rw [if_pos h1,show (4:Int)^1=4 from rfl]
  omega
 ·unfold hN
  rw [if_neg h1,show (4:Int)^0=1 from rfl]
  rcases Xvu g hk β with h|h|h
  ·exact absurd h h1
  ·rw [h,show (0:Rg)*v (xb β (msk g β))+c1 g β*v (xb β (flp g))=c1 g β*v (xb β (flp g)) by simp only [Xy,Xn,Xf,X07,X01,X0c,X0g,X0t,Xe,Xo,X00,X02,Xp,X0e]]
   omega
  ·rw [h,show c0 g β*v (xb β (msk g β))+(0:Rg)*v (xb β (flp g))=c0 g β*v (xb β (msk g β)) by simp only [Xy,Xn,Xf,X07,X01,X0c,X0g,X0t,Xe,Xo,X00,X02,Xp,X0e]]
   omega
theorem Xxc{n:Int}{g:Gt}(h:gOk n g=true) : TwoQ g∧(1≤g.k∧g.k≤12):=by
 obtain ⟨_,hk,ha,hb⟩:=X27 h
 refine ⟨fun h9=>?_,by omega⟩
 have h1:=ha (by omega)
 have h2:=hb h9
 omega
theorem Xl4{x y:Dy}{m n:Nat}{z z':Rg}(hx:V x m z)(hy:V y n z')(ox:dOk x=true)(oy:dOk y=true)(he:m+n≤60)(hb:qN (z*z')≤BB) : ∃ w,dMulI x y=some w:=by
 have k1:=X3b ox
 have k2:=X3b oy
 obtain ⟨_,j,h1,h2⟩:=hx;obtain ⟨_,l,h3,h4⟩:=hy
 have e:z*z'=s2^(j+l)*(x.num*y.num):=by rw [h2,h4,X2a];simp only [Xy,Xn,Xf,X07,X01,X0c,X0g,X0t,Xe,Xo,X00,X02,Xp,X0e]
 have b:=Xam (i:=0) e (Nat.zero_le _)
 rw [X5c,show (1:Rg)*(x.num*y.num)=x.num*y.num from Xf _] at b
 have hr:rOk (rMul x.num y.num)=true:=by rw [Xhv k1.1 k2.1];exact Xdf (Int.le_trans b hb)
 have h9:rIf2 (rMul x.num y.num) [x.num,y.num]=true:=by simp [rIf2,hr,k1.1,k2.1]
 unfold dMulI
 rw [if_pos (by rw [ox,oy,h9];rfl)]
 unfold dOf
 unfold rIf1
 rw [if_pos h9,if_pos (by rw [hr];simp only [Bool.true_and,Xt];omega)]
 exact ⟨_,rfl⟩
theorem X7t:∀ (k:Nat) (y:Rg),(∀ i,i≤k→rOk (s2^i*y)=true)→(raiseI k y).2=true
 | 0,y,_=>rfl
 | k+1,y,h=>by
  have h0:=h 0 (Nat.zero_le _)
  have h1:=h 1 (by omega)
  rw [X5c,show (1:Rg)*y=y from Xf y] at h0
  rw [show s2^1*y=s2*y by rw [Xbq,X5c,Xf]] at h1
  have e:=Xbf h0
  unfold raiseI
  rw [e,if_pos (by simp [rIf2,h0,h1])]
  exact X7t k _ fun i hi=>by
   have:=h (i+1) (by omega)
   rw [Xbq,show s2^i*s2*y=s2^i*(s2*y) from Xe _ _ _] at this
   exact this
theorem Xjy{x y:Dy}{m:Nat}{z z':Rg}(hx:V x m z)(hy:V y m z')(ox:dOk x=true)(oy:dOk y=true)(bx:qN z≤BB)(b_y:qN z'≤BB)(bs:qN (z+z')≤BB) : ∃ w,dAddI x y=some w:=by
 have k1:=X3b ox
 have k2:=X3b oy
 obtain ⟨_,j,h1,h2⟩:=hx;obtain ⟨_,l,h3,h4⟩:=hy
 have p1:(dRaise x (max x.exp y.exp)).2=true:=X7t _ _ fun i hi=>Xdf (Int.le_trans (Xam h2 (by omega)) bx)
 have p2:(dRaise y (max x.exp y.exp)).2=true:=X7t _ _ fun i hi=>Xdf (Int.le_trans (Xam h4 (by omega)) b_y)
 have r1:=X5b _ _ k1.1 p1
 have r2:=X5b _ _ k2.1 p2
 have e0:rAdd (dRaise x (max x.exp y.exp)).1 (dRaise y (max x.exp y.exp)).1=(dRaise x (max x.exp y.exp)).1+(dRaise y (max x.exp y.exp)).1:=Xj1 r1.2 r2.2
 obtain ⟨t,ht⟩ : ∃ t:Nat,max x.exp y.exp+t=m:=⟨(m-max x.exp y.exp).toNat,by omega⟩
 have q1:z=s2^t*(dRaise x (max x.exp y.exp)).1:=by
  have:=r1.1
  unfold dRaise
  rw [this,h2,show j=t+(max x.exp y.exp-x.exp).toNat from by omega,X2a]
  simp only [Xy,Xn,Xf,X07,X01,X0c,X0g,X0t,Xe,Xo,X00,X02,Xp,X0e]
 have q2:z'=s2^t*(dRaise y (max x.exp y.exp)).1:=by
  have:=r2.1
  unfold dRaise
  rw [this,h4,show l=t+(max x.exp y.exp-y.exp).toNat from by omega,X2a]
  simp only [Xy,Xn,Xf,X07,X01,X0c,X0g,X0t,Xe,Xo,X00,X02,Xp,X0e]
 have q3:z+z'=s2^t*((dRaise x (max x.exp y.exp)).1+(dRaise y (max x.exp y.exp)).1):=by rw [q1,q2];simp only [Xy,Xn,Xf,X07,X01,X0c,X0g,X0t,Xe,Xo,X00,X02,Xp,X0e]
 have b:=Xam (i:=0) q3 (Nat.zero_le _)
 rw [X5c,show (1:Rg)*((dRaise x (max x.exp y.exp)).1+(dRaise y (max x.exp y.exp)).1)=(dRaise x (max x.exp y.exp)).1+(dRaise y (max x.exp y.exp)).1 from Xf _,← e0] at b
 have hr:=Xdf (Int.le_trans b bs)
 have h9:rIf2 (rAdd (dRaise x (max x.exp y.exp)).1 (dRaise y (max x.exp y.exp)).1) [(dRaise x (max x.exp y.exp)).1,(dRaise y (max x.exp y.exp)).1]=true:=by
  have o1:rOk (dRaise x (max x.exp y.exp)).1=true:=r1.2
  have o2:rOk (dRaise y (max x.exp y.exp)).1=true:=r2.2
  simp [rIf2,hr,o1,o2]
 unfold dAddI
 rw [if_pos (by rw [ox,oy];rfl),if_pos (by rw [p1,p2,h9];rfl)]
 unfold dOf
 unfold rIf1
 rw [if_pos h9,if_pos (by rw [hr];simp only [Bool.true_and,Xt];omega)]
 exact ⟨_,rfl⟩
theorem Xwn:dOk dZ=true:=by decide
theorem Xd9{a b:Mx}{i j m m':Nat}{za zb:Nat→Rg}{r:Int}(hr:0≤r)(hm:m+m'≤60) : ∀ n,(∀ k,k<n→V (a.at i k) m (za k)∧dOk (a.at i k)=true∧Un (za k))→(∀ k,k<n→V (b.at k j) m' (zb k)∧dOk (b.at k j)=true∧qN (zb k)≤r*r)→
  (n:Int)*r≤500000000→∃ s,dotI a b i j n=some s∧dOk s=true∧Cb (n*r) (sumN (fun k=>za k*zb k) n)
 | 0,_,_,_=>⟨dZ,rfl,Xwn,by unfold Cb sumN;simp;decide⟩
 | n+1,ha,hb,hn=>by
  have hn':((n+1:Nat) : Int)*r=(n:Int)*r+r:=by grind
  rw [hn'] at hn ⊢
  have hnr:0≤(n:Int)*r:=Int.mul_nonneg (by omega) hr
  obtain ⟨s,h1,h2,h3⟩:=Xd9 (a:=a) (b:=b) (i:=i) (j:=j) hr hm n (fun k hk=>ha k (by omega)) (fun k hk=>hb k (by omega)) (by omega)
  obtain ⟨va,oa,ua⟩:=ha n (by omega)
  obtain ⟨vb,ob,rb⟩:=hb n (by omega)
  have hrB:r*r≤BB:=by
   have:=Int.mul_le_mul (show r≤500000000 by omega) (show r≤500000000 by omega) hr (by decide)
   unfold BB
   omega
  have hp:=Int.le_trans (Xgu (w:=zb n) ua) rb;obtain ⟨x,h4⟩:=Xl4 va vb oa ob hm (Int.le_trans hp hrB);have hvx:=Xuc h4 va vb
  have hvs:=Xan n (fun k hk=>(ha k (by omega)).1) (fun k hk=>(hb k (by omega)).1) h1
  have hc:Cb ((n:Int)*r+r) (sumN (fun k=>za k*zb k) n+za n*zb n):=Xxi h3 (Xto hr hp)
  have big:∀ {K:Int} {z:Rg},0≤K→K≤500000000→Cb K z→qN z≤BB:=fun {K z} h0 hK h=>by
   have h5:=Y0g h
   have:=Int.mul_le_mul hK hK h0 (by decide)
   unfold BB
   omega
  obtain ⟨w,h5⟩:=Xjy hvs hvx.1 h2 hvx.2 (big hnr (by omega) h3) (Int.le_trans hp hrB) (big (by omega) (by omega) hc)
  refine ⟨w,?_,(Xtf h5 hvs hvx.1).2,hc⟩
  rw [dotI,h1,Option.bind_some,h4,Option.bind_some,h5]
theorem Xit{f:Nat→Option Dy} : ∀ n,(∀ k,k<n→∃ z,f k=some z)→∃ l,seqO f n=some l
 | 0,_=>⟨[],rfl⟩
 | n+1,h=>by
  obtain ⟨l,h1⟩:=Xit n fun k hk=>h k (by omega)
  obtain ⟨z,h2⟩:=h n (by omega)
  exact ⟨_,X7b h1 h2⟩
theorem Xfq{R C:Int}{f:Nat→Nat→Option Dy}(hR:isDimB R=true)(hC:isDimB C=true)(h:∀ i j,i<R.toNat→j<C.toNat→∃ z,f i j=some z) : ∃ M,matOf R C f=some M:=by
 obtain ⟨l,hl⟩:=Xit (f:=gridG f C.toNat) (R.toNat*C.toNat) fun k hk=>by
  have hC0:0<C.toNat:=by have:=X2k hC;omega
  exact h _ _ (Nat.div_lt_of_lt_mul (by rw [Nat.mul_comm];exact hk)) (Nat.mod_lt _ hC0)
 exact ⟨⟨R,C,l⟩,by unfold matOf;rw [if_pos (by rw [hR,hC];rfl),hl];rfl⟩
theorem Xz6{N:Nat}{g:Gt}(i k:Nat) : Un (zc N g i k):=by
 unfold zc
 split
 ·split
  ·exact Xc7 1
  ·exact X5y
 ·split
  ·split
   ·exact Xc7 _
   ·exact X5y
  ·split
   ·exact Xli _ _ _
   ·exact X5y
theorem Xy8(k:Nat) : (4:Int)^k=2^k*2^k:=by
 induction k with
 | zero=>rfl
 | succ k ih=>rw [Int.pow_succ,Int.pow_succ,ih];grind
theorem Xq5{a b:Nat}(h:a≤b) : (2:Int)^a≤2^b:=by
 obtain ⟨c,rfl⟩ : ∃ c,b=a+c:=⟨b-a,by omega⟩
 rw [Int.pow_add]
 have h1:=X84 c;have h2:=X84 a
 have:=Int.mul_le_mul_of_nonneg_left h1 (show 0≤(2:Int)^a by omega)
 omega
theorem Xci{N C:Nat}(hN5:1≤N∧N≤5) : ∀ (l:List Gt) {m0:Nat} {M0:Mx} {v:Nat→St},(∀ g ∈ l,gOk N g=true)→m0+hs l≤23→mOk M0=true→M0.rows=((2^N:Nat) : Int)→M0.cols=(C:Int)→
  (∀ i j,i<2^N→j<C→V (M0.at i j) m0 (v j (pt N i)))→(∀ j β,qN (v j β)≤4^m0)→∃ M,applI N l M0=some M
 | [],m0,M0,v,_,_,_,_,_,_,_=>⟨M0,rfl⟩
 | g::l,m0,M0,v,hg,hh,hk,hr,hc,h0,hb=>by
  have hg1:=hg g (by simp)
  have hge:=X5x hg1
  have e2:(gateS (N:Int) g).cols.toNat=2^N:=by
   show ((2^(N:Int).toNat:Nat) : Int).toNat=2^N
   rw [Int.toNat_natCast,Int.toNat_natCast]
  have er:(gateS (N:Int) g).rows=((2^N:Nat) : Int):=by
   show ((2^(N:Int).toNat:Nat) : Int)=_
   rw [Int.toNat_natCast]
  have ec:(gateS (N:Int) g).cols=((2^N:Nat) : Int):=by
   show ((2^(N:Int).toNat:Nat) : Int)=_
   rw [Int.toNat_natCast]
  have h1:hN g≤1:=by unfold hN;split<;>omega
  rw [hs] at hh
  have hcell:∀ i j,i<2^N→j<C→∃ s,dotI (gateS N g) M0 i j (2^N)=some s:=fun i j hi hj=>by
   have p32:=Xaz hN5.2
   have q1:(2:Int)^m0≤2^23:=Xq5 (by omega)
   have q2:=X84 m0
   obtain ⟨s,h,_⟩:=Xd9 (a:=gateS N g) (b:=M0) (i:=i) (j:=j) (m:=hN g) (m':=m0) (za:=fun k=>zc N g i k) (zb:=fun k=>v j (pt N k)) (r:=2^m0) (by omega) (by omega) (2^N)
    (fun k hk'=>⟨by rw [X9f hg1 hi hk'];exact Xho hg1 i k,Mx.at_ok (X8j hge.2) i k,Xz6 i k⟩)
    (fun k hk'=>⟨h0 k j hk' hj,Mx.at_ok (X8j hk) k j,by rw [← Xy8];exact hb j _⟩)
    (by
     have h5:(((2^N:Nat) : Int))*2^m0≤32*2^m0:=Int.mul_le_mul_of_nonneg_right (by omega) (by omega)
     have h6:(2:Int)^23=8388608:=rfl
     omega)
   exact ⟨s,h⟩
  have hdim:=X8a hk;have hdg:=X8a hge.2
  obtain ⟨M1,hM1⟩ : ∃ M1,mulI (gateS N g) M0=some M1:=by
   unfold mulI
   rw [if_pos (by rw [hge.2,hk,ec,hr];simp),e2]
   refine Xfq hdg.1 hdim.2 fun i j hi hj=>hcell i j ?_ ?_
   ·rw [er,Int.toNat_natCast] at hi;exact hi
   ·rw [hc,Int.toNat_natCast] at hj;exact hj
  obtain ⟨q1,q2,q3,q4,_⟩:=Xcv hM1
  have hok1:=((X9u hge.2 hk (by rw [ec,hr])).1 M1 hM1)
  rw [applI,hge.1,Option.getD_some,hM1,Option.bind_some]
  refine Xci hN5 l (m0:=m0+hN g) (v:=fun j=>act g (v j)) (fun g' hg'=>hg g' (by simp [hg'])) (by omega) hok1.2.1 (by rw [q2,er]) (by rw [q3,hc]) (fun i j hi hj=>?_) (fun j β=>?_)
  ·have q1':=q1 i j (by rw [er,Int.toNat_natCast];exact hi) (by rw [hc,Int.toNat_natCast];exact hj)
   rw [e2] at q1'
   have:=Xan (m:=hN g) (m':=m0) (za:=fun k=>zc N g i k) (zb:=fun k=>v j (pt N k)) (2^N) (fun k hk'=>by rw [X9f hg1 hi hk'];exact Xho hg1 i k) (fun k hk'=>h0 k j hk' hj) q1'
   rw [X72 hg1 hi] at this
   rw [Nat.add_comm]
   exact this
  ·have ht:=Xxc hg1
   have:=Xv6 ht.1 ht.2 (hb j) β
   rw [Int.pow_add,Int.mul_comm]
   exact this
theorem Xt8{c:Cx}(hc:cOk c=true)(hh:hs c.gs≤23) : ∃ M,opI c=some M:=by
 obtain ⟨hn,_,hg⟩:=X41 hc
 obtain ⟨N,hN⟩ : ∃ N:Nat,c.n=N:=⟨c.n.toNat,by omega⟩
 rw [hN] at hn hg
 have hd:=X3u (n:=(N:Int)) hn
 rw [Int.toNat_natCast] at hd
 obtain ⟨u1,u2⟩:=X6l hd
 have hu:idI (((2^N:Nat)) : Int)=some (unitS (2^N)):=u1
 unfold opI
 rw [if_pos hc,hN,Int.toNat_natCast,hu,Option.bind_some]
 unfold idI at hu
 obtain ⟨p1,p2,p3,_⟩:=X6p hu
 rw [Int.toNat_natCast] at p1
 refine Xci (C:=2^N) (by omega) c.gs (m0:=0) (v:=fun j=>eb N j) hg (by omega) u2 p2 p3 (fun i j hi hj=>?_) (fun j β=>?_)
 ·have e:=Option.some.inj (p1 i j hi hj)
  rw [← e,X8t (by omega) hi hj]
  by_cases e2:i=j
  ·rw [if_pos e2,if_pos e2]
   exact Xhj (by decide) (by decide)
  ·rw [if_neg e2,if_neg e2]
   exact X6d 0
 ·unfold eb
  split
  ·exact (by decide:qN 1≤4^0)
  ·exact (by decide:qN 0≤4^0)
end Go.Proofs.YtiejkplemjkjoaaGreat
namespace Go.Proofs.YtiejkplemjkjoaaGreat
open Go.RowKit
section
variable {α : Type} {P : Program} {a : Act} {w : World} {n : Nat} {e : Env} {ty : TypeId} {pos : String} {af : Array Edge} {g : Option (Nat × Bool)} {d : Option Tmp}
end
def mxq(best:List Int)(qs:List Int)(d:Int) : Int:=qs.foldl (fun d q=>max d (best.getD q.toNat 0)) d
def mxq1(best:List Int)(qs:List Int)(d:Int) : Int:=qs.foldl (fun d q=>max d (best.getD q.toNat 0+1)) d
def setq(best:List Int)(qs:List Int)(d:Int) : List Int:=qs.foldl (fun b q=>b.set q.toNat d) best
def isTi(k:Int) : Int:=if isTk k=true then 1 else 0
def tdStep(s:List Int×Int)(g:Gt) : List Int×Int:=(setq s.1 (qubI g) (mxq s.1 (qubI g) 0+isTi g.k),max s.2 (mxq s.1 (qubI g) 0+isTi g.k))
def laStep(s:List Int×List Int)(g:Gt) : List Int×List Int:=(setq s.1 (qubI g) (mxq1 s.1 (qubI g) 0),s.2++[mxq1 s.1 (qubI g) 0])
def five0:List Int:=[0,0,0,0,0]
def tdI(gs:List Gt) : Int:=(gs.foldl tdStep (five0,0)).2
def lyI(gs:List Gt) : List Int:=(gs.foldl laStep (five0,[])).2
def cmx(gs:List Gt)(g:Gt)(m:List Int) : Nat→Int
 | 0=>0
 | j+1=>if comS g (gs.getD j gZ)=true then max (cmx gs g m j) (m.getD j 0) else cmx gs g m j
def notW(k:Int) : Int:=if (k != 12)=true then 1 else 0
def lyS(gs:List Gt) : Nat→List Int
 | 0=>[]
 | i+1=>lyS gs i++[cmx gs (gs.getD i gZ) (lyS gs i) i+notW (gs.getD i gZ).k]
def tdS(gs:List Gt) : Nat→List Int×Int
 | 0=>([],0)
 | i+1=>((tdS gs i).1++[cmx gs (gs.getD i gZ) (tdS gs i).1 i+isTi (gs.getD i gZ).k],max (tdS gs i).2 (cmx gs (gs.getD i gZ) (tdS gs i).1 i+isTi (gs.getD i gZ).k))
theorem Xg4(d:Int) : ∀ (qs best:List Int),(setq best qs d).length=best.length
 | [],_=>rfl
 | q::qs,best=>by
  show (setq (best.set q.toNat d) qs d).length=_
  rw [Xg4 d qs,List.length_set]
theorem Xhh(best:List Int)(v:Int) : ∀ (qs:List Int) (d:Int),mxq best qs d≤v↔d≤v∧∀ q ∈ qs,best.getD q.toNat 0≤v
 | [],d=>by simp [mxq]
 | q::qs,d=>by
  show mxq best qs (max d (best.getD q.toNat 0))≤v↔_
  rw [Xhh best v qs,Int.max_le]
  simp only [List.mem_cons,forall_eq_or_imp,and_assoc]
theorem Xmi(gs:List Gt)(g:Gt)(m:List Int)(v:Int) : ∀ i,cmx gs g m i≤v↔0≤v∧∀ j,j<i→comS g (gs.getD j gZ)=true→m.getD j 0≤v
 | 0=>by simp [cmx]
 | i+1=>by
  unfold cmx
  have ih:=Xmi gs g m v i
  by_cases hc:comS g (gs.getD i gZ)=true
  ·rw [if_pos hc,Int.max_le,ih]
   constructor
   ·rintro ⟨⟨h1,h2⟩,h3⟩
    refine ⟨h1,fun j hj hcj=>?_⟩
    by_cases e:j=i
    ·rw [e];exact h3
    ·exact h2 j (by omega) hcj
   ·rintro ⟨h1,h2⟩;exact ⟨⟨h1,fun j hj=>h2 j (by omega)⟩,h2 i (by omega) hc⟩
  ·rw [if_neg hc,ih]
   constructor
   ·rintro ⟨h1,h2⟩
    refine ⟨h1,fun j hj hcj=>?_⟩
    by_cases e:j=i
    ·rw [e] at hcj;exact absurd hcj hc
    ·exact h2 j (by omega) hcj
   ·rintro ⟨h1,h2⟩;exact ⟨h1,fun j hj=>h2 j (by omega)⟩
theorem Xc5{d:Int} : ∀ (qs best:List Int) {p:Nat},(∀ q ∈ qs,0≤q∧q≤4)→best.length=5→p<5→(setq best qs d).getD p 0=if (p:Int) ∈ qs then d else best.getD p 0
 | [],best,p,_,_,_=>by simp [setq]
 | q::qs,best,p,hq,hl,hp=>by
  show (setq (best.set q.toNat d) qs d).getD p 0=_
  rw [Xc5 qs _ (fun x hx=>hq x (by simp [hx])) (by rw [List.length_set];exact hl) hp]
  have hq0:=hq q (by simp)
  by_cases h1:(p:Int) ∈ qs
  ·rw [if_pos h1,if_pos (by simp [h1])]
  ·rw [if_neg h1]
   by_cases h2:(p:Int)=q
   ·rw [if_pos (by simp [h2]),List.getD_eq_getElem?_getD,show q.toNat=p by omega,List.getElem?_set_self (by omega)];rfl
   ·rw [if_neg (by simp [h1,h2]),List.getD_eq_getElem?_getD,List.getElem?_set_ne (by omega),List.getD_eq_getElem?_getD]
theorem Xsu{x y:Int}(h:∀ v,x≤v↔y≤v) : x=y:=by
 have h1:=(h x).1 (Int.le_refl _);have h2:=(h y).2 (Int.le_refl _)
 omega
structure DInv (gs:List Gt) (i:Nat) (best m:List Int) : Prop where
 len:best.length=5
 mlen:m.length=i
 le:∀ p,p<5→∀ v,0≤v→(best.getD p 0≤v↔∀ j,j<i→(p:Int) ∈ qubI (gs.getD j gZ)→m.getD j 0≤v)
 nn:∀ p,p<5→0≤best.getD p 0
theorem DInv.start(gs:List Gt) : DInv gs 0 five0 []:=⟨rfl,rfl,fun p hp v hv=>by
 have:p=0∨p=1∨p=2∨p=3∨p=4:=by omega
 constructor
 ·intro _ j hj;omega
 ·intro _;rcases this with rfl|rfl|rfl|rfl|rfl<;>exact hv,fun p hp=>by
 have:p=0∨p=1∨p=2∨p=3∨p=4:=by omega
 rcases this with rfl|rfl|rfl|rfl|rfl<;>exact Int.le_refl _⟩
theorem DInv.eq{gs:List Gt}{i:Nat}{best m:List Int}(h:DInv gs i best m){g:Gt}(hq:∀ x ∈ qubI g,0≤x∧x≤4) : mxq best (qubI g) 0=cmx gs g m i:=by
 refine Xsu fun v=>?_
 rw [Xhh,Xmi]
 constructor
 ·rintro ⟨h0,h1⟩
  refine ⟨h0,fun j hj hc=>?_⟩
  rw [Xlu] at hc
  obtain ⟨x,x1,x2⟩:=Xdj.1 hc;have hb:=hq x x2
  have:=(h.le x.toNat (by omega) v h0).1 (h1 x x2) j hj
  rw [show ((x.toNat:Nat) : Int)=x by omega] at this
  exact this x1
 ·rintro ⟨h0,h1⟩
  refine ⟨h0,fun q hqm=>(h.le q.toNat (by have:=hq q hqm;omega) v h0).2 fun j hj hp=>h1 j hj ?_⟩
  rw [show ((q.toNat:Nat) : Int)=q by have:=hq q hqm;omega] at hp
  rw [Xlu]
  exact Xdj.2 ⟨q,hp,hqm⟩
theorem DInv.next{gs:List Gt}{i:Nat}{best m:List Int}(h:DInv gs i best m){g:Gt}(hg:gs.getD i gZ=g)(hq:∀ x ∈ qubI g,0≤x∧x≤4){d:Int}(hd:mxq best (qubI g) 0≤d) : DInv gs (i+1) (setq best (qubI g) d) (m++[d]):=by
 obtain ⟨d0,dq⟩:=(Xhh best d (qubI g) 0).1 hd
 have em:∀ j,j<i→(m++[d]).getD j 0=m.getD j 0:=fun j hj=>by
  rw [List.getD_eq_getElem?_getD,List.getElem?_append_left (by rw [h.mlen];exact hj),List.getD_eq_getElem?_getD]
 have ed:(m++[d]).getD i 0=d:=by
  rw [List.getD_eq_getElem?_getD,List.getElem?_append_right (by rw [h.mlen];omega),h.mlen,Nat.sub_self];rfl
 refine ⟨by rw [Xg4,h.len],by simp [h.mlen],fun p hp v hv=>?_,fun p hp=>?_⟩
 ·rw [Xc5 _ _ hq h.len hp]
  have hle:=h.le p hp v hv
  split
  ·rename_i hpg
   constructor
   ·intro hdv j hj hpj
    by_cases e:j=i
    ·rw [e,ed];exact hdv
    ·rw [em j (by omega)]
     have hb:=dq _ hpg
     rw [Int.toNat_natCast] at hb
     exact hle.1 (by omega) j (by omega) hpj
   ·intro hall
    have:=hall i (by omega) (by rw [hg];exact hpg)
    rwa [ed] at this
  ·rename_i hpg
   rw [hle]
   constructor
   ·intro hall j hj hpj
    by_cases e:j=i
    ·rw [e,hg] at hpj;exact absurd hpj hpg
    ·rw [em j (by omega)];exact hall j (by omega) hpj
   ·intro hall j hj hpj
    have:=hall j (by omega) hpj
    rwa [em j hj] at this
 ·rw [Xc5 _ _ hq h.len hp]
  split
  ·exact d0
  ·exact h.nn p hp
abbrev En:=Int×Int×Nat
def findI(l:List En)(x:Int) : Option Int:=(l.find? fun p=>p.1==x).map fun p=>p.2.1
structure Pw (l:List En) (clock:Nat) : Prop where
 keys:(l.map fun p=>p.1).Nodup
 borns:(l.map fun p=>p.2.2).Nodup
 old:∀ p ∈ l,p.2.2<clock
def MapF(w:World)(b:Nat)(f:Int→Int) : Prop:=∃ l clock,MapI w b l clock∧Pw l clock∧∀ x,(findI l x).getD 0=f x
def upd(f:Int→Int)(m v:Int) : Int→Int:=fun x=>if x=m then v else f x
theorem X3i(l1 l2:List En)(x:Int) : findI (l1++l2) x=(findI l1 x).or (findI l2 x):=by
 simp [findI,List.find?_append,Option.map_or]
theorem X4r(p:En)(l:List En)(x:Int) : findI (p::l) x=if p.1=x then some p.2.1 else findI l x:=by
 unfold findI
 rw [List.find?_cons]
 by_cases h:p.1=x
 ·simp [h]
 ·have hb:(p.1==x)=false:=by simpa using h
  rw [hb,if_neg h]
theorem X3r{l:List En}{x:Int}(h:∀ q ∈ l,q.1≠x) : findI l x=none:=by
 unfold findI
 rw [List.find?_eq_none.2 (fun q hq=>by simpa using h q hq)]
 rfl
theorem X93{k:IntKind}{x:Int} : ∀ (l:List En) (i:Nat),((∀ q ∈ l,q.1≠x)∧Instr.findNow (.int k) (.int .i64 x) (l.map entI) i=some none)∨
  ∃ l1 p l2,l=l1++p::l2∧p.1=x∧(∀ q ∈ l1,q.1≠x)∧Instr.findNow (.int k) (.int .i64 x) (l.map entI) i=some (some (i+l1.length,.int .i64 p.2.1))
 | [],_=>.inl ⟨by simp,rfl⟩
 | p::l,i=>by
  by_cases hx:p.1=x
  ·right
   refine ⟨[],p,l,rfl,hx,by simp,?_⟩
   have h2:(x==p.1)=true:=by simpa using hx.symm
   simp only [List.map_cons,Instr.findNow,entI,Instr.sameNow,if_true,h2]
   rfl
  ·have h2:(x==p.1)=false:=by simpa using fun e=>hx e.symm
   have hs:Instr.findNow (.int k) (.int .i64 x) ((p::l).map entI) i=Instr.findNow (.int k) (.int .i64 x) (l.map entI) (i+1):=by
    simp only [List.map_cons,Instr.findNow,entI,Instr.sameNow,if_true,h2]
   rcases X93 (k:=k) (x:=x) l (i+1) with ⟨h3,h4⟩|⟨l1,q,l2,h3,h4,h5,h6⟩
   ·exact .inl ⟨fun q hq=>by rcases List.mem_cons.1 hq with rfl|hq;exact hx;exact h3 q hq,hs.trans h4⟩
   ·right
    refine ⟨p::l1,q,l2,by rw [h3];rfl,h4,fun r hr=>by rcases List.mem_cons.1 hr with rfl|hr;exact hx;exact h5 r hr,hs.trans (h6.trans ?_)⟩
    rw [List.length_cons,Nat.add_assoc,Nat.add_comm 1]
section
variable {w w' : World} {b b' : Nat} {f : Int → Int}
theorem MapI.lt{clock:Nat}{l:List En}(h:MapI w b l clock) : b<w.heap.size:=by
 rcases Nat.lt_or_ge b w.heap.size with h'|h'
 ·exact h'
 ·simp [MapI,Array.getElem?_eq_none h'] at h
theorem MapF.lt(h:MapF w b f) : b<w.heap.size:=let ⟨_,_,h,_⟩:=h;h.lt
theorem MapF.below(h:MapF w b f)(hb:Below w.heap.size w w') : MapF w' b f:=let ⟨l,c,h,g⟩:=h;⟨l,c,h.below hb,g⟩
theorem MapF.only(h:MapF w b f)(ho:Only b' w w')(hne:b≠b') : MapF w' b f:=let ⟨l,c,h,g⟩:=h;⟨l,c,h.only ho hne,g⟩
theorem MapF.ne{T:TypeId}{cs:List Value}(h:MapF w b f)(hb:Blk w b' T cs) : b≠b':=let ⟨_,_,h,_⟩:=h;h.ne hb
theorem MapF.cong{g:Int→Int}(h:MapF w b f)(e:∀ x,f x=g x) : MapF w b g:=by
 have:f=g:=funext e
 rw [← this];exact h
end
theorem Pw.push{l:List En}{clock:Nat}(h:Pw l clock){x v:Int}(hx:∀ q ∈ l,q.1≠x) : Pw (l++[(x,v,clock)]) (clock+1):=by
 refine ⟨?_,?_,fun p hp=>?_⟩
 ·rw [List.map_append,List.nodup_append]
  refine ⟨h.keys,by simp,fun a ha b hb=>?_⟩
  obtain ⟨q,hq,rfl⟩:=List.mem_map.1 ha
  simp at hb
  rw [hb]
  exact hx q hq
 ·rw [List.map_append,List.nodup_append]
  refine ⟨h.borns,by simp,fun a ha b hb=>?_⟩
  obtain ⟨q,hq,rfl⟩:=List.mem_map.1 ha
  simp at hb
  have:=h.old q hq
  omega
 ·rcases List.mem_append.1 hp with hp|hp
  ·have:=h.old p hp;omega
  ·rw [List.mem_singleton.1 hp];exact Nat.lt_succ_self _
theorem Pw.turn{l1 l2:List En}{p:En}{clock:Nat}(h:Pw (l1++p::l2) clock)(v:Int) : Pw (l1++(p.1,v,p.2.2)::l2) clock:=by
 refine ⟨?_,?_,fun q hq=>?_⟩
 ·have:=h.keys;simpa using this
 ·have:=h.borns;simpa using this
 ·rcases List.mem_append.1 hq with hq|hq
  ·exact h.old q (List.mem_append_left _ hq)
  ·rcases List.mem_cons.1 hq with rfl|hq
   ·exact h.old p (by simp)
   ·exact h.old q (by simp [hq])
theorem Pw.drop{l1 l2:List En}{p:En}{clock:Nat}(h:Pw (l1++p::l2) clock) : Pw (l1++l2) clock:=by
 have hs:(l1++l2).Sublist (l1++p::l2):=List.Sublist.append (List.Sublist.refl _) (List.sublist_cons_self _ _)
 exact ⟨h.keys.sublist (hs.map _),h.borns.sublist (hs.map _),fun q hq=>h.old q (hs.subset hq)⟩
theorem Pw.other{l1 l2:List En}{p:En}{clock:Nat}(h:Pw (l1++p::l2) clock) : ∀ q ∈ l2,q.1≠p.1:=by
 have:=h.keys
 rw [List.map_append,List.nodup_append] at this
 have h2:=this.2.1
 rw [List.map_cons,List.nodup_cons] at h2
 intro q hq e;exact h2.1 (List.mem_map.2 ⟨q,hq,e⟩)
theorem Xd7{α:Type}(f:α→α)(p:α)(l2:List α) : ∀ l1:List α,(l1++p::l2).modify l1.length f=l1++f p::l2
 | []=>rfl
 | a::l1=>by
  show a::(l1++p::l2).modify l1.length f=_
  rw [Xd7 f p l2 l1]
  rfl
def NC(w:World)(b:Nat) : Prop:=∀ l T fz,w.heap[b]?≠some (.cells l T fz)
theorem MapF.nc{w:World}{b:Nat}{f:Int→Int}(h:MapF w b f) : NC w b:=fun l T fz e=>by
 obtain ⟨_,_,h,_⟩:=h
 unfold MapI at h
 rw [h] at e;cases e
section
variable {α : Type} {w w' : World} {b B : Nat} {E : TypeId} {enc : α → List Value} {A : Option Addr} {l : List α}
theorem NC.ne{b':Nat}{T:TypeId}{cs:List Value}(h:NC w b)(hb:Blk w b' T cs) : b≠b':=by
 rintro rfl;exact h _ _ _ hb
theorem Blk.onlyN{b':Nat}{T:TypeId}{cs:List Value}(h:Blk w b' T cs)(ho:Only b w w')(hm:NC w b) : Blk w' b' T cs:=h.only ho (Ne.symm (hm.ne h))
theorem Rd.onlyN(h:Rd w B E enc A l)(ho:Only b w w')(hm:NC w b) : Rd w' B E enc A l:=h.chg fun k cs fz _ hk=>ho.block k fun e=>by
 rw [e] at hk;exact hm _ _ _ hk
theorem Own.onlyN{sz c:Nat}(h:Own w B E sz enc A c l)(ho:Only b w w')(hm:NC w b) : Own w' B E sz enc A c l:=by
 refine ⟨h.1,?_⟩
 rcases h.2 with k1|⟨g,cap,cur,k1,k2,k3,k4⟩
 ·exact .inl k1
 ·refine .inr ⟨g,cap,cur,k1,k2,(ho.block g fun e=>?_).trans k3,k4⟩
  rw [e] at k3;exact hm _ _ _ k3
theorem NC.app{sz n c c' b0:Nat}(h:NC w b0)(hlt:b0<w.heap.size)(ho:Own w B E sz enc A c l)(hg:w.grownBy w' (Value.slice A n c').ownBlock) : w'.heap[b0]? = w.heap[b0]?:=by
 refine hg.block b0 hlt fun hk=>?_
 rw [Xak A n l.length c' c] at hk
 obtain ⟨_,_,cs,fz,h3⟩:=ho.block hk.symm;exact h _ _ _ h3
theorem MapF.app{sz n c c':Nat}{f:Int→Int}(h:MapF w b f)(ho:Own w B E sz enc A c l)(hg:w.grownBy w' (Value.slice A n c').ownBlock) : MapF w' b f:=by
 have e:=h.nc.app h.lt ho hg
 obtain ⟨l2,cl,hL,hg2⟩:=h;exact ⟨l2,cl,e.trans hL,hg2⟩
end
section
variable {a : Act} {w : World} {n : Nat} {e : Env} {ty : TypeId} {pos : String} {af : Array Edge} {g : Option (Nat × Bool)} {d : Option Tmp} {b : Nat} {f : Int → Int} {T : TypeId}
theorem ck3(em:Bool)(i:Int)(w:World) : (Instr.checkKey em 10000 3 (.int .i64 i)).run Tryz.prog w=.ok () w:=MapKept.run_checkKey Tryz.underlying3 (show MapKept.IsKey (.int .i64) (.int .i64 i) from rfl) em 9999
theorem Xuk(i:Int) : Instr.sameBits 10000 (.int .i64 i) (.int .i64 i)=true:=by simp [Instr.sameBits]
theorem Xnz{m x:Operand}{i:Int}(hf:Fr a n e)(hm:ev e m=some (.map (some b)))(hx:ev e x=some (.int .i64 i))(hT:Tryz.prog.underlying T=some (.map 3 3))(h:MapF w b f) :
  Ev Tryz.prog ⟨d,.lookup T m x false,ty,pos,af,g⟩ a w (.int .i64 (f i)):=fun w' hw=>by
 obtain ⟨l,clock,hL,hP,hl⟩:=h
 have hL':=hL.below hw
 unfold MapI at hL'
 have hz:(zeroValue 3).run Tryz.prog w'=.ok (.int .i64 0) w':=by kernel_rfl
 rcases X93 (k:=.i64) (x:=i) l 0 with ⟨h1,h2⟩|⟨l1,p,l2,h1,h2,h3,h4⟩
 ·have:f i=0:=by rw [← hl i,X3r h1];rfl
  rw [this]
  simp [execOp,Instr.lookup,hf.ev hm,hf.ev hx,X0d hT,getObj,Sem.run,hL',ck3,Instr.findKey,X0d Tryz.underlying3,h2,hz]
 ·have:f i=p.2.1:=by
   rw [← hl i,h1,X3i,X3r h3,X4r,if_pos h2];rfl
  rw [this]
  simp [execOp,Instr.lookup,hf.ev hm,hf.ev hx,X0d hT,getObj,Sem.run,hL',ck3,Instr.findKey,X0d Tryz.underlying3,h4]
theorem Xbw{m x:Operand}{i:Int}(hm:ev e m=some (.map (some b)))(hx:ev e x=some (.int .i64 i))(hT:Tryz.prog.underlying T=some (.map 3 3))(h:MapF w b f) : EvW Tryz.prog ⟨d,.lookup T m x false,ty,pos,af,g⟩ n e w (.int .i64 (f i)):=fun _ hf=>Xnz hf hm hx hT h
theorem Xgf{o:Obj} : Only b w { w with heap:=w.heap.setIfInBounds b o }:=⟨rfl,rfl,rfl,by simp,fun k hk=>by
 show (w.heap.setIfInBounds b _)[k]? = _
 rw [Array.getElem?_setIfInBounds_ne (Ne.symm hk)]⟩
theorem X4p{f:Int→Int}{m v x:Int}(h:x≠m) : upd f m v x=f x:=if_neg h
theorem X9g{f:Int→Int}{m v:Int} : upd f m v m=v:=if_pos rfl
theorem Xj8{m x y:Operand}{i j:Int}(hf:Fr a n e)(hm:ev e m=some (.map (some b)))(hx:ev e x=some (.int .i64 i))(hy:ev e y=some (.int .i64 j))(hT:Tryz.prog.underlying T=some (.map 3 3))(h:MapF w b f) :
  Ef Tryz.prog ⟨d,.mapUpdate T m x y,ty,pos,af,g⟩ a w (fun _ w'=>Only b w w'∧MapF w' b (upd f i j)):=by
 obtain ⟨l,clock,hL,hP,hl⟩:=h;have hlt:=hL.lt
 unfold MapI at hL
 rcases X93 (k:=.i64) (x:=i) l 0 with ⟨h1,h2⟩|⟨l1,p,l2,h1,h2,h3,h4⟩
 ·refine (Ef.of_skip (w':={ w with heap:=w.heap.setIfInBounds b (.map ((l++[(i,j,clock)]).map entI).toArray (clock+1)) }) ?_).mono fun v w' ⟨_,e2⟩=>?_
  ·simp [execOp,Instr.mapUpdate,hf.ev hm,hf.ev hx,hf.ev hy,X0d hT,getObj,hL,ck3,Instr.findKey,X0d Tryz.underlying3,h2,setObj,Sem.run,entI]
  ·subst e2
   refine ⟨Xgf,l++[(i,j,clock)],clock+1,?_,hP.push h1,fun x=>?_⟩
   ·show (w.heap.setIfInBounds b _)[b]? = _
    simp [hlt]
   ·rw [X3i,X4r]
    by_cases hx':x=i
    ·subst hx'
     rw [X3r h1,X9g,if_pos rfl];rfl
    ·rw [X4p hx',if_neg (Ne.symm hx'),← hl x]
     cases findI l x<;>rfl
 ·have hmod:((l.map entI).toArray).modify l1.length (fun e=>{ e with key:=.int .i64 i,val:=.int .i64 j })=((l1++(p.1,j,p.2.2)::l2).map entI).toArray:=by
   rw [h1,List.modify_toArray,List.map_append,List.map_cons]
   have:=Xd7 (fun e:MapEntry=>{ e with key:=.int .i64 i,val:=.int .i64 j }) (entI p) (l2.map entI) (l1.map entI)
   rw [List.length_map] at this
   rw [this,List.map_append,List.map_cons]
   simp only [entI,h2]
  refine (Ef.of_skip (w':={ w with heap:=w.heap.setIfInBounds b (.map ((l1++(p.1,j,p.2.2)::l2).map entI).toArray clock) }) ?_).mono fun v w' ⟨_,e2⟩=>?_
  ·have hat:(Option.map ((fun x:MapEntry=>x.key) ∘ entI) l[l1.length]?).getD (.int .i64 i)=.int .i64 i:=by
    rw [h1];simp [entI,h2]
   rw [← hmod]
   simp [execOp,Instr.mapUpdate,hf.ev hm,hf.ev hx,hf.ev hy,X0d hT,getObj,hL,ck3,Instr.findKey,X0d Tryz.underlying3,h4,setObj,Sem.run,Instr.keyThatStays,Xuk,hat]
  ·subst e2
   refine ⟨Xgf,_,clock,?_,(h1▸hP).turn j,fun x=>?_⟩
   ·show (w.heap.setIfInBounds b _)[b]? = _
    simp [hlt]
   ·have hx0:=hl x
    rw [h1,X3i,X4r] at hx0
    rw [X3i,X4r]
    by_cases hx':x=i
    ·subst hx'
     rw [X3r h3,X9g,if_pos h2];rfl
    ·rw [X4p hx',if_neg (by rw [h2];exact Ne.symm hx'),← hx0,if_neg (by rw [h2];exact Ne.symm hx')]
theorem Xy4{m x y:Operand}{i j:Int}(hm:ev e m=some (.map (some b)))(hx:ev e x=some (.int .i64 i))(hy:ev e y=some (.int .i64 j))(hT:Tryz.prog.underlying T=some (.map 3 3))(h:MapF w b f) : EfW Tryz.prog ⟨d,.mapUpdate T m x y,ty,pos,af,g⟩ n e w (fun _ w'=>Only b w w'∧MapF w' b (upd f i j)):=fun _ hf=>Xj8 hf hm hx hy hT h
theorem Xrc{m x y:Operand}{i j:Int}(hf:Fr a n e)(hm:ev e m=some (.map (some b)))(hx:ev e x=some (.int .i64 i))(hy:ev e y=some (.int .i64 j))(hT:Tryz.prog.underlying T=some (.map 3 3))(h:MapF w b f) :
  Ef Tryz.prog ⟨d,.insert T m x y,ty,pos,af,g⟩ a w (fun _ w'=>Only b w w'∧MapF w' b (upd f i j)):=Xj8 (ty:=ty) (pos:=pos) (af:=af) (g:=g) (d:=d) hf hm hx hy hT h
theorem Xzz{m x y:Operand}{i j:Int}(hm:ev e m=some (.map (some b)))(hx:ev e x=some (.int .i64 i))(hy:ev e y=some (.int .i64 j))(hT:Tryz.prog.underlying T=some (.map 3 3))(h:MapF w b f) : EfW Tryz.prog ⟨d,.insert T m x y,ty,pos,af,g⟩ n e w (fun _ w'=>Only b w w'∧MapF w' b (upd f i j)):=fun _ hf=>Xrc hf hm hx hy hT h
theorem Xlg:Ef Tryz.prog ⟨d,.makeMap T none,ty,pos,af,g⟩ a w (fun v w'=>∃ b,v=.map (some b)∧w.heap.size≤b∧Below w.heap.size w w'∧MapF w' b (fun _=>0)):=
 Xb3.mono fun _ _ ⟨b,h1,h2,h3,h4⟩=>⟨b,h1,h2,h3,[],0,h4,⟨by simp,by simp,by simp⟩,fun _=>rfl⟩
theorem Xm7:EfW Tryz.prog ⟨d,.makeMap T none,ty,pos,af,g⟩ n e w (fun v w'=>∃ b,v=.map (some b)∧w.heap.size≤b∧Below w.heap.size w w'∧MapF w' b (fun _=>0)):=fun a _=>Xlg
end
def MapR(w:World)(b r:Nat)(f:Int→Int)(left:Int→Bool)(cnt:Nat) : Prop:=∃ l clock since seen c0,MapI w b l clock∧Pw l clock∧(∀ x,(findI l x).getD 0=f x)∧
 w.heap[r]? = some (.mapIter (some b) since seen c0)∧(∀ p ∈ l,p.2.2<since)∧since≤c0∧since≤clock∧(leftOf (l.map entI).toArray seen).size=cnt∧
 (∀ p ∈ l,left p.1 = !seen.contains p.2.2)∧(∀ x,left x=true→∃ p ∈ l,p.1=x)
section
variable {w w' : World} {b r : Nat} {f : Int → Int} {left : Int → Bool} {cnt : Nat}
theorem MapR.nc(h:MapR w b r f left cnt) : NC w r:=fun l T fz e=>by
 obtain ⟨_,_,_,_,_,_,_,_,hr,_⟩:=h
 rw [hr] at e;cases e
theorem MapR.mapF(h:MapR w b r f left cnt) : MapF w b f:=let ⟨l,c,_,_,_,h1,h2,h3,_⟩:=h;⟨l,c,h1,h2,h3⟩
theorem MapR.lt(h:MapR w b r f left cnt) : r<w.heap.size:=by
 obtain ⟨_,_,_,_,_,_,_,_,hr,_⟩:=h;exact (Array.getElem?_eq_some_iff.1 hr).1
theorem MapR.ne(h:MapR w b r f left cnt) : b≠r:=by
 rintro rfl;obtain ⟨_,_,_,_,_,hb,_,_,hr,_⟩:=h
 unfold MapI at hb
 rw [hb] at hr;cases hr
theorem MapR.same(h:MapR w b r f left cnt)(hb:w'.heap[b]? = w.heap[b]?)(hr:w'.heap[r]? = w.heap[r]?) : MapR w' b r f left cnt:=
 let ⟨l,c,s,z,c0,h1,h2,h3,h4,h5⟩:=h
 ⟨l,c,s,z,c0,hb.trans h1,h2,h3,hr.trans h4,h5⟩
theorem MapR.below(h:MapR w b r f left cnt)(hE:Below w.heap.size w w') : MapR w' b r f left cnt:=h.same (hE.block b h.mapF.lt) (hE.block r h.lt)
theorem MapR.only{b':Nat}(h:MapR w b r f left cnt)(ho:Only b' w w')(h1:b≠b')(h2:r≠b') : MapR w' b r f left cnt:=h.same (ho.block b h1) (ho.block r h2)
theorem MapR.app{α:Type}{B:Nat}{E:TypeId}{enc:α→List Value}{A:Option Addr}{l:List α}{sz n c c':Nat}(h:MapR w b r f left cnt)(ho:Own w B E sz enc A c l)(hg:w.grownBy w' (Value.slice A n c').ownBlock) : MapR w' b r f left cnt:=
 h.same (h.mapF.nc.app h.mapF.lt ho hg) (h.nc.app h.lt ho hg)
end
theorem Xgj{l:List En}{clock:Nat}(h:Pw l clock){p q:En}(hp:p ∈ l)(hq:q ∈ l)(e:p.2.2=q.2.2) : p=q:=by
 have hb:=h.borns;clear h
 induction l with
 | nil=>cases hp
 | cons a l ih=>
  rw [List.map_cons,List.nodup_cons] at hb
  rcases List.mem_cons.1 hp with rfl|hp'<;>rcases List.mem_cons.1 hq with rfl|hq'
  ·rfl
  ·exact absurd (List.mem_map.2 ⟨q,hq',e.symm⟩) hb.1
  ·exact absurd (List.mem_map.2 ⟨p,hp',e⟩) hb.1
  ·exact ih hp' hq' hb.2
theorem Xac{l:List En}{clock:Nat}(h:Pw l clock){p q:En}(hp:p ∈ l)(hq:q ∈ l)(e:p.1=q.1) : p=q:=by
 have hb:=h.keys;clear h
 induction l with
 | nil=>cases hp
 | cons a l ih=>
  rw [List.map_cons,List.nodup_cons] at hb
  rcases List.mem_cons.1 hp with rfl|hp'<;>rcases List.mem_cons.1 hq with rfl|hq'
  ·rfl
  ·exact absurd (List.mem_map.2 ⟨q,hq',e.symm⟩) hb.1
  ·exact absurd (List.mem_map.2 ⟨p,hp',e⟩) hb.1
  ·exact ih hp' hq' hb.2
theorem Xp4{l:List En}{clock:Nat}(h:Pw l clock){p:En}(hp:p ∈ l) : findI l p.1=some p.2.1:=by
 rcases X93 (k:=.i64) (x:=p.1) l 0 with ⟨h1,_⟩|⟨l1,q,l2,h1,h2,h3,_⟩
 ·exact absurd rfl (h1 p hp)
 ·rw [h1,X3i,X3r h3,X4r,if_pos h2]
  have:q=p:=Xac h (by rw [h1];simp) hp h2
  rw [this];rfl
section
variable {a : Act} {w : World} {n : Nat} {e : Env} {ty : TypeId} {pos : String} {af : Array Edge} {g : Option (Nat × Bool)} {d : Option Tmp} {b r : Nat} {f : Int → Int} {T : TypeId} {left : Int → Bool} {cnt : Nat}
theorem Xos{m:Operand}(hf:Fr a n e)(hm:ev e m=some (.map (some b)))(hT:Tryz.prog.underlying T=some (.map 3 3))(h:MapF w b f) :
  Ef Tryz.prog ⟨d,.range T m,ty,pos,af,g⟩ a w (fun v w'=>∃ r left cnt,v=.pointer (some ⟨r,0,none⟩)∧w.heap.size≤r∧Below w.heap.size w w'∧MapR w' b r f left cnt∧∀ x,f x≠0→left x=true):=by
 obtain ⟨l,clock,hL,hP,hl⟩:=h;have hlt:=hL.lt
 have hE:Below w.heap.size w (w.alloc (.mapIter (some b) clock #[] clock)):=(Below.refl _ _).alloc (Nat.le_refl _) _
 have hL2:=hL.below hE
 unfold MapI at hL
 have hrun:=run_range_map (P:=Tryz.prog) w T 3 3 b _ clock hT hL;refine (Ef.of_run (v:=.pointer (some ⟨w.heap.size,0,none⟩)) (w':=w.alloc (.mapIter (some b) clock #[] clock)) ?_).mono fun v w' ⟨e1,e2⟩=>?_
 ·simp [execOp,hf.ev hm,hrun]
 ·subst e1;subst e2
  refine ⟨w.heap.size,fun x=>l.any fun p=>p.1==x,_,rfl,Nat.le_refl _,hE,⟨l,clock,clock,#[],clock,hL2,hP,hl,heap_alloc_new w _,hP.old,Nat.le_refl _,Nat.le_refl _,rfl,fun p hp=>?_,fun x hx=>?_⟩,fun x hx=>?_⟩
  ·have:(l.any fun q=>q.1==p.1)=true:=List.any_eq_true.2 ⟨p,hp,by simp⟩
   show (l.any fun q=>q.1==p.1)=_
   rw [this];simp
  ·obtain ⟨p,hp,hpx⟩:=List.any_eq_true.1 hx;exact ⟨p,hp,by simpa using hpx⟩
  ·rcases X93 (k:=.i64) (x:=x) l 0 with ⟨h1,_⟩|⟨l1,q,l2,h1,h2,_⟩
   ·rw [← hl x,X3r h1] at hx
    exact absurd rfl hx
   ·exact List.any_eq_true.2 ⟨q,by rw [h1];simp,by simpa using h2⟩
theorem Xwx{m:Operand}(hm:ev e m=some (.map (some b)))(hT:Tryz.prog.underlying T=some (.map 3 3))(h:MapF w b f) :
  EfW Tryz.prog ⟨d,.range T m,ty,pos,af,g⟩ n e w (fun v w'=>∃ r left cnt,v=.pointer (some ⟨r,0,none⟩)∧w.heap.size≤r∧Below w.heap.size w w'∧MapR w' b r f left cnt∧∀ x,f x≠0→left x=true):=fun _ hf=>Xos hf hm hT h
def EntR(w:World)(r:Nat)(k v:Int) : Prop:=∀ w',Below w.heap.size w w'→(Instr.entry (.pointer (some ⟨r,0,none⟩))).run Tryz.prog w'=.ok (.tuple #[.int .i64 k,.int .i64 v]) w'
theorem Xpa{it:Operand}{k v:Int}(hf:Fr a n e)(hm:ev e it=some (.pointer (some ⟨r,0,none⟩)))(h:EntR w r k v) : Ev Tryz.prog ⟨d,.entry it,ty,pos,af,g⟩ a w (.tuple #[.int .i64 k,.int .i64 v]):=fun w' hw=>by
 have h:=h w' hw
 simp [execOp,hf.ev hm,h]
theorem Xwy{it:Operand}{k v:Int}(hm:ev e it=some (.pointer (some ⟨r,0,none⟩)))(h:EntR w r k v) : EvW Tryz.prog ⟨d,.entry it,ty,pos,af,g⟩ n e w (.tuple #[.int .i64 k,.int .i64 v]):=fun _ hf=>Xpa hf hm h
def NextR(w:World)(b r:Nat)(f:Int→Int)(left:Int→Bool)(cnt:Nat)(v:Value)(w':World) : Prop:=
 (v=.tuple #[.bool false]∧w'=w∧∀ x,left x=false)∨
 ∃ k cnt',v=.tuple #[.bool true,.int .i64 k,.int .i64 (f k)]∧left k=true∧Only r w w'∧MapR w' b r f (fun x=>left x&&x != k) cnt'∧cnt'<cnt∧
  EntR w' r k (f k)
theorem Xq6{it:Operand}(hf:Fr a n e)(hm:ev e it=some (.pointer (some ⟨r,0,none⟩)))(h:MapR w b r f left cnt) :
  Ef Tryz.prog ⟨d,.next it false,ty,pos,af,g⟩ a w (NextR w b r f left cnt):=by
 have hne:=h.ne;obtain ⟨l,clock,since,seen,c0,hL,hP,hl,hr,hold,hsc,hsk,rfl,hl1,hl2⟩:=h
 unfold MapI at hL
 have hold':∀ x ∈ (l.map entI).toArray.toList,x.born<since:=fun x hx=>by
  simp only [List.toList_toArray] at hx
  obtain ⟨p,hp,rfl⟩:=List.mem_map.1 hx;exact hold p hp
 rcases run_next_at (P:=Tryz.prog) w ty r b since c0 seen _ clock hr hL hold' hsc with ⟨h0,hrun⟩|⟨m,hm2,w1,hal,hrun⟩
 ·refine (Ef.of_run (v:=.tuple #[.bool false]) (w':=w) ?_).mono fun v w' ⟨e1,e2⟩=>.inl ⟨e1,e2,fun x=>?_⟩
  ·simp [execOp,hf.ev hm,hrun]
  ·cases hx:left x with
   | false=>rfl
   | true=>
    obtain ⟨p,hp,rfl⟩:=hl2 x hx
    have:=all_seen _ seen h0 (entI p) (by simp only [List.toList_toArray];exact List.mem_map.2 ⟨p,hp,rfl⟩)
    rw [hl1 p hp] at hx
    rw [show (entI p).born=p.2.2 from rfl] at this
    rw [this] at hx;cases hx
 ·obtain ⟨hmem,hseen⟩:=mem_left hm2
  have hmem':=hmem
  simp only [List.toList_toArray] at hmem'
  obtain ⟨p,hp,rfl⟩:=List.mem_map.1 hmem'
  have hfp:f p.1=p.2.1:=by rw [← hl p.1,Xp4 hP hp];rfl
  have hr1:w1.heap[r]? = some (.mapIter (some b) since seen c0):=by rcases hal with rfl|rfl<;>exact hr
  have hb1:w1.heap[b]? = some (.map (l.map entI).toArray clock):=by rcases hal with rfl|rfl<;>exact hL
  have hset:=MapKept.heap_set (o':=.mapIter (some b) since (seen.push p.2.2) clock) hr1
  have hb':(ChangeMaps.setBlock w1 r (.mapIter (some b) since (seen.push p.2.2) clock)).heap[b]? = some (.map (l.map entI).toArray clock):=(hset.2 b hne).trans hb1
  refine (Ef.of_run (v:=.tuple #[.bool true,.int .i64 p.1,.int .i64 p.2.1]) (w':=ChangeMaps.setBlock w1 r (.mapIter (some b) since (seen.push p.2.2) clock)) ?_).mono fun v w' ⟨e1,e2⟩=>.inr ⟨p.1,(leftOf (l.map entI).toArray (seen.push p.2.2)).size,by rw [hfp];exact e1,?_,?_,?_,?_,?_⟩
  ·simp [execOp,hf.ev hm,hrun]
   exact ⟨⟨rfl,rfl⟩,rfl⟩
  ·rw [hl1 p hp]
   rw [show (entI p).born=p.2.2 from rfl] at hseen
   rw [hseen];rfl
  ·subst e2
   rcases hal with rfl|rfl<;>exact ⟨rfl,rfl,rfl,by simp [ChangeMaps.setBlock],fun i hi=>hset.2 i hi⟩
  ·subst e2
   refine ⟨l,clock,since,seen.push p.2.2,clock,hb',hP,hl,hset.1,hold,hsk,hsk,rfl,fun q hq=>?_,fun x hx=>hl2 x ?_⟩
   ·show (left q.1&&q.1 != p.1)=_
    have hcp:(seen.push p.2.2).contains q.2.2=(seen.contains q.2.2||q.2.2==p.2.2):=contains_push ..
    rw [hl1 q hq,hcp]
    by_cases hqp:q.2.2=p.2.2
    ·have:=Xgj hP hq hp hqp
     subst this
     simp
    ·have:q.1≠p.1:=fun e=>hqp (by rw [Xac hP hq hp e])
     have e1:(q.2.2==p.2.2)=false:=by simpa using hqp
     have e2:(q.1 != p.1)=true:=by simpa using this
     rw [e1,e2,Bool.and_true,Bool.or_false]
   ·simp only [Bool.and_eq_true] at hx;exact hx.1
  ·exact left_shrinks _ seen _ hm2
  ·subst e2
   rw [hfp]
   intro w2 hE;exact run_entry_at _ r b since seen _ clock (entI p) ((hE.block r (Array.getElem?_eq_some_iff.1 hset.1).1).trans hset.1) ((hE.block b (Array.getElem?_eq_some_iff.1 hb').1).trans hb') (by simp only [List.toList_toArray];exact hmem') (by simp only [List.toList_toArray,List.map_map];exact hP.borns)
theorem Y0e{it:Operand}(hm:ev e it=some (.pointer (some ⟨r,0,none⟩)))(h:MapR w b r f left cnt) : EfW Tryz.prog ⟨d,.next it false,ty,pos,af,g⟩ n e w (NextR w b r f left cnt):=fun _ hf=>Xq6 hf hm h
end
structure Tm where (m c:Int) deriving DecidableEq
structure Af where (m t:Int) deriving DecidableEq
def encT(x:Tm) : List Value:=[.int .i64 x.m,.int .i64 x.c]
def encA(x:Af) : List Value:=[.int .i64 x.m,.int .i64 x.t]
abbrev aV(x:Af) : Value:=.agg #[.int .i64 x.m,.int .i64 x.t]
abbrev uV(x:Tm) : Value:=.agg #[.int .i64 x.m,.int .i64 x.c]
theorem X0m(x:Tm) : (encT x).length=2:=rfl
theorem Xv(x:Af) : (encA x).length=2:=rfl
theorem X2g(x:Tm) : (encT x).all one=true:=rfl
theorem X3o(x:Af) : (encA x).all one=true:=rfl
def padd(f:Int→Int)(m k:Int) : Int→Int:=upd f m ((f m+k) % 8)
theorem Xu8(a:Int) : (a.tmod 8+8).tmod 8=a % 8:=by
 have h1:a.tmod 8=a % 8∨a.tmod 8=a % 8-8:=by
  rw [Int.tmod_eq_emod]
  split<;>simp
 have h2:0≤a.tmod 8+8:=by
  rcases h1 with h|h<;>omega
 rw [Int.tmod_eq_emod_of_nonneg h2]
 rcases h1 with h|h<;>omega
def PO(f:Int→Int) : Prop:=∀ x,0≤f x∧f x<8
theorem PO.padd{f:Int→Int}(h:PO f)(m k:Int) : PO (padd f m k):=fun x=>by
 unfold Proofs.YtiejkplemjkjoaaGreat.padd upd
 split
 ·omega
 ·exact h x
theorem PO.zero:PO (fun _=>0):=fun _=>⟨by show (0:Int)≤0;omega,by show (0:Int)<8;omega⟩
def Rise(T:List Tm) : Prop:=T.Pairwise fun x y=>x.m<y.m
structure IsT (f:Int→Int) (T:List Tm) : Prop where
 rise:Rise T
 mem:∀ t:Tm,t ∈ T↔0<t.m∧t.m<16777216∧t.c=f t.m∧f t.m≠0
theorem Xi7:∀ {T U:List Tm},Rise T→Rise U→(∀ t,t ∈ T↔t ∈ U)→T=U
 | [],[],_,_,_=>rfl
 | [],u::U,_,_,h=>absurd ((h u).2 (by simp)) (by simp)
 | t::T,[],_,_,h=>absurd ((h t).1 (by simp)) (by simp)
 | t::T,u::U,hT,hU,h=>by
  unfold Rise at hT hU
  rw [List.pairwise_cons] at hT hU
  have htu:t=u:=by
   rcases List.mem_cons.1 ((h t).1 (by simp)) with e|e
   ·exact e
   ·rcases List.mem_cons.1 ((h u).2 (by simp)) with e'|e'
    ·exact e'.symm
    ·have h1:=hT.1 u e';have h2:=hU.1 t e
     omega
  subst htu
  congr 1
  refine Xi7 hT.2 hU.2 fun x=>⟨fun hx=>?_,fun hx=>?_⟩
  ·rcases List.mem_cons.1 ((h x).1 (List.mem_cons_of_mem _ hx)) with e|e
   ·have:=hT.1 x hx;rw [e] at this;omega
   ·exact e
  ·rcases List.mem_cons.1 ((h x).2 (List.mem_cons_of_mem _ hx)) with e|e
   ·have:=hU.1 x hx;rw [e] at this;omega
   ·exact e
def tmN(f:Int→Int) : Nat→List Tm
 | 0=>[]
 | n+1=>if 0<(n:Int)∧f n≠0 then tmN f n++[⟨n,f n⟩] else tmN f n
theorem Xh8(f:Int→Int) : ∀ N:Nat,Rise (tmN f N)∧∀ t:Tm,t ∈ tmN f N↔0<t.m∧t.m<(N:Int)∧t.c=f t.m∧f t.m≠0
 | 0=>⟨List.Pairwise.nil,fun t=>by simp [tmN];omega⟩
 | n+1=>by
  obtain ⟨h1,h2⟩:=Xh8 f n
  unfold tmN
  by_cases hn:0<(n:Int)∧f n≠0
  ·rw [if_pos hn]
   refine ⟨?_,fun t=>?_⟩
   ·unfold Rise
    rw [List.pairwise_append]
    refine ⟨h1,List.pairwise_singleton _ _,fun x hx y hy=>?_⟩
    rw [List.mem_singleton.1 hy]
    exact ((h2 x).1 hx).2.1
   ·rw [List.mem_append,h2,List.mem_singleton]
    constructor
    ·rintro (⟨a,b,c⟩|rfl)
     ·exact ⟨a,by omega,c⟩
     ·exact ⟨hn.1,by show (n:Int)<_;omega,rfl,hn.2⟩
    ·rintro ⟨a,b,c,d⟩
     by_cases e:t.m=n
     ·right
      obtain ⟨m,c'⟩:=t
      simp only at e c
      rw [c,e]
     ·left
      exact ⟨a,by omega,c,d⟩
  ·rw [if_neg hn]
   refine ⟨h1,fun t=>?_⟩
   rw [h2]
   constructor
   ·rintro ⟨a,b,c⟩;exact ⟨a,by omega,c⟩
   ·rintro ⟨a,b,c,d⟩
    refine ⟨a,?_,c,d⟩
    by_cases e:t.m=n
    ·rw [e] at a d;exact absurd ⟨a,d⟩ hn
    ·omega
@[irreducible] def tms (f:Int→Int) : List Tm:=tmN f 16777216
theorem X2l(f:Int→Int) : IsT f (tms f):=by
 unfold tms
 exact ⟨(Xh8 f 16777216).1,(Xh8 f 16777216).2⟩
theorem IsT.eq{f:Int→Int}{T:List Tm}(h:IsT f T) : T=tms f:=Xi7 h.rise (X2l f).rise fun t=>(h.mem t).trans ((X2l f).mem t).symm
theorem Xi1{f:Int→Int}{lo hi:List Tm}{m v:Int}(hT:∃ old,tms f=lo++old++hi∧∀ t ∈ old,t.m=m)(h1:∀ t ∈ lo,t.m<m)(h2:∀ t ∈ hi,m<t.m)(hm:0<m)(hm2:m<16777216) :
  lo++(if v≠0 then [(⟨m,v⟩ : Tm)] else [])++hi=tms (upd f m v):=by
 obtain ⟨old,hT,ho⟩:=hT;have hI:=X2l f
 rw [hT] at hI
 have hr:=hI.rise
 unfold Rise at hr
 rw [List.pairwise_append,List.pairwise_append] at hr
 refine IsT.eq ⟨?_,fun t=>?_⟩
 ·unfold Rise
  rw [List.pairwise_append,List.pairwise_append]
  refine ⟨⟨hr.1.1,by split<;>simp,fun a ha b hb=>?_⟩,hr.2.1,fun a ha b hb=>?_⟩
  ·split at hb
   ·rw [List.mem_singleton.1 hb];exact h1 a ha
   ·cases hb
  ·rcases List.mem_append.1 ha with ha|ha
   ·exact Int.lt_trans (h1 a ha) (h2 b hb)
   ·split at ha
    ·rw [List.mem_singleton.1 ha];exact h2 b hb
    ·cases ha
 ·rw [List.mem_append,List.mem_append]
  by_cases e:t.m=m
  ·have e1:t ∉ lo:=fun h=>by have:=h1 t h;omega
   have e2:t ∉ hi:=fun h=>by have:=h2 t h;omega
   simp only [e1,e2,false_or,or_false,e,X9g]
   constructor
   ·intro h
    split at h
    ·rename_i hv
     rw [List.mem_singleton.1 h]
     exact ⟨hm,hm2,rfl,hv⟩
    ·cases h
   ·rintro ⟨_,_,h3,h4⟩
    rw [if_pos h4,List.mem_singleton]
    obtain ⟨m',c'⟩:=t
    simp only at e h3
    rw [e,h3]
  ·have e3:t ∉ old:=fun h=>e (ho t h)
   have e4:t ∉ (if v≠0 then [(⟨m,v⟩ : Tm)] else []):=fun h=>by
    split at h
    ·rw [List.mem_singleton.1 h] at e;exact e rfl
    ·cases h
   have:=hI.mem t
   rw [List.mem_append,List.mem_append] at this
   simp only [e3,or_false] at this
   simp only [e4,or_false,this,X4p e]
theorem Xn5(a:Int) : -8<a.tmod 8∧a.tmod 8<8:=by
 have h1:=Int.tmod_eq_emod (a:=a) (b:=8)
 split at h1<;>omega
theorem X6t(w0:World)(bV:Nat)(f:Int→Int)(b:MapF w0 bV f)(m:Int)(k:Int)(aA:PO f)(hk:-1000≤k∧k≤1000) : Ret Tryz.prog 51 [.map (some bV),vi m,vi k] w0 (fun v w=>v=.tuple #[]∧Kept bV w0.heap.size w0 w∧MapF w bV (padd f m k)):=by
 have aC:=b.lt;have aD:=aA m;have aE:=Xn5 (f m+k);refine enter Tryz.func51 rfl 16 rfl rfl ?_;intro a hf
 have hW:Kept bV w0.heap.size w0 w0:=Kept.refl _ _ _
 refine Zr hf<|Zm rfl<|Zm rfl<|Zm rfl<|Zm rfl<|Ze (Xbw (f:=f) rfl rfl Tryz.underlying60 b) ?_;refine Zm rfl<|Ze (Xu rfl rfl (by omega) (by omega))<|Ze (X5v rfl rfl rfl)<|Ze (Xu rfl rfl (by omega) (by omega))<|Ze (X5v rfl rfl rfl) ?_;refine Zo (Xy4 (f:=f) (i:=m) (j:=((((f m)+k).tmod 8)+8).tmod 8) rfl rfl rfl Tryz.underlying60 b) ?_;rintro _ w1 ⟨ho,c⟩;have aB:=b.nc;have hW:=hW.self ho
 have b:=c;clear c ho aB;refine Zn fun a hf=>?_;refine Xad hf (Xag rfl) ?_;exact ⟨rfl,hW,b.cong fun x=>by unfold padd;rw [Xu8]⟩
def oI(a b:Int) : Int:=bits .or .i64 a b
def exZ(r x y k:Int)(l:List Int)(f:Int→Int) : Nat→Int→Int
 | 0=>f
 | n+1=>padd (exZ r x y k l f n) (oI (oI (oI r x) y) (l.getD n 0)) (4*k)
def exY(r x k:Int)(l:List Int)(f:Int→Int) : Nat→Int→Int
 | 0=>f
 | j+1=>exZ r x (l.getD j 0) k l (padd (exY r x k l f j) (oI (oI r x) (l.getD j 0)) (-2*k)) j
def exX(r k:Int)(l:List Int)(f:Int→Int) : Nat→Int→Int
 | 0=>f
 | i+1=>exY r (l.getD i 0) k l (padd (exX r k l f i) (oI r (l.getD i 0)) k) i
theorem PO.exZ{f:Int→Int}(h:PO f)(r x y k:Int)(l:List Int) : ∀ n,PO (exZ r x y k l f n)
 | 0=>h
 | n+1=>(PO.exZ h r x y k l n).padd _ _
theorem PO.exY{f:Int→Int}(h:PO f)(r x k:Int)(l:List Int) : ∀ n,PO (exY r x k l f n)
 | 0=>h
 | n+1=>((PO.exY h r x k l n).padd _ _).exZ _ _ _ _ _ _
theorem PO.exX{f:Int→Int}(h:PO f)(r k:Int)(l:List Int) : ∀ n,PO (exX r k l f n)
 | 0=>h
 | n+1=>((PO.exX h r k l n).padd _ _).exY _ _ _ _ _
theorem Xa7{l:List Int}{i:Nat}(h:i<l.length) : l[i]? = some (l.getD i 0):=by
 rw [List.getD_eq_getElem?_getD,List.getElem?_eq_getElem h];rfl
def lows(m:Int) : List Int:=(setN m.toNat).map fun k=>((2^k:Nat) : Int)
def expP(f:Int→Int)(k:Int)(a:Af)(r:Int) : Int→Int:=
 if a.t=1 then exX r (-k) (lows a.m) (padd f r k) (lows a.m).length else exX r k (lows a.m) f (lows a.m).length
theorem PO.expP{f:Int→Int}(h:PO f)(k:Int)(a:Af)(r:Int) : PO (expP f k a r):=by
 unfold Proofs.YtiejkplemjkjoaaGreat.expP
 split
 ·exact (h.padd _ _).exX _ _ _ _
 ·exact h.exX _ _ _ _
theorem Xsn(q u:Nat)(h:2^q*(2*u+1)<2^62) : 2^q*(2*u+1) &&& (2^64-2^q*(2*u+1))=2^q:=by
 have hp:0<2^q:=Nat.two_pow_pos q
 have hx:2^q*(2*u+1)=2^q*(2*u)+(2^q-1)+1:=by rw [Nat.mul_add];omega
 have h64:2^q*(2*u+1)<2^64:=Nat.lt_of_lt_of_le h (by decide)
 have hq:q<64:=by
  rcases Nat.lt_or_ge q 64 with h'|h'
  ·exact h'
  ·have:=Nat.pow_le_pow_right (n:=2) (by decide) h'
   have h2:2^q≤2^q*(2*u+1):=Nat.le_mul_of_pos_right _ (by omega)
   omega
 apply Nat.eq_of_testBit_eq
 intro i
 rw [Nat.testBit_and]
 conv=>lhs;rhs;rw [hx]
 rw [Nat.testBit_two_pow_sub_succ (by have h65:=h64;rw [hx] at h65;omega),Nat.testBit_two_pow_mul_add _ (by omega),Nat.testBit_two_pow_mul,Nat.testBit_two_pow,Nat.testBit_two_pow_sub_one]
 rcases Nat.lt_trichotomy i q with h1|h1|h1
 ·simp [h1];omega
 ·subst h1
  simp [hq]
 ·have e1:¬ i<q:=by omega
  have e2:¬ q=i:=by omega
  have e3:i-q=(i-q-1)+1:=by omega
  rw [if_neg e1,decide_eq_false e2,e3,Nat.testBit_succ,Nat.testBit_succ]
  have e4:(2*u+1)/2=u:=by omega
  have e5:2*u/2=u:=by omega
  rw [e4,e5]
  cases u.testBit (i-q-1)<;>simp
theorem X3t(M:Nat) : (setN M).Pairwise (· < ·):=List.Pairwise.filter _ List.pairwise_lt_range
theorem Xcm{M q:Nat}{t:List Nat}(hM:M<2^62)(h:setN M=q::t) : ∃ u,M=2^q*(2*u+1):=by
 have hr:=X3t M
 rw [h,List.pairwise_cons] at hr
 have hq:M.testBit q=true:=(X1j hM).1 (by rw [h];simp)
 have hlow:∀ i,i<q→M.testBit i=false:=fun i hi=>by
  cases e:M.testBit i with
  | false=>rfl
  | true=>
   have:=(X1j hM).2 e
   rw [h] at this
   rcases List.mem_cons.1 this with e2|e2
   ·omega
   ·have:=hr.1 i e2;omega
 have hmod:M % 2^q=0:=by
  apply Nat.eq_of_testBit_eq
  intro i
  rw [Nat.testBit_mod_two_pow,Nat.zero_testBit]
  by_cases hi:i<q
  ·rw [hlow i hi];simp
  ·simp [hi]
 have hodd:M/2^q % 2=1:=by
  rw [Nat.testBit_eq_decide_div_mod_eq] at hq
  exact of_decide_eq_true hq
 refine ⟨M/2^q/2,?_⟩
 have h1:=Nat.div_add_mod M (2^q)
 have h2:2*(M/2^q/2)+1=M/2^q:=by omega
 rw [h2];omega
theorem Xcz{M q:Nat}{t:List Nat}(hM:M<2^62)(h:setN M=q::t) : setN (M ^^^ 2^q)=t:=by
 have hr:=X3t M
 rw [h,List.pairwise_cons] at hr
 have hq:M.testBit q=true:=(X1j hM).1 (by rw [h];simp)
 have e:setN (M ^^^ 2^q)=(setN M).filter fun i=>i != q:=by
  unfold setN
  rw [List.filter_filter]
  refine List.filter_congr fun i _=>?_
  rw [Nat.testBit_xor,Nat.testBit_two_pow]
  by_cases hi:q=i
  ·subst hi;simp [hq]
  ·have:(i != q)=true:=by simpa using fun e=>hi e.symm
   rw [decide_eq_false hi,this];simp
 rw [e,h,List.filter_cons,if_neg (by simp),List.filter_eq_self.2]
 intro i hi
 have:=hr.1 i hi
 simp;omega
theorem Vx{P:Program}{o:Oper}{n:Nat}{e:List (Nat×Value)}{w:World}{k:IntKind}{a b:Int}(h:EvW P o n e w (.int k a))(e2:a=b) : EvW P o n e w (.int k b):=e2▸h
theorem Xsy{M:Nat}(h0:0<M)(h:M<2^62) : bits .and .i64 (M:Int) (wr (-(M:Int)))=((M &&& (2^64-M) : Nat) : Int):=by
 have hw:wr (-(M:Int)) = -(M:Int):=by
  rw [show (2:Nat)^62=4611686018427387904 from by decide] at h
  exact IntWalk.i64_in _ ⟨by omega,by omega⟩
 rw [hw]
 show IntKind.i64.wrap ((BitVec.ofInt 64 (M:Int) &&& BitVec.ofInt 64 (-(M:Int))).toNat:Int)=_
 have h64:M<2^64:=Nat.lt_of_lt_of_le h (by decide)
 have e1:(BitVec.ofInt 64 (-(M:Int))).toNat=2^64-M:=by
  rw [BitVec.toNat_ofInt]
  have:(-(M:Int)) % ((2^64:Nat) : Int)=((2^64-M:Nat) : Int):=by omega
  rw [this];rfl
 rw [X3a,BitVec.toNat_and,X2v h,e1,X4s (Xh3 h)]
theorem Xo9{M q:Nat}{t:List Nat}(hM:M<2^62)(h:setN M=q::t) : bits .and .i64 (M:Int) (wr (-(M:Int)))=((2^q:Nat) : Int):=by
 obtain ⟨u,hu⟩:=Xcm hM h
 have h0:0<M:=by
  rw [hu];exact Nat.mul_pos (Nat.two_pow_pos q) (by omega)
 rw [Xsy h0 hM]
 subst hu
 rw [Xsn q u hM]
theorem X6r{M:Nat}(hM:M<2^62)(h:M≠0) : ∃ q t,setN M=q::t:=by
 cases e:setN M with
 | cons q t=>exact ⟨q,t,rfl⟩
 | nil=>
  refine absurd (Nat.eq_of_testBit_eq fun i=>?_) h
  rw [Nat.zero_testBit]
  cases e2:M.testBit i with
  | false=>rfl
  | true=>have:=(X1j hM).2 e2;rw [e] at this;cases this
theorem Xvy{M q:Nat}{t:List Nat}(hM:M<2^62)(h:setN M=q::t) : 2^q<2^62:=by
 obtain ⟨u,hu⟩:=Xcm hM h;exact Nat.lt_of_le_of_lt (by rw [hu];exact Nat.le_mul_of_pos_right _ (by omega)) hM
theorem Xo3(M:Nat) : (setN M).length≤62:=Nat.le_trans (List.length_filter_le _ _) (by simp)
theorem X43(m:Int) : (lows m).length≤62:=by rw [lows,List.length_map];exact Xo3 _
theorem Xs8{m:Int}{L:List Int}{M:Nat}(h:lows m=L++(setN M).map fun k=>((2^k:Nat) : Int)) : L.length≤62:=by
 have:=X43 m
 rw [h,List.length_append] at this
 omega
theorem Xrt{m:Int}{L:List Int}{M:Nat}(h:lows m=L++(setN M).map fun k=>((2^k:Nat) : Int))(h0:M=0) : lows m=L:=by
 rw [h,h0];simp [setN]
theorem Y0h(o:World)(m:Nat)(hm:m<2^62) : Ret Tryz.prog 83 [vi (m:Int)] o (fun v w=>∃ A c,v=.slice A (lows (m:Int)).length c∧Own w o.heap.size 3 1 encI A c (lows (m:Int))∧Below o.heap.size o w):=by
 refine enter Tryz.func83 rfl 20 rfl rfl ?_;intro a b
 have f:=bz o
 refine Zs b fun _ aL=>?_;refine Za rfl<|Zx aL fun a b _ aM=>?_;refine Zf (Xb (k:=0) (vs:=[]) (zs:=[]) rfl X0f X2m rfl rfl) ?_;rintro _ w1 ⟨b4,rfl,aN,hE,aO⟩;have aC:=Nat.le_trans f.size aN;have f:=btr f hE;refine Za rfl<|ZX aM fun a b _ aP=>?_;refine wp_block<|X06 (σ:=Nat×(List Int)) (fun (s:Nat×(List Int)) (a:Act) (w:World)=>match s with|(M,L)=>∃ A7 c7,Fr a 20 [(0,vi (M:Int)),(3,.slice A7 L.length c7)]∧(M<2^62)∧(lows (m:Int)=L++((setN M).map fun k=>((2^k:Nat) : Int)))∧Own w o.heap.size 3 1 encI A7 c7 L∧Below o.heap.size o w) (fun (s:Nat×(List Int))=>match s with|(M,L)=>(setN M).length) (m,[]) ?_ ?_
 ·exact ⟨some ⟨b4,0,none⟩,0,b.sb,hm,(by simp [lows]),(Own.empty aO aC),f⟩
 rintro ⟨M,L⟩ a w2 ⟨A7,c7,b,hM,hL,g,f⟩;refine wp_seq_k fun _ aQ=>?_;refine Zs b fun _ aR=>?_;refine Zm rfl<|Ze (X4v rfl rfl)<|Zt aR fun a b=>?_
 refine Xg b rfl (fun d=>?_) (fun d=>?_)
 ·have aA:=d
  obtain ⟨q9,t9,i⟩:=X6r hM (by have:=d;intro e;subst e;simp at this)
  have aD:=Xvy hM i;have aE:=Xcz hM i;have aX:=Xs8 hL;refine wp_skip<|aQ _ _<|wp_block<|Zs b fun _ aF=>?_;refine Zm rfl<|Zm rfl<|Ze (Xr3 rfl)<|Ze (Vx (X69 rfl rfl) (Xo9 hM i))<|Za rfl ?_;refine Zx aF fun a b _ aG=>?_;refine Zm rfl<|Zm rfl<|Zf (Xb (k:=1) (vs:=[vi ((2^q9:Nat) : Int)]) (zs:=[vi ((2^q9:Nat) : Int)]) rfl X0f X2m rfl rfl) ?_;rintro _ w3 ⟨aY,rfl,p,hE,j⟩;have aS:=Nat.le_trans f.size p;have n:=g.away p;have g:=g.below hE;have f:=btr f hE;refine Zf (X1e (enc:=encI) (l:=(L)) (l2:=([((2^q9:Nat) : Int)])) (B0:=o.heap.size) rfl rfl X0f X2m X0h X8w g (Rd.of_blk j rfl _ j.lt) (by simp only [maxLen];simp;omega) (by simp;omega) f.size) ?_;rintro _ w4 ⟨aT,aU,rfl,aH,hg,aI⟩
  have q:Own _ o.heap.size 3 1 encI _ _ (L):=g
  have aB:=aI _ j.lt n;clear aI;have f:=Below.app f q hg (Nat.le_refl _) f.size;clear q hg;refine Za rfl<|Zt aG fun a b=>?_;refine Zr b<|Zm rfl<|Zm rfl<|Ze (Vx (X6b rfl rfl) (X17 hM aD))<|Za rfl ?_;refine Zn fun a b=>?_;refine Xa<|Xd ?_;exact ⟨(M ^^^ 2^q9,L++[((2^q9:Nat) : Int)]),⟨aT,aU,b.sb,(Nat.xor_lt_two_pow hM aD),(by rw [aE,hL,i];simp),aH,f⟩,(by dsimp only;rw [aE,i];simp)⟩
 have aA:=d
 have aW:M=0:=by have:=d;simpa using this
 have aJ:=Xrt hL aW;refine wp_exit<|Xi<|Xi<|X03 ?_;refine aP _ _<|Zs b fun _ aK=>?_;refine Zm rfl<|Za rfl<|Zt aK fun a b=>?_
 refine wp_ret (X3 b (Xz b rfl rfl) ?_)
 rw [aJ];exact ⟨A7,c7,rfl,g,f⟩
abbrev Sm:=Int×Int
def foldA(L:List Sm)(f:Int→Int) : Int→Int:=L.foldl (fun f p=>padd f p.1 p.2) f
def sumA(L:List Sm)(x:Int) : Int:=(L.map fun p=>if p.1=x then p.2 else 0).sum
theorem Xl1(f:Int→Int) : foldA [] f=f:=rfl
theorem X2x(L M:List Sm)(f:Int→Int) : foldA (L++M) f=foldA M (foldA L f):=List.foldl_append ..
theorem Xkv(L:List Sm)(m k:Int)(f:Int→Int) : foldA (L++[(m,k)]) f=padd (foldA L f) m k:=by rw [X2x];rfl
theorem PO.foldA:∀ (L:List Sm) {f:Int→Int},PO f→PO (foldA L f)
 | [],_,h=>h
 | p::L,_,h=>PO.foldA L (h.padd p.1 p.2)
theorem X6n(L M:List Sm)(x:Int) : sumA (L++M) x=sumA L x+sumA M x:=by simp [sumA]
theorem X59(p:Sm)(L:List Sm)(x:Int) : sumA (p::L) x=(if p.1=x then p.2 else 0)+sumA L x:=by simp [sumA]
theorem Xt0(f:Int→Int)(h:PO f)(m k x:Int) : padd f m k x=(f x+if m=x then k else 0) % 8:=by
 unfold padd upd
 by_cases e:x=m
 ·subst e;simp
 ·have:=h x
  rw [if_neg e,if_neg (Ne.symm e)];omega
theorem X33:∀ (L:List Sm) {f:Int→Int},PO f→∀ x,foldA L f x=(f x+sumA L x) % 8
 | [],f,h,x=>by
  have:=h x
  show f x=_
  simp [sumA];omega
 | p::L,f,h,x=>by
  show foldA L (padd f p.1 p.2) x=_
  rw [X33 L (h.padd p.1 p.2),Xt0 f h,X59]
  omega
theorem Xmv{L M:List Sm}{f:Int→Int}(h:PO f)(e:∀ x,sumA L x=sumA M x) : foldA L f=foldA M f:=by
 funext x
 rw [X33 L h,X33 M h,e x]
theorem X9n{α:Type}(g:α→List Sm)(x:Int) : ∀ l:List α,sumA (l.flatMap g) x=(l.map fun a=>sumA (g a) x).sum
 | []=>rfl
 | a::l=>by rw [List.flatMap_cons,X6n,X9n g x l];simp
def lowT(a:Af) : List Int:=lows a.m++(if a.t=1 then [0] else [])
def sumI(u v:Af) : List Sm:=(lowT u).flatMap fun x=>(lowT v).map fun y=>(oI x y,4)
def sumS(u v:Af) : List Sm:=((lows u.m).flatMap fun x=>((lows v.m).map fun y=>(oI x y,4))++[(x,4*v.t)])++((lows v.m).map fun y=>(y,4*u.t))++[(0,4*u.t*v.t)]
theorem X95{m x:Int}(h:x ∈ lows m) : ∃ n:Nat,n<2^62∧x=n:=by
 unfold lows at h
 obtain ⟨k,hk,rfl⟩:=List.mem_map.1 h
 refine ⟨2^k,X37 ?_,rfl⟩
 unfold setN at hk
 exact List.mem_range.1 (List.mem_filter.1 hk).1
theorem Xkm{n:Nat}(h:n<2^62) : oI n 0=n:=by
 have:=X1y h (show 0<2^62 by decide)
 simpa [oI] using this
theorem Xko{n:Nat}(h:n<2^62) : oI 0 n=n:=by
 have:=X1y (show 0<2^62 by decide) h
 simpa [oI] using this
theorem Xog{f:Int→Int}(h:PO f){u v:Af}(hu:u.t=0∨u.t=1)(hv:v.t=0∨v.t=1) : foldA (sumI u v) f=foldA (sumS u v) f:=by
 refine Xmv h fun x=>?_
 have hR:∀ l:List Int,(∀ y ∈ l,∃ n:Nat,n<2^62∧y=n)→∀ a:Int,(∃ n:Nat,n<2^62∧a=n)→sumA ((l++(if v.t=1 then [0] else [])).map fun y=>(oI a y,4)) x=sumA (l.map fun y=>(oI a y,4)) x+sumA [(a,4*v.t)] x:=by
  rintro l _ a ⟨n,hn,rfl⟩
  rw [List.map_append,X6n]
  congr 1
  rcases hv with hv|hv<;>rw [hv]
  ·simp [sumA]
  ·simp [sumA,Xkm hn]
 have hV:=fun y hy=>X95 (m:=v.m) (x:=y) hy
 have hU:=fun y hy=>X95 (m:=u.m) (x:=y) hy
 unfold sumI sumS
 rw [X6n,X6n,X9n,X9n]
 unfold lowT
 rw [List.map_append,List.sum_append]
 have e1:((lows u.m).map fun a=>sumA ((lows v.m++(if v.t=1 then [0] else [])).map fun y=>(oI a y,4)) x)=(lows u.m).map fun a=>sumA (((lows v.m).map fun y=>(oI a y,4))++[(a,4*v.t)]) x:=by
  refine List.map_congr_left fun a ha=>?_
  rw [hR _ hV a (hU a ha),X6n]
 rw [e1]
 rcases hu with hu|hu
 ·have e2:sumA ((lows v.m).map fun y=>(y,4*u.t)) x=0:=by
   rw [hu]
   unfold sumA
   rw [List.map_map]
   have:∀ l:List Int,(l.map ((fun p:Sm=>if p.1=x then p.2 else 0) ∘ fun y=>(y,4*0))).sum=0:=by
    intro l
    induction l with
    | nil=>rfl
    | cons a l ih=>rw [List.map_cons,List.sum_cons,ih];simp
   exact this _
  rw [e2,hu]
  simp [sumA]
 ·rw [if_pos hu,hu,List.map_singleton,List.sum_singleton,hR _ hV 0 ⟨0,by decide,rfl⟩]
  have e2:sumA ((lows v.m).map fun y=>(oI 0 y,4)) x=sumA ((lows v.m).map fun y=>(y,4*1)) x:=by
   congr 1
   refine List.map_congr_left fun y hy=>?_;obtain ⟨n,hn,rfl⟩:=hV y hy
   rw [Xko hn];rfl
  rw [e2]
  simp only [Int.mul_one]
  omega
structure TurnS (S:Nat→Prop) (w w':World) : Prop where
 os:w'.os=w.os
 tape:w'.tape=w.tape
 output:w'.output=w.output
 size:w.heap.size≤w'.heap.size
 block:∀ k,k<w.heap.size→¬ S k→w'.heap[k]? = w.heap[k]?
theorem TurnS.refl(S:Nat→Prop)(w:World) : TurnS S w w:=⟨rfl,rfl,rfl,Nat.le_refl _,fun _ _ _=>rfl⟩
def ownB(A:Option Addr) : Option Nat:=(Value.slice A 0 0).ownBlock
theorem Xeh(A:Option Addr)(n c:Nat) : (Value.slice A n c).ownBlock=ownB A:=Xak A n 0 c 0
def S3(b m:Nat)(A:Option Addr)(k:Nat) : Prop:=k=b∨k=m∨ownB A=some k
section
variable {S S' : Nat → Prop} {w0 w w' : World} {b : Nat} {A : Option Addr} {n c : Nat}
theorem tsbel(h:TurnS S w0 w)(hE:Below w.heap.size w w') : TurnS S w0 w':=
 ⟨hE.os.trans h.os,hE.tape.trans h.tape,hE.output.trans h.output,Nat.le_trans h.size hE.size,fun k hk h1=>(hE.block k (Nat.lt_of_lt_of_le hk h.size)).trans (h.block k hk h1)⟩
theorem tsonly(h:TurnS S w0 w)(ho:Only b w w')(hb:S b∨w0.heap.size≤b) : TurnS S w0 w':=
 ⟨ho.os.trans h.os,ho.tape.trans h.tape,ho.output.trans h.output,by rw [ho.size];exact h.size,fun k hk h1=>(ho.block k (fun e=>by
  subst e
  rcases hb with hb|hb
  ·exact h1 hb
  ·omega)).trans (h.block k hk h1)⟩
theorem tsrow(h:TurnS S w0 w)(hg:w.grownBy w' (Value.slice A n c).ownBlock)(hs:∀ k,ownB A=some k→S k∨w0.heap.size≤k) : TurnS S w0 w':=
 ⟨hg.os.trans h.os,hg.tape.trans h.tape,hg.output.trans h.output,Nat.le_trans h.size hg.size,fun k hk h1=>(hg.block k (Nat.lt_of_lt_of_le hk h.size) (fun e=>by
  rw [Xeh] at e
  rcases hs k e.symm with hb|hb
  ·exact h1 hb
  ·omega)).trans (h.block k hk h1)⟩
theorem tstr(h:TurnS S w0 w)(k:TurnS S' w w')(hs:∀ k,S' k→S k∨w0.heap.size≤k) : TurnS S w0 w':=
 ⟨k.os.trans h.os,k.tape.trans h.tape,k.output.trans h.output,Nat.le_trans h.size k.size,fun q hq h1=>(k.block q (Nat.lt_of_lt_of_le hq h.size) (fun e=>by
  rcases hs q e with hb|hb
  ·exact h1 hb
  ·omega)).trans (h.block q hq h1)⟩
theorem Below.ts{B:Nat}(h:Below B w0 w)(k:TurnS S w w')(hs:∀ k,S k→B≤k)(hB:B≤w.heap.size) : Below B w0 w':=
 h.trans ⟨k.os,k.tape,k.output,k.size,fun q hq=>k.block q (Nat.lt_of_lt_of_le hq hB) fun e=>by have:=hs q e;omega⟩
end
section
variable {α : Type} {w : World} {B0 : Nat} {E : TypeId} {enc : α → List Value} {A : Option Addr} {l : List α} {sz c : Nat}
theorem S3.row{b m:Nat}(k:Nat)(h:ownB A=some k) : S3 b m A k:=.inr (.inr h)
theorem Xuz(h:Own w B0 E sz enc A c l){k:Nat}(hk:ownB A=some k) : B0≤k:=(h.block (k:=k) (by rw [Xeh];exact hk)).1
theorem X2j(ho:Own w B0 E sz enc A c l)(hsz:∀ x,(enc x).length=sz){k:Nat}{u:α}(hk:l[k]? = some u)(j:Nat){m:Nat}(hm:k*sz+j=m) : At w (oA A m) ((enc u).drop j):=by
 subst hm
 rcases ho.2 with ⟨e1,e2⟩|⟨b,cap,cur,e1,e2,e3,e4,e5,e6,e7⟩
 ·have:l=[]:=List.eq_nil_of_length_eq_zero e2
  rw [this] at hk;cases hk
 ·injection e1 with e1 _ e1'
  obtain ⟨p,hp,h⟩:=Rd.at hsz ho.rd hk
  rw [e1] at hp ⊢
  injection hp with hp
  subst hp
  intro i v hv
  rw [List.getElem?_drop] at hv
  have h2:=h _ v hv
  show w.cell? ((⟨b,k*sz+j,none⟩ : Addr).add i)=_
  rw [X1w] at h2 ⊢
  rw [X1w] at h2
  rw [← h2]
  congr 2
  omega
end
structure Ps where (ins vars root phase:Int) (ts:List Tm) (out:List Af)
def psZ:Ps:=⟨0,0,0,0,[],[]⟩
structure Pst where (f:Int→Int) (v:Nat) (out:List Af)
def afZ:Af:=⟨0,0⟩
def aAt(l:List Af)(i:Int) : Af:=l.getD i.toNat afZ
def xI(a b:Int) : Int:=bits .xor .i64 a b
def aXor(a b:Af) : Af:=⟨xI a.m b.m,xI a.t b.t⟩
def rotC(k:Int) : Int:=if k=4 then 4 else if k=5 then 2 else if k=6 then 6 else if k=7 then 1 else if k=8 then 7 else 0
def varA(n:Nat) : Af:=⟨((2^n:Nat) : Int),0⟩
def psStep(n:Nat)(s:Pst)(g:Gt) : Option Pst:=
 if g.k=1 then (if 24≤n+s.v then none else some ⟨foldA (sumS (aAt s.out g.a) (varA (n+s.v))) s.f,s.v+1,s.out.set g.a.toNat (varA (n+s.v))⟩)
 else if g.k=2 then some ⟨s.f,s.v,s.out.set g.a.toNat (aXor (aAt s.out g.a) ⟨0,1⟩)⟩
 else if g.k=3 then some ⟨expP (padd s.f 0 2) 4 (aAt s.out g.a) 0,s.v,s.out.set g.a.toNat (aXor (aAt s.out g.a) ⟨0,1⟩)⟩
 else if g.k=9 then some ⟨s.f,s.v,s.out.set g.b.toNat (aXor (aAt s.out g.a) (aAt s.out g.b))⟩
 else if g.k=10 then some ⟨foldA (sumS (aAt s.out g.a) (aAt s.out g.b)) s.f,s.v,s.out⟩
 else if g.k=11 then some ⟨s.f,s.v,(s.out.set g.a.toNat (aAt s.out g.b)).set g.b.toNat (aAt s.out g.a)⟩
 else if g.k=12 then some ⟨padd s.f 0 1,s.v,s.out⟩
 else some ⟨expP s.f (rotC g.k) (aAt s.out g.a) 0,s.v,s.out⟩
def psAll(n:Nat) : List Gt→Pst→Option Pst
 | [],s=>some s
 | g::l,s=>(psStep n s g).bind (psAll n l)
def varsN(n:Nat) : List Af:=(List.range n).map varA
def ps0(n:Nat) : Pst:=⟨fun _=>0,0,varsN n⟩
def psC(c:Cx) : Option Ps:=(psAll c.n.toNat c.gs (ps0 c.n.toNat)).map fun s=>⟨c.n,s.v,s.v,s.f 0,tms s.f,s.out⟩
theorem Xc2(n:Nat)(g:Gt) : ∀ (l:List Gt) (s:Pst),psAll n (l++[g]) s=(psAll n l s).bind fun t=>psStep n t g
 | [],s=>by
  show (psStep n s g).bind (psAll n [])=psStep n s g
  cases psStep n s g<;>rfl
 | h::l,s=>by
  show (psStep n s h).bind (psAll n (l++[g]))=((psStep n s h).bind (psAll n l)).bind _
  cases psStep n s h with
  | none=>rfl
  | some t=>exact Xc2 n g l t
def Mk(m:Int) : Prop:=0≤m∧m<16777216
def AO(a:Af) : Prop:=Mk a.m∧(a.t=0∨a.t=1)
structure PsOk (n:Nat) (s:Pst) : Prop where
 po:PO s.f
 len:s.out.length=n
 all:∀ a ∈ s.out,AO a
 vs:n+s.v≤24
theorem Mk.nat{m:Int}(h:Mk m) : ∃ x:Nat,x<2^24∧m=x:=⟨m.toNat,by have:=h.1;have:=h.2;omega,by have:=h.1;omega⟩
theorem Mk.of{x:Nat}(h:x<2^24) : Mk (x:Int):=⟨by omega,by omega⟩
theorem X0x{x:Nat}(h:x<2^24) : x<2^62:=Nat.lt_of_lt_of_le h (by decide)
theorem Mk.or{a b:Int}(ha:Mk a)(hb:Mk b) : Mk (oI a b):=by
 obtain ⟨x,hx,rfl⟩:=ha.nat;obtain ⟨y,hy,rfl⟩:=hb.nat
 unfold oI
 rw [X1y (X0x hx) (X0x hy)]
 exact Mk.of (Nat.or_lt_two_pow hx hy)
theorem Mk.xor{a b:Int}(ha:Mk a)(hb:Mk b) : Mk (xI a b):=by
 obtain ⟨x,hx,rfl⟩:=ha.nat;obtain ⟨y,hy,rfl⟩:=hb.nat
 unfold xI
 rw [X17 (X0x hx) (X0x hy)]
 exact Mk.of (Nat.xor_lt_two_pow hx hy)
theorem Xom{a b:Int}(ha:a=0∨a=1)(hb:b=0∨b=1) : xI a b=if a=b then 0 else 1:=by
 rcases ha with rfl|rfl<;>rcases hb with rfl|rfl<;>rfl
theorem Xrw{m:Int}(h:Mk m) : xI m 0=m:=by
 obtain ⟨x,hx,rfl⟩:=h.nat
 have:=X17 (X0x hx) (show 0<2^62 by decide)
 simpa [xI] using this
theorem AO.xor{a b:Af}(ha:AO a)(hb:AO b) : AO (aXor a b):=⟨ha.1.xor hb.1,by
 show xI a.t b.t=0∨xI a.t b.t=1
 rw [Xom ha.2 hb.2];split<;>simp⟩
theorem Mk.zero:Mk 0:=⟨by omega,by omega⟩
theorem AO.z:AO afZ:=⟨Mk.zero,.inl rfl⟩
theorem AO.one:AO ⟨0,1⟩:=⟨Mk.zero,.inr rfl⟩
theorem AO.var{n:Nat}(h:n<24) : AO (varA n):=⟨Mk.of (Nat.pow_lt_pow_right (by decide) h),.inl rfl⟩
theorem AO.at{l:List Af}(h:∀ a ∈ l,AO a)(i:Int) : AO (aAt l i):=by
 unfold aAt
 rw [List.getD_eq_getElem?_getD]
 cases e:l[i.toNat]? with
 | none=>exact AO.z
 | some a=>exact h a (List.mem_of_getElem? e)
theorem X34{α:Type}{p:α→Prop}{l:List α}{k:Nat}{x:α}(h:∀ a ∈ l,p a)(hx:p x) : ∀ a ∈ l.set k x,p a:=fun a ha=>by
 rcases List.mem_or_eq_of_mem_set ha with h1|rfl
 ·exact h a h1
 ·exact hx
theorem PsOk.zero{n:Nat}(h:n≤5) : PsOk n (ps0 n):=by
 refine ⟨PO.zero,by simp [ps0,varsN],fun a ha=>?_,by show n+0≤24;omega⟩
 simp only [ps0,varsN,List.mem_map,List.mem_range] at ha
 obtain ⟨k,hk,rfl⟩:=ha;exact AO.var (by omega)
theorem PsOk.step{n:Nat}{s t:Pst}{g:Gt}(h:PsOk n s)(e:psStep n s g=some t) : PsOk n t:=by
 have hu:=AO.at h.all g.a;have hv:=AO.at h.all g.b
 unfold psStep at e
 split at e
 ·split at e
  ·cases e
  ·injection e with e;subst e
   exact ⟨PO.foldA _ h.po,by simp [h.len],X34 h.all (AO.var (by omega)),by show n+(s.v+1)≤24;omega⟩
 ·split at e
  ·injection e with e;subst e
   exact ⟨h.po,by simp [h.len],X34 h.all (hu.xor AO.one),h.vs⟩
  ·split at e
   ·injection e with e;subst e
    exact ⟨(h.po.padd _ _).expP _ _ _,by simp [h.len],X34 h.all (hu.xor AO.one),h.vs⟩
   ·split at e
    ·injection e with e;subst e
     exact ⟨h.po,by simp [h.len],X34 h.all (hu.xor hv),h.vs⟩
    ·split at e
     ·injection e with e;subst e
      exact ⟨PO.foldA _ h.po,h.len,h.all,h.vs⟩
     ·split at e
      ·injection e with e;subst e
       exact ⟨h.po,by simp [h.len],X34 (X34 h.all hv) hu,h.vs⟩
      ·split at e
       ·injection e with e;subst e
        exact ⟨h.po.padd _ _,h.len,h.all,h.vs⟩
       ·injection e with e;subst e
        exact ⟨h.po.expP _ _ _,h.len,h.all,h.vs⟩
theorem PsOk.fold{n:Nat} : ∀ (l:List Gt) {s t:Pst},PsOk n s→psAll n l s=some t→PsOk n t
 | [],s,t,h,e=>by injection e with e;subst e;exact h
 | g::l,s,t,h,e=>by
  have e:(psStep n s g).bind (psAll n l)=some t:=e
  cases h1:psStep n s g with
  | none=>rw [h1] at e;cases e
  | some u=>rw [h1] at e;exact PsOk.fold l (h.step h1) e
def onA(x:Nat) : Nat:=(x/2 &&& 6148914691236517205)+(x &&& 6148914691236517205)
def onB(x:Nat) : Nat:=(x/4 &&& 3689348814741910323)+(x &&& 3689348814741910323)
def onC(x:Nat) : Nat:=(x/16+x) &&& 1085102592571150095
def onD(x:Nat) : Nat:=
 let d:=x+x/256
 let e:=d+d/65536
 (e+e/4294967296) &&& 127
def popS(x:Nat) : Nat:=onD (onC (onB (onA x)))
def on8a(y:Nat) : Nat:=(y/2 &&& 85)+(y &&& 85)
def on8b(y:Nat) : Nat:=(y/4 &&& 51)+(y &&& 51)
def on8c(y r:Nat) : Nat:=(y/16+y+16*r) &&& 15
def pop8(y:Nat) : Nat:=((List.range 8).filter y.testBit).length
def chkP:Bool:=(List.range 256).all fun y=>(List.range 2).all (fun r=>(y/2+128*r) &&& 85==y/2 &&& 85)&&decide (on8a y<256)
 && (List.range 4).all (fun r=>(y/4+64*r) &&& 51==y/4 &&& 51)&&decide (on8b (on8a y)<69)&&decide (on8b (on8a y) % 16≤4)&&(List.range 5).all (fun r=>on8c (on8b (on8a y)) r==pop8 y)&&decide (pop8 y≤8)
theorem Xkf:chkP=true:=by kernel_rfl
theorem X2w{y:Nat}(h:y<256) : (∀ r,r<2→(y/2+128*r) &&& 85=y/2 &&& 85)∧on8a y<256∧(∀ r,r<4→(y/4+64*r) &&& 51=y/4 &&& 51)∧on8b (on8a y)<69∧on8b (on8a y) % 16≤4∧(∀ r,r<5→on8c (on8b (on8a y)) r=pop8 y)∧pop8 y≤8:=by
 have hc:=Xkf
 simp only [chkP,List.all_eq_true,List.mem_range,Bool.and_eq_true,beq_iff_eq,decide_eq_true_eq] at hc
 obtain ⟨⟨⟨⟨⟨⟨h1,h2⟩,h3⟩,h4⟩,h5⟩,h6⟩,h7⟩:=hc y h;exact ⟨h1,h2,h3,h4,h5,h6,h7⟩
theorem X9l{lo mlo:Nat}(hi mhi:Nat)(h1:lo<256)(h2:mlo<256) : (lo+256*hi) &&& (mlo+256*mhi)=(lo &&& mlo)+256*(hi &&& mhi):=by
 have hl:lo &&& mlo<2^8:=Nat.lt_of_le_of_lt Nat.and_le_left h1
 apply Nat.eq_of_testBit_eq
 intro i
 rw [Nat.testBit_and,Nat.add_comm lo,Nat.add_comm mlo,Nat.add_comm (lo &&& mlo),show (256:Nat)=2^8 from rfl,Nat.testBit_two_pow_mul_add _ h1,Nat.testBit_two_pow_mul_add _ h2,Nat.testBit_two_pow_mul_add _ hl]
 split
 ·rw [Nat.testBit_and]
 ·rw [Nat.testBit_and]
theorem Xc4{x0 x1 x2 m M:Nat}(h0:x0<256)(h1:x1<256)(h2:x2<256)(hm:m<256)(hM:M=m+256*(m+256*(m+256*(M/16777216)))) : (x0+256*(x1+256*x2)) &&& M=(x0 &&& m)+256*((x1 &&& m)+256*(x2 &&& m)):=by
 rw [hM,X9l _ _ h0 hm,X9l _ _ h1 hm,show x2=x2+256*0 from by omega,X9l _ _ h2 hm,Nat.zero_and]
 simp
theorem Y1i{x0 x1 x2:Nat}(h0:x0<256)(h1:x1<256)(h2:x2<256) : onA (x0+256*(x1+256*x2))=on8a x0+256*(on8a x1+256*on8a x2):=by
 unfold onA
 have e:(x0+256*(x1+256*x2))/2=(x0/2+128*(x1 % 2))+256*((x1/2+128*(x2 % 2))+256*(x2/2)):=by omega
 rw [e,Xc4 (by omega) (by omega) (by omega) (show 85<256 by decide) rfl,Xc4 h0 h1 h2 (show 85<256 by decide) rfl,(X2w h0).1 _ (by omega),(X2w h1).1 _ (by omega)]
 unfold on8a
 omega
theorem Y10{x0 x1 x2:Nat}(h0:x0<256)(h1:x1<256)(h2:x2<256) : onB (x0+256*(x1+256*x2))=on8b x0+256*(on8b x1+256*on8b x2):=by
 unfold onB
 have e:(x0+256*(x1+256*x2))/4=(x0/4+64*(x1 % 4))+256*((x1/4+64*(x2 % 4))+256*(x2/4)):=by omega
 rw [e,Xc4 (by omega) (by omega) (by omega) (show 51<256 by decide) rfl,Xc4 h0 h1 h2 (show 51<256 by decide) rfl,(X2w h0).2.2.1 _ (by omega),(X2w h1).2.2.1 _ (by omega)]
 unfold on8b
 omega
theorem Y0u{x0 x1 x2:Nat}(h0:x0<256)(h1:x1<256)(h2:x2<256) : onC (on8b (on8a x0)+256*(on8b (on8a x1)+256*on8b (on8a x2)))=pop8 x0+256*(pop8 x1+256*pop8 x2):=by
 obtain ⟨_,_,_,c0,d0,e0,_⟩:=X2w h0;obtain ⟨_,_,_,c1,d1,e1,_⟩:=X2w h1;obtain ⟨_,_,_,c2,d2,e2,_⟩:=X2w h2
 have k0:=e0 (on8b (on8a x1) % 16) (by omega)
 have k1:=e1 (on8b (on8a x2) % 16) (by omega)
 have k2:=e2 0 (by omega)
 generalize on8b (on8a x0)=B0 at *
 generalize on8b (on8a x1)=B1 at *
 generalize on8b (on8a x2)=B2 at *
 unfold onC
 have e:(B0+256*(B1+256*B2))/16+(B0+256*(B1+256*B2))=(B0/16+B0+16*(B1 % 16))+256*((B1/16+B1+16*(B2 % 16))+256*(B2/16+B2+16*0)):=by omega
 rw [e,Xc4 (by omega) (by omega) (by omega) (show 15<256 by decide) rfl]
 unfold on8c at k0 k1 k2
 rw [k0,k1,k2]
theorem Y0y{p0 p1 p2:Nat}(h0:p0≤8)(h1:p1≤8)(h2:p2≤8) : onD (p0+256*(p1+256*p2))=p0+p1+p2:=by
 unfold onD
 have e:∀ y:Nat,y &&& 127=y % 128:=fun y=>Nat.and_two_pow_sub_one_eq_mod y 7
 have d1:(p0+256*(p1+256*p2))/256=p1+256*p2:=by omega
 have d2:(p0+256*(p1+256*p2)+(p1+256*p2))/65536=p2:=by omega
 have d3:(p0+256*(p1+256*p2)+(p1+256*p2)+p2)/4294967296=0:=by omega
 simp only [e,d1,d2,d3]
 omega
theorem Xl5{x0 x1 x2:Nat}(h0:x0<256)(h1:x1<256)(h2:x2<256) : (setN (x0+256*(x1+256*x2))).length=pop8 x0+pop8 x1+pop8 x2:=by
 rw [← Xcj (k:=24) (by decide) (by omega)]
 have hb:∀ i,i<8→(x0+256*(x1+256*x2)).testBit i=x0.testBit i:=fun i hi=>by
  rw [Nat.add_comm,show (256:Nat)=2^8 from rfl,Nat.testBit_two_pow_mul_add _ h0,if_pos hi]
 have hb1:∀ i,i<8→(x0+256*(x1+256*x2)).testBit (8+i)=x1.testBit i:=fun i hi=>by
  rw [Nat.add_comm x0,show (256:Nat)=2^8 from rfl,Nat.testBit_two_pow_mul_add _ h0,if_neg (by omega),show 8+i-8=i from by omega,Nat.add_comm x1,Nat.testBit_two_pow_mul_add _ h1,if_pos hi]
 have hb2:∀ i,i<8→(x0+256*(x1+256*x2)).testBit (16+i)=x2.testBit i:=fun i hi=>by
  rw [Nat.add_comm x0,show (256:Nat)=2^8 from rfl,Nat.testBit_two_pow_mul_add _ h0,if_neg (by omega),Nat.add_comm x1,Nat.testBit_two_pow_mul_add _ h1,if_neg (by omega)]
  congr 1;omega
 generalize x0+256*(x1+256*x2)=x at *
 have:List.range 24=List.range 8++((List.range 8).map (8 + ·)++(List.range 8).map (16 + ·)):=by decide
 rw [this,List.filter_append,List.filter_append,List.length_append,List.length_append,List.filter_map,List.filter_map,List.length_map,List.length_map]
 have f0:(List.range 8).filter x.testBit=(List.range 8).filter x0.testBit:=List.filter_congr fun i hi=>hb i (List.mem_range.1 hi)
 have f1:(List.range 8).filter (x.testBit ∘ (8 + ·))=(List.range 8).filter x1.testBit:=List.filter_congr fun i hi=>hb1 i (List.mem_range.1 hi)
 have f2:(List.range 8).filter (x.testBit ∘ (16 + ·))=(List.range 8).filter x2.testBit:=List.filter_congr fun i hi=>hb2 i (List.mem_range.1 hi)
 rw [f0,f1,f2]
 unfold pop8
 omega
theorem Xly{x:Nat}(h:x<2^24) : popS x=(setN x).length:=by
 have e:x=x % 256+256*(x/256 % 256+256*(x/65536)):=by omega
 have h0:x % 256<256:=by omega
 have h1:x/256 % 256<256:=by omega
 have h2:x/65536<256:=by omega
 rw [e]
 generalize x % 256=x0 at *
 generalize x/256 % 256=x1 at *
 generalize x/65536=x2 at *
 have q0:=(X2w h0).2.1
 have q1:=(X2w h1).2.1
 have q2:=(X2w h2).2.1
 unfold popS
 rw [Y1i h0 h1 h2,Y10 q0 q1 q2,Y0u h0 h1 h2,Y0y (X2w h0).2.2.2.2.2.2 (X2w h1).2.2.2.2.2.2 (X2w h2).2.2.2.2.2.2,Xl5 h0 h1 h2]
def drN(v x:Nat) : Nat:=x % 2^v+2^v*(x/2^(v+1))
theorem X2e(v x i:Nat) : (drN v x).testBit i=if i<v then x.testBit i else x.testBit (i+1):=by
 unfold drN
 rw [Nat.add_comm,Nat.testBit_two_pow_mul_add _ (Nat.mod_lt _ (Nat.two_pow_pos v))]
 split
 ·rename_i h
  rw [Nat.testBit_mod_two_pow,decide_eq_true h,Bool.true_and]
 ·rename_i h
  rw [Nat.testBit_div_two_pow,show i-v+(v+1)=i+1 from by omega]
theorem Xv7(v x y:Nat) : drN v (x ||| y)=drN v x ||| drN v y:=by
 apply Nat.eq_of_testBit_eq
 intro i
 rw [Nat.testBit_or,X2e,X2e,X2e]
 split<;>rw [Nat.testBit_or]
theorem Xr2{v x y:Nat}(hx:x.testBit v=false)(hy:y.testBit v=false)(h:drN v x=drN v y) : x=y:=by
 apply Nat.eq_of_testBit_eq
 intro i
 have hb:=fun j=>congrArg (fun z=>z.testBit j) h
 simp only [X2e] at hb
 rcases Nat.lt_trichotomy i v with h1|h1|h1
 ·have:=hb i;rw [if_pos h1,if_pos h1] at this;exact this
 ·subst h1;rw [hx,hy]
 ·have:=hb (i-1);rw [if_neg (by omega),if_neg (by omega),show i-1+1=i from by omega] at this;exact this
theorem Xmb(v:Nat) : drN v 0=0:=by simp [drN]
theorem X9t(v x:Nat) : drN v x≤x:=by
 unfold drN
 have h1:=Nat.div_add_mod x (2^v)
 have h2:x/2^(v+1)≤x/2^v:=by
  rw [Nat.pow_succ,← Nat.div_div_eq_div_mul];exact Nat.div_le_self _ _
 have:=Nat.mul_le_mul_left (2^v) h2
 omega
theorem Xxu{v x y:Nat}(hx:x.testBit v=false)(hy:y.testBit v=false)(h:x<y) : drN v x<drN v y:=by
 have e:∀ z:Nat,z.testBit v=false→z=z % 2^v+2*(2^v*(z/2^(v+1))):=fun z hz=>by
  have h1:=Nat.div_add_mod z (2^(v+1))
  have h2:z % 2^(v+1)=z % 2^v:=by
   apply Nat.eq_of_testBit_eq
   intro i
   rw [Nat.testBit_mod_two_pow,Nat.testBit_mod_two_pow]
   rcases Nat.lt_trichotomy i v with h|h|h
   ·rw [decide_eq_true h,decide_eq_true (show i<v+1 by omega)]
   ·subst h;rw [hz];simp
   ·rw [decide_eq_false (show ¬ i<v+1 by omega),decide_eq_false (show ¬ i<v by omega)]
  rw [h2,Nat.pow_succ] at h1
  rw [Nat.pow_succ]
  have h3:2^v*2*(z/(2^v*2))=2*(2^v*(z/(2^v*2))):=by rw [Nat.mul_comm (2^v) 2,Nat.mul_assoc]
  omega
 have ex:=e x hx
 have ey:=e y hy
 have lx:=Nat.mod_lt x (Nat.two_pow_pos v)
 have ly:=Nat.mod_lt y (Nat.two_pow_pos v)
 unfold drN
 rcases Nat.lt_trichotomy (x/2^(v+1)) (y/2^(v+1)) with h1|h1|h1
 ·have:=Nat.mul_le_mul_left (2^v) h1
  rw [Nat.mul_succ] at this
  omega
 ·rw [h1] at ex ⊢
  omega
 ·have:=Nat.mul_le_mul_left (2^v) h1
  rw [Nat.mul_succ] at this
  omega
theorem X8g:∀ {T U:List Nat},T.Pairwise (· < ·)→U.Pairwise (· < ·)→(∀ t,t ∈ T↔t ∈ U)→T=U
 | [],[],_,_,_=>rfl
 | [],u::U,_,_,h=>absurd ((h u).2 (by simp)) (by simp)
 | t::T,[],_,_,h=>absurd ((h t).1 (by simp)) (by simp)
 | t::T,u::U,hT,hU,h=>by
  rw [List.pairwise_cons] at hT hU
  have htu:t=u:=by
   rcases List.mem_cons.1 ((h t).1 (by simp)) with e|e
   ·exact e
   ·rcases List.mem_cons.1 ((h u).2 (by simp)) with e'|e'
    ·exact e'.symm
    ·have h1:=hT.1 u e';have h2:=hU.1 t e
     omega
  subst htu
  congr 1
  refine X8g hT.2 hU.2 fun x=>⟨fun hx=>?_,fun hx=>?_⟩
  ·rcases List.mem_cons.1 ((h x).1 (List.mem_cons_of_mem _ hx)) with e|e
   ·have:=hT.1 x hx;omega
   ·exact e
  ·rcases List.mem_cons.1 ((h x).2 (List.mem_cons_of_mem _ hx)) with e|e
   ·have:=hU.1 x hx;omega
   ·exact e
def shN(v i:Nat) : Nat:=if i<v then i else i-1
theorem Xdy{v i:Nat}(h:i≠v) : drN v (2^i)=2^shN v i:=by
 apply Nat.eq_of_testBit_eq
 intro j
 rw [X2e,Nat.testBit_two_pow]
 unfold shN
 by_cases h1:j<v
 ·rw [if_pos h1]
  by_cases h2:i<v
  ·rw [if_pos h2,Nat.testBit_two_pow]
  ·rw [if_neg h2,Nat.testBit_two_pow,decide_eq_false (by omega),decide_eq_false (by omega)]
 ·rw [if_neg h1]
  by_cases h2:i<v
  ·rw [if_pos h2,Nat.testBit_two_pow,Nat.testBit_two_pow,decide_eq_false (by omega),decide_eq_false (by omega)]
  ·rw [if_neg h2,Nat.testBit_two_pow,Nat.testBit_two_pow]
   by_cases h3:i=j+1
   ·rw [decide_eq_true h3,decide_eq_true (by omega)]
   ·rw [decide_eq_false h3,decide_eq_false (by omega)]
theorem Xsv{v x:Nat}(hx:x<2^62)(hv:x.testBit v=false) : setN (drN v x)=(setN x).map (shN v):=by
 have hd:drN v x<2^62:=Nat.lt_of_le_of_lt (X9t v x) hx
 refine X8g (X3t _) ?_ fun t=>?_
 ·rw [List.pairwise_map]
  refine List.Pairwise.imp_of_mem (fun {a b} ha hb h=>?_) (X3t x)
  have ha:=(X1j hx).1 ha;have hb:=(X1j hx).1 hb
  have h1:a≠v:=fun e=>by rw [e,hv] at ha;cases ha
  have h2:b≠v:=fun e=>by rw [e,hv] at hb;cases hb
  unfold shN
  split<;>split<;>omega
 ·rw [X1j hd,X2e,List.mem_map]
  constructor
  ·intro h
   by_cases h1:t<v
   ·rw [if_pos h1] at h
    exact ⟨t,(X1j hx).2 h,if_pos h1⟩
   ·rw [if_neg h1] at h
    exact ⟨t+1,(X1j hx).2 h,by unfold shN;rw [if_neg (by omega)];rfl⟩
  ·rintro ⟨i,hi,rfl⟩;have hi:=(X1j hx).1 hi
   have h1:i≠v:=fun e=>by rw [e,hv] at hi;cases hi
   unfold shN
   by_cases h2:i<v
   ·rw [if_pos h2,if_pos h2];exact hi
   ·rw [if_neg h2,if_neg (by omega),show i-1+1=i from by omega];exact hi
theorem Xpj{v x:Nat} : drN v (x ^^^ 2^v)=drN v x:=by
 apply Nat.eq_of_testBit_eq
 intro i
 rw [X2e,X2e]
 split
 ·rw [Nat.testBit_xor,Nat.testBit_two_pow,decide_eq_false (by omega)];simp
 ·rw [Nat.testBit_xor,Nat.testBit_two_pow,decide_eq_false (by omega)];simp
def bitQ(v:Nat)(m:Int) : Bool:=m.toNat.testBit v
def drI(v:Nat)(m:Int) : Int:=((drN v m.toNat:Nat) : Int)
def Nb(v:Nat)(m:Int) : Prop:=Mk m∧bitQ v m=false
theorem X1q(v x:Nat) : drI v (x:Int)=((drN v x:Nat) : Int):=rfl
theorem X1b(v x:Nat) : bitQ v (x:Int)=x.testBit v:=rfl
theorem Mk.dr{v:Nat}{m:Int}(h:Mk m) : Mk (drI v m):=by
 obtain ⟨x,hx,rfl⟩:=h.nat;exact Mk.of (Nat.lt_of_le_of_lt (X9t v x) hx)
theorem Xni{v:Nat}{a b:Int}(ha:Mk a)(hb:Mk b) : drI v (oI a b)=oI (drI v a) (drI v b):=by
 obtain ⟨x,hx,rfl⟩:=ha.nat;obtain ⟨y,hy,rfl⟩:=hb.nat
 have h1:drN v x<2^24:=Nat.lt_of_le_of_lt (X9t v x) hx
 have h2:drN v y<2^24:=Nat.lt_of_le_of_lt (X9t v y) hy
 rw [X1q,X1q]
 unfold oI
 rw [X1y (X0x hx) (X0x hy),X1y (X0x h1) (X0x h2),X1q,Xv7]
theorem Nb.or{v:Nat}{a b:Int}(ha:Nb v a)(hb:Nb v b) : Nb v (oI a b):=by
 refine ⟨ha.1.or hb.1,?_⟩
 obtain ⟨x,hx,rfl⟩:=ha.1.nat;obtain ⟨y,hy,rfl⟩:=hb.1.nat
 unfold oI
 rw [X1y (X0x hx) (X0x hy),X1b,Nat.testBit_or]
 have h1:=ha.2;have h2:=hb.2
 rw [X1b] at h1 h2
 rw [h1,h2];rfl
theorem Nb.xor{v:Nat}{a b:Int}(ha:Nb v a)(hb:Nb v b) : Nb v (xI a b):=by
 refine ⟨ha.1.xor hb.1,?_⟩
 obtain ⟨x,hx,rfl⟩:=ha.1.nat;obtain ⟨y,hy,rfl⟩:=hb.1.nat
 unfold xI
 rw [X17 (X0x hx) (X0x hy),X1b,Nat.testBit_xor]
 have h1:=ha.2;have h2:=hb.2
 rw [X1b] at h1 h2
 rw [h1,h2];rfl
theorem Xii{v:Nat}{a b:Int}(ha:Nb v a)(hb:Nb v b)(h:drI v a=drI v b) : a=b:=by
 obtain ⟨x,hx,rfl⟩:=ha.1.nat;obtain ⟨y,hy,rfl⟩:=hb.1.nat
 rw [X1q,X1q] at h
 have e:x=y:=Xr2 ha.2 hb.2 (by omega)
 rw [e]
theorem Xnn{v:Nat}{a b:Int}(ha:Nb v a)(hb:Nb v b)(h:a<b) : drI v a<drI v b:=by
 obtain ⟨x,hx,rfl⟩:=ha.1.nat;obtain ⟨y,hy,rfl⟩:=hb.1.nat
 rw [X1q,X1q]
 have:drN v x<drN v y:=Xxu ha.2 hb.2 (by omega)
 omega
theorem X3l(v:Nat) : drI v 0=0:=by
 have:=X1q v 0
 rw [Xmb] at this
 exact this
theorem Nb.zero(v:Nat) : Nb v 0:=⟨Mk.zero,Nat.zero_testBit v⟩
theorem Xta{v:Nat}{m:Int}(h:Nb v m)(hm:0<m) : 0<drI v m:=by
 have:=Xnn (Nb.zero v) h hm
 rw [X3l] at this
 exact this
theorem Xen{v:Nat}{m:Int}(h:Nb v m) : ∀ x ∈ lows m,Nb v x:=fun x hx=>by
 obtain ⟨M,hM,rfl⟩:=h.1.nat
 unfold lows at hx
 obtain ⟨k,hk,rfl⟩:=List.mem_map.1 hx
 have hk:M.testBit k=true:=(X1j (X0x hM)).1 hk
 have hk24:k<24:=by
  rcases Nat.lt_or_ge k 24 with h'|h'
  ·exact h'
  ·have:M<2^k:=Nat.lt_of_lt_of_le hM (Nat.pow_le_pow_right (by decide) h')
   rw [Nat.testBit_lt_two_pow this] at hk;cases hk
 refine ⟨Mk.of (Nat.pow_lt_pow_right (by decide) hk24),?_⟩
 rw [X1b,Nat.testBit_two_pow]
 refine decide_eq_false fun e=>?_
 subst e
 have h2:=h.2
 rw [X1b] at h2
 rw [h2] at hk;cases hk
theorem Xqc{v:Nat}{m:Int}(h:Nb v m) : lows (drI v m)=(lows m).map (drI v):=by
 obtain ⟨M,hM,rfl⟩:=h.1.nat
 unfold lows
 rw [X1q,show (((drN v M:Nat) : Int)).toNat=drN v M from rfl,show (M:Int).toNat=M from rfl,Xsv (X0x hM) h.2,List.map_map,List.map_map]
 refine List.map_congr_left fun k hk=>?_;have hk:=(X1j (X0x hM)).1 hk
 have h1:k≠v:=fun e=>by
  have h2:=h.2
  rw [X1b,← e,hk] at h2;cases h2
 show ((2^shN v k:Nat) : Int)=drI v ((2^k:Nat) : Int)
 rw [X1q,Xdy h1]
theorem Xjw{v:Nat}{m:Int}(h:Mk m)(hv:v<24) : drI v (xI m ((2^v:Nat) : Int))=drI v m:=by
 obtain ⟨M,hM,rfl⟩:=h.nat
 unfold xI
 rw [X17 (X0x hM) (X37 (by omega)),X1q,X1q,Xpj]
theorem Nb.off{v:Nat}{m:Int}(h:Mk m)(hv:v<24)(hb:bitQ v m=true) : Nb v (xI m ((2^v:Nat) : Int)):=by
 refine ⟨h.xor (Mk.of (Nat.pow_lt_pow_right (by decide) hv)),?_⟩
 obtain ⟨M,hM,rfl⟩:=h.nat
 unfold xI
 rw [X17 (X0x hM) (X37 (by omega)),X1b,Nat.testBit_xor,Nat.testBit_two_pow]
 rw [X1b] at hb
 rw [hb];simp
def exZL(r x y k:Int)(l:List Int) : Nat→List Sm
 | 0=>[]
 | n+1=>exZL r x y k l n++[(oI (oI (oI r x) y) (l.getD n 0),4*k)]
def exYL(r x k:Int)(l:List Int) : Nat→List Sm
 | 0=>[]
 | j+1=>exYL r x k l j++(oI (oI r x) (l.getD j 0),-2*k)::exZL r x (l.getD j 0) k l j
def exXL(r k:Int)(l:List Int) : Nat→List Sm
 | 0=>[]
 | i+1=>exXL r k l i++(oI r (l.getD i 0),k)::exYL r (l.getD i 0) k l i
def expL(k:Int)(a:Af)(r:Int) : List Sm:=
 if a.t=1 then (r,k)::exXL r (-k) (lows a.m) (lows a.m).length else exXL r k (lows a.m) (lows a.m).length
theorem X61(p:Sm)(L:List Sm)(f:Int→Int) : foldA (p::L) f=foldA L (padd f p.1 p.2):=rfl
theorem Xf0(r x y k:Int)(l:List Int)(f:Int→Int) : ∀ n,exZ r x y k l f n=foldA (exZL r x y k l n) f
 | 0=>rfl
 | n+1=>by rw [exZ,exZL,Xkv,Xf0 r x y k l f n]
theorem Xgm(r x k:Int)(l:List Int)(f:Int→Int) : ∀ n,exY r x k l f n=foldA (exYL r x k l n) f
 | 0=>rfl
 | n+1=>by rw [exY,exYL,X2x,X61,Xf0,Xgm r x k l f n]
theorem Xbx(r k:Int)(l:List Int)(f:Int→Int) : ∀ n,exX r k l f n=foldA (exXL r k l n) f
 | 0=>rfl
 | n+1=>by rw [exX,exXL,X2x,X61,Xgm,Xbx r k l f n]
theorem X2f(f:Int→Int)(k:Int)(a:Af)(r:Int) : expP f k a r=foldA (expL k a r) f:=by
 unfold expP expL
 split
 ·rw [X61,Xbx]
 ·rw [Xbx]
section
variable {Q : Int → Prop} (hq : ∀ a b, Q a → Q b → Q (oI a b)) (h0 : Q 0) {l : List Int} (hl : ∀ x ∈ l, Q x)
include h0 hl
theorem X9o(n:Nat) : Q (l.getD n 0):=by
 rw [List.getD_eq_getElem?_getD]
 cases e:l[n]? with
 | none=>exact h0
 | some x=>exact hl x (List.mem_of_getElem? e)
include hq
theorem Xey{r x y k:Int}(hr:Q (oI (oI r x) y)) : ∀ n,∀ p ∈ exZL r x y k l n,Q p.1
 | 0,p,h=>by cases h
 | n+1,p,h=>by
  rcases List.mem_append.1 h with h|h
  ·exact Xey hr n p h
  ·rw [List.mem_singleton.1 h];exact hq _ _ hr (X9o h0 hl n)
theorem Xf2{r x k:Int}(hr:Q (oI r x)) : ∀ n,∀ p ∈ exYL r x k l n,Q p.1
 | 0,p,h=>by cases h
 | n+1,p,h=>by
  have hy:=hq _ _ hr (X9o h0 hl n)
  rcases List.mem_append.1 h with h|h
  ·exact Xf2 hr n p h
  ·rcases List.mem_cons.1 h with rfl|h
   ·exact hy
   ·exact Xey hq h0 hl hy n p h
theorem X6x{r k:Int}(hr:Q r) : ∀ n,∀ p ∈ exXL r k l n,Q p.1
 | 0,p,h=>by cases h
 | n+1,p,h=>by
  have hy:=hq _ _ hr (X9o h0 hl n)
  rcases List.mem_append.1 h with h|h
  ·exact X6x hr n p h
  ·rcases List.mem_cons.1 h with rfl|h
   ·exact hy
   ·exact Xf2 hq h0 hl hy n p h
end
def mp(φ:Int→Int)(L:List Sm) : List Sm:=L.map fun p=>(φ p.1,p.2)
theorem Xem(φ:Int→Int)(L M:List Sm) : mp φ (L++M)=mp φ L++mp φ M:=List.map_append
theorem Xai(φ:Int→Int)(p:Sm)(M:List Sm) : mp φ (p::M)=(φ p.1,p.2)::mp φ M:=rfl
section
variable {Q : Int → Prop} {φ : Int → Int} (hq : ∀ a b, Q a → Q b → Q (oI a b)) (hφ : ∀ a b, Q a → Q b → φ (oI a b) = oI (φ a) (φ b)) (h0 : Q 0) (hφ0 : φ 0 = 0) {l : List Int} (hl : ∀ x ∈ l, Q x)
include hφ0
theorem Xca(n:Nat) : (l.map φ).getD n 0=φ (l.getD n 0):=by
 rw [List.getD_eq_getElem?_getD,List.getD_eq_getElem?_getD,List.getElem?_map]
 cases l[n]? with
 | none=>exact hφ0.symm
 | some x=>rfl
include h0 hl hφ hq
theorem Xg1{r x y k:Int}(hr:Q r)(hx:Q x)(hy:Q y) : ∀ n,exZL (φ r) (φ x) (φ y) k (l.map φ) n=mp φ (exZL r x y k l n)
 | 0=>rfl
 | n+1=>by
  have h1:=hq _ _ hr hx;have h2:=hq _ _ h1 hy
  rw [exZL,exZL,Xem,Xg1 hr hx hy n,Xca hφ0,← hφ _ _ hr hx,← hφ _ _ h1 hy,← hφ _ _ h2 (X9o h0 hl n)];rfl
theorem Xex{r x k:Int}(hr:Q r)(hx:Q x) : ∀ n,exYL (φ r) (φ x) k (l.map φ) n=mp φ (exYL r x k l n)
 | 0=>rfl
 | n+1=>by
  have h1:=hq _ _ hr hx;have hy:=X9o h0 hl n
  rw [exYL,exYL,Xem,Xex hr hx n,Xai,Xca hφ0,Xg1 hq hφ h0 hφ0 hl hr hx hy,← hφ _ _ hr hx,← hφ _ _ h1 hy]
theorem Xfm{r k:Int}(hr:Q r) : ∀ n,exXL (φ r) k (l.map φ) n=mp φ (exXL r k l n)
 | 0=>rfl
 | n+1=>by
  have hy:=X9o h0 hl n
  rw [exXL,exXL,Xem,Xfm hr n,Xai,Xca hφ0,Xex hq hφ h0 hφ0 hl hr hy,← hφ _ _ hr hy]
end
theorem Xm2{v:Nat}{k r:Int}{a:Af}(ha:Nb v a.m)(hr:Nb v r) : ∀ p ∈ expL k a r,Nb v p.1:=fun p hp=>by
 unfold expL at hp
 split at hp
 ·rcases List.mem_cons.1 hp with rfl|hp
  ·exact hr
  ·exact X6x (fun _ _ h1 h2=>h1.or h2) (Nb.zero v) (Xen ha) hr _ p hp
 ·exact X6x (fun _ _ h1 h2=>h1.or h2) (Nb.zero v) (Xen ha) hr _ p hp
theorem Xq9{v:Nat}{k r:Int}{a:Af}(ha:Nb v a.m)(hr:Nb v r) : expL k ⟨drI v a.m,a.t⟩ (drI v r)=mp (drI v) (expL k a r):=by
 have hX:=fun k n=>Xfm (k:=k) (φ:=drI v) (Q:=Nb v) (fun _ _ h1 h2=>h1.or h2) (fun _ _ h1 h2=>Xni h1.1 h2.1) (Nb.zero v) (X3l v) (Xen ha) hr n
 unfold expL
 dsimp only
 rw [Xqc ha,List.length_map]
 split
 ·rw [Xai,hX]
 ·rw [hX]
def cPh(ph:Int) : Int→Int:=upd (fun _=>0) 0 ph
theorem PO.cPh{ph:Int}(h:0≤ph∧ph<8) : PO (cPh ph):=fun x=>by
 show 0≤upd _ 0 ph x∧upd _ 0 ph x<8
 unfold upd
 split
 ·exact h
 ·exact ⟨by show (0:Int)≤0;omega,by show (0:Int)<8;omega⟩
theorem X5e{L:List Sm}{x:Int}(h:∀ p ∈ L,p.1≠x) : sumA L x=0:=by
 induction L with
 | nil=>rfl
 | cons p L ih=>rw [X59,if_neg (h p (by simp)),ih fun q hq=>h q (List.mem_cons_of_mem _ hq)];rfl
theorem Xmx{φ:Int→Int}{L:List Sm}{x:Int}(h:∀ p ∈ L,φ p.1=φ x→p.1=x) : sumA (mp φ L) (φ x)=sumA L x:=by
 induction L with
 | nil=>rfl
 | cons p L ih=>
  rw [Xai,X59,X59,ih fun q hq=>h q (List.mem_cons_of_mem _ hq)]
  congr 1
  by_cases e:p.1=x
  ·rw [if_pos e,e,if_pos rfl]
  ·rw [if_neg e,if_neg fun e2=>e (h p (by simp) e2)]
def dT(v:Nat)(t:Tm) : Tm:=⟨drI v t.m,t.c⟩
theorem Xeg{L:List Sm}{ph x:Int}(hph:0≤ph∧ph<8)(hx:x≠0)(h:foldA L (cPh ph) x≠0) : ∃ p ∈ L,p.1=x:=by
 refine Classical.byContradiction fun hn=>h ?_
 rw [X33 L (PO.cPh hph),X5e fun p hp e=>hn ⟨p,hp,e⟩]
 show (upd _ 0 ph x+0) % 8=0
 rw [X4p hx];rfl
theorem Xeq{v:Nat}{L:List Sm}{ph x:Int}(hph:0≤ph∧ph<8)(hL:∀ p ∈ L,Nb v p.1)(hx:Nb v x) : foldA (mp (drI v) L) (cPh ph) (drI v x)=foldA L (cPh ph) x:=by
 rw [X33 _ (PO.cPh hph),X33 _ (PO.cPh hph),Xmx fun p hp e=>Xii (hL p hp) hx e]
 congr 2
 unfold cPh upd
 by_cases e:x=0
 ·subst e;rw [X3l]
 ·rw [if_neg e,if_neg fun e2=>e (Xii hx (Nb.zero v) (by rw [e2,X3l]))]
theorem Xgb{v:Nat}{L:List Sm}{ph:Int}(hph:0≤ph∧ph<8)(hL:∀ p ∈ L,Nb v p.1) : foldA (mp (drI v) L) (cPh ph) 0=foldA L (cPh ph) 0:=by
 have:=Xeq hph hL (Nb.zero v)
 rw [X3l] at this
 exact this
theorem Xp5{v:Nat}{L:List Sm}{ph:Int}(hph:0≤ph∧ph<8)(hL:∀ p ∈ L,Nb v p.1) : tms (foldA (mp (drI v) L) (cPh ph))=(tms (foldA L (cPh ph))).map (dT v):=by
 have hI:=X2l (foldA L (cPh ph))
 have hN:∀ t ∈ tms (foldA L (cPh ph)),Nb v t.m:=fun t ht=>by
  obtain ⟨h1,_,_,h4⟩:=(hI.mem t).1 ht
  obtain ⟨p,hp,e⟩:=Xeg hph (by omega) h4
  rw [← e];exact hL p hp
 refine (IsT.eq ⟨?_,fun t=>?_⟩).symm
 ·unfold Rise
  rw [List.pairwise_map]
  exact List.Pairwise.imp_of_mem (fun ha hb h=>Xnn (hN _ ha) (hN _ hb) h) hI.rise
 ·rw [List.mem_map]
  constructor
  ·rintro ⟨u,hu,rfl⟩;have hn:=hN u hu;obtain ⟨h1,_,h3,h4⟩:=(hI.mem u).1 hu
   have e:=Xeq hph hL hn
   exact ⟨Xta hn h1,hn.1.dr.2,h3.trans e.symm,by show foldA (mp (drI v) L) (cPh ph) (drI v u.m)≠0;rw [e];exact h4⟩
  ·rintro ⟨h1,h2,h3,h4⟩
   obtain ⟨p,hp,e⟩:=Xeg hph (by omega) h4
   obtain ⟨q,hq,rfl⟩:=List.mem_map.1 hp;have hn:=hL q hq
   have e:drI v q.1=t.m:=e
   have ef:=Xeq hph hL hn
   rw [e] at ef
   refine ⟨⟨q.1,t.c⟩,(hI.mem _).2 ⟨?_,hn.1.2,h3.trans ef,by show foldA L (cPh ph) q.1≠0;rw [← ef];exact h4⟩,?_⟩
   ·show 0<q.1
    rcases Int.lt_or_le 0 q.1 with h|h
    ·exact h
    ·have:q.1=0:=Int.le_antisymm h hn.1.1
     rw [this,X3l] at e;omega
   ·show (⟨drI v q.1,t.c⟩ : Tm)=t
    rw [e]
def sm(ts:List Tm) : List Sm:=ts.map fun t=>(t.m,t.c)
structure OkT (ts:List Tm) : Prop where
 rise:Rise ts
 all:∀ t ∈ ts,0<t.m∧t.m<16777216∧0<t.c∧t.c<8
theorem Xgh:∀ {ts:List Tm},Rise ts→∀ t ∈ ts,sumA (sm ts) t.m=t.c
 | [],_,t,h=>by cases h
 | u::l,hr,t,h=>by
  unfold Rise at hr
  rw [List.pairwise_cons] at hr
  show sumA ((u.m,u.c)::sm l) t.m=t.c
  rw [X59]
  rcases List.mem_cons.1 h with e|h
  ·subst e
   rw [if_pos rfl,X5e fun p hp e=>?_]
   ·omega
   ·obtain ⟨q,hq,rfl⟩:=List.mem_map.1 hp
    have:=hr.1 q hq
    have e:q.m=t.m:=e
    omega
  ·have:=hr.1 t h
   rw [if_neg (by show ¬ u.m=t.m;omega),Xgh hr.2 t h];omega
theorem OkT.val{ts:List Tm}(h:OkT ts){ph:Int}(hph:0≤ph∧ph<8){t:Tm}(ht:t ∈ ts) : foldA (sm ts) (cPh ph) t.m=t.c:=by
 have h1:=h.all t ht
 rw [X33 _ (PO.cPh hph),Xgh h.rise t ht]
 unfold cPh
 rw [X4p (by omega)]
 omega
theorem OkT.tms{ts:List Tm}(h:OkT ts){ph:Int}(hph:0≤ph∧ph<8) : tms (foldA (sm ts) (cPh ph))=ts:=by
 refine (IsT.eq ⟨h.rise,fun t=>?_⟩).symm
 constructor
 ·intro ht;have h1:=h.all t ht;have h2:=h.val hph ht;exact ⟨h1.1,h1.2.1,h2.symm,by rw [h2];omega⟩
 ·rintro ⟨h1,h2,h3,h4⟩
  obtain ⟨p,hp,e⟩:=Xeg hph (by omega) h4
  obtain ⟨q,hq,rfl⟩:=List.mem_map.1 hp
  have e:q.m=t.m:=e
  have h5:=h.val hph hq
  rw [e,← h3] at h5
  have:q=t:=by
   obtain ⟨a,b⟩:=q;obtain ⟨c,d⟩:=t
   simp only at e h5
   rw [e,h5]
  rw [← this];exact hq
theorem Xp8{ts:List Tm}(h:∀ t ∈ ts,0<t.m) : sumA (sm ts) 0=0:=X5e fun p hp e=>by
 obtain ⟨q,hq,rfl⟩:=List.mem_map.1 hp
 have:=h q hq
 have e:q.m=0:=e
 omega
theorem OkT.zero{ts:List Tm}(h:OkT ts){ph:Int}(hph:0≤ph∧ph<8) : foldA (sm ts) (cPh ph) 0=ph:=by
 rw [X33 _ (PO.cPh hph),Xp8 fun t ht=>(h.all t ht).1]
 show (upd _ 0 ph 0+0) % 8=ph
 rw [X9g];omega
theorem Xmz{f:Int→Int}(h:PO f) : OkT (tms f):=⟨(X2l f).rise,fun t ht=>by
 obtain ⟨h1,h2,h3,h4⟩:=((X2l f).mem t).1 ht
 have:=h t.m
 rw [h3]
 exact ⟨h1,h2,by omega,this.2⟩⟩
def SupF(f:Int→Int) : Prop:=∀ x,f x≠0→Mk x
theorem SupF.fold{L:List Sm}(h:∀ p ∈ L,Mk p.1){f:Int→Int}(hf:PO f)(hs:SupF f) : SupF (foldA L f):=fun x hx=>by
 rw [X33 _ hf] at hx
 by_cases e:f x=0
 ·refine Classical.byContradiction fun hn=>hx ?_
  rw [e,X5e fun p hp e2=>hn (by rw [← e2];exact h p hp)];rfl
 ·exact hs x e
theorem SupF.cPh(ph:Int) : SupF (cPh ph):=fun x hx=>by
 by_cases e:x=0
 ·subst e;exact Mk.zero
 ·refine absurd ?_ hx
  show upd _ 0 ph x=0
  rw [X4p e]
theorem Xl7(f:Int→Int)(k:Int) : tms (padd f 0 k)=tms f:=by
 refine (IsT.eq ⟨(X2l f).rise,fun t=>?_⟩).symm
 rw [(X2l f).mem]
 constructor
 ·rintro ⟨h1,h2,h3,h4⟩
  unfold padd
  rw [X4p (by omega)]
  exact ⟨h1,h2,h3,h4⟩
 ·rintro ⟨h1,h2,h3,h4⟩
  unfold padd at h3 h4
  rw [X4p (by omega)] at h3 h4
  exact ⟨h1,h2,h3,h4⟩
def pw(v:Nat) : Int:=((2^v:Nat) : Int)
def dA(v:Nat)(a:Af) : Af:=⟨drI v a.m,a.t⟩
def sA(v:Nat)(y a:Af) : Af:=if bitQ v a.m then ⟨xI (xI a.m (pw v)) y.m,xI a.t y.t⟩ else a
def sL(v:Nat)(y:Af)(t:Tm) : List Sm:=if bitQ v t.m then expL t.c y (xI t.m (pw v)) else [(t.m,t.c)]
def rL(v:Nat)(y:Af)(t:Tm) : List Sm:=if bitQ v t.m then expL t.c (dA v y) (drI v t.m) else [(drI v t.m,t.c)]
def mkP(p:Ps)(v:Nat)(y:Af)(f:Int→Int)(ts:List Tm) : Ps:=⟨p.ins,p.vars-1,p.root,f 0,ts,p.out.map fun a=>dA v (sA v y a)⟩
def subP(p:Ps)(v:Nat)(y:Af) : Ps:=mkP p v y (foldA (p.ts.flatMap (sL v y)) (cPh p.phase)) ((tms (foldA (p.ts.flatMap (sL v y)) (cPh p.phase))).map (dT v))
def repP(p:Ps)(v:Nat)(y:Af) : Ps:=mkP p v y (foldA (p.ts.flatMap (rL v y)) (cPh p.phase)) (tms (foldA (p.ts.flatMap (rL v y)) (cPh p.phase)))
theorem Xir(φ:Int→Int)(g:Tm→List Sm) : ∀ ts:List Tm,mp φ (ts.flatMap g)=ts.flatMap fun t=>mp φ (g t)
 | []=>rfl
 | t::l=>by rw [List.flatMap_cons,List.flatMap_cons,Xem,Xir φ g l]
theorem Xxg{v:Nat}{y:Af}{ts:List Tm}(ht:∀ t ∈ ts,Mk t.m)(hv:v<24)(hy:Nb v y.m) : ∀ p ∈ ts.flatMap (sL v y),Nb v p.1:=fun p hp=>by
 obtain ⟨t,h1,h2⟩:=List.mem_flatMap.1 hp
 unfold sL at h2
 split at h2
 ·rename_i hb
  exact Xm2 hy (Nb.off (ht t h1) hv hb) p h2
 ·rename_i hb
  rw [List.mem_singleton.1 h2]
  exact ⟨ht t h1,by simpa using hb⟩
theorem Xbn{α β:Type}{g h:α→List β} : ∀ {l:List α},(∀ a ∈ l,g a=h a)→l.flatMap g=l.flatMap h
 | [],_=>rfl
 | a::l,e=>by rw [List.flatMap_cons,List.flatMap_cons,e a (by simp),Xbn fun b hb=>e b (List.mem_cons_of_mem _ hb)]
theorem Y08{v:Nat}{y:Af}{ts:List Tm}(ht:∀ t ∈ ts,Mk t.m)(hv:v<24)(hy:Nb v y.m) : ts.flatMap (rL v y)=mp (drI v) (ts.flatMap (sL v y)):=by
 rw [Xir]
 refine Xbn fun t h1=>?_
 unfold rL sL
 by_cases hb:bitQ v t.m=true
 ·rw [if_pos hb,if_pos hb]
  unfold dA pw
  rw [← Xq9 hy (Nb.off (ht t h1) hv hb),Xjw (ht t h1) hv]
 ·rw [if_neg hb,if_neg hb];rfl
theorem Xv8{p:Ps}{v:Nat}{y:Af}(hph:0≤p.phase∧p.phase<8)(ht:∀ t ∈ p.ts,Mk t.m)(hv:v<24)(hy:Nb v y.m) : subP p v y=repP p v y:=by
 have hL:=Xxg ht hv hy
 unfold subP repP
 rw [Y08 ht hv hy,Xp5 hph hL]
 unfold mkP
 rw [Xgb hph hL]
def nob(v:Nat)(ts:List Tm) : List Tm:=ts.filter fun t=>!bitQ v t.m
theorem Xrl{v:Nat}{ts:List Tm} : ts.flatMap (rL v afZ)=mp (drI v) (sm (nob v ts)):=by
 induction ts with
 | nil=>rfl
 | cons t l ih=>
  rw [List.flatMap_cons,ih]
  unfold nob
  rw [List.filter_cons]
  by_cases hb:bitQ v t.m=true
  ·have e:rL v afZ t=[]:=by
    unfold rL
    rw [if_pos hb]
    unfold expL dA afZ
    rw [if_neg (show ¬ (0:Int)=1 by decide)]
    show exXL _ _ (lows (drI v 0)) (lows (drI v 0)).length=[]
    rw [X3l]
    rfl
   rw [e,hb];rfl
  ·have e:rL v afZ t=[(drI v t.m,t.c)]:=by
    unfold rL;rw [if_neg hb]
   have hb':bitQ v t.m=false:=by simpa using hb
   rw [e,hb'];rfl
theorem Xs0{v:Nat}{ts:List Tm}(ht:∀ t ∈ ts,Mk t.m) : ∀ p ∈ sm (nob v ts),Nb v p.1:=fun p hp=>by
 obtain ⟨t,h1,rfl⟩:=List.mem_map.1 hp;obtain ⟨h2,h3⟩:=List.mem_filter.1 h1;exact ⟨ht t h2,by simpa using h3⟩
theorem Xo5{v:Nat}{ts:List Tm}(h:OkT ts) : OkT (nob v ts):=⟨List.Pairwise.filter _ h.rise,fun t ht=>h.all t (List.mem_filter.1 ht).1⟩
theorem X60{v:Nat}{a:Af}(h:bitQ v a.m=false)(y:Af) : sA v y a=a:=by
 unfold sA;rw [if_neg (by rw [h];decide)]
theorem Xqw{p:Ps}{v:Nat}(hph:0≤p.phase∧p.phase<8)(ht:OkT p.ts)(ho:∀ a ∈ p.out,bitQ v a.m=false) :
  repP p v afZ=⟨p.ins,p.vars-1,p.root,p.phase,(nob v p.ts).map (dT v),p.out.map (dA v)⟩:=by
 have hM:∀ t ∈ p.ts,Mk t.m:=fun t h=>⟨by have:=(ht.all t h).1;omega,(ht.all t h).2.1⟩
 have hL:=Xs0 (v:=v) hM
 unfold repP mkP
 rw [Xrl,Xp5 hph hL,Xgb hph hL,(Xo5 ht).tms hph,(Xo5 ht).zero hph]
 congr 1
 exact List.map_congr_left fun a ha=>by rw [X60 (ho a ha)]
def stP(p:Ps)(y:Nat)(k z:Int) : Ps:=
 let f:=foldA (expL k ⟨z,0⟩ 0) (foldA (sm (nob y p.ts)) (cPh p.phase))
 ⟨p.ins,p.vars-1,p.root,f 0,(tms f).map (dT y),p.out.map (dA y)⟩
def omR(q:Ps)(k1 k:Int)(z:Int) : Ps:=
 let f:=expP (padd (foldA (sm q.ts) (cPh q.phase)) 0 k1) k ⟨z,0⟩ 0
 ⟨q.ins,q.vars,q.root,f 0,tms f,q.out⟩
theorem Mk.b62{m:Int}(h:Mk m) : 0≤m∧m<2^62:=⟨h.1,by rw [show (2:Int)^62=4611686018427387904 from by decide];have:=h.2;omega⟩
theorem Xjc{x:Int}(h:-1000000000≤x∧x≤1000000000) : wr x=x:=IntWalk.i64_in _ ⟨by omega,by omega⟩
theorem Xi2{k:Int}(h:-8≤k∧k≤8) : wr (-k) = -k:=Xjc ⟨by omega,by omega⟩
theorem X5u{l:List Int}{i j:Nat}(h:j<i)(hi:j<l.length) : (l.take i)[j]? = some (l.getD j 0):=by
 rw [List.getElem?_take,if_pos h,Xa7 hi]
theorem Xg7(u:Af) : (lowT u).length≤63:=by
 have:=X43 u.m
 unfold lowT
 rw [List.length_append]
 split<;>simp<;>omega
theorem Xdd(g:Int→List Sm){l:List Int}{i:Nat}{x:Int}(h:l[i]? = some x)(f:Int→Int) : foldA ((l.take (i+1)).flatMap g) f=foldA (g x) (foldA ((l.take i).flatMap g) f):=by
 rw [List.take_add_one,h,List.flatMap_append,X2x]
 simp
theorem X9k(g:Int→Sm){l:List Int}{i:Nat}{x:Int}(h:l[i]? = some x)(f:Int→Int) : foldA ((l.take (i+1)).map g) f=padd (foldA ((l.take i).map g) f) (g x).1 (g x).2:=by
 rw [List.take_add_one,h,List.map_append,X2x]
 rfl
section
variable {α : Type} {w w' : World} {b m b2 B0 : Nat} {A : Option Addr} {c : Nat} {l : List α} {E T T2 : TypeId} {sz : Nat} {enc : α → List Value} {bcs cs : List Value}
theorem Blk.ts3(h:Blk w b2 T2 cs)(hts:TurnS (S3 b m A) w w')(hb:Blk w b T bcs)(hm:NC w m)(ho:Own w B0 E sz enc A c l)(h1:Nat.beq T2 T=false)(h2:Nat.beq E T2=false) : Blk w' b2 T2 cs:=by
 refine (hts.block b2 h.lt fun hk=>?_).trans h
 rcases hk with e|e|hk
 ·exact h.ne hb h1 e
 ·subst e;exact hm _ _ _ h
 ·obtain ⟨_,_,cs',fz,h3⟩:=ho.block (k:=b2) (by rw [Xeh];exact hk)
  unfold Blk at h;rw [h3] at h;injection h with h;injection h with _ e _;subst e;simp at h2
end
def Sumr(w:World)(b m B0:Nat)(A:Option Addr)(c n:Nat)(ps:Pst) : Prop:=
 Blk w b 62 [.int .i64 (n:Int),.int .i64 (ps.v:Int),.int .i64 (ps.v:Int),.int .i64 0,.slice none 0 0,.slice none 0 0,.map (some m),.slice A n c]∧MapF w m ps.f∧Own w B0 34 2 encA A c ps.out
def psH(n:Nat)(ps:Pst)(q:Int) : Option Pst:=
 if 24≤n+ps.v then none else some ⟨foldA (sumS (aAt ps.out q) (varA (n+ps.v))) ps.f,ps.v+1,ps.out.set q.toNat (varA (n+ps.v))⟩
theorem Xfh{n:Nat}{ps:Pst}{q:Int}(h:24≤n+ps.v) : psH n ps q=none:=if_pos h
theorem X3j{n:Nat}{ps:Pst}{q:Int}(h:¬ 24≤n+ps.v) : psH n ps q=some ⟨foldA (sumS (aAt ps.out q) (varA (n+ps.v))) ps.f,ps.v+1,ps.out.set q.toNat (varA (n+ps.v))⟩:=if_neg h
theorem X8c{l:List Af}{q:Int}{n:Nat}(hl:l.length=n)(hq:0≤q∧q.toNat<n) : l[q.toNat]? = some (aAt l q):=by
 unfold aAt
 rw [List.getD_eq_getElem?_getD,List.getElem?_eq_getElem (by omega)];rfl
theorem Xrn{a b:Int}(ha:Mk a)(hb:Mk b) : xI a b=xI b a:=by
 obtain ⟨x,hx,rfl⟩:=ha.nat;obtain ⟨y,hy,rfl⟩:=hb.nat
 unfold xI
 rw [X17 (X0x hx) (X0x hy),X17 (X0x hy) (X0x hx),Nat.xor_comm]
theorem Xri{a b:Int}(ha:a=0∨a=1)(hb:b=0∨b=1) : xI a b=xI b a:=by
 rw [Xom ha hb,Xom hb ha]
 by_cases h:a=b
 ·rw [if_pos h,if_pos h.symm]
 ·rw [if_neg h,if_neg (Ne.symm h)]
theorem Xgi{u:Af}(h:AO u) : aXor u ⟨0,1⟩=⟨u.m,bits .xor .i64 u.t 1⟩:=by
 unfold aXor
 rw [Xrw h.1];rfl
theorem Xkc{u y:Af}(hu:AO u)(hy:AO y) : aXor u y=⟨bits .xor .i64 y.m u.m,bits .xor .i64 y.t u.t⟩:=by
 unfold aXor
 rw [Xrn hu.1 hy.1,Xri hu.2 hy.2];rfl
theorem Xjs(k:Int) : -8≤rotC k∧rotC k≤8:=by unfold rotC;repeat (first|omega|split)
theorem Xoc{α:Type}{l:List α}{i:Nat}(x:α)(h:i<l.length) : (l.set i x)[i]? = some x:=by simp [h]
theorem X74{α:Type}{l:List α}{i j:Nat}{x y:α}(h:i≠j)(hy:l[j]? = some y) : (l.set i x)[j]? = some y:=by rw [List.getElem?_set_ne h];exact hy
section
variable {n : Nat} {g : Gt}
theorem Xcs(h:gOk (n:Int) g=true) : 0≤g.a∧g.a.toNat<n:=by
 simp only [gOk,inR,Bool.and_eq_true,decide_eq_true_eq] at h
 obtain ⟨⟨h1,h2⟩,h3⟩:=h
 split at h3
 ·simp at h3;omega
 ·split at h3<;>simp at h3<;>omega
theorem X81(h:gOk (n:Int) g=true) : 0≤g.b∧g.b.toNat<n:=by
 simp only [gOk,inR,Bool.and_eq_true,decide_eq_true_eq] at h
 obtain ⟨⟨h1,h2⟩,h3⟩:=h
 split at h3
 ·simp at h3;omega
 ·split at h3<;>simp at h3<;>omega
theorem X65(h:gOk (n:Int) g=true)(hk:9≤g.k∧g.k≤11) : g.a.toNat≠g.b.toNat:=by
 have ha:=(Xcs h).1;have hb:=(X81 h).1
 simp only [gOk,inR,Bool.and_eq_true,decide_eq_true_eq] at h
 obtain ⟨⟨h1,h2⟩,h3⟩:=h
 rw [if_neg (by omega),if_pos hk] at h3
 simp at h3
 omega
end
section
variable {n : Nat} {ps : Pst} {g : Gt}
theorem X7n(h1:g.k=1) : psStep n ps g=psH n ps g.a:=by unfold psStep psH;rw [if_pos h1]
theorem X8r(h1:¬ g.k=1)(h2:g.k=2) : psStep n ps g=some ⟨ps.f,ps.v,ps.out.set g.a.toNat (aXor (aAt ps.out g.a) ⟨0,1⟩)⟩:=by unfold psStep;rw [if_neg h1,if_pos h2]
theorem X8q(h1:¬ g.k=1)(h2:¬ g.k=2)(h3:g.k=3) : psStep n ps g=some ⟨expP (padd ps.f 0 2) 4 (aAt ps.out g.a) 0,ps.v,ps.out.set g.a.toNat (aXor (aAt ps.out g.a) ⟨0,1⟩)⟩:=by unfold psStep;rw [if_neg h1,if_neg h2,if_pos h3]
theorem X8e(h1:¬ g.k=1)(h2:¬ g.k=2)(h3:¬ g.k=3)(h9:g.k=9) : psStep n ps g=some ⟨ps.f,ps.v,ps.out.set g.b.toNat (aXor (aAt ps.out g.a) (aAt ps.out g.b))⟩:=by unfold psStep;rw [if_neg h1,if_neg h2,if_neg h3,if_pos h9]
theorem X5z(h1:¬ g.k=1)(h2:¬ g.k=2)(h3:¬ g.k=3)(h9:¬ g.k=9)(h10:g.k=10) : psStep n ps g=some ⟨foldA (sumS (aAt ps.out g.a) (aAt ps.out g.b)) ps.f,ps.v,ps.out⟩:=by unfold psStep;rw [if_neg h1,if_neg h2,if_neg h3,if_neg h9,if_pos h10]
theorem X53(h1:¬ g.k=1)(h2:¬ g.k=2)(h3:¬ g.k=3)(h9:¬ g.k=9)(h10:¬ g.k=10)(h11:g.k=11) : psStep n ps g=some ⟨ps.f,ps.v,(ps.out.set g.a.toNat (aAt ps.out g.b)).set g.b.toNat (aAt ps.out g.a)⟩:=by unfold psStep;rw [if_neg h1,if_neg h2,if_neg h3,if_neg h9,if_neg h10,if_pos h11]
theorem X5s(h1:¬ g.k=1)(h2:¬ g.k=2)(h3:¬ g.k=3)(h9:¬ g.k=9)(h10:¬ g.k=10)(h11:¬ g.k=11)(h12:g.k=12) : psStep n ps g=some ⟨padd ps.f 0 1,ps.v,ps.out⟩:=by unfold psStep;rw [if_neg h1,if_neg h2,if_neg h3,if_neg h9,if_neg h10,if_neg h11,if_pos h12]
theorem X92(h1:¬ g.k=1)(h2:¬ g.k=2)(h3:¬ g.k=3)(h9:¬ g.k=9)(h10:¬ g.k=10)(h11:¬ g.k=11)(h12:¬ g.k=12) : psStep n ps g=some ⟨expP ps.f (rotC g.k) (aAt ps.out g.a) 0,ps.v,ps.out⟩:=by unfold psStep;rw [if_neg h1,if_neg h2,if_neg h3,if_neg h9,if_neg h10,if_neg h11,if_neg h12]
end
end Go.Proofs.YtiejkplemjkjoaaGreat
namespace Go.Proofs.YtiejkplemjkjoaaGreat
open Go.RowKit Go.Sort Go.Shelf Go.Lib
def sortTm_ren:Go.Shelf.Ren:=⟨fun|6=>55|15=>85|14=>84|28=>113|29=>114|20=>105|21=>106|22=>107|23=>108|24=>109|25=>110|26=>111|27=>112|46=>125|47=>126|48=>127|49=>128|50=>129|57=>132|n=>n,fun|22=>27|24=>76|25=>102|3=>3|39=>67|0=>0|53=>126|55=>49|4=>4|46=>139|45=>138|50=>143|5=>5|9=>9|66=>153|70=>157|76=>161|77=>80|n=>n,fun|n=>n⟩
theorem Xme:SlLaysF0.n6 Tryz.prog sortTm_ren:={
 mixed:=by kernel_rfl
 f6:=⟨Tryz.f55.name,by decide,Tryz.func55.trans (congrArg some (by kernel_rfl))⟩
 f14:=⟨Tryz.f84.name,by decide,Tryz.func84.trans (congrArg some (by kernel_rfl))⟩
 f15:=Tryz.func85.trans (congrArg some (by kernel_rfl))
 f20:=⟨Tryz.f105.name,by decide,Tryz.func105.trans (congrArg some (by kernel_rfl))⟩
 f21:=⟨Tryz.f106.name,by decide,Tryz.func106.trans (congrArg some (by kernel_rfl))⟩
 f22:=⟨Tryz.f107.name,by decide,Tryz.func107.trans (congrArg some (by kernel_rfl))⟩
 f23:=⟨Tryz.f108.name,by decide,Tryz.func108.trans (congrArg some (by kernel_rfl))⟩
 f24:=⟨Tryz.f109.name,by decide,Tryz.func109.trans (congrArg some (by kernel_rfl))⟩
 f25:=⟨Tryz.f110.name,by decide,Tryz.func110.trans (congrArg some (by kernel_rfl))⟩
 f26:=⟨Tryz.f111.name,by decide,Tryz.func111.trans (congrArg some (by kernel_rfl))⟩
 f27:=⟨Tryz.f112.name,by decide,Tryz.func112.trans (congrArg some (by kernel_rfl))⟩
 f28:=Tryz.func113.trans (congrArg some (by kernel_rfl))
 f29:=Tryz.func114.trans (congrArg some (by kernel_rfl))
 f46:=⟨Tryz.f125.name,by decide,Tryz.func125.trans (congrArg some (by kernel_rfl))⟩
 f47:=Tryz.func126.trans (congrArg some (by kernel_rfl))
 f48:=Tryz.func127.trans (congrArg some (by kernel_rfl))
 f49:=⟨Tryz.f128.name,by decide,Tryz.func128.trans (congrArg some (by kernel_rfl))⟩
 f50:=⟨Tryz.f129.name,by decide,Tryz.func129.trans (congrArg some (by kernel_rfl))⟩
 f57:=⟨Tryz.f132.name,by decide,Tryz.func132.trans (congrArg some (by kernel_rfl))⟩
 t0:=Tryz.underlying0
 a0:=Tryz.isAgg0
 z0:=Tryz.sizeOf0
 v0:=Tryz.zeroValue0
 t3:=Tryz.underlying3
 a3:=Tryz.isAgg3
 z3:=Tryz.sizeOf3
 v3:=Tryz.zeroValue3
 t4:=Tryz.underlying4
 a4:=Tryz.isAgg4
 z4:=Tryz.sizeOf4
 v4:=Tryz.zeroValue4
 t5:=Tryz.underlying5
 a5:=Tryz.isAgg5
 z5:=Tryz.sizeOf5
 v5:=Tryz.zeroValue5
 t9:=Tryz.underlying9
 a9:=Tryz.isAgg9
 z9:=Tryz.sizeOf9
 v9:=Tryz.zeroValue9
 t22:=Tryz.underlying27
 a22:=Tryz.isAgg27
 z22:=Tryz.sizeOf27
 v22:=Tryz.zeroValue27
 t25:=Tryz.underlying102
 a25:=Tryz.isAgg102
 z25:=Tryz.sizeOf102
 v25:=Tryz.zeroValue102
 t39:=Tryz.underlying67
 a39:=Tryz.isAgg67
 z39:=Tryz.sizeOf67
 v39:=Tryz.zeroValue67
 t45:=Tryz.underlying138
 a45:=Tryz.isAgg138
 z45:=Tryz.sizeOf138
 v45:=Tryz.zeroValue138
 t46:=Tryz.underlying139
 a46:=Tryz.isAgg139
 z46:=Tryz.sizeOf139
 v46:=Tryz.zeroValue139
 t50:=Tryz.underlying143
 a50:=Tryz.isAgg143
 z50:=Tryz.sizeOf143
 v50:=Tryz.zeroValue143
 t53:=Tryz.underlying126
 a53:=Tryz.isAgg126
 z53:=Tryz.sizeOf126
 v53:=Tryz.zeroValue126
 t55:=Tryz.underlying49
 a55:=Tryz.isAgg49
 z55:=Tryz.sizeOf49
 v55:=Tryz.zeroValue49
 t66:=Tryz.underlying153
 a66:=Tryz.isAgg153
 z66:=Tryz.sizeOf153
 v66:=Tryz.zeroValue153
 t70:=Tryz.underlying157
 a70:=Tryz.isAgg157
 z70:=Tryz.sizeOf157
 v70:=Tryz.zeroValue157
 t76:=Tryz.underlying161
 a76:=Tryz.isAgg161
 z76:=Tryz.sizeOf161
 v76:=Tryz.zeroValue161
 t77:=Tryz.underlying80
 a77:=Tryz.isAgg80
 z77:=Tryz.sizeOf80
 v77:=Tryz.zeroValue80 }
structure Mt where (v:Tm) (h:0≤v.m∧v.m<16777216)
instance:Inhabited Mt:=⟨⟨⟨0,0⟩,by decide,by decide⟩⟩
def encM(x:Mt) : List Value:=encT x.1
theorem Xx2(x y:Mt)(W:World) : Calls Tryz.prog 56 #[.agg #[.int .i64 x.1.m,.int .i64 x.1.c],.agg #[.int .i64 y.1.m,.int .i64 y.1.c]] W fun e w'=>e=.returned (.int .i64 (x.1.m-y.1.m))∧∃ q os',w'=grow (W.drewN q) os':=by
 have hw:IntKind.i64.wrap (x.1.m-y.1.m)=x.1.m-y.1.m:=IntWalk.i64_in _ (by have:=x.2;have:=y.2;omega)
 go_enter Tryz.func56,Tryz.ntmps56
 go_wp2
 go_ret
 exact ⟨rfl,0,_,by rw [alloc_eq_grow,alloc_eq_grow,grow_grow];rfl⟩
theorem Xbh{α:Type}[Inhabited α]{enc:α→List Value}{k:Nat}(hk:∀ x,(enc x).length=k)(L:List α) : (flatK enc k L.toArray).toList=L.flatMap enc:=by
 apply List.ext_getElem?
 intro t
 by_cases h:t<L.length*k
 ·obtain ⟨x,h1,h2⟩:=X6w hk h
  have hk0:0<k:=by
   rcases Nat.eq_zero_or_pos k with e|e
   ·subst e;simp at h
   ·exact e
  have h3:t % k<(enc x).length:=by rw [hk];exact Nat.mod_lt _ hk0
  have h4:t/k<L.length:=(List.getElem?_eq_some_iff.1 h1).1
  rw [h2,Array.getElem?_toList]
  have e1:L[t/k]! = x:=by rw [List.getElem!_eq_getElem?_getD,h1];rfl
  have e2:L[t/k]?.getD default=x:=by rw [h1];rfl
  simp [flatK,h,e2,h3]
 ·rw [List.getElem?_eq_none (by simp [flatK];omega),List.getElem?_eq_none (by rw [Xl hk];omega)]
theorem Xl9{w:World}{g n:Nat}{os:Array Obj}{cur:Array Value}{e:TypeId}{fr:Nat×Nat}(d:Array Value)(hb:w.heap[g]? = some (.cells cur e fr)) :
  (grow (putRow id (Sort.ahead w n) g 0 d) os).heap[g]? = some (.cells (putCells id 0 d cur) e fr):=by
 have hg:g<w.heap.size:=(Array.getElem?_eq_some_iff.1 hb).1
 rw [heap_grow_old _ _ (by simpa using hg)]
 simp [putRow,mapBlock,Sort.ahead,Array.getElem?_modify,hb,onCells]
theorem Xh5{w:World}{g n:Nat}{os:Array Obj}(d:Array Value) : w.grownBy (grow (putRow id (Sort.ahead w n) g 0 d) os) (some g):=by
 refine ⟨rfl,rfl,rfl,by simp,fun k hk hne=>?_⟩
 rw [heap_grow_old _ _ (by simpa using hk)]
 have:g≠k:=fun e=>hne (by rw [e])
 simp [putRow,mapBlock,Sort.ahead,Array.getElem?_modify,this]
theorem Xku(cur F:Array Value)(h:F.size≤cur.size) : (putCells id 0 F cur).toList.take F.size=F.toList:=by
 apply List.ext_getElem?
 intro j
 by_cases hj:j<F.size
 ·rw [List.getElem?_take_of_lt hj,Array.getElem?_toList,Array.getElem?_toList]
  simp [putCells,hj,show j<cur.size by omega]
 ·rw [List.getElem?_take_eq_none (by omega),List.getElem?_eq_none (by simp;omega)]
theorem Xwg{w:World}{g:Nat}{cur:Array Value}{e:TypeId}{F:Array Value}(hb:w.heap[g]? = some (.cells cur e (0,0)))(ht:cur.toList.take F.size=F.toList) : Holds id w g 0 F:=by
 intro j hj
 refine ⟨?_,by simp [World.frozen?,hb]⟩
 have h1:(cur.toList.take F.size)[j]? = F.toList[j]?:=by rw [ht]
 rw [List.getElem?_take_of_lt hj] at h1
 simp only [World.cell?,hb,Nat.zero_add]
 simp only [Option.isSome_none,Bool.false_eq_true,if_false]
 rw [← Array.getElem?_toList,h1]
 simp [hj]
theorem Xbv(x:Mt) : (encM x).length=2:=rfl
theorem Xco(L:List Mt) : L.flatMap encM=(L.map Mt.v).flatMap encT:=by
 induction L with
 | nil=>rfl
 | cons x L ih=>rw [List.flatMap_cons,List.map_cons,List.flatMap_cons,ih];rfl
theorem ltM(x y:Mt) : ltOf (fun x y:Mt=>x.1.m-y.1.m) x y=decide (x.1.m<y.1.m):=by
 unfold ltOf
 apply Bool.eq_iff_iff.2
 simp only [decide_eq_true_eq]
 omega
theorem Y1d:SWO (ltOf fun x y:Mt=>x.1.m-y.1.m) where
 irrefl x:=by rw [ltM];simp
 trans x y z h1 h2:=by rw [ltM] at *;simp at *;omega
 ntrans x y z h1 h2:=by rw [ltM] at *;simp at *;omega
theorem Xpf(blk off size:Nat)(w:World) : CmpLays Tryz.prog 56 #[] encM 2 (fun x y:Mt=>x.1.m-y.1.m) blk off size w:=fun _ _ _ _ x y=>Xx2 x y _
theorem Xu2:∀ l:List Tm,(∀ t ∈ l,0≤t.m∧t.m<16777216)→∃ L:List Mt,L.map Mt.v=l
 | [],_=>⟨[],rfl⟩
 | t::l,h=>by
  obtain ⟨L,hL⟩:=Xu2 l fun x hx=>h x (List.mem_cons_of_mem _ hx)
  exact ⟨⟨t,h t (by simp)⟩::L,by rw [List.map_cons,hL]⟩
theorem Xzs(w0:World)(B0:Nat)(A:Option Addr)(c:Nat)(l:List Tm)(ho:Own w0 B0 76 2 encT A c l)(hl:l.length≤100000000)(hm:∀ t ∈ l,0≤t.m∧t.m<16777216)(hn:l.Pairwise fun x y=>x.m≠y.m) :
  Ret Tryz.prog 55 [.slice A l.length c,.func (.func 56) #[] #[]] w0 (fun v w=>v=.tuple #[]∧(∃ l',l'.Perm l∧Rise l'∧Own w B0 76 2 encT A c l')∧w0.grownBy w (Value.slice A l.length c).ownBlock):=by
 by_cases h0:l=[]
 ·subst h0
  refine Calls.mono (AnyF.slices_SortFunc_none Xme A c _ w0) fun e w ⟨e1,e2⟩=>⟨_,e1,?_⟩
  subst e2
  exact ⟨rfl,⟨[],List.Perm.refl _,List.Pairwise.nil,ho⟩,World.grownBy.refl w _⟩
 ·rcases ho.2 with ⟨h1,h2⟩|⟨g,cap,cur,h1,h2,h3,h4,h5,h6,h7⟩
  ·exact absurd (List.eq_nil_of_length_eq_zero h2) h0
  ·injection h1 with h1 _ h1''
   subst h1;subst h1''
   obtain ⟨L,hL⟩:=Xu2 l hm
   have hLl:L.length=l.length:=by rw [← hL,List.length_map]
   have hfl:(flatK encM 2 L.toArray).toList=l.flatMap encT:=by rw [Xbh Xbv,Xco,hL]
   have hfs:(flatK encM 2 L.toArray).size=l.length*2:=by simp [hLl]
   have hH:HoldsK encM 2 w0 g 0 L.toArray:=Xwg h3 (by rw [hfs,hfl];exact h7)
   have eg:Enters Tryz.prog 56:=enters_of Tryz.func56 (by kernel_rfl) rfl
   have hcon:=AnyQ.slices_SortFunc Xme 2 Tryz.isAgg76 Tryz.sizeOf76 encM Xbv (fun x v hv=>by simp [encM,encT] at hv;rcases hv with rfl|rfl<;>rfl) (fun x y=>x.1.m-y.1.m) Y1d _ #[] g 0 c L.toArray w0 eg (Xpf _ _ _ _) hH (Array.getElem?_eq_some_iff.1 h3).1 (by simp [hLl];omega)
   have hcon2:Calls Tryz.prog 55 #[.slice (some ⟨g,0,none⟩) l.length c,.func (.func 56) #[] #[]] w0 fun e w'=>e=.returned (.tuple #[])∧∃ d' n os,PermIn 0 L.toArray.size L.toArray d'∧SortedIn (ltOf fun x y:Mt=>x.1.m-y.1.m) 0 L.toArray.size d'∧w'=sortWorldK encM 2 w0 g 0 n d' os:=by
    have e:L.toArray.size=l.length:=by simp [hLl]
    rw [e] at hcon ⊢
    exact hcon
   refine Calls.mono hcon2 fun e w ⟨e1,d',n,os,hp,hs,e2⟩=>⟨_,e1,rfl,?_⟩
   subst e2
   have hd:d'.size=l.length:=by rw [hp.1];simp [hLl]
   have hperm:d'.toList.Perm L:=by
    have:=hp.2.2
    rw [← hp.1] at this
    simpa [List.take_of_length_le (show L.length≤d'.size by omega)] using this
   have hpl:(d'.toList.map Mt.v).Perm l:=by
    have:=hperm.map Mt.v
    rw [hL] at this
    exact this
   have hfs2:(flatK encM 2 d').size=l.length*2:=by simp [hd]
   have hfl2:(flatK encM 2 d').toList=(d'.toList.map Mt.v).flatMap encT:=by
    have:=Xbh Xbv d'.toList
    rw [Array.toArray_toList] at this
    rw [this,Xco]
   have hcur:(flatK encM 2 d').size≤cur.size:=by
    have:=congrArg List.length h7
    rw [List.length_take,Xl X0m] at this
    rw [hfs2]
    have h8:cur.toList.length=cur.size:=Array.length_toList
    omega
   have hlen:(d'.toList.map Mt.v).length=l.length:=by simp [hd]
   refine ⟨⟨d'.toList.map Mt.v,hpl,?_,⟨Xl X0m _,.inr ⟨g,c,_,by rw [hlen],h2,Xl9 _ h3,by rw [hlen];omega,h5,by simp [putCells,h6],?_⟩⟩⟩,?_⟩
   ·unfold Rise
    have hne:(d'.toList.map Mt.v).Pairwise fun x y=>x.m≠y.m:=hpl.symm.pairwise hn (fun h=>Ne.symm h)
    rw [List.pairwise_iff_getElem] at hne ⊢
    intro i j hi hj hij
    have hi':i<d'.size:=by simpa using hi
    have hj':j<d'.size:=by simpa using hj
    have h9:=hs i j (Nat.zero_le _) hij (by rw [← hp.1];exact hj')
    rw [ltM] at h9
    have h10:=hne i j hi hj hij
    simp only [List.getElem_map,Array.getElem_toList] at h10 ⊢
    rw [getElem!_pos d' i hi',getElem!_pos d' j hj'] at h9
    have h9:=of_decide_eq_false h9
    omega
   ·have:=Xku cur (flatK encM 2 d') hcur
    rw [hfs2,hfl2] at this
    rw [hlen];exact this
   ·exact Xh5 _
end Go.Proofs.YtiejkplemjkjoaaGreat
namespace Go.Proofs.YtiejkplemjkjoaaGreat
open Go.RowKit
structure Gath (f:Int→Int) (left:Int→Bool) (l:List Tm) : Prop where
 mem:∀ t:Tm,t ∈ l↔0<t.m∧f t.m≠0∧t.c=f t.m∧left t.m=false
 nd:l.Pairwise fun x y=>x.m≠y.m
theorem Gath.start{f:Int→Int}{left:Int→Bool}(h:∀ x,f x≠0→left x=true) : Gath f left []:=
 ⟨fun t=>⟨fun h=>(by cases h),fun ⟨_,h2,_,h4⟩=>by rw [h _ h2] at h4;cases h4⟩,List.Pairwise.nil⟩
theorem Xer{left:Int→Bool}{k x:Int} : (left x&&x != k)=false↔left x=false∨x=k:=by
 cases h:left x<;>simp
theorem Gath.push{f:Int→Int}{left:Int→Bool}{l:List Tm}{k:Int}(h:Gath f left l)(hk:left k=true)(h1:0<k)(h2:0<f k) : Gath f (fun x=>left x&&x != k) (l++[⟨k,f k⟩]):=by
 refine ⟨fun t=>?_,?_⟩
 ·rw [List.mem_append,List.mem_singleton,h.mem,Xer]
  constructor
  ·rintro (⟨a,b,c,d⟩|rfl)
   ·exact ⟨a,b,c,.inl d⟩
   ·exact ⟨h1,by show f k≠0;omega,rfl,.inr rfl⟩
  ·rintro ⟨a,b,c,d|d⟩
   ·exact .inl ⟨a,b,c,d⟩
   ·right
    obtain ⟨m,v⟩:=t
    simp only at c d
    rw [c,d]
 ·rw [List.pairwise_append]
  refine ⟨h.nd,List.pairwise_singleton _ _,fun x hx y hy=>?_⟩
  rw [List.mem_singleton.1 hy]
  intro e
  have:=((h.mem x).1 hx).2.2.2
  rw [show x.m=k from e,hk] at this;cases this
theorem Gath.skip{f:Int→Int}{left:Int→Bool}{l:List Tm}{k:Int}(h:Gath f left l)(hn:¬ (0<k∧f k≠0)) : Gath f (fun x=>left x&&x != k) l:=by
 refine ⟨fun t=>?_,h.nd⟩
 rw [h.mem,Xer]
 constructor
 ·rintro ⟨a,b,c,d⟩;exact ⟨a,b,c,.inl d⟩
 ·rintro ⟨a,b,c,d|d⟩
  ·exact ⟨a,b,c,d⟩
  ·rw [d] at a b;exact absurd ⟨a,b⟩ hn
theorem Gath.sub{f:Int→Int}{left:Int→Bool}{l:List Tm}(h:Gath f left l)(hs:SupF f) : ∀ t ∈ l,t ∈ tms f:=fun t ht=>by
 obtain ⟨a,b,c,_⟩:=(h.mem t).1 ht;exact ((X2l f).mem t).2 ⟨a,(hs _ b).2,c,b⟩
theorem X7c{α:Type}[DecidableEq α] : ∀ {l U:List α},l.Nodup→(∀ x ∈ l,x ∈ U)→l.length≤U.length
 | [],_,_,_=>Nat.zero_le _
 | x::l,U,hn,hs=>by
  rw [List.nodup_cons] at hn
  have hx:=hs x (by simp)
  have:=X7c (l:=l) (U:=U.erase x) hn.2 fun y hy=>(List.mem_erase_of_ne (by rintro rfl;exact hn.1 hy)).2 (hs y (List.mem_cons_of_mem _ hy))
  rw [List.length_erase_of_mem hx] at this
  have h0:0<U.length:=List.length_pos_of_mem hx
  rw [List.length_cons];omega
theorem Xc0:∀ {T:List Tm} {lo hi:Int},Rise T→(∀ t ∈ T,lo<t.m∧t.m<hi)→(T.length:Int)≤max 0 (hi-lo-1)
 | [],_,_,_,_=>by simp;omega
 | t::T,lo,hi,hr,hb=>by
  unfold Rise at hr
  rw [List.pairwise_cons] at hr
  have h1:=hb t (by simp)
  have:=Xc0 (T:=T) (lo:=t.m) (hi:=hi) hr.2 fun x hx=>⟨hr.1 x hx,(hb x (List.mem_cons_of_mem _ hx)).2⟩
  rw [List.length_cons];omega
theorem X88(f:Int→Int) : (tms f).length≤16777216:=by
 have:=Xc0 (lo:=0) (hi:=16777216) (X2l f).rise fun t ht=>by
  obtain ⟨a,b,_⟩:=((X2l f).mem t).1 ht;exact ⟨a,b⟩
 omega
theorem Gath.len{f:Int→Int}{left:Int→Bool}{l:List Tm}(h:Gath f left l)(hs:SupF f) : l.length≤16777216:=by
 refine Nat.le_trans (X7c ?_ (h.sub hs)) (X88 f)
 exact h.nd.imp fun h1 e=>h1 (by rw [e])
theorem Gath.end{f:Int→Int}{left:Int→Bool}{l l':List Tm}(h:Gath f left l)(hs:SupF f)(he:∀ x,left x=false)(hp:l'.Perm l)(hr:Rise l') : l'=tms f:=by
 refine IsT.eq ⟨hr,fun t=>?_⟩
 rw [hp.mem_iff,h.mem]
 constructor
 ·rintro ⟨a,b,c,_⟩;exact ⟨a,(hs _ b).2,c,b⟩
 ·rintro ⟨a,_,c,b⟩;exact ⟨a,b,c,he _⟩
theorem Xxl(w0:World)(B0:Nat)(A:Option Addr)(c:Nat)(l:List Tm)(f:Int→Int)(left:Int→Bool)(ho:Own w0 B0 76 2 encT A c l)(hg:Gath f left l)(hs:SupF f)(he:∀ x,left x=false) :
  Ret Tryz.prog 55 [.slice A l.length c,.func (.func 56) #[] #[]] w0 (fun v w=>v=.tuple #[]∧Own w B0 76 2 encT A c (tms f)∧w0.grownBy w (Value.slice A l.length c).ownBlock):=by
 have hl:=hg.len hs
 refine (Xzs w0 B0 A c l ho (by omega) (fun t ht=>?_) hg.nd).mono fun v w ⟨h1,⟨l',hp,hr,ho'⟩,h3⟩=>⟨h1,?_,h3⟩
 ·obtain ⟨a,b,_⟩:=(hg.mem t).1 ht;exact ⟨by omega,(hs _ b).2⟩
 ·rw [← hg.end hs he hp hr];exact ho'
theorem Gath.leneq{f:Int→Int}{left:Int→Bool}{l:List Tm}(h:Gath f left l)(hs:SupF f)(he:∀ x,left x=false) : l.length=(tms f).length:=by
 refine Nat.le_antisymm (X7c (h.nd.imp fun h1 e=>h1 (by rw [e])) (h.sub hs)) (X7c (l:=tms f) ((X2l f).rise.imp fun {a b} h1 e=>by rw [e] at h1;omega) fun t ht=>?_)
 obtain ⟨a,_,c,b⟩:=((X2l f).mem t).1 ht;exact (h.mem t).2 ⟨a,b,c,he _⟩
abbrev psV(A:Option Addr)(c:Nat)(B:Option Addr)(d:Nat)(p:Ps) : Value:=.agg #[.int .i64 p.ins,.int .i64 p.vars,.int .i64 p.root,.int .i64 p.phase,.slice A p.ts.length c,.slice B p.out.length d]
theorem Xb7(k:Nat) : varsN (k+1)=varsN k++[varA k]:=by simp [varsN,List.range_succ]
theorem X4c(k:Nat) : (varsN k).length=k:=by simp [varsN]
theorem X2b{n:Nat}{l:List Gt}{i:Nat}{u:Gt}{s t:Pst}(h:l[i]? = some u)(h1:psAll n (l.take i) s=some t) : psAll n (l.take (i+1)) s=psStep n t u:=by
 rw [List.take_add_one,h]
 show psAll n (l.take i++[u]) s=_
 rw [Xc2,h1];rfl
theorem Xcq{n:Nat} : ∀ {l m:List Gt} {s:Pst},psAll n l s=none→psAll n (l++m) s=none
 | [],_,_,h=>by cases h
 | g::l,m,s,h=>by
  show (psStep n s g).bind (psAll n (l++m))=none
  have h:(psStep n s g).bind (psAll n l)=none:=h
  cases e:psStep n s g with
  | none=>rfl
  | some t=>rw [e] at h;exact Xcq (l:=l) h
theorem Xgo{n:Nat}{l:List Gt}{i:Nat}{s:Pst}(h:psAll n (l.take i) s=none) : psAll n l s=none:=by
 have:=Xcq (m:=l.drop i) h
 rw [List.take_append_drop] at this
 exact this
def psO(c:Cx) : Option Ps:=if cOk c then psC c else none
theorem Xc9{c:Cx}(h:cOk c=true) : ∃ n:Nat,c.n=(n:Int)∧1≤n∧n≤5:=by
 simp only [cOk,inR,Bool.and_eq_true,decide_eq_true_eq] at h
 exact ⟨c.n.toNat,by omega,by omega,by omega⟩
theorem Xj7{c:Cx}(h:cOk c=true) : c.gs.length≤400:=by
 simp only [cOk,inR,Bool.and_eq_true,decide_eq_true_eq] at h
 omega
theorem Xu0{c:Cx}{n i:Nat}{u:Gt}(h:cOk c=true)(hn:c.n=(n:Int))(hu:c.gs[i]? = some u) : gOk (n:Int) u=true:=by
 simp only [cOk,Bool.and_eq_true] at h
 have h2:=h.2
 rw [Bool.not_eq_true',List.any_eq_false] at h2
 have:=h2 u (List.mem_of_getElem? hu)
 rw [← hn]
 simpa using this
theorem Xf3{c:Cx}{n i:Nat}{u:Gt}{t:Pst}(hn:c.n=(n:Int))(hu:c.gs[i]? = some u)(h1:psAll n (c.gs.take i) (ps0 n)=some t)(h2:psStep n t u=none) : psC c=none:=by
 unfold psC
 rw [hn,Int.toNat_natCast,Xgo (i:=i+1) (by rw [X2b hu h1];exact h2)];rfl
theorem Xg9{c:Cx}{n:Nat}{t:Pst}(hn:c.n=(n:Int))(h1:psAll n c.gs (ps0 n)=some t) : psC c=some ⟨(n:Int),t.v,t.v,t.f 0,tms t.f,t.out⟩:=by
 unfold psC
 rw [hn,Int.toNat_natCast,h1];rfl
theorem Xm1{c:Cx}(h:cOk c=false) : psO c=none:=by unfold psO;rw [h];rfl
theorem Xlp{c:Cx}{n i:Nat}{u:Gt}{t:Pst}(h:cOk c=true)(hn:c.n=(n:Int))(hu:c.gs[i]? = some u)(h1:psAll n (c.gs.take i) (ps0 n)=some t)(h2:psStep n t u=none) : psO c=none:=by
 unfold psO;rw [if_pos h];exact Xf3 hn hu h1 h2
theorem Xof{c:Cx}{n:Nat}{t:Pst}(h:cOk c=true)(hn:c.n=(n:Int))(h1:psAll n c.gs (ps0 n)=some t) : psO c=some ⟨(n:Int),t.v,t.v,t.f 0,tms t.f,t.out⟩:=by
 unfold psO;rw [if_pos h];exact Xg9 hn h1
theorem Xi8{k r:Int}{a:Af}(ha:AO a)(hr:Mk r) : ∀ p ∈ expL k a r,Mk p.1:=fun p hp=>by
 have hX:=fun k n=>X6x (k:=k) (r:=r) (Q:=Mk) (l:=lows a.m) (fun _ _ h1 h2=>h1.or h2) Mk.zero (fun x hx=>by
  obtain ⟨M,hM,e⟩:=ha.1.nat
  rw [e] at hx
  unfold lows at hx
  obtain ⟨q,hq,rfl⟩:=List.mem_map.1 hx
  have hq:M.testBit q=true:=(X1j (X0x hM)).1 hq
  refine Mk.of ?_
  rcases Nat.lt_or_ge q 24 with h'|h'
  ·exact Nat.pow_lt_pow_right (by decide) h'
  ·rw [Nat.testBit_lt_two_pow (Nat.lt_of_lt_of_le hM (Nat.pow_le_pow_right (by decide) h'))] at hq;cases hq) hr n
 unfold expL at hp
 split at hp
 ·rcases List.mem_cons.1 hp with rfl|hp
  ·exact hr
  ·exact hX _ _ p hp
 ·exact hX _ _ p hp
theorem X3z{m x:Int}(h:Mk m)(hx:x ∈ lows m) : Mk x:=by
 obtain ⟨M,hM,rfl⟩:=h.nat
 unfold lows at hx
 obtain ⟨q,hq,rfl⟩:=List.mem_map.1 hx
 have hq:M.testBit q=true:=(X1j (X0x hM)).1 hq
 refine Mk.of ?_
 rcases Nat.lt_or_ge q 24 with h'|h'
 ·exact Nat.pow_lt_pow_right (by decide) h'
 ·rw [Nat.testBit_lt_two_pow (Nat.lt_of_lt_of_le hM (Nat.pow_le_pow_right (by decide) h'))] at hq;cases hq
theorem Xax{u v:Af}(hu:Mk u.m)(hv:Mk v.m) : ∀ p ∈ sumS u v,Mk p.1:=fun p hp=>by
 unfold sumS at hp
 rcases List.mem_append.1 hp with hp|hp
 ·rcases List.mem_append.1 hp with hp|hp
  ·obtain ⟨x,hx,hp⟩:=List.mem_flatMap.1 hp
   rcases List.mem_append.1 hp with hp|hp
   ·obtain ⟨y,hy,rfl⟩:=List.mem_map.1 hp;exact (X3z hu hx).or (X3z hv hy)
   ·rw [List.mem_singleton.1 hp];exact X3z hu hx
  ·obtain ⟨y,hy,rfl⟩:=List.mem_map.1 hp;exact X3z hv hy
 ·rw [List.mem_singleton.1 hp];exact Mk.zero
theorem SupF.pad{f:Int→Int}(h:SupF f)(hp:PO f){m k:Int}(hm:Mk m) : SupF (padd f m k):=SupF.fold (L:=[(m,k)]) (fun p h=>by rw [List.mem_singleton.1 h];exact hm) hp h
theorem SupF.exp{f:Int→Int}(h:SupF f)(hp:PO f){k r:Int}{a:Af}(ha:AO a)(hr:Mk r) : SupF (expP f k a r):=by
 rw [X2f]
 exact SupF.fold (Xi8 ha hr) hp h
theorem SupF.step{n:Nat}{s t:Pst}{g:Gt}(hs:SupF s.f)(h:PsOk n s)(e:psStep n s g=some t) : SupF t.f:=by
 have hu:=AO.at h.all g.a;have hv:=AO.at h.all g.b
 unfold psStep at e
 split at e
 ·split at e
  ·cases e
  ·injection e with e;subst e
   exact SupF.fold (Xax hu.1 (AO.var (by omega)).1) h.po hs
 ·split at e
  ·injection e with e;subst e;exact hs
  ·split at e
   ·injection e with e;subst e
    exact SupF.exp (hs.pad h.po Mk.zero) (h.po.padd _ _) hu Mk.zero
   ·split at e
    ·injection e with e;subst e;exact hs
    ·split at e
     ·injection e with e;subst e
      exact SupF.fold (Xax hu.1 hv.1) h.po hs
     ·split at e
      ·injection e with e;subst e;exact hs
      ·split at e
       ·injection e with e;subst e
        exact hs.pad h.po Mk.zero
       ·injection e with e;subst e
        exact hs.exp h.po hu Mk.zero
theorem SupF.zero:SupF (fun _=>0):=fun _ h=>absurd rfl h
def tZ:Tm:=⟨0,0⟩
theorem Xa4{l:List Tm}{i:Nat}(h:i<l.length) : l[i]? = some (l.getD i tZ):=by
 rw [List.getD_eq_getElem?_getD,List.getElem?_eq_getElem h];rfl
theorem Xeo{a:Int}(h:0≤a) : a.tmod 8=a % 8:=Int.tmod_eq_emod_of_nonneg h
theorem Xld{f:Int→Int}(hp:PO f){m k:Int}(h:k % 8=0) : padd f m k=f:=by
 have:=hp m
 funext x
 unfold padd upd
 split
 ·rename_i e;subst e;omega
 ·rfl
section
variable {f : Int → Int} {m k : Int} {i : Nat}
theorem Xr4(hp:∀ t ∈ (tms f).take i,t.m<m)(hi:i<(tms f).length)(h:((tms f).getD i tZ).m<m) : ∀ t ∈ (tms f).take (i+1),t.m<m:=fun t ht=>by
 rw [List.take_add_one,Xa4 hi] at ht
 rcases List.mem_append.1 ht with ht|ht
 ·exact hp t ht
 ·simp at ht;rw [ht];exact h
theorem Xi0(hi:i<(tms f).length) : tms f=(tms f).take i++[(tms f).getD i tZ]++(tms f).drop (i+1):=by
 have h:=List.getElem?_eq_getElem hi
 have e:(tms f).getD i tZ=(tms f)[i]:=by rw [List.getD_eq_getElem?_getD,h];rfl
 rw [e,List.append_assoc,List.singleton_append,List.getElem_cons_drop,List.take_append_drop]
theorem Xd2(hi:i<(tms f).length) : ∀ t ∈ (tms f).drop (i+1),((tms f).getD i tZ).m<t.m:=fun t ht=>by
 have hr:=(X2l f).rise
 unfold Rise at hr
 rw [Xi0 hi,List.pairwise_append] at hr
 exact hr.2.2 _ (by simp) t ht
theorem Xdn(hi:i<(tms f).length) : ((tms f).getD i tZ).c=f ((tms f).getD i tZ).m:=((X2l f).mem _ |>.1 (List.mem_of_getElem? (Xa4 hi))).2.2.1
theorem Xjk(hm:0<m)(hM:Mk m)(hp:∀ t ∈ (tms f).take i,t.m<m)(hi:i<(tms f).length)(he:((tms f).getD i tZ).m=m) :
  (tms f).take i++(if (k % 8+((tms f).getD i tZ).c) % 8≠0 then [(⟨m,(k % 8+((tms f).getD i tZ).c) % 8⟩ : Tm)] else [])++(tms f).drop (i+1)=tms (padd f m k):=by
 have hv:=Xdn hi
 rw [he] at hv
 have:=Xi1 (v:=(k % 8+((tms f).getD i tZ).c) % 8) (m:=m) (lo:=(tms f).take i) (hi:=(tms f).drop (i+1)) ⟨[(tms f).getD i tZ],Xi0 hi,fun t ht=>by rw [List.mem_singleton.1 ht];exact he⟩ hp (fun t ht=>by have:=Xd2 hi t ht;omega) hm hM.2
 rw [this]
 unfold padd
 congr 2
 rw [hv];omega
theorem Xhb(hi:i≤(tms f).length)(h1:∀ h:i<(tms f).length,¬ ((tms f).getD i tZ).m<m∧((tms f).getD i tZ).m≠m) : ∀ t ∈ (tms f).drop i,m<t.m:=fun t ht=>by
 rcases Nat.lt_or_ge i (tms f).length with h|h
 ·have h2:=h1 h
  rw [List.drop_eq_getElem_cons h] at ht
  have e:(tms f).getD i tZ=(tms f)[i]:=by rw [List.getD_eq_getElem?_getD,List.getElem?_eq_getElem h];rfl
  rcases List.mem_cons.1 ht with ht|ht
  ·rw [ht,← e];omega
  ·have:=Xd2 h t ht;omega
 ·rw [List.drop_eq_nil_of_le h] at ht;cases ht
theorem Xop(hm:0<m)(hM:Mk m)(hp:∀ t ∈ (tms f).take i,t.m<m)(hi:i≤(tms f).length)(h1:∀ h:i<(tms f).length,¬ ((tms f).getD i tZ).m<m∧((tms f).getD i tZ).m≠m)(hk:k % 8≠0) :
  (tms f).take i++[(⟨m,k % 8⟩ : Tm)]++(tms f).drop i=tms (padd f m k):=by
 have ha:=Xhb hi h1
 have hz:f m=0:=by
  refine Classical.byContradiction fun hn=>?_;have ht:=((X2l f).mem ⟨m,f m⟩).2 ⟨hm,hM.2,rfl,hn⟩
  rw [← List.take_append_drop i (tms f)] at ht
  rcases List.mem_append.1 ht with ht|ht
  ·have:=hp _ ht;simp at this
  ·have:=ha _ ht;simp at this
 have:=Xi1 (v:=k % 8) (m:=m) (lo:=(tms f).take i) (hi:=(tms f).drop i) ⟨[],by rw [List.append_nil,List.take_append_drop],fun t ht=>by cases ht⟩ hp ha hm hM.2
 rw [if_pos hk] at this
 rw [this]
 unfold padd
 congr 2
 rw [hz];omega
theorem Xbb(hm:0<m) : padd f m k 0=f 0:=by
 unfold padd
 rw [X4p (by omega)]
end
def nS(m:Int)(i:Nat) : Nat:=(setN m.toNat).getD i 0
theorem Xlv{m:Int}{i:Nat}(h:i<(setI m.toNat).length) : (setN m.toNat)[i]? = some (nS m i):=by
 have h:i<(setN m.toNat).length:=by unfold setI at h;rw [List.length_map] at h;exact h
 unfold nS
 rw [List.getD_eq_getElem?_getD,List.getElem?_eq_getElem h];rfl
theorem X4t{m:Int}{i:Nat}(h:i<(setI m.toNat).length) : (setI m.toNat)[i]? = some ((nS m i:Nat) : Int):=by
 have:=Xlv h
 unfold setI
 rw [List.getElem?_map,this];rfl
theorem X7h{m:Int}{i j:Nat}(h:j<i)(hi:j<(setI m.toNat).length) : ((setI m.toNat).take i)[j]? = some ((nS m j:Nat) : Int):=by
 rw [List.getElem?_take,if_pos h,X4t hi]
theorem X87(m:Int) : (setI m.toNat).length=(lows m).length:=by simp [setI,lows]
theorem X1z{m:Int}(hm:0≤m∧m<2^62)(i:Nat) : nS m i<62:=by
 unfold nS
 rw [List.getD_eq_getElem?_getD]
 cases e:(setN m.toNat)[i]? with
 | none=>show 0<62;omega
 | some k=>
  have:=List.mem_of_getElem? e
  unfold setN at this
  exact List.mem_range.1 (List.mem_filter.1 this).1
theorem X31{m:Int}{i:Nat}(hm:0≤m∧m<2^62)(h:i<(setI m.toNat).length) : wr (1*2^nS m i)=(lows m).getD i 0:=by
 rw [X48 (X1z hm i)]
 unfold lows
 rw [List.getD_eq_getElem?_getD,List.getElem?_map,Xlv h];rfl
theorem X13{m:Int}(h:Mk m)(i:Nat) : Mk ((lows m).getD i 0):=by
 rw [List.getD_eq_getElem?_getD]
 cases e:(lows m)[i]? with
 | none=>exact Mk.zero
 | some x=>exact X3z h (List.mem_of_getElem? e)
theorem Xej{m:Int}{i:Nat}(h:i<(setI m.toNat).length) : (lows m)[i]? = some ((lows m).getD i 0):=Xa7 (by rw [← X87];exact h)
theorem Y19{a b:Int}(ha:a=0∨a=1)(hb:b=0∨b=1) : -8≤4*a*b∧4*a*b≤8:=by
 rcases ha with rfl|rfl<;>rcases hb with rfl|rfl<;>decide
theorem Xoi{u y:Af}{f g:Int→Int}{i:Nat}{x:Int}(h:(lows u.m)[i]? = some x)(hg:g=foldA (((lows y.m).take (lows y.m).length).map fun z=>(oI x z,4)) (foldA (((lows u.m).take i).flatMap fun x=>((lows y.m).map fun z=>(oI x z,4))++[(x,4*y.t)]) f)) :
  padd g x (4*y.t)=foldA (((lows u.m).take (i+1)).flatMap fun x=>((lows y.m).map fun z=>(oI x z,4))++[(x,4*y.t)]) f:=by
 rw [Xdd _ h f,X2x,hg,List.take_length];rfl
theorem Xau:tms (fun _=>0)=[]:=(IsT.eq ⟨List.Pairwise.nil,fun t=>⟨fun h=>(by cases h),fun h=>absurd rfl h.2.2.2⟩⟩).symm
theorem X9s(x k:Nat) : (x:Int)/2^k=((x/2^k:Nat) : Int):=by
 rw [Int.natCast_ediv];simp
theorem Xoq{x:Nat}(h:x<2^64) : wu (x:Int)=(x:Int):=by
 show IntKind.u64.wrap _=_
 rw [show (2:Nat)^64=18446744073709551616 from by decide] at h
 simp only [IntKind.wrap,IntKind.bits,IntKind.signed]
 simp
 omega
theorem Xk0(x y:Nat)(h:x+y<2^64) : wu ((x:Int)+(y:Int))=((x+y:Nat) : Int):=by
 have:=Xoq h
 rw [← this]
 congr 1
theorem Xnq{x y:Nat}(hx:x<2^64)(hy:y<2^64) : bits .and .u64 (x:Int) (y:Int)=((x &&& y:Nat) : Int):=by
 show IntKind.u64.wrap ((BitVec.ofInt 64 (x:Int) &&& BitVec.ofInt 64 (y:Int)).toNat:Int)=_
 have e:∀ z:Nat,z<2^64→(BitVec.ofInt 64 (z:Int)).toNat=z:=fun z hz=>by rw [X3a,BitVec.toNat_ofNat,Nat.mod_eq_of_lt hz]
 rw [BitVec.toNat_and,e x hx,e y hy]
 exact Xoq (Nat.lt_of_le_of_lt Nat.and_le_left hx)
def szI(m:Int) : Nat:=(setN m.toNat).length
def okTa(n:Nat)(ts:List Tm)(i:Nat) : Bool:=
 inR (ts.getD i tZ).m 1 (((2^n:Nat) : Int)-1)&&decide (szI (ts.getD i tZ).m≤3)&&inR (ts.getD i tZ).c 1 7&&((ts.getD i tZ).c % ((2^(szI (ts.getD i tZ).m-1) : Nat) : Int)==0)&&(decide (i=0)||decide ((ts.getD (i-1) tZ).m<(ts.getD i tZ).m))
def okHd(p:Ps) : Bool:=inR p.ins 1 5&&inR p.vars 0 (24-p.ins)&&inR p.root (-60) 60&&inR p.phase 0 7&&decide ((p.out.length:Int)=p.ins)
def okAf(n:Nat)(a:Af) : Bool:=inR a.m 0 (((2^n:Nat) : Int)-1)&&inR a.t 0 1
def okTs(n:Nat)(ts:List Tm)(k:Nat) : Bool:=(List.range k).all (okTa n ts)
def validP(p:Ps) : Bool:=okHd p&&okTs (p.ins+p.vars).toNat p.ts p.ts.length&&p.out.all (okAf (p.ins+p.vars).toNat)
theorem Xcg{n:Nat}{ts:List Tm}{k:Nat}(h:okTs n ts k=true)(h2:okTa n ts k=true) : okTs n ts (k+1)=true:=by
 unfold okTs at h ⊢
 rw [List.range_succ,List.all_append,h]
 simp [h2]
theorem Xou{n:Nat}{ts:List Tm}{k:Nat}(hk:k<ts.length)(h2:okTa n ts k=false) : okTs n ts ts.length=false:=by
 unfold okTs
 rw [List.all_eq_false]
 exact ⟨k,List.mem_range.2 hk,by rw [h2];decide⟩
theorem Xar{m:Int}(h:Mk m)(h0:0<m) : 1≤szI m:=by
 obtain ⟨x,hx,rfl⟩:=h.nat
 unfold szI
 rw [show (x:Int).toNat=x from rfl]
 obtain ⟨q,t,e⟩:=X6r (X0x hx) (by omega)
 rw [e];simp
theorem X6h{n:Nat}(h:n≤24) : 1≤2^n∧2^n≤16777216:=⟨Nat.two_pow_pos n,Nat.le_trans (Nat.pow_le_pow_right (by decide) h) (by decide)⟩
theorem Xz9{k:Nat}(h:k≤3) : ([1,1,2,4] : List Int)[k]? = some ((2^(k-1) : Nat) : Int):=by
 rcases k with _|_|_|_|k
 ·rfl
 ·rfl
 ·rfl
 ·rfl
 ·omega
theorem X55{m:Nat}(h:m≤30) : wr (1*2^m)=((2^m:Nat) : Int):=X48 (by omega)
theorem Xml{a:Int}{b:Nat}(h:0≤a) : a.tmod ((b:Nat) : Int)=a % (b:Int):=Int.tmod_eq_emod_of_nonneg h
theorem Xon(k:Nat) : ((((2^k:Nat) : Int))==0)=false:=by
 have:=Nat.two_pow_pos k
 rw [beq_eq_false_iff_ne];omega
theorem Xdk{n k:Nat}{ts:List Tm}{u:Tm}(hge:ts.getD k tZ=u) :
  (((((!(inR u.m 1 (((2^n:Nat) : Int)-1)))||(decide (3<((szI u.m:Nat) : Int))))||(!(inR u.c 1 7)))||((u.c.tmod ((2^(szI u.m-1) : Nat) : Int)) != 0))||((decide (0<(k:Int)))&&(decide (u.m≤((ts.getD (k-1) tZ).m))))) = !okTa n ts k:=by
 unfold okTa
 rw [hge]
 generalize (ts.getD (k-1) tZ).m=q
 have e1:decide (3<((szI u.m:Nat) : Int)) = !decide (szI u.m≤3):=by rw [← decide_not];exact decide_eq_decide.2 (by omega)
 have e2:decide (0<(k:Int)) = !decide (k=0):=by rw [← decide_not];exact decide_eq_decide.2 (by omega)
 have e3:decide (u.m≤q) = !decide (q<u.m):=by rw [← decide_not];exact decide_eq_decide.2 (by omega)
 rw [e1,e2,e3]
 cases h:inR u.c 1 7 with
 | false=>simp
 | true=>
  have hc:0≤u.c:=by simp only [inR,Bool.and_eq_true,decide_eq_true_eq] at h;omega
  rw [Xml hc]
  unfold bne
  generalize (u.c % ((2^(szI u.m-1) : Nat) : Int)==0)=b5
  cases inR u.m 1 (((2^n:Nat) : Int)-1)<;>cases decide (szI u.m≤3)<;>cases b5<;>cases decide (k=0)<;>cases decide (q<u.m)<;>rfl
theorem Xmm{p:Ps}(h:okHd p=true) : ∃ n:Nat,p.ins+p.vars=(n:Int)∧n≤24:=by
 simp only [okHd,inR,Bool.and_eq_true,decide_eq_true_eq] at h
 exact ⟨(p.ins+p.vars).toNat,by omega,by omega⟩
theorem Xf9{p:Ps}(h:okHd p=false) : validP p=false:=by unfold validP;rw [h];rfl
theorem Xbt{p:Ps}{n k:Nat}(hn:p.ins+p.vars=(n:Int))(hk:k<p.ts.length)(h:okTa n p.ts k=false) : validP p=false:=by
 unfold validP
 rw [hn,Int.toNat_natCast,Xou hk h];simp
theorem X96{p:Ps}{n:Nat}(h:okHd p=true)(hn:p.ins+p.vars=(n:Int))(h2:okTs n p.ts p.ts.length=true) : validP p=p.out.all (okAf n):=by
 unfold validP
 rw [h,hn,Int.toNat_natCast,h2];simp
theorem Xig{α:Type}(f:α→Bool) : ∀ l:List α,(!(l.any fun x=>!f x))=l.all f
 | []=>rfl
 | a::l=>by
  have:=Xig f l
  rw [List.any_cons,List.all_cons,← this]
  cases f a<;>simp
theorem Xb1(m:Int) : (((setI m.toNat).length:Nat) : Int)=((szI m:Nat) : Int):=by simp [setI,szI]
theorem Xxs{n k:Nat}{ts:List Tm}{u:Tm}(hge:ts.getD k tZ=u)(h:(((!(inR u.m 1 (((2^n:Nat) : Int)-1)))||(!(inR u.c 1 7)))||((decide (0<(k:Int)))&&(decide (u.m≤((ts.getD (k-1) tZ).m)))))=true) : okTa n ts k=false:=by
 have:=Xdk (n:=n) hge
 revert this h
 cases inR u.m 1 (((2^n:Nat) : Int)-1)<;>cases inR u.c 1 7<;>cases (decide (0<(k:Int))&&decide (u.m≤(ts.getD (k-1) tZ).m))<;>simp
theorem Xwm{n k:Nat}{ts:List Tm}{u:Tm}(hge:ts.getD k tZ=u)(h:(((!(inR u.m 1 (((2^n:Nat) : Int)-1)))||(!(inR u.c 1 7)))||((decide (0<(k:Int)))&&(decide (u.m≤((ts.getD (k-1) tZ).m)))))=false) :
  ((decide (3<((szI u.m:Nat) : Int)))||((u.c.tmod ((2^(szI u.m-1) : Nat) : Int)) != 0)) = !okTa n ts k:=by
 rw [← Xdk (n:=n) hge]
 revert h
 cases inR u.m 1 (((2^n:Nat) : Int)-1)<;>cases inR u.c 1 7<;>cases (decide (0<(k:Int))&&decide (u.m≤(ts.getD (k-1) tZ).m))<;>simp
theorem Xlj(n:Nat)(u:Af) : ((!(inR u.m 0 (((2^n:Nat) : Int)-1)))||(!(inR u.t 0 1))) = !okAf n u:=by unfold okAf;rw [Bool.not_and]
theorem Xs3{n k:Nat}{l:List Af}{u:Af}(h:l[k]? = some u)(h2:okAf n u=false) : l.all (okAf n)=false:=List.all_eq_false.2 ⟨u,List.mem_of_getElem? h,by rw [h2];decide⟩
structure VPs (p:Ps) : Prop where
 ins:1≤p.ins∧p.ins≤5
 vars:0≤p.vars∧p.ins+p.vars≤24
 ph:0≤p.phase∧p.phase<8
 ts:OkT p.ts
 out:∀ a ∈ p.out,AO a∧a.m<((2^(p.ins+p.vars).toNat:Nat) : Int)
 tb:∀ t ∈ p.ts,t.m<((2^(p.ins+p.vars).toNat:Nat) : Int)
 sz:∀ t ∈ p.ts,szI t.m≤3
theorem VPs.of{p:Ps}(h:validP p=true) : VPs p:=by
 simp only [validP,okHd,Bool.and_eq_true] at h
 obtain ⟨⟨⟨⟨⟨⟨h1,h2⟩,h3⟩,h4⟩,h5⟩,h6⟩,h7⟩:=h
 simp only [inR,Bool.and_eq_true,decide_eq_true_eq] at h1 h2 h3 h4
 have hn:=X6h (n:=(p.ins+p.vars).toNat) (by omega)
 have hT:∀ i,i<p.ts.length→(1≤(p.ts.getD i tZ).m∧(p.ts.getD i tZ).m≤((2^(p.ins+p.vars).toNat:Nat) : Int)-1)∧szI (p.ts.getD i tZ).m≤3∧(1≤(p.ts.getD i tZ).c∧(p.ts.getD i tZ).c≤7)∧(i=0∨(p.ts.getD (i-1) tZ).m<(p.ts.getD i tZ).m):=fun i hi=>by
  unfold okTs at h6
  have:=List.all_eq_true.1 h6 i (List.mem_range.2 hi)
  simp only [okTa,inR,Bool.and_eq_true,Bool.or_eq_true,decide_eq_true_eq] at this
  exact ⟨this.1.1.1.1,this.1.1.1.2,this.1.1.2,this.2⟩
 have hM:∀ t ∈ p.ts,(1≤t.m∧t.m≤((2^(p.ins+p.vars).toNat:Nat) : Int)-1)∧szI t.m≤3∧1≤t.c∧t.c≤7:=fun t ht=>by
  obtain ⟨i,hi,e⟩:=List.mem_iff_getElem.1 ht
  have:=hT i hi
  rw [show p.ts.getD i tZ=t from by rw [List.getD_eq_getElem?_getD,List.getElem?_eq_getElem hi,e];rfl] at this
  exact ⟨this.1,this.2.1,this.2.2.1⟩
 have hR:∀ j i,i<j→j<p.ts.length→(p.ts.getD i tZ).m<(p.ts.getD j tZ).m:=fun j=>by
  induction j with
  | zero=>intro i h;omega
  | succ j ih=>
   intro i hij hj;have h9:=(hT (j+1) hj).2.2.2
   rw [show j+1-1=j from rfl] at h9
   rcases h9 with h9|h9
   ·omega
   ·rcases Nat.lt_or_ge i j with h10|h10
    ·exact Int.lt_trans (ih i h10 (by omega)) h9
    ·rw [show i=j from by omega];exact h9
 refine ⟨h1,⟨h2.1,by omega⟩,⟨h4.1,by omega⟩,⟨?_,fun t ht=>?_⟩,fun a ha=>?_,fun t ht=>?_,fun t ht=>(hM t ht).2.1⟩
 ·unfold Rise
  rw [List.pairwise_iff_getElem]
  intro i j hi hj hij
  have:=hR j i hij hj
  rw [List.getD_eq_getElem?_getD,List.getD_eq_getElem?_getD,List.getElem?_eq_getElem hi,List.getElem?_eq_getElem hj] at this
  exact this
 ·have:=hM t ht
  exact ⟨by omega,by omega,by omega,by omega⟩
 ·have:=List.all_eq_true.1 h7 a ha
  simp only [okAf,inR,Bool.and_eq_true,decide_eq_true_eq] at this
  exact ⟨⟨⟨this.1.1,by omega⟩,by omega⟩,by omega⟩
 ·have:=hM t ht
  omega
def bI(v:Nat)(m:Int) : Int:=if bitQ v m then 1 else 0
theorem X4b{m:Int}(h:Mk m)(v:Nat) : bits .and .i64 (m/2^v) 1=bI v m:=by
 obtain ⟨x,hx,rfl⟩:=h.nat
 have hd:x/2^v<2^62:=Nat.lt_of_le_of_lt (Nat.div_le_self _ _) (X0x hx)
 rw [X9s,show (1:Int)=((1:Nat) : Int) from rfl,X4m hd (by decide),Nat.and_one_is_mod]
 unfold bI
 rw [X1b,Nat.testBit_eq_decide_div_mod_eq]
 by_cases e:x/2^v % 2=1
 ·rw [decide_eq_true e,e];rfl
 ·rw [decide_eq_false e,show x/2^v % 2=0 from by omega];rfl
theorem Xrj{v:Nat}{m:Int}(h:(bI v m==1)=true) : bitQ v m=true:=by
 revert h;unfold bI;cases bitQ v m<;>simp
theorem Xht{v:Nat}{m:Int}(h:(bI v m==1)=false) : bitQ v m=false:=by
 revert h;unfold bI;cases bitQ v m<;>simp
theorem Y0d{v:Nat}{m:Int}(h:(bI v m==0)=true) : bitQ v m=false:=by
 revert h;unfold bI;cases bitQ v m<;>simp
theorem Xtr{v:Nat}{m:Int}(h:(bI v m==0)=false) : bitQ v m=true:=by
 revert h;unfold bI;cases bitQ v m<;>simp
theorem Xg3{m:Int}(h:Mk m){v:Nat}(hv:v<24) : bits .or .i64 (bits .and .i64 m (((2^v:Nat) : Int)-1)) (wr (m/2^(v+1)*2^v))=drI v m:=by
 obtain ⟨x,hx,rfl⟩:=h.nat;have hp:=Nat.two_pow_pos v
 have h24:=(X6h (show v≤24 by omega)).2
 have e0:(((2^v:Nat) : Int)-1)=((2^v-1:Nat) : Int):=by omega
 have h1:x % 2^v<2^62:=Nat.lt_of_le_of_lt (Nat.mod_le _ _) (X0x hx)
 have h2:2^v*(x/2^(v+1))≤x:=by
  have:=Nat.mul_div_le x (2^(v+1))
  rw [Nat.pow_succ] at this ⊢
  have h3:2^v*(x/(2^v*2))≤2^v*2*(x/(2^v*2)):=Nat.mul_le_mul_right _ (by omega)
  omega
 have e1:wr ((x:Int)/2^(v+1)*2^v)=((2^v*(x/2^(v+1)) : Nat) : Int):=by
  rw [X9s]
  have e3:(((x/2^(v+1) : Nat) : Int)*2^v)=((2^v*(x/2^(v+1)) : Nat) : Int):=by
   rw [Nat.mul_comm,Int.natCast_mul];simp
  rw [e3]
  exact Xjc ⟨by omega,by have:=hx;rw [show (2:Nat)^24=16777216 from by decide] at this;omega⟩
 rw [e0,e1,X4m (X0x hx) (Nat.lt_of_lt_of_le (show 2^v-1<16777216 by omega) (by decide)),Nat.and_two_pow_sub_one_eq_mod,X1y h1 (Nat.lt_of_le_of_lt h2 (X0x hx)),X1q]
 unfold drN
 rw [Nat.or_comm,← Nat.two_pow_add_eq_or_of_lt (Nat.mod_lt _ hp),Nat.add_comm]
def woP(p:Ps)(v:Nat) : Ps:=⟨p.ins,p.vars-1,p.root,p.phase,p.ts.map (dT v),p.out.map (dA v)⟩
theorem Xx9(p:Ps)(v:Nat)(y:Af) : subP p v y=woP ⟨p.ins,p.vars,p.root,foldA (p.ts.flatMap (sL v y)) (cPh p.phase) 0,tms (foldA (p.ts.flatMap (sL v y)) (cPh p.phase)),p.out.map (sA v y)⟩ v:=by
 unfold subP mkP woP
 simp only [List.map_map];rfl
structure Ar where (c z:Int) (any pl:Bool)
def arStep(y:Nat)(s:Ar)(t:Tm) : Ar:=
 if bitQ y t.m then (if szI (xI t.m (pw y))=0 then ⟨t.c,s.z,true,s.pl⟩ else if szI (xI t.m (pw y))=1 then ⟨s.c,oI s.z (xI t.m (pw y)),true,s.pl&&t.c==4⟩ else ⟨s.c,s.z,true,false⟩) else s
def ar0:Ar:=⟨0,0,false,true⟩
def arF(y:Nat)(ts:List Tm) : Ar:=ts.foldl (arStep y) ar0
def ruK(ins:Int)(s:Ar) : Int:=
 if s.pl=false then 0 else if s.c=0∧s.z=0 then 1 else if s.c=2∨s.c=6 then 2 else if (s.c=0∨s.c=4)∧0<s.z/2^ins.toNat then 3 else 0
def outB(y:Nat)(l:List Af) : Bool:=l.any fun a=>bitQ y a.m
def ruR(p:Ps)(y:Nat) : Int×Int×Int:=
 if outB y p.out then (0,0,0) else if ruK p.ins (arF y p.ts)=0 then (0,0,0) else (ruK p.ins (arF y p.ts),(arF y p.ts).c,(arF y p.ts).z)
theorem Xhp{α β:Type}(g:β→α→β)(b:β){l:List α}{i:Nat}{u:α}(h:l[i]? = some u) : (l.take (i+1)).foldl g b=g ((l.take i).foldl g b) u:=by
 rw [List.take_add_one,h,List.foldl_append];rfl
theorem Xpc(y:Nat) : ∀ (l:List Tm) (s:Ar),s.pl=false→(l.foldl (arStep y) s).pl=false
 | [],_,h=>h
 | t::l,s,h=>Xpc y l (arStep y s t) (by
  unfold arStep
  split
  ·split
   ·exact h
   ·split
    ·show (s.pl&&_)=false
     rw [h];rfl
    ·rfl
  ·exact h)
theorem Xxm{y:Nat}{ts:List Tm}{i:Nat}(h:(arF y (ts.take i)).pl=false) : (arF y ts).pl=false:=by
 have:=Xpc y (ts.drop i) _ h
 unfold arF at this ⊢
 rw [← List.foldl_append,List.take_append_drop] at this
 exact this
theorem X8h{m:Int}(h:Mk m) : szI m=0↔m=0:=by
 constructor
 ·intro h0;refine Classical.byContradiction fun hn=>?_
  have:=Xar h (by have:=h.1;omega)
  omega
 ·rintro rfl;rfl
structure ArI (s:Ar) : Prop where
 c:0≤s.c∧s.c<8
 z:Mk s.z
 any:s.pl=true→s.any=true→s.c≠0∨s.z≠0
 none:s.any=false→s.c=0∧s.z=0
theorem Xxe{a b:Int}(ha:Mk a)(hb:Mk b)(h:b≠0) : oI a b≠0:=by
 obtain ⟨x,hx,rfl⟩:=ha.nat;obtain ⟨y,hy,rfl⟩:=hb.nat
 unfold oI
 rw [X1y (X0x hx) (X0x hy)]
 intro e
 have e:x ||| y=0:=by omega
 have:y=0:=by
  apply Nat.eq_of_testBit_eq
  intro i
  have:=congrArg (fun z=>z.testBit i) e
  simp only [Nat.testBit_or,Nat.zero_testBit,Bool.or_eq_false_iff] at this
  rw [this.2,Nat.zero_testBit]
 omega
theorem X3m{y:Nat}(hy:y<24) : Mk (pw y):=Mk.of (Nat.pow_lt_pow_right (by decide) hy)
theorem ArI.step{y:Nat}{s:Ar}{t:Tm}(h:ArI s)(ht:Mk t.m∧0<t.c∧t.c<8)(hy:y<24) : ArI (arStep y s t):=by
 have hr:=ht.1.xor (X3m hy)
 unfold arStep
 split
 ·split
  ·exact ⟨⟨by show 0≤t.c;omega,ht.2.2⟩,h.z,fun _ _=>.inl (by show t.c≠0;omega),fun e=>Bool.noConfusion e⟩
  ·split
   ·rename_i h1 h2
    refine ⟨h.c,h.z.or hr,fun _ _=>.inr (Xxe h.z hr fun e=>?_),fun e=>Bool.noConfusion e⟩
    exact h1 ((X8h hr).2 e)
   ·exact ⟨h.c,h.z,fun e=>Bool.noConfusion e,fun e=>Bool.noConfusion e⟩
 ·exact h
theorem ArI.fold{y:Nat}(hy:y<24) : ∀ (l:List Tm) {s:Ar},ArI s→(∀ t ∈ l,Mk t.m∧0<t.c∧t.c<8)→ArI (l.foldl (arStep y) s)
 | [],_,h,_=>h
 | t::l,s,h,ht=>ArI.fold hy l (h.step (ht t (by simp)) hy) fun x hx=>ht x (List.mem_cons_of_mem _ hx)
theorem ArI.zero:ArI ar0:=⟨⟨by decide,by decide⟩,Mk.zero,fun _ e=>Bool.noConfusion e,fun _=>⟨rfl,rfl⟩⟩
theorem OkT.mks{ts:List Tm}(h:OkT ts) : ∀ t ∈ ts,Mk t.m:=fun t ht=>⟨by have:=(h.all t ht).1;omega,(h.all t ht).2.1⟩
theorem Xyf{y:Nat}{ts:List Tm}(hy:y<24)(h:OkT ts) : ArI (arF y ts):=ArI.fold hy ts ArI.zero fun t ht=>⟨h.mks t ht,(h.all t ht).2.2⟩
theorem Xtq{y:Nat}(hy:y<24) : ∀ (l:List Tm) {s:Ar},Nb y s.z→(∀ t ∈ l,Mk t.m)→Nb y (l.foldl (arStep y) s).z
 | [],_,h,_=>h
 | t::l,s,h,ht=>by
  refine Xtq hy l (s:=arStep y s t) ?_ fun x hx=>ht x (List.mem_cons_of_mem _ hx)
  unfold arStep
  split
  ·rename_i hb
   split
   ·exact h
   ·split
    ·exact h.or (Nb.off (ht t (by simp)) hy hb)
    ·exact h
  ·exact h
theorem Xhn{y:Nat}{ts:List Tm}(hy:y<24)(h:OkT ts) : Nb y (arF y ts).z:=Xtq hy ts (Nb.zero y) h.mks
def IsLow(x q:Nat) : Prop:=x.testBit q=true∧∀ i,i<q→x.testBit i=false
theorem IsLow.eq{x a b:Nat}(ha:IsLow x a)(hb:IsLow x b) : a=b:=by
 rcases Nat.lt_trichotomy a b with h|h|h
 ·have:=hb.2 a h;rw [ha.1] at this;cases this
 ·exact h
 ·have:=ha.2 b h;rw [hb.1] at this;cases this
theorem Xfi{x:Nat}(hx:x<2^62)(h0:x≠0) : IsLow x ((setN x).getD 0 0):=by
 obtain ⟨q,t,e⟩:=X6r hx h0;have hr:=X3t x
 rw [e,List.pairwise_cons] at hr
 rw [e]
 refine ⟨(X1j hx).1 (by rw [e];simp),fun i hi=>?_⟩
 have hi:i<q:=hi
 cases e2:x.testBit i with
 | false=>rfl
 | true=>
  have:=(X1j hx).2 e2
  rw [e] at this
  rcases List.mem_cons.1 this with e3|e3
  ·omega
  ·have:=hr.1 i e3;omega
theorem Xo1(v x y:Nat) : drN v (x ^^^ y)=drN v x ^^^ drN v y:=by
 apply Nat.eq_of_testBit_eq
 intro i
 rw [Nat.testBit_xor,X2e,X2e,X2e]
 split<;>rw [Nat.testBit_xor]
theorem Xn2{z ins y q:Nat}(hy:ins≤y)(hz:z.testBit y=false)(h1:ins≤q)(h2:z.testBit q=true)(h3:∀ i,ins≤i→i<q→z.testBit i=false) : IsLow (drN y z >>> ins) (shN y q-ins)∧ins≤shN y q:=by
 have hq:q≠y:=fun e=>by rw [e,hz] at h2;cases h2
 have hb:∀ i,(drN y z >>> ins).testBit i=if ins+i<y then z.testBit (ins+i) else z.testBit (ins+i+1):=fun i=>by
  rw [Nat.testBit_shiftRight,X2e]
 unfold shN
 by_cases e:q<y
 ·rw [if_pos e]
  refine ⟨⟨?_,fun i hi=>?_⟩,h1⟩
  ·rw [hb,show ins+(q-ins)=q from by omega,if_pos e];exact h2
  ·rw [hb,if_pos (by omega)];exact h3 _ (by omega) (by omega)
 ·rw [if_neg e]
  refine ⟨⟨?_,fun i hi=>?_⟩,by omega⟩
  ·rw [hb,show ins+(q-1-ins)=q-1 from by omega,if_neg (by omega),show q-1+1=q from by omega];exact h2
  ·rw [hb]
   split
   ·exact h3 _ (by omega) (by omega)
   ·exact h3 _ (by omega) (by omega)
def tzN(x:Nat) : Nat:=if x=0 then 64 else (setN x).getD 0 0
theorem Xa3{z ins:Nat}(hz:z<2^24)(h0:z >>> ins≠0) : ins≤tzN (without z (2^ins-1))∧z.testBit (tzN (without z (2^ins-1)))=true∧(∀ i,ins≤i→i<tzN (without z (2^ins-1))→z.testBit i=false)∧tzN (without z (2^ins-1))<24:=by
 have hb:∀ i,(without z (2^ins-1)).testBit i=(z.testBit i&&!decide (i<ins)):=fun i=>by
  rw [Xf5,Nat.testBit_two_pow_sub_one]
 have hne:without z (2^ins-1)≠0:=fun e=>h0 (by
  apply Nat.eq_of_testBit_eq
  intro i
  rw [Nat.testBit_shiftRight,Nat.zero_testBit]
  have:=hb (ins+i)
  rw [e,Nat.zero_testBit] at this
  rw [decide_eq_false (show ¬ ins+i<ins by omega)] at this
  simpa using this.symm)
 have hL:=Xfi (Xhc (X0x hz)) hne
 unfold tzN
 rw [if_neg hne]
 generalize (setN (without z (2^ins-1))).getD 0 0=q at hL ⊢
 have h1:=hL.1
 rw [hb] at h1
 simp only [Bool.and_eq_true,Bool.not_eq_true',decide_eq_false_iff_not] at h1
 refine ⟨by omega,h1.1,fun i hi hq=>?_,?_⟩
 ·have:=hL.2 i hq
  rw [hb,decide_eq_false (show ¬ i<ins by omega)] at this
  simpa using this
 ·rcases Nat.lt_or_ge q 24 with h'|h'
  ·exact h'
  ·have:=h1.1
   rw [Nat.testBit_lt_two_pow (Nat.lt_of_lt_of_le hz (Nat.pow_le_pow_right (by decide) h'))] at this;cases this
def rqZ(p:Ps)(y:Nat)(d:Int) : Ps:={ repP p y afZ with root:=p.root-d }
def vR(p:Ps)(y:Nat) : Nat:=nS (drI y (arF y p.ts).z/2^p.ins.toNat) 0+p.ins.toNat
def outR(p:Ps)(y:Nat) : Ps:=
 if ruK p.ins (arF y p.ts)=1 then rqZ p y 2
 else if ruK p.ins (arF y p.ts)=2 then omR (rqZ p y 1) (if (arF y p.ts).c=2 then 1 else 7) (if (arF y p.ts).c=2 then 6 else 2) (drI y (arF y p.ts).z)
 else repP (rqZ p y 2) (vR p y) ⟨xI (drI y (arF y p.ts).z) (pw (vR p y)),(arF y p.ts).c/4⟩
def inI(p:Ps)(z:Int) : Nat:=tzN (without z.toNat (2^p.ins.toNat-1))
def inJ(p:Ps)(y:Nat)(z:Int) : Nat:=if y<inI p z then inI p z-1 else inI p z
section
variable {p : Ps} {y : Nat} (h : VPs p) (hy : p.ins.toNat ≤ y ∧ y < 24) (ho : outB y p.out = false)
include h ho
theorem Xwc:∀ a ∈ p.out,bitQ y a.m=false:=fun a ha=>by
 unfold outB at ho
 rw [List.any_eq_false] at ho
 simpa using ho a ha
include hy
theorem Xn4(hz:0<(arF y p.ts).z/2^p.ins.toNat) : vR p y=inJ p y (arF y p.ts).z∧vR p y<24∧inI p (arF y p.ts).z<24∧xI (drI y (arF y p.ts).z) (pw (vR p y))=drI y (xI (arF y p.ts).z (pw (inI p (arF y p.ts).z)))∧Nb (vR p y) (xI (drI y (arF y p.ts).z) (pw (vR p y))):=by
 have hN:=Xhn hy.2 h.ts
 unfold vR inJ inI
 generalize (arF y p.ts).z=zz at *
 obtain ⟨z,hz24,rfl⟩:=hN.1.nat
 have hb:z.testBit y=false:=hN.2
 have hz0:z >>> p.ins.toNat≠0:=by
  rw [Nat.shiftRight_eq_div_pow]
  rw [X9s] at hz
  omega
 rw [show (z:Int).toNat=z from rfl]
 obtain ⟨a1,a2,a3,a4⟩:=Xa3 hz24 hz0
 generalize hI:tzN (without z (2^p.ins.toNat-1))=q at *
 obtain ⟨b1,b2⟩:=Xn2 hy.1 hb a1 a2 a3
 have hqy:q≠y:=fun e=>by rw [e,hb] at a2;cases a2
 have hd24:drN y z<2^24:=Nat.lt_of_le_of_lt (X9t y z) hz24
 have e1:nS (drI y (z:Int)/2^p.ins.toNat) 0+p.ins.toNat=shN y q:=by
  rw [X1q,X9s,← Nat.shiftRight_eq_div_pow]
  have hne:drN y z >>> p.ins.toNat≠0:=fun e=>by have:=b1.1;rw [e,Nat.zero_testBit] at this;cases this
  have hl:drN y z >>> p.ins.toNat<2^62:=by
   rw [Nat.shiftRight_eq_div_pow]
   exact Nat.lt_of_le_of_lt (Nat.div_le_self _ _) (X0x hd24)
  have:=(Xfi hl hne).eq b1
  unfold nS
  rw [show (((drN y z >>> p.ins.toNat:Nat) : Int)).toNat=drN y z >>> p.ins.toNat from rfl,this]
  omega
 have e2:(if y<q then q-1 else q)=shN y q:=by
  unfold shN
  by_cases e:q<y
  ·rw [if_pos e,if_neg (by omega)]
  ·rw [if_neg e,if_pos (by omega)]
 have hv:shN y q<24:=by unfold shN;split<;>omega
 have e3:xI (drI y (z:Int)) (pw (shN y q))=drI y (xI (z:Int) (pw q)):=by
  unfold xI pw
  rw [X1q,X17 (X0x hd24) (X37 (by omega)),X17 (X0x hz24) (X37 (by omega)),X1q,Xo1,Xdy hqy]
 refine ⟨by rw [e1,e2],by rw [e1];exact hv,a4,by rw [e1];exact e3,?_⟩
 rw [e1]
 refine Nb.off (Mk.of hd24) hv ?_
 rw [X1q,X1b]
 have:=b1.1
 rw [Nat.testBit_shiftRight] at this
 rw [← this];congr 1;omega
end
def firstY(p:Ps) : Option Nat:=(List.range p.vars.toNat).find? fun j=>(ruR p (p.ins.toNat+j)).1 != 0
def stepP(p:Ps) : Option (Ps×Int):=(firstY p).map fun j=>(outR p (p.ins.toNat+j),(ruR p (p.ins.toNat+j)).1)
def nxtP(p:Ps) : Option (Ps×Int):=(stepP p).bind fun q=>if validP q.1 then some q else none
def redN:Nat→Ps→Ps×Nat
 | 0,p=>(p,0)
 | n+1,p=>match nxtP p with
  | none=>(p,0)
  | some q=>((redN n q.1).1,(redN n q.1).2+1)
def redP(p:Ps) : Ps×Nat:=redN p.vars.toNat p
def idP(p:Ps) : Bool:=decide (p.vars=0)&&decide (p.ts.length=0)&&decide (p.root=0)&&(List.range p.out.length).all fun q=>decide (p.out.getD q afZ=varA q)
theorem X4e{α β:Type}(g:α→β){l:List α}{i:Nat}{x:α}(h:l[i]? = some x) : (l.take (i+1)).map g=(l.take i).map g++[g x]:=by
 rw [List.take_add_one,h,List.map_append];rfl
theorem Xjd(g:Tm→List Sm){l:List Tm}{i:Nat}{x:Tm}(h:l[i]? = some x)(f:Int→Int) : foldA ((l.take (i+1)).flatMap g) f=foldA (g x) (foldA ((l.take i).flatMap g) f):=by
 rw [List.take_add_one,h,List.flatMap_append,X2x]
 simp
section
variable {ts : List Tm} {v k : Nat} {y : Af} {u : Tm} {f g : Int → Int}
theorem Xtx(hu:ts[k]? = some u)(hg:g=foldA ((ts.take k).flatMap (rL v y)) f)(hb:bitQ v u.m=false) : padd g (drI v u.m) u.c=foldA ((ts.take (k+1)).flatMap (rL v y)) f:=by
 rw [Xjd _ hu,← hg]
 unfold rL
 rw [if_neg (by rw [hb];decide)];rfl
theorem Xti(hu:ts[k]? = some u)(hg:g=foldA ((ts.take k).flatMap (rL v y)) f)(hb:bitQ v u.m=true) : expP g u.c (dA v y) (drI v u.m)=foldA ((ts.take (k+1)).flatMap (rL v y)) f:=by
 rw [Xjd _ hu,← hg,X2f]
 unfold rL
 rw [if_pos hb]
theorem Xue(hu:ts[k]? = some u)(hg:g=foldA ((ts.take k).flatMap (sL v y)) f)(hb:bitQ v u.m=false) : padd g u.m u.c=foldA ((ts.take (k+1)).flatMap (sL v y)) f:=by
 rw [Xjd _ hu,← hg]
 unfold sL
 rw [if_neg (by rw [hb];decide)];rfl
theorem Xu1(hu:ts[k]? = some u)(hg:g=foldA ((ts.take k).flatMap (sL v y)) f)(hb:bitQ v u.m=true) : expP g u.c y (xI u.m (pw v))=foldA ((ts.take (k+1)).flatMap (sL v y)) f:=by
 rw [Xjd _ hu,← hg,X2f]
 unfold sL
 rw [if_pos hb]
end
theorem Xlc{v:Nat}{y a:Af}(h:bitQ v a.m=true) : sA v y a=⟨xI (xI a.m (pw v)) y.m,xI a.t y.t⟩:=by unfold sA;rw [if_pos h]
theorem Xh2(ph:Int) : tms (cPh ph)=[]:=(IsT.eq ⟨List.Pairwise.nil,fun t=>⟨fun h=>(by cases h),fun h=>absurd (show cPh ph t.m=0 by unfold cPh;rw [X4p (by have:=h.1;omega)]) h.2.2.2⟩⟩).symm
theorem Xpu(ph:Int) : cPh ph 0=ph:=X9g
theorem AO.dA{v:Nat}{y:Af}(h:AO y) : AO (dA v y):=⟨h.1.dr,h.2⟩
def delF(y:Nat)(l:List Tm)(f:Int→Int) : Int→Int:=l.foldl (fun f t=>if bitQ y t.m then upd f t.m 0 else f) f
theorem X8z{v:Nat}(hv:v<24) : wr (1*2^v)=pw v:=X55 (by omega)
theorem PO.upd0{f:Int→Int}(h:PO f)(m:Int) : PO (upd f m 0):=fun x=>by
 unfold upd
 split
 ·exact ⟨Int.le_refl _,by decide⟩
 ·exact h x
theorem SupF.upd0{f:Int→Int}(h:SupF f)(m:Int) : SupF (upd f m 0):=fun x hx=>h x fun e=>hx (by
 unfold upd
 split
 ·rfl
 ·exact e)
theorem Xzj{v:Nat}{y a:Af}(hv:v<24)(hy:AO y)(ha:AO a) : AO (sA v y a):=by
 unfold sA
 split
 ·exact ⟨(ha.1.xor (X3m hv)).xor hy.1,(ha.xor hy).2⟩
 ·exact ha
theorem Xya{ts:List Tm}(h:∀ t ∈ ts,Mk t.m) : ∀ p ∈ sm ts,Mk p.1:=fun p hp=>by
 obtain ⟨t,ht,rfl⟩:=List.mem_map.1 hp;exact h t ht
def dbN:List Nat:=[0,1,56,2,57,49,28,3,61,58,42,50,38,29,17,4,62,47,59,36,45,43,51,22,53,39,33,30,24,18,12,5,63,55,48,27,60,41,37,16,46,35,44,21,52,32,23,11,54,26,40,15,34,20,31,10,25,14,19,9,13,8,7,6]
def dbL:List Value:=dbN.map fun (n:Nat)=>.int .u8 (n:Int)
def TabAt(w:World) : Prop:=At w ⟨1,0,none⟩ dbL
theorem TabAt.up{w w':World}{B:Nat}(h:TabAt w)(hb:Below B w w')(h1:1<B) : TabAt w':=fun j v hj=>by
 have:=h j v hj
 rw [← this]
 exact hb.cell (by rw [X5p];exact h1)
def dbI(q:Nat) : Nat:=2^q*285870213051353865 % 2^64/2^58
def chkT:Bool:=(List.range 64).all fun q=>dbN[dbI q]?==some q
section
variable {P : Program} {a : Act} {w : World} {n : Nat} {e : Env} {ty : TypeId} {pos : String} {af : Array Edge} {g : Option (Nat × Bool)} {d : Option Tmp} {t t' : TypeId} {x y : Operand} {i j : Int}
end
theorem Xav{ts:List Tm}{j i:Nat}{u:Tm}{s s':Ar}(hu:ts[i]? = some u)(hs:s=arF j (ts.take i))(he:arStep j s u=s') : s'=arF j (ts.take (i+1)):=by
 unfold arF at hs ⊢
 rw [Xhp _ _ hu,← hs,he]
section
variable {j : Nat} {s : Ar} {u : Tm}
theorem Xxy(hb:bitQ j u.m=false) : arStep j s u=s:=by unfold arStep;rw [if_neg (by rw [hb];decide)]
theorem Xyb(hb:bitQ j u.m=true)(h:szI (xI u.m (pw j))=0) : arStep j s u=⟨u.c,s.z,true,s.pl⟩:=by unfold arStep;rw [if_pos hb,if_pos h]
theorem Xu3(hb:bitQ j u.m=true)(h:¬ szI (xI u.m (pw j))=0)(h1:szI (xI u.m (pw j))=1) : arStep j s u=⟨s.c,oI s.z (xI u.m (pw j)),true,s.pl&&u.c==4⟩:=by unfold arStep;rw [if_pos hb,if_neg h,if_pos h1]
theorem Xzi(hb:bitQ j u.m=true)(h:¬ szI (xI u.m (pw j))=0)(h1:¬ szI (xI u.m (pw j))=1) : arStep j s u=⟨s.c,s.z,true,false⟩:=by unfold arStep;rw [if_pos hb,if_neg h,if_neg h1]
end
theorem Xsk{p:Ps}{j:Nat}(h:outB j p.out=true) : ruR p j=(0,0,0):=by unfold ruR;rw [if_pos h]
theorem Xul{p:Ps}{j:Nat}(h:outB j p.out=false)(h1:(arF j p.ts).pl=false) : ruR p j=(0,0,0):=by
 unfold ruR
 rw [if_neg (by rw [h];decide),if_pos (show ruK p.ins (arF j p.ts)=0 by unfold ruK;rw [if_pos h1])]
theorem Xna{p:Ps}{j:Nat}{s:Ar}(h:outB j p.out=false)(hs:s=arF j p.ts)(h0:ruK p.ins s≠0) : ruR p j=(ruK p.ins s,s.c,s.z):=by
 subst hs
 unfold ruR
 rw [if_neg (by rw [h];decide),if_neg h0]
theorem Y05{p:Ps}{j:Nat}{s:Ar}(h:outB j p.out=false)(hs:s=arF j p.ts)(h0:ruK p.ins s=0) : ruR p j=(0,0,0):=by
 subst hs
 unfold ruR
 rw [if_neg (by rw [h];decide),if_pos h0]
section
variable {ins : Int} {s : Ar} (hp : s.pl = true)
include hp
theorem Xu9(h:s.c=0∧s.z=0) : ruK ins s=1:=by unfold ruK;rw [if_neg (by rw [hp];decide),if_pos h]
theorem Xub(h:¬ (s.c=0∧s.z=0))(h2:s.c=2∨s.c=6) : ruK ins s=2:=by unfold ruK;rw [if_neg (by rw [hp];decide),if_neg h,if_pos h2]
theorem Xtc(h:¬ (s.c=0∧s.z=0))(h2:¬ (s.c=2∨s.c=6))(h3:(s.c=0∨s.c=4)∧0<s.z/2^ins.toNat) : ruK ins s=3:=by unfold ruK;rw [if_neg (by rw [hp];decide),if_neg h,if_neg h2,if_pos h3]
theorem Xyy(h:¬ (s.c=0∧s.z=0))(h2:¬ (s.c=2∨s.c=6))(h3:¬ ((s.c=0∨s.c=4)∧0<s.z/2^ins.toNat)) : ruK ins s=0:=by unfold ruK;rw [if_neg (by rw [hp];decide),if_neg h,if_neg h2,if_neg h3]
end
theorem Xs7{l:List Af}{j:Nat}(h:l.all (fun a=>!bitQ j a.m)=true) : outB j l=false:=by
 unfold outB
 rw [List.any_eq_false]
 intro a ha
 have:=List.all_eq_true.1 h a ha
 simpa using this
theorem Xm0{l:List Af}{j q:Nat}{u:Af}(hu:l[q]? = some u)(h:bitQ j u.m=true) : outB j l=true:=List.any_eq_true.2 ⟨u,List.mem_of_getElem? hu,h⟩
theorem Y1e{c:Int}(h:0≤c∧c<8) : wr (c.tdiv 4)=c/4:=by
 rw [Int.tdiv_eq_ediv_of_nonneg h.1]
 exact Xjc ⟨by omega,by omega⟩
def ruQ(p:Ps)(j:Nat) : Ps:=if ruK p.ins (arF j p.ts)=0 then psZ else outR p j
section
variable {p : Ps} {j : Nat} {s : Ar}
end
abbrev q3P(p:Ps)(k:Nat) : Ps:=repP (⟨(repP p (p.ins.toNat+k:Nat) afZ).ins,(repP p (p.ins.toNat+k:Nat) afZ).vars,((repP p (p.ins.toNat+k:Nat) afZ).root)-2,(repP p (p.ins.toNat+k:Nat) afZ).phase,(repP p (p.ins.toNat+k:Nat) afZ).ts,(repP p (p.ins.toNat+k:Nat) afZ).out⟩ : Ps) ((vR p (p.ins.toNat+k)) : Nat) (⟨(xI (drI (p.ins.toNat+k) (arF (p.ins.toNat+k) p.ts).z) (pw (vR p (p.ins.toNat+k)))),((arF (p.ins.toNat+k) p.ts).c/4)⟩ : Af)
abbrev q4P(p:Ps)(j:Nat) : Ps:=(⟨(stP p j 0 0).ins,(stP p j 0 0).vars,((stP p j 0 0).root)-2,(stP p j 0 0).phase,(stP p j 0 0).ts,(stP p j 0 0).out⟩ : Ps)
abbrev q5A(p:Ps)(j:Nat) : Af:=⟨drI j (xI (arF j p.ts).z (pw (inI p (arF j p.ts).z))),((arF j p.ts).c/4)⟩
theorem Xwt{p:Ps}{y:Nat}(h:(ruR p y).1≠0) : outB y p.out=false∧ruR p y=(ruK p.ins (arF y p.ts),(arF y p.ts).c,(arF y p.ts).z)∧ruK p.ins (arF y p.ts)≠0:=by
 unfold ruR at h ⊢
 cases ho:outB y p.out with
 | true=>rw [ho] at h;exact absurd rfl h
 | false=>
  rw [ho] at h
  rw [if_neg (show ¬ (false=true) by decide)] at h ⊢
  by_cases hk:ruK p.ins (arF y p.ts)=0
  ·rw [if_pos hk] at h;exact absurd rfl h
  ·exact ⟨rfl,if_neg hk,hk⟩
theorem Xle{ins:Int}{s:Ar}(h:ruK ins s≠0) : s.pl=true∧(ruK ins s=1∨(ruK ins s=2∧(s.c=2∨s.c=6))∨(ruK ins s=3∧(s.c=0∨s.c=4)∧0<s.z/2^ins.toNat)):=by
 unfold ruK at h ⊢
 by_cases h1:s.pl=false
 ·rw [if_pos h1] at h;exact absurd rfl h
 ·rw [if_neg h1] at h ⊢
  refine ⟨by simpa using h1,?_⟩
  by_cases h2:s.c=0∧s.z=0
  ·rw [if_pos h2];exact .inl rfl
  ·rw [if_neg h2] at h ⊢
   by_cases h3:s.c=2∨s.c=6
   ·rw [if_pos h3];exact .inr (.inl ⟨rfl,h3⟩)
   ·rw [if_neg h3] at h ⊢
    by_cases h4:(s.c=0∨s.c=4)∧0<s.z/2^ins.toNat
    ·rw [if_pos h4];exact .inr (.inr ⟨rfl,h4⟩)
    ·rw [if_neg h4] at h;exact absurd rfl h
theorem Xwp{p:Ps}{y:Nat}(h:ruK p.ins (arF y p.ts)=1) : outR p y=rqZ p y 2:=by unfold outR;rw [if_pos h]
theorem Xry{p:Ps}{y:Nat}(h:ruK p.ins (arF y p.ts)=2)(hc:(arF y p.ts).c=2) : outR p y=omR (rqZ p y 1) 1 6 (drI y (arF y p.ts).z):=by
 unfold outR
 rw [if_neg (show ¬ ruK p.ins (arF y p.ts)=1 by rw [h];decide),if_pos h,if_pos hc,if_pos hc]
theorem Xqd{p:Ps}{y:Nat}(h:ruK p.ins (arF y p.ts)=2)(hc:¬ (arF y p.ts).c=2) : outR p y=omR (rqZ p y 1) 7 2 (drI y (arF y p.ts).z):=by
 unfold outR
 rw [if_neg (show ¬ ruK p.ins (arF y p.ts)=1 by rw [h];decide),if_pos h,if_neg hc,if_neg hc]
theorem Xvt{p:Ps}{y:Nat}(h1:¬ ruK p.ins (arF y p.ts)=1)(h2:¬ ruK p.ins (arF y p.ts)=2) : outR p y=repP (rqZ p y 2) (vR p y) ⟨xI (drI y (arF y p.ts).z) (pw (vR p y)),(arF y p.ts).c/4⟩:=by
 unfold outR
 rw [if_neg h1,if_neg h2]
theorem Xhl{f:Nat→Bool} : ∀ {n k:Nat},k<n→(∀ i,i<k→f i=false)→f k=true→(List.range n).find? f=some k:=fun {n k} hk h0 h1=>by
 rw [List.find?_range_eq_some]
 exact ⟨h1,List.mem_range.2 hk,fun i hi=>by rw [h0 i hi];rfl⟩
theorem Xk3{p:Ps}{k:Nat}(hk:k<p.vars.toNat)(h0:∀ i,i<k→(ruR p (p.ins.toNat+i)).1=0)(h1:(ruR p (p.ins.toNat+k)).1≠0) : stepP p=some (outR p (p.ins.toNat+k),(ruR p (p.ins.toNat+k)).1):=by
 unfold stepP firstY
 rw [Xhl hk (fun i hi=>by rw [h0 i hi];rfl) (by rw [bne_iff_ne];exact h1)];rfl
theorem Xkb{p:Ps}(h0:∀ i,i<p.vars.toNat→(ruR p (p.ins.toNat+i)).1=0) : stepP p=none:=by
 unfold stepP firstY
 rw [List.find?_eq_none.2 fun i hi=>by rw [h0 i (List.mem_range.1 hi)];decide];rfl
theorem noN{p:Ps}{k:Nat}(h:∀ i,i<k→(ruR p (p.ins.toNat+i)).1=0)(h1:(ruR p (p.ins.toNat+k)).1=0) : ∀ i,i<k+1→(ruR p (p.ins.toNat+i)).1=0:=fun i hi=>by
 rcases Nat.lt_or_ge i k with h2|h2
 ·exact h i h2
 ·rw [show i=k from by omega];exact h1
theorem Y1y{p:Ps}(h:VPs p){y:Nat}(ho:outB y p.out=false) : (0≤(repP p y afZ).phase∧(repP p y afZ).phase<8)∧OkT (repP p y afZ).ts∧(∀ a ∈ (repP p y afZ).out,AO a)∧(repP p y afZ).ts.length≤p.ts.length∧(repP p y afZ).out.length=p.out.length:=by
 have hT:OkT (repP p y afZ).ts:=Xmz (PO.foldA _ (PO.cPh h.ph))
 have e:=Xqw h.ph h.ts (Xwc h ho)
 refine ⟨by rw [e];exact h.ph,hT,?_,?_,by rw [e];simp⟩
 ·rw [e]
  intro a ha;obtain ⟨u,hu,rfl⟩:=List.mem_map.1 ha;exact (h.out u hu).1.dA
 ·rw [e]
  simp only [List.length_map]
  exact List.length_filter_le _ _
def polF(q:Ps) : Int→Int:=foldA (sm q.ts) (cPh q.phase)
theorem Xc1{q:Ps}(hph:0≤q.phase∧q.phase<8)(hT:OkT q.ts) : PO (polF q)∧SupF (polF q)∧tms (polF q)=q.ts∧polF q 0=q.phase:=
 ⟨PO.foldA _ (PO.cPh hph),SupF.fold (Xya hT.mks) (PO.cPh hph) (SupF.cPh _),hT.tms hph,hT.zero hph⟩
theorem Xrz{z:Int}(h:Mk z)(k:Nat) : 0≤z/2^k∧z/2^k<2^62:=by
 obtain ⟨x,hx,rfl⟩:=h.nat
 rw [X9s]
 refine ⟨Int.natCast_nonneg _,?_⟩
 have h1:x/2^k<2^62:=Nat.lt_of_le_of_lt (Nat.div_le_self _ _) (X0x hx)
 rw [show (2:Int)^62=((2^62:Nat) : Int) from by decide]
 exact Int.ofNat_lt.2 h1
theorem Xq1{z:Int}(h:0≤z∧z<2^62)(h0:0<z) : 0<(setI z.toNat).length:=by
 have hz:z.toNat<2^62:=by
  rw [show (2:Int)^62=4611686018427387904 from by decide] at h
  rw [show (2:Nat)^62=4611686018427387904 from by decide];omega
 obtain ⟨q,t,e⟩:=X6r hz (by omega)
 unfold setI
 rw [List.length_map,e];simp
theorem Xsd{p:Ps}{y:Nat}(h:VPs p)(hy:p.ins.toNat≤y∧y<24)(ho:outB y p.out=false)(hz:0<(arF y p.ts).z/2^p.ins.toNat) : 0<drI y (arF y p.ts).z/2^p.ins.toNat:=by
 have hN:=Xhn hy.2 h.ts
 generalize (arF y p.ts).z=zz at *
 obtain ⟨z,hz24,rfl⟩:=hN.1.nat
 have hb:z.testBit y=false:=hN.2
 have hz0:z >>> p.ins.toNat≠0:=by
  rw [Nat.shiftRight_eq_div_pow]
  rw [X9s] at hz
  omega
 obtain ⟨a1,a2,a3,a4⟩:=Xa3 hz24 hz0;obtain ⟨b1,b2⟩:=Xn2 hy.1 hb a1 a2 a3
 rw [X1q,X9s,← Nat.shiftRight_eq_div_pow]
 have hne:drN y z >>> p.ins.toNat≠0:=fun e=>by have:=b1.1;rw [e,Nat.zero_testBit] at this;cases this
 exact Int.natCast_pos.2 (Nat.pos_of_ne_zero hne)
theorem Xda{α:Type}(p q r:α→Bool)(h:∀ x,r x=true→p x=true∨q x=true) : ∀ l:List α,(l.filter r).length≤(l.filter p).length+(l.filter q).length
 | []=>Nat.le_refl _
 | a::l=>by
  have ih:=Xda p q r h l
  rw [List.filter_cons,List.filter_cons,List.filter_cons]
  cases hr:r a with
  | false=>
   rw [if_neg (by decide)]
   split
   ·split
    ·rw [List.length_cons,List.length_cons];omega
    ·rw [List.length_cons];omega
   ·split
    ·rw [List.length_cons];omega
    ·omega
  | true=>
   rw [if_pos rfl]
   rcases h a hr with h1|h1
   ·rw [h1,if_pos rfl,List.length_cons,List.length_cons]
    split
    ·rw [List.length_cons];omega
    ·omega
   ·rw [h1,if_pos rfl,List.length_cons,List.length_cons]
    split
    ·rw [List.length_cons];omega
    ·omega
theorem X4z{a b:Int}(ha:Mk a)(hb:Mk b) : szI (oI a b)≤szI a+szI b:=by
 obtain ⟨x,hx,rfl⟩:=ha.nat;obtain ⟨y,hy,rfl⟩:=hb.nat
 unfold oI szI
 rw [X1y (X0x hx) (X0x hy)]
 unfold setN
 refine Xda _ _ _ (fun i h=>?_) _
 rw [show ((x ||| y:Nat) : Int).toNat=x ||| y from rfl,Nat.testBit_or,Bool.or_eq_true] at h
 exact h
theorem X9j{m x:Int}(hm:Mk m)(h:x ∈ lows m) : szI x=1:=by
 obtain ⟨M,hM,rfl⟩:=hm.nat
 unfold lows at h
 obtain ⟨k,hk,rfl⟩:=List.mem_map.1 h
 have hk62:k<62:=by unfold setN at hk;exact List.mem_range.1 (List.mem_filter.1 hk).1
 unfold szI
 rw [show (((2^k:Nat) : Int)).toNat=2^k from rfl]
 have:setN (2^k)=[k]:=by
  refine X8g (X3t _) (List.pairwise_singleton _ _) fun t=>?_
  rw [X1j (X37 hk62),Nat.testBit_two_pow,List.mem_singleton]
  simp [eq_comm]
 rw [this];rfl
def dv(m:Int) : Int:=((2^min (szI m-1) 3:Nat) : Int)
theorem X36{m:Int}{k:Int}{s:Nat}(h:szI m≤s)(hk:((2^(s-1) : Nat) : Int)∣k) : dv m∣k:=by
 refine Int.dvd_trans ?_ hk
 exact Int.ofNat_dvd.2 (Nat.pow_dvd_pow 2 (by omega))
theorem dv8(m:Int) : dv m∣8:=by
 have:dv m∣((2^3:Nat) : Int):=Int.ofNat_dvd.2 (Nat.pow_dvd_pow 2 (by omega))
 exact this
def Dv(f:Int→Int) : Prop:=∀ x,dv x∣f x
theorem Dv.padd{f:Int→Int}(h:Dv f){m k:Int}(hk:dv m∣k) : Dv (padd f m k):=fun x=>by
 unfold Proofs.YtiejkplemjkjoaaGreat.padd upd
 split
 ·rename_i e
  subst e
  rw [Int.emod_def]
  exact Int.dvd_sub (Int.dvd_add (h x) hk) (Int.dvd_trans (dv8 x) (Int.dvd_mul_right _ _))
 ·exact h x
theorem Dv.fold:∀ {L:List Sm} {f:Int→Int},Dv f→(∀ p ∈ L,dv p.1∣p.2)→Dv (foldA L f)
 | [],_,h,_=>h
 | p::L,f,h,hL=>Dv.fold (L:=L) (h.padd (hL p (by simp))) fun q hq=>hL q (List.mem_cons_of_mem _ hq)
theorem X8y(k:Int) : dv 0∣k:=by
 have:dv 0=1:=by decide +kernel
 rw [this];exact Int.one_dvd _
section
variable {l : List Int} (hl : ∀ x ∈ l, Mk x ∧ szI x = 1)
include hl
theorem X9c(n:Nat) : Mk (l.getD n 0)∧szI (l.getD n 0)≤1:=by
 rw [List.getD_eq_getElem?_getD]
 cases e:l[n]? with
 | none=>exact ⟨Mk.zero,by show szI 0≤1;decide +kernel⟩
 | some x=>have:=hl x (List.mem_of_getElem? e);exact ⟨this.1,Nat.le_of_eq this.2⟩
theorem Xiq{x y k:Int}(hx:Mk x∧szI x≤1)(hy:Mk y∧szI y≤1) : ∀ n,∀ p ∈ exZL 0 x y k l n,dv p.1∣p.2
 | 0,p,h=>by cases h
 | n+1,p,h=>by
  rcases List.mem_append.1 h with h|h
  ·exact Xiq hx hy n p h
  ·rw [List.mem_singleton.1 h]
   have hz:=X9c hl n;have h1:=X4z Mk.zero hx.1;have h2:=X4z (Mk.zero.or hx.1) hy.1;have h3:=X4z ((Mk.zero.or hx.1).or hy.1) hz.1
   have h0:szI 0=0:=by decide +kernel
   exact X36 (s:=3) (by show szI (oI (oI (oI 0 x) y) (l.getD n 0))≤3;omega) (Int.dvd_mul_right 4 k)
theorem Xj6{x k:Int}(hx:Mk x∧szI x≤1) : ∀ n,∀ p ∈ exYL 0 x k l n,dv p.1∣p.2
 | 0,p,h=>by cases h
 | n+1,p,h=>by
  have hy:=X9c hl n
  rcases List.mem_append.1 h with h|h
  ·exact Xj6 hx n p h
  ·rcases List.mem_cons.1 h with rfl|h
   ·have h1:=X4z Mk.zero hx.1;have h2:=X4z (Mk.zero.or hx.1) hy.1
    have h0:szI 0=0:=by decide +kernel
    refine X36 (s:=2) (by show szI (oI (oI 0 x) (l.getD n 0))≤2;omega) ?_
    show (2:Int) ∣ -2*k
    exact Int.dvd_trans (by decide) (Int.dvd_mul_right (-2) k)
   ·exact Xiq hl hx hy n p h
theorem Xdq{k:Int} : ∀ n,∀ p ∈ exXL 0 k l n,dv p.1∣p.2
 | 0,p,h=>by cases h
 | n+1,p,h=>by
  have hy:=X9c hl n
  rcases List.mem_append.1 h with h|h
  ·exact Xdq n p h
  ·rcases List.mem_cons.1 h with rfl|h
   ·have h1:=X4z Mk.zero hy.1
    have h0:szI 0=0:=by decide +kernel
    exact X36 (s:=1) (by show szI (oI 0 (l.getD n 0))≤1;omega) (Int.one_dvd _)
   ·exact Xj6 hl hy n p h
end
theorem Xds{k:Int}{a:Af}(ha:Mk a.m) : ∀ p ∈ expL k a 0,dv p.1∣p.2:=fun p hp=>by
 have hl:∀ x ∈ lows a.m,Mk x∧szI x=1:=fun x hx=>⟨X3z ha hx,X9j ha hx⟩
 unfold expL at hp
 split at hp
 ·rcases List.mem_cons.1 hp with rfl|hp
  ·exact X8y _
  ·exact Xdq hl _ p hp
 ·exact Xdq hl _ p hp
theorem Xja{u v:Af}(hu:Mk u.m)(hv:Mk v.m) : ∀ p ∈ sumS u v,dv p.1∣p.2:=fun p hp=>by
 have h4:∀ k:Int,(2:Int)∣4*k:=fun k=>Int.dvd_trans (by decide) (Int.dvd_mul_right 4 k)
 unfold sumS at hp
 rcases List.mem_append.1 hp with hp|hp
 ·rcases List.mem_append.1 hp with hp|hp
  ·obtain ⟨x,hx,hp⟩:=List.mem_flatMap.1 hp
   rcases List.mem_append.1 hp with hp|hp
   ·obtain ⟨y,hy,rfl⟩:=List.mem_map.1 hp;have h1:=X4z (X3z hu hx) (X3z hv hy);have h2:=X9j hu hx;have h3:=X9j hv hy;exact X36 (s:=2) (by show szI (oI x y)≤2;omega) (show (2:Int)∣4 by decide)
   ·rw [List.mem_singleton.1 hp]
    exact X36 (s:=1) (Nat.le_of_eq (X9j hu hx)) (Int.one_dvd _)
  ·obtain ⟨y,hy,rfl⟩:=List.mem_map.1 hp;exact X36 (s:=1) (Nat.le_of_eq (X9j hv hy)) (Int.one_dvd _)
 ·rw [List.mem_singleton.1 hp];exact X8y _
def Lt(N:Nat)(m:Int) : Prop:=Mk m∧m<((2^N:Nat) : Int)
theorem Lt.zero(N:Nat) : Lt N 0:=⟨Mk.zero,by have:=Nat.two_pow_pos N;omega⟩
theorem Lt.or{N:Nat}{a b:Int}(ha:Lt N a)(hb:Lt N b) : Lt N (oI a b):=by
 refine ⟨ha.1.or hb.1,?_⟩
 obtain ⟨x,hx,rfl⟩:=ha.1.nat;obtain ⟨y,hy,rfl⟩:=hb.1.nat
 unfold oI
 rw [X1y (X0x hx) (X0x hy)]
 have h1:=ha.2;have h2:=hb.2;exact Int.ofNat_lt.2 (Nat.or_lt_two_pow (Int.ofNat_lt.1 h1) (Int.ofNat_lt.1 h2))
theorem Lt.xor{N:Nat}{a b:Int}(ha:Lt N a)(hb:Lt N b) : Lt N (xI a b):=by
 refine ⟨ha.1.xor hb.1,?_⟩
 obtain ⟨x,hx,rfl⟩:=ha.1.nat;obtain ⟨y,hy,rfl⟩:=hb.1.nat
 unfold xI
 rw [X17 (X0x hx) (X0x hy)]
 exact Int.ofNat_lt.2 (Nat.xor_lt_two_pow (Int.ofNat_lt.1 ha.2) (Int.ofNat_lt.1 hb.2))
theorem Lt.mono{N M:Nat}(h:N≤M){m:Int}(hm:Lt N m) : Lt M m:=⟨hm.1,by
 have:=Nat.pow_le_pow_right (n:=2) (by decide) h
 have:=hm.2
 omega⟩
theorem X6y{N:Nat}{m x:Int}(h:Lt N m)(hx:x ∈ lows m) : Lt N x:=by
 refine ⟨X3z h.1 hx,?_⟩
 obtain ⟨M,hM,rfl⟩:=h.1.nat
 unfold lows at hx
 obtain ⟨k,hk,rfl⟩:=List.mem_map.1 hx
 have hk:M.testBit k=true:=(X1j (X0x hM)).1 hk
 have:2^k≤M:=Nat.ge_two_pow_of_testBit hk
 have:=h.2
 omega
theorem Xal{N:Nat}{k r:Int}{a:Af}(ha:Lt N a.m)(hr:Lt N r) : ∀ p ∈ expL k a r,Lt N p.1:=fun p hp=>by
 have hX:=fun k n=>X6x (k:=k) (r:=r) (Q:=Lt N) (l:=lows a.m) (fun _ _ h1 h2=>h1.or h2) (Lt.zero N) (fun x hx=>X6y ha hx) hr n
 unfold expL at hp
 split at hp
 ·rcases List.mem_cons.1 hp with rfl|hp
  ·exact hr
  ·exact hX _ _ p hp
 ·exact hX _ _ p hp
theorem Xi9{N:Nat}{u v:Af}(hu:Lt N u.m)(hv:Lt N v.m) : ∀ p ∈ sumS u v,Lt N p.1:=fun p hp=>by
 unfold sumS at hp
 rcases List.mem_append.1 hp with hp|hp
 ·rcases List.mem_append.1 hp with hp|hp
  ·obtain ⟨x,hx,hp⟩:=List.mem_flatMap.1 hp
   rcases List.mem_append.1 hp with hp|hp
   ·obtain ⟨y,hy,rfl⟩:=List.mem_map.1 hp;exact (X6y hu hx).or (X6y hv hy)
   ·rw [List.mem_singleton.1 hp];exact X6y hu hx
  ·obtain ⟨y,hy,rfl⟩:=List.mem_map.1 hp;exact X6y hv hy
 ·rw [List.mem_singleton.1 hp];exact Lt.zero N
def SupN(N:Nat)(f:Int→Int) : Prop:=∀ x,f x≠0→Lt N x
theorem SupN.fold{N:Nat}{L:List Sm}(h:∀ p ∈ L,Lt N p.1){f:Int→Int}(hf:PO f)(hs:SupN N f) : SupN N (foldA L f):=fun x hx=>by
 rw [X33 _ hf] at hx
 by_cases e:f x=0
 ·refine Classical.byContradiction fun hn=>hx ?_
  rw [e,X5e fun p hp e2=>hn (by rw [← e2];exact h p hp)];rfl
 ·exact hs x e
structure PsV (n:Nat) (s:Pst) : Prop where
 ok:PsOk n s
 sup:SupN (n+s.v) s.f
 dv:Dv s.f
 out:∀ a ∈ s.out,Lt (n+s.v) a.m
theorem Lt.at{N:Nat}{l:List Af}(h:∀ a ∈ l,Lt N a.m)(i:Int) : Lt N (aAt l i).m:=by
 unfold aAt
 rw [List.getD_eq_getElem?_getD]
 cases e:l[i.toNat]? with
 | none=>exact Lt.zero N
 | some a=>exact h a (List.mem_of_getElem? e)
theorem Xju{n:Nat}(h:n<24) : Lt (n+1) (varA n).m:=⟨(AO.var h).1,Int.ofNat_lt.2 (Nat.pow_lt_pow_right (by decide) (Nat.lt_succ_self n))⟩
theorem PsV.step{n:Nat}{s t:Pst}{g:Gt}(h:PsV n s)(e:psStep n s g=some t) : PsV n t:=by
 have hok:=h.ok.step e;have hu:=AO.at h.ok.all g.a;have hv:=AO.at h.ok.all g.b
 have lu:=Lt.at h.out g.a
 have lv:=Lt.at h.out g.b
 have h0:∀ k,SupN (n+s.v) (padd s.f 0 k):=fun k=>SupN.fold (L:=[(0,k)]) (fun p hp=>by rw [List.mem_singleton.1 hp];exact Lt.zero _) h.ok.po h.sup
 have d0:∀ k,Dv (padd s.f 0 k):=fun k=>h.dv.padd (X8y k)
 unfold psStep at e
 split at e
 ·split at e
  ·cases e
  ·rename_i h24
   have hvar:=Xju (n:=n+s.v) (by omega)
   injection e with e;subst e
   refine ⟨hok,SupN.fold (Xi9 (lu.mono (by show n+s.v≤n+(s.v+1);omega)) hvar) h.ok.po (fun x hx=>(h.sup x hx).mono (by show n+s.v≤n+(s.v+1);omega)),Dv.fold h.dv (Xja hu.1 hvar.1),X34 (fun a ha=>(h.out a ha).mono (by show n+s.v≤n+(s.v+1);omega)) hvar⟩
 ·split at e
  ·injection e with e;subst e
   exact ⟨hok,h.sup,h.dv,X34 h.out (lu.xor (Lt.zero _))⟩
  ·split at e
   ·injection e with e;subst e
    refine ⟨hok,?_,?_,X34 h.out (lu.xor (Lt.zero _))⟩
    ·show SupN _ (expP _ _ _ _)
     rw [X2f]
     exact SupN.fold (Xal lu (Lt.zero _)) (h.ok.po.padd _ _) (h0 2)
    ·show Dv (expP _ _ _ _)
     rw [X2f]
     exact Dv.fold (d0 2) (Xds hu.1)
   ·split at e
    ·injection e with e;subst e
     exact ⟨hok,h.sup,h.dv,X34 h.out (lu.xor lv)⟩
    ·split at e
     ·injection e with e;subst e
      exact ⟨hok,SupN.fold (Xi9 lu lv) h.ok.po h.sup,Dv.fold h.dv (Xja hu.1 hv.1),h.out⟩
     ·split at e
      ·injection e with e;subst e
       exact ⟨hok,h.sup,h.dv,X34 (X34 h.out lv) lu⟩
      ·split at e
       ·injection e with e;subst e
        exact ⟨hok,h0 1,d0 1,h.out⟩
       ·injection e with e;subst e
        refine ⟨hok,?_,?_,h.out⟩
        ·show SupN _ (expP _ _ _ _)
         rw [X2f]
         exact SupN.fold (Xal lu (Lt.zero _)) h.ok.po h.sup
        ·show Dv (expP _ _ _ _)
         rw [X2f]
         exact Dv.fold h.dv (Xds hu.1)
theorem PsV.fold{n:Nat} : ∀ (l:List Gt) {s t:Pst},PsV n s→psAll n l s=some t→PsV n t
 | [],s,t,h,e=>by injection e with e;subst e;exact h
 | g::l,s,t,h,e=>by
  have e:(psStep n s g).bind (psAll n l)=some t:=e
  cases h1:psStep n s g with
  | none=>rw [h1] at e;cases e
  | some u=>rw [h1] at e;exact PsV.fold l (h.step h1) e
theorem PsV.zero{n:Nat}(h:n≤5) : PsV n (ps0 n):=⟨PsOk.zero h,fun x hx=>absurd rfl hx,fun x=>Int.dvd_zero _,fun a ha=>by
 simp only [ps0,varsN,List.mem_map,List.mem_range] at ha
 obtain ⟨k,hk,rfl⟩:=ha
 exact (Xju (by omega)).mono (by show k+1≤n+0;omega)⟩
theorem PsV.valid{n:Nat}{s:Pst}(h:PsV n s)(hn:1≤n∧n≤5) : validP ⟨(n:Int),s.v,s.v,s.f 0,tms s.f,s.out⟩=true:=by
 have hvs:=h.ok.vs;have h0:=h.ok.po 0
 have hN:((n:Int)+(s.v:Int)).toNat=n+s.v:=by omega
 unfold validP
 simp only [Bool.and_eq_true]
 refine ⟨⟨?_,?_⟩,?_⟩
 ·simp only [okHd,inR,Bool.and_eq_true,decide_eq_true_eq]
  have:=h.ok.len
  exact ⟨⟨⟨⟨⟨by omega,by omega⟩,by omega,by omega⟩,by omega,by omega⟩,by omega,by omega⟩,by rw [this]⟩
 ·rw [hN]
  unfold okTs
  rw [List.all_eq_true]
  intro i hi;have hi:=List.mem_range.1 hi;have hm:=List.mem_of_getElem? (Xa4 hi);obtain ⟨m1,m2,m3,m4⟩:=((X2l s.f).mem _).1 hm;have hp:=h.ok.po ((tms s.f).getD i tZ).m;have hl:=(h.sup _ m4).2;have hd:=h.dv ((tms s.f).getD i tZ).m
  have hs1:=Xar ⟨by omega,m2⟩ m1
  have hs3:szI ((tms s.f).getD i tZ).m≤3:=by
   rcases Nat.lt_or_ge 3 (szI ((tms s.f).getD i tZ).m) with h9|h9
   ·exfalso
    unfold Proofs.YtiejkplemjkjoaaGreat.dv at hd
    rw [Nat.min_eq_right (by omega)] at hd
    have h8:(8:Int)∣s.f ((tms s.f).getD i tZ).m:=hd
    omega
   ·exact h9
  unfold okTa
  simp only [inR,Bool.and_eq_true,Bool.or_eq_true,decide_eq_true_eq,beq_iff_eq]
  refine ⟨⟨⟨⟨⟨by omega,by omega⟩,hs3⟩,by omega,by omega⟩,?_⟩,?_⟩
  ·rw [m3]
   refine Int.emod_eq_zero_of_dvd ?_
   unfold Proofs.YtiejkplemjkjoaaGreat.dv at hd
   rw [Nat.min_eq_left (by omega)] at hd
   exact hd
  ·rcases Nat.eq_zero_or_pos i with e|e
   ·exact .inl e
   ·right
    have hr:=(X2l s.f).rise
    unfold Rise at hr
    rw [List.pairwise_iff_getElem] at hr
    have:=hr (i-1) i (by omega) hi (by omega)
    rw [List.getD_eq_getElem?_getD,List.getD_eq_getElem?_getD,List.getElem?_eq_getElem hi,List.getElem?_eq_getElem (show i-1<(tms s.f).length by omega)]
    exact this
 ·rw [hN,List.all_eq_true]
  intro a ha;have h1:=h.out a ha;have h2:=h.ok.all a ha
  simp only [okAf,inR,Bool.and_eq_true,decide_eq_true_eq]
  have:=h1.1.1
  have:=h1.2
  rcases h2.2 with e|e<;>omega
theorem X7k{c:Cx}(h:cOk c=true){p:Ps}(hp:psC c=some p) : validP p=true:=by
 obtain ⟨n,hn,hn1,hn5⟩:=Xc9 h
 unfold psC at hp
 rw [hn,Int.toNat_natCast] at hp
 cases e:psAll n c.gs (ps0 n) with
 | none=>rw [e] at hp;cases hp
 | some s=>
  rw [e] at hp
  injection hp with hp
  subst hp
  exact (PsV.fold c.gs (PsV.zero hn5) e).valid ⟨hn1,hn5⟩
structure BdP (p q:Ps) : Prop where
 mks:∀ t ∈ q.ts,Mk t.m
 len:q.ts.length≤16777216
 out:q.out.length≤100000000
 ins:-1000≤q.ins∧q.ins≤1000
 vars:-1000≤q.vars∧q.vars≤1000
structure VPr (p:Ps) : Prop where
 v:VPs p
 root:-60≤p.root∧p.root≤60
 len:p.ts.length≤16777216
 out:p.out.length≤5
theorem VPr.of{p:Ps}(h:validP p=true) : VPr p:=by
 have hv:=VPs.of h
 simp only [validP,okHd,Bool.and_eq_true] at h
 obtain ⟨⟨⟨⟨⟨⟨h1,h2⟩,h3⟩,h4⟩,h5⟩,h6⟩,h7⟩:=h
 simp only [inR,Bool.and_eq_true,decide_eq_true_eq] at h1 h2 h3 h4 h5
 refine ⟨hv,h3,?_,by omega⟩
 have:=Xc0 (lo:=0) (hi:=16777216) hv.ts.rise fun t ht=>⟨(hv.ts.all t ht).1,(hv.ts.all t ht).2.1⟩
 omega
def bQ(j:Nat)(x:Af) : Bool:=bits .and .i64 (x.m/2^j) 1==1
def rdP(p:Ps) : Ps×Nat:=if validP p then redP p else (psZ,0)
theorem Xrg(d:Nat)(x y:Af)(w:World) : (Op.equalIn (d+2) 34 (aV x) (aV y)).run Tryz.prog w=.ok (decide (x=y)) w:=by
 have hf:=X71 Tryz.underlying34;refine (run_equalIn_struct w (d+1) 34 _ _ (by rw [hf];exact Tryz.underlying34) (by kernel_rfl)).trans ?_
 rw [hf]
 have:decide (x=y)=(decide (x.m=y.m)&&(decide (x.t=y.t)&&true)):=by
  obtain ⟨a,b⟩:=x;obtain ⟨a',b'⟩:=y
  simp
 rw [this]
 refine X20 (by decide) X2 Tryz.underlying3 rfl rfl fun _=>?_;refine X20 (by decide) X2 Tryz.underlying3 rfl rfl fun _=>?_
 rfl
theorem Xqg:Tryz.prog.eqGuardType Tryz.prog.depth 34=false:=by kernel_rfl
def idK(l:List Af)(k:Nat) : Bool:=(List.range k).all fun q=>decide (l.getD q afZ=varA q)
def idH(p:Ps) : Bool:=decide (p.vars=0)&&decide (p.ts.length=0)&&decide (p.root=0)
def invG(g:Gt) : List Gt:=List.replicate (bkN g).toNat (bkG g)
def invL(gs:List Gt) : List Gt:=gs.reverse.flatMap invG
def invO(c:Cx) : Option Cx:=if cOk c&&decide ((invL c.gs).length≤400) then some ⟨c.n,invL c.gs⟩ else none
def conO(a b:Cx) : Option Cx:=if cOk a&&cOk b&&decide (a.n=b.n)&&decide (a.gs.length+b.gs.length≤400) then some ⟨a.n,a.gs++b.gs⟩ else none
theorem Xdg{c:Cx} : cOk c=true↔inR c.n 1 5=true∧c.gs.length≤400∧∀ g ∈ c.gs,gOk c.n g=true:=by
 simp only [cOk,Bool.and_eq_true,decide_eq_true_eq,Bool.not_eq_true',List.any_eq_false]
 constructor
 ·rintro ⟨⟨h1,h2⟩,h3⟩;exact ⟨h1,by omega,fun g hg=>by have:=h3 g hg;simpa using this⟩
 ·rintro ⟨h1,h2,h3⟩;exact ⟨⟨h1,by omega⟩,fun g hg=>by rw [h3 g hg];decide⟩
def veP(p:Ps) : Int×Int×Bool:=if idP (redP p).1 then (1,(redP p).1.phase,true) else if (redP p).1.vars=0 then (2,0,true) else (0,0,true)
def veO(o:Option Cx) : Int×Int×Bool:=(o.bind psC).elim (0,0,false) veP
def veM(a b:Cx) : Int×Int×Bool:=veO ((invO b).bind (conO a))
theorem Xuy{c:Cx}(h:cOk c=true) : psO c=psC c:=by unfold psO;rw [if_pos h]
theorem Xe4(w0:World)(m:Int)(hm:0≤m∧m<2^62) : Ret Tryz.prog 83 [vi m] w0 (fun v w=>∃ A c,v=.slice A (lows m).length c∧Own w w0.heap.size 3 1 encI A c (lows m)∧Below w0.heap.size w0 w):=by
 have h:=Y0h w0 m.toNat (by rw [show (2:Nat)^62=4611686018427387904 from by decide];have:=hm.2;rw [show (2:Int)^62=4611686018427387904 from by decide] at this;have:=hm.1;omega)
 rw [Int.toNat_of_nonneg hm.1] at h
 exact h
theorem Xls(w0:World)(bV:Nat)(f:Int→Int)(b:MapF w0 bV f)(k:Int)(u:Af)(r:Int)(aF:PO f)(hk:-8≤k∧k≤8)(hu:AO u) : Ret Tryz.prog 52 [.map (some bV),vi k,.agg #[vi u.m,vi u.t],vi r] w0 (fun v w=>v=.tuple #[]∧Kept bV w0.heap.size w0 w∧MapF w bV (expP f k u r)):=by
 have cQ:=b.lt;have d6:=X43 u.m;refine enter Tryz.func52 rfl 80 rfl rfl ?_;intro a c
 have n:Kept bV w0.heap.size w0 w0:=Kept.refl _ _ _
 refine Zs c fun _ cJ=>?_;refine Zf (X14 (zs:=[vi u.m,vi u.t]) rfl rfl) ?_;rintro _ w1 ⟨b2,rfl,cK,y,W⟩;have cR:=Nat.le_trans n.size cK;have b:=b.below y;have n:=ktr n y;refine ZX cJ fun a c _ aZ=>?_;refine Zs c fun _ cL=>?_;refine Ze (Vd rfl X0k 1)<|Ze (X0 rfl X2 (W.at 1))<|Ze (X0l rfl rfl)<|Zt cL fun a c=>?_
 refine Xg c rfl (fun aC=>?_) (fun aC=>?_)
 ·have b0:=aC
  have aG:u.t=1:=by simpa using aC
  refine Zs c fun _ cM=>?_;refine Zm rfl<|Zm rfl<|Zm rfl<|Zf (Vc (X6t _ bV f b r k aF (by omega)) X3g) ?_;rintro _ w2 ⟨rfl,N,h⟩;obtain ⟨wm,A,hm,y⟩:=N.mid;clear hm;have e:=b.nc;have W:=W.onlyN A e;have n:=n.self A;have W:=W.below y;have n:=ktr n y
  clear e y A N;have b:=h;clear h;refine Zt cM fun a c=>?_;refine Zr c<|Zm rfl<|Ze (Vx (Xr3 rfl) (Xi2 hk))<|Za rfl<|Zx aZ fun a c _ cN=>?_;refine Ze (Vd rfl X0a 0)<|Ze (X0 rfl X2 (W.at 0))<|Zf (Vc (Xe4 _ u.m (Mk.b62 hu.1)) Xat) ?_;rintro _ w3 ⟨A8,c8,rfl,o,y⟩;have o:=o.lower n.size;have b:=b.below y;have n:=ktr n y;refine Za rfl<|Zx cN fun a c _ cO=>?_;refine Zm rfl<|Ze (X1f rfl X0f)<|Zm rfl<|Zt cO fun a c=>?_;refine wp_block<|X06 (σ:=Nat×(Int→Int)) (fun (s:Nat×(Int→Int)) (a:Act) (w:World)=>match s with|(i,g)=>Fr a 80 [(0,.map (some bV)),(1,vi (-k)),(3,vi r),(8,.slice A8 (lows u.m).length c8),(27,.slice A8 (lows u.m).length c8),(28,vi ((lows u.m).length:Int)),(29,vi (i:Int))]∧(i≤(lows u.m).length)∧(g=exX r (-k) (lows u.m) (padd f r k) i)∧(PO g)∧MapF w bV g∧Own w w0.heap.size 3 1 encI A8 c8 (lows u.m)∧Kept bV w0.heap.size w0 w) (fun (s:Nat×(Int→Int))=>match s with|(i,g)=>(lows u.m).length-i) (0,(padd f r k)) ?_ ?_
  ·exact ⟨c.sb,(Nat.zero_le _),rfl,(aF.padd _ _),b,o,n⟩
  rintro ⟨i,g⟩ a w4 ⟨c,hi,hg,hp,b,o,n⟩;refine Zs c fun _ b1=>?_;refine Ze (X1n rfl rfl)<|ZX b1 fun a c _ b3=>?_
  refine Xg c rfl (fun H=>?_) (fun H=>?_)
  ·have aH:=H;have H:=of_decide_eq_true H
   obtain ⟨d7,cS⟩:=Xm (l:=(lows u.m)) (k:=i) (by omega)
   refine wp_skip<|b3 _ _<|wp_seq_k fun _ b4=>?_;refine wp_block<|Zs c fun _ b5=>?_;refine Zm rfl<|Zi (k:=i) (u:=((lows u.m).getD i 0)) (enc:=encI) (l:=(lows u.m)) trivial rfl rfl X0f X12 X0h o.rd (Xa7 (by omega)) rfl ?_;intro d8 aI;refine Ze (X0 rfl X2 aI)<|Za rfl<|Za rfl<|Zx b5 fun a c _ b6=>?_;refine Zm rfl<|Zm rfl<|Zm rfl<|Ze (Vx (Vor rfl rfl) (rfl:_=(oI r ((lows u.m).getD i 0))))<|Zm rfl ?_;refine Zf (Vc (X6t _ bV g b (oI r ((lows u.m).getD i 0)) (-k) hp (by omega)) X3g) ?_;rintro _ w5 ⟨rfl,N,h⟩;obtain ⟨wm,A,hm,y⟩:=N.mid;clear hm;have e:=b.nc;have o:=o.onlyN A e;have n:=n.self A;have o:=o.below y;have n:=ktr n y
   clear e y A N;have b:=h;clear h;refine Zx b6 fun a c _ b7=>?_;refine Zm rfl<|Zm rfl ?_;have p:=(o.rd.top).takeK X0h i;refine Ze (X52 (l:=(lows u.m)) (k:=i) rfl rfl X0f X12 rfl (by omega) o.cap)<|Ze (X1f rfl X0f)<|Zm rfl<|Zt b7 fun a c=>?_;refine wp_block<|X06 (σ:=Nat×(Int→Int)) (fun (s:Nat×(Int→Int)) (a:Act) (w:World)=>match s with|(j,Q)=>Fr a 80 [(0,.map (some bV)),(1,vi (-k)),(3,vi r),(8,.slice A8 (lows u.m).length c8),(10,vi ((lows u.m).getD i 0)),(27,.slice A8 (lows u.m).length c8),(28,vi ((lows u.m).length:Int)),(29,vi (i:Int)),(42,.slice A8 ((lows u.m).take i).length c8),(43,vi (((lows u.m).take i).length:Int)),(44,vi (j:Int))]∧(j≤i)∧(Q=exY r ((lows u.m).getD i 0) (-k) (lows u.m) (padd (exX r (-k) (lows u.m) (padd f r k) i) (oI r ((lows u.m).getD i 0)) (-k)) j)∧(PO Q)∧MapF w bV Q∧Own w w0.heap.size 3 1 encI A8 c8 (lows u.m)∧Rd w w5.heap.size 3 encI A8 ((lows u.m).take i)∧Kept bV w0.heap.size w0 w) (fun (s:Nat×(Int→Int))=>match s with|(j,Q)=>i-j) (0,(padd g (oI r ((lows u.m).getD i 0)) (-k))) ?_ ?_
   ·exact ⟨c.sb,(Nat.zero_le _),(by rw [hg];rfl),(hp.padd _ _),b,o,p,n⟩
   rintro ⟨j,Q⟩ a w6 ⟨c,hj,aD,aA,b,o,p,n⟩;refine Zs c fun _ b8=>?_;refine Ze (X1n rfl rfl)<|ZX b8 fun a c _ b9=>?_
   refine Xg c rfl (fun C=>?_) (fun C=>?_)
   ·have aJ:=C;have C:=of_decide_eq_true C
    obtain ⟨dB,cU⟩:=Xm (l:=((lows u.m).take i)) (k:=j) (by omega)
    have aK:j<i:=by have:=C;rw [List.length_take] at this;omega
    refine wp_skip<|b9 _ _<|wp_seq_k fun _ bC=>?_;refine wp_block<|Zs c fun _ bD=>?_;refine Zm rfl<|Zi (k:=j) (u:=((lows u.m).getD j 0)) (enc:=encI) (l:=((lows u.m).take i)) trivial rfl rfl X0f X12 X0h p (X5u aK (by omega)) rfl ?_;intro dC aL;refine Ze (X0 rfl X2 aL)<|Za rfl<|Za rfl<|Zx bD fun a c _ bE=>?_;refine Zm rfl<|Zm rfl<|Zm rfl<|Ze (Vx (Vor rfl rfl) (rfl:_=(oI r ((lows u.m).getD i 0))))<|Zm rfl ?_;refine Ze (Vx (Vor rfl rfl) (rfl:_=(oI (oI r ((lows u.m).getD i 0)) ((lows u.m).getD j 0))))<|Zm rfl<|Ze (X2y rfl rfl (by omega) (by omega))<|Zf (Vc (X6t _ bV Q b (oI (oI r ((lows u.m).getD i 0)) ((lows u.m).getD j 0)) ((-2)*(-k)) aA (by omega)) X3g) ?_;rintro _ w7 ⟨rfl,N,h⟩;obtain ⟨wm,A,hm,y⟩:=N.mid;clear hm;have e:=b.nc;have o:=o.onlyN A e;have p:=p.onlyN A e;have n:=n.self A;have o:=o.below y;have p:=p.below y;have n:=ktr n y
    clear e y A N;have b:=h;clear h;refine Zx bE fun a c _ bF=>?_;refine Zm rfl<|Zm rfl ?_;have I:=(o.rd.top).takeK X0h j;refine Ze (X52 (l:=(lows u.m)) (k:=j) rfl rfl X0f X12 rfl (by omega) o.cap)<|Ze (X1f rfl X0f)<|Zm rfl<|Zt bF fun a c=>?_;refine wp_block<|X06 (σ:=Nat×(Int→Int)) (fun (s:Nat×(Int→Int)) (a:Act) (w:World)=>match s with|(z,U)=>Fr a 80 [(0,.map (some bV)),(1,vi (-k)),(3,vi r),(8,.slice A8 (lows u.m).length c8),(10,vi ((lows u.m).getD i 0)),(12,vi ((lows u.m).getD j 0)),(27,.slice A8 (lows u.m).length c8),(28,vi ((lows u.m).length:Int)),(29,vi (i:Int)),(42,.slice A8 ((lows u.m).take i).length c8),(43,vi (((lows u.m).take i).length:Int)),(44,vi (j:Int)),(60,.slice A8 ((lows u.m).take j).length c8),(61,vi (((lows u.m).take j).length:Int)),(62,vi (z:Int))]∧(z≤j)∧(U=exZ r ((lows u.m).getD i 0) ((lows u.m).getD j 0) (-k) (lows u.m) (padd (exY r ((lows u.m).getD i 0) (-k) (lows u.m) (padd (exX r (-k) (lows u.m) (padd f r k) i) (oI r ((lows u.m).getD i 0)) (-k)) j) (oI (oI r ((lows u.m).getD i 0)) ((lows u.m).getD j 0)) (-2*(-k))) z)∧(PO U)∧MapF w bV U∧Own w w0.heap.size 3 1 encI A8 c8 (lows u.m)∧Rd w w5.heap.size 3 encI A8 ((lows u.m).take i)∧Rd w w7.heap.size 3 encI A8 ((lows u.m).take j)∧Kept bV w0.heap.size w0 w) (fun (s:Nat×(Int→Int))=>match s with|(z,U)=>j-z) (0,(padd Q (oI (oI r ((lows u.m).getD i 0)) ((lows u.m).getD j 0)) (-2*(-k)))) ?_ ?_
    ·exact ⟨c.sb,(Nat.zero_le _),(by rw [aD];rfl),(aA.padd _ _),b,o,p,I,n⟩
    rintro ⟨z,U⟩ a w8 ⟨c,hz,aE,aB,b,o,p,I,n⟩;refine Zs c fun _ bG=>?_;refine Ze (X1n rfl rfl)<|ZX bG fun a c _ bH=>?_
    refine Xg c rfl (fun D=>?_) (fun D=>?_)
    ·have aM:=D;have D:=of_decide_eq_true D
     obtain ⟨dD,cW⟩:=Xm (l:=((lows u.m).take j)) (k:=z) (by omega)
     have aN:z<j:=by have:=D;rw [List.length_take] at this;omega
     refine wp_skip<|bH _ _<|wp_seq_k fun _ bJ=>?_;refine wp_block<|Zs c fun _ bK=>?_;refine Zi (k:=z) (u:=((lows u.m).getD z 0)) (enc:=encI) (l:=((lows u.m).take j)) trivial rfl rfl X0f X12 X0h I (X5u aN (by omega)) rfl ?_;intro dE aO;refine Ze (X0 rfl X2 aO)<|Za rfl<|Zt bK fun a c=>?_;refine Zr c<|Zm rfl<|Zm rfl<|Zm rfl<|Ze (Vx (Vor rfl rfl) (rfl:_=(oI r ((lows u.m).getD i 0))))<|Zm rfl ?_;refine Ze (Vx (Vor rfl rfl) (rfl:_=(oI (oI r ((lows u.m).getD i 0)) ((lows u.m).getD j 0))))<|Zm rfl<|Ze (Vx (Vor rfl rfl) (rfl:_=(oI (oI (oI r ((lows u.m).getD i 0)) ((lows u.m).getD j 0)) ((lows u.m).getD z 0))))<|Zm rfl<|Ze (X2y rfl rfl (by omega) (by omega)) ?_;refine Zf (Vc (X6t _ bV U b (oI (oI (oI r ((lows u.m).getD i 0)) ((lows u.m).getD j 0)) ((lows u.m).getD z 0)) (4*(-k)) aB (by omega)) X3g) ?_;rintro _ w9 ⟨rfl,N,h⟩;obtain ⟨wm,A,hm,y⟩:=N.mid;clear hm;have e:=b.nc;have o:=o.onlyN A e;have p:=p.onlyN A e;have I:=I.onlyN A e;have n:=n.self A;have o:=o.below y;have p:=p.below y;have I:=I.below y;have n:=ktr n y
     clear e y A N;have b:=h;clear h;refine Zn fun a c=>?_;refine Xa<|bJ _ _<|Zr c<|Ze (Xu rfl rfl (by omega) (by omega))<|Zm rfl ?_;refine Zn fun a c=>?_;refine Xd ?_;exact ⟨(z+1,padd U (oI (oI (oI r ((lows u.m).getD i 0)) ((lows u.m).getD j 0)) ((lows u.m).getD z 0)) (4*(-k))),⟨c.sb,(by omega),(by rw [aE];rfl),(aB.padd _ _),b,o,p,I,n⟩,(by first|omega|(dsimp only;omega))⟩
    have aM:=D;have D:=of_decide_eq_false D
    have aP:j≤z:=by have:=D;rw [List.length_take] at this;omega
    refine wp_exit<|Xi<|Xi<|X03 ?_;refine Xa<|bC _ _<|Zr c<|Ze (Xu rfl rfl (by omega) (by omega))<|Zm rfl ?_;refine Zn fun a c=>?_;refine Xd ?_;exact ⟨(j+1,U),⟨c.sb,(by omega),(by rw [aE,show z=j from by have:=aP;omega];rfl),aB,b,o,p,n⟩,(by first|omega|(dsimp only;omega))⟩
   have aJ:=C;have C:=of_decide_eq_false C
   have aQ:i≤j:=by have:=C;rw [List.length_take] at this;omega
   refine wp_exit<|Xi<|Xi<|X03 ?_;refine Xa<|b4 _ _<|Zr c<|Ze (Xu rfl rfl (by omega) (by omega))<|Zm rfl ?_;refine Zn fun a c=>?_;refine Xd ?_;exact ⟨(i+1,Q),⟨c.sb,(by omega),(by first|(rw [aD,show j=i from by have:=aQ;omega];rfl)|(have e9:i=0:=by omega;subst e9;rw [hg];rfl)),aA,b,o,n⟩,(by first|omega|(dsimp only;omega))⟩
  have aH:=H;have H:=of_decide_eq_false H
  have aR:i=(lows u.m).length:=by have:=H;omega
  refine wp_exit<|Xi<|Xi<|X03 ?_;refine Xad c (Xag rfl) ?_;exact ⟨rfl,n,b.cong fun x=>by rw [hg,aR];unfold expP;rw [if_pos aG]⟩
 have b0:=aC
 have aG:¬ u.t=1:=by simpa using aC
 refine wp_skip<|aZ _ _<|Zs c fun _ bL=>?_;refine Ze (Vd rfl X0a 0)<|Ze (X0 rfl X2 (W.at 0))<|Zf (Vc (Xe4 _ u.m (Mk.b62 hu.1)) Xat) ?_;rintro _ dF ⟨B,M,rfl,d,y⟩;have d:=d.lower n.size;have b:=b.below y;have n:=ktr n y;refine Za rfl<|Zx bL fun a c _ bN=>?_;refine Zm rfl<|Ze (X1f rfl X0f)<|Zm rfl<|Zt bN fun a c=>?_;refine wp_block<|X06 (σ:=Nat×(Int→Int)) (fun (s:Nat×(Int→Int)) (a:Act) (w:World)=>match s with|(i,g)=>Fr a 80 [(0,.map (some bV)),(1,vi k),(3,vi r),(8,.slice B (lows u.m).length M),(27,.slice B (lows u.m).length M),(28,vi ((lows u.m).length:Int)),(29,vi (i:Int))]∧(i≤(lows u.m).length)∧(g=exX r k (lows u.m) f i)∧(PO g)∧MapF w bV g∧Own w w0.heap.size 3 1 encI B M (lows u.m)∧Kept bV w0.heap.size w0 w) (fun (s:Nat×(Int→Int))=>match s with|(i,g)=>(lows u.m).length-i) (0,f) ?_ ?_
 ·exact ⟨c.sb,(Nat.zero_le _),rfl,aF,b,d,n⟩
 rintro ⟨i,g⟩ a dG ⟨c,hi,hg,hp,b,d,n⟩;refine Zs c fun _ bO=>?_;refine Ze (X1n rfl rfl)<|ZX bO fun a c _ bP=>?_
 refine Xg c rfl (fun J=>?_) (fun J=>?_)
 ·have aS:=J;have J:=of_decide_eq_true J
  obtain ⟨dH,cX⟩:=Xm (l:=(lows u.m)) (k:=i) (by omega)
  refine wp_skip<|bP _ _<|wp_seq_k fun _ bR=>?_;refine wp_block<|Zs c fun _ bS=>?_;refine Zm rfl<|Zi (k:=i) (u:=((lows u.m).getD i 0)) (enc:=encI) (l:=(lows u.m)) trivial rfl rfl X0f X12 X0h d.rd (Xa7 (by omega)) rfl ?_;intro dI aT;refine Ze (X0 rfl X2 aT)<|Za rfl<|Za rfl<|Zx bS fun a c _ bU=>?_;refine Zm rfl<|Zm rfl<|Zm rfl<|Ze (Vx (Vor rfl rfl) (rfl:_=(oI r ((lows u.m).getD i 0))))<|Zm rfl ?_;refine Zf (Vc (X6t _ bV g b (oI r ((lows u.m).getD i 0)) k hp (by omega)) X3g) ?_;rintro _ bW ⟨rfl,N,h⟩;obtain ⟨wm,A,hm,y⟩:=N.mid;clear hm;have e:=b.nc;have d:=d.onlyN A e;have n:=n.self A;have d:=d.below y;have n:=ktr n y
  clear e y A N;have b:=h;clear h;refine Zx bU fun a c _ bX=>?_;refine Zm rfl<|Zm rfl ?_;have q:=(d.rd.top).takeK X0h i;refine Ze (X52 (l:=(lows u.m)) (k:=i) rfl rfl X0f X12 rfl (by omega) d.cap)<|Ze (X1f rfl X0f)<|Zm rfl<|Zt bX fun a c=>?_;refine wp_block<|X06 (σ:=Nat×(Int→Int)) (fun (s:Nat×(Int→Int)) (a:Act) (w:World)=>match s with|(j,Q)=>Fr a 80 [(0,.map (some bV)),(1,vi k),(3,vi r),(8,.slice B (lows u.m).length M),(10,vi ((lows u.m).getD i 0)),(27,.slice B (lows u.m).length M),(28,vi ((lows u.m).length:Int)),(29,vi (i:Int)),(42,.slice B ((lows u.m).take i).length M),(43,vi (((lows u.m).take i).length:Int)),(44,vi (j:Int))]∧(j≤i)∧(Q=exY r ((lows u.m).getD i 0) k (lows u.m) (padd (exX r k (lows u.m) f i) (oI r ((lows u.m).getD i 0)) k) j)∧(PO Q)∧MapF w bV Q∧Own w w0.heap.size 3 1 encI B M (lows u.m)∧Rd w bW.heap.size 3 encI B ((lows u.m).take i)∧Kept bV w0.heap.size w0 w) (fun (s:Nat×(Int→Int))=>match s with|(j,Q)=>i-j) (0,(padd g (oI r ((lows u.m).getD i 0)) k)) ?_ ?_
  ·exact ⟨c.sb,(Nat.zero_le _),(by rw [hg];rfl),(hp.padd _ _),b,d,q,n⟩
  rintro ⟨j,Q⟩ a dJ ⟨c,hj,aD,aA,b,d,q,n⟩;refine Zs c fun _ bY=>?_;refine Ze (X1n rfl rfl)<|ZX bY fun a c _ bZ=>?_
  refine Xg c rfl (fun E=>?_) (fun E=>?_)
  ·have aU:=E;have E:=of_decide_eq_true E
   obtain ⟨dK,cY⟩:=Xm (l:=((lows u.m).take i)) (k:=j) (by omega)
   have aK:j<i:=by have:=E;rw [List.length_take] at this;omega
   refine wp_skip<|bZ _ _<|wp_seq_k fun _ c4=>?_;refine wp_block<|Zs c fun _ cA=>?_;refine Zm rfl<|Zi (k:=j) (u:=((lows u.m).getD j 0)) (enc:=encI) (l:=((lows u.m).take i)) trivial rfl rfl X0f X12 X0h q (X5u aK (by omega)) rfl ?_;intro dL aW;refine Ze (X0 rfl X2 aW)<|Za rfl<|Za rfl<|Zx cA fun a c _ cC=>?_;refine Zm rfl<|Zm rfl<|Zm rfl<|Ze (Vx (Vor rfl rfl) (rfl:_=(oI r ((lows u.m).getD i 0))))<|Zm rfl ?_;refine Ze (Vx (Vor rfl rfl) (rfl:_=(oI (oI r ((lows u.m).getD i 0)) ((lows u.m).getD j 0))))<|Zm rfl<|Ze (X2y rfl rfl (by omega) (by omega))<|Zf (Vc (X6t _ bV Q b (oI (oI r ((lows u.m).getD i 0)) ((lows u.m).getD j 0)) ((-2)*k) aA (by omega)) X3g) ?_;rintro _ cP ⟨rfl,N,h⟩;obtain ⟨wm,A,hm,y⟩:=N.mid;clear hm;have e:=b.nc;have d:=d.onlyN A e;have q:=q.onlyN A e;have n:=n.self A;have d:=d.below y;have q:=q.below y;have n:=ktr n y
   clear e y A N;have b:=h;clear h;refine Zx cC fun a c _ cD=>?_;refine Zm rfl<|Zm rfl ?_;have L:=(d.rd.top).takeK X0h j;refine Ze (X52 (l:=(lows u.m)) (k:=j) rfl rfl X0f X12 rfl (by omega) d.cap)<|Ze (X1f rfl X0f)<|Zm rfl<|Zt cD fun a c=>?_;refine wp_block<|X06 (σ:=Nat×(Int→Int)) (fun (s:Nat×(Int→Int)) (a:Act) (w:World)=>match s with|(z,U)=>Fr a 80 [(0,.map (some bV)),(1,vi k),(3,vi r),(8,.slice B (lows u.m).length M),(10,vi ((lows u.m).getD i 0)),(12,vi ((lows u.m).getD j 0)),(27,.slice B (lows u.m).length M),(28,vi ((lows u.m).length:Int)),(29,vi (i:Int)),(42,.slice B ((lows u.m).take i).length M),(43,vi (((lows u.m).take i).length:Int)),(44,vi (j:Int)),(60,.slice B ((lows u.m).take j).length M),(61,vi (((lows u.m).take j).length:Int)),(62,vi (z:Int))]∧(z≤j)∧(U=exZ r ((lows u.m).getD i 0) ((lows u.m).getD j 0) k (lows u.m) (padd (exY r ((lows u.m).getD i 0) k (lows u.m) (padd (exX r k (lows u.m) f i) (oI r ((lows u.m).getD i 0)) k) j) (oI (oI r ((lows u.m).getD i 0)) ((lows u.m).getD j 0)) (-2*k)) z)∧(PO U)∧MapF w bV U∧Own w w0.heap.size 3 1 encI B M (lows u.m)∧Rd w bW.heap.size 3 encI B ((lows u.m).take i)∧Rd w cP.heap.size 3 encI B ((lows u.m).take j)∧Kept bV w0.heap.size w0 w) (fun (s:Nat×(Int→Int))=>match s with|(z,U)=>j-z) (0,(padd Q (oI (oI r ((lows u.m).getD i 0)) ((lows u.m).getD j 0)) (-2*k))) ?_ ?_
   ·exact ⟨c.sb,(Nat.zero_le _),(by rw [aD];rfl),(aA.padd _ _),b,d,q,L,n⟩
   rintro ⟨z,U⟩ a dM ⟨c,hz,aE,aB,b,d,q,L,n⟩;refine Zs c fun _ cE=>?_;refine Ze (X1n rfl rfl)<|ZX cE fun a c _ cF=>?_
   refine Xg c rfl (fun G=>?_) (fun G=>?_)
   ·have aX:=G;have G:=of_decide_eq_true G
    obtain ⟨dN,d5⟩:=Xm (l:=((lows u.m).take j)) (k:=z) (by omega)
    have aN:z<j:=by have:=G;rw [List.length_take] at this;omega
    refine wp_skip<|cF _ _<|wp_seq_k fun _ cG=>?_;refine wp_block<|Zs c fun _ cH=>?_;refine Zi (k:=z) (u:=((lows u.m).getD z 0)) (enc:=encI) (l:=((lows u.m).take j)) trivial rfl rfl X0f X12 X0h L (X5u aN (by omega)) rfl ?_;intro dO aY;refine Ze (X0 rfl X2 aY)<|Za rfl<|Zt cH fun a c=>?_;refine Zr c<|Zm rfl<|Zm rfl<|Zm rfl<|Ze (Vx (Vor rfl rfl) (rfl:_=(oI r ((lows u.m).getD i 0))))<|Zm rfl ?_;refine Ze (Vx (Vor rfl rfl) (rfl:_=(oI (oI r ((lows u.m).getD i 0)) ((lows u.m).getD j 0))))<|Zm rfl<|Ze (Vx (Vor rfl rfl) (rfl:_=(oI (oI (oI r ((lows u.m).getD i 0)) ((lows u.m).getD j 0)) ((lows u.m).getD z 0))))<|Zm rfl<|Ze (X2y rfl rfl (by omega) (by omega)) ?_;refine Zf (Vc (X6t _ bV U b (oI (oI (oI r ((lows u.m).getD i 0)) ((lows u.m).getD j 0)) ((lows u.m).getD z 0)) (4*k) aB (by omega)) X3g) ?_;rintro _ dP ⟨rfl,N,h⟩;obtain ⟨wm,A,hm,y⟩:=N.mid;clear hm;have e:=b.nc;have d:=d.onlyN A e;have q:=q.onlyN A e;have L:=L.onlyN A e;have n:=n.self A;have d:=d.below y;have q:=q.below y;have L:=L.below y;have n:=ktr n y
    clear e y A N;have b:=h;clear h;refine Zn fun a c=>?_;refine Xa<|cG _ _<|Zr c<|Ze (Xu rfl rfl (by omega) (by omega))<|Zm rfl ?_;refine Zn fun a c=>?_;refine Xd ?_;exact ⟨(z+1,padd U (oI (oI (oI r ((lows u.m).getD i 0)) ((lows u.m).getD j 0)) ((lows u.m).getD z 0)) (4*k)),⟨c.sb,(by omega),(by rw [aE];rfl),(aB.padd _ _),b,d,q,L,n⟩,(by first|omega|(dsimp only;omega))⟩
   have aX:=G;have G:=of_decide_eq_false G
   have aP:j≤z:=by have:=G;rw [List.length_take] at this;omega
   refine wp_exit<|Xi<|Xi<|X03 ?_;refine Xa<|c4 _ _<|Zr c<|Ze (Xu rfl rfl (by omega) (by omega))<|Zm rfl ?_;refine Zn fun a c=>?_;refine Xd ?_;exact ⟨(j+1,U),⟨c.sb,(by omega),(by rw [aE,show z=j from by have:=aP;omega];rfl),aB,b,d,q,n⟩,(by first|omega|(dsimp only;omega))⟩
  have aU:=E;have E:=of_decide_eq_false E
  have aQ:i≤j:=by have:=E;rw [List.length_take] at this;omega
  refine wp_exit<|Xi<|Xi<|X03 ?_;refine Xa<|bR _ _<|Zr c<|Ze (Xu rfl rfl (by omega) (by omega))<|Zm rfl ?_;refine Zn fun a c=>?_;refine Xd ?_;exact ⟨(i+1,Q),⟨c.sb,(by omega),(by first|(rw [aD,show j=i from by have:=aQ;omega];rfl)|(have e9:i=0:=by omega;subst e9;rw [hg];rfl)),aA,b,d,n⟩,(by first|omega|(dsimp only;omega))⟩
 have aS:=J;have J:=of_decide_eq_false J
 have aR:i=(lows u.m).length:=by have:=J;omega
 refine wp_exit<|Xi<|Xi<|X03 ?_;refine Xad c (Xag rfl) ?_;exact ⟨rfl,n,b.cong fun x=>by rw [hg,aR];unfold expP;rw [if_neg aG]⟩
end Go.Proofs.YtiejkplemjkjoaaGreat
