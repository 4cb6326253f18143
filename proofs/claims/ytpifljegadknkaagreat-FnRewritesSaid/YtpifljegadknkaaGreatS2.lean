/-
  Rewriting a diagram: what it means stays; both ways agree.
-/
import Derived.Test.YtpifljegadknkaaGreatS1
import Derived.Deep.Strs
import Derived.WalkKit
import Derived.ProofKit
import Derived.OpenShut
import Derived.Deep.Slices
import Derived.Deep.Fields
import Derived.ChangeSame
import Derived.Lib.SmallJoins
import Derived.WalkSpells
import Derived.Maps.RangeRun
import Derived.Laws.Strings2
import Derived.Laws.IdiomStrings
import Derived.Shelf.SlSortCmp.WholeK
import Derived.Shelf.SlSortCmp.NoneTotal
import Derived.Shelf.SlGeneric
import Derived.Lib.ItoaNum
import Derived.Lib.Join
set_option linter.unusedVariables false
set_option linter.unusedSimpArgs false
set_option maxHeartbeats 1000000
set_option maxRecDepth 20000
set_option linter.unusedSectionVars false
namespace Go.Proofs.YtpifljegadknkaaGreat
open Go.RowKit
section
variable {P : Program} {a : Act} {w w' : World} {n : Nat} {e : Env} {ty : TypeId} {pos : String} {af : Array Edge} {g : Option (Nat × Bool)} {d : Option Tmp} {s t t' : TypeId} {x y : Operand} {i j : Int}
theorem Xv8(m:Nat)(hm:m<=9223372036854775807) : IntKind.u64.wrap (m:Int)=(m:Int):=by
 simp only [IntKind.wrap]
 simp only [IntKind.bits,IntKind.signed,Bool.false_and,Bool.false_eq_true,if_false]
 omega
theorem Xq8{m:Nat}(hs:P.underlying s=some (.int .i64))(ht:P.underlying t=some (.int .u64))(hf:Fr a n e)(hx:ev e x=some (.int .i64 i))(hi:i=(m:Int))(hm:m<=9223372036854775807) :
  Ev P ⟨d,.convert s t x,ty,pos,af,g⟩ a w (.int .u64 (m:Int)):=fun w' _=>by
 subst hi
 simp [execOp,hf.ev hx,convert,X0j hs,X0j ht,Conv.intToInt,Xv8 m hm]
theorem Xkp{m:Nat}(hs:P.underlying s=some (.int .i64))(ht:P.underlying t=some (.int .u64))(hx:ev e x=some (.int .i64 i))(hi:i=(m:Int))(hm:m<=9223372036854775807) : EvW P ⟨d,.convert s t x,ty,pos,af,g⟩ n e w (.int .u64 (m:Int)):=fun a hf=>Xq8 hs ht hf hx hi hm
end
section
variable {U V W : List Int} {x y : Int} {p q : Nat}
end
section
variable {key : Int -> Int} {cf : Int -> Int -> Int} {P L R Q : List Int} {n : Int} {a m b : Nat}
def In(n:Int)(l:List Int) : Prop:=∀ x ∈ l,0<=x/\x<n
theorem In.get{l:List Int}(h:In n l){k:Nat}(hk:k<l.length) : 0<=l.getD k 0/\l.getD k 0<n:=h _ (Xna hk)
theorem Y03{k:Nat}(ha:P.length=a)(h1:a<=k)(h2:k<a+L.length) : (P++(L++(R++Q))).getD k 0=L.getD (k-a) 0:=by
 rw [X6q (by omega),X8x (by omega),ha]
theorem Xy4{k:Nat}(ha:P.length=a)(hm:a+L.length=m)(h1:m<=k)(h2:k<m+R.length) : (P++(L++(R++Q))).getD k 0=R.getD (k-m) 0:=by
 rw [X6q (by omega),X6q (by omega),X8x (by omega)]
 congr 1;omega
structure Two (key:Int->Int) (P L R:List Int) (a m b:Nat) (n:Int) : Prop where
 ha:P.length=a
 hm:a+L.length=m
 hb:m+R.length=b
 hL:Srt key L
 hR:Srt key R
 lt:∀ x ∈ L,∀ y ∈ R,x<y
 iL:In n L
 iR:In n R
variable (h : Two key P L R a m b n)
include h
theorem Two.inl{k:Nat}(h1:a<=k)(h2:k<m) : 0<=(P++(L++(R++Q))).getD k 0/\(P++(L++(R++Q))).getD k 0<n:=by
 have:=h.hm;rw [Y03 h.ha h1 (by omega)];exact h.iL.get (by omega)
theorem Two.inr{k:Nat}(h1:m<=k)(h2:k<b) : 0<=(P++(L++(R++Q))).getD k 0/\(P++(L++(R++Q))).getD k 0<n:=by
 have:=h.hb;rw [Xy4 h.ha h.hm h1 (by omega)];exact h.iR.get (by omega)
end
theorem Y3u(d:World)(Al:Option Addr)(cl:Nat)(l:List Int)(e:Rd d d.heap.size 3 encI Al l)(aE:l.length<=1000000000) : Ret Tryz.prog 215 [.slice Al l.length cl] d (fun v w=>∃ A c,v=.slice A l.length c/\Own w d.heap.size 3 1 encI A c l/\Below d.heap.size d w):=by
 refine enter Tryz.func215 rfl 6 rfl rfl ?_;intro a hf
 have b:=bz d
 refine Zs hf fun _ aB=>?_;refine Za rfl<|Zx aB fun a hf _ aC=>?_;refine Zf (Xs (k:=0) (vs:=[]) (zs:=[]) rfl Xj X1h rfl rfl) ?_;rintro _ w1 ⟨b5,rfl,a6,hE,a7⟩;have f:=Q0 b.size a6;have aA:=(e.bx b).away a6;have b:=btr b hE;refine Zm rfl<|Zf (X0z (enc:=encI) (l:=([] : List Int)) (l2:=(l)) (B0:=d.heap.size) rfl rfl Xj X1h X9 X1e (Own.empty a7 f) (e.bx b) (by simp only [maxLen,List.length_nil];omega) (by simp only [List.length_nil];omega) b.size) ?_;rintro _ w2 ⟨A7,c7,rfl,a8,hg,aD⟩
 have g:Own _ d.heap.size 3 1 encI _ _ ([] : List Int):=(Own.empty a7 f)
 clear aD;have b:=Below.app b g hg (Qb _) b.size;clear g hg
 simp only [List.nil_append] at a8
 refine Za rfl<|Zt aC fun a hf=>?_
 refine Q6 (X6 hf (Xu hf rfl rfl) ?_)
 exact ⟨A7,c7,rfl,a8,b⟩
end Go.Proofs.YtpifljegadknkaaGreat
namespace Go.Proofs.YtpifljegadknkaaGreat
open Go.RowKit Go.ChangeShapes Go.WideShapes Go.Deep Go.Joins
theorem Xqf{α:Type}{n:Nat}{Q:Nat->α->Prop}(h:∀ i,i<n->∃ g,Q i g) : ∃ l:List α,l.length=n/\∀ i g,l[i]? = some g->Q i g:=by
 induction n with
 | zero=>exact ⟨[],rfl,fun i g h=>by simp at h⟩
 | succ n ih=>
  obtain ⟨l,h1,h2⟩:=ih fun i hi=>h i (by omega)
  obtain ⟨g,hg⟩:=h n (by omega)
  refine ⟨l++[g],by simp [h1],fun i g' hi=>?_⟩
  rcases W4 i n with hin|hin
  ·rw [List.getElem?_append_left (by omega)] at hi
   exact h2 i g' hi
  ·rw [W5 (by omega)] at hi
   have:i-l.length=0:=by
    rcases Nat.eq_zero_or_pos (i-l.length) with h|h
    ·exact h
    ·rw [List.getElem?_eq_none (by simp;omega)] at hi;cases hi
   rw [this] at hi
   injection hi with hi
   subst hi
   have:i=n:=by omega
   subst this
   exact hg
theorem Xcu{α:Type}{w:World}{enc:α->List Value}{sz:Nat}(hsz:∀ x,(enc x).length=sz)(h0:0<sz){p:Addr}{l:List α}
  (h:∀ i g,l[i]? = some g->∀ j v,(enc g)[j]? = some v->w.cell? (p.add (i*sz+j))=some v) : ∃ E,Rd w w.heap.size E enc (some p) l:=by
 by_cases hl:l=[]
 ·subst hl;exact ⟨0,Rd.nil _ _ _ _ _⟩
 ·obtain ⟨g0,l',rfl⟩:=List.exists_cons_of_ne_nil hl
  obtain ⟨v0,hv0⟩ : ∃ v,(enc g0)[0]? = some v:=⟨_,Qc (by rw [hsz];exact h0)⟩
  have hc:=h 0 g0 rfl 0 v0 hv0;obtain ⟨b,off,spot⟩:=p;have hb:=Xh1 hc
  rw [X6p] at hb
  have hsp:spot=none:=by
   cases spot with
   | none=>rfl
   | some s=>simp [World.cell?,Addr.add] at hc;split at hc<;>simp_all
  subst hsp
  have hobj:∃ cs E fz,w.heap[b]? = some (.cells cs E fz):=by
   rw [X1f] at hc
   simp only [World.cell?] at hc
   split at hc
   ·rename_i c E fz hh;exact ⟨c,E,fz,hh⟩
   ·cases hc
  obtain ⟨cs,E,fz,hh⟩:=hobj
  refine ⟨E,fun _=>⟨b,off,cs,fz,rfl,hb,hh,fun j v hj=>?_⟩⟩
  have hjl:j<((g0::l').flatMap enc).length:=(Qg.1 hj).1
  rw [Xq hsz] at hjl
  obtain ⟨x,hx,h1⟩:=X5j hsz hjl
  rw [h1] at hj
  have:=h _ _ hx _ _ hj
  rw [X1f,show j/sz*sz+j % sz=j from by rw [Wi];exact Nat.div_add_mod j sz] at this
  simpa [World.cell?,hh] using this
section
variable {H : Type} {enc : TypeId × Value -> H} {w : World} {base fuel : Nat} {spare : Nat -> Bool} {held : Bool}
end
section
end
section
end
end Go.Proofs.YtpifljegadknkaaGreat
namespace Go.Proofs.YtpifljegadknkaaGreat
open Go.ChangeShapes Go.WideShapes Go.ChangeAt Go.RowKit Go.Deep Go.Joins
set_option linter.unusedVariables false
theorem own:ownKnob Tryz.prog.godebug=none:=by kernel_rfl
theorem Xfr:laidOutB Tryz.prog=true:=by kernel_rfl
section
variable {H : Type} {enc : TypeId × Value -> H} {P : Program}
theorem Xef{f:Func}{s:ChangeSpec}{fresh handsOn:Bool}{W W':World}{args:Array Value}{v:Value}{ds gs:List (DataW H)}{before pa pv:List MemPlace}
  (hW:DataW.Whole enc P f.params.toList s.vars false W args.toList ds gs before)
  (hres:∀ (b:Nat) (sp:Nat->Bool) (hd:Bool),DataW.TrodAll enc P W' b sp hd f.resultTypes.toList (v.resultList f.resultTypes.size) (s.fn H (ds++gs)).results [])
  (hargs:∀ sp:Nat->Bool,(∀ p ∈ before,sp p.block=true)->DataW.TrodAll enc P W' 0 sp true f.params.toList args.toList (s.fn H (ds++gs)).args pa)
  (hvars:∀ sp:Nat->Bool,(∀ p ∈ before,sp p.block=true)->DataW.TrodVars enc P W' sp s.vars (s.fn H (ds++gs)).vars pv)
  (hps:before=pa++pv) (hb:Below W.heap.size W W') :
  s.post enc P f false fresh handsOn false W args v W':=by
 have hlt:∀ p ∈ before,p.block<W.heap.size:=fun p hp=>hW.lt p hp
 have hold:∀ p ∈ before,(fun b=>decide (b<W.heap.size)) p.block=true:=fun p hp=>by simpa using hlt p hp
 refine ⟨ds,gs,before,[],pa,pv,hW,hres _ _ _,hargs _ hold,hvars _ hold,World.keptBut_mono (fun p hp=>⟨hp,?_⟩) (hb.frame (· ∈ before)),fun h=>by cases h⟩
 rw [hps,Qu] at hp
 exact Or.inr hp
end
end Go.Proofs.YtpifljegadknkaaGreat
namespace Go.Proofs.YtpifljegadknkaaGreat
open Go.RowKit
theorem X5u(x:Nat) : BitVec.ofInt 64 (x:Int)=BitVec.ofNat 64 x:=BitVec.ofInt_natCast 64 x
theorem X42{x:Nat}(h:x<2^62) : (BitVec.ofNat 64 x).toNat=x:=by
 rw [BitVec.toNat_ofNat];exact Nat.mod_eq_of_lt (Nat.lt_of_lt_of_le h (by decide))
theorem X6l{x:Nat}(h:x<2^62) : IntKind.i64.wrap (x:Int)=(x:Int):=by
 rw [show (2:Nat)^62=4611686018427387904 from by decide] at h
 exact IntWalk.i64_in _ ⟨by omega,by omega⟩
theorem Xwi{x y:Nat}(h:x<2^62) : x &&& y<2^62:=Nat.lt_of_le_of_lt Nat.and_le_left h
theorem Xer{x y:Nat}(hx:x<2^62)(hy:y<2^62) : bits .and .i64 (x:Int) (y:Int)=((x &&& y:Nat) : Int):=by
 show IntKind.i64.wrap ((BitVec.ofInt 64 (x:Int) &&& BitVec.ofInt 64 (y:Int)).toNat:Int)=_
 rw [X5u,X5u,BitVec.toNat_and,X42 hx,X42 hy,X6l (Xwi hx)]
theorem Xih{x y:Nat}(hx:x<2^62)(hy:y<2^62) : bits .or .i64 (x:Int) (y:Int)=((x ||| y:Nat) : Int):=by
 show IntKind.i64.wrap ((BitVec.ofInt 64 (x:Int) ||| BitVec.ofInt 64 (y:Int)).toNat:Int)=_
 rw [X5u,X5u,BitVec.toNat_or,X42 hx,X42 hy,X6l (Nat.or_lt_two_pow hx hy)]
theorem Xul{m:Nat}(h:m<62) : 2^m<2^62:=Nat.pow_lt_pow_right (by decide) h
theorem Xof{m:Nat}(h:m<62) : wr (1*2^m)=((2^m:Nat) : Int):=by
 rw [Int.one_mul,show ((2:Int)^m)=((2^m:Nat) : Int) from by push_cast;rfl]
 exact X6l (Xul h)
def setN(x:Nat) : List Nat:=(List.range 62).filter x.testBit
section
end
section
end
section
end
end Go.Proofs.YtpifljegadknkaaGreat
namespace Go.Proofs.YtpifljegadknkaaGreat
instance:_root_.Add Rg:=⟨fun x y=>⟨x.a+y.a,x.b+y.b,x.c+y.c,x.d+y.d⟩⟩
instance:_root_.Mul Rg:=⟨fun x y=>⟨x.a*y.a-x.b*y.d-x.c*y.c-x.d*y.b,x.a*y.b+x.b*y.a-x.c*y.d-x.d*y.c,x.a*y.c+x.b*y.b+x.c*y.a-x.d*y.d,x.a*y.d+x.b*y.c+x.c*y.b+x.d*y.a⟩⟩
instance:_root_.Neg Rg:=⟨fun x=>⟨-x.a,-x.b,-x.c,-x.d⟩⟩
instance:_root_.Sub Rg:=⟨fun x y=>⟨x.a-y.a,x.b-y.b,x.c-y.c,x.d-y.d⟩⟩
instance:NatCast Rg:=⟨fun n=>⟨n,0,0,0⟩⟩
instance:IntCast Rg:=⟨fun n=>⟨n,0,0,0⟩⟩
instance (n:Nat) : OfNat Rg n:=⟨⟨n,0,0,0⟩⟩
def rgPow(x:Rg) : Nat->Rg
 | 0=>1
 | n+1=>rgPow x n*x
instance:HPow Rg Nat Rg:=⟨rgPow⟩
instance:SMul Nat Rg:=⟨fun n x=>(n:Rg)*x⟩
instance:SMul Int Rg:=⟨fun n x=>(n:Rg)*x⟩
theorem X3d{x y:Rg}(h1:x.a=y.a)(h2:x.b=y.b)(h3:x.c=y.c)(h4:x.d=y.d) : x=y:=by
 obtain ⟨x1,x2,x3,x4⟩:=x;obtain ⟨y1,y2,y3,y4⟩:=y
 simp only at h1 h2 h3 h4
 subst h1 h2 h3 h4
 rfl
theorem Xl1(x y:Rg) : (x+y).a=x.a+y.a:=rfl
theorem Xnj(x y:Rg) : (x+y).b=x.b+y.b:=rfl
theorem Xkw(x y:Rg) : (x+y).c=x.c+y.c:=rfl
theorem Xkl(x y:Rg) : (x+y).d=x.d+y.d:=rfl
theorem X8y(x y:Rg) : (x*y).a=x.a*y.a-x.b*y.d-x.c*y.c-x.d*y.b:=rfl
theorem X9g(x y:Rg) : (x*y).b=x.a*y.b+x.b*y.a-x.c*y.d-x.d*y.c:=rfl
theorem X9b(x y:Rg) : (x*y).c=x.a*y.c+x.b*y.b+x.c*y.a-x.d*y.d:=rfl
theorem X8w(x y:Rg) : (x*y).d=x.a*y.d+x.b*y.c+x.c*y.b+x.d*y.a:=rfl
theorem X27(a:Rg) : a+0=a:=X3d (Int.add_zero _) (Int.add_zero _) (Int.add_zero _) (Int.add_zero _)
theorem X28(a:Rg) : a*1=a:=by
 have e1:(1:Rg).a=1:=rfl
 have e2:(1:Rg).b=0:=rfl
 have e3:(1:Rg).c=0:=rfl
 have e4:(1:Rg).d=0:=rfl
 apply X3d<;>simp only [X8y,X9g,X9b,X8w,e1,e2,e3,e4]<;>grind
theorem X1x(a:Rg) : 0*a=0:=by
 have e1:(0:Rg).a=0:=rfl
 have e2:(0:Rg).b=0:=rfl
 have e3:(0:Rg).c=0:=rfl
 have e4:(0:Rg).d=0:=rfl
 apply X3d<;>simp only [X8y,X9g,X9b,X8w,e1,e2,e3,e4]<;>grind
theorem X1b(a b:Rg) : a*b=b*a:=by (apply X3d<;>simp only [Xl1,Xnj,Xkw,Xkl,X8y,X9g,X9b,X8w]<;>grind)
theorem X38(a b c:Rg) : a*(b+c)=a*b+a*c:=by (apply X3d<;>simp only [Xl1,Xnj,Xkw,Xkl,X8y,X9g,X9b,X8w]<;>grind)
theorem X2v(a b:Rg) : a+b=b+a:=X3d (Int.add_comm _ _) (Int.add_comm _ _) (Int.add_comm _ _) (Int.add_comm _ _)
theorem X1i(a b c:Rg) : a+b+c=a+(b+c):=X3d (Int.add_assoc _ _ _) (Int.add_assoc _ _ _) (Int.add_assoc _ _ _) (Int.add_assoc _ _ _)
theorem Xh(a b c:Rg) : a*b*c=a*(b*c):=by (apply X3d<;>simp only [Xl1,Xnj,Xkw,Xkl,X8y,X9g,X9b,X8w]<;>grind)
theorem X05(a:Rg) : 1*a=a:=by rw [X1b,X28]
theorem X1c(a:Rg) : a*0=0:=by rw [X1b,X1x]
theorem X2w(a:Rg) : 0+a=a:=by rw [X2v,X27]
theorem X22(a b c:Rg) : (a+b)*c=a*c+b*c:=by rw [X1b,X38,X1b c a,X1b c b]
theorem Xv(a b c:Rg) : a*(b*c)=b*(a*c):=by rw [<- Xh,<- Xh,X1b a b]
theorem X1g(a b c:Rg) : a+(b+c)=b+(a+c):=by rw [<- X1i,<- X1i,X2v a b]
def s2:Rg:=⟨0,1,0,-1⟩
def om:Rg:=⟨0,1,0,0⟩
theorem Y04:s2*s2=2:=by decide
theorem om8:om^8=1:=by decide
theorem Xep{x y:Rg}(h:2*x=2*y) : x=y:=by
 have e1:(2:Rg).a=2:=rfl
 have e2:(2:Rg).b=0:=rfl
 have e3:(2:Rg).c=0:=rfl
 have e4:(2:Rg).d=0:=rfl
 have h1:=congrArg Rg.a h;have h2:=congrArg Rg.b h;have h3:=congrArg Rg.c h;have h4:=congrArg Rg.d h
 simp only [X8y,X9g,X9b,X8w,e1,e2,e3,e4] at h1 h2 h3 h4
 apply X3d<;>omega
theorem Xig{x y:Rg}(h:s2*x=s2*y) : x=y:=by
 apply Xep
 rw [<- Y04,Xh,Xh,h]
theorem X4a:∀ (m:Nat) {x y:Rg},s2^m*x=s2^m*y->x=y
 | 0,x,y,h=>by
  have e:s2^0=1:=rfl
  rwa [e,X05,X05] at h
 | m+1,x,y,h=>by
  have e:s2^(m+1)=s2^m*s2:=rfl
  rw [e] at h
  refine Xig (X4a m ?_)
  rw [<- Xh,<- Xh]
  exact h
theorem X2y(x:Rg)(m n:Nat) : x^(m+n)=x^m*x^n:=by
 induction n with
 | zero=>show _=_*(1:Rg);rw [X28];rfl
 | succ n ih=>
  have e1:x^(m+(n+1))=x^(m+n)*x:=rfl
  have e2:x^(n+1)=x^n*x:=rfl
  rw [e1,e2,ih]
  exact Xh _ _ _
theorem X69(k:Nat){x y:Rg}(h:om^k*x=om^k*y) : x=y:=by
 have h8:∀ k:Nat,∃ z:Rg,z*om^k=1:=fun k=>by
  induction k with
  | zero=>exact ⟨1,rfl⟩
  | succ k ih=>
   obtain ⟨z,hz⟩:=ih
   refine ⟨z*om^7,?_⟩
   have e2:om^(k+1)=om^k*om:=rfl
   have e3:om^8=om^7*om:=rfl
   rw [e2,show z*om^7*(om^k*om)=(z*om^k)*(om^7*om) by simp only [X1x,X1c,X05,X28,X27,X2w,X38,X22,Xh,Xv,X1b,X1i,X1g,X2v],hz,<- e3,om8,X05]
 obtain ⟨z,hz⟩:=h8 k;have h9:=congrArg (z * ·) h
 rwa [<- Xh,<- Xh,hz,X05,X05] at h9
theorem Xr3{x y:Rg}(hx:rOk x=true)(hy:rOk y=true) : rAdd x y=x+y:=by
 have h1:=X55.1 hx;have h2:=X55.1 hy
 refine X3d ?_ ?_ ?_ ?_<;>exact X1v (by omega) (by omega)
theorem Xcl(x:Rg) : s2*x=⟨x.b-x.d,x.a+x.c,x.b+x.d,x.c-x.a⟩:=by
 have e1:s2.a=0:=rfl
 have e2:s2.b=1:=rfl
 have e3:s2.c=0:=rfl
 have e4:s2.d = -1:=rfl
 refine X3d ?_ ?_ ?_ ?_<;>simp only [X8y,X9g,X9b,X8w,e1,e2,e3,e4]<;>grind
theorem Xdq{x:Rg}(hx:rOk x=true) : rRoot x=s2*x:=by
 have h1:=X55.1 hx
 rw [Xcl]
 refine X3d ?_ ?_ ?_ ?_<;>exact X1v (by omega) (by omega)
theorem Xj9{x:Rg}(hx:rOk x=true)(he:rEven x=true) : s2*rHalf x=x:=by
 have h1:=X55.1 hx;have h2:=(Xa6 hx).1 he
 have e:=Xdq hx
 rw [Xcl] at e
 have hh:rHalf x=⟨(x.b-x.d)/2,(x.a+x.c)/2,(x.b+x.d)/2,(x.c-x.a)/2⟩:=by
  unfold rHalf
  rw [e]
  dsimp only
  rw [Int.tdiv_eq_ediv_of_dvd (by omega),Int.tdiv_eq_ediv_of_dvd (by omega),Int.tdiv_eq_ediv_of_dvd (by omega),Int.tdiv_eq_ediv_of_dvd (by omega)]
  rw [X1v (by omega) (by omega),X1v (by omega) (by omega),X1v (by omega) (by omega),X1v (by omega) (by omega)]
 rw [Xcl,hh]
 refine X3d ?_ ?_ ?_ ?_<;>dsimp only<;>omega
theorem Xip{x y:Rg}(hx:rOk x=true)(h:x=s2*y) : rEven x=true:=by
 rw [Xa6 hx]
 rw [h,Xcl]
 dsimp only
 omega
theorem Xky(x:Rg)(n:Nat) : x^(n+1)=x^n*x:=rfl
theorem Xj8(x:Rg) : x^0=1:=rfl
def V(x:Dy)(m:Nat)(z:Rg) : Prop:=0<=x.exp/\∃ k:Nat,x.exp+k=m/\z=s2^k*x.num
theorem Xt3:∀ (m:Nat) (x:Rg),rOk x=true->V (dLow x m) m x
 | 0,x,h=>by
  rw [X3q (by omega)]
  refine ⟨by dsimp only;omega,0,by dsimp only;omega,?_⟩
  rw [Xj8];exact (X05 _).symm
 | m+1,x,h=>by
  by_cases he:rEven x=true
  ·rw [X5x (by omega) he,show ((m+1:Nat) : Int)-1=(m:Int) from by omega]
   obtain ⟨h0,k,h1,h2⟩:=Xt3 m _ (X7k h)
   refine ⟨h0,k+1,by omega,?_⟩
   have e:=Xj9 h he
   rw [h2] at e
   rw [Xky]
   refine e.symm.trans ?_
   simp only [X1x,X1c,X05,X28,X27,X2w,X38,X22,Xh,Xv,X1b,X1i,X1g,X2v]
  ·have he':rEven x=false:=by simpa using he
   rw [X3q fun _=>he']
   refine ⟨by dsimp only;omega,0,by dsimp only;omega,?_⟩
   rw [Xj8];exact (X05 _).symm
theorem Xuf{x:Rg}{e:Int}(h:rOk x=true)(h0:0<=e) : V (dLow x e) e.toNat x:=by
 obtain ⟨m,rfl⟩ : ∃ m:Nat,e=m:=⟨e.toNat,by omega⟩
 exact Xt3 m x h
theorem V.up{x:Dy}{m:Nat}{z:Rg}(h:V x m z)(k:Nat) : V x (m+k) (s2^k*z):=by
 obtain ⟨h0,j,h1,h2⟩:=h
 refine ⟨h0,j+k,by omega,?_⟩
 rw [X2y,h2]
 simp only [X1x,X1c,X05,X28,X27,X2w,X38,X22,Xh,Xv,X1b,X1i,X1g,X2v]
theorem V.fun{x:Dy}{m:Nat}{z z':Rg}(h:V x m z)(h':V x m z') : z=z':=by
 obtain ⟨_,k,h1,h2⟩:=h;obtain ⟨_,j,h3,h4⟩:=h'
 obtain rfl:j=k:=by omega
 rw [h2,h4]
theorem Xdp:∀ (n:Nat) (y:Rg),rOk y=true->(raiseI n y).2=true->(raiseI n y).1=s2^n*y/\rOk (raiseI n y).1=true
 | 0,y,h,_=>⟨by rw [Xj8];show y=_;exact (X05 _).symm,h⟩
 | n+1,y,h,h2=>by
  rw [raiseI] at h2 ⊢
  rw [X7y h] at h2 ⊢
  by_cases hr:rOk (rRoot y)=true
  ·rw [Q4 hr] at h2 ⊢
   obtain ⟨e1,e2⟩:=Xdp n _ hr h2
   refine ⟨?_,e2⟩
   rw [e1,Xdq h,Xky]
   exact (Xh _ _ _).symm
  ·rw [Q3 hr] at h2
   cases h2
theorem Y2z{x y:Dy}{m:Nat}{z:Rg}(hx:dOk x=true)(hy:dOk y=true)(h1:V x m z)(h2:V y m z) : x=y:=by
 have kx:=X5t.1 hx
 have ky:=X5t.1 hy
 obtain ⟨_,j,a1,a2⟩:=h1;obtain ⟨_,l,b1,b2⟩:=h2
 have key:∀ {x y:Dy} {j l:Nat},rOk y.num=true->(y.exp=0∨rEven y.num=false)->0<=x.exp->x.exp+j=m->y.exp+l=m->s2^j*x.num=s2^l*y.num->y.exp<=x.exp:=fun {x y j l} k1 k2 k3 a1 b1 e=>by
  rcases k2 with k2|k2
  ·omega
  ·by_cases hlt:y.exp<=x.exp
   ·exact hlt
   ·exfalso
    obtain ⟨t,ht⟩ : ∃ t,j=l+(t+1):=⟨j-l-1,by omega⟩
    rw [ht,X2y] at e
    have e2:s2^l*(s2^(t+1)*x.num)=s2^l*y.num:=by rw [<- Xh];exact e
    have e3:=X4a l e2
    have e4:y.num=s2*(s2^t*x.num):=by rw [<- e3,Xky];simp only [X1x,X1c,X05,X28,X27,X2w,X38,X22,Xh,Xv,X1b,X1i,X1g,X2v]
    rw [Xip k1 e4] at k2
    cases k2
 have le1:=key (x:=x) (y:=y) ky.1 ky.2.2 kx.2.1.1 a1 b1 (by rw [<- a2,<- b2])
 have le2:=key (x:=y) (y:=x) kx.1 kx.2.2 ky.2.1.1 b1 a1 (by rw [<- a2,<- b2])
 obtain rfl:j=l:=by omega
 have e:=X4a j (a2.symm.trans b2)
 have e2:x.exp=y.exp:=by omega
 cases x
 cases y
 simp only at e e2
 rw [e,e2]
theorem Xvf(m:Nat) : V dZ m 0:=⟨by decide,m,by show (0:Int)+m=m;omega,by
 show (0:Rg)=s2^m*0
 exact (X1c _).symm⟩
abbrev St:=(Nat->Bool)->Rg
def flipB(β:Nat->Bool)(q:Nat) : Nat->Bool:=fun p=>if p=q then !β p else β p
def u1(k:Int)(x y:Bool) : Rg:=
 if k=1 then (if x&&y then -1 else 1) else if k=2 then (if x=y then 0 else 1) else if k=3 then (if x=y then 0 else if y then om^6 else om^2)
 else if x=y then (if x then om^(turnOf k).toNat else 1) else 0
def act(g:Gt)(v:St) : St:=fun β=>
 if g.k=12 then om*v β
 else if g.k=9 then v (if β g.a.toNat then flipB β g.b.toNat else β)
 else if g.k=10 then (if β g.a.toNat&&β g.b.toNat then om^4 else 1)*v β
 else if g.k=11 then v (if β g.a.toNat=β g.b.toNat then β else flipB (flipB β g.a.toNat) g.b.toNat)
 else u1 g.k (β g.a.toNat) (β g.a.toNat)*v β+u1 g.k (β g.a.toNat) (!β g.a.toNat)*v (flipB β g.a.toNat)
def hN(g:Gt) : Nat:=if g.k=1 then 1 else 0
def run:List Gt->St->St
 | [],v=>v
 | g::l,v=>run l (act g v)
def hs:List Gt->Nat
 | []=>0
 | g::l=>hN g+hs l
def sumN(f:Nat->Rg) : Nat->Rg
 | 0=>0
 | n+1=>sumN f n+f n
def pt(N:Nat)(i:Nat) : Nat->Bool:=fun q=>decide (q<N)&&(bitT (N-1-q) i==1)
theorem Xfl{g:Nat->Option Dy} : ∀ {n:Nat} {l:List Dy},seqO g n=some l->∀ k,k<n->g k=some (l.getD k dZ)
 | 0,l,_,k,hk=>by omega
 | n+1,l,h,k,hk=>by
  simp only [seqO] at h
  split at h
  ·rename_i l' x h1 h2
   injection h with h
   subst h
   have hl:=X7e h1
   by_cases e:k=n
   ·subst e
    rw [h2,Qa,W5 (by omega),hl,Nat.sub_self]
    rfl
   ·rw [Xfl h1 k (by omega),Qa,Qa,List.getElem?_append_left (by omega)]
  ·cases h
theorem X90{R C:Int}{f:Nat->Nat->Option Dy}{M:Mx}(h:matOf R C f=some M) : (∀ i j,i<R.toNat->j<C.toNat->f i j=some (M.at i j))/\M.rows=R/\M.cols=C/\M.cells.length=R.toNat*C.toNat:=by
 unfold matOf at h
 split at h
 ·cases hs:seqO (gridG f C.toNat) (R.toNat*C.toNat) with
  | none=>rw [hs] at h;cases h
  | some l=>
   rw [hs] at h
   injection h with h
   subst h
   refine ⟨fun i j hi hj=>?_,rfl,rfl,X7e hs⟩
   have:=Xfl hs (i*C.toNat+j) (Xha hi hj)
   rw [X9o hj] at this
   exact this
 ·cases h
def eb(N j:Nat) : St:=fun β=>if ∀ q,q<N->β q=pt N j q then 1 else 0
def put(N j:Nat)(β:Nat->Bool) : Nat->Bool:=fun q=>if q<N then pt N j q else β q
def inj(us:List Int)(β γ:Nat->Bool) : Nat->Bool:=fun p=>if (p:Int) ∈ us then γ (lastN us p us.length).toNat else β p
theorem Xi1(k:Nat) : om^k=om^(k % 8):=by
 have h:∀ m:Nat,om^(8*m)=1:=fun m=>by
  induction m with
  | zero=>rfl
  | succ m ih=>rw [Nat.mul_succ,X2y,ih,om8];rfl
 have:=X2y om (8*(k/8)) (k % 8)
 rw [Nat.div_add_mod,h] at this
 rw [this]
 exact X05 _
end Go.Proofs.YtpifljegadknkaaGreat
namespace Go.Proofs.YtpifljegadknkaaGreat
open Go.RowKit
def encU(i:Int) : List Value:=[.int .u8 i]
theorem Xd8:∀ x,(encU x).length=1:=fun _=>rfl
abbrev wu(i:Int) : Int:=IntKind.u64.wrap i
theorem X82(i:Int) : 0<=bits .and .u64 i 255/\bits .and .u64 i 255<=255:=by
 have key:∀ b:BitVec 64,0<=IntKind.u64.wrap ((b &&& BitVec.ofInt 64 255).toNat:Int)/\IntKind.u64.wrap ((b &&& BitVec.ofInt 64 255).toNat:Int)<=255:=fun b=>by
  have h1:(BitVec.ofInt 64 255).toNat=255:=by decide
  have h:(b &&& BitVec.ofInt 64 255).toNat<=255:=by
   rw [BitVec.toNat_and,h1]
   exact Nat.and_le_right
  have h2:IntKind.u64.wrap ((b &&& BitVec.ofInt 64 255).toNat:Int)=((b &&& BitVec.ofInt 64 255).toNat:Int):=by
   generalize (b &&& BitVec.ofInt 64 255).toNat=m at h
   simp only [IntKind.wrap,IntKind.bits,IntKind.signed]
   simp
   omega
  rw [h2]
  omega
 exact key _
theorem Xgm(i:Int) : 0<=bits .and .u64 i 255/\bits .and .u64 i 255<=9223372036854775807:=⟨(X82 i).1,Int.le_trans (X82 i).2 (by decide)⟩
theorem pk{x n:Int}(hx:0<=x)(hn:1<n) : 0<=x.tmod n/\(x.tmod n=0∨x.tmod n<n):=⟨Int.tmod_nonneg _ hx,.inr (Int.tmod_lt_of_pos _ (by omega))⟩
theorem X74{l:List Int}{k:Nat}(h:k<l.length) : l[k]? = some (l.getD k 0):=by
 rw [Qa,Qc h];rfl
theorem Xap{l:List Int}{k:Nat}(h:k<l.length) : l.getD k 0 ∈ l:=Qe (X74 h)
section
variable {P : Program} {a : Act} {w : World} {n : Nat} {e : Env} {ty : TypeId} {pos : String} {af : Array Edge} {g : Option (Nat × Bool)} {d : Option Tmp}
variable {s t t' : TypeId} {x y : Operand} {i j : Int}
theorem Xod(hf:Fr a n e)(hx:ev e x=some (.int .u64 i))(hy:ev e y=some (.int .u64 j)) : Ev P ⟨d,.binOp .mul t x y t',ty,pos,af,g⟩ a w (.int .u64 (wu (i*j))):=fun w' _=>by
 simp [execOp,hf.ev hx,hf.ev hy,eqGuard,binOp,Op.intArith]
theorem Xtp(hx:ev e x=some (.int .u64 i))(hy:ev e y=some (.int .u64 j)) : EvW P ⟨d,.binOp .mul t x y t',ty,pos,af,g⟩ n e w (.int .u64 (wu (i*j))):=fun a hf=>Xod hf hx hy
theorem Xnn(hf:Fr a n e)(hx:ev e x=some (.int .u64 i))(hy:ev e y=some (.int .u64 j)) : Ev P ⟨d,.binOp .add t x y t',ty,pos,af,g⟩ a w (.int .u64 (wu (i+j))):=fun w' _=>by
 simp [execOp,hf.ev hx,hf.ev hy,eqGuard,binOp,Op.intArith]
theorem Xh6(hx:ev e x=some (.int .u64 i))(hy:ev e y=some (.int .u64 j)) : EvW P ⟨d,.binOp .add t x y t',ty,pos,af,g⟩ n e w (.int .u64 (wu (i+j))):=fun a hf=>Xnn hf hx hy
theorem Xog(hf:Fr a n e)(hx:ev e x=some (.int .u64 i))(hy:ev e y=some (.int .u64 j)) : Ev P ⟨d,.binOp .and t x y t',ty,pos,af,g⟩ a w (.int .u64 (bits .and .u64 i j)):=fun w' _=>by
 simp [execOp,hf.ev hx,hf.ev hy,eqGuard,binOp,Op.intBits,bits]
theorem Xrm(hx:ev e x=some (.int .u64 i))(hy:ev e y=some (.int .u64 j)) : EvW P ⟨d,.binOp .and t x y t',ty,pos,af,g⟩ n e w (.int .u64 (bits .and .u64 i j)):=fun a hf=>Xog hf hx hy
theorem Xp4{m:Nat}(hf:Fr a n e)(hx:ev e x=some (.int .u64 i))(hy:ev e y=some (.int .u64 j))(hj:j=(m:Int))(hm:m<=64) : Ev P ⟨d,.binOp .shr t x y t',ty,pos,af,g⟩ a w (.int .u64 (i/2^m)):=fun w' _=>by
 subst hj
 have hm':min m 64=m:=by omega
 simp [execOp,hf.ev hx,hf.ev hy,eqGuard,binOp,Op.shift,IntKind.bits,hm']
theorem Xss{m:Nat}(hx:ev e x=some (.int .u64 i))(hy:ev e y=some (.int .u64 j))(hj:j=(m:Int))(hm:m<=64) : EvW P ⟨d,.binOp .shr t x y t',ty,pos,af,g⟩ n e w (.int .u64 (i/2^m)):=fun a hf=>Xp4 hf hx hy hj hm
theorem Xwc(hs:P.underlying s=some (.int .i64))(ht:P.underlying t=some (.int .u64))(hf:Fr a n e)(hx:ev e x=some (.int .i64 i)) : Ev P ⟨d,.convert s t x,ty,pos,af,g⟩ a w (.int .u64 (wu i)):=fun w' _=>by
 simp [execOp,hf.ev hx,convert,X0j hs,X0j ht,Conv.intToInt]
theorem Y25(hs:P.underlying s=some (.int .i64))(ht:P.underlying t=some (.int .u64))(hx:ev e x=some (.int .i64 i)) : EvW P ⟨d,.convert s t x,ty,pos,af,g⟩ n e w (.int .u64 (wu i)):=fun a hf=>Xwc hs ht hf hx
theorem Xux(hs:P.underlying s=some (.int .u64))(ht:P.underlying t=some (.int .i64))(hf:Fr a n e)(hx:ev e x=some (.int .u64 i))(h:0<=i/\i<=9223372036854775807) : Ev P ⟨d,.convert s t x,ty,pos,af,g⟩ a w (.int .i64 i):=fun w' _=>by
 have h2:IntKind.i64.wrap i=i:=IntWalk.i64_in _ ⟨by omega,by omega⟩
 simp [execOp,hf.ev hx,convert,X0j hs,X0j ht,Conv.intToInt,h2]
theorem Y2l(hs:P.underlying s=some (.int .u64))(ht:P.underlying t=some (.int .i64))(hx:ev e x=some (.int .u64 i))(h:0<=i/\i<=9223372036854775807) : EvW P ⟨d,.convert s t x,ty,pos,af,g⟩ n e w (.int .i64 i):=fun a hf=>Xux hs ht hf hx h
theorem Xw4(hs:P.underlying s=some (.int .u8))(ht:P.underlying t=some (.int .i64))(hf:Fr a n e)(hx:ev e x=some (.int .u8 i))(h:0<=i/\i<=255) : Ev P ⟨d,.convert s t x,ty,pos,af,g⟩ a w (.int .i64 i):=fun w' _=>by
 have h2:IntKind.i64.wrap i=i:=IntWalk.i64_in _ ⟨by omega,by omega⟩
 simp [execOp,hf.ev hx,convert,X0j hs,X0j ht,Conv.intToInt,h2]
theorem Y45(hs:P.underlying s=some (.int .u8))(ht:P.underlying t=some (.int .i64))(hx:ev e x=some (.int .u8 i))(h:0<=i/\i<=255) : EvW P ⟨d,.convert s t x,ty,pos,af,g⟩ n e w (.int .i64 i):=fun a hf=>Xw4 hs ht hf hx h
end
theorem Xrv(w0:World)(bV:Nat){aQ:TypeId}(j:Option Addr)(p:Nat)(d:List Int)(e:Rd w0 w0.heap.size aQ encU j d)(aA:∀ x ∈ d,0<=x/\x<=255)(aV:AwayR d j bV)(t:Nat)(sd:Int)(b:Blk w0 bV 103 [.slice j d.length p,vi (t:Int),.int .u64 sd])(ht:t+1<=100000000) : Ret Tryz.prog 169 [(pZ9 bV)] w0 (fun v w=>∃ (x:Int) (t1:Nat) (s1:Int),v=vi x/\(0<=x/\x<=255)/\(t<=t1/\t1<=t+1)/\Kept bV w0.heap.size w0 w/\Blk w bV 103 [.slice j d.length p,vi (t1:Int),.int .u64 s1]):=by
 have aU:=b.lt;refine enter Tryz.func169 rfl 62 rfl rfl ?_;intro a c
 have i:Kept bV w0.heap.size w0 w0:=Kept.refl _ _ _
 refine Zs c fun _ aR=>?_;refine Za rfl<|Zx aR fun a c _ aS=>?_;refine Za rfl<|ZX aS fun a c _ aB=>?_;refine Q5 fun _ aT=>?_;refine X00 none (fun _=>false) mixed ?_;intro w1 q;have b:=b.bw q;have e:=e.bw q;have i:=ktr i q;refine Yb c<|Yo 0 rfl (fun _=>X3 rfl)<|Yo 1 rfl (fun _=>X0a rfl)<|Yo 2 rfl (fun _=>Vd rfl X2x 1)<|Ye 3 rfl (X0 rfl X7 (b.at 1))<|Yo 4 rfl (fun _=>X3 rfl)<|Yo 5 rfl (fun _=>X0a rfl)<|Yo 6 rfl (fun _=>Vd rfl X66 0)<|Ye 7 rfl (X0 rfl X8r (b.at 0))<|Yo 8 rfl (fun _=>X0c rfl X4y)<|Yo 9 rfl (fun _=>X0q rfl rfl) ?_;refine Yd fun a c=>?_;refine aT _ _ ?_
 refine Xi c rfl (fun o=>?_) (fun o=>?_)
 ·have aC:=o;have o:=Q2 o
  obtain ⟨u7,a6⟩:=X5 (l:=d) (k:=t) (by omega)
  have aW:=aA _ (Qe a6);refine X00 none (fun _=>false) mixed ?_;intro w2 q;have b:=b.bw q;have e:=e.bw q;have i:=ktr i q;refine Yb c<|Yo 0 rfl (fun _=>X3 rfl)<|Yo 1 rfl (fun _=>X0a rfl)<|Yo 2 rfl (fun _=>Vd rfl X66 0)<|Ye 3 rfl (X0 rfl X8r (b.at 0))<|Yo 4 rfl (fun _=>X3 rfl)<|Yo 5 rfl (fun _=>X0a rfl)<|Yo 6 rfl (fun _=>Vd rfl X2x 1)<|Ye 7 rfl (X0 rfl X7 (b.at 1))<|Yi (k:=t) (u:=u7) (enc:=encU) (l:=d) 8 rfl tv0 rfl rfl X4y Y4s Xd8 e a6 rfl ?_;intro p9 aD;refine Ye 9 rfl (X0 rfl Y4p aD)<|Yo 10 rfl (fun _=>Y45 Tryz.underlying5 Tryz.underlying3 rfl (aA _ (Qe a6)))<|Yo 11 rfl (fun _=>Xr rfl) ?_;refine Yd fun a c=>?_;refine aB _ _<|Zs c fun _ aE=>?_;refine Zm rfl<|Ze (X0a rfl)<|Ze (Vd rfl X2x 1)<|Ze (X0 rfl X7 (b.at 1))<|Ze (Xm rfl rfl (by omega) (by omega))<|Ze (X0a rfl)<|Ze (Vd rfl X2x 1)<|Zo (X1a (vs:=[vi ((t:Int)+1)]) (l':=[.slice j d.length p,vi ((t:Int)+1),.int .u64 sd]) rfl rfl X09 b rfl rfl rfl rfl rfl) ?_;rintro _ w3 ⟨ho,hb⟩;have h:=b;have i:=i.self ho;have b:=hb;refine Zx aE fun a c _ aF=>?_;refine Zm rfl<|Zm rfl<|Ze (X0a rfl)<|Ze (Vd rfl X3t 2)<|Ze (X0 rfl Xcp (b.at 2))<|Ze (Xtp rfl rfl)<|Zm rfl<|Ze (Y25 Tryz.underlying3 Tryz.underlying101 rfl)<|Ze (Xh6 rfl rfl)<|Ze (Xh6 rfl rfl) ?_;refine Ze (X0a rfl)<|Ze (Vd rfl X3t 2)<|Zo (X1a (vs:=[.int .u64 (wu ((wu ((wu (sd*6364136223846793005))+(wu u7)))+1442695040888963407))]) (l':=[.slice j d.length p,vi ((t:Int)+1),.int .u64 (wu ((wu ((wu (sd*6364136223846793005))+(wu u7)))+1442695040888963407))]) rfl rfl Xne b rfl rfl rfl rfl rfl) ?_;rintro _ w4 ⟨ho,hb⟩
  have h:=b;have i:=i.self ho;have b:=hb;refine ZX aF fun a c _ aG=>?_;refine Q5 fun _ aH=>?_;refine X00 none (fun _=>false) mixed ?_;intro w5 q;have b:=b.bw q;have i:=ktr i q;refine Yb c<|Yo 0 rfl (fun _=>X3 rfl)<|Yo 1 rfl (fun _=>X0a rfl)<|Yo 2 rfl (fun _=>Vd rfl X2x 1)<|Ye 3 rfl (X0 rfl X7 (b.at 1))<|Yo 4 rfl (fun _=>X3 rfl)<|Yo 5 rfl (fun _=>X0a rfl)<|Yo 6 rfl (fun _=>Vd rfl X66 0)<|Ye 7 rfl (X0 rfl X8r (b.at 0))<|Yo 8 rfl (fun _=>X0c rfl X4y)<|Yo 9 rfl (fun _=>Xex rfl rfl) ?_;refine Yd fun a c=>?_;refine aH _ _ ?_
  refine Xi c rfl (fun f=>?_) (fun f=>?_)
  ·have a7:=f;have f:=Q2 f;refine Zs c fun _ aI=>?_;refine Zm rfl<|Za rfl<|Zt aI fun a c=>?_;refine Q6<|Xa<|X6 c (Xu c rfl rfl) ?_;exact ⟨_,t+1,_,rfl,(by first|omega|exact X82 _),⟨by omega,by omega⟩,i,b⟩
  have a7:=f;have f:=Q1 f;refine Q7<|aG _ _<|Zs c fun _ aJ=>?_;refine Zm rfl<|Ze (X0a rfl)<|Ze (Vd rfl X3t 2)<|Ze (X0 rfl Xcp (b.at 2))<|Ze (Xss (m:=40) rfl rfl rfl (by decide))<|Ze (Xrm rfl rfl)<|Ze (Y2l Tryz.underlying101 Tryz.underlying3 rfl (Xgm _))<|Za rfl<|Zt aJ fun a c=>?_
  refine Q6 (X6 c (Xu c rfl rfl) ?_)
  exact ⟨_,t+1,_,rfl,(by first|omega|exact X82 _),⟨by omega,by omega⟩,i,b⟩
 have aC:=o;have o:=Q1 o;refine Q7<|aB _ _<|Zs c fun _ aK=>?_;refine Zm rfl<|Ze (X0a rfl)<|Ze (Vd rfl X2x 1)<|Ze (X0 rfl X7 (b.at 1))<|Ze (Xm rfl rfl (by omega) (by omega))<|Ze (X0a rfl)<|Ze (Vd rfl X2x 1)<|Zo (X1a (vs:=[vi ((t:Int)+1)]) (l':=[.slice j d.length p,vi ((t:Int)+1),.int .u64 sd]) rfl rfl X09 b rfl rfl rfl rfl rfl) ?_;rintro _ w6 ⟨ho,hb⟩;have h:=b;have i:=i.self ho;have b:=hb;refine Zx aK fun a c _ aL=>?_;refine Zm rfl<|Zm rfl<|Ze (X0a rfl)<|Ze (Vd rfl X3t 2)<|Ze (X0 rfl Xcp (b.at 2))<|Ze (Xtp rfl rfl)<|Zm rfl<|Ze (Y25 Tryz.underlying3 Tryz.underlying101 rfl)<|Ze (Xh6 rfl rfl)<|Ze (Xh6 rfl rfl) ?_;refine Ze (X0a rfl)<|Ze (Vd rfl X3t 2)<|Zo (X1a (vs:=[.int .u64 (wu ((wu ((wu (sd*6364136223846793005))+(wu 0)))+1442695040888963407))]) (l':=[.slice j d.length p,vi ((t:Int)+1),.int .u64 (wu ((wu ((wu (sd*6364136223846793005))+(wu 0)))+1442695040888963407))]) rfl rfl Xne b rfl rfl rfl rfl rfl) ?_;rintro _ w7 ⟨ho,hb⟩;have h:=b;have i:=i.self ho;have b:=hb;refine ZX aL fun a c _ aM=>?_;refine Q5 fun _ aN=>?_;refine X00 none (fun _=>false) mixed ?_;intro w8 q;have b:=b.bw q;have i:=ktr i q;refine Yb c<|Yo 0 rfl (fun _=>X3 rfl)<|Yo 1 rfl (fun _=>X0a rfl)<|Yo 2 rfl (fun _=>Vd rfl X2x 1)<|Ye 3 rfl (X0 rfl X7 (b.at 1))<|Yo 4 rfl (fun _=>X3 rfl)<|Yo 5 rfl (fun _=>X0a rfl)<|Yo 6 rfl (fun _=>Vd rfl X66 0)<|Ye 7 rfl (X0 rfl X8r (b.at 0))<|Yo 8 rfl (fun _=>X0c rfl X4y)<|Yo 9 rfl (fun _=>Xex rfl rfl) ?_;refine Yd fun a c=>?_;refine aN _ _ ?_
 refine Xi c rfl (fun g=>?_) (fun g=>?_)
 ·have a8:=g;have g:=Q2 g;refine Zs c fun _ aO=>?_;refine Zm rfl<|Za rfl<|Zt aO fun a c=>?_;refine Q6<|Xa<|X6 c (Xu c rfl rfl) ?_;exact ⟨_,t+1,_,rfl,(by first|omega|exact X82 _),⟨by omega,by omega⟩,i,b⟩
 have a8:=g;have g:=Q1 g;refine Q7<|aM _ _<|Zs c fun _ aP=>?_;refine Zm rfl<|Ze (X0a rfl)<|Ze (Vd rfl X3t 2)<|Ze (X0 rfl Xcp (b.at 2))<|Ze (Xss (m:=40) rfl rfl rfl (by decide))<|Ze (Xrm rfl rfl)<|Ze (Y2l Tryz.underlying101 Tryz.underlying3 rfl (Xgm _))<|Za rfl<|Zt aP fun a c=>?_
 refine Q6 (X6 c (Xu c rfl rfl) ?_)
 exact ⟨_,t+1,_,rfl,(by first|omega|exact X82 _),⟨by omega,by omega⟩,i,b⟩
theorem X15(w0:World)(bV:Nat){aF:TypeId}(i:Option Addr)(m:Nat)(c:List Int)(b:Rd w0 w0.heap.size aF encU i c)(aA:∀ x ∈ c,0<=x/\x<=255)(a6:AwayR c i bV)(t:Nat)(sd:Int)(f:Blk w0 bV 103 [.slice i c.length m,vi (t:Int),.int .u64 sd])(n:Int)(ht:t+2<=100000000) : Ret Tryz.prog 119 [(pZ9 bV),vi n] w0 (fun v w=>∃ (x:Int) (t1:Nat) (s1:Int),v=vi x/\(0<=x/\(x=0∨x<n))/\(t<=t1/\t1<=t+2)/\Kept bV w0.heap.size w0 w/\Blk w bV 103 [.slice i c.length m,vi (t1:Int),.int .u64 s1]):=by
 have aQ:=f.lt;refine enter Tryz.func119 rfl 20 rfl rfl ?_;intro a d
 have j:Kept bV w0.heap.size w0 w0:=Kept.refl _ _ _
 refine Zs d fun _ aG=>?_;refine Za rfl<|ZX aG fun a d _ aH=>?_;refine Zs d fun _ aI=>?_;refine Zm rfl<|Ze (Xex rfl rfl)<|Zt aI fun a d=>?_
 refine Xi d rfl (fun g=>?_) (fun g=>?_)
 ·have aB:=g;have g:=Q2 g
  have a7:n<=1:=g
  refine Zs d fun _ aJ=>?_;refine Za rfl<|Zt aJ fun a d=>?_;refine Q6<|Xa<|X6 d (Xu d rfl rfl) ?_;exact ⟨0,t,sd,rfl,⟨by omega,.inl rfl⟩,⟨by omega,by omega⟩,j,f⟩
 have aB:=g;have g:=Q1 g
 have a7:1<n:=by have:=g;omega
 refine Q7<|aH _ _<|Zs d fun _ aK=>?_;refine Zm rfl<|Zf (Vc (Xrv _ bV i m c b.top aA a6 t sd f (by omega)) Xfy) ?_;rintro _ w1 ⟨aW,aL,aM,rfl,aR,aS,hK,k⟩;obtain ⟨wm,hO,hm,hE⟩:=hK.mid;clear hm;have l:=f;have b:=b.onlyA hO a6;have j:=j.self hO;have b:=b.bw hE;have j:=ktr j hE
 clear l hE hO hK;have f:=k;clear k;refine Za rfl<|ZX aK fun a d _ aC=>?_;refine Zs d fun _ aN=>?_;refine Zm rfl<|Ze (X3h rfl rfl)<|Zt aN fun a d=>?_
 refine Xi d rfl (fun e=>?_) (fun e=>?_)
 ·have a8:=e;have e:=Q2 e;refine Zr d<|Zm rfl<|Ze (X41 rfl rfl (by omega) (by omega))<|Zm rfl<|Zf (Vc (Xrv _ bV i m c b.top aA a6 aL aM f (by omega)) Xfy) ?_;rintro _ w2 ⟨aT,aU,aV,rfl,aO,aP,hK,k⟩;obtain ⟨wm,hO,hm,hE⟩:=hK.mid;clear hm;have l:=f;have j:=j.self hO;have j:=ktr j hE
  clear l hE hO hK;have f:=k;clear k;refine Ze (Xm rfl rfl (by omega) (by omega))<|Za rfl<|Zx aC fun a d _ aD=>?_;refine Zm rfl<|Zm rfl<|Ze (X33 rfl rfl (by simp;omega))<|Za rfl<|Zt aD fun a d=>?_
  refine Q6 (X6 d (Xu d rfl rfl) ?_)
  exact ⟨_,_,_,rfl,pk (by omega) a7,⟨by omega,by omega⟩,j,f⟩
 have a8:=e;have e:=Q1 e;refine Q7<|aC _ _<|Zs d fun _ aE=>?_;refine Zm rfl<|Zm rfl<|Ze (X33 rfl rfl (by simp;omega))<|Za rfl<|Zt aE fun a d=>?_
 refine Q6 (X6 d (Xu d rfl rfl) ?_)
 exact ⟨_,_,_,rfl,pk (by omega) a7,⟨by omega,by omega⟩,j,f⟩
theorem X4i(w0:World)(bV:Nat){aA:TypeId}(c:Option Addr)(a6:Nat)(b:List Int)(d:Rd w0 w0.heap.size aA encU c b)(aB:∀ x ∈ b,0<=x/\x<=255)(aC:AwayR b c bV)(t:Nat)(sd:Int)(e:Blk w0 bV 103 [.slice c b.length a6,vi (t:Int),.int .u64 sd])(n:Int)(ht:t+2<=100000000) : Ret Tryz.prog 65 [(pZ9 bV),vi n] w0 (fun v w=>∃ (x:Bool) (t1:Nat) (s1:Int),v=.bool x/\(True)/\(t<=t1/\t1<=t+2)/\Kept bV w0.heap.size w0 w/\Blk w bV 103 [.slice c b.length a6,vi (t1:Int),.int .u64 s1]):=by
 have aF:=e.lt;refine enter Tryz.func65 rfl 9 rfl rfl ?_;intro a hf
 have hW:Kept bV w0.heap.size w0 w0:=Kept.refl _ _ _
 refine Zs hf fun _ aD=>?_;refine Za rfl<|Zx aD fun a hf _ aE=>?_;refine Zm rfl<|Zm rfl<|Zf (Vc (X15 _ bV c a6 b d.top aB aC t sd e n (by omega)) X0i) ?_;rintro _ w1 ⟨aI,aJ,aK,rfl,aG,aH,hK,a7⟩;obtain ⟨wm,hO,hm,hE⟩:=hK.mid;clear hm;have a8:=e;have hW:=hW.self hO;have hW:=ktr hW hE
 clear a8 hE hO hK;have e:=a7;clear a7;refine Ze (X0m rfl rfl)<|Za rfl<|Zt aE fun a hf=>?_
 refine Q6 (X6 hf (Xu hf rfl rfl) ?_)
 exact ⟨_,_,_,rfl,trivial,⟨by omega,by omega⟩,hW,e⟩
theorem Xad(w0:World)(bV:Nat){aB:TypeId}(d:Option Addr)(a6:Nat)(b:List Int)(e:Rd w0 w0.heap.size aB encU d b)(aC:∀ x ∈ b,0<=x/\x<=255)(aD:AwayR b d bV)(t:Nat)(sd:Int)(f:Blk w0 bV 103 [.slice d b.length a6,vi (t:Int),.int .u64 sd])(Al:Option Addr)(cl:Nat)(l:List Int)(c:Rd w0 w0.heap.size 3 encI Al l)(aJ:0<l.length)(aK:l.length<=1000)(ht:t+2<=100000000) : Ret Tryz.prog 121 [(pZ9 bV),.slice Al l.length cl] w0 (fun v w=>∃ (x:Int) (t1:Nat) (s1:Int),v=vi x/\(x ∈ l)/\(t<=t1/\t1<=t+2)/\Kept bV w0.heap.size w0 w/\Blk w bV 103 [.slice d b.length a6,vi (t1:Int),.int .u64 s1]):=by
 have aG:=f.lt;refine enter Tryz.func121 rfl 12 rfl rfl ?_;intro a hf
 have hW:Kept bV w0.heap.size w0 w0:=Kept.refl _ _ _
 refine Zs hf fun _ aE=>?_;refine Za rfl<|Zx aE fun a hf _ aF=>?_;refine Zm rfl<|Zm rfl<|Zm rfl<|Ze (X0c rfl Xj)<|Zf (Vc (X15 _ bV d a6 b e.top aC aD t sd f (l.length:Int) (by omega)) X0i) ?_;rintro _ w1 ⟨a7,aL,aM,rfl,aH,aI,hK,a8⟩;obtain ⟨wm,hO,hm,hE⟩:=hK.mid;clear hm;have g:=f;have c:=c.oT hO g rfl;have hW:=hW.self hO;have c:=c.bw hE;have hW:=ktr hW hE
 clear g hE hO hK;have f:=a8;clear a8;refine Zi (k:=a7.toNat) (u:=(l.getD a7.toNat 0)) (enc:=encI) (l:=l) tv0 rfl rfl Xj X09 X9 c (X74 (by omega)) (by omega) ?_;intro p6 aA;refine Ze (X0 rfl X7 aA)<|Za rfl<|Zt aF fun a hf=>?_
 refine Q6 (X6 hf (Xu hf rfl rfl) ?_)
 exact ⟨_,_,_,rfl,Xap (by omega),⟨by omega,by omega⟩,hW,f⟩
section
end
section
end
end Go.Proofs.YtpifljegadknkaaGreat
namespace Go.Proofs.YtpifljegadknkaaGreat
open Go.RowKit Go.ChangeShapes Go.WideShapes Go.Deep Go.Joins
theorem Xx0:Tryz.prog.cellsOf 5=1:=by kernel_rfl
theorem Xm8{n:Int}(h:(Lit.int .u8 n).wf=true) : 0<=n/\n<=255:=by
 have h1:IntKind.u8.min=0:=rfl
 have h2:IntKind.u8.max=255:=rfl
 simp [Lit.wf] at h
 omega
set_option maxRecDepth 100000 in
theorem X9k{H:Type}{enc:TypeId×Value->H}{w:World}{base b0:Nat}{spare:Nat->Bool}{held:Bool}{r:Reach}{v:Value}{d:DataW H}{p:List MemPlace}(hv:Value.okWide Tryz.prog w r b0 34 v)(h:DataW.Trod enc Tryz.prog w base spare held 34 v d p)(hsp:∀ b,spare b=true) :
  ∃ (A:Option Addr) (l:List Int) (k:Nat) (E:TypeId),v=.slice A l.length k/\Rd w w.heap.size E encU A l/\(∀ x ∈ l,0<=x/\x<=255):=by
 obtain ⟨a1,n1,k1,rfl⟩:=okWide_slice Tryz.underlying34 hv;obtain ⟨fuel,hf⟩:=h
 have key:∃ (A:Option Addr) (l:List Int) (c:Nat) (E:TypeId),(Value.slice a1 n1 k1).cells.toList=[Value.slice A l.length c]/\Rd w w.heap.size E encU A l/\(∀ x ∈ l,0<=x/\x<=255):=by
  rcases open_slice Tryz.underlying34 hf with ⟨hcs,_⟩|⟨a,len,cap,m,n,D,Pl,hcs,hb,hl,hm,hmm,_,hi⟩
  ·exact ⟨none,[],0,0,hcs,Rd.nil _ _ _ _ _,by simp⟩
  ·rw [Xx0] at hi
   have hlm:len<=m:=by rw [hmm,hsp];simpa using hl
   obtain ⟨l,h1,h2⟩:=Xqf (n:=len) (Q:=fun i g=>(0<=g/\g<=255)/\∀ j v,(encU g)[j]? = some v->w.cell? (a.add (i*1+j))=some v) fun i hilt=>by
    obtain ⟨cs',hc,ht⟩:=hi i (by omega)
    obtain ⟨g,rfl,_,hwf⟩:=DataW.trod_int Tryz.underlying5 ht;obtain ⟨_,_,hat⟩:=World.cells?_some hc
    refine ⟨g,Xm8 hwf,fun j v hj=>?_⟩
    have hj3:j<1:=by have:=(Qg.1 hj).1;simpa [encU] using this
    rw [<- X73,hat j hj3]
    exact hj
   obtain ⟨E,hr⟩:=Xcu Xd8 (by decide) fun i g hig=>(h2 i g hig).2
   refine ⟨some a,l,cap,E,by rw [hcs,h1],hr,fun x hx=>?_⟩
   obtain ⟨i,hi9,e⟩:=List.getElem_of_mem hx;exact (h2 i x (by rw [Qc hi9,e])).1
 obtain ⟨A,l,c,E,e0,hr,hb⟩:=key
 simp [Value.cells] at e0
 obtain ⟨rfl,rfl,rfl⟩:=e0;exact ⟨_,l,_,E,rfl,hr,hb⟩
end Go.Proofs.YtpifljegadknkaaGreat
namespace Go.Proofs.YtpifljegadknkaaGreat
open Go.RowKit
section
end
end Go.Proofs.YtpifljegadknkaaGreat
namespace Go.Proofs.YtpifljegadknkaaGreat
def oneK(k:Int) : Bool:=decide (k≠12/\¬ (9<=k/\k<=11))
def c0(g:Gt)(β:Nat->Bool) : Rg:=
 if g.k=12 then om else if g.k=9 then 1 else if g.k=10 then (if β g.a.toNat&&β g.b.toNat then om^4 else 1) else if g.k=11 then 1 else u1 g.k (β g.a.toNat) (β g.a.toNat)
def c1(g:Gt)(β:Nat->Bool) : Rg:=if oneK g.k=true then u1 g.k (β g.a.toNat) (!β g.a.toNat) else 0
end Go.Proofs.YtpifljegadknkaaGreat
namespace Go.Proofs.YtpifljegadknkaaGreat
open Go.RowKit
section
variable {α : Type} {P : Program} {a : Act} {w : World} {n : Nat} {e : Env} {ty : TypeId} {pos : String} {af : Array Edge} {g : Option (Nat × Bool)} {d : Option Tmp}
theorem Xq3{T b k sz:Nat}{enc:α->List Value}{l:List α}{u:α}{v:Value}{r:List Value}(hb:Blk w b T (l.flatMap enc))(hsz:∀ x,(enc x).length=sz)(hu:l[k]? = some u)(hv:enc u=v::r) : At w ⟨b,k*sz,none⟩ (v::(r++(l.drop (k+1)).flatMap enc)):=by
 have h:=hb.at (k*sz)
 rw [<- X7g hsz,Xnf hu,Wc,hv] at h
 exact h
theorem Xkm{t T b k sz:Nat}{x:Operand}{enc:α->List Value}{l:List α}{u:α}{v:Value}{r:List Value}(hf:Fr a n e)(hx:ev e x=some (.pointer (some ⟨b,k*sz,none⟩)))(h1:OneT P t)(hb:Blk w b T (l.flatMap enc))(hsz:∀ x,(enc x).length=sz)(hu:l[k]? = some u)(hv:enc u=v::r) : Ev P ⟨d,.load t x,ty,pos,af,g⟩ a w v:=
 Xdg hf hx h1 (Xq3 hb hsz hu hv)
theorem Xxn{t T b k sz:Nat}{x:Operand}{enc:α->List Value}{l:List α}{u:α}{v:Value}{r:List Value}(hx:ev e x=some (.pointer (some ⟨b,k*sz,none⟩)))(h1:OneT P t)(hb:Blk w b T (l.flatMap enc))(hsz:∀ x,(enc x).length=sz)(hu:l[k]? = some u)(hv:enc u=v::r) : EvW P ⟨d,.load t x,ty,pos,af,g⟩ n e w v:=fun a hf=>Xkm hf hx h1 hb hsz hu hv
end
def upd(f:Int->Int)(m v:Int) : Int->Int:=fun x=>if x=m then v else f x
section
variable {w w' : World} {b b' : Nat} {f : Int -> Int}
end
section
variable {α : Type} {w w' : World} {b B : Nat} {E : TypeId} {enc : α -> List Value} {A : Option Addr} {l : List α}
end
section
variable {a : Act} {w : World} {n : Nat} {e : Env} {ty : TypeId} {pos : String} {af : Array Edge} {g : Option (Nat × Bool)} {d : Option Tmp} {b : Nat} {f : Int -> Int} {T : TypeId}
theorem Xl2{f:Int->Int}{m v x:Int}(h:x≠m) : upd f m v x=f x:=Q3 h
theorem Xvo{f:Int->Int}{m v:Int} : upd f m v m=v:=Q4 rfl
end
section
end
section
end
structure Tm where (m c:Int) deriving DecidableEq
structure Af where (m t:Int) deriving DecidableEq
def padd(f:Int->Int)(m k:Int) : Int->Int:=upd f m ((f m+k) % 8)
def PO(f:Int->Int) : Prop:=∀ x,0<=f x/\f x<8
theorem PO.padd{f:Int->Int}(h:PO f)(m k:Int) : PO (padd f m k):=fun x=>by
 unfold Proofs.YtpifljegadknkaaGreat.padd upd
 split
 ·omega
 ·exact h x
theorem PO.zero:PO (fun _=>0):=fun _=>⟨by show (0:Int)<=0;omega,by show (0:Int)<8;omega⟩
def Rise(T:List Tm) : Prop:=T.Pairwise fun x y=>x.m<y.m
structure IsT (f:Int->Int) (T:List Tm) : Prop where
 rise:Rise T
 mem:∀ t:Tm,t ∈ T↔0<t.m/\t.m<16777216/\t.c=f t.m/\f t.m≠0
theorem Xga:∀ {T U:List Tm},Rise T->Rise U->(∀ t,t ∈ T↔t ∈ U)->T=U
 | [],[],_,_,_=>rfl
 | [],u::U,_,_,h=>absurd ((h u).2 (by simp)) (by simp)
 | t::T,[],_,_,h=>absurd ((h t).1 (by simp)) (by simp)
 | t::T,u::U,hT,hU,h=>by
  unfold Rise at hT hU
  rw [W8] at hT hU
  have htu:t=u:=by
   rcases Qv.1 ((h t).1 (by simp)) with e|e
   ·exact e
   ·rcases Qv.1 ((h u).2 (by simp)) with e'|e'
    ·exact e'.symm
    ·have h1:=hT.1 u e';have h2:=hU.1 t e
     omega
  subst htu
  congr 1
  refine Xga hT.2 hU.2 fun x=>⟨fun hx=>?_,fun hx=>?_⟩
  ·rcases Qv.1 ((h x).1 (Ql _ hx)) with e|e
   ·have:=hT.1 x hx;rw [e] at this;omega
   ·exact e
  ·rcases Qv.1 ((h x).2 (Ql _ hx)) with e|e
   ·have:=hU.1 x hx;rw [e] at this;omega
   ·exact e
def tmN(f:Int->Int) : Nat->List Tm
 | 0=>[]
 | n+1=>if 0<(n:Int)/\f n≠0 then tmN f n++[⟨n,f n⟩] else tmN f n
theorem Xeu(f:Int->Int) : ∀ N:Nat,Rise (tmN f N)/\∀ t:Tm,t ∈ tmN f N↔0<t.m/\t.m<(N:Int)/\t.c=f t.m/\f t.m≠0
 | 0=>⟨List.Pairwise.nil,fun t=>by simp [tmN];omega⟩
 | n+1=>by
  obtain ⟨h1,h2⟩:=Xeu f n
  unfold tmN
  by_cases hn:0<(n:Int)/\f n≠0
  ·rw [Q4 hn]
   refine ⟨?_,fun t=>?_⟩
   ·unfold Rise
    rw [List.pairwise_append]
    refine ⟨h1,List.pairwise_singleton _ _,fun x hx y hy=>?_⟩
    rw [Qm.1 hy]
    exact ((h2 x).1 hx).2.1
   ·rw [Qu,h2,Qm]
    constructor
    ·rintro (⟨a,b,c⟩|rfl)
     ·exact ⟨a,by omega,c⟩
     ·exact ⟨hn.1,by show (n:Int)<_;omega,rfl,hn.2⟩
    ·rintro ⟨a,b,c,d⟩
     by_cases e:t.m=n
     ·right
      obtain ⟨m,c'⟩:=t
      simp only at e c
      rw [c,e]
     ·left
      exact ⟨a,by omega,c,d⟩
  ·rw [Q3 hn]
   refine ⟨h1,fun t=>?_⟩
   rw [h2]
   constructor
   ·rintro ⟨a,b,c⟩;exact ⟨a,by omega,c⟩
   ·rintro ⟨a,b,c,d⟩
    refine ⟨a,?_,c,d⟩
    by_cases e:t.m=n
    ·rw [e] at a d;exact absurd ⟨a,d⟩ hn
    ·omega
@[irreducible] def tms (f:Int->Int) : List Tm:=tmN f 16777216
theorem Xlg(f:Int->Int) : IsT f (tms f):=by
 unfold tms
 exact ⟨(Xeu f 16777216).1,(Xeu f 16777216).2⟩
theorem IsT.eq{f:Int->Int}{T:List Tm}(h:IsT f T) : T=tms f:=Xga h.rise (Xlg f).rise fun t=>(h.mem t).trans ((Xlg f).mem t).symm
def oI(a b:Int) : Int:=bits .or .i64 a b
section
variable {P : Program} {a : Act} {w : World} {n : Nat} {e : Env} {ty : TypeId} {pos : String} {af : Array Edge} {g : Option (Nat × Bool)} {d : Option Tmp} {t t' : TypeId}
end
theorem Vx{P:Program}{o:Oper}{n:Nat}{e:List (Nat×Value)}{w:World}{k:IntKind}{a b:Int}(h:EvW P o n e w (.int k a))(e2:a=b) : EvW P o n e w (.int k b):=e2▸h
abbrev Sm:=Int×Int
def foldA(L:List Sm)(f:Int->Int) : Int->Int:=L.foldl (fun f p=>padd f p.1 p.2) f
def sumA(L:List Sm)(x:Int) : Int:=(L.map fun p=>if p.1=x then p.2 else 0).sum
theorem PO.foldA:∀ (L:List Sm) {f:Int->Int},PO f->PO (foldA L f)
 | [],_,h=>h
 | p::L,_,h=>PO.foldA L (h.padd p.1 p.2)
theorem X7q(p:Sm)(L:List Sm)(x:Int) : sumA (p::L) x=(if p.1=x then p.2 else 0)+sumA L x:=by simp [sumA]
theorem Xoa(f:Int->Int)(h:PO f)(m k x:Int) : padd f m k x=(f x+if m=x then k else 0) % 8:=by
 unfold padd upd
 by_cases e:x=m
 ·subst e;simp
 ·have:=h x
  rw [Q3 e,Q3 (Ne.symm e)];omega
theorem X78:∀ (L:List Sm) {f:Int->Int},PO f->∀ x,foldA L f x=(f x+sumA L x) % 8
 | [],f,h,x=>by
  have:=h x
  show f x=_
  simp [sumA];omega
 | p::L,f,h,x=>by
  show foldA L (padd f p.1 p.2) x=_
  rw [X78 L (h.padd p.1 p.2),Xoa f h,X7q]
  omega
structure TurnS (S:Nat->Prop) (w w':World) : Prop where
 os:w'.os=w.os
 tape:w'.tape=w.tape
 output:w'.output=w.output
 size:w.heap.size<=w'.heap.size
 block:∀ k,k<w.heap.size->¬ S k->w'.heap[k]? = w.heap[k]?
theorem TurnS.refl(S:Nat->Prop)(w:World) : TurnS S w w:=⟨rfl,rfl,rfl,Qb _,fun _ _ _=>rfl⟩
def ownB(A:Option Addr) : Option Nat:=(Value.slice A 0 0).ownBlock
theorem X4r(A:Option Addr)(n c:Nat) : (Value.slice A n c).ownBlock=ownB A:=Xfe A n 0 c 0
section
variable {S S' : Nat -> Prop} {w0 w w' : World} {b : Nat} {A : Option Addr} {n c : Nat}
theorem tsbel(h:TurnS S w0 w)(hE:Below w.heap.size w w') : TurnS S w0 w':=
 ⟨hE.os.trans h.os,hE.tape.trans h.tape,hE.output.trans h.output,Q0 h.size hE.size,fun k hk h1=>(hE.block k (Nat.lt_of_lt_of_le hk h.size)).trans (h.block k hk h1)⟩
theorem tsonly(h:TurnS S w0 w)(ho:Only b w w')(hb:S b∨w0.heap.size<=b) : TurnS S w0 w':=
 ⟨ho.os.trans h.os,ho.tape.trans h.tape,ho.output.trans h.output,by rw [ho.size];exact h.size,fun k hk h1=>(ho.block k (fun e=>by
  subst e
  rcases hb with hb|hb
  ·exact h1 hb
  ·omega)).trans (h.block k hk h1)⟩
theorem tsrow(h:TurnS S w0 w)(hg:w.grownBy w' (Value.slice A n c).ownBlock)(hs:∀ k,ownB A=some k->S k∨w0.heap.size<=k) : TurnS S w0 w':=
 ⟨hg.os.trans h.os,hg.tape.trans h.tape,hg.output.trans h.output,Q0 h.size hg.size,fun k hk h1=>(hg.block k (Nat.lt_of_lt_of_le hk h.size) (fun e=>by
  rw [X4r] at e
  rcases hs k e.symm with hb|hb
  ·exact h1 hb
  ·omega)).trans (h.block k hk h1)⟩
theorem tstr(h:TurnS S w0 w)(k:TurnS S' w w')(hs:∀ k,S' k->S k∨w0.heap.size<=k) : TurnS S w0 w':=
 ⟨k.os.trans h.os,k.tape.trans h.tape,k.output.trans h.output,Q0 h.size k.size,fun q hq h1=>(k.block q (Nat.lt_of_lt_of_le hq h.size) (fun e=>by
  rcases hs q e with hb|hb
  ·exact h1 hb
  ·omega)).trans (h.block q hq h1)⟩
theorem Below.ts{B:Nat}(h:Below B w0 w)(k:TurnS S w w')(hs:∀ k,S k->B<=k)(hB:B<=w.heap.size) : Below B w0 w':=
 h.trans ⟨k.os,k.tape,k.output,k.size,fun q hq=>k.block q (Nat.lt_of_lt_of_le hq hB) fun e=>by have:=hs q e;omega⟩
end
section
variable {α : Type} {w : World} {B0 : Nat} {E : TypeId} {enc : α -> List Value} {A : Option Addr} {l : List α} {sz c : Nat}
theorem X2h(h:Own w B0 E sz enc A c l){k:Nat}(hk:ownB A=some k) : B0<=k:=(h.block (k:=k) (by rw [X4r];exact hk)).1
theorem X0h(ho:Own w B0 E sz enc A c l)(hsz:∀ x,(enc x).length=sz){k:Nat}{u:α}(hk:l[k]? = some u)(j:Nat){m:Nat}(hm:k*sz+j=m) : At w (oA A m) ((enc u).drop j):=by
 subst hm
 rcases ho.2 with ⟨e1,e2⟩|⟨b,cap,cur,e1,e2,e3,e4,e5,e6,e7⟩
 ·have:l=[]:=List.eq_nil_of_length_eq_zero e2
  rw [this] at hk;cases hk
 ·injection e1 with e1 _ e1'
  obtain ⟨p,hp,h⟩:=Rd.at hsz ho.rd hk
  rw [e1] at hp ⊢
  injection hp with hp
  subst hp
  intro i v hv
  rw [List.getElem?_drop] at hv
  have h2:=h _ v hv
  show w.cell? ((⟨b,k*sz+j,none⟩ : Addr).add i)=_
  rw [X1f] at h2 ⊢
  rw [X1f] at h2
  rw [<- h2]
  congr 2
  omega
end
structure Ps where (ins vars root phase:Int) (ts:List Tm) (out:List Af)
structure Pst where (f:Int->Int) (v:Nat) (out:List Af)
def afZ:Af:=⟨0,0⟩
def aAt(l:List Af)(i:Int) : Af:=l.getD i.toNat afZ
def rotC(k:Int) : Int:=if k=4 then 4 else if k=5 then 2 else if k=6 then 6 else if k=7 then 1 else if k=8 then 7 else 0
def Mk(m:Int) : Prop:=0<=m/\m<16777216
def AO(a:Af) : Prop:=Mk a.m/\(a.t=0∨a.t=1)
theorem Mk.nat{m:Int}(h:Mk m) : ∃ x:Nat,x<2^24/\m=x:=⟨m.toNat,by have:=h.1;have:=h.2;omega,by have:=h.1;omega⟩
theorem Mk.of{x:Nat}(h:x<2^24) : Mk (x:Int):=⟨by omega,by omega⟩
theorem Xly{x:Nat}(h:x<2^24) : x<2^62:=Nat.lt_of_lt_of_le h (by decide)
theorem Mk.or{a b:Int}(ha:Mk a)(hb:Mk b) : Mk (oI a b):=by
 obtain ⟨x,hx,rfl⟩:=ha.nat;obtain ⟨y,hy,rfl⟩:=hb.nat
 unfold oI
 rw [Xih (Xly hx) (Xly hy)]
 exact Mk.of (Nat.or_lt_two_pow hx hy)
theorem Mk.zero:Mk 0:=⟨by omega,by omega⟩
theorem AO.z:AO afZ:=⟨Mk.zero,.inl rfl⟩
theorem AO.one:AO ⟨0,1⟩:=⟨Mk.zero,.inr rfl⟩
theorem AO.at{l:List Af}(h:∀ a ∈ l,AO a)(i:Int) : AO (aAt l i):=by
 unfold aAt
 rw [Qa]
 cases e:l[i.toNat]? with
 | none=>exact AO.z
 | some a=>exact h a (Qe e)
def drN(v x:Nat) : Nat:=x % 2^v+2^v*(x/2^(v+1))
theorem Xw9(v x:Nat) : drN v x<=x:=by
 unfold drN
 have h1:=Nat.div_add_mod x (2^v)
 have h2:x/2^(v+1)<=x/2^v:=by
  rw [Nat.pow_succ,<- Nat.div_div_eq_div_mul];exact Nat.div_le_self _ _
 have:=Nat.mul_le_mul_left (2^v) h2
 omega
def bitQ(v:Nat)(m:Int) : Bool:=m.toNat.testBit v
def drI(v:Nat)(m:Int) : Int:=((drN v m.toNat:Nat) : Int)
theorem Xe9(v x:Nat) : bitQ v (x:Int)=x.testBit v:=rfl
theorem Mk.dr{v:Nat}{m:Int}(h:Mk m) : Mk (drI v m):=by
 obtain ⟨x,hx,rfl⟩:=h.nat;exact Mk.of (Nat.lt_of_le_of_lt (Xw9 v x) hx)
section
variable {Q : Int -> Prop} (hq : ∀ a b, Q a -> Q b -> Q (oI a b)) (h0 : Q 0) {l : List Int} (hl : ∀ x ∈ l, Q x)
include h0 hl
include hq
end
section
variable {Q : Int -> Prop} {φ : Int -> Int} (hq : ∀ a b, Q a -> Q b -> Q (oI a b)) (hφ : ∀ a b, Q a -> Q b -> φ (oI a b) = oI (φ a) (φ b)) (h0 : Q 0) (hφ0 : φ 0 = 0) {l : List Int} (hl : ∀ x ∈ l, Q x)
include hφ0
include h0 hl hφ hq
end
def cPh(ph:Int) : Int->Int:=upd (fun _=>0) 0 ph
theorem PO.cPh{ph:Int}(h:0<=ph/\ph<8) : PO (cPh ph):=fun x=>by
 show 0<=upd _ 0 ph x/\upd _ 0 ph x<8
 unfold upd
 split
 ·exact h
 ·exact ⟨by show (0:Int)<=0;omega,by show (0:Int)<8;omega⟩
theorem X81{L:List Sm}{x:Int}(h:∀ p ∈ L,p.1≠x) : sumA L x=0:=by
 induction L with
 | nil=>rfl
 | cons p L ih=>rw [X7q,Q3 (h p (by simp)),ih fun q hq=>h q (Ql _ hq)];rfl
theorem Xqy{L:List Sm}{ph x:Int}(hph:0<=ph/\ph<8)(hx:x≠0)(h:foldA L (cPh ph) x≠0) : ∃ p ∈ L,p.1=x:=by
 refine Classical.byContradiction fun hn=>h ?_
 rw [X78 L (PO.cPh hph),X81 fun p hp e=>hn ⟨p,hp,e⟩]
 show (upd _ 0 ph x+0) % 8=0
 rw [Xl2 hx];rfl
def sm(ts:List Tm) : List Sm:=ts.map fun t=>(t.m,t.c)
structure OkT (ts:List Tm) : Prop where
 rise:Rise ts
 all:∀ t ∈ ts,0<t.m/\t.m<16777216/\0<t.c/\t.c<8
theorem Xdx:∀ {ts:List Tm},Rise ts->∀ t ∈ ts,sumA (sm ts) t.m=t.c
 | [],_,t,h=>by cases h
 | u::l,hr,t,h=>by
  unfold Rise at hr
  rw [W8] at hr
  show sumA ((u.m,u.c)::sm l) t.m=t.c
  rw [X7q]
  rcases Qv.1 h with e|h
  ·subst e
   rw [Q4 rfl,X81 fun p hp e=>?_]
   ·omega
   ·obtain ⟨q,hq,rfl⟩:=W6.1 hp
    have:=hr.1 q hq
    have e:q.m=t.m:=e
    omega
  ·have:=hr.1 t h
   rw [Q3 (by show ¬ u.m=t.m;omega),Xdx hr.2 t h];omega
theorem OkT.val{ts:List Tm}(h:OkT ts){ph:Int}(hph:0<=ph/\ph<8){t:Tm}(ht:t ∈ ts) : foldA (sm ts) (cPh ph) t.m=t.c:=by
 have h1:=h.all t ht
 rw [X78 _ (PO.cPh hph),Xdx h.rise t ht]
 unfold cPh
 rw [Xl2 (by omega)]
 omega
theorem OkT.tms{ts:List Tm}(h:OkT ts){ph:Int}(hph:0<=ph/\ph<8) : tms (foldA (sm ts) (cPh ph))=ts:=by
 refine (IsT.eq ⟨h.rise,fun t=>?_⟩).symm
 constructor
 ·intro ht;have h1:=h.all t ht;have h2:=h.val hph ht;exact ⟨h1.1,h1.2.1,h2.symm,by rw [h2];omega⟩
 ·rintro ⟨h1,h2,h3,h4⟩
  obtain ⟨p,hp,e⟩:=Xqy hph (by omega) h4
  obtain ⟨q,hq,rfl⟩:=W6.1 hp
  have e:q.m=t.m:=e
  have h5:=h.val hph hq
  rw [e,<- h3] at h5
  have:q=t:=by
   obtain ⟨a,b⟩:=q;obtain ⟨c,d⟩:=t
   simp only at e h5
   rw [e,h5]
  rw [<- this];exact hq
theorem Xk2{ts:List Tm}(h:∀ t ∈ ts,0<t.m) : sumA (sm ts) 0=0:=X81 fun p hp e=>by
 obtain ⟨q,hq,rfl⟩:=W6.1 hp
 have:=h q hq
 have e:q.m=0:=e
 omega
theorem OkT.zero{ts:List Tm}(h:OkT ts){ph:Int}(hph:0<=ph/\ph<8) : foldA (sm ts) (cPh ph) 0=ph:=by
 rw [X78 _ (PO.cPh hph),Xk2 fun t ht=>(h.all t ht).1]
 show (upd _ 0 ph 0+0) % 8=ph
 rw [Xvo];omega
theorem Xt1{x:Int}(h:-1000000000<=x/\x<=1000000000) : wr x=x:=IntWalk.i64_in _ ⟨by omega,by omega⟩
section
end
section
variable {n : Nat} {g : Gt}
theorem Xdt(h:gOk (n:Int) g=true) : 0<=g.a/\g.a.toNat<n:=by
 simp only [gOk,inR,Qd,Qr] at h
 obtain ⟨⟨h1,h2⟩,h3⟩:=h
 split at h3
 ·simp at h3;omega
 ·split at h3<;>simp at h3<;>omega
theorem Xdh(h:gOk (n:Int) g=true) : 0<=g.b/\g.b.toNat<n:=by
 simp only [gOk,inR,Qd,Qr] at h
 obtain ⟨⟨h1,h2⟩,h3⟩:=h
 split at h3
 ·simp at h3;omega
 ·split at h3<;>simp at h3<;>omega
end
section
variable {n : Nat} {ps : Pst} {g : Gt}
end
end Go.Proofs.YtpifljegadknkaaGreat
namespace Go.Proofs.YtpifljegadknkaaGreat
open Go.RowKit Go.Sort Go.Shelf Go.Lib
structure Mt where (v:Tm) (h:0<=v.m/\v.m<16777216)
instance:Inhabited Mt:=⟨⟨⟨0,0⟩,by decide,by decide⟩⟩
theorem X8s{α:Type}[Inhabited α]{enc:α->List Value}{k:Nat}(hk:∀ x,(enc x).length=k)(L:List α) : (flatK enc k L.toArray).toList=L.flatMap enc:=by
 apply List.ext_getElem?
 intro t
 by_cases h:t<L.length*k
 ·obtain ⟨x,h1,h2⟩:=X5j hk h
  have hk0:0<k:=by
   rcases Nat.eq_zero_or_pos k with e|e
   ·subst e;simp at h
   ·exact e
  have h3:t % k<(enc x).length:=by rw [hk];exact Nat.mod_lt _ hk0
  have h4:t/k<L.length:=(Qg.1 h1).1
  rw [h2,Array.getElem?_toList]
  have e1:L[t/k]! = x:=by rw [List.getElem!_eq_getElem?_getD,h1];rfl
  have e2:L[t/k]?.getD default=x:=by rw [h1];rfl
  simp [flatK,h,e2,h3]
 ·rw [List.getElem?_eq_none (by simp [flatK];omega),List.getElem?_eq_none (by rw [Xq hk];omega)]
theorem Xil{w:World}{g n:Nat}{os:Array Obj}{cur:Array Value}{e:TypeId}{fr:Nat×Nat}(d:Array Value)(hb:w.heap[g]? = some (.cells cur e fr)) :
  (grow (putRow id (Sort.ahead w n) g 0 d) os).heap[g]? = some (.cells (putCells id 0 d cur) e fr):=by
 have hg:g<w.heap.size:=(Qp.1 hb).1
 rw [heap_grow_old _ _ (by simpa using hg)]
 simp [putRow,mapBlock,Sort.ahead,Array.getElem?_modify,hb,onCells]
theorem Xej{w:World}{g n:Nat}{os:Array Obj}(d:Array Value) : w.grownBy (grow (putRow id (Sort.ahead w n) g 0 d) os) (some g):=by
 refine ⟨rfl,rfl,rfl,by simp,fun k hk hne=>?_⟩
 rw [heap_grow_old _ _ (by simpa using hk)]
 have:g≠k:=fun e=>hne (by rw [e])
 simp [putRow,mapBlock,Sort.ahead,Array.getElem?_modify,this]
theorem Xii(cur F:Array Value)(h:F.size<=cur.size) : (putCells id 0 F cur).toList.take F.size=F.toList:=by
 apply List.ext_getElem?
 intro j
 by_cases hj:j<F.size
 ·rw [Wg hj,Array.getElem?_toList,Array.getElem?_toList]
  simp [putCells,hj,show j<cur.size by omega]
 ·rw [List.getElem?_take_eq_none (by omega),List.getElem?_eq_none (by simp;omega)]
theorem Xvh{w:World}{g:Nat}{cur:Array Value}{e:TypeId}{F:Array Value}(hb:w.heap[g]? = some (.cells cur e (0,0)))(ht:cur.toList.take F.size=F.toList) : Holds id w g 0 F:=by
 intro j hj
 refine ⟨?_,by simp [World.frozen?,hb]⟩
 have h1:(cur.toList.take F.size)[j]? = F.toList[j]?:=by rw [ht]
 rw [Wg hj] at h1
 simp only [World.cell?,hb,Nat.zero_add]
 simp only [Option.isSome_none,Bool.false_eq_true,if_false]
 rw [<- Array.getElem?_toList,h1]
 simp [hj]
end Go.Proofs.YtpifljegadknkaaGreat
namespace Go.Proofs.YtpifljegadknkaaGreat
open Go.RowKit
theorem Xas{c:Cx}(h:cOk c=true) : ∃ n:Nat,c.n=(n:Int)/\1<=n/\n<=5:=by
 simp only [cOk,inR,Qd,Qr] at h
 exact ⟨c.n.toNat,by omega,by omega,by omega⟩
theorem Xoc{c:Cx}(h:cOk c=true) : c.gs.length<=400:=by
 simp only [cOk,inR,Qd,Qr] at h
 omega
theorem Xm7{c:Cx}{n i:Nat}{u:Gt}(h:cOk c=true)(hn:c.n=(n:Int))(hu:c.gs[i]? = some u) : gOk (n:Int) u=true:=by
 simp only [cOk,Qd] at h
 have h2:=h.2
 rw [Bool.not_eq_true',W7] at h2
 have:=h2 u (Qe hu)
 rw [<- hn]
 simpa using this
def tZ:Tm:=⟨0,0⟩
section
variable {f : Int -> Int} {m k : Int} {i : Nat}
end
theorem Y3a(x k:Nat) : (x:Int)/2^k=((x/2^k:Nat) : Int):=by
 rw [Int.natCast_ediv];simp
def szI(m:Int) : Nat:=(setN m.toNat).length
def okTa(n:Nat)(ts:List Tm)(i:Nat) : Bool:=
 inR (ts.getD i tZ).m 1 (((2^n:Nat) : Int)-1)&&decide (szI (ts.getD i tZ).m<=3)&&inR (ts.getD i tZ).c 1 7&&((ts.getD i tZ).c % ((2^(szI (ts.getD i tZ).m-1) : Nat) : Int)==0)&&(decide (i=0)||decide ((ts.getD (i-1) tZ).m<(ts.getD i tZ).m))
def okHd(p:Ps) : Bool:=inR p.ins 1 5&&inR p.vars 0 (24-p.ins)&&inR p.root (-60) 60&&inR p.phase 0 7&&decide ((p.out.length:Int)=p.ins)
def okAf(n:Nat)(a:Af) : Bool:=inR a.m 0 (((2^n:Nat) : Int)-1)&&inR a.t 0 1
def okTs(n:Nat)(ts:List Tm)(k:Nat) : Bool:=(List.range k).all (okTa n ts)
def validP(p:Ps) : Bool:=okHd p&&okTs (p.ins+p.vars).toNat p.ts p.ts.length&&p.out.all (okAf (p.ins+p.vars).toNat)
theorem Xym{n:Nat}(h:n<=24) : 1<=2^n/\2^n<=16777216:=⟨Nat.two_pow_pos n,Q0 (Nat.pow_le_pow_right (by decide) h) (by decide)⟩
theorem X9p{m:Nat}(h:m<=30) : wr (1*2^m)=((2^m:Nat) : Int):=Xof (by omega)
structure VPs (p:Ps) : Prop where
 ins:1<=p.ins/\p.ins<=5
 vars:0<=p.vars/\p.ins+p.vars<=24
 ph:0<=p.phase/\p.phase<8
 ts:OkT p.ts
 out:∀ a ∈ p.out,AO a/\a.m<((2^(p.ins+p.vars).toNat:Nat) : Int)
 tb:∀ t ∈ p.ts,t.m<((2^(p.ins+p.vars).toNat:Nat) : Int)
 sz:∀ t ∈ p.ts,szI t.m<=3
theorem VPs.of{p:Ps}(h:validP p=true) : VPs p:=by
 simp only [validP,okHd,Qd] at h
 obtain ⟨⟨⟨⟨⟨⟨h1,h2⟩,h3⟩,h4⟩,h5⟩,h6⟩,h7⟩:=h
 simp only [inR,Qd,Qr] at h1 h2 h3 h4
 have hn:=Xym (n:=(p.ins+p.vars).toNat) (by omega)
 have hT:∀ i,i<p.ts.length->(1<=(p.ts.getD i tZ).m/\(p.ts.getD i tZ).m<=((2^(p.ins+p.vars).toNat:Nat) : Int)-1)/\szI (p.ts.getD i tZ).m<=3/\(1<=(p.ts.getD i tZ).c/\(p.ts.getD i tZ).c<=7)/\(i=0∨(p.ts.getD (i-1) tZ).m<(p.ts.getD i tZ).m):=fun i hi=>by
  unfold okTs at h6
  have:=W1.1 h6 i (W2.2 hi)
  simp only [okTa,inR,Qd,Bool.or_eq_true,Qr] at this
  exact ⟨this.1.1.1.1,this.1.1.1.2,this.1.1.2,this.2⟩
 have hM:∀ t ∈ p.ts,(1<=t.m/\t.m<=((2^(p.ins+p.vars).toNat:Nat) : Int)-1)/\szI t.m<=3/\1<=t.c/\t.c<=7:=fun t ht=>by
  obtain ⟨i,hi,e⟩:=List.mem_iff_getElem.1 ht
  have:=hT i hi
  rw [show p.ts.getD i tZ=t from by rw [Qa,Qc hi,e];rfl] at this
  exact ⟨this.1,this.2.1,this.2.2.1⟩
 have hR:∀ j i,i<j->j<p.ts.length->(p.ts.getD i tZ).m<(p.ts.getD j tZ).m:=fun j=>by
  induction j with
  | zero=>intro i h;omega
  | succ j ih=>
   intro i hij hj;have h9:=(hT (j+1) hj).2.2.2
   rw [show j+1-1=j from rfl] at h9
   rcases h9 with h9|h9
   ·omega
   ·rcases W4 i j with h10|h10
    ·exact Int.lt_trans (ih i h10 (by omega)) h9
    ·rw [show i=j from by omega];exact h9
 refine ⟨h1,⟨h2.1,by omega⟩,⟨h4.1,by omega⟩,⟨?_,fun t ht=>?_⟩,fun a ha=>?_,fun t ht=>?_,fun t ht=>(hM t ht).2.1⟩
 ·unfold Rise
  rw [W0]
  intro i j hi hj hij
  have:=hR j i hij hj
  rw [Qa,Qa,Qc hi,Qc hj] at this
  exact this
 ·have:=hM t ht
  exact ⟨by omega,by omega,by omega,by omega⟩
 ·have:=W1.1 h7 a ha
  simp only [okAf,inR,Qd,Qr] at this
  exact ⟨⟨⟨this.1.1,by omega⟩,by omega⟩,by omega⟩
 ·have:=hM t ht
  omega
def bI(v:Nat)(m:Int) : Int:=if bitQ v m then 1 else 0
theorem Xre{m:Int}(h:Mk m)(v:Nat) : bits .and .i64 (m/2^v) 1=bI v m:=by
 obtain ⟨x,hx,rfl⟩:=h.nat
 have hd:x/2^v<2^62:=Nat.lt_of_le_of_lt (Nat.div_le_self _ _) (Xly hx)
 rw [Y3a,show (1:Int)=((1:Nat) : Int) from rfl,Xer hd (by decide),Nat.and_one_is_mod]
 unfold bI
 rw [Xe9,Nat.testBit_eq_decide_div_mod_eq]
 by_cases e:x/2^v % 2=1
 ·rw [decide_eq_true e,e];rfl
 ·rw [decide_eq_false e,show x/2^v % 2=0 from by omega];rfl
structure Ar where (c z:Int) (any pl:Bool)
def outB(y:Nat)(l:List Af) : Bool:=l.any fun a=>bitQ y a.m
section
end
section
end
theorem X5l{P:Program}{fn:Func}{a:Act}{w:World}{n:Nat}{e:Env}{r1 r2 r3 r4:ResultVar}{v1 v2 v3 v4:Value}(hf:Fr a n e)(hr:fn.results = #[r1,r2,r3,r4])(h1:ResV P w e r1 v1)(h2:ResV P w e r2 v2)(h3:ResV P w e r3 v3)(h4:ResV P w e r4 v4) : (results fn a.tmps).run P w=.ok (.tuple #[v1,v2,v3,v4]) w:=by
 obtain ⟨f,f1,f2,h0⟩:=X52 fn a.tmps;have h1:=h1.run hf f1 f2;have h2:=h2.run hf f1 f2;have h3:=h3.run hf f1 f2;have h4:=h4.run hf f1 f2
 rw [h0,hr]
 simp [h1,h2,h3,h4]
section
variable {P : Program} {a : Act} {w : World} {n : Nat} {e : Env} {ty : TypeId} {pos : String} {af : Array Edge} {g : Option (Nat × Bool)} {d : Option Tmp} {t t' : TypeId} {x y : Operand} {i j : Int}
theorem Xq6{T E:TypeId}{len k:Nat}{vs:List Value}{v:Value}(hf:Fr a n e)(hx:ev e x=some (.agg vs.toArray))(hy:ev e y=some (.int .i64 i))(hT:P.underlying T=some (.array len E))(hs:SizeT P E 1)(h1:OneT P E)(hi:i=(k:Int))(hk:k<len)(hv:vs[k]? = some v) : Ev P ⟨d,.index T x y,ty,pos,af,g⟩ a w v:=fun w' _=>by
 subst hi
 have h4:=X0j (P:=P) hT w';have h5:=run_sizeOf' hs w';have h6:=X48 (P:=P) (w:=w') h1
 simp [execOp,hf.ev hx,hf.ev hy,Instr.index,asIntOf,h4,h5,h6,part,hk,hv]
theorem Y19{T E:TypeId}{len k:Nat}{vs:List Value}{v:Value}(hx:ev e x=some (.agg vs.toArray))(hy:ev e y=some (.int .i64 i))(hT:P.underlying T=some (.array len E))(hs:SizeT P E 1)(h1:OneT P E)(hi:i=(k:Int))(hk:k<len)(hv:vs[k]? = some v) : EvW P ⟨d,.index T x y,ty,pos,af,g⟩ n e w v:=fun a hf=>Xq6 hf hx hy hT hs h1 hi hk hv
end
section
variable {j : Nat} {s : Ar} {u : Tm}
end
section
variable {ins : Int} {s : Ar} (hp : s.pl = true)
include hp
end
section
end
section
end
def Cg(x y:Int) : Prop:=∃ q:Int,x=y+8*q
theorem Cg.refl(x:Int) : Cg x x:=⟨0,by omega⟩
theorem Cg.of{x y:Int}(h:x=y) : Cg x y:=⟨0,by omega⟩
theorem Cg.symm{x y:Int}(h:Cg x y) : Cg y x:=by obtain ⟨q,h⟩:=h;exact ⟨-q,by omega⟩
theorem Cg.trans{x y z:Int}(h:Cg x y)(k:Cg y z) : Cg x z:=by obtain ⟨q,h⟩:=h;obtain ⟨r,k⟩:=k;exact ⟨q+r,by omega⟩
theorem Cg.add{x y z w:Int}(h:Cg x y)(k:Cg z w) : Cg (x+z) (y+w):=by obtain ⟨q,h⟩:=h;obtain ⟨r,k⟩:=k;exact ⟨q+r,by omega⟩
theorem Cg.mod(x:Int) : Cg (x % 8) x:=⟨-(x/8),by omega⟩
theorem Cg.mul{x y:Int}(k:Int)(h:Cg x y) : Cg (k*x) (k*y):=by
 obtain ⟨q,h⟩:=h;exact ⟨k*q,by rw [h,Int.mul_add,Int.mul_left_comm]⟩
def omZ(k:Int) : Rg:=om^(k % 8).toNat
theorem X31{x y:Int}(h:Cg x y) : omZ x=omZ y:=by
 obtain ⟨q,h⟩:=h
 unfold omZ
 rw [show x % 8=y % 8 from by omega]
theorem X1d(x y:Int) : omZ (x+y)=omZ x*omZ y:=by
 unfold omZ
 rw [<- X2y,Xi1 ((x % 8).toNat+(y % 8).toNat)]
 congr 1
 omega
theorem X35:omZ 0=1:=rfl
def subI(a:Nat->Bool)(m:Int) : Int:=if (List.range 62).all (fun i=>!m.toNat.testBit i||a i) then 1 else 0
theorem sub_zero(a:Nat->Bool) : subI a 0=1:=by
 unfold subI
 rw [Q4]
 rw [W1]
 intro i _
 simp
def T2:Nat->Nat
 | 0=>0
 | c+1=>T2 c+c
def Wl(l:List Int) : Prop:=∀ x ∈ l,∃ n:Nat,n<2^62/\x=(n:Int)
theorem Wl.at{l:List Int}(h:Wl l)(n:Nat) : ∃ k:Nat,k<2^62/\l.getD n 0=(k:Int):=by
 rw [Qa]
 cases e:l[n]? with
 | none=>exact ⟨0,by decide,rfl⟩
 | some x=>exact h x (Qe e)
section
variable {a : Nat -> Bool} {l : List Int} (hl : Wl l) {k : Int}
include hl
end
def upB(a:Nat->Bool)(i:Nat)(b:Bool) : Nat->Bool:=fun j=>if j=i then b else a j
def lift(v:Nat)(a:Nat->Bool)(b:Bool) : Nat->Bool:=fun i=>if i<v then a i else if i=v then b else a (i-1)
theorem Xql(b:Int)(hb:b=0∨b=1) : 1+omZ (2+4*b)=s2*omZ (1+6*b)/\1+omZ (6+4*b)=s2*omZ (7+2*b):=by
 rcases hb with rfl|rfl<;>decide
section
variable {p : Ps} {y : Nat} (h : VPs p) (hy : p.ins.toNat <= y /\ y < p.ins.toNat + p.vars.toNat) (ho : outB y p.out = false)
include h hy ho
end
section
end
def rZ:Rg:=⟨0,0,0,0⟩
def sclI(z:Rg)(e:Int) : Option Dy:=if z=rZ then some dZ else if (raiseI (-e).toNat z).2&&dOk (dLow (raiseI (-e).toNat z).1 (max e 0)) then some (dLow (raiseI (-e).toNat z).1 (max e 0)) else none
def sm4(z:Rg)(n:Int) : Prop:=(-n<=z.a/\z.a<=n)/\(-n<=z.b/\z.b<=n)/\(-n<=z.c/\z.c<=n)/\(-n<=z.d/\z.d<=n)
theorem Xiq(k:Int) : sm4 (omZ k) 1:=by
 unfold omZ
 have hm:(k % 8).toNat<8:=by omega
 revert hm
 generalize (k % 8).toNat=m
 intro hm
 have:m=0∨m=1∨m=2∨m=3∨m=4∨m=5∨m=6∨m=7:=by omega
 unfold sm4
 rcases this with rfl|rfl|rfl|rfl|rfl|rfl|rfl|rfl<;>decide
theorem Xmz{f:Nat->Rg}(h:∀ k,sm4 (f k) 1) : ∀ n:Nat,sm4 (sumN f n) (n:Int)
 | 0=>by show sm4 (0:Rg) 0;unfold sm4;decide
 | n+1=>by
  have h1:=Xmz h n;have h2:=h n
  unfold sm4 at *
  have ea:(sumN f (n+1)).a=(sumN f n).a+(f n).a:=rfl
  have eb:(sumN f (n+1)).b=(sumN f n).b+(f n).b:=rfl
  have ec:(sumN f (n+1)).c=(sumN f n).c+(f n).c:=rfl
  have ed:(sumN f (n+1)).d=(sumN f n).d+(f n).d:=rfl
  rw [ea,eb,ec,ed]
  omega
theorem Xfo{z:Rg}{e:Int}{d:Dy}(hz:rOk z=true)(h:sclI z e=some d) : V d e.toNat (s2^(-e).toNat*z)/\dOk d=true:=by
 unfold sclI at h
 split at h
 ·rename_i h0
  injection h with h
  subst h0 h
  have:s2^(-e).toNat*rZ=0:=X1c _
  rw [this]
  exact ⟨Xvf _,by decide⟩
 ·split at h
  ·rename_i h1
   injection h with h
   simp only [Qd] at h1
   obtain ⟨e1,e2⟩:=Xdp _ _ hz h1.1
   have hv:=Xuf (e:=max e 0) e2 (by omega)
   rw [h] at hv h1
   rw [e1,show (max e 0).toNat=e.toNat from by omega] at hv
   exact ⟨hv,h1.2⟩
  ·cases h
theorem Xu1{p q:Mx}{R C:Nat}(hr:p.rows=(R:Int))(hr2:q.rows=(R:Int))(hc:p.cols=(C:Int))(hc2:q.cols=(C:Int))(hp:p.cells.length=R*C)(hq:q.cells.length=R*C)(h:∀ i j,i<R->j<C->p.at i j=q.at i j) : p=q:=by
 obtain ⟨pr,pc,pl⟩:=p;obtain ⟨qr,qc,ql⟩:=q
 simp only at hr hr2 hc hc2 hp hq
 subst hr hc hr2 hc2
 congr 1
 apply List.ext_getElem
 ·omega
 ·intro m h1 h2
  have hC:0<C:=by
   rcases Nat.eq_zero_or_pos C with e|e
   ·rw [e,Nat.mul_zero] at hp;omega
   ·exact e
  have h3:=h (m/C) (m % C) (Nat.div_lt_of_lt_mul (by rw [Wi];omega)) (Nat.mod_lt _ hC)
  unfold Mx.at at h3
  simp only [Qj] at h3
  rw [show m/C*C+m % C=m from by rw [Wi];exact Nat.div_add_mod m _] at h3
  rw [Qa,Qa,Qc h1,Qc h2] at h3
  exact h3
section
end
structure Oc where f:Nat->Int
theorem Xw7:ZeroT Tryz.prog 156 (.agg #[.int .i64 0,.int .i64 0,.int .i64 0,.int .i64 0,.int .i64 0,.int .i64 0,.int .i64 0,.int .i64 0]):=X1t (by kernel_rfl)
def Oc.put(u:Oc)(j:Nat)(v:Int) : Oc:=⟨fun i=>if i=j then v else u.f i⟩
section
variable {P : Program} {a : Act} {w : World} {n : Nat} {e : Env} {ty : TypeId} {pos : String} {af : Array Edge} {g : Option (Nat × Bool)} {d : Option Tmp}
end
def oSum(u:Oc) : Rg:=⟨u.f 0-u.f 4,u.f 1-u.f 5,u.f 2-u.f 6,u.f 3-u.f 7⟩
theorem Xjy:Tryz.prog.eqGuardType Tryz.prog.depth 94=false:=by kernel_rfl
theorem Xpr(x:Rg)(l:List Rg) : rOk (rIf1 x l)=true:=by
 unfold rIf1
 split
 ·rename_i h
  unfold rIf2 at h
  rw [List.all_append,Qd] at h
  simpa using h.2
 ·decide
theorem Xnm{z y:Rg}{m j:Int}{b:Bool}(h:(if b=true then raiseI (-j).toNat y else (y,false))=raiseI (-m).toNat z)(hb:b=true)(hj:j<0) :
  (if rIf2 (rRoot y) [y]=true then raiseI (-(j+1)).toNat (rIf1 (rRoot y) [y]) else (rIf1 (rRoot y) [y],false))=raiseI (-m).toNat z:=by
 rw [<- h,Q4 hb]
 obtain ⟨k,hk⟩ : ∃ k,(-j).toNat=k+1:=⟨(-j).toNat-1,by omega⟩
 rw [hk,show (-(j+1)).toNat=k from by omega]
 unfold rIf1
 by_cases hh:rIf2 (rRoot y) [y]=true<;>simp [raiseI,hh]
theorem Xsb{z:Rg}{m:Int}(h:z=rZ) : sclI z m=some dZ:=by unfold sclI;rw [Q4 h]
section
variable {z x y : Rg} {m i j : Int} {b : Bool} (hz0 : ¬ z = rZ) (h : (if b = true then raiseI (-j).toNat y else (y, false)) = raiseI (-m).toNat z) (hjb : b = true -> 0 <= j)
variable (hjm : -60 <= j /\ j <= 60 /\ (j = m ∨ m < 0 /\ j <= 0)) (hin : dLow x i = dLow y j) (hst : dLow x i = ⟨x, i⟩)
include hz0 h hjb hjm hin hst
end
theorem Y33{n k:Int}(hn:1<=n/\n<=5)(hk:k=12) : gOk n ⟨k,0,0⟩=true:=by
 subst hk
 simp only [gOk,Qd,X0x]
 exact ⟨⟨hn,by omega⟩,rfl⟩
theorem Y4e{n:Int}(hn:1<=n/\n<=5) : gOk n ⟨1,0,0⟩=true:=by
 simp only [gOk,Qd,X0x]
 refine ⟨⟨hn,by omega⟩,?_⟩
 rw [Q3 (by decide),Q3 (by decide)]
 simp only [Qd,X0x]
 exact ⟨by omega,rfl⟩
theorem Y37{n k a:Int}(hn:1<=n/\n<=5)(hk:1<=k/\k<=12)(h12:¬ k=12)(h9:inR k 9 11=false)(ha:0<=a/\(a=0∨a<n)) : gOk n ⟨k,a,0⟩=true:=by
 simp only [gOk,Qd,X0x]
 refine ⟨⟨hn,hk⟩,?_⟩
 rw [Q3 h12,Q3 (fun h=>by rw [<- X0x,h9] at h;cases h)]
 simp only [Qd,X0x]
 exact ⟨by omega,rfl⟩
theorem Y3j{n k a b:Int}(hn:1<=n/\n<=5)(hk:1<=k/\k<=12)(h12:¬ k=12)(h9:inR k 9 11=true)(h1:¬ n=1)(ha:0<=a/\(a=0∨a<n))(hb:0<=b/\(b=0∨b<n-1)) : gOk n ⟨k,a,(a+1+b).tmod n⟩=true:=by
 have e:(a+1+b).tmod n=if a+1+b<n then a+1+b else a+1+b-n:=by
  rw [Int.tmod_eq_emod_of_nonneg (by omega)]
  split
  ·exact Int.emod_eq_of_lt (by omega) (by omega)
  ·rw [<- Int.sub_emod_right]
   exact Int.emod_eq_of_lt (by omega) (by omega)
 simp only [gOk,Qd,X0x]
 refine ⟨⟨hn,hk⟩,?_⟩
 rw [Q3 h12,Q4 (X0x.1 h9)]
 simp only [Qd,X0x,bne_iff_ne,ne_eq]
 rw [e]
 split<;>omega
theorem Xij{n:Int}{l:List Gt}{g:Gt}(h:∀ x ∈ l,gOk n x=true)(hg:gOk n g=true) : ∀ x ∈ l++[g],gOk n x=true:=fun x hx=>by
 rcases Qu.1 hx with hx|hx
 ·exact h x hx
 ·rw [Qm.1 hx];exact hg
theorem Y0m(w0:World)(bV:Nat){b2:TypeId}(L:Option Addr)(Q:Nat)(q:List Int)(b:Rd w0 w0.heap.size b2 encU L q)(aA:∀ x ∈ q,0<=x/\x<=255)(U:AwayR q L bV)(t:Nat)(sd:Int)(c:Blk w0 bV 103 [.slice L q.length Q,vi (t:Int),.int .u64 sd])(n:Int)(Al:Option Addr)(cl:Nat)(l:List Int)(B:Rd w0 w0.heap.size 3 encI Al l)(hn:1<=n/\n<=5)(aF:∀ k ∈ l,1<=k/\k<=12)(bC:0<l.length)(bD:l.length<=1000)(ht:t+6<=100000000) : Ret Tryz.prog 200 [(pZ9 bV),vi n,.slice Al l.length cl] w0 (fun v w=>∃ (x:Gt) (t1:Nat) (s1:Int),v=gV x/\(gOk n x=true)/\(t<=t1/\t1<=t+6)/\Kept bV w0.heap.size w0 w/\Blk w bV 103 [.slice L q.length Q,vi (t1:Int),.int .u64 s1]):=by
 have bB:=c.lt;refine enter Tryz.func200 rfl 42 rfl rfl ?_;intro a o
 have i:Kept bV w0.heap.size w0 w0:=Kept.refl _ _ _
 refine Zs o fun _ b3=>?_;refine Zf (Xo (zs:=[vi 0,vi 0,vi 0]) Xmv rfl) ?_;rintro _ w1 ⟨b4,rfl,aG,p,d⟩;have M:=Q0 i.size aG;have aZ:=b.away aG;have c:=c.bw p;have b:=b.bw p;have B:=B.bw p;have i:=ktr i p;refine Zx b3 fun a o _ b5=>?_;refine Zm rfl<|Zm rfl<|Zm rfl<|Ze (X0c rfl Xj)<|Zf (Vc (X15 _ bV L Q q b.top aA U t sd c (l.length:Int) (by omega)) X0i) ?_;rintro _ w2 ⟨f,aH,aI,rfl,b6,b7,hK,C⟩;obtain ⟨wm,J,hm,p⟩:=hK.mid;clear hm;have e:=c;have d:=d.oz J e rfl;have b:=b.onlyA J U;have B:=B.oT J e rfl;have i:=i.self J;have d:=d.bw p;have b:=b.bw p;have B:=B.bw p;have i:=ktr i p
 clear e p J hK;have c:=C;clear C;refine Zi (k:=f.toNat) (u:=(l.getD f.toNat 0)) (enc:=encI) (l:=l) tv0 rfl rfl Xj X09 X9 B (X74 (by omega)) (by omega) ?_;intro p7 aJ;refine Ze (X0 rfl X7 aJ)<|Ze (X0e (ps:=[(0,vi (l.getD f.toNat 0))]) (cs:=[vi (l.getD f.toNat 0),vi 0,vi 0]) rfl (fun _=>by first|rfl|kernel_rfl))<|Zf (Xo (zs:=[vi 0,vi 0,vi 0]) Xmv rfl) ?_;rintro _ w3 ⟨b8,rfl,aK,p,g⟩
 have b0:b4≠b8:=by have:=d.lt;omega
 have D:=Q0 i.size aK;have b1:=b.away aK;have c:=c.bw p;have d:=d.bw p;have b:=b.bw p;have i:=ktr i p;refine Zo (Vw [vi (l.getD f.toNat 0),vi 0,vi 0] X6k g) ?_;rintro _ w4 ⟨A,N⟩;have e:=g;have c:=c.oz A e rfl;have d:=d.oy A (by omega);have b:=b.oy A D;have i:=Kept.oy i A D;have g:=N;refine ZX b5 fun a o _ b9=>?_;refine Zs o fun _ aL=>?_;refine Ze (Vd rfl X7i 0)<|Ze (X0 rfl X7 (g.at 0))<|Ze (X0m rfl rfl)<|Zt aL fun a o=>?_
 refine Xi o rfl (fun E=>?_) (fun E=>?_)
 ·have aB:=E
  have a7:l.getD f.toNat 0=12:=by have:=E;simpa using this
  refine Zs o fun _ aM=>?_;refine Ze (Vn X4z g)<|Zo (Vw [vi (l.getD f.toNat 0),vi 0,vi 0] X6k d) ?_;rintro _ w5 ⟨A,N⟩;have e:=d;have c:=c.oz A e rfl;have i:=Kept.oy i A M;have d:=N;refine Zt aM fun a o=>?_;refine Q6<|Xa<|X6 o (Xu o rfl (ResV.cellN (l:=[vi (l.getD f.toNat 0),vi 0,vi 0]) rfl X4z (d.at 0) rfl)) ?_;exact ⟨⟨_,_,_⟩,_,_,rfl,Y33 hn a7,⟨by omega,by omega⟩,i,c⟩
 have aB:=E
 have a7:¬ l.getD f.toNat 0=12:=by have:=E;simpa using this
 have aN:=aF (l.getD f.toNat 0) (Xap (by omega))
 refine Q7<|b9 _ _<|Zs o fun _ aO=>?_;refine Zm rfl<|Zm rfl<|Zf (Vc (X15 _ bV L Q q b.top aA U aH aI c n (by omega)) X0i) ?_;rintro _ w6 ⟨m,aP,aQ,rfl,W,bA,hK,C⟩;obtain ⟨wm,J,hm,p⟩:=hK.mid;clear hm;have e:=c;have d:=d.oz J e rfl;have g:=g.oz J e rfl;have b:=b.onlyA J U;have i:=i.self J;have d:=d.bw p;have g:=g.bw p;have b:=b.bw p;have i:=ktr i p
 clear e p J hK;have c:=C;clear C;refine Ze (Vd rfl X1j 1)<|Zo (Vu (vs:=[vi m]) (l':=[vi (l.getD f.toNat 0),vi m,vi 0]) rfl rfl X09 g) ?_;rintro _ w7 ⟨A,N⟩;have e:=g;have c:=c.oz A e rfl;have d:=d.oy A (by omega);have b:=b.oy A D;have i:=Kept.oy i A D;have g:=N;refine ZX aO fun a o _ a8=>?_;refine Zs o fun _ aR=>?_;refine Ze (Vd rfl X7i 0)<|Ze (X0 rfl X7 (g.at 0))<|Zf (Vc (F85 _ (l.getD f.toNat 0) 9 11) X6a) ?_;rintro _ _ ⟨rfl,rfl⟩;refine Zt aR fun a o=>?_
 refine Xi o rfl (fun G=>?_) (fun G=>?_)
 ·have aC:=G
  have h9:inR (l.getD f.toNat 0) 9 11=true:=G
  refine Q5 fun _ aS=>?_;refine Zs o fun _ aT=>?_;refine Zm rfl<|Ze (X0m rfl rfl)<|Zt aT fun a o=>?_
  refine Xi o rfl (fun H=>?_) (fun H=>?_)
  ·have aD:=H
   have h1:n=1:=by have:=H;simpa using this
   refine Zs o fun _ aU=>?_;refine Ze (X0e (ps:=[(0,vi 1)]) (cs:=[vi 1,vi 0,vi 0]) rfl (fun _=>by first|rfl|kernel_rfl))<|Zo (Vw [vi 1,vi 0,vi 0] X6k d) ?_;rintro _ w8 ⟨A,N⟩;have e:=d;have c:=c.oz A e rfl;have i:=Kept.oy i A M;have d:=N;refine Zt aU fun a o=>?_;refine Q6<|Xa<|Xa<|X6 o (Xu o rfl (ResV.cellN (l:=[vi 1,vi 0,vi 0]) rfl X4z (d.at 0) rfl)) ?_;exact ⟨⟨_,_,_⟩,_,_,rfl,Y4e hn,⟨by omega,by omega⟩,i,c⟩
  have aD:=H
  have h1:¬ n=1:=by have:=H;simpa using this
  refine Q7<|aS _ _<|X00 (some bV) (fun j=>[11].contains j) mixed ?_;intro w9 p;have c:=c.bw p;have d:=d.bw p;have g:=g.bw p;have b:=b.bw p;have i:=ktr i p;refine Yb o<|Yo 0 rfl (fun _=>Vd rfl X1j 1) ?_;refine Yw 1 rfl tv0 (fun w1 h1=>X0 rfl X7 ((g.oz h1 c rfl).at 1)) ?_;refine Yo 2 rfl (fun _=>Xm rfl rfl (by omega) (by omega))<|Yo 3 rfl (fun _=>X3 rfl)<|Yo 4 rfl (fun _=>X3 rfl)<|Yo 5 rfl (fun _=>X11 rfl rfl (by omega) (by omega))<|Yo 8 rfl (fun _=>X3 rfl)<|Y1 6 ?_;refine Yf rfl tv0 (EfW.mono (Vc (X15 _ bV L Q q b.top aA U aP aQ c (n-1) (by omega)) X0i) (fun _ _ h=>⟨fun _=>by obtain ⟨I,aV,aW,rfl,a6,aE,hK,C⟩:=h;exact hK.keep,h⟩)) ?_;rintro _ bE ⟨I,aV,aW,rfl,a6,aE,hK,C⟩;obtain ⟨wm,J,hm,p⟩:=hK.mid;clear hm;have e:=c;have d:=d.oz J e rfl;have g:=g.oz J e rfl;have i:=i.self J;have d:=d.bw p;have g:=g.bw p;have i:=ktr i p
  clear e p J hK;have c:=C;clear C;refine Yo 7 rfl (fun _=>Xm rfl rfl (by omega) (by omega))<|Yo 9 rfl (fun _=>X33 rfl rfl (by simp;omega))<|Yo 10 rfl (fun _=>Vd rfl X30 2)<|Y1 11 ?_;refine Yh rfl tv0 rfl (Vu (vs:=[vi (((m+1)+I).tmod n)]) (l':=[vi (l.getD f.toNat 0),vi m,vi (((m+1)+I).tmod n)]) rfl rfl X09 g) ?_;rintro _ bF ⟨A,N⟩;have e:=g;have c:=c.oz A e rfl;have d:=d.oy A (by omega);have i:=Kept.oy i A D;have g:=N;refine Yd fun a o=>?_;refine a8 _ _<|Zs o fun _ aX=>?_;refine Ze (Vn X4z g)<|Zo (Vw [vi (l.getD f.toNat 0),vi m,vi (((m+1)+I).tmod n)] X6k d) ?_;rintro _ bG ⟨A,N⟩;have e:=d;have c:=c.oz A e rfl;have i:=Kept.oy i A M;have d:=N;refine Zt aX fun a o=>?_
  refine Q6 (X6 o (Xu o rfl (ResV.cellN (l:=[vi (l.getD f.toNat 0),vi m,vi (((m+1)+I).tmod n)]) rfl X4z (d.at 0) rfl)) ?_)
  exact ⟨⟨_,_,_⟩,_,_,rfl,Y3j hn aN a7 h9 h1 W a6,⟨by omega,by omega⟩,i,c⟩
 have aC:=G
 have h9:inR (l.getD f.toNat 0) 9 11=false:=G
 refine Q7<|a8 _ _<|Zs o fun _ aY=>?_;refine Ze (Vn X4z g)<|Zo (Vw [vi (l.getD f.toNat 0),vi m,vi 0] X6k d) ?_;rintro _ bH ⟨A,N⟩;have e:=d;have c:=c.oz A e rfl;have i:=Kept.oy i A M;have d:=N;refine Zt aY fun a o=>?_
 refine Q6 (X6 o (Xu o rfl (ResV.cellN (l:=[vi (l.getD f.toNat 0),vi m,vi 0]) rfl X4z (d.at 0) rfl)) ?_)
 exact ⟨⟨_,_,_⟩,_,_,rfl,Y37 hn aN a7 h9 W,⟨by omega,by omega⟩,i,c⟩
theorem Xyl(w0:World)(bV:Nat){aK:TypeId}(I:Option Addr)(a6:Nat)(D:List Int)(d:Rd w0 w0.heap.size aK encU I D)(aL:∀ x ∈ D,0<=x/\x<=255)(aC:AwayR D I bV)(t:Nat)(sd:Int)(i:Blk w0 bV 103 [.slice I D.length a6,vi (t:Int),.int .u64 sd])(n:Int)(most:Int)(Al:Option Addr)(cl:Nat)(l:List Int)(f:Rd w0 w0.heap.size 3 encI Al l)(hn:1<=n/\n<=5)(aM:∀ k ∈ l,1<=k/\k<=12)(hm:0<=most/\most<=1000)(b6:0<l.length)(b7:l.length<=1000)(ht:t+(2+6*most.toNat)<=100000000) : Ret Tryz.prog 168 [(pZ9 bV),vi n,vi most,.slice Al l.length cl] w0 (fun v w=>∃ (c:Cx) (A:Option Addr) (e:Nat) (t1:Nat) (s1:Int),v=.agg #[vi c.n,.slice A c.gs.length e]/\(c.n=n/\(c.gs.length:Int)<=most/\∀ g ∈ c.gs,gOk n g=true)/\(t<=t1/\t1<=t+(2+6*most.toNat))/\Own w w0.heap.size 123 3 encG A e c.gs/\Kept bV w0.heap.size w0 w/\Blk w bV 103 [.slice I D.length a6,vi (t1:Int),.int .u64 s1]):=by
 have bE:=i.lt;refine enter Tryz.func168 rfl 31 rfl rfl ?_;intro a H
 have C:Kept bV w0.heap.size w0 w0:=Kept.refl _ _ _
 refine Zs H fun _ b8=>?_;refine Zf (Xo (zs:=[vi 0,.slice none 0 0]) Y0u rfl) ?_;rintro _ w1 ⟨b5,rfl,aN,u,o⟩;have aO:=Q0 C.size aN;have b2:=d.away aN;have i:=i.bw u;have d:=d.bw u;have f:=f.bw u;have C:=ktr C u;refine Zx b8 fun a H _ bA=>?_;refine Zm rfl<|Ze (X0e (ps:=[(0,vi n)]) (cs:=[vi n,.slice none 0 0]) rfl (fun _=>by first|rfl|kernel_rfl))<|Zf (Xo (zs:=[vi 0,.slice none 0 0]) Y0u rfl) ?_;rintro _ w2 ⟨b9,rfl,aP,u,p⟩
 have b3:b5≠b9:=by have:=o.lt;omega
 have L:=Q0 C.size aP;have b4:=d.away aP;have i:=i.bw u;have o:=o.bw u;have d:=d.bw u;have f:=f.bw u;have C:=ktr C u;refine Zo (Vw [vi n,.slice none 0 0] Xsf p) ?_;rintro _ w3 ⟨J,hb⟩;have m:=p;have i:=i.oz J m rfl;have o:=o.oy J (by omega);have d:=d.oy J L;have f:=f.oT J m rfl;have C:=Kept.oy C J L;have p:=hb;refine ZX bA fun a H _ aQ=>?_;refine Zs H fun _ aR=>?_;refine Zm rfl<|Zm rfl<|Ze (Xm rfl rfl (by omega) (by omega))<|Zf (Vc (X15 _ bV I a6 D d.top aL aC t sd i (most+1) (by omega)) X0i) ?_;rintro _ w4 ⟨aS,aT,aU,rfl,bB,bC,hK,N⟩;obtain ⟨wm,M,hm,u⟩:=hK.mid;clear hm;have m:=i;have o:=o.oz M m rfl;have p:=p.oz M m rfl;have d:=d.onlyA M aC;have f:=f.oT M m rfl;have C:=C.self M;have o:=o.bw u;have p:=p.bw u;have d:=d.bw u;have f:=f.bw u;have C:=ktr C u
 clear m u M hK;have i:=N;clear N;refine Za rfl<|Zt aR fun a H=>?_;refine Q8<|X04 (σ:=Int×(List Gt)×Nat×Int) (fun (s:Int×(List Gt)×Nat×Int) (a:Act) (w:World)=>match s with|(j,gs,t2,s2)=>∃ Q U,Fr a 31 [(0,(pZ9 bV)),(1,vi n),(3,.slice Al l.length cl),(8,(pZ9 b5)),(9,(pZ9 b9)),(10,vi j)]/\(0<=j/\j+gs.length<=most)/\(t<=t2/\t2+6*j.toNat<=t+(2+6*most.toNat))/\(∀ g ∈ gs,gOk n g=true)/\Blk w bV 103 [.slice I D.length a6,vi (t2:Int),.int .u64 s2]/\Blk w b5 30 [vi 0,.slice none 0 0]/\Blk w b9 30 [vi n,.slice Q gs.length U]/\Rd w w0.heap.size aK encU I D/\Rd w w0.heap.size 3 encI Al l/\Own w w0.heap.size 123 3 encG Q U gs/\Kept bV w0.heap.size w0 w) (fun (s:Int×(List Gt)×Nat×Int)=>match s with|(j,gs,t2,s2)=>j.toNat) (aS,[],aT,aU) ?_ ?_
 ·exact ⟨none,0,H.sb,(by simp;omega),(by omega),(by simp),i,o,p,d,f,(Own.nil _ _ _ _ _),C⟩
 rintro ⟨j,gs,t2,s2⟩ a w5 ⟨Q,U,H,hj,bF,aV,i,o,p,d,f,q,C⟩;refine Q5 fun _ aW=>?_;refine Zs H fun _ aX=>?_;refine Zm rfl<|Ze (X3h rfl rfl)<|Zt aX fun a H=>?_
 refine Xi H rfl (fun E=>?_) (fun E=>?_)
 ·have aF:=E;have E:=Q2 E;refine Q7<|aW _ _<|Q5 fun _ aY=>?_;refine Q8<|X00 (some bV) (fun j=>[7,9].contains j) mixed ?_;intro w6 u;have i:=i.bw u;have o:=o.bw u;have p:=p.bw u;have d:=d.bw u;have f:=f.bw u;have q:=q.bw u;have C:=ktr C u;refine Yb H<|Yo 0 rfl (fun _=>Vd rfl Xbu 1) ?_;refine Yw 1 rfl tv0 (fun w1 h1=>X0 rfl Xrs ((p.oz h1 i rfl).at 1)) ?_;refine Yo 2 rfl (fun _=>X3 rfl)<|Yo 3 rfl (fun _=>X3 rfl)<|Yo 4 rfl (fun _=>X3 rfl)<|Y1 5 ?_;refine Yf rfl tv0 (EfW.mono (X1m (vs:=[(pZ9 bV),vi n,.slice Al l.length cl]) rfl Xpd (Y0m _ bV I a6 D d.top aL aC t2 s2 i n Al cl l f.top hn aM b6 b7 (by omega))) (fun _ _ h=>⟨fun _=>by obtain ⟨B,aD,aE,rfl,a7,aG,hK,N⟩:=h;exact hK.keep,h⟩)) ?_;rintro _ w7 ⟨B,aD,aE,rfl,a7,aG,hK,N⟩;obtain ⟨wm,M,hm,u⟩:=hK.mid;clear hm;have m:=i;have o:=o.oz M m rfl;have p:=p.oz M m rfl;have d:=d.onlyA M aC;have f:=f.oT M m rfl;have q:=q.oT M m rfl;have C:=C.self M;have o:=o.bw u;have p:=p.bw u;have d:=d.bw u;have f:=f.bw u;have q:=q.bw u;have C:=ktr C u
  clear m u M hK;have i:=N;clear N;refine Y1 6<|Yf rfl tv0 (EfW.mono (Xs (k:=1) (vs:=[.agg #[vi B.k,vi B.a,vi B.b]]) (zs:=[vi B.k,vi B.a,vi B.b]) rfl Xgq Xh4 rfl rfl) (fun _ _ h=>⟨fun _=>by obtain ⟨_,_,_,u,_⟩:=h;exact Keep.of_below u,h⟩)) ?_;rintro _ w8 ⟨bG,rfl,a8,u,aA⟩;have bD:=Q0 C.size a8;have aZ:=d.away a8;have W:=q.away a8;have i:=i.bw u;have o:=o.bw u;have p:=p.bw u;have d:=d.bw u;have f:=f.bw u;have q:=q.bw u;have C:=ktr C u;refine Y1 7<|Yt rfl tv0 rfl (X0z (enc:=encG) (l:=(gs)) (l2:=([B])) (B0:=w0.heap.size) rfl rfl Xgq Xh4 Xdz Xl4 q (Rd.of_blk aA rfl _ aA.lt) (by simp only [maxLen];simp;omega) (by simp;omega) C.size) ?_;rintro _ w9 ⟨aH,aI,rfl,aB,hg,b0⟩
  have G:Own _ w0.heap.size 123 3 encG _ _ (gs):=q
  have aJ:=b0 _ aA.lt W;clear b0;have i:=i.appT G hg rfl;have o:=o.appT G hg rfl;have p:=p.appT G hg rfl;have d:=d.appB G hg (Qb _);have f:=f.appT G hg rfl;have C:=Kept.app C G hg (Qb _) C.size;clear G hg;refine Yo 8 rfl (fun _=>Vd rfl Xbu 1)<|Y1 9 ?_;refine Yh rfl tv0 rfl (Vu (vs:=[.slice aH (gs++([B])).length aI]) (l':=[vi n,.slice aH (gs++([B])).length aI]) rfl rfl Y0z p) ?_;rintro _ bH ⟨J,hb⟩;have m:=p;have i:=i.oz J m rfl;have o:=o.oy J (by omega);have d:=d.oy J L;have f:=f.oT J m rfl;have aB:=aB.oT J m rfl;have C:=Kept.oy C J L;have p:=hb;refine Yd fun a H=>?_;refine Xc<|aY _ _<|Zr H<|Zm rfl<|Ze (X11 rfl rfl (by omega) (by omega))<|Za rfl ?_;refine Zn fun a H=>?_;refine Xd ?_;exact ⟨(j-1,gs++[B],aD,aE),⟨aH,aI,H.sb,(by simp;omega),(by omega),(Xij aV a7),i,o,p,d,f,aB,C⟩,(by first|omega|(dsimp only;omega))⟩
 have aF:=E;have E:=Q1 E;refine Q9<|Xk<|Xk<|X03 ?_;refine aQ _ _<|Zs H fun _ b1=>?_;refine Ze (Vn Xtu p)<|Zo (Vw [vi n,.slice Q gs.length U] Xsf o) ?_;rintro _ bJ ⟨J,hb⟩;have m:=o;have i:=i.oz J m rfl;have q:=q.oT J m rfl;have C:=Kept.oy C J aO;have o:=hb;refine Zt b1 fun a H=>?_
 refine Q6 (X6 H (Xu H rfl (ResV.cellN (l:=[vi n,.slice Q gs.length U]) rfl Xtu (o.at 0) rfl)) ?_)
 exact ⟨⟨n,gs⟩,Q,U,_,_,rfl,⟨rfl,(by show (gs.length:Int)<=most;omega),aV⟩,⟨by omega,by omega⟩,q,C,i⟩
theorem Y4r(I:World)(R C:Int)(k:FuncId)(caps:List Value)(hF:FuncF Tryz.prog k)(f:Nat->Nat->Option Dy)(aG:∀ (i j:Nat) w,(i:Int)<R->(j:Int)<C->Below I.heap.size I w->Ret Tryz.prog k ([vi (i:Int),vi (j:Int)]++caps) w (fun v w'=>∃ d:Dy,v=.tuple #[dV d,.bool (f i j).isSome]/\(∀ y,f i j=some y->d=y)/\Below w.heap.size w w')) : Ret Tryz.prog 70 [vi R,vi C,.func (.func k) #[] caps.toArray] I (fun v w=>∃ A c,v=.tuple #[mV A c ((matOf R C f).getD mZ),.bool (matOf R C f).isSome]/\Own w I.heap.size 96 5 encD A c ((matOf R C f).getD mZ).cells/\Below I.heap.size I w):=by
 refine enter Tryz.func70 rfl 52 rfl rfl ?_;intro a g
 have p:=bz I
 refine Zs g fun _ bE=>?_;refine Zf (Xo (zs:=[vi 0,vi 0,.slice none 0 0]) X7f rfl) ?_;rintro _ w1 ⟨b3,rfl,bF,B,e⟩;have U:=Q0 p.size bF;have p:=btr p B;refine Za rfl<|Zx bE fun a g _ bG=>?_;refine Zm rfl<|Zm rfl<|Ze (X0e (ps:=[(0,vi R),(1,vi C)]) (cs:=[vi R,vi C,.slice none 0 0]) rfl (fun _=>by first|rfl|kernel_rfl))<|Zf (Xo (zs:=[vi 0,vi 0,.slice none 0 0]) X7f rfl) ?_;rintro _ w2 ⟨b7,rfl,bH,B,m⟩
 have bD:b3≠b7:=by have:=e.lt;omega
 have aD:=Q0 p.size bH;have e:=e.bw B;have p:=btr p B;refine Zo (Vw [vi R,vi C,.slice none 0 0] X2t m) ?_;rintro _ w3 ⟨E,W⟩;have t:=m;have e:=e.oy E (by omega);have p:=Below.oy p E aD;have m:=W;refine ZX bG fun a g _ bJ=>?_;refine Q5 fun _ bK=>?_;refine X0b (fun a w=>Fr a 52 [(0,vi R),(1,vi C),(2,.func (.func k) #[] caps.toArray),(6,(pZ9 b3)),(8,(pZ9 b7)),(23,.bool ((!(isDimB R))||(!(isDimB C))))]/\w3=w) ?_ ?_
 ·refine Zr g<|Zm rfl<|Zf (Vc (Y16 _ R) Xlq) ?_;rintro _ _ ⟨rfl,rfl⟩;refine Ze (X0y rfl)<|Zm rfl ?_
  refine Zg 19 rfl (fun q=>?_) (fun q=>?_)
  ·(iterate 3 refine Zp (gP q) ?_);refine Ze (X4 rfl q rfl) ?_;refine Zn fun a g=>?_;exact ⟨g.sub ⟨rfl,rfl,rfl,rfl,rfl,X1 rfl (by simp [q]),trivial⟩,rfl⟩
  refine Zv (gW q) (X3 rfl) ?_;refine Zk (gW q) (Vc (Y16 _ C) Xlq) ?_;rintro _ _ ⟨rfl,rfl⟩;refine Zv (gW q) (X0y rfl) ?_;refine Ze (Xe rfl q rfl) ?_;refine Zn fun a g=>?_;exact ⟨g.sub ⟨rfl,rfl,rfl,rfl,rfl,X1 rfl (by simp [q]),trivial⟩,rfl⟩
 rintro a _ ⟨g,rfl⟩;refine bK _ _ ?_
 refine Xi g rfl (fun G=>?_) (fun G=>?_)
 ·have aH:=G;have hn:=Xib G;refine Zs g fun _ aT=>?_;refine Ze (X0e (ps:=[]) (cs:=[vi 0,vi 0,.slice none 0 0]) rfl (fun _=>by first|rfl|kernel_rfl))<|Zo (Vw [vi 0,vi 0,.slice none 0 0] X2t e) ?_;rintro _ w4 ⟨E,W⟩;have t:=e;have p:=Below.oy p E U;have e:=W;refine Za rfl<|Zt aT fun a g=>?_;refine Q6<|Xa<|X6 g (X19 g rfl (ResV.cellN (l:=[vi 0,vi 0,.slice none 0 0]) rfl X2s (e.at 0) rfl) rfl) ?_
  have he:matOf R C f=none:=by rw [matOf,hn];rfl
  rw [he]
  exact ⟨none,0,rfl,(Own.nil _ _ _ _ _),p⟩
 have aH:=G;have hy:=Xli G;have aU:=(Qd _ _▸hy:isDimB R=true/\isDimB C=true);have hR:=X9r aU.1;have hC:=X9r aU.2;refine Q7<|bJ _ _<|Q5 fun _ aV=>?_;refine Zs g fun _ aW=>?_;refine Zm rfl<|Zm rfl<|Zt aW fun a g=>?_;refine Q8<|X04 (σ:=Nat×(List Dy)) (fun (s:Nat×(List Dy)) (a:Act) (w:World)=>match s with|(i,l)=>∃ J L,Fr a 52 [(1,vi C),(2,.func (.func k) #[] caps.toArray),(6,(pZ9 b3)),(8,(pZ9 b7)),(25,vi R),(26,vi (i:Int))]/\((i:Int)<=R)/\(seqO (gridG f C.toNat) (i*C.toNat)=some l)/\Blk w b3 50 [vi 0,vi 0,.slice none 0 0]/\Blk w b7 50 [vi R,vi C,.slice J l.length L]/\Own w I.heap.size 96 5 encD J L l/\Below I.heap.size I w) (fun (s:Nat×(List Dy))=>match s with|(i,l)=>(R-i).toNat) (0,[]) ?_ ?_
 ·exact ⟨none,0,g.sb,(by omega),(by rw [Nat.zero_mul];rfl),e,m,(Own.nil _ _ _ _ _),p⟩
 rintro ⟨i,l⟩ a w5 ⟨J,L,g,bP,hl,e,m,M,p⟩;refine Zs g fun _ aX=>?_;refine Ze (X0q rfl rfl)<|ZX aX fun a g _ aY=>?_
 refine Xi g rfl (fun u=>?_) (fun u=>?_)
 ·have aI:=u;have u:=Q2 u
  have aJ:(i:Int)<R:=u
  have bQ:i*C.toNat<=1024:=Q0 (Nat.mul_le_mul (show i<=32 by omega) (show C.toNat<=32 by omega)) (by decide)
  refine Q7<|aY _ _<|Q5 fun _ aZ=>?_;refine Q8<|Zs g fun _ b0=>?_;refine Zm rfl<|Za rfl<|Zx b0 fun a g _ b1=>?_;refine Zm rfl<|Zm rfl<|Zt b1 fun a g=>?_;refine Q8<|X04 (σ:=Nat×(List Dy)) (fun (s:Nat×(List Dy)) (a:Act) (w:World)=>match s with|(j,l2)=>∃ a8 aA,Fr a 52 [(1,vi C),(2,.func (.func k) #[] caps.toArray),(6,(pZ9 b3)),(8,(pZ9 b7)),(9,vi (i:Int)),(25,vi R),(26,vi (i:Int)),(29,vi C),(30,vi (j:Int))]/\((j:Int)<=C)/\(seqO (gridG f C.toNat) (i*C.toNat+j)=some l2)/\Blk w b3 50 [vi 0,vi 0,.slice none 0 0]/\Blk w b7 50 [vi R,vi C,.slice a8 l2.length aA]/\Own w I.heap.size 96 5 encD a8 aA l2/\Below I.heap.size I w) (fun (s:Nat×(List Dy))=>match s with|(j,l2)=>(C-j).toNat) (0,l) ?_ ?_
  ·exact ⟨J,L,g.sb,(by omega),hl,e,m,M,p⟩
  rintro ⟨j,l2⟩ a w6 ⟨a8,aA,g,bR,aB,e,m,o,p⟩;refine Zs g fun _ b2=>?_;refine Ze (X0q rfl rfl)<|ZX b2 fun a g _ b4=>?_
  refine Xi g rfl (fun x=>?_) (fun x=>?_)
  ·have aK:=x;have x:=Q2 x
   have aC:(j:Int)<C:=x
   have bO:=X7e aB;refine Q7<|b4 _ _<|Q5 fun _ b5=>?_;refine Q8<|Zs g fun _ b6=>?_;refine Zm rfl<|Za rfl<|Zx b6 fun a g _ b8=>?_;refine Zm rfl<|Zm rfl<|Zm rfl<|Zf (X6n (cs:=caps) (vs:=[vi (i:Int),vi (j:Int)]) rfl rfl hF (aG i j _ aJ aC p)) ?_;rintro _ w7 ⟨d9,rfl,bL,B⟩;have e:=e.bw B;have m:=m.bw B;have o:=o.bw B;have p:=btr p B;refine Zm rfl<|Ze (Xp (vs:=[.agg #[vi d9.num.a,vi d9.num.b,vi d9.num.c,vi d9.num.d,vi d9.exp],.bool ((f i j).isSome)]) rfl rfl)<|Ze (Xp (vs:=[.agg #[vi d9.num.a,vi d9.num.b,vi d9.num.c,vi d9.num.d,vi d9.exp],.bool ((f i j).isSome)]) rfl rfl)<|Zf (Xo (zs:=[vi 0,vi 0,vi 0,vi 0,vi 0]) X85 rfl) ?_;rintro _ w8 ⟨bM,rfl,aE,B,h⟩;have aL:=Q0 p.size aE;have D:=o.away aE;have e:=e.bw B;have m:=m.bw B;have o:=o.bw B;have p:=btr p B;refine Zo (Vw [vi d9.num.a,vi d9.num.b,vi d9.num.c,vi d9.num.d,vi d9.exp] X2u h) ?_;rintro _ w9 ⟨E,W⟩;have t:=h;have e:=e.oz E t rfl;have m:=m.oz E t rfl;have o:=o.onlyA E D;have p:=Below.oy p E aL;have h:=W;refine Za rfl<|ZX b8 fun a g _ b9=>?_;refine Zs g fun _ bA=>?_;refine Zm rfl<|Ze (X0y rfl)<|Zt bA fun a g=>?_
   refine Xi g rfl (fun H=>?_) (fun H=>?_)
   ·have aM:=H
    have hn:gridG f C.toNat (i*C.toNat+j)=none:=by rw [X9o (by omega)];revert H;cases f i j<;>simp
    refine Zs g fun _ bB=>?_;refine Ze (X0e (ps:=[]) (cs:=[vi 0,vi 0,.slice none 0 0]) rfl (fun _=>by first|rfl|kernel_rfl))<|Zo (Vw [vi 0,vi 0,.slice none 0 0] X2t e) ?_;rintro _ bS ⟨E,W⟩;have t:=e;have p:=Below.oy p E U;have e:=W;refine Za rfl<|Zt bB fun a g=>?_;refine Q6<|Xa<|X02<|Xa ?_;refine Xa<|X02<|X02<|Xa ?_;refine Xa<|X02<|Xa<|X6 g (X19 g rfl (ResV.cellN (l:=[vi 0,vi 0,.slice none 0 0]) rfl X2s (e.at 0) rfl) rfl) ?_
    have he:matOf R C f=none:=by rw [matOf,Q4 hy,Xau hn _ (Xha (by omega) (by omega))];rfl
    rw [he]
    exact ⟨none,0,rfl,(Own.nil _ _ _ _ _),p⟩
   have aM:=H
   have hx:gridG f C.toNat (i*C.toNat+j)=some d9:=by rw [X9o (by omega)];have h8:=H;cases h7:f i j with
    | none=>rw [h7] at h8;simp at h8
    | some y9=>rw [bL y9 h7]
   refine Q7<|b9 _ _<|Zr g<|Ze (Vd rfl X34 2)<|Ze (X0 rfl X6j (m.at 2))<|Ze (Vn X2o h)<|Zf (Xs (k:=1) (vs:=[.agg #[vi d9.num.a,vi d9.num.b,vi d9.num.c,vi d9.num.d,vi d9.exp]]) (zs:=[vi d9.num.a,vi d9.num.b,vi d9.num.c,vi d9.num.d,vi d9.exp]) rfl X4x X8f rfl rfl) ?_;rintro _ bT ⟨b36,rfl,aF,B,a6⟩
   have aQ:bM≠b36:=by have:=h.lt;omega
   have bN:=Q0 p.size aF;have Q:=o.away aF;have e:=e.bw B;have m:=m.bw B;have h:=h.bw B;have o:=o.bw B;have p:=btr p B;refine Zf (X0z (enc:=encD) (l:=(l2)) (l2:=([d9])) (B0:=I.heap.size) rfl rfl X4x X8f X7h Xdy o (Rd.of_blk a6 rfl _ a6.lt) (by simp only [maxLen];simp;omega) (by simp;omega) p.size) ?_;rintro _ bU ⟨aN,aO,rfl,a7,hg,aP⟩
   have N:Own _ I.heap.size 96 5 encD _ _ (l2):=o
   have aR:=aP _ h.lt D;have aS:=aP _ a6.lt Q;clear aP;have e:=e.appT N hg rfl;have m:=m.appT N hg rfl;have p:=Below.app p N hg (Qb _) p.size;clear N hg;refine Ze (Vd rfl X34 2)<|Zo (Vu (vs:=[.slice aN (l2++([d9])).length aO]) (l':=[vi R,vi C,.slice aN (l2++([d9])).length aO]) rfl rfl Xjg m) ?_;rintro _ bW ⟨E,W⟩;have t:=m;have e:=e.oy E (by omega);have a7:=a7.oT E t rfl;have p:=Below.oy p E aD;have m:=W;refine Zn fun a g=>?_;refine Xc<|b5 _ _<|Zr g<|Ze (Xm rfl rfl (by omega) (by omega))<|Zm rfl ?_;refine Zn fun a g=>?_;refine Xd ?_;exact ⟨(j+1,l2++[d9]),⟨aN,aO,g.sb,(by omega),(Xi0 aB hx),e,m,a7,p⟩,(by first|omega|(dsimp only;omega))⟩
  have aK:=x;have x:=Q1 x
  have aC:j=C.toNat:=by omega
  refine Q9<|Xk<|Xk<|X03 ?_;refine Xc<|aZ _ _<|Zr g<|Ze (Xm rfl rfl (by omega) (by omega))<|Zm rfl ?_;refine Zn fun a g=>?_;refine Xd ?_;exact ⟨(i+1,l2),⟨a8,aA,g.sb,(by omega),(by rw [Wb,Nat.one_mul,<- aC];rw [<- aC] at aB;exact aB),e,m,o,p⟩,(by first|omega|(dsimp only;omega))⟩
 have aI:=u;have u:=Q1 u
 have aJ:i=R.toNat:=by omega
 refine Q9<|Xk<|Xk<|X03 ?_;refine aV _ _<|Zs g fun _ bC=>?_;refine Ze (Vn X2s m)<|Zo (Vw [vi R,vi C,.slice J l.length L] X2t e) ?_;rintro _ bX ⟨E,W⟩;have t:=e;have M:=M.oT E t rfl;have p:=Below.oy p E U;have e:=W;refine Za rfl<|Zt bC fun a g=>?_
 refine Q6 (X6 g (X19 g rfl (ResV.cellN (l:=[vi R,vi C,.slice J l.length L]) rfl X2s (e.at 0) rfl) rfl) ?_)
 have he:matOf R C f=some ⟨R,C,l⟩:=by rw [matOf,Q4 hy,<- aJ,hl];rfl
 rw [he]
 exact ⟨J,L,rfl,M,p⟩
end Go.Proofs.YtpifljegadknkaaGreat
namespace Go.Proofs.YtpifljegadknkaaGreat
section
end
end Go.Proofs.YtpifljegadknkaaGreat
namespace Go.Proofs.YtpifljegadknkaaGreat
open Go
end Go.Proofs.YtpifljegadknkaaGreat
namespace Go.Proofs.YtpifljegadknkaaGreat
open Go.RowKit
section
end
section
end
section
end
end Go.Proofs.YtpifljegadknkaaGreat
namespace Go.Proofs.YtpifljegadknkaaGreat
def cmI(x y:Int) : Int:=if x<y then -1 else if y<x then 1 else 0
def idxF{α:Type}(l:List α)(q:α->Bool) : Int:=match l.findIdx? q with
 | some k=>(k:Int)
 | none=>-1
theorem X95{α:Type}{q:α->Bool} : ∀ {l:List α} {k:Nat} {u:α},((l.take k).all fun x=>!q x)=true->l[k]? = some u->q u=true->idxF l q=(k:Int):=by
 intro l k u h1 h2 h3;obtain ⟨h4,h5⟩:=Qg.1 h2
 have:l.findIdx? q=some k:=by
  rw [List.findIdx?_eq_some_iff_getElem]
  refine ⟨h4,by rw [h5];exact h3,fun j hj=>?_⟩
  have:=W1.1 h1 l[j] (by rw [List.mem_iff_getElem];exact ⟨j,by simp;omega,by simp⟩)
  simpa using this
 unfold idxF;rw [this]
end Go.Proofs.YtpifljegadknkaaGreat
namespace Go.Proofs.YtpifljegadknkaaGreat
open Go.RowKit
theorem Y12(w0:World)(x:Int) : Ret Tryz.prog 194 [vi x] w0 (fun v w=>v=.bool false/\w0=w):=by
 refine enter Tryz.func194 rfl 6 rfl rfl ?_;intro a hf
 have hW:=bz w0
 refine Zs hf fun _ a6=>?_;refine Za rfl<|Zx a6 fun a hf _ a7=>?_;refine Zm rfl<|Zm rfl<|Ze (X1o rfl rfl)<|Za rfl<|Zt a7 fun a hf=>?_
 refine Q6 (X6 hf (Xu hf rfl rfl) ?_)
 exact ⟨by simp,rfl⟩
theorem Xg1(w0:World)(x:Int)(y:Int) : Ret Tryz.prog 150 [vi x,vi y] w0 (fun v w=>v=vi (cmI x y)/\w0=w):=by
 refine enter Tryz.func150 rfl 20 rfl rfl ?_;intro a d
 have hW:=bz w0
 refine Zs d fun _ aF=>?_;refine Za rfl<|Zx aF fun a d _ aG=>?_;refine Zm rfl<|Zf (Vc (Y12 _ x) Xka) ?_;rintro _ _ ⟨rfl,rfl⟩;refine Za rfl<|Zx aG fun a d _ aH=>?_;refine Zm rfl<|Zf (Vc (Y12 _ y) Xka) ?_;rintro _ _ ⟨rfl,rfl⟩;refine Za rfl<|ZX aH fun a d _ aI=>?_;refine Zs d fun _ aJ=>?_;refine Zm rfl<|Zt aJ fun a d=>?_;refine Xco d rfl ?_;refine Q7<|aI _ _<|Q5 fun _ aK=>?_;refine Zs d fun _ aL=>?_;refine Zm rfl<|Zt aL fun a d=>?_;refine Xco d rfl ?_;refine Q7<|aK _ _<|Q5 fun _ aM=>?_;refine Zs d fun _ aN=>?_;refine Zm rfl<|Zm rfl<|Ze (X0q rfl rfl)<|Zt aN fun a d=>?_
 refine Xi d rfl (fun b=>?_) (fun b=>?_)
 ·have a6:=b;have b:=Q2 b
  have e:cmI x y = -1:=by rw [cmI,Q4 b]
  refine Zs d fun _ a8=>?_;refine Za rfl<|Zt a8 fun a d=>?_;refine Q6<|Xa<|X6 d (Xu d rfl rfl) ?_;exact ⟨by rw [e],rfl⟩
 have a6:=b;have b:=Q1 b;have aA:=b;refine Q7<|aM _ _<|Q5 fun _ aB=>?_;refine Zs d fun _ aC=>?_;refine Zm rfl<|Zm rfl<|Ze (X3h rfl rfl)<|Zt aC fun a d=>?_
 refine Xi d rfl (fun c=>?_) (fun c=>?_)
 ·have a7:=c;have c:=Q2 c
  have e:cmI x y=1:=by rw [cmI,Q3 aA,Q4 c]
  refine Zs d fun _ aD=>?_;refine Za rfl<|Zt aD fun a d=>?_;refine Q6<|Xa<|X6 d (Xu d rfl rfl) ?_;exact ⟨by rw [e],rfl⟩
 have a7:=c;have c:=Q1 c
 have e:cmI x y=0:=by rw [cmI,Q3 aA,Q3 c]
 refine Q7<|aB _ _<|Zs d fun _ aE=>?_;refine Za rfl<|Zt aE fun a d=>?_
 refine Q6 (X6 d (Xu d rfl rfl) ?_)
 exact ⟨by rw [e],rfl⟩
theorem Xmj(w0:World)(x:Int)(y:Int) : Ret Tryz.prog 186 [vi x,vi y] w0 (fun v w=>v=vi (min x y)/\Below w0.heap.size w0 w):=by
 refine enter Tryz.func186 rfl 10 rfl rfl ?_;intro a c
 have hW:=bz w0
 refine Zs c fun _ a7=>?_;refine Za rfl<|ZX a7 fun a c _ a8=>?_;refine Zs c fun _ aA=>?_;refine Zm rfl<|Zm rfl<|Ze (X0q rfl rfl)<|Zt aA fun a c=>?_
 refine Xi c rfl (fun b=>?_) (fun b=>?_)
 ·have a6:=b;have b:=Q2 b;refine Zs c fun _ aB=>?_;refine Zm rfl<|Za rfl<|Zt aB fun a c=>?_;refine Q6<|Xa<|X6 c (Xu c rfl rfl) ?_;exact ⟨by rw [Int.min_eq_left (by omega)],hW⟩
 have a6:=b;have b:=Q1 b;refine Q7<|a8 _ _<|Zs c fun _ aC=>?_;refine Zm rfl<|Za rfl<|Zt aC fun a c=>?_
 refine Q6 (X6 c (Xu c rfl rfl) ?_)
 exact ⟨by rw [Int.min_eq_right (by omega)],hW⟩
theorem Xzl(d:World){a6 a7:TypeId}(Ap:Option Addr)(cp:Nat)(p:List Int)(aB:Rd d d.heap.size a6 encU Ap p)(Aq:Option Addr)(cq:Nat)(q:List Int)(aC:Rd d d.heap.size a7 encU Aq q) : Ret Tryz.prog 12 [.slice Ap p.length cp,.slice Aq q.length cq] d (fun v w=>v=.bool (decide (1048576<(p.length:Int))||decide (wr (1048576-(p.length:Int))<(q.length:Int)))/\Below d.heap.size d w):=by
 refine enter Tryz.func12 rfl 16 rfl rfl ?_;intro a c
 have hW:=bz d
 refine Zs c fun _ a8=>?_;refine Za rfl<|ZX a8 fun a c _ aA=>?_;refine X0b (fun a w=>Fr a 16 [(4,.bool ((decide (1048576<(p.length:Int)))||(decide ((wr (1048576-(p.length:Int)))<(q.length:Int)))))]/\d=w) ?_ ?_
 ·refine Zr c<|Zm rfl<|Ze (X0c rfl X4y)<|Ze (X3h rfl rfl)<|Zm rfl ?_
  refine Zg 8 rfl (fun b=>?_) (fun b=>?_)
  ·(iterate 6 refine Zp (gP b) ?_);refine Ze (X4 rfl b rfl)<|Za rfl ?_;refine Zn fun a c=>?_;exact ⟨c.sub ⟨X1 rfl (by simp [b]),trivial⟩,rfl⟩
  refine Zv (gW b) (X3 rfl) ?_;refine Zv (gW b) (X0c rfl X4y) ?_;refine Zv (gW b) (X3 rfl) ?_;refine Zv (gW b) (X0c rfl X4y) ?_;refine Zv (gW b) (X6m rfl rfl) ?_;refine Zv (gW b) (X3h rfl rfl) ?_;refine Ze (Xe rfl b rfl)<|Za rfl ?_;refine Zn fun a c=>?_;exact ⟨c.sub ⟨X1 rfl (by simp [b]),trivial⟩,rfl⟩
 rintro a _ ⟨c,rfl⟩;refine aA _ _ ?_
 refine Q6 (X6 c (Xu c rfl rfl) ?_)
 exact ⟨rfl,hW⟩
theorem gapp{α:Type}{w0 w w':World}{R:Option Nat}{E:TypeId}{sz c:Nat}{enc:α->List Value}{A:Option Addr}{l:List α}(h:w0.grownBy w R)(ho:Own w w0.heap.size E sz enc A c l)(hg:w.grownBy w' (Value.slice A l.length c).ownBlock) : w0.grownBy w' R:=
 ⟨hg.os.trans h.os,hg.tape.trans h.tape,hg.output.trans h.output,Q0 h.size hg.size,fun k hk h1=>(hg.block k (Nat.lt_of_lt_of_le hk h.size) (fun e=>by have:=(ho.block e.symm).1;omega)).trans (h.block k hk h1)⟩
structure Nd where
 k:Int
 p:Int
deriving DecidableEq
structure Wr where
 a:Int
 b:Int
 h:Bool
deriving DecidableEq
structure Dg where
 n:Int
 ns:List Nd
 ws:List Wr
 t:Int
 r:Int
deriving DecidableEq
def nZ:Nd:=⟨0,0⟩
def wZ:Wr:=⟨0,0,false⟩
def encNd(x:Nd) : List Value:=[.int .i64 x.k,.int .i64 x.p]
def encWr(x:Wr) : List Value:=[.int .i64 x.a,.int .i64 x.b,.bool x.h]
theorem Xw:∀ x,(encNd x).length=2:=fun _=>rfl
theorem X37:∀ x,(encNd x).all one=true:=fun _=>rfl
theorem Xz:∀ x,(encWr x).length=3:=fun _=>rfl
theorem X1r:∀ x,(encWr x).all one=true:=fun _=>rfl
def wlt(x y:Wr) : Bool:=decide (x.a<y.a)||(x.a==y.a&&decide (x.b<y.b))
abbrev WSd(l:List Wr) : Prop:=l.Pairwise fun x y=>wlt x y=true
theorem X2z{x y:Wr} : wlt x y=true↔x.a<y.a∨(x.a=y.a/\x.b<y.b):=by unfold wlt;simp
theorem X5n{x y:Wr} : wlt x y=false↔y.a<x.a∨(x.a=y.a/\y.b<=x.b):=by
 have h:=@X2z x y
 cases hw:wlt x y with
 | true=>simp only [Bool.true_eq_false,false_iff];have:=h.1 hw;omega
 | false=>
  simp only [true_iff]
  have h2:¬ (x.a<y.a∨(x.a=y.a/\x.b<y.b)):=fun h9=>by rw [h.2 h9] at hw;cases hw
  omega
theorem Xem{x y z:Wr}(h1:wlt x y=true)(h2:wlt y z=true) : wlt x z=true:=by rw [X2z] at *;omega
def isW(a b:Int)(w:Wr) : Bool:=w.a==min a b&&w.b==max a b
theorem X29{a b:Int}{w:Wr} : isW a b w=true↔w.a=min a b/\w.b=max a b:=by unfold isW;simp
def fdW(l:List Wr)(a b:Int) : Int:=idxF l (isW a b)
theorem Xke(a b:Int)(w:Wr) : isW a b w=isW b a w:=by unfold isW;rw [Int.min_comm,Int.max_comm]
theorem Xhb(l:List Wr)(a b:Int) : fdW l a b=fdW l b a:=by
 unfold fdW
 rw [show isW a b=isW b a from funext (Xke a b)]
theorem X51{α:Type}(l:List α)(q:α->Bool) : (idxF l q = -1/\∀ x ∈ l,q x=false)∨∃ k:Nat,∃ x,idxF l q=(k:Int)/\l[k]? = some x/\q x=true:=by
 unfold idxF
 cases h:l.findIdx? q with
 | none=>exact .inl ⟨rfl,fun x hx=>by have:=List.findIdx?_eq_none_iff.1 h x hx;simpa using this⟩
 | some k=>
  obtain ⟨h1,h2,_⟩:=List.findIdx?_eq_some_iff_getElem.1 h;exact .inr ⟨k,l[k],rfl,Qc h1,h2⟩
theorem X4j(l:List Wr)(a b:Int) : (fdW l a b = -1/\∀ w ∈ l,isW a b w=false)∨∃ k:Nat,∃ w,fdW l a b=(k:Int)/\l[k]? = some w/\isW a b w=true:=X51 l (isW a b)
theorem Xtv{l:List Wr}{a b:Int}(h:∀ w ∈ l,isW a b w=false) : fdW l a b = -1:=by
 rcases X4j l a b with h1|⟨k,w,_,h2,h3⟩
 ·exact h1.1
 ·rw [h w (Qe h2)] at h3;cases h3
theorem X96{l:List Wr}{a b:Int}(h:fdW l a b<0) : ∀ w ∈ l,isW a b w=false:=by
 rcases X4j l a b with h1|⟨k,w,h1,_⟩
 ·exact h1.2
 ·omega
def insW:List Wr->Wr->List Wr
 | [],x=>[x]
 | y::l,x=>if wlt y x=true then y::insW l x else x::y::l
def jnW(l:List Wr)(a b:Int)(h:Bool) : List Wr:=insW l ⟨min a b,max a b,h⟩
def ctW(l:List Wr)(i:Nat) : List Wr:=l.take i++l.drop (i+1)
def tyW(l:List Wr)(a b:Int) : Int:=if fdW l a b<0 then 0 else if (l.getD (fdW l a b).toNat wZ).h=true then 2 else 1
theorem X88(l:List Wr)(a b:Int) : tyW l a b=tyW l b a:=by unfold tyW;rw [Xhb]
theorem Xht:∀ (l:List Wr) (x:Wr),(insW l x).length=l.length+1
 | [],x=>rfl
 | y::l,x=>by
  unfold insW
  split
  ·rw [Qs,Xht l x];rfl
  ·rfl
theorem Xb8{z:Wr} : ∀ {l:List Wr} {x:Wr},z ∈ insW l x↔z=x∨z ∈ l
 | [],x=>by simp [insW]
 | y::l,x=>by
  unfold insW
  split
  ·rw [Qv,Xb8 (l:=l),Qv]
   constructor
   ·rintro (h|h|h)
    ·exact .inr (.inl h)
    ·exact .inl h
    ·exact .inr (.inr h)
   ·rintro (h|h|h)
    ·exact .inr (.inl h)
    ·exact .inl h
    ·exact .inr (.inr h)
  ·rw [Qv,Qv]
theorem Xjv:∀ (l:List Wr) (x:Wr) (k:Nat),((l.take k).all fun y=>wlt y x)=true->(∀ y,l[k]? = some y->wlt y x=false)->insW l x=l.take k++[x]++l.drop k
 | [],x,k,_,_=>by simp [insW]
 | y::l,x,0,_,h=>by
  have h:=h y rfl
  unfold insW
  rw [Q3 (by rw [h];decide)]
  rfl
 | y::l,x,k+1,ha,h=>by
  simp only [List.take_succ_cons,List.all_cons,Qd] at ha
  have ih:=Xjv l x k ha.2 (fun z hz=>h z (by simpa using hz))
  unfold insW
  rw [Q4 ha.1,ih]
  simp
theorem Xf1:∀ {l:List Wr} {x:Wr},WSd l->(∀ y ∈ l,¬ (y.a=x.a/\y.b=x.b))->WSd (insW l x)
 | [],x,_,_=>by simp [insW]
 | y::l,x,hl,hx=>by
  have hl':=W8.1 hl
  unfold insW
  split
  ·rename_i hy
   refine W8.2 ⟨fun z hz=>?_,Xf1 hl'.2 fun z hz=>hx z (by simp [hz])⟩
   rcases Xb8.1 hz with rfl|hz
   ·exact hy
   ·exact hl'.1 z hz
  ·rename_i hy
   have hxy:wlt x y=true:=by
    rw [Bool.not_eq_true] at hy
    have h1:=X5n.1 hy
    have h2:=hx y (by simp)
    rw [X2z]
    omega
   refine W8.2 ⟨fun z hz=>?_,hl⟩
   rcases Qv.1 hz with rfl|hz
   ·exact hxy
   ·exact Xem hxy (hl'.1 z hz)
theorem X7l{l:List Wr}{a b:Int}{h:Bool}(hl:WSd l)(hf:fdW l a b<0) : WSd (jnW l a b h):=
 Xf1 hl fun y hy h9=>by
  have:=X96 hf y hy
  rw [X29.2 h9] at this
  cases this
theorem X49{z:Wr}{l:List Wr}{a b:Int}{h:Bool} : z ∈ jnW l a b h↔z=⟨min a b,max a b,h⟩∨z ∈ l:=Xb8
theorem X3u(l:List Wr)(i:Nat) : (ctW l i).Sublist l:=by
 unfold ctW
 rw [<- List.eraseIdx_eq_take_drop_succ]
 exact List.eraseIdx_sublist l i
theorem X8v{l:List Wr}(hl:WSd l)(i:Nat) : WSd (ctW l i):=hl.sublist (X3u l i)
theorem Xwx{l:List Wr}{i:Nat}(h:i<l.length) : (ctW l i).length+1=l.length:=by
 unfold ctW
 rw [Qh,Qn,List.length_drop]
 omega
theorem Xki{l:List Wr}(hl:WSd l){i j:Nat}{x y:Wr}(hi:l[i]? = some x)(hj:l[j]? = some y)(ha:x.a=y.a)(hb:x.b=y.b) : i=j:=by
 obtain ⟨h1,rfl⟩:=Qg.1 hi;obtain ⟨h2,rfl⟩:=Qg.1 hj;have hp:=W0.1 hl
 rcases Nat.lt_trichotomy i j with h|h|h
 ·have:=hp i j h1 h2 h;rw [X2z] at this;omega
 ·exact h
 ·have:=hp j i h2 h1 h;rw [X2z] at this;omega
theorem Xc4{l:List Wr}(hl:WSd l){a b:Int}{i:Nat}{w:Wr}(hi:l[i]? = some w)(hw:isW a b w=true) : fdW (ctW l i) a b = -1:=by
 refine Xtv fun z hz=>?_
 cases hq:isW a b z with
 | false=>rfl
 | true=>
  exfalso
  have e1:=X29.1 hw
  have e2:=X29.1 hq
  unfold ctW at hz
  rcases Qu.1 hz with h|h
  ·obtain ⟨j,hj⟩:=List.mem_iff_getElem?.1 h
   rw [List.getElem?_take] at hj
   split at hj
   ·have:=Xki hl hi hj (by omega) (by omega);omega
   ·cases hj
  ·obtain ⟨j,hj⟩:=List.mem_iff_getElem?.1 h
   rw [List.getElem?_drop] at hj
   have:=Xki hl hi hj (by omega) (by omega);omega
theorem Xmm:∀ {l m:List Wr},WSd l->WSd m->(∀ x,x ∈ l↔x ∈ m)->l=m
 | [],[],_,_,_=>rfl
 | [],y::m,_,_,h=>by have:=(h y).2 (by simp);cases this
 | x::l,[],_,_,h=>by have:=(h x).1 (by simp);cases this
 | x::l,y::m,hl,hm,h=>by
  have hl':=W8.1 hl
  have hm':=W8.1 hm
  have hxy:x=y:=by
   have h1:=(h x).1 (by simp)
   have h2:=(h y).2 (by simp)
   rcases Qv.1 h1 with h1|h1
   ·exact h1
   ·rcases Qv.1 h2 with h2|h2
    ·exact h2.symm
    ·have h3:=hm'.1 x h1;have h4:=hl'.1 y h2
     rw [X2z] at h3 h4
     omega
  subst hxy
  congr 1
  refine Xmm hl'.2 hm'.2 fun z=>?_
  constructor
  ·intro hz
   rcases Qv.1 ((h z).1 (Ql _ hz)) with h1|h1
   ·have:=hl'.1 z hz;rw [h1,X2z] at this;omega
   ·exact h1
  ·intro hz
   rcases Qv.1 ((h z).2 (Ql _ hz)) with h1|h1
   ·have:=hm'.1 z hz;rw [h1,X2z] at this;omega
   ·exact h1
def spI(ns:List Nd)(k:Int) : Bool:=inR k 0 ((ns.length:Int)-1)&&(ns.getD k.toNat nZ).k==3
def adN(ns:List Nd)(k by_:Int) : List Nd:=ns.set k.toNat ⟨(ns.getD k.toNat nZ).k,((ns.getD k.toNat nZ).p+by_) % 8⟩
def dpN(ns:List Nd)(k:Int) : List Nd:=ns.set k.toNat nZ
def dpW(ws:List Wr)(k:Int) : List Wr:=ws.filter fun w=>w.a != k&&w.b != k
theorem X1u(ns:List Nd)(k m:Int) : (adN ns k m).length=ns.length:=List.length_set
theorem X1l(ns:List Nd)(k:Int) : (dpN ns k).length=ns.length:=List.length_set
def otW(k:Int)(w:Wr) : Option Int:=if k=w.a then some w.b else if k=w.b then some w.a else none
def nearW(ws:List Wr)(k:Int) : List Int:=ws.filterMap (otW k)
structure InW (ws:List Wr) : Prop where
 s:WSd ws
 l:∀ w ∈ ws,w.a<w.b
theorem X3l{k v:Int}{w:Wr}(h:otW k w=some v) : (k=w.a/\v=w.b)∨(k=w.b/\v=w.a):=by
 unfold otW at h
 split at h
 ·injection h with h;exact .inl ⟨by assumption,h.symm⟩
 ·split at h
  ·injection h with h;exact .inr ⟨by assumption,h.symm⟩
  ·cases h
theorem Xr0{ws:List Wr}(h:InW ws){k x v:Int}{i j:Nat}{w' w:Wr}(hi:ws[i]? = some w')(hj:ws[j]? = some w)(hij:i<j)(h1:otW k w'=some x)(h2:otW k w=some v) : x<v:=by
 obtain ⟨e1,e1'⟩:=Qg.1 hi;obtain ⟨e2,e2'⟩:=Qg.1 hj;have hp:=W0.1 h.s i j e1 e2 hij
 have l1:=h.l w' (Qe hi)
 have l2:=h.l w (Qe hj)
 rw [e1',e2',X2z] at hp
 rcases X3l h1 with ⟨a1,a2⟩|⟨a1,a2⟩<;>rcases X3l h2 with ⟨b1,b2⟩|⟨b1,b2⟩<;>omega
theorem X3i{k:Int} : ∀ {ws:List Wr},InW ws->Inc (nearW ws k)
 | [],_=>List.Pairwise.nil
 | w::ws,h=>by
  have h':InW ws:=⟨(W8.1 h.s).2,fun x hx=>h.l x (by simp [hx])⟩
  have ih:=X3i (k:=k) h'
  unfold nearW at *
  rw [List.filterMap_cons]
  cases hw:otW k w with
  | none=>exact ih
  | some v=>
   refine W8.2 ⟨fun x hx=>?_,ih⟩
   obtain ⟨w',hw',he⟩:=List.mem_filterMap.1 hx;obtain ⟨j,hj⟩:=List.mem_iff_getElem?.1 hw';exact Xr0 h (i:=0) (j:=j+1) rfl (by simpa using hj) (by omega) hw he
theorem Xgz:∀ {l:List Int} {v:Int},(∀ x ∈ l,x<v)->putI l v=l++[v]
 | [],v,_=>rfl
 | x::l,v,h=>by
  unfold putI
  rw [Q4 (h x (by simp)),Xgz fun y hy=>h y (by simp [hy])]
  rfl
theorem X7v{ws:List Wr}{k:Int}{j:Nat}{w:Wr}(hj:ws[j]? = some w) : nearW (ws.take (j+1)) k=nearW (ws.take j) k++(otW k w).toList:=by
 unfold nearW
 rw [Qt,hj,Option.toList_some,List.filterMap_append]
 cases h:otW k w<;>simp [h]
theorem Xal{ws:List Wr}{k:Int}{j:Nat}{w:Wr}(hj:ws[j]? = some w)(h1:(k==w.a)=false)(h2:(k==w.b)=false) : nearW (ws.take (j+1)) k=nearW (ws.take j) k:=by
 have e1:¬ k=w.a:=by simpa using h1
 have e2:¬ k=w.b:=by simpa using h2
 rw [X7v hj]
 unfold otW
 rw [Q3 e1,Q3 e2]
 simp
theorem Xde{ws:List Wr}{k:Int}{j:Nat}{w:Wr}(hj:ws[j]? = some w)(h1:(k==w.a)=true) : nearW (ws.take (j+1)) k=nearW (ws.take j) k++[w.b]:=by
 have e1:k=w.a:=by simpa using h1
 rw [X7v hj]
 unfold otW
 rw [Q4 e1]
 rfl
theorem Xe4{ws:List Wr}{k:Int}{j:Nat}{w:Wr}(hj:ws[j]? = some w)(h1:(k==w.a)=false)(h2:(k==w.b)=true) : nearW (ws.take (j+1)) k=nearW (ws.take j) k++[w.a]:=by
 have e1:¬ k=w.a:=by simpa using h1
 have e2:k=w.b:=by simpa using h2
 rw [X7v hj]
 unfold otW
 rw [Q3 e1,Q4 e2]
 rfl
theorem Xee{ws:List Wr}(h:InW ws){k v:Int}{j:Nat}(hj:nearW (ws.take (j+1)) k=nearW (ws.take j) k++[v]) : putI (nearW (ws.take j) k) v=nearW (ws.take j) k++[v]:=by
 have hi:=X3i (k:=k) (ws:=ws.take (j+1)) ⟨h.s.sublist (List.take_sublist _ _),fun w hw=>h.l w (Wd hw)⟩
 rw [hj] at hi
 refine Xgz fun x hx=>?_;exact (List.pairwise_append.1 hi).2.2 x hx v (by simp)
theorem X2e(ws:List Wr)(k:Int) : (nearW ws k).length<=ws.length:=List.length_filterMap_le _ _
theorem X4o{ws:List Wr}{k v:Int} : v ∈ nearW ws k↔∃ w ∈ ws,otW k w=some v:=List.mem_filterMap
theorem X79{α:Type}{l:List α}{q:α->Bool}{k:Nat}{u:α}(h:((l.take k).all fun x=>!q x)=true)(hu:l[k]? = some u)(hq:q u=false) : ((l.take (k+1)).all fun x=>!q x)=true:=by
 rw [Qt,hu,Option.toList_some,List.all_append,h]
 simp [hq]
theorem X9q{α:Type}{l:List α}{q:α->Bool}{k:Nat}(h:((l.take k).all fun x=>!q x)=true)(hk:l.length<=k) : idxF l q = -1:=by
 rw [Qi hk] at h
 rcases X51 l q with h1|⟨j,x,_,h2,h3⟩
 ·exact h1.1
 ·have:=W1.1 h x (Qe h2)
  rw [h3] at this
  cases this
theorem X4f{l:List Wr}{a b:Int}(h:0<=fdW l a b) : ∃ w,l[(fdW l a b).toNat]? = some w/\isW a b w=true/\(fdW l a b).toNat<l.length:=by
 rcases X4j l a b with ⟨h1,_⟩|⟨k,w,h1,h2,h3⟩
 ·omega
 ·rw [h1]
  exact ⟨w,h2,h3,(Qg.1 h2).1⟩
theorem Xa9(l:List Wr)(a b:Int) : fdW l a b<l.length:=by
 rcases X4j l a b with ⟨h1,_⟩|⟨k,w,h1,h2,_⟩
 ·omega
 ·have:=(Qg.1 h2).1;omega
theorem X3w(l:List Wr)(a b:Int)(h:Bool) : (jnW l a b h).length=l.length+1:=Xht _ _
theorem Xb{α:Type}{l:List α}{k:Nat}{d:α}(h:k<l.length) : l[k]? = some (l.getD k d):=by
 rw [Qa,Qc h]
 rfl
theorem Xqu{α:Type}{l:List α}{k:Nat}{d:α}(h:decide ((k:Int)<(l.length:Int))=true) : l[k]? = some (l.getD k d):=Xb (by simpa using h)
theorem Xrb{l:List Wr}{x:Wr}{k:Nat}(ha:((l.take k).all fun y=>wlt y x)=true)(h:(decide ((k:Int)<(l.length:Int))&&wlt (l.getD k wZ) x)=false) : insW l x=l.take k++[x]++l.drop k:=by
 refine Xjv l x k ha fun y hy=>?_;have h1:=(Qg.1 hy).1
 have e:l.getD k wZ=y:=by rw [Qa,hy];rfl
 rw [e,decide_eq_true (by omega),Qw] at h
 exact h
theorem Xrf{l:List Wr}{x:Wr}{k:Nat}(ha:((l.take k).all fun y=>wlt y x)=true)(h:(decide ((k:Int)<(l.length:Int))&&wlt (l.getD k wZ) x)=true) : ((l.take (k+1)).all fun y=>wlt y x)=true/\k+1<=l.length:=by
 rw [Qd,Qr] at h
 have hk:k<l.length:=by omega
 refine ⟨?_,by omega⟩
 rw [Qt,Xb (d:=wZ) hk,Option.toList_some,List.all_append,ha,List.all_cons,h.2]
 rfl
def lkD(d:Dg)(a b:Int)(h:Bool) : Dg:=
 if fdW d.ws a b<0 then { d with ws:=jnW d.ws a b h }
 else if ((d.ws.getD (fdW d.ws a b).toNat wZ).h&&h)=true then { d with ws:=ctW d.ws (fdW d.ws a b).toNat,r:=wr (d.r-2) }
 else if ((d.ws.getD (fdW d.ws a b).toNat wZ).h != h)=true then { d with ns:=adN d.ns (min a b) 4,ws:=jnW (ctW d.ws (fdW d.ws a b).toNat) a b false,r:=wr (d.r-1) }
 else d
def tgD(d:Dg)(a b:Int) : Dg:=
 if 0<=fdW d.ws a b then { d with ws:=ctW d.ws (fdW d.ws a b).toNat,r:=wr (d.r-1) } else { d with ws:=jnW d.ws a b true,r:=wr (d.r+1) }
def mtD(d:Dg)(a b:Int)(h:Bool) : Dg:=if (spI d.ns a&&spI d.ns b)=true then lkD d a b h else { d with ws:=jnW d.ws a b h }
theorem Xpv{d:Dg}{a b:Int}(h:0<=fdW d.ws a b) : tgD d a b = { d with ws:=ctW d.ws (fdW d.ws a b).toNat,r:=wr (d.r-1) }:=Q4 h
theorem Xq5{d:Dg}{a b:Int}(h:¬ 0<=fdW d.ws a b) : tgD d a b = { d with ws:=jnW d.ws a b true,r:=wr (d.r+1) }:=Q3 h
theorem Y0r{d:Dg}{a b:Int}{h:Bool}(h1:fdW d.ws a b<0) : lkD d a b h = { d with ws:=jnW d.ws a b h }:=Q4 h1
theorem Y0c{d:Dg}{a b:Int}{h:Bool}(h1:¬ fdW d.ws a b<0)(h2:((d.ws.getD (fdW d.ws a b).toNat wZ).h&&h)=true) : lkD d a b h = { d with ws:=ctW d.ws (fdW d.ws a b).toNat,r:=wr (d.r-2) }:=by
 unfold lkD;rw [Q3 h1,Q4 h2]
theorem Xxr{d:Dg}{a b:Int}{h:Bool}(h1:¬ fdW d.ws a b<0)(h2:((d.ws.getD (fdW d.ws a b).toNat wZ).h&&h)=false)(h3:((d.ws.getD (fdW d.ws a b).toNat wZ).h != h)=true) : lkD d a b h = { d with ns:=adN d.ns (min a b) 4,ws:=jnW (ctW d.ws (fdW d.ws a b).toNat) a b false,r:=wr (d.r-1) }:=by
 unfold lkD;rw [Q3 h1,Q3 (by rw [h2];decide),Q4 h3]
theorem Xyc{d:Dg}{a b:Int}{h:Bool}(h1:¬ fdW d.ws a b<0)(h2:((d.ws.getD (fdW d.ws a b).toNat wZ).h&&h)=false)(h3:((d.ws.getD (fdW d.ws a b).toNat wZ).h != h)=false) : lkD d a b h=d:=by
 unfold lkD;rw [Q3 h1,Q3 (by rw [h2];decide),Q3 (by rw [h3];decide)]
theorem Xzh{d:Dg}{a b:Int}{h:Bool}(h1:(spI d.ns a&&spI d.ns b)=true) : mtD d a b h=lkD d a b h:=Q4 h1
theorem Xzk{d:Dg}{a b:Int}{h:Bool}(h1:(spI d.ns a&&spI d.ns b)=false) : mtD d a b h = { d with ws:=jnW d.ws a b h }:=Q3 (by rw [h1];decide)
theorem X3k{α:Type}{l:List α}{q:α->Bool}{j:Nat}{u:α}(hu:l[j]? = some u) : (l.take (j+1)).filter q=(l.take j).filter q++(if q u=true then [u] else []):=by
 rw [Qt,hu,Option.toList_some,List.filter_append]
 cases h:q u<;>simp [h]
theorem Xj6{α:Type}{l:List α}{q:α->Bool}{k:Nat}{u:α}(h:(l.take k).all q=true)(hu:l[k]? = some u)(hq:q u=true) : (l.take (k+1)).all q=true:=by
 rw [Qt,hu,Option.toList_some,List.all_append,h]
 simp [hq]
theorem Xk7{α:Type}{l:List α}{q:α->Bool}{k:Nat}{u:α}(hu:l[k]? = some u)(hq:q u=false) : l.all q=false:=by
 rw [List.all_eq_false]
 exact ⟨u,Qe hu,by rw [hq];decide⟩
theorem Xh8{α:Type}{l:List α}{q:α->Bool}{k:Nat}(h:(l.take k).all q=true)(hk:l.length<=k) : l.all q=true:=by rwa [Qi hk] at h
def rdQ(d:Dg)(l:List Int)(i:Nat) : Bool:=spI d.ns (l.getD i 0)&&(l.take i).all fun y=>tyW d.ws (l.getD i 0) y != 1
def rdyD(d:Dg)(l:List Int) : Bool:=(List.range l.length).all (rdQ d l)
def othW(ws:List Wr)(k c:Int) : List Int:=(nearW ws k).filter fun v=>v != c
def hadD(d:Dg)(k:Int) : Bool:=(nearW d.ws k).all fun v=>tyW d.ws k v==2
theorem X5h{q:Nat->Bool}{n k:Nat}(hk:k<n)(hq:q k=false) : (List.range n).all q=false:=by
 rw [List.all_eq_false]
 exact ⟨k,W2.2 hk,by rw [hq];decide⟩
theorem X4s{q:Nat->Bool}{n:Nat}(h:∀ j,j<n->q j=true) : (List.range n).all q=true:=W1.2 fun j hj=>h j (W2.1 hj)
theorem Xm6{N:Nat}{w w':World}{A:Option Addr}{n c:Nat}(hg:w.grownBy w' (Value.slice A n c).ownBlock)(hb:∀ k,ownB A=some k->N<=k) : Keep (some (.base N)) w w':=
 ⟨hg.os,hg.tape,hg.output,hg.size,fun k hk=>hg.block k (by omega) fun e=>by rw [X4r] at e;have:=hb k e.symm;omega⟩
theorem Xam{N:Nat}{w w':World}{A:Option Addr}{n c:Nat}(hg:w.grownBy w' (Value.slice A n c).ownBlock)(hb:∀ k,ownB A=some k->N<=k)(hN:N<=w.heap.size) : Below N w w':=
 ⟨hg.os,hg.tape,hg.output,hg.size,fun k hk=>hg.block k (by omega) fun e=>by rw [X4r] at e;have:=hb k e.symm;omega⟩
def PhN(ns:List Nd) : Prop:=∀ x ∈ ns,0<=x.p/\x.p<=7
theorem X1n{ns:List Nd}(h:PhN ns)(k:Nat) : 0<=(ns.getD k nZ).p/\(ns.getD k nZ).p<=7:=by
 rw [Qa]
 cases hk:ns[k]? with
 | none=>exact ⟨by decide,by decide⟩
 | some x=>exact h x (Qe hk)
theorem Xek{ns:List Nd}(h:PhN ns)(k:Nat){x:Nd}(hx:0<=x.p/\x.p<=7) : PhN (ns.set k x):=fun y hy=>by
 rcases List.mem_or_eq_of_mem_set hy with h1|h1
 ·exact h y h1
 ·rw [h1];exact hx
theorem X68{ns:List Nd}(h:PhN ns)(k m:Int) : PhN (adN ns k m):=Xek h _ ⟨by show 0<=_ % 8;omega,by show _ % 8<=7;omega⟩
theorem X5b{ns:List Nd}(h:PhN ns)(k:Int) : PhN (dpN ns k):=Xek h _ ⟨by decide,by decide⟩
theorem Xmt{n:Nat}{p q:Int}(h:(0<=p/\p.toNat<n)/\(0<=q/\q.toNat<n)) : 0<=min p q/\(min p q).toNat<n:=by
 rcases Int.le_total p q with h1|h1
 ·rw [Int.min_eq_left h1];exact h.1
 ·rw [Int.min_eq_right h1];exact h.2
theorem Y3l{ns:List Nd}(h:PhN ns)(k:Nat){m:Int}(h0:0<=m)(h1:m<=900) : 0<=(ns.getD k nZ).p+m/\(ns.getD k nZ).p+m<=1000:=by have:=X1n h k;omega
theorem tm8{x:Int}(h:0<=x) : x.tmod 8=x % 8:=Int.tmod_eq_emod_of_nonneg h
theorem Y3v{x:Int}(h:0<=x+8) : (x+8).tmod 8=x % 8:=by rw [Int.tmod_eq_emod_of_nonneg h];omega
theorem X0f{ns:List Nd}{k:Int}(h:spI ns k=true) : 0<=k/\k.toNat<ns.length/\(ns.getD k.toNat nZ).k=3:=by
 unfold spI at h
 rw [Qd] at h
 have h1:=X0x.1 h.1;exact ⟨h1.1,by omega,by simpa using h.2⟩
theorem Xa3{ns:List Nd}(a m k:Int) : spI (adN ns a m) k=spI ns k:=by
 unfold spI
 rw [X1u]
 congr 2
 unfold adN
 rw [Qa,Qa,List.getElem?_set]
 split
 ·rename_i h
  split
  ·rename_i h2
   rw [<- h,Qc h2]
   simp [Qa,h2]
  ·rename_i h2
   rw [Qa,List.getElem?_eq_none (l:=ns) (i:=k.toNat) (by omega)]
 ·rw [Qa]
theorem Xs4(w0:World)(x:Wr)(y:Wr) : Ret Tryz.prog 106 [.agg #[vi x.a,vi x.b,.bool x.h],.agg #[vi y.a,vi y.b,.bool y.h]] w0 (fun v w=>v=.bool (wlt x y)/\Below w0.heap.size w0 w):=by
 refine enter Tryz.func106 rfl 24 rfl rfl ?_;intro a f
 have hW:=bz w0
 refine Zs f fun _ a8=>?_;refine Zf (X0n (zs:=[vi x.a,vi x.b,.bool x.h]) rfl rfl) ?_;rintro _ w1 ⟨b2,rfl,aA,hE,e⟩;have aD:=Q0 hW.size aA;have hW:=btr hW hE;refine Zf (X0n (zs:=[vi y.a,vi y.b,.bool y.h]) rfl rfl) ?_;rintro _ w2 ⟨b3,rfl,aB,hE,a6⟩
 have a7:b2≠b3:=by have:=e.lt;omega
 have aE:=Q0 hW.size aB;have e:=e.bw hE;have hW:=btr hW hE;refine Za rfl<|ZX a8 fun a f _ aC=>?_;refine X0b (fun a w=>Fr a 24 [(4,.bool ((decide (x.a<y.a))||((x.a==y.a)&&(decide (x.b<y.b)))))]/\w2=w) ?_ ?_
 ·refine Zr f<|Ze (Vd rfl X0r 0)<|Ze (X0 rfl X7 (e.at 0))<|Ze (Vd rfl X0r 0)<|Ze (X0 rfl X7 (a6.at 0))<|Ze (X0q rfl rfl)<|Zm rfl ?_
  refine Zg 10 rfl (fun c=>?_) (fun c=>?_)
  ·(iterate 6 refine Zp (gP c) ?_);(iterate 5 refine Zp (gP tv0) ?_);refine Zp (gP c) ?_;refine Ze (X4 rfl c rfl)<|Za rfl ?_;refine Zn fun a f=>?_;exact ⟨f.sub ⟨X1 rfl (by simp [c]),trivial⟩,rfl⟩
  refine Zv (gW c) (Vd rfl X0r 0) ?_;refine Zv (gW c) (X0 rfl X7 (e.at 0)) ?_;refine Zv (gW c) (Vd rfl X0r 0) ?_;refine Zv (gW c) (X0 rfl X7 (a6.at 0)) ?_;refine Zv (gW c) (X0m rfl rfl) ?_;refine Zv (gW c) (X3 rfl) ?_
  refine Zg 16 rfl (fun d=>?_) (fun d=>?_)
  ·refine Zv (gW d) (Vd rfl X0s 1) ?_;refine Zv (gW d) (X0 rfl X7 (e.at 1)) ?_;refine Zv (gW d) (Vd rfl X0s 1) ?_;refine Zv (gW d) (X0 rfl X7 (a6.at 1)) ?_;refine Zv (gW d) (X0q rfl rfl) ?_;refine Zv (gW c) (X4 rfl d rfl) ?_;refine Ze (Xe rfl c rfl)<|Za rfl ?_;refine Zn fun a f=>?_;exact ⟨f.sub ⟨X1 rfl (by simp [c,d]),trivial⟩,rfl⟩
  (iterate 5 refine Zp (gP d) ?_);refine Zv (gW c) (Xe rfl d rfl) ?_;refine Ze (Xe rfl c rfl)<|Za rfl ?_;refine Zn fun a f=>?_;exact ⟨f.sub ⟨X1 rfl (by simp [c,d]),trivial⟩,rfl⟩
 rintro a _ ⟨f,rfl⟩;refine aC _ _ ?_
 refine Q6 (X6 f (Xu f rfl rfl) ?_)
 exact ⟨rfl,hW⟩
theorem Xd4(C:World)(Al:Option Addr)(cl:Nat)(l:List Wr)(D:Rd C C.heap.size 83 encWr Al l)(p:Int)(q:Int)(aQ:l.length<=1000000000) : Ret Tryz.prog 132 [.slice Al l.length cl,vi p,vi q] C (fun v w=>v=vi (fdW l p q)/\Below C.heap.size C w):=by
 refine enter Tryz.func132 rfl 32 rfl rfl ?_;intro a d
 have g:=bz C
 refine Zs d fun _ aI=>?_;refine Za rfl<|ZX aI fun a d _ aJ=>?_;refine Zs d fun _ aK=>?_;refine Zm rfl<|Ze (X0c rfl Xt)<|Zm rfl<|Zt aK fun a d=>?_;refine Q8<|X04 (σ:=Nat) (fun (k:Nat) (a:Act) (w:World)=>Fr a 32 [(1,vi p),(2,vi q),(9,.slice Al l.length cl),(10,vi (l.length:Int)),(11,vi (k:Int))]/\(k<=l.length)/\(((l.take k).all fun x=>!isW p q x)=true)/\Below C.heap.size C w) (fun (k:Nat)=>l.length-k) 0 ?_ ?_
 ·exact ⟨d.sb,(Qf _),(by simp),g⟩
 rintro k a w1 ⟨d,hk,o,g⟩;refine Zs d fun _ aL=>?_;refine Ze (X0q rfl rfl)<|ZX aL fun a d _ aM=>?_
 refine Xi d rfl (fun f=>?_) (fun f=>?_)
 ·have t:=f;have f:=Q2 f
  obtain ⟨u8,aR⟩:=X5 (l:=l) (k:=k) (by omega)
  obtain ⟨A,a6⟩:=X5 (l:=l) (k:=k) (by have:=f;omega)
  refine Q7<|aM _ _<|Q5 fun _ aN=>?_;refine Q8<|Zs d fun _ aC=>?_;refine Zm rfl<|Zi (k:=k) (u:=A) (enc:=encWr) (l:=l) tv0 rfl rfl Xt X0d Xz (D.bx g) a6 rfl ?_;intro aS a7;refine Ze (X01 (l:=[vi A.a,vi A.b,.bool A.h]) rfl X16 a7 rfl)<|Zf (Xo (zs:=[vi 0,vi 0,.bool false]) X2m rfl) ?_;rintro _ w2 ⟨aT,rfl,E,j,e⟩;have a8:=Q0 g.size E;have aD:=(D.bx g).away E;have g:=btr g j;refine Za rfl<|Zo (Vw [vi A.a,vi A.b,.bool A.h] X0d e) ?_;rintro _ w3 ⟨ho,hb⟩;have aP:=e;have g:=Below.oy g ho a8;have e:=hb;refine ZX aC fun a d _ aE=>?_;refine X0b (fun a w=>Fr a 32 [(1,vi p),(2,vi q),(7,vi (k:Int)),(9,.slice Al l.length cl),(10,vi (l.length:Int)),(11,vi (k:Int)),(29,.bool ((A.a==(min p q))&&(A.b==(max p q))))]/\Below w3.heap.size w3 w) ?_ ?_
  ·have m:Below w3.heap.size w3 w3:=Below.refl _ _
   refine X00 none (fun _=>false) mixed ?_;intro w4 j;have e:=e.bw j;have g:=btr g j;have m:=btr m j;refine Yb d<|Yo 0 rfl (fun _=>Vd rfl X0r 0)<|Ye 1 rfl (X0 rfl X7 (e.at 0))<|Yo 2 rfl (fun _=>X3 rfl)<|Yo 3 rfl (fun _=>X3 rfl)<|Y1 4 ?_;refine Yk rfl tv0 (Vc (Xmj _ p q) Xc0) (fun _ _ ⟨_,j⟩=>j) ?_;rintro _ w5 ⟨rfl,j⟩;have e:=e.bw j;have g:=btr g j;have m:=btr m j;refine Yo 5 rfl (fun _=>X0m rfl rfl)<|Yo 6 rfl (fun _=>X3 rfl) ?_
   refine Yl 22 rfl (fun c=>?_) (fun c=>?_)
   ·refine Yu 7 rfl (gW c) (fun _=>Vd rfl X0s 1) ?_;refine Yv 8 rfl (gW c) (X0 rfl X7 (e.at 1)) ?_;refine Yu 9 rfl (gW c) (fun _=>X3 rfl) ?_;refine Yu 10 rfl (gW c) (fun _=>X3 rfl) ?_;refine Y1 11<|Yz rfl ⟨_,_,rfl,rfl,c⟩ (Vc (Y0t _ p q) Xjt) ?_;refine Yu 12 rfl (gW c) (fun _=>X0m rfl rfl) ?_;refine Yo 13 rfl (fun _=>X4 rfl c rfl) ?_;refine Yd fun a d=>?_
    have aA:Below w3.heap.size w3 w5:=m
    exact ⟨d.sub ⟨rfl,rfl,rfl,rfl,rfl,rfl,X1 rfl (by simp [t,c]),trivial⟩,aA⟩
   refine Yp 7 rfl (gP c) ?_;refine Yp 8 rfl (gP c) ?_;refine Yp 9 rfl (gP c) ?_;refine Yp 10 rfl (gP c) ?_;refine Y1 11<|Yq rfl ⟨_,_,rfl,rfl,c⟩ ?_;refine Yp 12 rfl (gP c) ?_;refine Yo 13 rfl (fun _=>Xe rfl c rfl) ?_;refine Yd fun a d=>?_
   have aA:Below w3.heap.size w3 w5:=m
   exact ⟨d.sub ⟨rfl,rfl,rfl,rfl,rfl,rfl,X1 rfl (by simp [t,c]),trivial⟩,aA⟩
  rintro a w6 ⟨d,j⟩;have g:=btr g j;refine aE _ _ ?_
  refine Xi d rfl (fun i=>?_) (fun i=>?_)
  ·have aB:=i
   have aF:isW p q A=true:=i
   have B:fdW l p q=(k:Int):=X95 o a6 aF
   refine Zs d fun _ aG=>?_;refine Zm rfl<|Za rfl<|Zt aG fun a d=>?_;refine Q6<|X02<|Xa<|Xa ?_;refine X02<|Xa<|X6 d (Xu d rfl rfl) ?_;exact ⟨by rw [B],g⟩
  have aB:=i
  have aO:isW p q A=false:=i
  refine Q7<|Xc<|aN _ _<|Zr d ?_;refine Ze (Xm rfl rfl (by omega) (by omega))<|Zm rfl ?_;refine Zn fun a d=>?_;refine Xd ?_;exact ⟨k+1,⟨d.sb,(by omega),(X79 o a6 aO),g⟩,(by omega)⟩
 have t:=f;have f:=Q1 f
 have B:fdW l p q = -1:=X9q o (by have:=f;omega)
 refine Q9<|Xk<|Xk<|X03 ?_;refine aJ _ _<|Zs d fun _ aH=>?_;refine Za rfl<|Zt aH fun a d=>?_
 refine Q6 (X6 d (Xu d rfl rfl) ?_)
 exact ⟨by rw [B],g⟩
theorem X91(C:World)(Al:Option Addr)(cl:Nat)(l:List Wr)(m:Rd C C.heap.size 83 encWr Al l)(p:Int)(q:Int)(x:Bool)(b2:l.length<=1000000000)(aB:l.length<=cl) : Ret Tryz.prog 134 [.slice Al l.length cl,vi p,vi q,.bool x] C (fun v w=>∃ A c,v=.slice A (jnW l p q x).length c/\Own w C.heap.size 83 3 encWr A c (jnW l p q x)/\Below C.heap.size C w):=by
 refine enter Tryz.func134 rfl 48 rfl rfl ?_;intro a i
 have f:=bz C
 refine Zs i fun _ aR=>?_;refine Za rfl<|Zx aR fun a i _ aS=>?_;refine Zm rfl<|Zm rfl<|Zf (Vc (Xmj _ p q) Xc0) ?_;rintro _ w1 ⟨rfl,j⟩;have f:=btr f j;refine Zm rfl<|Zm rfl<|Zf (Vc (Y0t _ p q) Xjt) ?_;rintro _ _ ⟨rfl,rfl⟩;refine Zm rfl<|Ze (X0e (ps:=[(0,vi (min p q)),(1,vi (max p q)),(2,.bool x)]) (cs:=[vi (min p q),vi (max p q),.bool x]) rfl (fun _=>by first|rfl|kernel_rfl))<|Zf (Xo (zs:=[vi 0,vi 0,.bool false]) X2m rfl) ?_;rintro _ w2 ⟨b5,rfl,aC,j,e⟩;have aD:=Q0 f.size aC;have aQ:=(m.bx f).away aC;have f:=btr f j;refine Zo (Vw [vi (min p q),vi (max p q),.bool x] X0d e) ?_;rintro _ w3 ⟨ho,hb⟩;have b1:=e;have f:=Below.oy f ho aD;have e:=hb;refine Zx aS fun a i _ aT=>?_;refine Za rfl<|ZX aT fun a i _ aU=>?_;refine Q8<|X04 (σ:=Nat) (fun (k:Nat) (a:Act) (w:World)=>Fr a 48 [(0,.slice Al l.length cl),(9,(pZ9 b5)),(10,vi (k:Int))]/\(k<=l.length)/\(((l.take k).all fun y=>wlt y ⟨min p q,max p q,x⟩)=true)/\Blk w b5 83 [vi (min p q),vi (max p q),.bool x]/\Below C.heap.size C w) (fun (k:Nat)=>l.length-k) 0 ?_ ?_
 ·exact ⟨i.sb,(Qf _),rfl,e,f⟩
 rintro k a w4 ⟨i,hk,M,e,f⟩;refine Q5 fun _ aV=>?_;refine Q5 fun _ aW=>?_;refine X0b (fun a w=>Fr a 48 [(0,.slice Al l.length cl),(9,(pZ9 b5)),(10,vi (k:Int)),(31,.bool (decide ((k:Int)<(l.length:Int))&&wlt (l.getD k wZ) ⟨min p q,max p q,x⟩))]/\Below w4.heap.size w4 w) ?_ ?_
 ·have D:Below w4.heap.size w4 w4:=Below.refl _ _
  refine X00 none (fun _=>false) mixed ?_;intro w5 j;have e:=e.bw j;have f:=btr f j;have D:=btr D j;refine Yb i<|Yo 0 rfl (fun _=>X3 rfl)<|Yo 1 rfl (fun _=>X3 rfl)<|Yo 2 rfl (fun _=>X0c rfl Xt)<|Yo 3 rfl (fun _=>X0q rfl rfl)<|Yo 4 rfl (fun _=>X3 rfl) ?_
  refine Yl 24 rfl (fun d=>?_) (fun d=>?_)
  ·refine Yu 5 rfl (gW d) (fun _=>X3 rfl) ?_;refine Yu 6 rfl (gW d) (fun _=>X3 rfl) ?_;refine Yi (k:=k) (u:=(l.getD k wZ)) (enc:=encWr) (l:=l) 7 rfl ⟨_,_,rfl,rfl,d⟩ rfl rfl Xt X0d Xz (m.bx f) (Xqu (by assumption)) rfl ?_;intro b3 a6;refine Yv 8 rfl (gW d) (X01 (l:=[vi ((l.getD k wZ).a),vi ((l.getD k wZ).b),.bool ((l.getD k wZ).h)]) rfl X16 a6 rfl) ?_;refine Yv 9 rfl (gW d) (Vn X16 e) ?_;refine Y1 10<|Yk rfl ⟨_,_,rfl,rfl,d⟩ (Vc (Xs4 _ (l.getD k wZ) (⟨min p q,max p q,x⟩ : Wr)) Xf9) (fun _ _ ⟨_,j⟩=>j) ?_;rintro _ w6 ⟨rfl,j⟩;have f:=btr f j;have D:=btr D j;refine Yo 11 rfl (fun _=>X4 rfl d rfl) ?_;refine Yd fun a i=>?_
   have a7:Below w4.heap.size w4 w6:=D
   exact ⟨i.sub ⟨rfl,rfl,rfl,X1 rfl (by first|rfl|(simp only [d,bs];done)|simp [d]),trivial⟩,a7⟩
  refine Yp 5 rfl (gP d) ?_;refine Yp 6 rfl (gP d) ?_;refine Yp 7 rfl (gP d) ?_;refine Yp 8 rfl (gP d) ?_;refine Yp 9 rfl (gP d) ?_;refine Y1 10<|Yq rfl ⟨_,_,rfl,rfl,d⟩ ?_;refine Yo 11 rfl (fun _=>Xe rfl d rfl) ?_;refine Yd fun a i=>?_
  have a7:Below w4.heap.size w4 w5:=D
  exact ⟨i.sub ⟨rfl,rfl,rfl,X1 rfl (by first|rfl|(simp only [d,bs];done)|simp [d]),trivial⟩,a7⟩
 rintro a w7 ⟨i,j⟩;have e:=e.bw j;have f:=btr f j;refine aW _ _ ?_
 refine Xi i rfl (fun t=>?_) (fun t=>?_)
 ·have a8:=t;obtain ⟨aX,b4⟩:=Xrf M t;refine Q7<|aV _ _<|Q8<|Zr i ?_;refine Zm rfl<|Ze (Xm rfl rfl (by omega) (by omega))<|Za rfl ?_;refine Zn fun a i=>?_;refine Xc<|Xd ?_;exact ⟨k+1,⟨i.sb,(by omega),aX,e,f⟩,(by omega)⟩
 have a8:=t
 have aE:jnW l p q x=_:=Xrb M t
 refine Q9<|Xk<|Xk<|X03 ?_;refine aU _ _<|Zs i fun _ aF=>?_;refine Zf (Xs (k:=0) (vs:=[]) (zs:=[]) rfl Xt X14 rfl rfl) ?_;rintro _ w8 ⟨b15,rfl,N,j,Q⟩
 have aG:b5≠b15:=by have:=e.lt;omega
 have G:=Q0 f.size N;have aH:=(m.bx f).away N;have e:=e.bw j;have f:=btr f j;refine Zm rfl<|Zm rfl ?_;have aI:=((m.bx f).top).takeK Xz k;refine Ze (X3j (l:=l) (k:=k) rfl rfl Xt X0d rfl hk aB)<|Zf (X0z (enc:=encWr) (l:=([] : List Wr)) (l2:=((l.take k))) (B0:=C.heap.size) rfl rfl Xt X14 Xz X1r (Own.empty Q G) aI (by simp only [maxLen];simp;omega) (by simp;omega) f.size) ?_;rintro _ w9 ⟨b6,b7,rfl,o,L,B⟩
 have g:Own _ C.heap.size 83 3 encWr _ _ ([] : List Wr):=(Own.empty Q G)
 have H:=B _ e.lt (Away.ne (by omega))
 clear B;have e:=e.appA L (Away.ne (by omega));have f:=Below.app f g L (Qb _) f.size;clear g L
 simp only [List.nil_append] at o
 refine Za rfl<|Zx aF fun a i _ aJ=>?_;refine Zm rfl<|Ze (Vn X16 e)<|Zf (Xs (k:=1) (vs:=[.agg #[vi (min p q),vi (max p q),.bool x]]) (zs:=[vi (min p q),vi (max p q),.bool x]) rfl Xt X14 rfl rfl) ?_;rintro _ b8 ⟨b20,rfl,I,j,J⟩
 have aK:b5≠b20:=by have:=e.lt;omega
 have aY:=Q0 f.size I;have aL:=(m.bx f).away I;have E:=o.away I;have e:=e.bw j;have o:=o.bw j;have f:=btr f j;refine Zf (X0z (enc:=encWr) (l:=((l.take k))) (l2:=([(⟨min p q,max p q,x⟩ : Wr)])) (B0:=C.heap.size) rfl rfl Xt X14 Xz X1r o (Rd.of_blk J rfl _ J.lt) (by simp only [maxLen];simp;omega) (by simp;omega) f.size) ?_;rintro _ b9 ⟨bA,bB,rfl,U,L,B⟩
 have g:Own _ C.heap.size 83 3 encWr _ _ ((l.take k)):=o
 have aM:=B _ e.lt H;have aA:=B _ J.lt E;clear B;have f:=Below.app f g L (Qb _) f.size;clear g L;refine Za rfl<|Zx aJ fun a i _ aN=>?_;refine Zm rfl<|Zm rfl<|Zm rfl ?_;have aO:=((m.bx f).top).dropK Xz (c:=cl) aB k;refine Ze (X6i (l:=l) (k:=k) rfl rfl Xt X0d rfl hk)<|Zf (X0z (enc:=encWr) (l:=((l.take k)++([(⟨min p q,max p q,x⟩ : Wr)]))) (l2:=((l.drop k))) (B0:=C.heap.size) rfl rfl Xt X14 Xz X1r U aO (by simp only [maxLen];simp;omega) (by simp;omega) f.size) ?_;rintro _ bC ⟨aZ,b0,rfl,aP,L,B⟩
 have g:Own _ C.heap.size 83 3 encWr _ _ ((l.take k)++([(⟨min p q,max p q,x⟩ : Wr)])):=U
 clear B;have f:=Below.app f g L (Qb _) f.size;clear g L;refine Za rfl<|Zt aN fun a i=>?_
 refine Q6 (X6 i (Xu i rfl rfl) ?_)
 rw [aE]
 exact ⟨aZ,b0,rfl,aP,f⟩
theorem Xhg(e:World)(Al:Option Addr)(cl:Nat)(l:List Wr)(f:Rd e e.heap.size 83 encWr Al l)(p:Int)(aL:l.length<=1000000000)(a8:l.length<=cl)(aM:0<=p/\p<(l.length:Int)) : Ret Tryz.prog 133 [.slice Al l.length cl,vi p] e (fun v w=>∃ A c,v=.slice A (ctW l p.toNat).length c/\Own w e.heap.size 83 3 encWr A c (ctW l p.toNat)/\Below e.heap.size e w):=by
 refine enter Tryz.func133 rfl 17 rfl rfl ?_;intro a hf
 have d:=bz e
 refine Zs hf fun _ aF=>?_;refine Za rfl<|Zx aF fun a hf _ aG=>?_;refine Zf (Xs (k:=0) (vs:=[]) (zs:=[]) rfl Xt X14 rfl rfl) ?_;rintro _ w1 ⟨b5,rfl,aA,hE,aB⟩;have g:=Q0 d.size aA;have aE:=(f.bx d).away aA;have d:=btr d hE;refine Zm rfl<|Zm rfl ?_;have aH:=((f.bx d).top).takeK Xz p.toNat;refine Ze (X3j (l:=l) (k:=p.toNat) rfl rfl Xt X0d (by omega) (by omega) a8)<|Zf (X0z (enc:=encWr) (l:=([] : List Wr)) (l2:=((l.take p.toNat))) (B0:=e.heap.size) rfl rfl Xt X14 Xz X1r (Own.empty aB g) aH (by simp only [maxLen];simp;omega) (by simp;omega) d.size) ?_;rintro _ w2 ⟨A8,c8,rfl,a6,hg,a7⟩
 have b:Own _ e.heap.size 83 3 encWr _ _ ([] : List Wr):=(Own.empty aB g)
 clear a7;have d:=Below.app d b hg (Qb _) d.size;clear b hg
 simp only [List.nil_append] at a6
 refine Za rfl<|Zx aG fun a hf _ aI=>?_;refine Zm rfl<|Zm rfl<|Zm rfl<|Ze (Xm rfl rfl (by omega) (by omega)) ?_;have aC:=((f.bx d).top).dropK Xz (c:=cl) a8 (p.toNat+1);refine Ze (X6i (l:=l) (k:=(p.toNat+1)) rfl rfl Xt X0d (by omega) (by omega))<|Zf (X0z (enc:=encWr) (l:=((l.take p.toNat))) (l2:=((l.drop (p.toNat+1)))) (B0:=e.heap.size) rfl rfl Xt X14 Xz X1r a6 aC (by simp only [maxLen];simp;omega) (by simp;omega) d.size) ?_;rintro _ w3 ⟨aJ,aK,rfl,aD,hg,a7⟩
 have b:Own _ e.heap.size 83 3 encWr _ _ ((l.take p.toNat)):=a6
 clear a7;have d:=Below.app d b hg (Qb _) d.size;clear b hg;refine Za rfl<|Zt aI fun a hf=>?_
 refine Q6 (X6 hf (Xu hf rfl rfl) ?_)
 exact ⟨aJ,aK,rfl,aD,d⟩
theorem Xar(x:World)(d:Dg)(md:Nat)(o:md=d.ns.length)(Ad:Option Addr)(cd:Nat)(a6:Nat)(b:Own x a6 81 2 encNd Ad cd d.ns)(aJ:a6<=x.heap.size)(Bd:Option Addr)(dd:Nat)(c:Rd x x.heap.size 83 encWr Bd d.ws)(a7:d.ws.length<=dd)(p:Int)(q:Int)(a8:0<=p/\p.toNat<d.ns.length)(aE:0<=(d.ns.getD p.toNat nZ).p+q/\(d.ns.getD p.toNat nZ).p+q<=1000) : Ret Tryz.prog 211 [.agg #[vi d.n,.slice Ad md cd,.slice Bd d.ws.length dd,vi d.t,vi d.r],vi p,vi q] x (fun v w=>∃ A' c',v=.agg #[vi ({ d with ns:=adN d.ns p q } : Dg).n,.slice Ad md cd,.slice A' ({ d with ns:=adN d.ns p q } : Dg).ws.length c',vi ({ d with ns:=adN d.ns p q } : Dg).t,vi ({ d with ns:=adN d.ns p q } : Dg).r]/\Own w a6 81 2 encNd Ad cd ({ d with ns:=adN d.ns p q } : Dg).ns/\Rd w w.heap.size 83 encWr A' ({ d with ns:=adN d.ns p q } : Dg).ws/\({ d with ns:=adN d.ns p q } : Dg).ws.length<=c'/\md=({ d with ns:=adN d.ns p q } : Dg).ns.length/\x.grownBy w (Value.slice Ad d.ns.length cd).ownBlock):=by
 refine enter Tryz.func211 rfl 22 rfl rfl ?_;intro a h
 have m:x.grownBy x (Value.slice Ad d.ns.length cd).ownBlock:=World.grownBy.refl _ _
 refine Zs h fun _ aF=>?_;refine Zf (X0n (zs:=[vi d.n,.slice Ad md cd,.slice Bd d.ws.length dd,vi d.t,vi d.r]) rfl rfl) ?_;rintro _ w1 ⟨b4,rfl,aG,g,e⟩;have aK:=Q0 m.size aG;have b:=b.bw g;have c:=c.bw g;have m:=gbel m g;refine Zf (Xo (zs:=[vi 0,.slice none 0 0,.slice none 0 0,vi 0,vi 0]) X0o rfl) ?_;rintro _ w2 ⟨b7,rfl,aH,g,f⟩
 have aD:b4≠b7:=by have:=e.lt;omega
 have aA:=Q0 m.size aH;have e:=e.bw g;have b:=b.bw g;have c:=c.bw g;have m:=gbel m g;refine ZX aF fun a h _ aI=>?_;refine X00 none (fun j=>[14].contains j) mixed ?_;intro w3 g;have e:=e.bw g;have f:=f.bw g;have b:=b.bw g;have c:=c.bw g;have m:=gbel m g;refine Yb h<|Yo 0 rfl (fun _=>Vd rfl Xg 1)<|Ye 1 rfl (X0 rfl Xy (e.at 1))<|Yo 2 rfl (fun _=>X3 rfl)<|Yo 3 rfl (fun _=>Vd rfl Xg 1)<|Ye 4 rfl (X0 rfl Xy (e.at 1))<|Yo 5 rfl (fun _=>X3 rfl)<|Yj (k:=p.toNat) (u:=(d.ns.getD p.toNat nZ)) (enc:=encNd) (l:=d.ns) 6 rfl tv0 rfl o rfl Xl X08 Xw b.rd (Xb a8.2) (by omega) ?_;intro aL aB;refine Yo 7 rfl (fun _=>X2l rfl X06)<|Ye 8 rfl (X0 rfl X7 (aB.drop 1))<|Yo 9 rfl (fun _=>X3 rfl)<|Yo 10 rfl (fun _=>Xm rfl rfl (by omega) (by omega))<|Yo 11 rfl (fun _=>Vx (X33 rfl rfl rfl) (tm8 aE.1))<|Yo 12 rfl (fun _=>Xx (k:=p.toNat) rfl rfl Xl X08 b o (by omega) (by omega))<|Yo 13 rfl (fun _=>X12 rfl X06 (m':=p.toNat*2+1) rfl)<|Y1 14 ?_;refine Yh rfl tv0 rfl (X17 (enc:=encNd) (l:=d.ns) (vs:=[vi (((d.ns.getD p.toNat nZ).p+q) % 8)]) (x0:=(d.ns.getD p.toNat nZ)) (u:=(⟨(d.ns.getD p.toNat nZ).k,(((d.ns.getD p.toNat nZ).p+q) % 8)⟩ : Nd)) (k:=p.toNat) (j:=1) (n1:=1) rfl rfl X09 b Xw rfl rfl rfl rfl (by decide) (Xb a8.2) rfl) ?_;rintro _ w4 ⟨A,hg⟩;have i:=b;have e:=e.appT i hg rfl;have f:=f.appT i hg rfl;have c:=c.appT i hg rfl;have m:=gtr m hg
 clear i hg;clear b;have b:=A;clear A;refine Yd fun a h=>?_;refine aI _ _<|Zs h fun _ aC=>?_;refine Ze (Vn X2 e)<|Zo (Vw [vi d.n,.slice Ad md cd,.slice Bd d.ws.length dd,vi d.t,vi d.r] Xf f) ?_;rintro _ w5 ⟨ho,hb⟩;have B:=f;have c:=c.oT ho B rfl;have b:=b.oT ho B rfl;have m:=gonly m ho aA;have f:=hb;refine Zt aC fun a h=>?_
 refine Q6 (X6 h (Xu h rfl (ResV.cellN (l:=[vi d.n,.slice Ad md cd,.slice Bd d.ws.length dd,vi d.t,vi d.r]) rfl X2 (f.at 0) rfl)) ?_)
 exact ⟨Bd,dd,rfl,b,c.top,a7,o.trans (X1u _ _ _).symm,m⟩
theorem Xa0(p:World)(d:Dg)(md:Nat)(a7:md=d.ns.length)(Ad:Option Addr)(cd:Nat)(H:Rd p p.heap.size 81 encNd Ad d.ns)(Bd:Option Addr)(dd:Nat)(I:Rd p p.heap.size 83 encWr Bd d.ws)(aL:d.ws.length<=dd)(aM:d.ns.length<=1000000000/\d.ws.length<=1000000000) : Ret Tryz.prog 82 [.agg #[vi d.n,.slice Ad md cd,.slice Bd d.ws.length dd,vi d.t,vi d.r]] p (fun v w=>∃ A c B e,v=.agg #[vi d.n,.slice A d.ns.length c,.slice B d.ws.length e,vi d.t,vi d.r]/\Own w p.heap.size 81 2 encNd A c d.ns/\Own w p.heap.size 83 3 encWr B e d.ws/\Below p.heap.size p w):=by
 subst a7
 refine enter Tryz.func82 rfl 14 rfl rfl ?_;intro a hf
 have j:=bz p
 refine Zs hf fun _ aH=>?_;refine Zf (X0n (zs:=[vi d.n,.slice Ad d.ns.length cd,.slice Bd d.ws.length dd,vi d.t,vi d.r]) rfl rfl) ?_;rintro _ w1 ⟨b4,rfl,aI,q,b⟩;have J:=Q0 j.size aI;have j:=btr j q;refine Zf (Xo (zs:=[vi 0,.slice none 0 0,.slice none 0 0,vi 0,vi 0]) X0o rfl) ?_;rintro _ w2 ⟨b7,rfl,aJ,q,g⟩
 have aF:b4≠b7:=by have:=b.lt;omega
 have a8:=Q0 j.size aJ;have b:=b.bw q;have j:=btr j q;refine Zx aH fun a hf _ aK=>?_;refine Zf (Xs (k:=0) (vs:=[]) (zs:=[]) rfl Xl X26 rfl rfl) ?_;rintro _ w3 ⟨b9,rfl,aA,q,aB⟩;have L:=Q0 j.size aA;have aG:=(H.bx j).away aA;have b:=b.bw q;have g:=g.bw q;have j:=btr j q;refine Ze (Vd rfl Xg 1)<|Ze (X0 rfl Xy (b.at 1))<|Zf (X0z (enc:=encNd) (l:=([] : List Nd)) (l2:=(d.ns)) (B0:=p.heap.size) rfl rfl Xl X26 Xw X37 (Own.empty aB L) (H.bx j) (by simp only [maxLen];simp;omega) (by simp;omega) j.size) ?_;rintro _ w4 ⟨u,x,rfl,f,G,a6⟩
 have i:Own _ p.heap.size 81 2 encNd _ _ ([] : List Nd):=(Own.empty aB L)
 clear a6;have b:=b.appT i G rfl;have g:=g.appT i G rfl;have j:=Below.app j i G (Qb _) j.size;clear i G
 simp only [List.nil_append] at f
 refine Ze (Vd rfl Xg 1)<|Zo (Vu (vs:=[.slice u d.ns.length x]) (l':=[vi d.n,.slice u d.ns.length x,.slice Bd d.ws.length dd,vi d.t,vi d.r]) rfl rfl X50 b) ?_;rintro _ w5 ⟨h,hb⟩;have m:=b;have g:=g.oy h (by omega);have f:=f.oT h m rfl;have j:=Below.oy j h J;have b:=hb;refine Zx aK fun a hf _ aC=>?_;refine Zf (Xs (k:=0) (vs:=[]) (zs:=[]) rfl Xt X14 rfl rfl) ?_;rintro _ w6 ⟨aN,rfl,M,q,N⟩;have C:=Q0 j.size M;have aD:=(I.bx j).away M;have b:=b.bw q;have g:=g.bw q;have f:=f.bw q;have j:=btr j q;refine Ze (Vd rfl Xn 2)<|Ze (X0 rfl X0g (b.at 2))<|Zf (X0z (enc:=encWr) (l:=([] : List Wr)) (l2:=(d.ws)) (B0:=p.heap.size) rfl rfl Xt X14 Xz X1r (Own.empty N C) (I.bx j) (by simp only [maxLen];simp;omega) (by simp;omega) j.size) ?_;rintro _ w7 ⟨D,E,rfl,o,G,a6⟩
 have i:Own _ p.heap.size 83 3 encWr _ _ ([] : List Wr):=(Own.empty N C)
 clear a6;have b:=b.appT i G rfl;have g:=g.appT i G rfl;have f:=f.appT i G rfl;have j:=Below.app j i G (Qb _) j.size;clear i G
 simp only [List.nil_append] at o
 refine Ze (Vd rfl Xn 2)<|Zo (Vu (vs:=[.slice D d.ws.length E]) (l':=[vi d.n,.slice u d.ns.length x,.slice D d.ws.length E,vi d.t,vi d.r]) rfl rfl X1k b) ?_;rintro _ w8 ⟨h,hb⟩;have m:=b;have g:=g.oy h (by omega);have f:=f.oT h m rfl;have o:=o.oT h m rfl;have j:=Below.oy j h J;have b:=hb;refine Zx aC fun a hf _ aE=>?_;refine Ze (Vn X2 b)<|Zo (Vw [vi d.n,.slice u d.ns.length x,.slice D d.ws.length E,vi d.t,vi d.r] Xf g) ?_;rintro _ w9 ⟨h,hb⟩;have m:=g;have f:=f.oT h m rfl;have o:=o.oT h m rfl;have j:=Below.oy j h a8;have g:=hb;refine Zt aE fun a hf=>?_
 refine Q6 (X6 hf (Xu hf rfl (ResV.cellN (l:=[vi d.n,.slice u d.ns.length x,.slice D d.ws.length E,vi d.t,vi d.r]) rfl X2 (g.at 0) rfl)) ?_)
 exact ⟨u,x,D,E,rfl,f,o,j⟩
theorem X5d(e:World)(d:Dg)(md:Nat)(f:md=d.ns.length)(Ad:Option Addr)(cd:Nat)(a6:Rd e e.heap.size 81 encNd Ad d.ns)(Bd:Option Addr)(dd:Nat)(aD:Rd e e.heap.size 83 encWr Bd d.ws)(aE:d.ws.length<=dd)(p:Int)(hN:md<=1000) : Ret Tryz.prog 78 [.agg #[vi d.n,.slice Ad md cd,.slice Bd d.ws.length dd,vi d.t,vi d.r],vi p] e (fun v w=>v=.bool (spI d.ns p)/\Below e.heap.size e w):=by
 refine enter Tryz.func78 rfl 20 rfl rfl ?_;intro a c
 have hW:=bz e
 refine Zs c fun _ aA=>?_;refine Zf (X0n (zs:=[vi d.n,.slice Ad md cd,.slice Bd d.ws.length dd,vi d.t,vi d.r]) rfl rfl) ?_;rintro _ w1 ⟨b4,rfl,aB,hE,a7⟩;have aF:=Q0 hW.size aB;have hW:=btr hW hE;refine Za rfl<|ZX aA fun a c _ aC=>?_;refine X0b (fun a w=>Fr a 20 [(4,.bool ((inR p 0 ((md:Int)-1))&&(((d.ns.getD p.toNat nZ).k)==3)))]/\w1=w) ?_ ?_
 ·refine Zr c<|Zm rfl<|Ze (Vd rfl Xg 1)<|Ze (X0 rfl Xy (a7.at 1))<|Ze (X0c rfl Xl)<|Ze (X11 rfl rfl (by omega) (by omega))<|Zf (Vc (F85 _ p 0 ((md:Int)-1)) X6a) ?_;rintro _ _ ⟨rfl,rfl⟩;refine Zm rfl ?_
  refine Zg 11 rfl (fun b=>?_) (fun b=>?_)
  ·have aG:=X0x.1 b;refine Zv (gW b) (Vd rfl Xg 1) ?_;refine Zv (gW b) (X0 rfl Xy (a7.at 1)) ?_;refine Zv (gW b) (X3 rfl) ?_;refine Zj (k:=p.toNat) (u:=(d.ns.getD p.toNat nZ)) (enc:=encNd) (l:=d.ns) ⟨_,_,rfl,rfl,b⟩ rfl f rfl Xl X08 Xw (a6.bx hW) (Xb (by omega)) (by omega) ?_;intro p8 a8;refine Zv (gW b) (X2l rfl X0v) ?_;refine Zv (gW b) (X0 rfl X7 (a8.drop 0)) ?_;refine Zv (gW b) (X0m rfl rfl) ?_;refine Ze (X4 rfl b rfl)<|Za rfl ?_;refine Zn fun a c=>?_;exact ⟨c.sub ⟨X1 rfl (by simp [b]),trivial⟩,rfl⟩
  (iterate 7 refine Zp (gP b) ?_);refine Ze (Xe rfl b rfl)<|Za rfl ?_;refine Zn fun a c=>?_;exact ⟨c.sub ⟨X1 rfl (by simp [b]),trivial⟩,rfl⟩
 rintro a _ ⟨c,rfl⟩;refine aC _ _ ?_
 refine Q6 (X6 c (Xu c rfl rfl) ?_)
 exact ⟨by unfold spI;rw [f],hW⟩
theorem X83(i:World)(d:Dg)(md:Nat)(aL:md=d.ns.length)(Ad:Option Addr)(cd:Nat)(aM:Rd i i.heap.size 81 encNd Ad d.ns)(Bd:Option Addr)(dd:Nat)(j:Rd i i.heap.size 83 encWr Bd d.ws)(aN:d.ws.length<=dd)(p:Int)(q:Int)(aE:d.ws.length<=1000000000) : Ret Tryz.prog 79 [.agg #[vi d.n,.slice Ad md cd,.slice Bd d.ws.length dd,vi d.t,vi d.r],vi p,vi q] i (fun v w=>v=vi (tyW d.ws p q)/\Below i.heap.size i w):=by
 have aO:=Xa9 d.ws p q;refine enter Tryz.func79 rfl 23 rfl rfl ?_;intro a b
 have f:=bz i
 refine Zs b fun _ aF=>?_;refine Zf (X0n (zs:=[vi d.n,.slice Ad md cd,.slice Bd d.ws.length dd,vi d.t,vi d.r]) rfl rfl) ?_;rintro _ w1 ⟨b4,rfl,aG,hE,g⟩;have aP:=Q0 f.size aG;have f:=btr f hE;refine Za rfl<|Zx aF fun a b _ aH=>?_;refine Ze (Vd rfl Xn 2)<|Ze (X0 rfl X0g (g.at 2))<|Zm rfl<|Zm rfl<|Zf (Vc (Xd4 _ Bd dd d.ws (j.bx f).top p q aE) X7m) ?_;rintro _ w2 ⟨rfl,hE⟩;have g:=g.bw hE;have f:=btr f hE;refine Za rfl<|ZX aH fun a b _ aI=>?_;refine Q8<|Zs b fun _ aJ=>?_;refine Zm rfl<|Ze (X0q rfl rfl)<|Za rfl<|Zt aJ fun a b=>?_
 refine Xi b rfl (fun c=>?_) (fun c=>?_)
 ·have a8:=c;have c:=Q2 c
  have hz:tyW d.ws p q=0:=by unfold tyW;exact Q4 (by simpa using c)
  refine Zs b fun _ aK=>?_;refine Za rfl<|Zt aK fun a b=>?_;refine Q6<|X02<|Xa<|X6 b (Xu b rfl rfl) ?_;exact ⟨by rw [hz],f⟩
 have a8:=c;have c:=Q1 c
 have aQ:0<=fdW d.ws p q:=by have h9:=c;simp at h9;omega
 have aA:tyW d.ws p q=if (d.ws.getD (fdW d.ws p q).toNat wZ).h=true then 2 else 1:=by unfold tyW;exact Q3 (by omega)
 refine Zs b fun _ aB=>?_;refine Ze (Vd rfl Xn 2)<|Ze (X0 rfl X0g (g.at 2))<|Zm rfl<|Zi (k:=(fdW d.ws p q).toNat) (u:=(d.ws.getD (fdW d.ws p q).toNat wZ)) (enc:=encWr) (l:=d.ws) tv0 rfl rfl Xt X0d Xz (j.bx f) (Xb (by omega)) (by omega) ?_;intro aR a6;refine Ze (X2l rfl X3b)<|Ze (X0 rfl X6t (a6.drop 2))<|Za rfl<|Zt aB fun a b=>?_
 refine Xi b rfl (fun e=>?_) (fun e=>?_)
 ·have a7:=e
  have hz:tyW d.ws p q=2:=by rw [aA];exact Q4 e
  refine Zs b fun _ aC=>?_;refine Za rfl<|Zt aC fun a b=>?_;refine Q6<|X02<|Xa<|X6 b (Xu b rfl rfl) ?_;exact ⟨by rw [hz],f⟩
 have a7:=e
 have hz:tyW d.ws p q=1:=by rw [aA];exact Q3 (by rw [e];decide)
 refine Q7<|Xc<|aI _ _<|Zs b fun _ aD=>?_;refine Za rfl<|Zt aD fun a b=>?_
 refine Q6 (X6 b (Xu b rfl rfl) ?_)
 exact ⟨by rw [hz],f⟩
theorem Xks(G:World)(d:Dg)(md:Nat)(H:md=d.ns.length)(Ad:Option Addr)(cd:Nat)(a6:Nat)(b:Own G a6 81 2 encNd Ad cd d.ns)(aO:a6<=G.heap.size)(Bd:Option Addr)(dd:Nat)(j:Rd G G.heap.size 83 encWr Bd d.ws)(I:d.ws.length<=dd)(p:Int)(q:Int)(aP:d.ws.length<=999999999) : Ret Tryz.prog 81 [.agg #[vi d.n,.slice Ad md cd,.slice Bd d.ws.length dd,vi d.t,vi d.r],vi p,vi q] G (fun v w=>∃ A' c',v=.agg #[vi (tgD d p q).n,.slice Ad md cd,.slice A' (tgD d p q).ws.length c',vi (tgD d p q).t,vi (tgD d p q).r]/\Own w a6 81 2 encNd Ad cd (tgD d p q).ns/\Rd w w.heap.size 83 encWr A' (tgD d p q).ws/\(tgD d p q).ws.length<=c'/\md=(tgD d p q).ns.length/\G.grownBy w (Value.slice Ad d.ns.length cd).ownBlock):=by
 have aA:=Xa9 d.ws p q;refine enter Tryz.func81 rfl 36 rfl rfl ?_;intro a x
 have m:G.grownBy G (Value.slice Ad d.ns.length cd).ownBlock:=World.grownBy.refl _ _
 refine Zs x fun _ aJ=>?_;refine Zf (X0n (zs:=[vi d.n,.slice Ad md cd,.slice Bd d.ws.length dd,vi d.t,vi d.r]) rfl rfl) ?_;rintro _ w1 ⟨b4,rfl,aK,u,c⟩;have h:=Q0 m.size aK;have b:=b.bw u;have j:=j.bw u;have m:=gbel m u;refine Zf (Xo (zs:=[vi 0,.slice none 0 0,.slice none 0 0,vi 0,vi 0]) X0o rfl) ?_;rintro _ w2 ⟨b7,rfl,aL,u,f⟩
 have aI:b4≠b7:=by have:=c.lt;omega
 have J:=Q0 m.size aL;have c:=c.bw u;have b:=b.bw u;have j:=j.bw u;have m:=gbel m u;refine ZX aJ fun a x _ aM=>?_;refine Zs x fun _ aN=>?_;refine Ze (Vd rfl Xn 2)<|Ze (X0 rfl X0g (c.at 2))<|Zm rfl<|Zm rfl<|Zf (Vc (Xd4 _ Bd dd d.ws j.top p q (by omega)) X7m) ?_;rintro _ w3 ⟨rfl,u⟩;have c:=c.bw u;have f:=f.bw u;have b:=b.bw u;have j:=j.bw u;have m:=gbel m u;refine Za rfl<|Zx aN fun a x _ aB=>?_;refine Zm rfl<|Ze (X5g rfl rfl)<|Zt aB fun a x=>?_
 refine Xi x rfl (fun k=>?_) (fun k=>?_)
 ·have a7:=k;have k:=Q2 k;have a8:=Xpv k;refine Zs x fun _ aC=>?_;refine Ze (Vd rfl Xn 2)<|Ze (X0 rfl X0g (c.at 2))<|Zm rfl<|Zf (Vc (Xhg _ Bd dd d.ws j.top (fdW d.ws p q) (by omega) I ⟨by omega,aA⟩) X8c) ?_;rintro _ w4 ⟨A,B,rfl,g,u⟩;have g:=g.lower m.size;have c:=c.bw u;have f:=f.bw u;have b:=b.bw u;have m:=gbel m u;refine Ze (Vd rfl Xn 2)<|Zo (Vu (vs:=[.slice A (ctW d.ws (fdW d.ws p q).toNat).length B]) (l':=[vi d.n,.slice Ad md cd,.slice A (ctW d.ws (fdW d.ws p q).toNat).length B,vi d.t,vi d.r]) rfl rfl X1k c) ?_;rintro _ w5 ⟨o,E⟩;have e:=c;have f:=f.oy o (by omega);have b:=b.oT o e rfl;have g:=g.oT o e rfl;have m:=gonly m o h;have c:=E;refine Zx aC fun a x _ aD=>?_;refine Ze (Vd rfl X07 4)<|Ze (X0 rfl X7 (c.at 4))<|Ze (X6m rfl rfl)<|Ze (Vd rfl X07 4)<|Zo (Vu (vs:=[vi (wr (d.r-1))]) (l':=[vi d.n,.slice Ad md cd,.slice A (ctW d.ws (fdW d.ws p q).toNat).length B,vi d.t,vi (wr (d.r-1))]) rfl rfl X09 c) ?_;rintro _ w6 ⟨o,E⟩;have e:=c;have f:=f.oy o (by omega);have b:=b.oT o e rfl;have g:=g.oT o e rfl;have m:=gonly m o h;have c:=E;refine Zx aD fun a x _ aE=>?_;refine Ze (Vn X2 c)<|Zo (Vw [vi d.n,.slice Ad md cd,.slice A (ctW d.ws (fdW d.ws p q).toNat).length B,vi d.t,vi (wr (d.r-1))] Xf f) ?_;rintro _ w7 ⟨o,E⟩;have e:=f;have b:=b.oT o e rfl;have g:=g.oT o e rfl;have m:=gonly m o J;have f:=E;refine Zt aE fun a x=>?_;refine Q6<|Xa ?_
  refine X6 x (Xu x rfl (ResV.cellN (l:=[vi d.n,.slice Ad md cd,.slice A (ctW d.ws (fdW d.ws p q).toNat).length B,vi d.t,vi (wr (d.r-1))]) rfl X2 (f.at 0) rfl)) ?_
  rw [a8]
  exact ⟨A,B,rfl,b,g.rd.top,g.cap,H,m⟩
 have a7:=k;have k:=Q1 k;have a8:=Xq5 k;refine Q7<|aM _ _<|Zs x fun _ aF=>?_;refine Ze (Vd rfl Xn 2)<|Ze (X0 rfl X0g (c.at 2))<|Zm rfl<|Zm rfl<|Zf (Vc (X91 _ Bd dd d.ws j.top p q true (by omega) I) X4t) ?_;rintro _ w8 ⟨C,D,rfl,i,u⟩;have i:=i.lower m.size;have c:=c.bw u;have f:=f.bw u;have b:=b.bw u;have m:=gbel m u;refine Ze (Vd rfl Xn 2)<|Zo (Vu (vs:=[.slice C (jnW d.ws p q true).length D]) (l':=[vi d.n,.slice Ad md cd,.slice C (jnW d.ws p q true).length D,vi d.t,vi d.r]) rfl rfl X1k c) ?_;rintro _ w9 ⟨o,E⟩;have e:=c;have f:=f.oy o (by omega);have b:=b.oT o e rfl;have i:=i.oT o e rfl;have m:=gonly m o h;have c:=E;refine Zx aF fun a x _ aG=>?_;refine Ze (Vd rfl X07 4)<|Ze (X0 rfl X7 (c.at 4))<|Ze (X2n rfl rfl)<|Ze (Vd rfl X07 4)<|Zo (Vu (vs:=[vi (wr (d.r+1))]) (l':=[vi d.n,.slice Ad md cd,.slice C (jnW d.ws p q true).length D,vi d.t,vi (wr (d.r+1))]) rfl rfl X09 c) ?_;rintro _ aQ ⟨o,E⟩;have e:=c;have f:=f.oy o (by omega);have b:=b.oT o e rfl;have i:=i.oT o e rfl;have m:=gonly m o h;have c:=E;refine Zx aG fun a x _ aH=>?_;refine Ze (Vn X2 c)<|Zo (Vw [vi d.n,.slice Ad md cd,.slice C (jnW d.ws p q true).length D,vi d.t,vi (wr (d.r+1))] Xf f) ?_;rintro _ aR ⟨o,E⟩;have e:=f;have b:=b.oT o e rfl;have i:=i.oT o e rfl;have m:=gonly m o J;have f:=E;refine Zt aH fun a x=>?_
 refine Q6 (X6 x (Xu x rfl (ResV.cellN (l:=[vi d.n,.slice Ad md cd,.slice C (jnW d.ws p q true).length D,vi d.t,vi (wr (d.r+1))]) rfl X2 (f.at 0) rfl)) ?_)
 rw [a8]
 exact ⟨C,D,rfl,b,i.rd.top,i.cap,H,m⟩
theorem Y2a(w0:World)(d:Dg)(md:Nat)(E:md=d.ns.length)(Ad:Option Addr)(cd:Nat)(aH:Nat)(b:Own w0 aH 81 2 encNd Ad cd d.ns)(aQ:aH<=w0.heap.size)(Bd:Option Addr)(dd:Nat)(A:Rd w0 w0.heap.size 83 encWr Bd d.ws)(W:d.ws.length<=dd)(p:Int)(q:Int)(x:Bool)(bH:d.ws.length<=999999999)(b8:(0<=p/\p.toNat<d.ns.length)/\(0<=q/\q.toNat<d.ns.length))(hP:PhN d.ns) : Ret Tryz.prog 232 [.agg #[vi d.n,.slice Ad md cd,.slice Bd d.ws.length dd,vi d.t,vi d.r],vi p,vi q,.bool x] w0 (fun v w=>∃ A' c',v=.agg #[vi (lkD d p q x).n,.slice Ad md cd,.slice A' (lkD d p q x).ws.length c',vi (lkD d p q x).t,vi (lkD d p q x).r]/\Own w aH 81 2 encNd Ad cd (lkD d p q x).ns/\Rd w w.heap.size 83 encWr A' (lkD d p q x).ws/\(lkD d p q x).ws.length<=c'/\md=(lkD d p q x).ns.length/\w0.grownBy w (Value.slice Ad d.ns.length cd).ownBlock):=by
 have aI:=Xa9 d.ws p q;refine enter Tryz.func232 rfl 68 rfl rfl ?_;intro a m
 have g:w0.grownBy w0 (Value.slice Ad d.ns.length cd).ownBlock:=World.grownBy.refl _ _
 refine Zs m fun _ b9=>?_;refine Zf (X0n (zs:=[vi d.n,.slice Ad md cd,.slice Bd d.ws.length dd,vi d.t,vi d.r]) rfl rfl) ?_;rintro _ w1 ⟨b4,rfl,bA,i,c⟩;have L:=Q0 g.size bA;have b:=b.bw i;have A:=A.bw i;have g:=gbel g i;refine Zf (Xo (zs:=[vi 0,.slice none 0 0,.slice none 0 0,vi 0,vi 0]) X0o rfl) ?_;rintro _ w2 ⟨b7,rfl,bB,i,e⟩
 have b6:b4≠b7:=by have:=c.lt;omega
 have a6:=Q0 g.size bB;have c:=c.bw i;have b:=b.bw i;have A:=A.bw i;have g:=gbel g i;refine Zx b9 fun a m _ bC=>?_;refine Ze (Vd rfl Xn 2)<|Ze (X0 rfl X0g (c.at 2))<|Zm rfl<|Zm rfl<|Zf (Vc (Xd4 _ Bd dd d.ws A.top p q (by omega)) X7m) ?_;rintro _ w3 ⟨rfl,i⟩;have c:=c.bw i;have e:=e.bw i;have b:=b.bw i;have A:=A.bw i;have g:=gbel g i;refine Za rfl<|ZX bC fun a m _ bD=>?_;refine Zs m fun _ aR=>?_;refine Zm rfl<|Ze (X0q rfl rfl)<|Zt aR fun a m=>?_
 refine Xi m rfl (fun B=>?_) (fun B=>?_)
 ·have I:=B;have B:=Q2 B;have U:=Y0r (h:=x) B;refine Zs m fun _ aS=>?_;refine Ze (Vd rfl Xn 2)<|Ze (X0 rfl X0g (c.at 2))<|Zm rfl<|Zm rfl<|Zm rfl<|Zf (Vc (X91 _ Bd dd d.ws A.top p q x (by omega) W) X4t) ?_;rintro _ w4 ⟨aB,aC,rfl,H,i⟩;have H:=H.lower g.size;have c:=c.bw i;have e:=e.bw i;have b:=b.bw i;have g:=gbel g i;refine Ze (Vd rfl Xn 2)<|Zo (Vu (vs:=[.slice aB (jnW d.ws p q x).length aC]) (l':=[vi d.n,.slice Ad md cd,.slice aB (jnW d.ws p q x).length aC,vi d.t,vi d.r]) rfl rfl X1k c) ?_;rintro _ w5 ⟨o,M⟩;have f:=c;have e:=e.oy o (by omega);have b:=b.oT o f rfl;have H:=H.oT o f rfl;have g:=gonly g o L;have c:=M;refine Zx aS fun a m _ aT=>?_;refine Ze (Vn X2 c)<|Zo (Vw [vi d.n,.slice Ad md cd,.slice aB (jnW d.ws p q x).length aC,vi d.t,vi d.r] Xf e) ?_;rintro _ w6 ⟨o,M⟩;have f:=e;have b:=b.oT o f rfl;have H:=H.oT o f rfl;have g:=gonly g o a6;have e:=M;refine Zt aT fun a m=>?_;refine Q6<|Xa<|X6 m (Xu m rfl (ResV.cellN (l:=[vi d.n,.slice Ad md cd,.slice aB (jnW d.ws p q x).length aC,vi d.t,vi d.r]) rfl X2 (e.at 0) rfl)) ?_
  rw [U]
  exact ⟨aB,aC,rfl,b,H.rd.top,H.cap,by first|exact E|exact E.trans (X1u _ _ _).symm,g⟩
 have I:=B;have B:=Q1 B;have aK:=B
 have bJ:0<=fdW d.ws p q:=by have h9:=B;omega
 refine Q7<|bD _ _<|Zs m fun _ aU=>?_;refine Ze (Vd rfl Xn 2)<|Ze (X0 rfl X0g (c.at 2))<|Zm rfl<|Zi (k:=(fdW d.ws p q).toNat) (u:=(d.ws.getD (fdW d.ws p q).toNat wZ)) (enc:=encWr) (l:=d.ws) tv0 rfl rfl Xt X0d Xz A (Xb (by omega)) (by omega) ?_;intro bK aL;refine Ze (X2l rfl X3b)<|Ze (X0 rfl X6t (aL.drop 2))<|Za rfl<|ZX aU fun a m _ aD=>?_;refine Q8<|Q5 fun _ aV=>?_;refine X0b (fun a w=>Fr a 68 [(1,vi p),(2,vi q),(3,.bool x),(4,(pZ9 b4)),(8,(pZ9 b7)),(9,vi (fdW d.ws p q)),(10,.bool ((d.ws.getD (fdW d.ws p q).toNat wZ).h)),(32,.bool (((d.ws.getD (fdW d.ws p q).toNat wZ).h)&&x))]/\w3=w) ?_ ?_
 ·refine Zr m<|Zm rfl<|Zm rfl ?_
  refine Zg 34 rfl (fun G=>?_) (fun G=>?_)
  ·refine Zv (gW G) (X3 rfl) ?_;refine Ze (X4 rfl G rfl)<|Za rfl ?_;refine Zn fun a m=>?_;exact ⟨m.sub ⟨rfl,rfl,rfl,rfl,rfl,rfl,rfl,X1 rfl (by first|rfl|(simp only [I,G,bs];done)|simp [I,G]),trivial⟩,rfl⟩
  refine Zp (gP G) ?_;refine Ze (Xe rfl G rfl)<|Za rfl ?_;refine Zn fun a m=>?_;exact ⟨m.sub ⟨rfl,rfl,rfl,rfl,rfl,rfl,rfl,X1 rfl (by first|rfl|(simp only [I,G,bs];done)|simp [I,G]),trivial⟩,rfl⟩
 rintro a _ ⟨m,rfl⟩;refine aV _ _ ?_
 refine Xi m rfl (fun N=>?_) (fun N=>?_)
 ·have aM:=N;have U:=Y0c aK N;refine Zs m fun _ aW=>?_;refine Ze (Vd rfl Xn 2)<|Ze (X0 rfl X0g (c.at 2))<|Zm rfl<|Zf (Vc (Xhg _ Bd dd d.ws A.top (fdW d.ws p q) (by omega) W ⟨by omega,aI⟩) X8c) ?_;rintro _ w7 ⟨a8,aA,rfl,C,i⟩;have C:=C.lower g.size;have c:=c.bw i;have e:=e.bw i;have b:=b.bw i;have g:=gbel g i;refine Ze (Vd rfl Xn 2)<|Zo (Vu (vs:=[.slice a8 (ctW d.ws (fdW d.ws p q).toNat).length aA]) (l':=[vi d.n,.slice Ad md cd,.slice a8 (ctW d.ws (fdW d.ws p q).toNat).length aA,vi d.t,vi d.r]) rfl rfl X1k c) ?_;rintro _ w8 ⟨o,M⟩;have f:=c;have e:=e.oy o (by omega);have b:=b.oT o f rfl;have C:=C.oT o f rfl;have g:=gonly g o L;have c:=M;refine Zt aW fun a m=>?_;refine Zr m<|Ze (Vd rfl X07 4)<|Ze (X0 rfl X7 (c.at 4))<|Ze (X6m rfl rfl)<|Ze (Vd rfl X07 4)<|Zo (Vu (vs:=[vi (wr (d.r-2))]) (l':=[vi d.n,.slice Ad md cd,.slice a8 (ctW d.ws (fdW d.ws p q).toNat).length aA,vi d.t,vi (wr (d.r-2))]) rfl rfl X09 c) ?_;rintro _ w9 ⟨o,M⟩;have f:=c;have e:=e.oy o (by omega);have b:=b.oT o f rfl;have C:=C.oT o f rfl;have g:=gonly g o L;have c:=M;refine Zn fun a m=>?_;refine Xc<|aD _ _<|Zs m fun _ aX=>?_;refine Ze (Vn X2 c)<|Zo (Vw [vi d.n,.slice Ad md cd,.slice a8 (ctW d.ws (fdW d.ws p q).toNat).length aA,vi d.t,vi (wr (d.r-2))] Xf e) ?_;rintro _ bL ⟨o,M⟩;have f:=e;have b:=b.oT o f rfl;have C:=C.oT o f rfl;have g:=gonly g o a6;have e:=M;refine Zt aX fun a m=>?_
  refine Q6 (X6 m (Xu m rfl (ResV.cellN (l:=[vi d.n,.slice Ad md cd,.slice a8 (ctW d.ws (fdW d.ws p q).toNat).length aA,vi d.t,vi (wr (d.r-2))]) rfl X2 (e.at 0) rfl)) ?_)
  rw [U]
  exact ⟨a8,aA,rfl,b,C.rd.top,C.cap,by first|exact E|exact E.trans (X1u _ _ _).symm,g⟩
 have aM:=N;have aY:=N;refine Zs m fun _ aZ=>?_;refine Zm rfl<|Zm rfl<|Ze (X9l Tryz.underlying4 rfl rfl)<|Za rfl<|Zt aZ fun a m=>?_
 refine Xi m rfl (fun Q=>?_) (fun Q=>?_)
 ·have aN:=Q;have U:=Xxr aK aY Q;refine Zs m fun _ b0=>?_;refine Ze (Vd rfl Xn 2)<|Ze (X0 rfl X0g (c.at 2))<|Zm rfl<|Zf (Vc (Xhg _ Bd dd d.ws A.top (fdW d.ws p q) (by omega) W ⟨by omega,aI⟩) X8c) ?_;rintro _ bM ⟨bE,bF,rfl,a7,i⟩;have a7:=a7.lower g.size;have c:=c.bw i;have e:=e.bw i;have b:=b.bw i;have g:=gbel g i;refine Zm rfl<|Zm rfl<|Zf (Vc (X91 _ bE bF (ctW d.ws (fdW d.ws p q).toNat) a7.rd.top p q false (Q0 (X3u _ _).length_le (by omega)) a7.cap) X4t) ?_;rintro _ bN ⟨aO,aP,rfl,D,i⟩;have D:=D.lower g.size;have c:=c.bw i;have e:=e.bw i;have b:=b.bw i;have g:=gbel g i;refine Ze (Vd rfl Xn 2)<|Zo (Vu (vs:=[.slice aO (jnW (ctW d.ws (fdW d.ws p q).toNat) p q false).length aP]) (l':=[vi d.n,.slice Ad md cd,.slice aO (jnW (ctW d.ws (fdW d.ws p q).toNat) p q false).length aP,vi d.t,vi d.r]) rfl rfl X1k c) ?_;rintro _ bO ⟨o,M⟩;have f:=c;have e:=e.oy o (by omega);have b:=b.oT o f rfl;have D:=D.oT o f rfl;have g:=gonly g o L;have c:=M;refine ZX b0 fun a m _ b1=>?_;refine X00 none (fun j=>[4,5].contains j) mixed ?_;intro bP i;have c:=c.bw i;have e:=e.bw i;have b:=b.bw i;have D:=D.bw i;have g:=gbel g i;refine Yb m<|Ye 0 rfl (Vn X2 c)<|Yo 1 rfl (fun _=>X3 rfl)<|Yo 2 rfl (fun _=>X3 rfl)<|Y1 3 ?_;refine Yk rfl tv0 (Vc (Xmj _ p q) Xc0) (fun _ _ ⟨_,i⟩=>i) ?_;rintro _ bQ ⟨rfl,i⟩;have c:=c.bw i;have e:=e.bw i;have b:=b.bw i;have D:=D.bw i;have g:=gbel g i;refine Y1 4<|Yt rfl tv0 rfl (Vc (Xar _ (⟨d.n,d.ns,(jnW (ctW d.ws (fdW d.ws p q).toNat) p q false),d.t,d.r⟩ : Dg) md E Ad cd aH b (Q0 aQ g.size) aO aP D.rd.top D.cap (min p q) 4 (Xmt b8) (Y3l hP _ (by decide) (by decide))) X5v) ?_;rintro _ bR ⟨aE,aF,rfl,aJ,J,b2,bG,hg⟩
  have aG:=b;have c:=c.appT aG hg rfl;have e:=e.appT aG hg rfl;have g:=gtr g hg
  clear aG hg;clear b;have b:=aJ;clear aJ;refine Y1 5<|Yh rfl tv0 rfl (Vw [vi (({ (⟨d.n,d.ns,(jnW (ctW d.ws (fdW d.ws p q).toNat) p q false),d.t,d.r⟩ : Dg) with ns:=adN (⟨d.n,d.ns,(jnW (ctW d.ws (fdW d.ws p q).toNat) p q false),d.t,d.r⟩ : Dg).ns (min p q) 4 } : Dg).n),.slice Ad md cd,.slice aE (({ (⟨d.n,d.ns,(jnW (ctW d.ws (fdW d.ws p q).toNat) p q false),d.t,d.r⟩ : Dg) with ns:=adN (⟨d.n,d.ns,(jnW (ctW d.ws (fdW d.ws p q).toNat) p q false),d.t,d.r⟩ : Dg).ns (min p q) 4 } : Dg).ws).length aF,vi (({ (⟨d.n,d.ns,(jnW (ctW d.ws (fdW d.ws p q).toNat) p q false),d.t,d.r⟩ : Dg) with ns:=adN (⟨d.n,d.ns,(jnW (ctW d.ws (fdW d.ws p q).toNat) p q false),d.t,d.r⟩ : Dg).ns (min p q) 4 } : Dg).t),vi (({ (⟨d.n,d.ns,(jnW (ctW d.ws (fdW d.ws p q).toNat) p q false),d.t,d.r⟩ : Dg) with ns:=adN (⟨d.n,d.ns,(jnW (ctW d.ws (fdW d.ws p q).toNat) p q false),d.t,d.r⟩ : Dg).ns (min p q) 4 } : Dg).r)] Xf c) ?_;rintro _ bS ⟨o,M⟩;have f:=c;have e:=e.oy o (by omega);have b:=b.oT o f rfl;have J:=J.oT o f rfl;have g:=gonly g o L;have c:=M;refine Yd fun a m=>?_;refine b1 _ _<|Zr m<|Ze (Vd rfl X07 4)<|Ze (X0 rfl X7 (c.at 4))<|Ze (X6m rfl rfl)<|Ze (Vd rfl X07 4)<|Zo (Vu (vs:=[vi (wr ((({ (⟨d.n,d.ns,(jnW (ctW d.ws (fdW d.ws p q).toNat) p q false),d.t,d.r⟩ : Dg) with ns:=adN (⟨d.n,d.ns,(jnW (ctW d.ws (fdW d.ws p q).toNat) p q false),d.t,d.r⟩ : Dg).ns (min p q) 4 } : Dg).r)-1))]) (l':=[vi (({ (⟨d.n,d.ns,(jnW (ctW d.ws (fdW d.ws p q).toNat) p q false),d.t,d.r⟩ : Dg) with ns:=adN (⟨d.n,d.ns,(jnW (ctW d.ws (fdW d.ws p q).toNat) p q false),d.t,d.r⟩ : Dg).ns (min p q) 4 } : Dg).n),.slice Ad md cd,.slice aE (({ (⟨d.n,d.ns,(jnW (ctW d.ws (fdW d.ws p q).toNat) p q false),d.t,d.r⟩ : Dg) with ns:=adN (⟨d.n,d.ns,(jnW (ctW d.ws (fdW d.ws p q).toNat) p q false),d.t,d.r⟩ : Dg).ns (min p q) 4 } : Dg).ws).length aF,vi (({ (⟨d.n,d.ns,(jnW (ctW d.ws (fdW d.ws p q).toNat) p q false),d.t,d.r⟩ : Dg) with ns:=adN (⟨d.n,d.ns,(jnW (ctW d.ws (fdW d.ws p q).toNat) p q false),d.t,d.r⟩ : Dg).ns (min p q) 4 } : Dg).t),vi (wr ((({ (⟨d.n,d.ns,(jnW (ctW d.ws (fdW d.ws p q).toNat) p q false),d.t,d.r⟩ : Dg) with ns:=adN (⟨d.n,d.ns,(jnW (ctW d.ws (fdW d.ws p q).toNat) p q false),d.t,d.r⟩ : Dg).ns (min p q) 4 } : Dg).r)-1))]) rfl rfl X09 c) ?_;rintro _ bT ⟨o,M⟩
  have f:=c;have e:=e.oy o (by omega);have b:=b.oT o f rfl;have J:=J.oT o f rfl;have g:=gonly g o L;have c:=M;refine Zn fun a m=>?_;refine Xc<|aD _ _<|Zs m fun _ b3=>?_;refine Ze (Vn X2 c)<|Zo (Vw [vi (({ (⟨d.n,d.ns,(jnW (ctW d.ws (fdW d.ws p q).toNat) p q false),d.t,d.r⟩ : Dg) with ns:=adN (⟨d.n,d.ns,(jnW (ctW d.ws (fdW d.ws p q).toNat) p q false),d.t,d.r⟩ : Dg).ns (min p q) 4 } : Dg).n),.slice Ad md cd,.slice aE (({ (⟨d.n,d.ns,(jnW (ctW d.ws (fdW d.ws p q).toNat) p q false),d.t,d.r⟩ : Dg) with ns:=adN (⟨d.n,d.ns,(jnW (ctW d.ws (fdW d.ws p q).toNat) p q false),d.t,d.r⟩ : Dg).ns (min p q) 4 } : Dg).ws).length aF,vi (({ (⟨d.n,d.ns,(jnW (ctW d.ws (fdW d.ws p q).toNat) p q false),d.t,d.r⟩ : Dg) with ns:=adN (⟨d.n,d.ns,(jnW (ctW d.ws (fdW d.ws p q).toNat) p q false),d.t,d.r⟩ : Dg).ns (min p q) 4 } : Dg).t),vi (wr ((({ (⟨d.n,d.ns,(jnW (ctW d.ws (fdW d.ws p q).toNat) p q false),d.t,d.r⟩ : Dg) with ns:=adN (⟨d.n,d.ns,(jnW (ctW d.ws (fdW d.ws p q).toNat) p q false),d.t,d.r⟩ : Dg).ns (min p q) 4 } : Dg).r)-1))] Xf e) ?_;rintro _ bU ⟨o,M⟩;have f:=e;have b:=b.oT o f rfl;have J:=J.oT o f rfl;have g:=gonly g o a6;have e:=M;refine Zt b3 fun a m=>?_
  refine Q6 (X6 m (Xu m rfl (ResV.cellN (l:=[vi (({ (⟨d.n,d.ns,(jnW (ctW d.ws (fdW d.ws p q).toNat) p q false),d.t,d.r⟩ : Dg) with ns:=adN (⟨d.n,d.ns,(jnW (ctW d.ws (fdW d.ws p q).toNat) p q false),d.t,d.r⟩ : Dg).ns (min p q) 4 } : Dg).n),.slice Ad md cd,.slice aE (({ (⟨d.n,d.ns,(jnW (ctW d.ws (fdW d.ws p q).toNat) p q false),d.t,d.r⟩ : Dg) with ns:=adN (⟨d.n,d.ns,(jnW (ctW d.ws (fdW d.ws p q).toNat) p q false),d.t,d.r⟩ : Dg).ns (min p q) 4 } : Dg).ws).length aF,vi (({ (⟨d.n,d.ns,(jnW (ctW d.ws (fdW d.ws p q).toNat) p q false),d.t,d.r⟩ : Dg) with ns:=adN (⟨d.n,d.ns,(jnW (ctW d.ws (fdW d.ws p q).toNat) p q false),d.t,d.r⟩ : Dg).ns (min p q) 4 } : Dg).t),vi (wr ((({ (⟨d.n,d.ns,(jnW (ctW d.ws (fdW d.ws p q).toNat) p q false),d.t,d.r⟩ : Dg) with ns:=adN (⟨d.n,d.ns,(jnW (ctW d.ws (fdW d.ws p q).toNat) p q false),d.t,d.r⟩ : Dg).ns (min p q) 4 } : Dg).r)-1))]) rfl X2 (e.at 0) rfl)) ?_)
  rw [U]
  exact ⟨aE,aF,rfl,b,J.top,b2,by first|exact E|exact E.trans (X1u _ _ _).symm,g⟩
 have aN:=Q;have U:=Xyc aK aY Q;refine Q7<|Xc<|aD _ _<|Zs m fun _ b5=>?_;refine Ze (Vn X2 c)<|Zo (Vw [vi d.n,.slice Ad md cd,.slice Bd d.ws.length dd,vi d.t,vi d.r] Xf e) ?_;rintro _ bW ⟨o,M⟩;have f:=e;have b:=b.oT o f rfl;have A:=A.oT o f rfl;have g:=gonly g o a6;have e:=M;refine Zt b5 fun a m=>?_
 refine Q6 (X6 m (Xu m rfl (ResV.cellN (l:=[vi d.n,.slice Ad md cd,.slice Bd d.ws.length dd,vi d.t,vi d.r]) rfl X2 (e.at 0) rfl)) ?_)
 rw [U]
 exact ⟨Bd,dd,rfl,b,A.top,W,by first|exact E|exact E.trans (X1u _ _ _).symm,g⟩
theorem Xtr(J:World)(d:Dg)(md:Nat)(u:md=d.ns.length)(Ad:Option Addr)(cd:Nat)(I:Nat)(b:Own J I 81 2 encNd Ad cd d.ns)(aC:I<=J.heap.size)(Bd:Option Addr)(dd:Nat)(c:Rd J J.heap.size 83 encWr Bd d.ws)(B:d.ws.length<=dd)(p:Int)(q:Int)(x:Bool)(aJ:d.ws.length<=999999999)(aK:(0<=p/\p.toNat<d.ns.length)/\(0<=q/\q.toNat<d.ns.length))(hP:PhN d.ns)(hN:md<=1000) : Ret Tryz.prog 213 [.agg #[vi d.n,.slice Ad md cd,.slice Bd d.ws.length dd,vi d.t,vi d.r],vi p,vi q,.bool x] J (fun v w=>∃ A' c',v=.agg #[vi (mtD d p q x).n,.slice Ad md cd,.slice A' (mtD d p q x).ws.length c',vi (mtD d p q x).t,vi (mtD d p q x).r]/\Own w I 81 2 encNd Ad cd (mtD d p q x).ns/\Rd w w.heap.size 83 encWr A' (mtD d p q x).ws/\(mtD d p q x).ws.length<=c'/\md=(mtD d p q x).ns.length/\J.grownBy w (Value.slice Ad d.ns.length cd).ownBlock):=by
 refine enter Tryz.func213 rfl 30 rfl rfl ?_;intro a o
 have j:J.grownBy J (Value.slice Ad d.ns.length cd).ownBlock:=World.grownBy.refl _ _
 refine Zs o fun _ aL=>?_;refine Zf (X0n (zs:=[vi d.n,.slice Ad md cd,.slice Bd d.ws.length dd,vi d.t,vi d.r]) rfl rfl) ?_;rintro _ w1 ⟨b4,rfl,aM,i,e⟩;have aD:=Q0 j.size aM;have b:=b.bw i;have c:=c.bw i;have j:=gbel j i;refine Zf (Xo (zs:=[vi 0,.slice none 0 0,.slice none 0 0,vi 0,vi 0]) X0o rfl) ?_;rintro _ w2 ⟨b7,rfl,aN,i,g⟩
 have aI:b4≠b7:=by have:=e.lt;omega
 have L:=Q0 j.size aN;have e:=e.bw i;have b:=b.bw i;have c:=c.bw i;have j:=gbel j i;refine ZX aL fun a o _ aO=>?_;refine Q5 fun _ aP=>?_;refine X0b (fun a w=>Fr a 30 [(1,vi p),(2,vi q),(3,.bool x),(4,(pZ9 b4)),(8,(pZ9 b7)),(16,.bool ((spI d.ns p)&&(spI d.ns q)))]/\Below w2.heap.size w2 w) ?_ ?_
 ·have C:Below w2.heap.size w2 w2:=Below.refl _ _
  refine Zr o<|Ze (Vn X2 e)<|Zm rfl<|Zf (Vc (X5d _ d md u Ad cd b.rd.top Bd dd c.top B p hN) X2p) ?_;rintro _ w3 ⟨rfl,i⟩;have e:=e.bw i;have b:=b.bw i;have c:=c.bw i;have j:=gbel j i;have C:=btr C i;refine Zm rfl ?_
  refine Zg 12 rfl (fun f=>?_) (fun f=>?_)
  ·refine Zv (gW f) (Vn X2 e) ?_;refine Zv (gW f) (X3 rfl) ?_;refine Zk (gW f) (Vc (X5d _ d md u Ad cd b.rd.top Bd dd c.top B q hN) X2p) ?_;rintro _ w4 ⟨rfl,i⟩;have j:=gbel j i;have C:=btr C i;refine Ze (X4 rfl f rfl) ?_;refine Zn fun a o=>?_
   have a6:Below w2.heap.size w2 w4:=C
   exact ⟨o.sub ⟨rfl,rfl,rfl,rfl,rfl,X1 rfl (by simp [f]),trivial⟩,a6⟩
  (iterate 3 refine Zp (gP f) ?_);refine Ze (Xe rfl f rfl) ?_;refine Zn fun a o=>?_
  have a6:Below w2.heap.size w2 w3:=C
  exact ⟨o.sub ⟨rfl,rfl,rfl,rfl,rfl,X1 rfl (by simp [f]),trivial⟩,a6⟩
 rintro a w5 ⟨o,i⟩;have e:=e.bw i;have g:=g.bw i;have b:=b.bw i;have c:=c.bw i;have j:=gbel j i;refine aP _ _ ?_
 refine Xi o rfl (fun A=>?_) (fun A=>?_)
 ·have a7:=A;have a8:=Xzh (h:=x) A;refine Zs o fun _ aE=>?_;refine Ze (Vn X2 e)<|Zm rfl<|Zm rfl<|Zm rfl<|Zf (Vc (Y2a _ d md u Ad cd I b (Q0 aC j.size) Bd dd c.top B p q x aJ aK hP) Xpz) ?_;rintro _ w6 ⟨aA,aB,rfl,M,E,aF,aQ,hg⟩;have N:=b;have g:=g.appT N hg rfl;have j:=gtr j hg
  clear N hg;clear b;have b:=M;clear M;refine Zo (Vw [vi ((lkD d p q x).n),.slice Ad md cd,.slice aA ((lkD d p q x).ws).length aB,vi ((lkD d p q x).t),vi ((lkD d p q x).r)] Xf g) ?_;rintro _ w7 ⟨D,hb⟩;have k:=g;have b:=b.oT D k rfl;have E:=E.oT D k rfl;have j:=gonly j D L;have g:=hb;refine Zt aE fun a o=>?_;refine Q6<|Xa<|X6 o (Xu o rfl (ResV.cellN (l:=[vi ((lkD d p q x).n),.slice Ad md cd,.slice aA ((lkD d p q x).ws).length aB,vi ((lkD d p q x).t),vi ((lkD d p q x).r)]) rfl X2 (g.at 0) rfl)) ?_
  rw [a8]
  exact ⟨aA,aB,rfl,b,E.top,aF,by first|exact u|assumption,j⟩
 have a7:=A;have a8:=Xzk (h:=x) A;refine Q7<|aO _ _<|Zs o fun _ aG=>?_;refine Ze (Vd rfl Xn 2)<|Ze (X0 rfl X0g (e.at 2))<|Zm rfl<|Zm rfl<|Zm rfl<|Zf (Vc (X91 _ Bd dd d.ws c.top p q x (by omega) B) X4t) ?_;rintro _ w8 ⟨G,H,rfl,m,i⟩;have m:=m.lower j.size;have e:=e.bw i;have g:=g.bw i;have b:=b.bw i;have j:=gbel j i;refine Ze (Vd rfl Xn 2)<|Zo (Vu (vs:=[.slice G (jnW d.ws p q x).length H]) (l':=[vi d.n,.slice Ad md cd,.slice G (jnW d.ws p q x).length H,vi d.t,vi d.r]) rfl rfl X1k e) ?_;rintro _ w9 ⟨D,hb⟩;have k:=e;have g:=g.oy D (by omega);have b:=b.oT D k rfl;have m:=m.oT D k rfl;have j:=gonly j D aD;have e:=hb;refine Zx aG fun a o _ aH=>?_;refine Ze (Vn X2 e)<|Zo (Vw [vi d.n,.slice Ad md cd,.slice G (jnW d.ws p q x).length H,vi d.t,vi d.r] Xf g) ?_;rintro _ aR ⟨D,hb⟩;have k:=g;have b:=b.oT D k rfl;have m:=m.oT D k rfl;have j:=gonly j D L;have g:=hb;refine Zt aH fun a o=>?_
 refine Q6 (X6 o (Xu o rfl (ResV.cellN (l:=[vi d.n,.slice Ad md cd,.slice G (jnW d.ws p q x).length H,vi d.t,vi d.r]) rfl X2 (g.at 0) rfl)) ?_)
 rw [a8]
 exact ⟨G,H,rfl,b,m.rd.top,m.cap,by first|exact u|assumption,j⟩
theorem Xa7(E:World)(d:Dg)(md:Nat)(aZ:md=d.ns.length)(Ad:Option Addr)(cd:Nat)(b0:Rd E E.heap.size 81 encNd Ad d.ns)(Bd:Option Addr)(dd:Nat)(L:Rd E E.heap.size 83 encWr Bd d.ws)(q:d.ws.length<=dd)(p:Int)(hI:InW d.ws)(b3:d.ws.length<=1000000000) : Ret Tryz.prog 212 [.agg #[vi d.n,.slice Ad md cd,.slice Bd d.ws.length dd,vi d.t,vi d.r],vi p] E (fun v w=>∃ A c,v=.slice A (nearW d.ws p).length c/\Own w E.heap.size 3 1 encI A c (nearW d.ws p)/\Below E.heap.size E w):=by
 refine enter Tryz.func212 rfl 34 rfl rfl ?_;intro a e
 have o:=bz E
 refine Zs e fun _ aP=>?_;refine Zf (X0n (zs:=[vi d.n,.slice Ad md cd,.slice Bd d.ws.length dd,vi d.t,vi d.r]) rfl rfl) ?_;rintro _ w1 ⟨b4,rfl,aQ,M,aR⟩;have b1:=Q0 o.size aQ;have o:=btr o M;refine Za rfl<|Zx aP fun a e _ aS=>?_;refine Za rfl<|ZX aS fun a e _ aT=>?_;refine Zs e fun _ aU=>?_;refine Ze (Vd rfl Xn 2)<|Ze (X0 rfl X0g (aR.at 2))<|Ze (X0c rfl Xt)<|Zm rfl<|Zt aU fun a e=>?_;refine Q8<|X04 (σ:=Nat×(List Int)) (fun (s:Nat×(List Int)) (a:Act) (w:World)=>match s with|(k,m)=>∃ C D,Fr a 34 [(1,vi p),(5,.slice C m.length D),(9,.slice Bd d.ws.length dd),(10,vi (d.ws.length:Int)),(11,vi (k:Int))]/\(k<=d.ws.length)/\(m=nearW (d.ws.take k) p)/\Own w E.heap.size 3 1 encI C D m/\d.ws.length<=dd/\Below E.heap.size E w) (fun (s:Nat×(List Int))=>match s with|(k,m)=>d.ws.length-k) (0,[]) ?_ ?_
 ·exact ⟨none,0,e.sb,(Qf _),(by simp [nearW]),(Own.nil _ _ _ _ _),q,o⟩
 rintro ⟨k,m⟩ a w2 ⟨C,D,e,hk,hm,f,q,o⟩;refine Zs e fun _ aC=>?_;refine Ze (X0q rfl rfl)<|ZX aC fun a e _ aD=>?_
 refine Xi e rfl (fun g=>?_) (fun g=>?_)
 ·have a6:=g;have g:=Q2 g
  obtain ⟨b5,b2⟩:=X5 (l:=d.ws) (k:=k) (by omega)
  obtain ⟨H,J⟩:=X5 (l:=d.ws) (k:=k) (by have:=g;omega)
  refine Q7<|aD _ _<|Q5 fun _ I=>?_;refine Q8<|Zs e fun _ aE=>?_;refine Zi (k:=k) (u:=H) (enc:=encWr) (l:=d.ws) tv0 rfl rfl Xt X0d Xz (L.bx o) J rfl ?_;intro b6 a7;refine Ze (X01 (l:=[vi H.a,vi H.b,.bool H.h]) rfl X16 a7 rfl)<|Zf (Xo (zs:=[vi 0,vi 0,.bool false]) X2m rfl) ?_;rintro _ w3 ⟨b7,rfl,N,M,j⟩;have a8:=Q0 o.size N;have aF:=(L.bx o).away N;have f:=f.bw M;have o:=btr o M;refine Zo (Vw [vi H.a,vi H.b,.bool H.h] X0d j) ?_;rintro _ w4 ⟨ho,hb⟩;have aG:=j;have f:=f.oT ho aG rfl;have o:=Below.oy o ho a8;have j:=hb;refine Zx aE fun a e _ aH=>?_;refine Zm rfl<|Zt aH fun a e=>?_;refine Q8<|Zs e fun _ aI=>?_;refine Ze (Vd rfl X0r 0)<|Ze (X0 rfl X7 (j.at 0))<|Ze (X0m rfl rfl)<|Za rfl<|Zt aI fun a e=>?_
  refine Xi e rfl (fun x=>?_) (fun x=>?_)
  ·have aA:=x;have i:=Xde J x;have G:=Xee hI i
   rw [<- hm] at i G
   refine Zr e<|Zm rfl<|Ze (Vd rfl X0s 1)<|Ze (X0 rfl X7 (j.at 1))<|Zf (Vc (Xv2 _ C D m f.rd.top H.b E.heap.size f o.size (by have h9:=X2e (d.ws.take k) p;rw [<- hm] at h9;rw [Qn] at h9;omega)) Xen) ?_;rintro _ w5 ⟨aV,aW,rfl,aJ,M⟩;have o:=btr o M;refine Za rfl ?_;refine Zn fun a e=>?_;refine Xc<|Xc<|I _ _<|Zr e ?_;refine Ze (Xm rfl rfl (by omega) (by omega))<|Zm rfl ?_;refine Zn fun a e=>?_;refine Xd ?_;exact ⟨(k+1,(putI m H.b)),⟨aV,aW,e.sb,(by omega),(by first|rw [G,i]|rw [i]),aJ,q,o⟩,(by first|omega|(dsimp only;omega))⟩
  have aA:=x;have aK:=x;refine Zs e fun _ aL=>?_;refine Ze (Vd rfl X0s 1)<|Ze (X0 rfl X7 (j.at 1))<|Ze (X0m rfl rfl)<|Za rfl<|Zt aL fun a e=>?_
  refine Xi e rfl (fun B=>?_) (fun B=>?_)
  ·have aB:=B;have i:=Xe4 J aK B;have G:=Xee hI i
   rw [<- hm] at i G
   refine Zr e<|Zm rfl<|Ze (Vd rfl X0r 0)<|Ze (X0 rfl X7 (j.at 0))<|Zf (Vc (Xv2 _ C D m f.rd.top H.a E.heap.size f o.size (by have h9:=X2e (d.ws.take k) p;rw [<- hm] at h9;rw [Qn] at h9;omega)) Xen) ?_;rintro _ w6 ⟨aX,aY,rfl,aM,M⟩;have o:=btr o M;refine Za rfl ?_;refine Zn fun a e=>?_;refine Xc<|Xc<|I _ _<|Zr e ?_;refine Ze (Xm rfl rfl (by omega) (by omega))<|Zm rfl ?_;refine Zn fun a e=>?_;refine Xd ?_;exact ⟨(k+1,(putI m H.a)),⟨aX,aY,e.sb,(by omega),(by first|rw [G,i]|rw [i]),aM,q,o⟩,(by first|omega|(dsimp only;omega))⟩
  have aB:=B;have i:=Xal J aK B
  rw [<- hm] at i
  refine Q7<|Xc<|Xc<|I _ _ ?_;refine Zr e<|Ze (Xm rfl rfl (by omega) (by omega))<|Zm rfl ?_;refine Zn fun a e=>?_;refine Xd ?_;exact ⟨(k+1,m),⟨C,D,e.sb,(by omega),(by first|rw [G,i]|rw [i]),f,q,o⟩,(by first|omega|(dsimp only;omega))⟩
 have a6:=g;have g:=Q1 g
 have aN:m=nearW d.ws p:=by rw [hm,Qi (by have:=g;omega)]
 refine Q9<|Xk<|Xk<|X03 ?_;refine aT _ _<|Zs e fun _ aO=>?_;refine Zm rfl<|Za rfl<|Zt aO fun a e=>?_
 refine Q6 (X6 e (Xu e rfl rfl) ?_)
 rw [<- aN]
 exact ⟨C,D,rfl,f,o⟩
theorem Xtg(h:World)(d:Dg)(md:Nat)(aF:md=d.ns.length)(Ad:Option Addr)(cd:Nat)(aG:Rd h h.heap.size 81 encNd Ad d.ns)(Bd:Option Addr)(dd:Nat)(aH:Rd h h.heap.size 83 encWr Bd d.ws)(o:d.ws.length<=dd)(p:Int)(q:Int)(hI:InW d.ws)(aQ:d.ws.length<=1000000000) : Ret Tryz.prog 214 [.agg #[vi d.n,.slice Ad md cd,.slice Bd d.ws.length dd,vi d.t,vi d.r],vi p,vi q] h (fun v w=>∃ A c,v=.slice A (othW d.ws p q).length c/\Own w h.heap.size 3 1 encI A c (othW d.ws p q)/\Below h.heap.size h w):=by
 have b2:=X2e d.ws p;refine enter Tryz.func214 rfl 27 rfl rfl ?_;intro a g
 have j:=bz h
 refine Zs g fun _ aR=>?_;refine Zf (X0n (zs:=[vi d.n,.slice Ad md cd,.slice Bd d.ws.length dd,vi d.t,vi d.r]) rfl rfl) ?_;rintro _ w1 ⟨b4,rfl,aS,hE,aT⟩;have b0:=Q0 j.size aS;have j:=btr j hE;refine Za rfl<|Zx aR fun a g _ aU=>?_;refine Za rfl<|ZX aU fun a g _ aV=>?_;refine Zs g fun _ aW=>?_;refine Ze (Vn X2 aT)<|Zm rfl<|Zf (Vc (Xa7 _ d md aF Ad cd (aG.bx j).top Bd dd (aH.bx j).top o p hI aQ) X62) ?_;rintro _ w2 ⟨a6,aI,rfl,b,hE⟩;have b:=b.lower j.size;have j:=btr j hE;refine Ze (X0c rfl Xj)<|Zm rfl<|Zt aW fun a g=>?_;refine Q8<|X04 (σ:=Nat×(List Int)) (fun (s:Nat×(List Int)) (a:Act) (w:World)=>match s with|(k,m)=>∃ B E,Fr a 27 [(2,vi q),(7,.slice B m.length E),(12,.slice a6 (nearW d.ws p).length aI),(13,vi ((nearW d.ws p).length:Int)),(14,vi (k:Int))]/\(k<=(nearW d.ws p).length)/\(m=((nearW d.ws p).take k).filter (fun v=>v != q))/\Own w h.heap.size 3 1 encI B E m/\Own w h.heap.size 3 1 encI a6 aI (nearW d.ws p)/\d.ws.length<=dd/\Apart a6 B/\Below h.heap.size h w) (fun (s:Nat×(List Int))=>match s with|(k,m)=>(nearW d.ws p).length-k) (0,[]) ?_ ?_
 ·exact ⟨none,0,g.sb,(Qf _),rfl,(Own.nil _ _ _ _ _),b,o,(Apart.nr _),j⟩
 rintro ⟨k,m⟩ a w3 ⟨B,E,g,hk,hm,i,b,o,f,j⟩
 have b3:m.length<=d.ws.length:=by rw [hm];exact Q0 (List.length_filter_le _ _) (by rw [Qn];omega)
 refine Zs g fun _ aJ=>?_;refine Ze (X0q rfl rfl)<|ZX aJ fun a g _ aK=>?_
 refine Xi g rfl (fun e=>?_) (fun e=>?_)
 ·have a7:=e;have e:=Q2 e
  obtain ⟨b5,b1⟩:=X5 (l:=(nearW d.ws p)) (k:=k) (by omega)
  obtain ⟨u9,a8⟩:=X5 (l:=nearW d.ws p) (k:=k) (by have:=e;omega)
  refine Q7<|aK _ _<|Q5 fun _ J=>?_;refine Q8<|Zs g fun _ aL=>?_;refine Zi (k:=k) (u:=u9) (enc:=encI) (l:=(nearW d.ws p)) tv0 rfl rfl Xj X09 X9 b.rd a8 rfl ?_;intro b6 aA;refine Ze (X0 rfl X7 aA)<|Za rfl<|Zx aL fun a g _ aM=>?_;refine Zm rfl<|Zm rfl<|Ze (X1o rfl rfl)<|Zt aM fun a g=>?_
  refine Xi g rfl (fun x=>?_) (fun x=>?_)
  ·have aB:=x
   have G:=X3k (q:=fun v=>v != q) a8
   rw [Q4 x,<- hm] at G
   refine Zr g<|Zm rfl<|Zm rfl<|Zf (Xs (k:=1) (vs:=[vi u9]) (zs:=[vi u9]) rfl Xj X1h rfl rfl) ?_;rintro _ w4 ⟨b7,rfl,H,hE,I⟩;have aX:=Q0 j.size H;have C:=i.away H;have aD:=b.away H;have i:=i.bw hE;have b:=b.bw hE;have j:=btr j hE;refine Zf (X0z (enc:=encI) (l:=(m)) (l2:=([u9])) (B0:=h.heap.size) rfl rfl Xj X1h X9 X1e i (Rd.of_blk I rfl _ I.lt) (by simp only [maxLen];simp;omega) (by simp;omega) j.size) ?_;rintro _ w5 ⟨aY,aZ,rfl,aN,hg,aC⟩
   have L:Own _ h.heap.size 3 1 encI _ _ (m):=i
   have aE:=aC _ I.lt C;have D:=Apart.app b f aC;clear aC;have b:=b.appP hg f;have j:=Below.app j L hg (Qb _) j.size;clear L hg;refine Za rfl ?_;refine Zn fun a g=>?_;refine Xc<|J _ _<|Zr g<|Ze (Xm rfl rfl (by omega) (by omega))<|Zm rfl ?_;refine Zn fun a g=>?_;refine Xd ?_;exact ⟨(k+1,m++([u9])),⟨aY,aZ,g.sb,(by omega),(by rw [G]),aN,b,o,D,j⟩,(by first|omega|(dsimp only;omega))⟩
  have aB:=x
  have G:=X3k (q:=fun v=>v != q) a8
  rw [Q3 (by rw [x];decide),List.append_nil,<- hm] at G
  refine Q7<|Xc<|J _ _<|Zr g ?_;refine Ze (Xm rfl rfl (by omega) (by omega))<|Zm rfl ?_;refine Zn fun a g=>?_;refine Xd ?_;exact ⟨(k+1,m),⟨B,E,g.sb,(by omega),(by rw [G]),i,b,o,f,j⟩,(by first|omega|(dsimp only;omega))⟩
 have a7:=e;have e:=Q1 e
 have aO:m=(nearW d.ws p).filter (fun v=>v != q):=by rw [hm,Qi (by have:=e;omega)]
 refine Q9<|Xk<|Xk<|X03 ?_;refine aV _ _<|Zs g fun _ aP=>?_;refine Zm rfl<|Za rfl<|Zt aP fun a g=>?_
 refine Q6 (X6 g (Xu g rfl rfl) ?_)
 rw [show othW d.ws p q=m from aO.symm]
 exact ⟨B,E,rfl,i,j⟩
theorem Xjq(m:World)(d:Dg)(md:Nat)(q:md=d.ns.length)(Ad:Option Addr)(cd:Nat)(x:Rd m m.heap.size 81 encNd Ad d.ns)(Bd:Option Addr)(dd:Nat)(h:Rd m m.heap.size 83 encWr Bd d.ws)(f:d.ws.length<=dd)(p:Int)(hI:InW d.ws)(aB:d.ws.length<=1000000000) : Ret Tryz.prog 217 [.agg #[vi d.n,.slice Ad md cd,.slice Bd d.ws.length dd,vi d.t,vi d.r],vi p] m (fun v w=>v=.bool (hadD d p)/\Below m.heap.size m w):=by
 have aQ:=X2e d.ws p;refine enter Tryz.func217 rfl 21 rfl rfl ?_;intro a c
 have g:=bz m
 refine Zs c fun _ aH=>?_;refine Zf (X0n (zs:=[vi d.n,.slice Ad md cd,.slice Bd d.ws.length dd,vi d.t,vi d.r]) rfl rfl) ?_;rintro _ w1 ⟨b4,rfl,aI,A,e⟩;have aO:=Q0 g.size aI;have g:=btr g A;refine Za rfl<|ZX aH fun a c _ aJ=>?_;refine Zs c fun _ aK=>?_;refine Ze (Vn X2 e)<|Zm rfl<|Zf (Vc (Xa7 _ d md q Ad cd (x.bx g).top Bd dd (h.bx g).top f p hI aB) X62) ?_;rintro _ w2 ⟨A7,c7,rfl,i,A⟩;have i:=i.lower g.size;have e:=e.bw A;have g:=btr g A;refine Ze (X0c rfl Xj)<|Zm rfl<|Zt aK fun a c=>?_;refine Q8<|X04 (σ:=Nat) (fun (k:Nat) (a:Act) (w:World)=>Fr a 21 [(1,vi p),(2,(pZ9 b4)),(9,.slice A7 (nearW d.ws p).length c7),(10,vi ((nearW d.ws p).length:Int)),(11,vi (k:Int))]/\(k<=(nearW d.ws p).length)/\(((nearW d.ws p).take k).all (fun v=>tyW d.ws p v==2)=true)/\Blk w b4 39 [vi d.n,.slice Ad md cd,.slice Bd d.ws.length dd,vi d.t,vi d.r]/\Own w m.heap.size 3 1 encI A7 c7 (nearW d.ws p)/\d.ws.length<=dd/\Below m.heap.size m w) (fun (k:Nat)=>(nearW d.ws p).length-k) 0 ?_ ?_
 ·exact ⟨c.sb,(Qf _),rfl,e,i,f,g⟩
 rintro k a w3 ⟨c,hk,B,e,i,f,g⟩;refine Zs c fun _ aL=>?_;refine Ze (X0q rfl rfl)<|ZX aL fun a c _ aM=>?_
 refine Xi c rfl (fun b=>?_) (fun b=>?_)
 ·have a6:=b;have b:=Q2 b
  obtain ⟨aR,aP⟩:=X5 (l:=(nearW d.ws p)) (k:=k) (by omega)
  obtain ⟨u9,a7⟩:=X5 (l:=nearW d.ws p) (k:=k) (by have:=b;omega)
  refine Q7<|aM _ _<|Q5 fun _ aC=>?_;refine Q8<|Zs c fun _ aD=>?_;refine Zi (k:=k) (u:=u9) (enc:=encI) (l:=(nearW d.ws p)) tv0 rfl rfl Xj X09 X9 i.rd a7 rfl ?_;intro aS a8;refine Ze (X0 rfl X7 a8)<|Za rfl<|Zx aD fun a c _ aE=>?_;refine Ze (Vn X2 e)<|Zm rfl<|Zm rfl<|Zf (Vc (X83 _ d md q Ad cd (x.bx g).top Bd dd (h.bx g).top f p u9 aB) X45) ?_;rintro _ w4 ⟨rfl,A⟩;have e:=e.bw A;have i:=i.bw A;have g:=btr g A;refine Ze (X1o rfl rfl)<|Zt aE fun a c=>?_
  refine Xi c rfl (fun j=>?_) (fun j=>?_)
  ·have aA:=j
   have o:hadD d p=false:=Xk7 a7 (by have h9:=j;simpa using h9)
   refine Zs c fun _ aF=>?_;refine Za rfl<|Zt aF fun a c=>?_;refine Q6<|X02<|Xa<|Xa ?_;refine X02<|Xa<|X6 c (Xu c rfl rfl) ?_;exact ⟨by rw [o],g⟩
  have aA:=j
  have aN:(tyW d.ws p u9==2)=true:=by have h9:=j;simpa using h9
  refine Q7<|Xc<|aC _ _<|Zr c ?_;refine Ze (Xm rfl rfl (by omega) (by omega))<|Zm rfl ?_;refine Zn fun a c=>?_;refine Xd ?_;exact ⟨k+1,⟨c.sb,(by omega),(Xj6 B a7 aN),e,i,f,g⟩,(by omega)⟩
 have a6:=b;have b:=Q1 b
 have o:hadD d p=true:=Xh8 B (by have:=b;omega)
 refine Q9<|Xk<|Xk<|X03 ?_;refine aJ _ _<|Zs c fun _ aG=>?_;refine Za rfl<|Zt aG fun a c=>?_
 refine Q6 (X6 c (Xu c rfl rfl) ?_)
 exact ⟨by rw [o],g⟩
theorem Xtk(h:World)(d:Dg)(md:Nat)(C:md=d.ns.length)(Ad:Option Addr)(cd:Nat)(D:Rd h h.heap.size 81 encNd Ad d.ns)(Bd:Option Addr)(dd:Nat)(E:Rd h h.heap.size 83 encWr Bd d.ws)(f:d.ws.length<=dd)(Al:Option Addr)(cl:Nat)(l:List Int)(G:Rd h h.heap.size 3 encI Al l)(hN:md<=1000)(aT:d.ws.length<=1000000000)(b7:l.length<=1000000000)(aU:l.length<=cl) : Ret Tryz.prog 218 [.agg #[vi d.n,.slice Ad md cd,.slice Bd d.ws.length dd,vi d.t,vi d.r],.slice Al l.length cl] h (fun v w=>v=.bool (rdyD d l)/\Below h.heap.size h w):=by
 refine enter Tryz.func218 rfl 35 rfl rfl ?_;intro a b
 have m:=bz h
 refine Zs b fun _ aV=>?_;refine Zf (X0n (zs:=[vi d.n,.slice Ad md cd,.slice Bd d.ws.length dd,vi d.t,vi d.r]) rfl rfl) ?_;rintro _ w1 ⟨b5,rfl,aW,H,g⟩;have b3:=Q0 m.size aW;have m:=btr m H;refine Za rfl<|ZX aV fun a b _ aX=>?_;refine Zs b fun _ aY=>?_;refine Zm rfl<|Ze (X0c rfl Xj)<|Zm rfl<|Zt aY fun a b=>?_;refine Q8<|X04 (σ:=Nat) (fun (k:Nat) (a:Act) (w:World)=>Fr a 35 [(1,.slice Al l.length cl),(2,(pZ9 b5)),(9,.slice Al l.length cl),(10,vi (l.length:Int)),(11,vi (k:Int))]/\(k<=l.length)/\(∀ j:Nat,j<k->rdQ d l j=true)/\Blk w b5 39 [vi d.n,.slice Ad md cd,.slice Bd d.ws.length dd,vi d.t,vi d.r]/\d.ws.length<=dd/\Below h.heap.size h w) (fun (k:Nat)=>l.length-k) 0 ?_ ?_
 ·exact ⟨b.sb,(Qf _),(fun j hj=>by omega),g,f,m⟩
 rintro k a w2 ⟨b,hk,I,g,f,m⟩;refine Zs b fun _ aZ=>?_;refine Ze (X0q rfl rfl)<|ZX aZ fun a b _ b0=>?_
 refine Xi b rfl (fun c=>?_) (fun c=>?_)
 ·have a6:=c;have c:=Q2 c
  obtain ⟨b8,b4⟩:=X5 (l:=l) (k:=k) (by omega)
  obtain ⟨u9,B⟩:=X5 (l:=l) (k:=k) (by have:=c;omega)
  have a7:l.getD k 0=u9:=by rw [Qa,B];rfl
  refine Q7<|b0 _ _<|Q5 fun _ aF=>?_;refine Q8<|Zs b fun _ aG=>?_;refine Zm rfl<|Zi (k:=k) (u:=u9) (enc:=encI) (l:=l) tv0 rfl rfl Xj X09 X9 (G.bx m) B rfl ?_;intro b9 a8;refine Ze (X0 rfl X7 a8)<|Za rfl<|Za rfl<|ZX aG fun a b _ aH=>?_;refine Zs b fun _ aI=>?_;refine Ze (Vn X2 g)<|Zm rfl<|Zf (Vc (X5d _ d md C Ad cd (D.bx m).top Bd dd (E.bx m).top f u9 hN) X2p) ?_;rintro _ w3 ⟨rfl,H⟩;have g:=g.bw H;have m:=btr m H;refine Ze (X0y rfl)<|Zt aI fun a b=>?_
  refine Xi b rfl (fun p=>?_) (fun p=>?_)
  ·have aA:=p
   have q:rdyD d l=false:=X5h (k:=k) (by have:=(Qg.1 B).1;omega) (by unfold rdQ;rw [a7];have A:=p;simp only [Bool.not_eq_true'] at A;rw [A];rfl)
   refine Zs b fun _ aJ=>?_;refine Za rfl<|Zt aJ fun a b=>?_;refine Q6<|Xa<|X02<|Xa ?_;refine Xa<|X02<|Xa<|X6 b (Xu b rfl rfl) ?_;exact ⟨by rw [q],m⟩
  have aA:=p
  have aK:spI d.ns u9=true:=by have A:=p;simpa using A
  refine Q7<|aH _ _<|Zs b fun _ aL=>?_;refine Zm rfl<|Zm rfl ?_;have o:=((G.bx m).top).takeK X9 k;refine Ze (X3j (l:=l) (k:=k) rfl rfl Xj X09 rfl hk aU)<|Ze (X0c rfl Xj)<|Zm rfl<|Zt aL fun a b=>?_;refine Q8<|X04 (σ:=Nat) (fun (j:Nat) (a:Act) (w:World)=>Fr a 35 [(1,.slice Al l.length cl),(2,(pZ9 b5)),(6,vi u9),(9,.slice Al l.length cl),(10,vi (l.length:Int)),(11,vi (k:Int)),(22,.slice Al (l.take k).length cl),(23,vi ((l.take k).length:Int)),(24,vi (j:Int))]/\(j<=(l.take k).length)/\(((l.take k).take j).all (fun y=>tyW d.ws u9 y != 1)=true)/\Blk w b5 39 [vi d.n,.slice Ad md cd,.slice Bd d.ws.length dd,vi d.t,vi d.r]/\Rd w w3.heap.size 3 encI Al (l.take k)/\d.ws.length<=dd/\Below h.heap.size h w) (fun (j:Nat)=>(l.take k).length-j) 0 ?_ ?_
  ·exact ⟨b.sb,(Qf _),rfl,g,o,f,m⟩
  rintro j a w4 ⟨b,hj,J,g,o,f,m⟩;refine Zs b fun _ aM=>?_;refine Ze (X0q rfl rfl)<|ZX aM fun a b _ aN=>?_
  refine Xi b rfl (fun e=>?_) (fun e=>?_)
  ·have aB:=e;have e:=Q2 e
   obtain ⟨bA,b6⟩:=X5 (l:=(l.take k)) (k:=j) (by omega)
   have bB:(l.take k).length<=1000000000:=by rw [Qn];omega
   obtain ⟨v9,aC⟩:=X5 (l:=l.take k) (k:=j) (by have:=e;omega)
   refine Q7<|aN _ _<|Q5 fun _ aO=>?_;refine Q8<|Zs b fun _ aP=>?_;refine Zi (k:=j) (u:=v9) (enc:=encI) (l:=(l.take k)) tv0 rfl rfl Xj X09 X9 o aC rfl ?_;intro bC aD;refine Ze (X0 rfl X7 aD)<|Za rfl<|Zx aP fun a b _ aQ=>?_;refine Ze (Vn X2 g)<|Zm rfl<|Zm rfl<|Zf (Vc (X83 _ d md C Ad cd (D.bx m).top Bd dd (E.bx m).top f u9 v9 aT) X45) ?_;rintro _ w5 ⟨rfl,H⟩;have g:=g.bw H;have o:=o.bw H;have m:=btr m H;refine Ze (X0m rfl rfl)<|Zt aQ fun a b=>?_
   refine Xi b rfl (fun x=>?_) (fun x=>?_)
   ·have aE:=x
    have q:rdyD d l=false:=X5h (k:=k) (by have:=(Qg.1 B).1;omega) (by unfold rdQ;rw [a7,aK,Qw];exact Xk7 aC (by have A:=x;simp only [beq_iff_eq] at A;rw [A];rfl))
    refine Zs b fun _ aR=>?_;refine Za rfl<|Zt aR fun a b=>?_;refine Q6<|X02<|Xa<|Xa ?_;refine X02<|X02<|Xa<|Xa ?_;refine X02<|Xa<|X6 b (Xu b rfl rfl) ?_;exact ⟨by rw [q],m⟩
   have aE:=x
   have b1:(tyW d.ws u9 v9 != 1)=true:=by have A:=x;simpa using A
   refine Q7<|Xc<|aO _ _<|Zr b ?_;refine Ze (Xm rfl rfl (by omega) (by omega))<|Zm rfl ?_;refine Zn fun a b=>?_;refine Xd ?_;exact ⟨j+1,⟨b.sb,(by omega),(Xj6 J aC b1),g,o,f,m⟩,(by omega)⟩
  have aB:=e;have e:=Q1 e
  have b2:rdQ d l k=true:=by unfold rdQ;rw [a7,aK,Xh8 J (by have:=e;omega)];rfl
  refine Q9<|Xk<|Xk<|X03 ?_;refine Xc<|aF _ _<|Zr b<|Ze (Xm rfl rfl (by omega) (by omega))<|Zm rfl ?_;refine Zn fun a b=>?_;refine Xd ?_;exact ⟨k+1,⟨b.sb,(by omega),(fun i hi=>by by_cases A:i=k;rw [A];exact b2;exact I i (by omega)),g,f,m⟩,(by omega)⟩
 have a6:=c;have c:=Q1 c
 have q:rdyD d l=true:=X4s fun j hj=>I j (by have:=c;omega)
 refine Q9<|Xk<|Xk<|X03 ?_;refine aX _ _<|Zs b fun _ aS=>?_;refine Za rfl<|Zt aS fun a b=>?_
 refine Q6 (X6 b (Xu b rfl rfl) ?_)
 exact ⟨by rw [q],m⟩
theorem Xan(W:World)(d:Dg)(md:Nat)(aE:md=d.ns.length)(Ad:Option Addr)(cd:Nat)(aD:Nat)(c:Own W aD 81 2 encNd Ad cd d.ns)(bF:aD<=W.heap.size)(Bd:Option Addr)(dd:Nat)(e:Rd W W.heap.size 83 encWr Bd d.ws)(U:d.ws.length<=dd)(p:Int)(b5:0<=p/\p.toNat<d.ns.length)(bH:d.ws.length<=1000000000) : Ret Tryz.prog 210 [.agg #[vi d.n,.slice Ad md cd,.slice Bd d.ws.length dd,vi d.t,vi d.r],vi p] W (fun v w=>∃ A' c',v=.agg #[vi ({ d with ns:=dpN d.ns p,ws:=dpW d.ws p } : Dg).n,.slice Ad md cd,.slice A' ({ d with ns:=dpN d.ns p,ws:=dpW d.ws p } : Dg).ws.length c',vi ({ d with ns:=dpN d.ns p,ws:=dpW d.ws p } : Dg).t,vi ({ d with ns:=dpN d.ns p,ws:=dpW d.ws p } : Dg).r]/\Own w aD 81 2 encNd Ad cd ({ d with ns:=dpN d.ns p,ws:=dpW d.ws p } : Dg).ns/\Rd w w.heap.size 83 encWr A' ({ d with ns:=dpN d.ns p,ws:=dpW d.ws p } : Dg).ws/\({ d with ns:=dpN d.ns p,ws:=dpW d.ws p } : Dg).ws.length<=c'/\md=({ d with ns:=dpN d.ns p,ws:=dpW d.ws p } : Dg).ns.length/\W.grownBy w (Value.slice Ad d.ns.length cd).ownBlock):=by
 refine enter Tryz.func210 rfl 38 rfl rfl ?_;intro a A
 have E:W.grownBy W (Value.slice Ad d.ns.length cd).ownBlock:=World.grownBy.refl _ _
 refine Zs A fun _ b6=>?_;refine Zf (X0n (zs:=[vi d.n,.slice Ad md cd,.slice Bd d.ws.length dd,vi d.t,vi d.r]) rfl rfl) ?_;rintro _ w1 ⟨b4,rfl,b8,G,g⟩;have aO:=Q0 E.size b8;have c:=c.bw G;have e:=e.bw G;have E:=gbel E G;refine Zf (Xo (zs:=[vi 0,.slice none 0 0,.slice none 0 0,vi 0,vi 0]) X0o rfl) ?_;rintro _ w2 ⟨b7,rfl,b9,G,i⟩
 have b3:b4≠b7:=by have:=g.lt;omega
 have aP:=Q0 E.size b9;have g:=g.bw G;have c:=c.bw G;have e:=e.bw G;have E:=gbel E G;refine Zx b6 fun a A _ bA=>?_;refine Ze (Vd rfl Xg 1)<|Ze (X0 rfl Xy (g.at 1))<|Zm rfl<|Ze (X0e (ps:=[]) (cs:=[vi 0,vi 0]) rfl (fun _=>by first|rfl|kernel_rfl))<|Ze (Xx (k:=p.toNat) rfl rfl Xl X08 c aE (by omega) (by omega))<|Zo (X17 (enc:=encNd) (l:=d.ns) (vs:=[vi 0,vi 0]) (x0:=(d.ns.getD p.toNat nZ)) (u:=(⟨0,0⟩ : Nd)) (k:=p.toNat) (j:=0) (n1:=2) rfl rfl X08 c Xw rfl rfl rfl rfl (by decide) (Xb b5.2) rfl) ?_;rintro _ w3 ⟨aF,hg⟩;have x:=c;have g:=g.appT x hg rfl;have i:=i.appT x hg rfl;have e:=e.appT x hg rfl;have E:=gtr E hg
 clear x hg;clear c;have c:=aF;clear aF;refine Zx bA fun a A _ bB=>?_;refine Za rfl<|ZX bB fun a A _ aQ=>?_;refine Zs A fun _ aR=>?_;refine Ze (Vd rfl Xn 2)<|Ze (X0 rfl X0g (g.at 2))<|Ze (X0c rfl Xt)<|Zm rfl<|Zt aR fun a A=>?_;refine Q8<|X04 (σ:=Nat×(List Wr)) (fun (s:Nat×(List Wr)) (a:Act) (w:World)=>match s with|(k,m)=>∃ H I,Fr a 38 [(1,vi p),(2,(pZ9 b4)),(4,(pZ9 b7)),(5,.slice H m.length I),(14,.slice Bd d.ws.length dd),(15,vi (d.ws.length:Int)),(16,vi (k:Int))]/\(k<=d.ws.length)/\(m=(d.ws.take k).filter (fun w=>w.a != p&&w.b != p))/\Blk w b4 39 [vi d.n,.slice Ad md cd,.slice Bd d.ws.length dd,vi d.t,vi d.r]/\Blk w b7 39 [vi 0,.slice none 0 0,.slice none 0 0,vi 0,vi 0]/\Own w W.heap.size 83 3 encWr H I m/\Rd w W.heap.size 83 encWr Bd d.ws/\Own w aD 81 2 encNd Ad cd (d.ns.set p.toNat (⟨0,0⟩ : Nd))/\d.ws.length<=dd/\W.grownBy w (Value.slice Ad d.ns.length cd).ownBlock) (fun (s:Nat×(List Wr))=>match s with|(k,m)=>d.ws.length-k) (0,[]) ?_ ?_
 ·exact ⟨none,0,A.sb,(Qf _),rfl,g,i,(Own.nil _ _ _ _ _),e,c,U,E⟩
 rintro ⟨k,m⟩ a w4 ⟨H,I,A,hk,hm,g,i,f,e,c,U,E⟩
 have bJ:m.length<=d.ws.length:=by rw [hm];exact Q0 (List.length_filter_le _ _) (by rw [Qn];omega)
 refine Zs A fun _ aS=>?_;refine Ze (X0q rfl rfl)<|ZX aS fun a A _ aT=>?_
 refine Xi A rfl (fun C=>?_) (fun C=>?_)
 ·have N:=C;have C:=Q2 C
  obtain ⟨bK,bG⟩:=X5 (l:=d.ws) (k:=k) (by omega)
  obtain ⟨L,aH⟩:=X5 (l:=d.ws) (k:=k) (by have:=C;omega)
  refine Q7<|aT _ _<|Q5 fun _ aG=>?_;refine Q8<|Zs A fun _ aU=>?_;refine Zi (k:=k) (u:=L) (enc:=encWr) (l:=d.ws) tv0 rfl rfl Xt X0d Xz e aH rfl ?_;intro bL aI;refine Ze (X01 (l:=[vi L.a,vi L.b,.bool L.h]) rfl X16 aI rfl)<|Zf (Xo (zs:=[vi 0,vi 0,.bool false]) X2m rfl) ?_;rintro _ w5 ⟨aV,rfl,a7,G,B⟩;have a8:=Q0 E.size a7;have J:=f.away a7;have aW:=e.away a7;have g:=g.bw G;have i:=i.bw G;have f:=f.bw G;have e:=e.bw G;have c:=c.bw G;have E:=gbel E G;refine Zo (Vw [vi L.a,vi L.b,.bool L.h] X0d B) ?_;rintro _ w6 ⟨Q,hb⟩;have D:=B;have g:=g.oz Q D rfl;have i:=i.oz Q D rfl;have f:=f.onlyA Q J;have e:=e.oy Q a8;have c:=c.oT Q D rfl;have E:=gonly E Q a8;have B:=hb;refine ZX aU fun a A _ aX=>?_;refine X0b (fun a w=>Fr a 38 [(1,vi p),(2,(pZ9 b4)),(4,(pZ9 b7)),(5,.slice H m.length I),(7,(pZ9 aV)),(14,.slice Bd d.ws.length dd),(15,vi (d.ws.length:Int)),(16,vi (k:Int)),(29,.bool ((L.a != p)&&(L.b != p)))]/\w6=w) ?_ ?_
  ·refine Zr A<|Ze (Vd rfl X0r 0)<|Ze (X0 rfl X7 (B.at 0))<|Zm rfl<|Ze (X1o rfl rfl)<|Zm rfl ?_
   refine Zg 24 rfl (fun o=>?_) (fun o=>?_)
   ·refine Zv (gW o) (Vd rfl X0s 1) ?_;refine Zv (gW o) (X0 rfl X7 (B.at 1)) ?_;refine Zv (gW o) (X3 rfl) ?_;refine Zv (gW o) (X1o rfl rfl) ?_;refine Ze (X4 rfl o rfl) ?_;refine Zn fun a A=>?_;exact ⟨A.sub ⟨rfl,rfl,rfl,rfl,rfl,rfl,rfl,rfl,X1 rfl (by simp [N,o]),trivial⟩,rfl⟩
   (iterate 4 refine Zp (gP o) ?_);refine Ze (Xe rfl o rfl) ?_;refine Zn fun a A=>?_;exact ⟨A.sub ⟨rfl,rfl,rfl,rfl,rfl,rfl,rfl,rfl,X1 rfl (by simp [N,o]),trivial⟩,rfl⟩
  rintro a _ ⟨A,rfl⟩;refine aX _ _ ?_
  refine Xi A rfl (fun M=>?_) (fun M=>?_)
  ·have aJ:=M
   have aA:=X3k (q:=fun w=>w.a != p&&w.b != p) aH
   rw [Q4 M,<- hm] at aA
   refine Zr A<|Zm rfl<|Ze (Vn X16 B)<|Zf (Xs (k:=1) (vs:=[.agg #[vi L.a,vi L.b,.bool L.h]]) (zs:=[vi L.a,vi L.b,.bool L.h]) rfl Xt X14 rfl rfl) ?_;rintro _ w7 ⟨b26,rfl,aB,G,aC⟩
   have aL:aV≠b26:=by have:=B.lt;omega
   have bC:=Q0 E.size aB;have a6:=f.away aB;have aY:=e.away aB;have g:=g.bw G;have i:=i.bw G;have B:=B.bw G;have f:=f.bw G;have e:=e.bw G;have c:=c.bw G;have E:=gbel E G;refine Zf (X0z (enc:=encWr) (l:=(m)) (l2:=([L])) (B0:=W.heap.size) rfl rfl Xt X14 Xz X1r f (Rd.of_blk aC rfl _ aC.lt) (by simp only [maxLen];simp;omega) (by simp;omega) E.size) ?_;rintro _ w8 ⟨bD,bE,rfl,aZ,hg,aK⟩
   have x:Own _ W.heap.size 83 3 encWr _ _ (m):=f
   have aM:=aK _ B.lt J;have aN:=aK _ aC.lt a6;clear aK;have g:=g.appT x hg rfl;have i:=i.appT x hg rfl;have e:=e.appB x hg (Qb _);have c:=c.appT x hg rfl;have E:=gapp E x hg;clear x hg;refine Za rfl ?_;refine Zn fun a A=>?_;refine Xc<|aG _ _<|Zr A<|Ze (Xm rfl rfl (by omega) (by omega))<|Zm rfl ?_;refine Zn fun a A=>?_;refine Xd ?_;exact ⟨(k+1,m++([L])),⟨bD,bE,A.sb,(by omega),(by rw [aA]),g,i,aZ,e,c,U,E⟩,(by first|omega|(dsimp only;omega))⟩
  have aJ:=M
  have aA:=X3k (q:=fun w=>w.a != p&&w.b != p) aH
  rw [Q3 (by rw [M];decide),List.append_nil,<- hm] at aA
  refine Q7<|Xc<|aG _ _<|Zr A ?_;refine Ze (Xm rfl rfl (by omega) (by omega))<|Zm rfl ?_;refine Zn fun a A=>?_;refine Xd ?_;exact ⟨(k+1,m),⟨H,I,A.sb,(by omega),(by rw [aA]),g,i,f,e,c,U,E⟩,(by first|omega|(dsimp only;omega))⟩
 have N:=C;have C:=Q1 C
 have b0:m=dpW d.ws p:=by rw [hm,Qi (by have:=C;omega)];rfl
 refine Q9<|Xk<|Xk<|X03 ?_;refine aQ _ _<|Zs A fun _ b1=>?_;refine Zm rfl<|Ze (Vd rfl Xn 2)<|Zo (Vu (vs:=[.slice H m.length I]) (l':=[vi d.n,.slice Ad md cd,.slice H m.length I,vi d.t,vi d.r]) rfl rfl X1k g) ?_;rintro _ w9 ⟨Q,hb⟩;have D:=g;have i:=i.oy Q (by omega);have f:=f.oT Q D rfl;have c:=c.oT Q D rfl;have E:=gonly E Q aO;have g:=hb;refine Zx b1 fun a A _ b2=>?_;refine Ze (Vn X2 g)<|Zo (Vw [vi d.n,.slice Ad md cd,.slice H m.length I,vi d.t,vi d.r] Xf i) ?_;rintro _ bM ⟨Q,hb⟩;have D:=i;have f:=f.oT Q D rfl;have c:=c.oT Q D rfl;have E:=gonly E Q aP;have i:=hb;refine Zt b2 fun a A=>?_
 refine Q6 (X6 A (Xu A rfl (ResV.cellN (l:=[vi d.n,.slice Ad md cd,.slice H m.length I,vi d.t,vi d.r]) rfl X2 (i.at 0) rfl)) ?_)
 rw [<- b0]
 exact ⟨H,I,rfl,c,f.rd.top,f.cap,aE.trans (X1l _ _).symm,E⟩
structure InD (d:Dg) : Prop where
 w:InW d.ws
 e:∀ x ∈ d.ws,0<=x.a/\x.b<d.ns.length
 p:PhN d.ns
 m:d.ns.length<=1000
theorem Xb7:∀ {l:List Wr} (N:Nat),(∀ x ∈ l,0<=x.a/\x.a<x.b/\x.b<N)->WSd l->∀ m:Nat,(∀ x ∈ l,(m:Int)<=x.a*N+x.b)->l.length+m<=N*N+1∨l=[]
 | [],_,_,_,_,_=>.inr rfl
 | x::l,N,h,hs,m,hm=>by
  left
  have hx:=h x (by simp)
  have hmx:=hm x (by simp)
  have hs':=W8.1 hs
  have hb:x.a*N+x.b<N*N:=by
   have:x.a+1<=N:=by omega
   have h2:(x.a+1)*N<=(N:Int)*N:=Int.mul_le_mul_of_nonneg_right this (by omega)
   rw [Int.add_mul,Int.one_mul] at h2
   omega
  have hstep:∀ y ∈ l,((m+1:Nat) : Int)<=y.a*N+y.b:=fun y hy=>by
   have hl:=hs'.1 y hy
   rw [X2z] at hl
   have hy0:=h y (by simp [hy])
   have hkey:x.a*N+x.b+1<=y.a*N+y.b:=by
    rcases hl with hl|⟨hl,hl2⟩
    ·have h2:(x.a+1)*N<=y.a*N:=Int.mul_le_mul_of_nonneg_right (by omega) (by omega)
     rw [Int.add_mul,Int.one_mul] at h2
     omega
    ·rw [hl];omega
   omega
  have hN:((N*N:Nat) : Int)=(N:Int)*N:=by simp
  rcases Xb7 N (fun y hy=>h y (by simp [hy])) hs'.2 (m+1) hstep with h1|h1
  ·rw [Qs];omega
  ·subst h1
   simp only [Qs,List.length_nil]
   omega
theorem InD.len{d:Dg}(h:InD d) : d.ws.length<=1000001:=by
 have h1:=Xb7 d.ns.length (fun x hx=>⟨(h.e x hx).1,h.w.l x hx,(h.e x hx).2⟩) h.w.s 0 (fun x hx=>by
  have e:=h.e x hx
  have l:=h.w.l x hx
  have:0<=x.a*(d.ns.length:Int):=Int.mul_nonneg e.1 (by omega)
  omega)
 rcases h1 with h1|h1
 ·have:=Nat.mul_le_mul h.m h.m
  omega
 ·rw [h1];simp
theorem X1y{d:Dg}(h:InD d){k v:Int}(hv:v ∈ nearW d.ws k) : 0<=v/\v.toNat<d.ns.length:=by
 obtain ⟨w,hw,ho⟩:=X4o.1 hv
 have e:=h.e w hw
 have l:=h.w.l w hw
 rcases X3l ho with ⟨_,h2⟩|⟨_,h2⟩<;>omega
theorem X76{d:Dg}(h:InD d){k v:Int}{j:Nat}(hv:(nearW d.ws k)[j]? = some v) : 0<=v/\v.toNat<d.ns.length:=X1y h (Qe hv)
theorem Xle(d:Dg)(a b:Int)(h:Bool) : (lkD d a b h).ns.length=d.ns.length/\(lkD d a b h).ws.length<=d.ws.length+1:=by
 have h1:=X3w d.ws a b h;have h2:=(X3u d.ws (fdW d.ws a b).toNat).length_le;have h3:=X3w (ctW d.ws (fdW d.ws a b).toNat) a b false
 unfold lkD
 split
 ·exact ⟨rfl,by dsimp only;omega⟩
 ·split
  ·exact ⟨rfl,by dsimp only;omega⟩
  ·split
   ·exact ⟨X1u _ _ _,by dsimp only;omega⟩
   ·exact ⟨rfl,by omega⟩
theorem X6o(d:Dg)(a b:Int)(h:Bool) : (mtD d a b h).ns.length=d.ns.length/\(mtD d a b h).ws.length<=d.ws.length+1:=by
 unfold mtD
 split
 ·exact Xle d a b h
 ·exact ⟨rfl,by dsimp only;rw [X3w];omega⟩
theorem X2c(d:Dg)(a b:Int) : (tgD d a b).ns=d.ns/\(tgD d a b).ws.length<=d.ws.length+1:=by
 have h2:=(X3u d.ws (fdW d.ws a b).toNat).length_le
 unfold tgD
 split
 ·exact ⟨rfl,by dsimp only;omega⟩
 ·exact ⟨rfl,by dsimp only;rw [X3w];omega⟩
theorem Y02{d:Dg}(hp:PhN d.ns)(a b:Int)(h:Bool) : PhN (lkD d a b h).ns:=by
 unfold lkD
 split
 ·exact hp
 ·split
  ·exact hp
  ·split
   ·exact X68 hp _ _
   ·exact hp
theorem Xn9{d:Dg}(hp:PhN d.ns)(a b:Int)(h:Bool) : PhN (mtD d a b h).ns:=by
 unfold mtD
 split
 ·exact Y02 hp a b h
 ·exact hp
def fuC(d:Dg)(a b:Int) : Bool:=spI d.ns a&&spI d.ns b&&decide (a<b)&&tyW d.ws a b==1
def fu0(d:Dg)(a b:Int) : Dg:={ d with ns:=adN (dpN d.ns b) a (d.ns.getD b.toNat nZ).p,ws:=dpW d.ws b }
def fuT(d:Dg)(a b:Int)(o:Dg)(v:Int) : Dg:=if v=a then o else mtD o a v (tyW d.ws b v==2)
def fuS(d:Dg)(a b:Int)(l:List Int)(o:Dg) : Dg:=l.foldl (fuT d a b) o
def fuD(d:Dg)(a b:Int) : Dg:=fuS d a b (nearW d.ws b) (fu0 d a b)
theorem Xcd{d:Dg}{a b:Int}{l:List Int}{o:Dg}{k:Nat}{v:Int}(hv:l[k]? = some v) : fuS d a b (l.take (k+1)) o=fuT d a b (fuS d a b (l.take k) o) v:=by
 unfold fuS
 rw [Qt,hv,Option.toList_some,List.foldl_append]
 rfl
theorem Xtd{d o:Dg}{a b v:Int}(h:(v != a)=true) : fuT d a b o v=mtD o a v (tyW d.ws b v==2):=by
 unfold fuT;rw [Q3 (by simpa using h)]
theorem Xs8{d o:Dg}{a b v:Int}(h:(v != a)=false) : fuT d a b o v=o:=by
 unfold fuT;rw [Q4 (by simpa using h)]
def idC(d:Dg)(a:Int) : Bool:=spI d.ns a&&(d.ns.getD a.toNat nZ).p==0&&(nearW d.ws a).length==2
def id0(d:Dg)(a:Int) : Dg:={ d with ns:=dpN d.ns a,ws:=dpW d.ws a }
def idD(d:Dg)(a:Int) : Dg:=mtD (id0 d a) ((nearW d.ws a).getD 0 0) ((nearW d.ws a).getD 1 0) (tyW d.ws a ((nearW d.ws a).getD 0 0) != tyW d.ws a ((nearW d.ws a).getD 1 0))
def loC(d:Dg)(a:Int) : Bool:=spI d.ns a&&(d.ns.getD a.toNat nZ).p==0&&(nearW d.ws a).length==0
def loD(d:Dg)(a:Int) : Dg:={ d with ns:=dpN d.ns a,ws:=dpW d.ws a,r:=wr (d.r+2) }
def tgL(o:Dg)(x:Int)(l:List Int) : Dg:=l.foldl (fun o y=>tgD o x y) o
theorem Xlp{o:Dg}{x:Int}{l:List Int}{k:Nat}{v:Int}(hv:l[k]? = some v) : tgL o x (l.take (k+1))=tgD (tgL o x (l.take k)) x v:=by
 unfold tgL
 rw [Qt,hv,Option.toList_some,List.foldl_append]
 rfl
def lcC(d:Dg)(a:Int) : Bool:=spI d.ns a&&(d.ns.getD a.toNat nZ).p % 4==2&&hadD d a&&rdyD d (nearW d.ws a)
def lcS(p:Int)(l:List Int)(o:Dg) : Nat->Dg
 | 0=>o
 | i+1=>tgL { lcS p l o i with ns:=adN (lcS p l o i).ns (l.getD i 0) (8-p) } (l.getD i 0) (l.take i)
def lcD(d:Dg)(a:Int) : Dg:=
 let o:=lcS (d.ns.getD a.toNat nZ).p (nearW d.ws a) (id0 d a) (nearW d.ws a).length
 { o with t:=wr (o.t+(if (d.ns.getD a.toNat nZ).p=2 then 1 else 7)),r:=wr (o.r+(1-((nearW d.ws a).length:Int))) }
theorem Xgg(x:Int) : ∀ (l:List Int) (o:Dg),(tgL o x l).ns=o.ns/\(tgL o x l).ws.length<=o.ws.length+l.length
 | [],o=>⟨rfl,by simp [tgL]⟩
 | v::l,o=>by
  have h:=Xgg x l (tgD o x v);have h1:=X2c o x v
  have e:tgL o x (v::l)=tgL (tgD o x v) x l:=rfl
  rw [e]
  exact ⟨h.1.trans h1.1,by rw [Qs];omega⟩
theorem Xyr{d:Dg}{a b:Int}(h:(!(spI d.ns a)||!(spI d.ns b)||decide (b<=a)||tyW d.ws a b != 1)=true) : fuC d a b=false:=by
 unfold fuC
 cases h1:spI d.ns a<;>cases h2:spI d.ns b<;>simp [h1,h2] at h ⊢
 intro h3
 rcases h with h|h
 ·omega
 ·exact h
theorem Xx4{d:Dg}{a b:Int}(h:(!(spI d.ns a)||!(spI d.ns b)||decide (b<=a)||tyW d.ws a b != 1)=false) : fuC d a b=true:=by
 unfold fuC
 cases h1:spI d.ns a<;>cases h2:spI d.ns b<;>simp [h1,h2] at h ⊢
 exact ⟨by omega,h.2⟩
theorem X8t{d:Dg}{a b:Int}(h:fuC d a b=true) : (0<=a/\a.toNat<d.ns.length)/\(0<=b/\b.toNat<d.ns.length):=by
 unfold fuC at h
 simp only [Qd] at h
 have h1:=X0f h.1.1.1;have h2:=X0f h.1.1.2;exact ⟨⟨h1.1,h1.2.1⟩,⟨h2.1,h2.2.1⟩⟩
theorem Y2o{d:Dg}(h:InD d)(a b:Int) : 0<=((dpN d.ns b).getD a.toNat nZ).p+(d.ns.getD b.toNat nZ).p/\((dpN d.ns b).getD a.toNat nZ).p+(d.ns.getD b.toNat nZ).p<=1000:=by
 have h1:=X1n (X5b h.p b) a.toNat;have h2:=X1n h.p b.toNat
 omega
theorem X2i(ws:List Wr)(k:Int) : (dpW ws k).length<=ws.length:=List.length_filter_le _ _
theorem X70(d:Dg)(a b:Int) : (fu0 d a b).ns.length=d.ns.length/\(fu0 d a b).ws.length<=d.ws.length+0:=⟨(X1u _ _ _).trans (X1l _ _),X2i _ _⟩
theorem Xj2{d:Dg}(h:InD d)(a b:Int) : PhN (fu0 d a b).ns:=X68 (X5b h.p b) _ _
theorem Xel{d:Dg}{a:Int}(h:(!(spI d.ns a)||(d.ns.getD a.toNat nZ).p != 0)=true) : idC d a=false/\loC d a=false:=by
 unfold idC loC
 cases h1:spI d.ns a<;>simp [h1] at h ⊢
 exact ⟨fun h2=>absurd h2 h,fun h2=>absurd h2 h⟩
theorem Xcc{d:Dg}{a:Int}(h:(!(spI d.ns a)||(d.ns.getD a.toNat nZ).p != 0)=false) : (spI d.ns a=true)/\(d.ns.getD a.toNat nZ).p=0:=by
 cases h1:spI d.ns a<;>simp [h1] at h ⊢
 exact h
theorem Xmx{d:Dg}{a:Int}(h:(((nearW d.ws a).length:Int) != 2)=true) : idC d a=false:=by
 unfold idC
 have h2:¬ (nearW d.ws a).length=2:=by have:=(bne_iff_ne.1 h);omega
 simp [h2]
theorem Xfa{d:Dg}{a:Int}(h1:(spI d.ns a=true)/\(d.ns.getD a.toNat nZ).p=0)(h:(((nearW d.ws a).length:Int) != 2)=false) : idC d a=true/\(nearW d.ws a).length=2:=by
 have h2:(nearW d.ws a).length=2:=by
  have h9:((nearW d.ws a).length:Int)=2:=by simpa using h
  omega
 refine ⟨?_,h2⟩
 unfold idC
 rw [h1.1,h1.2,h2]
 rfl
theorem Xwy{d:Dg}{a:Int}(h:0<((nearW d.ws a).length:Int)) : loC d a=false:=by
 unfold loC
 have h2:¬ (nearW d.ws a).length=0:=by omega
 rw [show ((nearW d.ws a).length==0)=false from by simpa using h2,Bool.and_false]
theorem Xri{d:Dg}{a:Int}(h1:(spI d.ns a=true)/\(d.ns.getD a.toNat nZ).p=0)(h:¬ 0<((nearW d.ws a).length:Int)) : loC d a=true:=by
 have h2:(nearW d.ws a).length=0:=by omega
 unfold loC
 rw [h1.1,h1.2,h2]
 rfl
theorem X8k{d:Dg}(h:InD d){k:Int}{j:Nat}(hj:j<(nearW d.ws k).length) : 0<=(nearW d.ws k).getD j 0/\((nearW d.ws k).getD j 0).toNat<d.ns.length:=X76 h (Xb (d:=0) hj)
theorem Xup(d:Dg)(a:Int) : (idD d a).ns.length=d.ns.length:=(X6o (id0 d a) _ _ _).1.trans (X1l _ _)
theorem Xsn{d:Dg}{a:Int}(h:(!(spI d.ns a)||(d.ns.getD a.toNat nZ).p != 0||decide (0<((nearW d.ws a).length:Int)))=true) : loC d a=false:=by
 simp only [Bool.or_eq_true,Qr] at h
 rcases h with h|h
 ·exact (Xel (by simpa using h)).2
 ·exact Xwy h
theorem Xmo{d:Dg}{a:Int}(h:(!(spI d.ns a)||(d.ns.getD a.toNat nZ).p != 0||decide (0<((nearW d.ws a).length:Int)))=false) : loC d a=true/\0<=a/\a.toNat<d.ns.length:=by
 rw [Bool.or_eq_false_iff] at h
 have h1:=Xcc h.1;have h3:=X0f h1.1;exact ⟨Xri h1 (Q1 h.2),h3.1,h3.2.1⟩
theorem Xfh{n:Nat} : ∀ {l:List Int} (m:Nat),Inc l->(∀ x ∈ l,(m:Int)<=x/\x<n)->l.length+m<=n∨l=[]
 | [],_,_,_=>.inr rfl
 | x::l,m,hi,h=>by
  left
  have hi':=W8.1 hi
  have hx:=h x (by simp)
  rcases Xfh (m+1) hi'.2 (fun y hy=>⟨by have:=hi'.1 y hy;omega,(h y (by simp [hy])).2⟩) with h1|h1
  ·rw [Qs];omega
  ·subst h1
   simp only [Qs,List.length_nil]
   omega
theorem X43{d:Dg}(h:InD d)(k:Int) : (nearW d.ws k).length<=d.ns.length:=by
 rcases Xfh (n:=d.ns.length) 0 (X3i (k:=k) h.w) (fun x hx=>by have:=X1y h hx;omega) with h1|h1
 ·omega
 ·rw [h1];simp
theorem Xa5{x:Int}(h:0<=x) : x.tmod 4=x % 4:=Int.tmod_eq_emod_of_nonneg h
theorem Xng{d:Dg}(hd:InD d){a:Int}(h:(!(spI d.ns a)||((d.ns.getD a.toNat nZ).p.tmod 4 != 2))=true) : lcC d a=false:=by
 unfold lcC
 rw [Xa5 (X1n hd.p _).1] at h
 cases h1:spI d.ns a<;>simp [h1] at h ⊢
 exact fun h2=>absurd h2 h
theorem Xgl{d:Dg}(hd:InD d){a:Int}(h:(!(spI d.ns a)||((d.ns.getD a.toNat nZ).p.tmod 4 != 2))=false) : spI d.ns a=true/\((d.ns.getD a.toNat nZ).p=2∨(d.ns.getD a.toNat nZ).p=6):=by
 rw [Xa5 (X1n hd.p _).1] at h
 have h2:=X1n hd.p a.toNat
 generalize (d.ns.getD a.toNat nZ).p=x at h h2 ⊢
 cases h1:spI d.ns a<;>simp [h1] at h ⊢
 omega
theorem Xu8{d:Dg}{a:Int}(h:(!(hadD d a)||!(rdyD d (nearW d.ws a)))=true) : lcC d a=false:=by
 unfold lcC
 cases h1:hadD d a<;>cases h2:rdyD d (nearW d.ws a)<;>simp [h1,h2] at h ⊢
theorem Xh7{d:Dg}{a:Int}(h1:spI d.ns a=true/\((d.ns.getD a.toNat nZ).p=2∨(d.ns.getD a.toNat nZ).p=6))(h:(!(hadD d a)||!(rdyD d (nearW d.ws a)))=false) : lcC d a=true:=by
 unfold lcC
 have h3:((d.ns.getD a.toNat nZ).p % 4==2)=true:=by rcases h1.2 with e|e<;>rw [e]<;>rfl
 rw [h1.1,h3]
 cases h4:hadD d a<;>cases h5:rdyD d (nearW d.ws a)<;>simp [h4,h5] at h ⊢
theorem Xo0{x:Int}(h:x=2∨x=6) : wr (1+wr (wr ((x-2).tdiv 4)*6))=if x=2 then 1 else 7:=by rcases h with h|h<;>subst h<;>decide
theorem Xk4{p u:Int}{l:List Int}{o:Dg}{k:Nat}(hu:l[k]? = some u) : lcS p l o (k+1)=tgL { lcS p l o k with ns:=adN (lcS p l o k).ns u (8-p) } u (l.take k):=by
 have e:l.getD k 0=u:=by rw [Qa,hu];rfl
 show tgL { lcS p l o k with ns:=adN (lcS p l o k).ns (l.getD k 0) (8-p) } (l.getD k 0) (l.take k)=_
 rw [e]
theorem Xmk{d o:Dg}{a:Int}(h:o=lcS (d.ns.getD a.toNat nZ).p (nearW d.ws a) (id0 d a) (nearW d.ws a).length) : lcD d a = { o with t:=wr (o.t+(if (d.ns.getD a.toNat nZ).p=2 then 1 else 7)),r:=wr (o.r+(1-((nearW d.ws a).length:Int))) }:=by subst h;rfl
theorem Y2e(w0:World)(d:Dg)(md:Nat)(N:md=d.ns.length)(Ad:Option Addr)(cd:Nat)(a6:Rd w0 w0.heap.size 81 encNd Ad d.ns)(Bd:Option Addr)(dd:Nat)(a8:Rd w0 w0.heap.size 83 encWr Bd d.ws)(Q:d.ws.length<=dd)(p:Int)(q:Int)(hD:InD d) : Ret Tryz.prog 175 [.agg #[vi d.n,.slice Ad md cd,.slice Bd d.ws.length dd,vi d.t,vi d.r],vi p,vi q] w0 (fun v w=>∃ A c B e,v=.tuple #[.agg #[vi (if (fuC d p q)=true then fuD d p q else d).n,.slice A md c,.slice B (if (fuC d p q)=true then fuD d p q else d).ws.length e,vi (if (fuC d p q)=true then fuD d p q else d).t,vi (if (fuC d p q)=true then fuD d p q else d).r],.bool (fuC d p q)]/\Rd w w.heap.size 81 encNd A (if (fuC d p q)=true then fuD d p q else d).ns/\Rd w w.heap.size 83 encWr B (if (fuC d p q)=true then fuD d p q else d).ws/\(if (fuC d p q)=true then fuD d p q else d).ws.length<=e/\md=(if (fuC d p q)=true then fuD d p q else d).ns.length/\Below w0.heap.size w0 w):=by
 have cM:=hD.len;have cN:=hD.m;have cO:=X2e d.ws q;refine enter Tryz.func175 rfl 69 rfl rfl ?_;intro a J
 have x:=bz w0
 refine Zs J fun _ c5=>?_;refine Zf (X0n (zs:=[vi d.n,.slice Ad md cd,.slice Bd d.ws.length dd,vi d.t,vi d.r]) rfl rfl) ?_;rintro _ w1 ⟨b4,rfl,cA,C,f⟩;have cI:=Q0 x.size cA;have x:=btr x C;refine Zf (Xo (zs:=[vi 0,.slice none 0 0,.slice none 0 0,vi 0,vi 0]) X0o rfl) ?_;rintro _ w2 ⟨b7,rfl,cB,C,i⟩
 have bZ:b4≠b7:=by have:=f.lt;omega
 have aS:=Q0 x.size cB;have f:=f.bw C;have x:=btr x C;refine Za rfl<|ZX c5 fun a J _ cC=>?_;refine Q5 fun _ cD=>?_;refine X0b (fun a w=>Fr a 69 [(1,vi p),(2,vi q),(3,(pZ9 b4)),(6,(pZ9 b7)),(32,.bool ((((!(spI d.ns p))||(!(spI d.ns q)))||(decide (q<=p)))||((tyW d.ws p q) != 1)))]/\Below w2.heap.size w2 w) ?_ ?_
 ·have aB:Below w2.heap.size w2 w2:=Below.refl _ _
  refine Zr J<|Ze (Vn X2 f)<|Zm rfl<|Zf (Vc (X5d _ d md N Ad cd (a6.bx x).top Bd dd (a8.bx x).top Q p (by rw [N];exact hD.m)) X2p) ?_;rintro _ w3 ⟨rfl,C⟩;have f:=f.bw C;have x:=btr x C;have aB:=btr aB C;refine Ze (X0y rfl)<|Zm rfl ?_
  refine Zg 15 rfl (fun E=>?_) (fun E=>?_)
  ·(iterate 4 refine Zp (gP E) ?_);refine Ze (X4 rfl E rfl)<|Zm rfl<|Zp (gP rfl) ?_;(iterate 2 refine Zp (gP rfl) ?_);refine Ze (X4 rfl rfl rfl)<|Zm rfl<|Zp (gP rfl) ?_;(iterate 4 refine Zp (gP rfl) ?_);refine Ze (X4 rfl rfl rfl) ?_;refine Zn fun a J=>?_
   have aJ:Below w2.heap.size w2 w3:=aB
   exact ⟨J.sub ⟨rfl,rfl,rfl,rfl,X1 rfl (by simp [E]),trivial⟩,aJ⟩
  refine Zv (gW E) (Vn X2 f) ?_;refine Zv (gW E) (X3 rfl) ?_;refine Zk (gW E) (Vc (X5d _ d md N Ad cd (a6.bx x).top Bd dd (a8.bx x).top Q q (by rw [N];exact hD.m)) X2p) ?_;rintro _ w4 ⟨rfl,C⟩;have f:=f.bw C;have x:=btr x C;have aB:=btr aB C;refine Zv (gW E) (X0y rfl) ?_;refine Ze (Xe rfl E rfl)<|Zm rfl ?_
  refine Zg 21 rfl (fun M=>?_) (fun M=>?_)
  ·(iterate 3 refine Zp (gP M) ?_);refine Ze (X4 rfl M rfl)<|Zm rfl<|Zp (gP rfl) ?_;(iterate 4 refine Zp (gP rfl) ?_);refine Ze (X4 rfl rfl rfl) ?_;refine Zn fun a J=>?_
   have aJ:Below w2.heap.size w2 w4:=aB
   exact ⟨J.sub ⟨rfl,rfl,rfl,rfl,X1 rfl (by simp [E,M]),trivial⟩,aJ⟩
  refine Zv (gW M) (X3 rfl) ?_;refine Zv (gW M) (X3 rfl) ?_;refine Zv (gW M) (X5g rfl rfl) ?_;refine Ze (Xe rfl M rfl)<|Zm rfl ?_
  refine Zg 26 rfl (fun G=>?_) (fun G=>?_)
  ·(iterate 5 refine Zp (gP G) ?_);refine Ze (X4 rfl G rfl) ?_;refine Zn fun a J=>?_
   have aJ:Below w2.heap.size w2 w4:=aB
   exact ⟨J.sub ⟨rfl,rfl,rfl,rfl,X1 rfl (by simp [E,M,G]),trivial⟩,aJ⟩
  refine Zv (gW G) (Vn X2 f) ?_;refine Zv (gW G) (X3 rfl) ?_;refine Zv (gW G) (X3 rfl) ?_;refine Zk (gW G) (Vc (X83 _ d md N Ad cd (a6.bx x).top Bd dd (a8.bx x).top Q p q (by have:=hD.len;omega)) X45) ?_;rintro _ w5 ⟨rfl,C⟩;have x:=btr x C;have aB:=btr aB C;refine Zv (gW G) (X1o rfl rfl) ?_;refine Ze (Xe rfl G rfl) ?_;refine Zn fun a J=>?_
  have aJ:Below w2.heap.size w2 w5:=aB
  exact ⟨J.sub ⟨rfl,rfl,rfl,rfl,X1 rfl (by simp [E,M,G]),trivial⟩,aJ⟩
 rintro a w6 ⟨J,C⟩;have f:=f.bw C;have i:=i.bw C;have x:=btr x C;refine cD _ _ ?_
 refine Xi J rfl (fun aE=>?_) (fun aE=>?_)
 ·have aU:=aE
  have cE:fuC d p q=false:=Xyr aE
  refine Zs J fun _ b1=>?_;refine Ze (Vn X2 f)<|Zo (Vw [vi d.n,.slice Ad md cd,.slice Bd d.ws.length dd,vi d.t,vi d.r] Xf i) ?_;rintro _ w7 ⟨ho,hb⟩;have L:=i;have x:=Below.oy x ho aS;have i:=hb;refine Za rfl<|Zt b1 fun a J=>?_;refine Q6<|Xa<|X6 J (X19 J rfl (ResV.cellN (l:=[vi d.n,.slice Ad md cd,.slice Bd d.ws.length dd,vi d.t,vi d.r]) rfl X2 (i.at 0) rfl) rfl) ?_
  rw [cE,Q3 Bool.false_ne_true]
  exact ⟨Ad,cd,Bd,dd,rfl,(a6.bx x).top,(a8.bx x).top,Q,N,x⟩
 have aU:=aE
 have b2:fuC d p q=true:=Xx4 aE
 obtain ⟨b3,b5⟩:=X8t b2;refine Q7<|cC _ _<|Zs J fun _ b6=>?_;refine Ze (Vn X2 f)<|Zf (Vc (Xa0 _ d md N Ad cd (a6.bx x).top Bd dd (a8.bx x).top Q ⟨by have:=hD.m;omega,by have:=hD.len;omega⟩) X64) ?_;rintro _ w8 ⟨aN,aO,cF,cG,rfl,h,aL,C⟩;have h:=h.lower x.size;have aL:=aL.lower x.size;have f:=f.bw C;have i:=i.bw C;have x:=btr x C;refine Zm rfl<|Zf (Vc (Xan _ d d.ns.length rfl aN aO _ h x.size cF cG aL.rd.top aL.cap q ⟨b5.1,by omega⟩ (by omega)) X5p) ?_;rintro _ w9 ⟨b8,b9,rfl,a7,aA,bA,bB,hg⟩;have D:=h;have f:=f.appT D hg rfl;have i:=i.appT D hg rfl;have x:=Below.app x D hg (Qb _) x.size
 clear D hg;clear h;have h:=a7;clear a7;refine Zf (Xo (zs:=[vi 0,.slice none 0 0,.slice none 0 0,vi 0,vi 0]) X0o rfl) ?_;rintro _ cP ⟨b21,rfl,bC,C,g⟩
 have bD:b4≠b21:=by have:=f.lt;omega
 have bE:b7≠b21:=by have:=i.lt;omega
 have aK:=Q0 x.size bC;have f:=f.bw C;have i:=i.bw C;have h:=h.bw C;have aA:=aA.bw C;have x:=btr x C;refine Zo (Vw [vi (({ d with ns:=dpN d.ns q,ws:=dpW d.ws q } : Dg).n),.slice aN d.ns.length aO,.slice b8 (({ d with ns:=dpN d.ns q,ws:=dpW d.ws q } : Dg).ws).length b9,vi (({ d with ns:=dpN d.ns q,ws:=dpW d.ws q } : Dg).t),vi (({ d with ns:=dpN d.ns q,ws:=dpW d.ws q } : Dg).r)] Xf g) ?_;rintro _ cQ ⟨ho,hb⟩;have L:=g;have f:=f.oy ho (by omega);have i:=i.oy ho (by omega);have h:=h.oT ho L rfl;have aA:=aA.oT ho L rfl;have x:=Below.oy x ho aK;have g:=hb;refine ZX b6 fun a J _ bF=>?_;refine X00 none (fun j=>[8,9].contains j) mixed ?_;intro cR C;have f:=f.bw C;have i:=i.bw C;have g:=g.bw C;have h:=h.bw C;have aA:=aA.bw C;have x:=btr x C;refine Yb J<|Ye 0 rfl (Vn X2 g)<|Yo 1 rfl (fun _=>X3 rfl)<|Yo 2 rfl (fun _=>Vd rfl Xg 1)<|Ye 3 rfl (X0 rfl Xy (f.at 1))<|Yo 4 rfl (fun _=>X3 rfl)<|Yj (k:=q.toNat) (u:=(d.ns.getD q.toNat nZ)) (enc:=encNd) (l:=d.ns) 5 rfl tv0 rfl N rfl Xl X08 Xw (a6.bx x) (Xb b5.2) (by omega) ?_;intro cS aV;refine Yo 6 rfl (fun _=>X2l rfl X06)<|Ye 7 rfl (X0 rfl X7 (aV.drop 1))<|Y1 8 ?_;refine Yt rfl tv0 rfl (Vc (Xar _ ({ d with ns:=dpN d.ns q,ws:=dpW d.ws q } : Dg) d.ns.length bB aN aO _ h x.size b8 b9 aA.top bA p ((d.ns.getD q.toNat nZ).p) ⟨b3.1,by rw [X1l];omega⟩ (Y2o hD p q)) X5v) ?_;rintro _ cT ⟨bG,bH,rfl,a7,aF,bJ,cJ,hg⟩;have D:=h;have f:=f.appT D hg rfl;have i:=i.appT D hg rfl;have g:=g.appT D hg rfl
 have x:=Below.app x D hg (Qb _) x.size
 clear D hg;clear h;have h:=a7;clear a7;refine Y1 9<|Yh rfl tv0 rfl (Vw [vi (({ ({ d with ns:=dpN d.ns q,ws:=dpW d.ws q } : Dg) with ns:=adN ({ d with ns:=dpN d.ns q,ws:=dpW d.ws q } : Dg).ns p ((d.ns.getD q.toNat nZ).p) } : Dg).n),.slice aN d.ns.length aO,.slice bG (({ ({ d with ns:=dpN d.ns q,ws:=dpW d.ws q } : Dg) with ns:=adN ({ d with ns:=dpN d.ns q,ws:=dpW d.ws q } : Dg).ns p ((d.ns.getD q.toNat nZ).p) } : Dg).ws).length bH,vi (({ ({ d with ns:=dpN d.ns q,ws:=dpW d.ws q } : Dg) with ns:=adN ({ d with ns:=dpN d.ns q,ws:=dpW d.ws q } : Dg).ns p ((d.ns.getD q.toNat nZ).p) } : Dg).t),vi (({ ({ d with ns:=dpN d.ns q,ws:=dpW d.ws q } : Dg) with ns:=adN ({ d with ns:=dpN d.ns q,ws:=dpW d.ws q } : Dg).ns p ((d.ns.getD q.toNat nZ).p) } : Dg).r)] Xf g) ?_;rintro _ cU ⟨ho,hb⟩;have L:=g;have f:=f.oy ho (by omega);have i:=i.oy ho (by omega);have h:=h.oT ho L rfl;have aF:=aF.oT ho L rfl;have x:=Below.oy x ho aK;have g:=hb;refine Yd fun a J=>?_;refine bF _ _<|Q5 fun _ bK=>?_;refine Zs J fun _ bL=>?_;refine Ze (Vn X2 f)<|Zm rfl<|Zf (Vc (Xa7 _ d md N Ad cd (a6.bx x).top Bd dd (a8.bx x).top Q q hD.w (by omega)) X62) ?_;rintro _ cV ⟨bM,bN,rfl,H,C⟩;have H:=H.lower x.size;have f:=f.bw C;have i:=i.bw C;have g:=g.bw C;have h:=h.bw C;have aF:=aF.bw C;have x:=btr x C;refine Ze (X0c rfl Xj)<|Zm rfl<|Zt bL fun a J=>?_;refine Q8<|X04 (σ:=Nat×Dg) (fun (s:Nat×Dg) (a:Act) (w:World)=>match s with|(k,o)=>∃ aC aD aG aH,Fr a 69 [(1,vi p),(2,vi q),(3,(pZ9 b4)),(6,(pZ9 b7)),(8,(pZ9 b21)),(49,.slice bM (nearW d.ws q).length bN),(50,vi ((nearW d.ws q).length:Int)),(51,vi (k:Int))]/\(k<=(nearW d.ws q).length)/\(o=fuS d p q ((nearW d.ws q).take k) (fu0 d p q))/\(d.ns.length=o.ns.length)/\(o.ws.length<=d.ws.length+k)/\(PhN o.ns)/\Blk w b4 39 [vi d.n,.slice Ad md cd,.slice Bd d.ws.length dd,vi d.t,vi d.r]/\Blk w b7 39 [vi 0,.slice none 0 0,.slice none 0 0,vi 0,vi 0]/\Blk w b21 39 [vi o.n,.slice aC d.ns.length aD,.slice aG o.ws.length aH,vi o.t,vi o.r]/\Own w w0.heap.size 3 1 encI bM bN (nearW d.ws q)/\Own w w0.heap.size 81 2 encNd aC aD o.ns/\Rd w w.heap.size 83 encWr aG o.ws/\d.ws.length<=dd/\o.ws.length<=aH/\Below w0.heap.size w0 w) (fun (s:Nat×Dg)=>match s with|(k,o)=>(nearW d.ws q).length-k) (0,(fu0 d p q)) ?_ ?_
 ·exact ⟨aN,aO,bG,bH,J.sb,(Qf _),rfl,(X70 d p q).1.symm,(X70 d p q).2,(Xj2 hD p q),f,i,g,H,h,aF.top,Q,bJ,x⟩
 rintro ⟨k,o⟩ a cW ⟨aC,aD,aG,aH,J,hk,bO,aM,cX,aP,f,i,g,H,I,U,Q,aW,x⟩;refine Zs J fun _ bP=>?_;refine Ze (X0q rfl rfl)<|ZX bP fun a J _ bQ=>?_
 refine Xi J rfl (fun W=>?_) (fun W=>?_)
 ·have aX:=W;have W:=Q2 W
  obtain ⟨cY,cK⟩:=X5 (l:=(nearW d.ws q)) (k:=k) (by omega)
  obtain ⟨u9,aY⟩:=X5 (l:=nearW d.ws q) (k:=k) (by have:=W;omega)
  have cH:=X76 hD aY;have aQ:=Xcd (d:=d) (a:=p) (b:=q) (o:=fu0 d p q) aY
  rw [<- bO] at aQ
  refine Q7<|bQ _ _<|Q5 fun _ aT=>?_;refine Q8<|Zs J fun _ bR=>?_;refine Zi (k:=k) (u:=u9) (enc:=encI) (l:=(nearW d.ws q)) tv0 rfl rfl Xj X09 X9 H.rd aY rfl ?_;intro cZ aZ;refine Ze (X0 rfl X7 aZ)<|Za rfl<|Zx bR fun a J _ bS=>?_;refine Zm rfl<|Zm rfl<|Ze (X1o rfl rfl)<|Zt bS fun a J=>?_
  refine Xi J rfl (fun aI=>?_) (fun aI=>?_)
  ·have b0:=aI
   rw [Xtd aI] at aQ
   refine X00 none (fun j=>[8,9].contains j) mixed ?_;intro d5 C;have f:=f.bw C;have i:=i.bw C;have g:=g.bw C;have H:=H.bw C;have I:=I.bw C;have U:=U.bw C;have x:=btr x C;refine Yb J<|Ye 0 rfl (Vn X2 g)<|Yo 1 rfl (fun _=>X3 rfl)<|Yo 2 rfl (fun _=>X3 rfl)<|Ye 3 rfl (Vn X2 f)<|Yo 4 rfl (fun _=>X3 rfl)<|Yo 5 rfl (fun _=>X3 rfl)<|Y1 6 ?_;refine Yk rfl tv0 (Vc (X83 _ d md N Ad cd (a6.bx x).top Bd dd (a8.bx x).top Q q u9 (by have:=hD.len;omega)) X45) (fun _ _ ⟨_,C⟩=>C) ?_;rintro _ d6 ⟨rfl,C⟩;have f:=f.bw C;have i:=i.bw C;have g:=g.bw C;have H:=H.bw C;have I:=I.bw C;have U:=U.bw C;have x:=btr x C;refine Yo 7 rfl (fun _=>X0m rfl rfl)<|Y1 8 ?_;refine Yt rfl tv0 rfl (Vc (Xtr _ o d.ns.length aM aC aD _ I x.size aG aH U.top aW p u9 ((tyW d.ws q u9)==2) (by omega) ⟨⟨b3.1,by omega⟩,⟨cH.1,by omega⟩⟩ aP (by omega)) Xg4) ?_;rintro _ d7 ⟨bT,bU,rfl,a7,aR,bW,cL,hg⟩;have D:=I;have f:=f.appT D hg rfl;have i:=i.appT D hg rfl;have g:=g.appT D hg rfl;have H:=H.appT D hg rfl;have x:=Below.app x D hg (Qb _) x.size
   clear D hg;clear I;have I:=a7;clear a7;refine Y1 9<|Yh rfl tv0 rfl (Vw [vi ((mtD o p u9 ((tyW d.ws q u9)==2)).n),.slice aC d.ns.length aD,.slice bT ((mtD o p u9 ((tyW d.ws q u9)==2)).ws).length bU,vi ((mtD o p u9 ((tyW d.ws q u9)==2)).t),vi ((mtD o p u9 ((tyW d.ws q u9)==2)).r)] Xf g) ?_;rintro _ d8 ⟨ho,hb⟩;have L:=g;have f:=f.oy ho (by omega);have i:=i.oy ho (by omega);have H:=H.oT ho L rfl;have I:=I.oT ho L rfl;have aR:=aR.oT ho L rfl;have x:=Below.oy x ho aK;have g:=hb;refine Yd fun a J=>?_;refine Xc<|aT _ _<|Zr J<|Ze (Xm rfl rfl (by omega) (by omega))<|Zm rfl ?_;refine Zn fun a J=>?_;refine Xd ?_;exact ⟨(k+1,(mtD o p u9 ((tyW d.ws q u9)==2))),⟨aC,aD,bT,bU,J.sb,(by omega),(by rw [aQ]),(by first|exact aM|exact aM.trans (X6o _ _ _ _).1.symm),(by first|omega|(have:=(X6o o p u9 (tyW d.ws q u9==2)).2;omega)),(by first|exact aP|exact Xn9 aP _ _ _),f,i,g,H,I,aR.top,Q,bW,x⟩,(by first|omega|(dsimp only;omega))⟩
  have b0:=aI
  rw [Xs8 aI] at aQ
  refine Q7<|Xc<|aT _ _<|Zr J ?_;refine Ze (Xm rfl rfl (by omega) (by omega))<|Zm rfl ?_;refine Zn fun a J=>?_;refine Xd ?_;exact ⟨(k+1,o),⟨aC,aD,aG,aH,J.sb,(by omega),(by rw [aQ]),(by first|exact aM|exact aM.trans (X6o _ _ _ _).1.symm),(by first|omega|(have:=(X6o o p u9 (tyW d.ws q u9==2)).2;omega)),(by first|exact aP|exact Xn9 aP _ _ _),f,i,g,H,I,U.top,Q,aW,x⟩,(by first|omega|(dsimp only;omega))⟩
 have aX:=W;have W:=Q1 W
 have bX:o=fuD d p q:=by rw [bO,Qi (by have:=W;omega)];rfl
 refine Q9<|Xk<|Xk<|X03 ?_;refine bK _ _<|Zs J fun _ bY=>?_;refine Ze (Vn X2 g)<|Zo (Vw [vi o.n,.slice aC d.ns.length aD,.slice aG o.ws.length aH,vi o.t,vi o.r] Xf i) ?_;rintro _ dA ⟨ho,hb⟩;have L:=i;have I:=I.oT ho L rfl;have U:=U.oT ho L rfl;have x:=Below.oy x ho aS;have i:=hb;refine Za rfl<|Zt bY fun a J=>?_
 refine Q6 (X6 J (X19 J rfl (ResV.cellN (l:=[vi o.n,.slice aC d.ns.length aD,.slice aG o.ws.length aH,vi o.t,vi o.r]) rfl X2 (i.at 0) rfl) rfl) ?_)
 rw [b2,Q4 rfl,<- bX,N]
 exact ⟨aC,aD,aG,aH,rfl,I.rd.top,U.top,aW,aM,x⟩
theorem Y31(w0:World)(d:Dg)(md:Nat)(C:md=d.ns.length)(Ad:Option Addr)(cd:Nat)(E:Rd w0 w0.heap.size 81 encNd Ad d.ns)(Bd:Option Addr)(dd:Nat)(H:Rd w0 w0.heap.size 83 encWr Bd d.ws)(J:d.ws.length<=dd)(p:Int)(hD:InD d) : Ret Tryz.prog 177 [.agg #[vi d.n,.slice Ad md cd,.slice Bd d.ws.length dd,vi d.t,vi d.r],vi p] w0 (fun v w=>∃ A c B e,v=.tuple #[.agg #[vi (if (idC d p)=true then idD d p else d).n,.slice A md c,.slice B (if (idC d p)=true then idD d p else d).ws.length e,vi (if (idC d p)=true then idD d p else d).t,vi (if (idC d p)=true then idD d p else d).r],.bool (idC d p)]/\Rd w w.heap.size 81 encNd A (if (idC d p)=true then idD d p else d).ns/\Rd w w.heap.size 83 encWr B (if (idC d p)=true then idD d p else d).ws/\(if (idC d p)=true then idD d p else d).ws.length<=e/\md=(if (idC d p)=true then idD d p else d).ns.length/\Below w0.heap.size w0 w):=by
 have bL:=hD.len;have bM:=hD.m;have bN:=X2e d.ws p;refine enter Tryz.func177 rfl 52 rfl rfl ?_;intro a I
 have i:=bz w0
 refine Zs I fun _ b8=>?_;refine Zf (X0n (zs:=[vi d.n,.slice Ad md cd,.slice Bd d.ws.length dd,vi d.t,vi d.r]) rfl rfl) ?_;rintro _ w1 ⟨b4,rfl,b9,q,D⟩;have bE:=Q0 i.size b9;have i:=btr i q;refine Zf (Xo (zs:=[vi 0,.slice none 0 0,.slice none 0 0,vi 0,vi 0]) X0o rfl) ?_;rintro _ w2 ⟨b7,rfl,bA,q,f⟩
 have b6:b4≠b7:=by have:=D.lt;omega
 have aC:=Q0 i.size bA;have D:=D.bw q;have i:=btr i q;refine Za rfl<|ZX b8 fun a I _ bB=>?_;refine Q5 fun _ bC=>?_;refine X0b (fun a w=>Fr a 52 [(1,vi p),(2,(pZ9 b4)),(4,(pZ9 b7)),(19,.bool ((!(spI d.ns p))||(((d.ns.getD p.toNat nZ).p) != 0)))]/\Below w2.heap.size w2 w) ?_ ?_
 ·have aF:Below w2.heap.size w2 w2:=Below.refl _ _
  refine Zr I<|Ze (Vn X2 D)<|Zm rfl<|Zf (Vc (X5d _ d md C Ad cd (E.bx i).top Bd dd (H.bx i).top J p (by rw [C];exact hD.m)) X2p) ?_;rintro _ w3 ⟨rfl,q⟩;have D:=D.bw q;have i:=btr i q;have aF:=btr aF q;refine Ze (X0y rfl)<|Zm rfl ?_
  refine Zg 11 rfl (fun b=>?_) (fun b=>?_)
  ·(iterate 7 refine Zp (gP b) ?_);refine Ze (X4 rfl b rfl) ?_;refine Zn fun a I=>?_
   have aI:Below w2.heap.size w2 w3:=aF
   exact ⟨I.sub ⟨rfl,rfl,rfl,X1 rfl (by simp [b]),trivial⟩,aI⟩
  have aJ:0<=p/\p.toNat<d.ns.length:=by have h9:=X0f (ns:=d.ns) (k:=p) (by simpa using b);exact ⟨h9.1,h9.2.1⟩
  refine Zv (gW b) (Vd rfl Xg 1) ?_;refine Zv (gW b) (X0 rfl Xy (D.at 1)) ?_;refine Zv (gW b) (X3 rfl) ?_;refine Zj (k:=p.toNat) (u:=(d.ns.getD p.toNat nZ)) (enc:=encNd) (l:=d.ns) ⟨_,_,rfl,rfl,b⟩ rfl C rfl Xl X08 Xw (E.bx i) (Xb aJ.2) (by omega) ?_;intro bO aK;refine Zv (gW b) (X2l rfl X06) ?_;refine Zv (gW b) (X0 rfl X7 (aK.drop 1)) ?_;refine Zv (gW b) (X1o rfl rfl) ?_;refine Ze (Xe rfl b rfl) ?_;refine Zn fun a I=>?_
  have aI:Below w2.heap.size w2 w3:=aF
  exact ⟨I.sub ⟨rfl,rfl,rfl,X1 rfl (by simp [b]),trivial⟩,aI⟩
 rintro a w4 ⟨I,q⟩;have D:=D.bw q;have f:=f.bw q;have i:=btr i q;refine bC _ _ ?_
 refine Xi I rfl (fun W=>?_) (fun W=>?_)
 ·have aL:=W;obtain ⟨aM,bF⟩:=Xel W;refine Zs I fun _ aS=>?_;refine Ze (Vn X2 D)<|Zo (Vw [vi d.n,.slice Ad md cd,.slice Bd d.ws.length dd,vi d.t,vi d.r] Xf f) ?_;rintro _ w5 ⟨ho,hb⟩;have aA:=f;have i:=Below.oy i ho aC;have f:=hb;refine Za rfl<|Zt aS fun a I=>?_;refine Q6<|Xa<|X6 I (X19 I rfl (ResV.cellN (l:=[vi d.n,.slice Ad md cd,.slice Bd d.ws.length dd,vi d.t,vi d.r]) rfl X2 (f.at 0) rfl) rfl) ?_
  rw [aM,Q3 Bool.false_ne_true]
  exact ⟨Ad,cd,Bd,dd,rfl,(E.bx i).top,(H.bx i).top,J,C,i⟩
 have aL:=W;have aN:=Xcc W
 have aJ:0<=p/\p.toNat<d.ns.length:=⟨(X0f aN.1).1,(X0f aN.1).2.1⟩
 refine Q7<|bB _ _<|Zs I fun _ aT=>?_;refine Ze (Vn X2 D)<|Zm rfl<|Zf (Vc (Xa7 _ d md C Ad cd (E.bx i).top Bd dd (H.bx i).top J p hD.w (by omega)) X62) ?_;rintro _ w6 ⟨bP,bQ,rfl,G,q⟩;have G:=G.lower i.size;have D:=D.bw q;have f:=f.bw q;have i:=btr i q;refine Za rfl<|ZX aT fun a I _ aU=>?_;refine Zs I fun _ aV=>?_;refine Zm rfl<|Ze (X0c rfl Xj)<|Ze (X1o rfl rfl)<|Zt aV fun a I=>?_
 refine Xi I rfl (fun a6=>?_) (fun a6=>?_)
 ·have aO:=a6;have aM:=Xmx a6;refine Zs I fun _ aW=>?_;refine Ze (Vn X2 D)<|Zo (Vw [vi d.n,.slice Ad md cd,.slice Bd d.ws.length dd,vi d.t,vi d.r] Xf f) ?_;rintro _ w7 ⟨ho,hb⟩;have aA:=f;have i:=Below.oy i ho aC;have f:=hb;refine Za rfl<|Zt aW fun a I=>?_;refine Q6<|Xa<|X6 I (X19 I rfl (ResV.cellN (l:=[vi d.n,.slice Ad md cd,.slice Bd d.ws.length dd,vi d.t,vi d.r]) rfl X2 (f.at 0) rfl) rfl) ?_
  rw [aM,Q3 Bool.false_ne_true]
  exact ⟨Ad,cd,Bd,dd,rfl,(E.bx i).top,(H.bx i).top,J,C,i⟩
 have aO:=a6;obtain ⟨bD,bR⟩:=Xfa aN a6
 have aX:=X8k hD (k:=p) (j:=0) (by omega)
 have aY:=X8k hD (k:=p) (j:=1) (by omega)
 refine Q7<|aU _ _<|Q5 fun _ aZ=>?_;refine X00 (some (.base w6.heap.size)) (fun j=>[23,24].contains j) mixed ?_;have aD:=D;have bG:=f;have bH:=(E.bx i);have bJ:=(H.bx i);have U:=G;intro w8 q;have o:=q;have f:=f.bw q;have G:=G.bw q;have i:=btr i q;refine Yb I<|Yn 0 rfl tv0 o.size (fun w9 h9=>by have L:=aD.bw (o.trans h9);exact X01 (l:=[vi d.n,.slice Ad md cd,.slice Bd d.ws.length dd,vi d.t,vi d.r]) rfl X2 (L.at 0) rfl) ?_;refine Yo 2 rfl (fun _=>X3 rfl)<|Yo 4 rfl (fun _=>X3 rfl)<|Yo 5 rfl (fun _=>Xx (k:=0) rfl rfl Xj X09 G rfl rfl (by omega)) ?_;refine Yn 6 rfl tv0 o.size (fun w9 h9=>by have x:=U.bw (o.trans h9);exact X0 rfl X7 (X0h x X9 (Xb (k:=0) (d:=(0:Int)) (by omega)) 0 rfl)) ?_;refine Yo 7 rfl (fun _=>X3 rfl)<|Yo 8 rfl (fun _=>Xx (k:=1) rfl rfl Xj X09 G rfl rfl (by omega)) ?_;refine Yn 9 rfl tv0 o.size (fun w9 h9=>by have x:=U.bw (o.trans h9);exact X0 rfl X7 (X0h x X9 (Xb (k:=1) (d:=(0:Int)) (by omega)) 0 rfl)) ?_;refine Yn 10 rfl tv0 o.size (fun w9 h9=>by have L:=aD.bw (o.trans h9);exact X01 (l:=[vi d.n,.slice Ad md cd,.slice Bd d.ws.length dd,vi d.t,vi d.r]) rfl X2 (L.at 0) rfl) ?_;refine Yo 11 rfl (fun _=>X3 rfl)<|Yo 12 rfl (fun _=>X3 rfl)<|Yo 13 rfl (fun _=>Xx (k:=0) rfl rfl Xj X09 G rfl rfl (by omega)) ?_;refine Yn 14 rfl tv0 o.size (fun w9 h9=>by have x:=U.bw (o.trans h9);exact X0 rfl X7 (X0h x X9 (Xb (k:=0) (d:=(0:Int)) (by omega)) 0 rfl)) ?_;refine Yn 16 rfl tv0 o.size (fun w9 h9=>by have L:=aD.bw (o.trans h9);exact X01 (l:=[vi d.n,.slice Ad md cd,.slice Bd d.ws.length dd,vi d.t,vi d.r]) rfl X2 (L.at 0) rfl) ?_
 refine Yo 17 rfl (fun _=>X3 rfl)<|Yo 18 rfl (fun _=>X3 rfl)<|Yo 19 rfl (fun _=>Xx (k:=1) rfl rfl Xj X09 G rfl rfl (by omega)) ?_;refine Yn 20 rfl tv0 o.size (fun w9 h9=>by have x:=U.bw (o.trans h9);exact X0 rfl X7 (X0h x X9 (Xb (k:=1) (d:=(0:Int)) (by omega)) 0 rfl)) ?_;refine Y1 1<|Yf rfl tv0 (EfW.mono (Vc (Xa0 _ d md C Ad cd (E.bx i).top Bd dd (H.bx i).top J ⟨by omega,by omega⟩) X64) (fun _ _ h=>⟨fun _=>by obtain ⟨a8,aB,b0,b1,rfl,g,a7,q⟩:=h;exact Keep.of_below q,h⟩)) ?_;rintro _ w9 ⟨a8,aB,b0,b1,rfl,g,a7,q⟩
 have aP:∀ k,ownB a8=some k->w6.heap.size<=k:=fun k hk=>Q0 o.size (X2h g hk)
 have g:=g.lower i.size;have a7:=a7.lower i.size;have f:=f.bw q;have o:=btr o q;have i:=btr i q;refine Y1 3<|Yf rfl tv0 (EfW.mono (Vc (Xan _ d d.ns.length rfl a8 aB _ g i.size b0 b1 a7.rd.top a7.cap p aJ (by omega)) X5p) (fun _ _ h=>⟨fun _=>by obtain ⟨b2,b3,rfl,N,Q,aG,aH,hg⟩:=h;exact Xm6 hg aP,h⟩)) ?_;rintro _ bS ⟨b2,b3,rfl,N,Q,aG,aH,hg⟩;have M:=g;have f:=f.appT M hg rfl;have o:=o.trans (Xam hg aP o.size);have i:=Below.app i M hg (Qb _) i.size
 clear M hg;clear g;have g:=N;clear N;refine Y1 15<|Yf rfl tv0 (EfW.mono (Vc (X83 _ d md C Ad cd (E.bx i).top Bd dd (H.bx i).top J p ((nearW d.ws p).getD 0 0) (by omega)) X45) (fun _ _ h=>⟨fun _=>by obtain ⟨rfl,q⟩:=h;exact Keep.of_below q,h⟩)) ?_;rintro _ bT ⟨rfl,q⟩;have f:=f.bw q;have g:=g.bw q;have Q:=Q.bw q;have o:=btr o q;have i:=btr i q;refine Y1 21<|Yf rfl tv0 (EfW.mono (Vc (X83 _ d md C Ad cd (E.bx i).top Bd dd (H.bx i).top J p ((nearW d.ws p).getD 1 0) (by omega)) X45) (fun _ _ h=>⟨fun _=>by obtain ⟨rfl,q⟩:=h;exact Keep.of_below q,h⟩)) ?_;rintro _ bU ⟨rfl,q⟩;have f:=f.bw q;have g:=g.bw q;have Q:=Q.bw q;have o:=btr o q;have i:=btr i q;refine Yo 22 rfl (fun _=>X1o rfl rfl)<|Y1 23 ?_;refine Yt rfl tv0 rfl (Vc (Xtr _ ({ d with ns:=dpN d.ns p,ws:=dpW d.ws p } : Dg) d.ns.length aH a8 aB _ g i.size b2 b3 Q.top aG ((nearW d.ws p).getD 0 0) ((nearW d.ws p).getD 1 0) ((tyW d.ws p ((nearW d.ws p).getD 0 0)) != (tyW d.ws p ((nearW d.ws p).getD 1 0))) (by have:=X2i d.ws p;dsimp only;omega) ⟨⟨aX.1,by rw [X1l];exact aX.2⟩,⟨aY.1,by rw [X1l];exact aY.2⟩⟩ (X5b hD.p p) (by omega)) Xg4) ?_;rintro _ bW ⟨aQ,aR,rfl,N,aE,b5,bK,hg⟩;have M:=g;have f:=f.appT M hg rfl;have o:=o.trans (Xam hg aP o.size);have i:=Below.app i M hg (Qb _) i.size
 clear M hg;clear g;have g:=N;clear N;refine Y1 24<|Yh rfl tv0 rfl (Vw [vi ((mtD ({ d with ns:=dpN d.ns p,ws:=dpW d.ws p } : Dg) ((nearW d.ws p).getD 0 0) ((nearW d.ws p).getD 1 0) ((tyW d.ws p ((nearW d.ws p).getD 0 0)) != (tyW d.ws p ((nearW d.ws p).getD 1 0)))).n),.slice a8 d.ns.length aB,.slice aQ ((mtD ({ d with ns:=dpN d.ns p,ws:=dpW d.ws p } : Dg) ((nearW d.ws p).getD 0 0) ((nearW d.ws p).getD 1 0) ((tyW d.ws p ((nearW d.ws p).getD 0 0)) != (tyW d.ws p ((nearW d.ws p).getD 1 0)))).ws).length aR,vi ((mtD ({ d with ns:=dpN d.ns p,ws:=dpW d.ws p } : Dg) ((nearW d.ws p).getD 0 0) ((nearW d.ws p).getD 1 0) ((tyW d.ws p ((nearW d.ws p).getD 0 0)) != (tyW d.ws p ((nearW d.ws p).getD 1 0)))).t),vi ((mtD ({ d with ns:=dpN d.ns p,ws:=dpW d.ws p } : Dg) ((nearW d.ws p).getD 0 0) ((nearW d.ws p).getD 1 0) ((tyW d.ws p ((nearW d.ws p).getD 0 0)) != (tyW d.ws p ((nearW d.ws p).getD 1 0)))).r)] Xf f) ?_;rintro _ bX ⟨ho,hb⟩;have aA:=f;have g:=g.oT ho aA rfl;have aE:=aE.oT ho aA rfl;have i:=Below.oy i ho aC;have f:=hb;refine Yo 25 rfl (fun _=>Xr rfl) ?_;refine Yd fun a I=>?_;refine aZ _ _ ?_
 refine Q6 (X6 I (X19 I rfl (ResV.cellN (l:=[vi ((mtD ({ d with ns:=dpN d.ns p,ws:=dpW d.ws p } : Dg) ((nearW d.ws p).getD 0 0) ((nearW d.ws p).getD 1 0) ((tyW d.ws p ((nearW d.ws p).getD 0 0)) != (tyW d.ws p ((nearW d.ws p).getD 1 0)))).n),.slice a8 d.ns.length aB,.slice aQ ((mtD ({ d with ns:=dpN d.ns p,ws:=dpW d.ws p } : Dg) ((nearW d.ws p).getD 0 0) ((nearW d.ws p).getD 1 0) ((tyW d.ws p ((nearW d.ws p).getD 0 0)) != (tyW d.ws p ((nearW d.ws p).getD 1 0)))).ws).length aR,vi ((mtD ({ d with ns:=dpN d.ns p,ws:=dpW d.ws p } : Dg) ((nearW d.ws p).getD 0 0) ((nearW d.ws p).getD 1 0) ((tyW d.ws p ((nearW d.ws p).getD 0 0)) != (tyW d.ws p ((nearW d.ws p).getD 1 0)))).t),vi ((mtD ({ d with ns:=dpN d.ns p,ws:=dpW d.ws p } : Dg) ((nearW d.ws p).getD 0 0) ((nearW d.ws p).getD 1 0) ((tyW d.ws p ((nearW d.ws p).getD 0 0)) != (tyW d.ws p ((nearW d.ws p).getD 1 0)))).r)]) rfl X2 (f.at 0) rfl) rfl) ?_)
 rw [bD,Q4 rfl,C]
 exact ⟨a8,aB,aQ,aR,rfl,g.rd.top,aE.top,b5,(Xup d p).symm,i⟩
theorem Y2d(w0:World)(d:Dg)(md:Nat)(D:md=d.ns.length)(Ad:Option Addr)(cd:Nat)(G:Rd w0 w0.heap.size 81 encNd Ad d.ns)(Bd:Option Addr)(dd:Nat)(L:Rd w0 w0.heap.size 83 encWr Bd d.ws)(M:d.ws.length<=dd)(p:Int)(hD:InD d) : Ret Tryz.prog 179 [.agg #[vi d.n,.slice Ad md cd,.slice Bd d.ws.length dd,vi d.t,vi d.r],vi p] w0 (fun v w=>∃ A c B e,v=.tuple #[.agg #[vi (if (loC d p)=true then loD d p else d).n,.slice A md c,.slice B (if (loC d p)=true then loD d p else d).ws.length e,vi (if (loC d p)=true then loD d p else d).t,vi (if (loC d p)=true then loD d p else d).r],.bool (loC d p)]/\Rd w w.heap.size 81 encNd A (if (loC d p)=true then loD d p else d).ns/\Rd w w.heap.size 83 encWr B (if (loC d p)=true then loD d p else d).ws/\(if (loC d p)=true then loD d p else d).ws.length<=e/\md=(if (loC d p)=true then loD d p else d).ns.length/\Below w0.heap.size w0 w):=by
 have b1:=hD.len;have b2:=hD.m;have b3:=X2e d.ws p;refine enter Tryz.func179 rfl 37 rfl rfl ?_;intro a E
 have i:=bz w0
 refine Zs E fun _ aQ=>?_;refine Zf (X0n (zs:=[vi d.n,.slice Ad md cd,.slice Bd d.ws.length dd,vi d.t,vi d.r]) rfl rfl) ?_;rintro _ w1 ⟨b4,rfl,aR,C,o⟩;have aZ:=Q0 i.size aR;have i:=btr i C;refine Zf (Xo (zs:=[vi 0,.slice none 0 0,.slice none 0 0,vi 0,vi 0]) X0o rfl) ?_;rintro _ w2 ⟨b7,rfl,aS,C,j⟩
 have aP:b4≠b7:=by have:=o.lt;omega
 have aB:=Q0 i.size aS;have o:=o.bw C;have i:=btr i C;refine Za rfl<|ZX aQ fun a E _ aT=>?_;refine Q5 fun _ aU=>?_;refine X0b (fun a w=>Fr a 37 [(1,vi p),(2,(pZ9 b4)),(4,(pZ9 b7)),(26,.bool (((!(spI d.ns p))||(((d.ns.getD p.toNat nZ).p) != 0))||(decide (0<((nearW d.ws p).length:Int)))))]/\Below w2.heap.size w2 w) ?_ ?_
 ·have I:Below w2.heap.size w2 w2:=Below.refl _ _
  refine Zr E<|Ze (Vn X2 o)<|Zm rfl<|Zf (Vc (X5d _ d md D Ad cd (G.bx i).top Bd dd (L.bx i).top M p (by rw [D];exact hD.m)) X2p) ?_;rintro _ w3 ⟨rfl,C⟩;have o:=o.bw C;have i:=btr i C;have I:=btr I C;refine Ze (X0y rfl)<|Zm rfl ?_
  refine Zg 11 rfl (fun b=>?_) (fun b=>?_)
  ·(iterate 7 refine Zp (gP b) ?_);refine Ze (X4 rfl b rfl)<|Zm rfl<|Zp (gP rfl) ?_;(iterate 4 refine Zp (gP rfl) ?_);refine Ze (X4 rfl rfl rfl) ?_;refine Zn fun a E=>?_
   have a6:Below w2.heap.size w2 w3:=I
   exact ⟨E.sub ⟨rfl,rfl,rfl,X1 rfl (by simp [b]),trivial⟩,a6⟩
  have aE:0<=p/\p.toNat<d.ns.length:=by have h9:=X0f (ns:=d.ns) (k:=p) (by simpa using b);exact ⟨h9.1,h9.2.1⟩
  refine Zv (gW b) (Vd rfl Xg 1) ?_;refine Zv (gW b) (X0 rfl Xy (o.at 1)) ?_;refine Zv (gW b) (X3 rfl) ?_;refine Zj (k:=p.toNat) (u:=(d.ns.getD p.toNat nZ)) (enc:=encNd) (l:=d.ns) ⟨_,_,rfl,rfl,b⟩ rfl D rfl Xl X08 Xw (G.bx i) (Xb aE.2) (by omega) ?_;intro b5 aF;refine Zv (gW b) (X2l rfl X06) ?_;refine Zv (gW b) (X0 rfl X7 (aF.drop 1)) ?_;refine Zv (gW b) (X1o rfl rfl) ?_;refine Ze (Xe rfl b rfl)<|Zm rfl ?_
  refine Zg 20 rfl (fun f=>?_) (fun f=>?_)
  ·(iterate 5 refine Zp (gP f) ?_);refine Ze (X4 rfl f rfl) ?_;refine Zn fun a E=>?_
   have a6:Below w2.heap.size w2 w3:=I
   exact ⟨E.sub ⟨rfl,rfl,rfl,X1 rfl (by first|rfl|(simp only [b,f,bs];done)|simp [b,f]),trivial⟩,a6⟩
  refine Zv (gW f) (Vn X2 o) ?_;refine Zv (gW f) (X3 rfl) ?_;refine Zk (gW f) (Vc (Xa7 _ d md D Ad cd (G.bx i).top Bd dd (L.bx i).top M p hD.w (by omega)) X62) ?_;rintro _ w4 ⟨b6,b8,rfl,aC,C⟩;have aC:=aC.lower i.size;have i:=btr i C;have I:=btr I C;refine Zv (gW f) (X0c rfl Xj) ?_;refine Zv (gW f) (X3h rfl rfl) ?_;refine Ze (Xe rfl f rfl) ?_;refine Zn fun a E=>?_
  have a6:Below w2.heap.size w2 w4:=I
  exact ⟨E.sub ⟨rfl,rfl,rfl,X1 rfl (by first|rfl|(simp only [b,f,bs];done)|simp [b,f]),trivial⟩,a6⟩
 rintro a w5 ⟨E,C⟩;have o:=o.bw C;have j:=j.bw C;have i:=btr i C;refine aU _ _ ?_
 refine Xi E rfl (fun H=>?_) (fun H=>?_)
 ·have aG:=H;have aV:=Xsn H;refine Zs E fun _ aH=>?_;refine Ze (Vn X2 o)<|Zo (Vw [vi d.n,.slice Ad md cd,.slice Bd d.ws.length dd,vi d.t,vi d.r] Xf j) ?_;rintro _ w6 ⟨J,hb⟩;have q:=j;have i:=Below.oy i J aB;have j:=hb;refine Za rfl<|Zt aH fun a E=>?_;refine Q6<|Xa<|X6 E (X19 E rfl (ResV.cellN (l:=[vi d.n,.slice Ad md cd,.slice Bd d.ws.length dd,vi d.t,vi d.r]) rfl X2 (j.at 0) rfl) rfl) ?_
  rw [aV,Q3 Bool.false_ne_true]
  exact ⟨Ad,cd,Bd,dd,rfl,(G.bx i).top,(L.bx i).top,M,D,i⟩
 have aG:=H;obtain ⟨aW,aE⟩:=Xmo H;refine Q7<|aT _ _<|Zs E fun _ aI=>?_;refine Ze (Vn X2 o)<|Zf (Vc (Xa0 _ d md D Ad cd (G.bx i).top Bd dd (L.bx i).top M ⟨by omega,by omega⟩) X64) ?_;rintro _ w7 ⟨U,W,aX,aY,rfl,g,N,C⟩;have g:=g.lower i.size;have N:=N.lower i.size;have o:=o.bw C;have j:=j.bw C;have i:=btr i C;refine Zm rfl<|Zf (Vc (Xan _ d d.ns.length rfl U W _ g i.size aX aY N.rd.top N.cap p aE (by omega)) X5p) ?_;rintro _ w8 ⟨a7,a8,rfl,aD,x,aJ,b0,hg⟩;have Q:=g;have o:=o.appT Q hg rfl;have j:=j.appT Q hg rfl;have i:=Below.app i Q hg (Qb _) i.size
 clear Q hg;clear g;have g:=aD;clear aD;refine Zf (Xo (zs:=[vi 0,.slice none 0 0,.slice none 0 0,vi 0,vi 0]) X0o rfl) ?_;rintro _ w9 ⟨b23,rfl,aK,C,h⟩
 have aL:b4≠b23:=by have:=o.lt;omega
 have aM:b7≠b23:=by have:=j.lt;omega
 have aA:=Q0 i.size aK;have j:=j.bw C;have g:=g.bw C;have x:=x.bw C;have i:=btr i C;refine Zo (Vw [vi (({ d with ns:=dpN d.ns p,ws:=dpW d.ws p } : Dg).n),.slice U d.ns.length W,.slice a7 (({ d with ns:=dpN d.ns p,ws:=dpW d.ws p } : Dg).ws).length a8,vi (({ d with ns:=dpN d.ns p,ws:=dpW d.ws p } : Dg).t),vi (({ d with ns:=dpN d.ns p,ws:=dpW d.ws p } : Dg).r)] Xf h) ?_;rintro _ b9 ⟨J,hb⟩;have q:=h;have j:=j.oy J (by omega);have g:=g.oT J q rfl;have x:=x.oT J q rfl;have i:=Below.oy i J aA;have h:=hb;refine Zx aI fun a E _ aN=>?_;refine Ze (Vd rfl X07 4)<|Ze (X0 rfl X7 (h.at 4))<|Ze (X2n rfl rfl)<|Ze (Vd rfl X07 4)<|Zo (Vu (vs:=[vi (wr ((({ d with ns:=dpN d.ns p,ws:=dpW d.ws p } : Dg).r)+2))]) (l':=[vi (({ d with ns:=dpN d.ns p,ws:=dpW d.ws p } : Dg).n),.slice U d.ns.length W,.slice a7 (({ d with ns:=dpN d.ns p,ws:=dpW d.ws p } : Dg).ws).length a8,vi (({ d with ns:=dpN d.ns p,ws:=dpW d.ws p } : Dg).t),vi (wr ((({ d with ns:=dpN d.ns p,ws:=dpW d.ws p } : Dg).r)+2))]) rfl rfl X09 h) ?_;rintro _ bA ⟨J,hb⟩;have q:=h;have j:=j.oy J (by omega);have g:=g.oT J q rfl;have x:=x.oT J q rfl;have i:=Below.oy i J aA;have h:=hb;refine Zx aN fun a E _ aO=>?_;refine Ze (Vn X2 h)<|Zo (Vw [vi (({ d with ns:=dpN d.ns p,ws:=dpW d.ws p } : Dg).n),.slice U d.ns.length W,.slice a7 (({ d with ns:=dpN d.ns p,ws:=dpW d.ws p } : Dg).ws).length a8,vi (({ d with ns:=dpN d.ns p,ws:=dpW d.ws p } : Dg).t),vi (wr ((({ d with ns:=dpN d.ns p,ws:=dpW d.ws p } : Dg).r)+2))] Xf j) ?_;rintro _ bB ⟨J,hb⟩
 have q:=j;have g:=g.oT J q rfl;have x:=x.oT J q rfl;have i:=Below.oy i J aB;have j:=hb;refine Za rfl<|Zt aO fun a E=>?_
 refine Q6 (X6 E (X19 E rfl (ResV.cellN (l:=[vi (({ d with ns:=dpN d.ns p,ws:=dpW d.ws p } : Dg).n),.slice U d.ns.length W,.slice a7 (({ d with ns:=dpN d.ns p,ws:=dpW d.ws p } : Dg).ws).length a8,vi (({ d with ns:=dpN d.ns p,ws:=dpW d.ws p } : Dg).t),vi (wr ((({ d with ns:=dpN d.ns p,ws:=dpW d.ws p } : Dg).r)+2))]) rfl X2 (j.at 0) rfl) rfl) ?_)
 rw [aW,Q4 rfl,D]
 exact ⟨U,W,a7,a8,rfl,g.rd.top,x.top,aJ,(X1l _ _).symm,i⟩
theorem Y1a(w0:World)(d:Dg)(md:Nat)(L:md=d.ns.length)(Ad:Option Addr)(cd:Nat)(N:Rd w0 w0.heap.size 81 encNd Ad d.ns)(Bd:Option Addr)(dd:Nat)(aA:Rd w0 w0.heap.size 83 encWr Bd d.ws)(G:d.ws.length<=dd)(p:Int)(hD:InD d) : Ret Tryz.prog 178 [.agg #[vi d.n,.slice Ad md cd,.slice Bd d.ws.length dd,vi d.t,vi d.r],vi p] w0 (fun v w=>∃ A c B e,v=.tuple #[.agg #[vi (if (lcC d p)=true then lcD d p else d).n,.slice A md c,.slice B (if (lcC d p)=true then lcD d p else d).ws.length e,vi (if (lcC d p)=true then lcD d p else d).t,vi (if (lcC d p)=true then lcD d p else d).r],.bool (lcC d p)]/\Rd w w.heap.size 81 encNd A (if (lcC d p)=true then lcD d p else d).ns/\Rd w w.heap.size 83 encWr B (if (lcC d p)=true then lcD d p else d).ws/\(if (lcC d p)=true then lcD d p else d).ws.length<=e/\md=(if (lcC d p)=true then lcD d p else d).ns.length/\Below w0.heap.size w0 w):=by
 have dL:=hD.len;have dM:=hD.m;have dN:=X2e d.ws p;have dE:=X43 hD p;have dO:=X1n hD.p p.toNat;refine enter Tryz.func178 rfl 95 rfl rfl ?_;intro a C
 have i:=bz w0
 refine Zs C fun _ cV=>?_;refine Zf (X0n (zs:=[vi d.n,.slice Ad md cd,.slice Bd d.ws.length dd,vi d.t,vi d.r]) rfl rfl) ?_;rintro _ w1 ⟨b4,rfl,cW,H,h⟩;have dF:=Q0 i.size cW;have i:=btr i H;refine Zf (Xo (zs:=[vi 0,.slice none 0 0,.slice none 0 0,vi 0,vi 0]) X0o rfl) ?_;rintro _ w2 ⟨b7,rfl,cX,H,g⟩
 have cU:b4≠b7:=by have:=h.lt;omega
 have aR:=Q0 i.size cX;have h:=h.bw H;have i:=btr i H;refine Za rfl<|ZX cV fun a C _ cY=>?_;refine Q5 fun _ cZ=>?_;refine X0b (fun a w=>Fr a 95 [(1,vi p),(2,(pZ9 b4)),(4,(pZ9 b7)),(26,.bool ((!(spI d.ns p))||((((d.ns.getD p.toNat nZ).p).tmod 4) != 2)))]/\Below w2.heap.size w2 w) ?_ ?_
 ·have aB:Below w2.heap.size w2 w2:=Below.refl _ _
  refine Zr C<|Ze (Vn X2 h)<|Zm rfl<|Zf (Vc (X5d _ d md L Ad cd (N.bx i).top Bd dd (aA.bx i).top G p (by rw [L];exact hD.m)) X2p) ?_;rintro _ w3 ⟨rfl,H⟩;have h:=h.bw H;have i:=btr i H;have aB:=btr aB H;refine Ze (X0y rfl)<|Zm rfl ?_
  refine Zg 17 rfl (fun x=>?_) (fun x=>?_)
  ·(iterate 8 refine Zp (gP x) ?_);refine Ze (X4 rfl x rfl) ?_;refine Zn fun a C=>?_
   have aM:Below w2.heap.size w2 w3:=aB
   exact ⟨C.sub ⟨rfl,rfl,rfl,X1 rfl (by simp [x]),trivial⟩,aM⟩
  have aW:0<=p/\p.toNat<d.ns.length:=by have h9:=X0f (ns:=d.ns) (k:=p) (by simpa using x);exact ⟨h9.1,h9.2.1⟩
  refine Zv (gW x) (Vd rfl Xg 1) ?_;refine Zv (gW x) (X0 rfl Xy (h.at 1)) ?_;refine Zv (gW x) (X3 rfl) ?_;refine Zj (k:=p.toNat) (u:=(d.ns.getD p.toNat nZ)) (enc:=encNd) (l:=d.ns) ⟨_,_,rfl,rfl,x⟩ rfl L rfl Xl X08 Xw (N.bx i) (Xb aW.2) (by omega) ?_;intro dP aZ;refine Zv (gW x) (X2l rfl X06) ?_;refine Zv (gW x) (X0 rfl X7 (aZ.drop 1)) ?_;refine Zv (gW x) (X33 rfl rfl rfl) ?_;refine Zv (gW x) (X1o rfl rfl) ?_;refine Ze (Xe rfl x rfl) ?_;refine Zn fun a C=>?_
  have aM:Below w2.heap.size w2 w3:=aB
  exact ⟨C.sub ⟨rfl,rfl,rfl,X1 rfl (by simp [x]),trivial⟩,aM⟩
 rintro a w4 ⟨C,H⟩;have h:=h.bw H;have g:=g.bw H;have i:=btr i H;refine cZ _ _ ?_
 refine Xi C rfl (fun aJ=>?_) (fun aJ=>?_)
 ·have aN:=aJ;have b0:=Xng hD aJ;refine Zs C fun _ bF=>?_;refine Ze (Vn X2 h)<|Zo (Vw [vi d.n,.slice Ad md cd,.slice Bd d.ws.length dd,vi d.t,vi d.r] Xf g) ?_;rintro _ w5 ⟨J,hb⟩;have q:=g;have i:=Below.oy i J aR;have g:=hb;refine Za rfl<|Zt bF fun a C=>?_;refine Q6<|Xa<|X6 C (X19 C rfl (ResV.cellN (l:=[vi d.n,.slice Ad md cd,.slice Bd d.ws.length dd,vi d.t,vi d.r]) rfl X2 (g.at 0) rfl) rfl) ?_
  rw [b0,Q3 Bool.false_ne_true]
  exact ⟨Ad,cd,Bd,dd,rfl,(N.bx i).top,(aA.bx i).top,G,L,i⟩
 have aN:=aJ;have aX:=Xgl hD aJ
 have aW:0<=p/\p.toNat<d.ns.length:=⟨(X0f aX.1).1,(X0f aX.1).2.1⟩
 refine Q7<|cY _ _<|Zs C fun _ bG=>?_;refine Ze (Vn X2 h)<|Zm rfl<|Zf (Vc (Xa7 _ d md L Ad cd (N.bx i).top Bd dd (aA.bx i).top G p hD.w (by omega)) X62) ?_;rintro _ w6 ⟨aF,aG,rfl,b,H⟩;have b:=b.lower i.size;have h:=h.bw H;have g:=g.bw H;have i:=btr i H;refine Za rfl<|ZX bG fun a C _ bH=>?_;refine Q5 fun _ bJ=>?_;refine X0b (fun a w=>Fr a 95 [(1,vi p),(2,(pZ9 b4)),(4,(pZ9 b7)),(6,.slice aF (nearW d.ws p).length aG),(40,.bool ((!(hadD d p))||(!(rdyD d (nearW d.ws p)))))]/\Below w6.heap.size w6 w) ?_ ?_
 ·have aB:Below w6.heap.size w6 w6:=Below.refl _ _
  refine Zr C<|Ze (Vn X2 h)<|Zm rfl<|Zf (Vc (Xjq _ d md L Ad cd (N.bx i).top Bd dd (aA.bx i).top G p hD.w (by omega)) Xbl) ?_;rintro _ w7 ⟨rfl,H⟩;have h:=h.bw H;have b:=b.bw H;have i:=btr i H;have aB:=btr aB H;refine Ze (X0y rfl)<|Zm rfl ?_
  refine Zg 35 rfl (fun I=>?_) (fun I=>?_)
  ·(iterate 4 refine Zp (gP I) ?_);refine Ze (X4 rfl I rfl) ?_;refine Zn fun a C=>?_
   have aM:Below w6.heap.size w6 w7:=aB
   exact ⟨C.sub ⟨rfl,rfl,rfl,rfl,X1 rfl (by simp [aN,I]),trivial⟩,aM⟩
  refine Zv (gW I) (Vn X2 h) ?_;refine Zv (gW I) (X3 rfl) ?_;refine Zk (gW I) (Vc (Xtk _ d md L Ad cd (N.bx i).top Bd dd (aA.bx i).top G aF aG (nearW d.ws p) b.rd.top (by omega) (by omega) (by omega) b.cap) Xgk) ?_;rintro _ w8 ⟨rfl,H⟩;have i:=btr i H;have aB:=btr aB H;refine Zv (gW I) (X0y rfl) ?_;refine Ze (Xe rfl I rfl) ?_;refine Zn fun a C=>?_
  have aM:Below w6.heap.size w6 w8:=aB
  exact ⟨C.sub ⟨rfl,rfl,rfl,rfl,X1 rfl (by simp [aN,I]),trivial⟩,aM⟩
 rintro a w9 ⟨C,H⟩;have h:=h.bw H;have g:=g.bw H;have b:=b.bw H;have i:=btr i H;refine bJ _ _ ?_
 refine Xi C rfl (fun aK=>?_) (fun aK=>?_)
 ·have b1:=aK;have b0:=Xu8 aK;refine Zs C fun _ bK=>?_;refine Ze (Vn X2 h)<|Zo (Vw [vi d.n,.slice Ad md cd,.slice Bd d.ws.length dd,vi d.t,vi d.r] Xf g) ?_;rintro _ dQ ⟨J,hb⟩;have q:=g;have i:=Below.oy i J aR;have g:=hb;refine Za rfl<|Zt bK fun a C=>?_;refine Q6<|Xa<|X6 C (X19 C rfl (ResV.cellN (l:=[vi d.n,.slice Ad md cd,.slice Bd d.ws.length dd,vi d.t,vi d.r]) rfl X2 (g.at 0) rfl) rfl) ?_
  rw [b0,Q3 Bool.false_ne_true]
  exact ⟨Ad,cd,Bd,dd,rfl,(N.bx i).top,(aA.bx i).top,G,L,i⟩
 have b1:=aK;have d5:=Xh7 aX aK;refine Q7<|bH _ _<|Zs C fun _ bL=>?_;refine Ze (Vn X2 h)<|Zf (Vc (Xa0 _ d md L Ad cd (N.bx i).top Bd dd (aA.bx i).top G ⟨by omega,by omega⟩) X64) ?_;rintro _ dR ⟨b2,b3,d6,d7,rfl,M,aQ,H⟩;have M:=M.lower i.size;have aQ:=aQ.lower i.size;have h:=h.bw H;have g:=g.bw H;have b:=b.bw H;have i:=btr i H;refine Zm rfl<|Zf (Vc (Xan _ d d.ns.length rfl b2 b3 _ M i.size d6 d7 aQ.rd.top aQ.cap p aW (by omega)) X5p) ?_;rintro _ dS ⟨bM,bN,rfl,W,aL,bO,dG,hg⟩;have D:=M;have h:=h.appT D hg rfl;have g:=g.appT D hg rfl;have b:=b.appT D hg rfl;have i:=Below.app i D hg (Qb _) i.size
 clear D hg;clear M;have M:=W;clear W;refine Zf (Xo (zs:=[vi 0,.slice none 0 0,.slice none 0 0,vi 0,vi 0]) X0o rfl) ?_;rintro _ dT ⟨b28,rfl,bP,H,f⟩
 have bQ:b4≠b28:=by have:=h.lt;omega
 have bR:b7≠b28:=by have:=g.lt;omega
 have aC:=Q0 i.size bP;have h:=h.bw H;have g:=g.bw H;have b:=b.bw H;have M:=M.bw H;have aL:=aL.bw H;have i:=btr i H;refine Zo (Vw [vi (({ d with ns:=dpN d.ns p,ws:=dpW d.ws p } : Dg).n),.slice b2 d.ns.length b3,.slice bM (({ d with ns:=dpN d.ns p,ws:=dpW d.ws p } : Dg).ws).length bN,vi (({ d with ns:=dpN d.ns p,ws:=dpW d.ws p } : Dg).t),vi (({ d with ns:=dpN d.ns p,ws:=dpW d.ws p } : Dg).r)] Xf f) ?_;rintro _ dU ⟨J,hb⟩;have q:=f;have h:=h.oy J (by omega);have g:=g.oy J (by omega);have b:=b.oT J q rfl;have M:=M.oT J q rfl;have aL:=aL.oT J q rfl;have i:=Below.oy i J aC;have f:=hb;refine Zx bL fun a C _ bS=>?_;refine Ze (Vd rfl Xg 1)<|Ze (X0 rfl Xy (h.at 1))<|Zm rfl<|Zj (k:=p.toNat) (u:=(d.ns.getD p.toNat nZ)) (enc:=encNd) (l:=d.ns) tv0 rfl L rfl Xl X08 Xw (N.bx i) (Xb aW.2) (by omega) ?_;intro dW b5;refine Ze (X2l rfl X06)<|Ze (X0 rfl X7 (b5.drop 1))<|Za rfl<|ZX bS fun a C _ bT=>?_;refine Zs C fun _ bU=>?_;refine Zm rfl<|Ze (X0c rfl Xj)<|Zm rfl<|Zt bU fun a C=>?_;refine Q8<|X04 (σ:=Nat×Dg) (fun (s:Nat×Dg) (a:Act) (w:World)=>match s with|(k,o)=>∃ aD aE aH aI,Fr a 95 [(4,(pZ9 b7)),(6,.slice aF (nearW d.ws p).length aG),(7,(pZ9 b28)),(8,vi ((d.ns.getD p.toNat nZ).p)),(52,.slice aF (nearW d.ws p).length aG),(53,vi ((nearW d.ws p).length:Int)),(54,vi (k:Int))]/\(k<=(nearW d.ws p).length)/\(o=lcS (d.ns.getD p.toNat nZ).p (nearW d.ws p) (id0 d p) k)/\(d.ns.length=o.ns.length)/\(o.ws.length<=d.ws.length+k*1000)/\(PhN o.ns)/\Blk w b7 39 [vi 0,.slice none 0 0,.slice none 0 0,vi 0,vi 0]/\Blk w b28 39 [vi o.n,.slice aD d.ns.length aE,.slice aH o.ws.length aI,vi o.t,vi o.r]/\Own w w0.heap.size 3 1 encI aF aG (nearW d.ws p)/\Own w w0.heap.size 81 2 encNd aD aE o.ns/\Rd w w.heap.size 83 encWr aH o.ws/\d.ws.length<=dd/\o.ws.length<=aI/\Below w0.heap.size w0 w) (fun (s:Nat×Dg)=>match s with|(k,o)=>(nearW d.ws p).length-k) (0,(id0 d p)) ?_ ?_
 ·exact ⟨b2,b3,bM,bN,C.sb,(Qf _),rfl,(X1l _ _).symm,(Q0 (X2i _ _) (by omega)),(X5b hD.p p),g,f,b,M,aL.top,G,bO,i⟩
 rintro ⟨k,o⟩ a dX ⟨aD,aE,aH,aI,C,hk,bW,b6,d8,bX,g,f,b,E,a6,G,bY,i⟩;refine Zs C fun _ bZ=>?_;refine Ze (X0q rfl rfl)<|ZX bZ fun a C _ c5=>?_
 refine Xi C rfl (fun Q=>?_) (fun Q=>?_)
 ·have b8:=Q;have Q:=Q2 Q
  obtain ⟨dY,dH⟩:=X5 (l:=(nearW d.ws p)) (k:=k) (by omega)
  obtain ⟨u9,b9⟩:=X5 (l:=(nearW d.ws p)) (k:=k) (by have:=Q;omega)
  have dA:=X76 hD b9;have eA:=X1n bX u9.toNat;refine Q7<|c5 _ _<|Q5 fun _ cA=>?_;refine Q8<|Zs C fun _ cB=>?_;refine Zm rfl<|Zi (k:=k) (u:=u9) (enc:=encI) (l:=(nearW d.ws p)) tv0 rfl rfl Xj X09 X9 b.rd b9 rfl ?_;intro eB bA;refine Ze (X0 rfl X7 bA)<|Za rfl<|Za rfl<|Zx cB fun a C _ cC=>?_;refine Ze (Vn X2 f)<|Zm rfl<|Zm rfl<|Ze (X11 rfl rfl (by omega) (by omega))<|Zf (Vc (Xar _ o d.ns.length b6 aD aE _ E i.size aH aI a6.top bY u9 (8-((d.ns.getD p.toNat nZ).p)) ⟨dA.1,by omega⟩ ⟨by omega,by omega⟩) X5v) ?_;rintro _ eC ⟨cD,cE,rfl,W,aS,cF,dI,hg⟩;have D:=E;have g:=g.appT D hg rfl;have f:=f.appT D hg rfl;have b:=b.appT D hg rfl;have i:=Below.app i D hg (Qb _) i.size
  clear D hg;clear E;have E:=W;clear W;refine Zo (Vw [vi (({ o with ns:=adN o.ns u9 (8-((d.ns.getD p.toNat nZ).p)) } : Dg).n),.slice aD d.ns.length aE,.slice cD (({ o with ns:=adN o.ns u9 (8-((d.ns.getD p.toNat nZ).p)) } : Dg).ws).length cE,vi (({ o with ns:=adN o.ns u9 (8-((d.ns.getD p.toNat nZ).p)) } : Dg).t),vi (({ o with ns:=adN o.ns u9 (8-((d.ns.getD p.toNat nZ).p)) } : Dg).r)] Xf f) ?_;rintro _ dB ⟨J,hb⟩;have q:=f;have g:=g.oy J (by omega);have b:=b.oT J q rfl;have E:=E.oT J q rfl;have aS:=aS.oT J q rfl;have i:=Below.oy i J aC;have f:=hb;refine Zx cC fun a C _ cG=>?_;refine Zm rfl<|Zm rfl ?_;have a7:=(b.rd.top).takeK X9 k;refine Ze (X3j (l:=(nearW d.ws p)) (k:=k) rfl rfl Xj X09 rfl hk b.cap)<|Ze (X0c rfl Xj)<|Zm rfl<|Zt cG fun a C=>?_;refine Q8<|X04 (σ:=Nat×Dg) (fun (s:Nat×Dg) (a:Act) (w:World)=>match s with|(j,z)=>∃ aO aP aT aU,Fr a 95 [(4,(pZ9 b7)),(6,.slice aF (nearW d.ws p).length aG),(7,(pZ9 b28)),(8,vi ((d.ns.getD p.toNat nZ).p)),(10,vi u9),(52,.slice aF (nearW d.ws p).length aG),(53,vi ((nearW d.ws p).length:Int)),(54,vi (k:Int)),(66,.slice aF ((nearW d.ws p).take k).length aG),(67,vi (((nearW d.ws p).take k).length:Int)),(68,vi (j:Int))]/\(j<=((nearW d.ws p).take k).length)/\(z=tgL ({ o with ns:=adN o.ns u9 (8-(d.ns.getD p.toNat nZ).p) } : Dg) u9 (((nearW d.ws p).take k).take j))/\(d.ns.length=z.ns.length)/\(z.ws.length<=o.ws.length+j)/\(PhN z.ns)/\Blk w b7 39 [vi 0,.slice none 0 0,.slice none 0 0,vi 0,vi 0]/\Blk w b28 39 [vi z.n,.slice aO d.ns.length aP,.slice aT z.ws.length aU,vi z.t,vi z.r]/\Own w w0.heap.size 3 1 encI aF aG (nearW d.ws p)/\Rd w dB.heap.size 3 encI aF ((nearW d.ws p).take k)/\Own w w0.heap.size 81 2 encNd aO aP z.ns/\Rd w w.heap.size 83 encWr aT z.ws/\d.ws.length<=dd/\z.ws.length<=aU/\Below w0.heap.size w0 w) (fun (s:Nat×Dg)=>match s with|(j,z)=>((nearW d.ws p).take k).length-j) (0,({ o with ns:=adN o.ns u9 (8-(d.ns.getD p.toNat nZ).p) } : Dg)) ?_ ?_
  ·exact ⟨aD,aE,cD,cE,C.sb,(Qf _),rfl,(b6.trans (X1u _ _ _).symm),(Qb _),(X68 bX _ _),g,f,b,a7,E,aS.top,G,cF,i⟩
  rintro ⟨j,z⟩ a eD ⟨aO,aP,aT,aU,C,hj,hz,bB,dC,cH,g,f,b,a7,a8,aY,G,cI,i⟩;refine Zs C fun _ cJ=>?_;refine Ze (X0q rfl rfl)<|ZX cJ fun a C _ cK=>?_
  refine Xi C rfl (fun U=>?_) (fun U=>?_)
  ·have bC:=U;have U:=Q2 U
   obtain ⟨eE,dJ⟩:=X5 (l:=((nearW d.ws p).take k)) (k:=j) (by omega)
   obtain ⟨v9,bD⟩:=X5 (l:=(nearW d.ws p).take k) (k:=j) (by have:=U;omega)
   have eF:j<k:=by have:=(Qg.1 bD).1;rw [Qn] at this;omega
   refine Q7<|cK _ _<|Q5 fun _ cL=>?_;refine Q8<|Zs C fun _ cM=>?_;refine Zi (k:=j) (u:=v9) (enc:=encI) (l:=((nearW d.ws p).take k)) tv0 rfl rfl Xj X09 X9 a7 bD rfl ?_;intro eG bE;refine Ze (X0 rfl X7 bE)<|Za rfl<|Zt cM fun a C=>?_;refine Zr C<|Ze (Vn X2 f)<|Zm rfl<|Zm rfl<|Zf (Vc (Xks _ z d.ns.length bB aO aP _ a8 i.size aT aU aY.top cI u9 v9 (by have:=dC;have:=d8;rw [Qn] at hj;omega)) Xbc) ?_;rintro _ eH ⟨cN,cO,rfl,W,aV,cP,dK,hg⟩;have D:=a8;have g:=g.appT D hg rfl;have f:=f.appT D hg rfl;have b:=b.appT D hg rfl;have a7:=a7.appT D hg rfl;have i:=Below.app i D hg (Qb _) i.size
   clear D hg;clear a8;have a8:=W;clear W;refine Zo (Vw [vi ((tgD z u9 v9).n),.slice aO d.ns.length aP,.slice cN ((tgD z u9 v9).ws).length cO,vi ((tgD z u9 v9).t),vi ((tgD z u9 v9).r)] Xf f) ?_;rintro _ eI ⟨J,hb⟩;have q:=f;have g:=g.oy J (by omega);have b:=b.oT J q rfl;have a7:=a7.oT J q rfl;have a8:=a8.oT J q rfl;have aV:=aV.oT J q rfl;have i:=Below.oy i J aC;have f:=hb;refine Zn fun a C=>?_;refine Xc<|cL _ _<|Zr C<|Ze (Xm rfl rfl (by omega) (by omega))<|Zm rfl ?_;refine Zn fun a C=>?_;refine Xd ?_;exact ⟨(j+1,(tgD z u9 v9)),⟨aO,aP,cN,cO,C.sb,(by omega),(by rw [Xlp bD,<- hz]),(by rw [(X2c z u9 v9).1];exact bB),(by have:=(X2c z u9 v9).2;omega),(by rw [(X2c z u9 v9).1];exact cH),g,f,b,a7,a8,aV.top,G,cP,i⟩,(by first|omega|(dsimp only;omega))⟩
  have bC:=U;have U:=Q1 U
  have dD:z=lcS (d.ns.getD p.toNat nZ).p (nearW d.ws p) (id0 d p) (k+1):=by rw [hz,Qi (by have:=U;omega),bW,Xk4 b9]
  have eJ:j<=k:=by rw [Qn] at hj;omega
  refine Q9<|Xk<|Xk<|X03 ?_;refine Xc<|cA _ _<|Zr C<|Ze (Xm rfl rfl (by omega) (by omega))<|Zm rfl ?_;refine Zn fun a C=>?_;refine Xd ?_;exact ⟨(k+1,z),⟨aO,aP,aT,aU,C.sb,(by omega),dD,bB,(by omega),cH,g,f,b,a8,aY.top,G,cI,i⟩,(by first|omega|(dsimp only;omega))⟩
 have b8:=Q;have Q:=Q1 Q
 have cQ:o=lcS (d.ns.getD p.toNat nZ).p (nearW d.ws p) (id0 d p) (nearW d.ws p).length:=by rw [bW];congr 1;have:=Q;omega
 refine Q9<|Xk<|Xk<|X03 ?_;refine bT _ _<|Zs C fun _ cR=>?_;refine Ze (Vd rfl X0u 3)<|Ze (X0 rfl X7 (f.at 3))<|Zm rfl<|Ze (X11 rfl rfl (by omega) (by omega))<|Ze (X9w rfl rfl rfl)<|Ze (Y4j rfl rfl)<|Ze (Vx (X2n rfl rfl) (Xo0 aX.2))<|Ze (X2n rfl rfl)<|Ze (Vd rfl X0u 3)<|Zo (Vu (vs:=[vi (wr (o.t+(if (d.ns.getD p.toNat nZ).p=2 then 1 else 7)))]) (l':=[vi o.n,.slice aD d.ns.length aE,.slice aH o.ws.length aI,vi (wr (o.t+(if (d.ns.getD p.toNat nZ).p=2 then 1 else 7))),vi o.r]) rfl rfl X09 f) ?_;rintro _ eK ⟨J,hb⟩;have q:=f;have g:=g.oy J (by omega);have E:=E.oT J q rfl;have a6:=a6.oT J q rfl;have i:=Below.oy i J aC;have f:=hb;refine Zx cR fun a C _ cS=>?_;refine Ze (Vd rfl X07 4)<|Ze (X0 rfl X7 (f.at 4))<|Zm rfl<|Ze (X0c rfl Xj)<|Ze (X11 rfl rfl (by omega) (by omega))<|Ze (X2n rfl rfl)<|Ze (Vd rfl X07 4)<|Zo (Vu (vs:=[vi (wr (o.r+(1-((nearW d.ws p).length:Int))))]) (l':=[vi o.n,.slice aD d.ns.length aE,.slice aH o.ws.length aI,vi (wr (o.t+(if (d.ns.getD p.toNat nZ).p=2 then 1 else 7))),vi (wr (o.r+(1-((nearW d.ws p).length:Int))))]) rfl rfl X09 f) ?_;rintro _ eL ⟨J,hb⟩;have q:=f;have g:=g.oy J (by omega);have E:=E.oT J q rfl;have a6:=a6.oT J q rfl;have i:=Below.oy i J aC;have f:=hb;refine Zx cS fun a C _ cT=>?_;refine Ze (Vn X2 f)<|Zo (Vw [vi o.n,.slice aD d.ns.length aE,.slice aH o.ws.length aI,vi (wr (o.t+(if (d.ns.getD p.toNat nZ).p=2 then 1 else 7))),vi (wr (o.r+(1-((nearW d.ws p).length:Int))))] Xf g) ?_;rintro _ eM ⟨J,hb⟩;have q:=g;have E:=E.oT J q rfl
 have a6:=a6.oT J q rfl;have i:=Below.oy i J aR;have g:=hb;refine Za rfl<|Zt cT fun a C=>?_
 refine Q6 (X6 C (X19 C rfl (ResV.cellN (l:=[vi o.n,.slice aD d.ns.length aE,.slice aH o.ws.length aI,vi (wr (o.t+(if (d.ns.getD p.toNat nZ).p=2 then 1 else 7))),vi (wr (o.r+(1-((nearW d.ws p).length:Int))))]) rfl X2 (g.at 0) rfl) rfl) ?_)
 rw [d5,Q4 rfl,Xmk cQ,L]
 exact ⟨aD,aE,aH,aI,rfl,E.rd.top,a6.top,bY,b6,i⟩
def pvL(d:Dg)(a b:Int) : List Int:=(othW d.ws b a).foldl putI (othW d.ws a b)
def pvC(d:Dg)(a b:Int) : Bool:=spI d.ns a&&spI d.ns b&&decide (a<b)&&(d.ns.getD a.toNat nZ).p % 4==0&&(d.ns.getD b.toNat nZ).p % 4==0&&tyW d.ws a b==2&&hadD d a&&hadD d b&&rdyD d (pvL d a b)
def stN(c:Bool)(o:Dg)(x m:Int) : Dg:=if c=true then { o with ns:=adN o.ns x m } else o
def pvT(l m:List Int)(x:Int)(o:Dg)(y:Int) : Dg:=if (((l.any fun v=>v==x)&&(m.any fun v=>v==y)) != ((m.any fun v=>v==x)&&(l.any fun v=>v==y)))=true then tgD o x y else o
def pvF(l m:List Int)(x:Int)(r:List Int)(o:Dg) : Dg:=r.foldl (pvT l m x) o
def pv3(e f:Int)(l m:List Int)(x:Int)(o:Dg) : Dg:=stN ((l.any fun v=>v==x)&&(m.any fun v=>v==x)) (stN (m.any fun v=>v==x) (stN (l.any fun v=>v==x) o x f) x e) x 4
def pvM(e f:Int)(l m r:List Int)(o:Dg) : Nat->Dg
 | 0=>o
 | i+1=>pvF l m (r.getD i 0) (r.take i) (pv3 e f l m (r.getD i 0) (pvM e f l m r o i))
def pvD(d:Dg)(a b:Int) : Dg:=
 let o:=pvM (d.ns.getD a.toNat nZ).p (d.ns.getD b.toNat nZ).p (othW d.ws a b) (othW d.ws b a) (pvL d a b) (id0 (id0 d a) b) (pvL d a b).length
 { o with t:=if ((d.ns.getD a.toNat nZ).p+(d.ns.getD b.toNat nZ).p==8)=true then wr (o.t+4) else o.t,r:=wr (o.r+(1-((othW d.ws a b).length:Int)-((othW d.ws b a).length:Int))) }
theorem Xb9{d o:Dg}{a b:Int}(h:o=pvM (d.ns.getD a.toNat nZ).p (d.ns.getD b.toNat nZ).p (othW d.ws a b) (othW d.ws b a) (pvL d a b) (id0 (id0 d a) b) (pvL d a b).length) : pvD d a b = { o with t:=if ((d.ns.getD a.toNat nZ).p+(d.ns.getD b.toNat nZ).p==8)=true then wr (o.t+4) else o.t,r:=wr (o.r+(1-((othW d.ws a b).length:Int)-((othW d.ws b a).length:Int))) }:=by subst h;rfl
theorem Xnl{c:Bool}{o:Dg}{x m:Int}(h:c=true) : stN c o x m = { o with ns:=adN o.ns x m }:=Q4 h
theorem Xmr{c:Bool}{o:Dg}{x m:Int}(h:c=false) : stN c o x m=o:=Q3 (by rw [h];decide)
theorem Xyn{l m:List Int}{x y:Int}{o:Dg}(h:(((l.any fun v=>v==x)&&(m.any fun v=>v==y)) != ((m.any fun v=>v==x)&&(l.any fun v=>v==y)))=true) : pvT l m x o y=tgD o x y:=Q4 h
theorem Y1j{l m:List Int}{x y:Int}{o:Dg}(h:(((l.any fun v=>v==x)&&(m.any fun v=>v==y)) != ((m.any fun v=>v==x)&&(l.any fun v=>v==y)))=false) : pvT l m x o y=o:=Q3 (by rw [h];decide)
theorem Xkx{l m:List Int}{x:Int}{r:List Int}{o:Dg}{k:Nat}{v:Int}(hv:r[k]? = some v) : pvF l m x (r.take (k+1)) o=pvT l m x (pvF l m x (r.take k) o) v:=by
 unfold pvF
 rw [Qt,hv,Option.toList_some,List.foldl_append]
 rfl
theorem Xdv{e f u:Int}{l m r:List Int}{o:Dg}{k:Nat}(hu:r[k]? = some u) : pvM e f l m r o (k+1)=pvF l m u (r.take k) (pv3 e f l m u (pvM e f l m r o k)):=by
 have h:r.getD k 0=u:=by rw [Qa,hu];rfl
 show pvF l m (r.getD k 0) (r.take k) (pv3 e f l m (r.getD k 0) (pvM e f l m r o k))=_
 rw [h]
theorem X7w{d:Dg}(h:InD d)(a b:Int) : (othW d.ws a b).length<=d.ns.length:=Q0 (List.length_filter_le _ _) (X43 h a)
theorem Xbk{d:Dg}(h:InD d)(a b:Int) : (pvL d a b).length<=2*d.ns.length:=by
 have h1:=X9d (othW d.ws b a) (othW d.ws a b);have h2:=X7w h a b;have h3:=X7w h b a
 unfold pvL
 omega
theorem Xc3{d:Dg}(h:InD d){a b u:Int}{k:Nat}(hu:(pvL d a b)[k]? = some u) : 0<=u/\u.toNat<d.ns.length:=by
 have h1:=(X4l _ _ _).1 (Qe hu)
 rcases h1 with h1|h1
 ·exact X1y h (List.mem_filter.1 h1).1
 ·exact X1y h (List.mem_filter.1 h1).1
theorem Xko{d:Dg}(hd:InD d){a b:Int}(h:(!(spI d.ns a)||!(spI d.ns b)||decide (b<=a)||((d.ns.getD a.toNat nZ).p.tmod 4 != 0)||((d.ns.getD b.toNat nZ).p.tmod 4 != 0)||(tyW d.ws a b != 2))=true) : pvC d a b=false:=by
 rw [Xa5 (X1n hd.p _).1,Xa5 (X1n hd.p _).1] at h
 unfold pvC
 generalize (d.ns.getD a.toNat nZ).p=x at h ⊢
 generalize (d.ns.getD b.toNat nZ).p=y at h ⊢
 cases h1:spI d.ns a
 ·rfl
 cases h2:spI d.ns b
 ·rfl
 cases h3:decide (a<b)
 ·rfl
 cases h4:(x % 4==0)
 ·simp
 cases h5:(y % 4==0)
 ·simp
 cases h6:(tyW d.ws a b==2)
 ·simp
 simp [h1,h2] at h h3 h4 h5 h6
 omega
theorem Xfc{d:Dg}(hd:InD d){a b:Int}(h:(!(spI d.ns a)||!(spI d.ns b)||decide (b<=a)||((d.ns.getD a.toNat nZ).p.tmod 4 != 0)||((d.ns.getD b.toNat nZ).p.tmod 4 != 0)||(tyW d.ws a b != 2))=false) : (0<=a/\a.toNat<d.ns.length)/\(0<=b/\b.toNat<d.ns.length)/\(((d.ns.getD a.toNat nZ).p=0∨(d.ns.getD a.toNat nZ).p=4)/\((d.ns.getD b.toNat nZ).p=0∨(d.ns.getD b.toNat nZ).p=4))/\(spI d.ns a&&spI d.ns b&&decide (a<b)&&(d.ns.getD a.toNat nZ).p % 4==0&&(d.ns.getD b.toNat nZ).p % 4==0&&tyW d.ws a b==2)=true:=by
 rw [Xa5 (X1n hd.p _).1,Xa5 (X1n hd.p _).1] at h
 have ha:=X1n hd.p a.toNat;have hb:=X1n hd.p b.toNat
 generalize (d.ns.getD a.toNat nZ).p=x at h ha ⊢
 generalize (d.ns.getD b.toNat nZ).p=y at h hb ⊢
 cases h1:spI d.ns a
 ·simp [h1] at h
 cases h2:spI d.ns b
 ·simp [h2] at h
 have s1:=X0f h1
 have s2:=X0f h2
 simp [h1,h2] at h
 refine ⟨⟨s1.1,s1.2.1⟩,⟨s2.1,s2.2.1⟩,⟨by omega,by omega⟩,?_⟩
 simp
 omega
theorem Xjl{d:Dg}{a b:Int}(h:(!(hadD d a)||!(hadD d b)||!(rdyD d (pvL d a b)))=true) : pvC d a b=false:=by
 unfold pvC
 cases h1:hadD d a
 ·simp
 cases h2:hadD d b
 ·simp
 cases h3:rdyD d (pvL d a b)
 ·simp
 simp [h1,h2,h3] at h
theorem Xhp{d:Dg}{a b:Int}(h1:(spI d.ns a&&spI d.ns b&&decide (a<b)&&(d.ns.getD a.toNat nZ).p % 4==0&&(d.ns.getD b.toNat nZ).p % 4==0&&tyW d.ws a b==2)=true)(h:(!(hadD d a)||!(hadD d b)||!(rdyD d (pvL d a b)))=false) : pvC d a b=true:=by
 unfold pvC
 rw [h1]
 cases h2:hadD d a
 ·simp [h2] at h
 cases h3:hadD d b
 ·simp [h3] at h
 cases h4:rdyD d (pvL d a b)
 ·simp [h4] at h
 rfl
structure Rz where
 u:Int
 a:Int
 b:Int
deriving DecidableEq
def encRz(x:Rz) : List Value:=[.int .i64 x.u,.int .i64 x.a,.int .i64 x.b]
theorem X7s:∀ x,(encRz x).length=3:=fun _=>rfl
theorem Xi9:∀ x,(encRz x).all one=true:=fun _=>rfl
def doC(d:Dg)(r:Rz) : Bool:=if (r.u==1)=true then fuC d r.a r.b else if (r.u==4)=true then pvC d r.a r.b else if (r.b != 0)=true then false else if (r.u==2)=true then idC d r.a else if (r.u==3)=true then lcC d r.a else if (r.u==5)=true then loC d r.a else false
def doD(d:Dg)(r:Rz) : Dg:=if (r.u==1)=true then fuD d r.a r.b else if (r.u==4)=true then pvD d r.a r.b else if (r.u==2)=true then idD d r.a else if (r.u==3)=true then lcD d r.a else loD d r.a
theorem Xye{d:Dg}{r:Rz}(h1:(r.u==1)=true) : doC d r=fuC d r.a r.b/\doD d r=fuD d r.a r.b:=⟨Q4 h1,Q4 h1⟩
theorem Xzc{d:Dg}{r:Rz}(h1:(r.u==1)=false)(h4:(r.u==4)=true) : doC d r=pvC d r.a r.b/\doD d r=pvD d r.a r.b:=by
 unfold doC doD;rw [h1,h4];exact ⟨rfl,rfl⟩
theorem Y0l{d:Dg}{r:Rz}(h1:(r.u==1)=false)(h4:(r.u==4)=false)(hb:(r.b != 0)=true) : doC d r=false:=by
 unfold doC;rw [h1,h4,hb];rfl
theorem Xyd{d:Dg}{r:Rz}(h1:(r.u==1)=false)(h4:(r.u==4)=false)(hb:(r.b != 0)=false)(h2:(r.u==2)=true) : doC d r=idC d r.a/\doD d r=idD d r.a:=by
 unfold doC doD;rw [h1,h4,hb,h2];exact ⟨rfl,rfl⟩
theorem Y28{d:Dg}{r:Rz}(h1:(r.u==1)=false)(h4:(r.u==4)=false)(hb:(r.b != 0)=false)(h2:(r.u==2)=false)(h3:(r.u==3)=true) : doC d r=lcC d r.a/\doD d r=lcD d r.a:=by
 unfold doC doD;rw [h1,h4,hb,h2,h3];exact ⟨rfl,rfl⟩
theorem Xzq{d:Dg}{r:Rz}(h1:(r.u==1)=false)(h4:(r.u==4)=false)(hb:(r.b != 0)=false)(h2:(r.u==2)=false)(h3:(r.u==3)=false)(h5:(r.u==5)=true) : doC d r=loC d r.a/\doD d r=loD d r.a:=by
 unfold doC doD;rw [h1,h4,hb,h2,h3,h5];exact ⟨rfl,rfl⟩
theorem Y3k{d:Dg}{r:Rz}(h1:(r.u==1)=false)(h4:(r.u==4)=false)(hb:(r.b != 0)=false)(h2:(r.u==2)=false)(h3:(r.u==3)=false)(h5:(r.u==5)=false) : doC d r=false:=by
 unfold doC;rw [h1,h4,hb,h2,h3,h5];rfl
end Go.Proofs.YtpifljegadknkaaGreat
