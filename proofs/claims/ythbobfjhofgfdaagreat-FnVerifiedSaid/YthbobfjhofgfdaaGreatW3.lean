/-
  For all drawn circuits, circuits that are verified by rewriting have the same operator up to a phase, and simplification does not increase the T-count. Conditions: none.
-/
import Derived.Test.YthbobfjhofgfdaaGreatW2
import Derived.Shelf.SlSortCmp.WholeK
import Derived.Shelf.SlSortCmp.NoneTotal
import Derived.Shelf.SlGeneric
import Derived.Test.YthbobfjhofgfdaaGreatW1
import Derived.Lib.ItoaNum
import Derived.Lib.Join
set_option linter.unusedVariables false
set_option linter.defProp false
set_option linter.unusedSimpArgs false
set_option maxRecDepth 20000
set_option linter.unusedSectionVars false
namespace Go.Proofs.YthbobfjhofgfdaaGreat
open Go.RowKit Go.Sort Go.Shelf Go.Lib Go.Proofs.Tryz
structure Mt where (v:Tm) (h:0<=v.m/\v.m<16777216)
instance:Inhabited Mt:=⟨⟨⟨0,0⟩,by decide,by decide⟩⟩
def Xc2{α:Type}[Inhabited α]{enc:α->List Value}{k:Nat}(hk:∀ x,(enc x).length=k)(L:List α):(flatK enc k L.toArray).toList=L.flatMap enc:=by
 apply List.ext_getElem?;intro t;by_cases h:t<L.length*k
 ·have ⟨x,h1,h2⟩:=X6v hk h;have hk0:0<k:=by
   rcases Nat.eq_zero_or_pos k with e|e
   ·subst e;simp at h
   ·exact e
  have h3:t % k<(enc x).length:=by rw[hk];exact Nat.mod_lt _ hk0
  have h4:t/k<L.length:=(Qg.1 h1).1;rw[h2,Array.getElem?_toList];have e1:L[t/k]! = x:=by rw[List.getElem!_eq_getElem?_getD,h1];rfl
  have e2:L[t/k]?.getD default=x:=by rw[h1];rfl
  simp[flatK,h,e2,h3]
 ·rw[List.getElem?_eq_none (by simp[flatK];omega),List.getElem?_eq_none (by rw[Xw hk];omega)]
def Xnt{w:World}{g n:Nat}{os:Array Obj}{cur:Array Value}{e:TypeId}{fr:Nat×Nat}(d:Array Value)(hb:w.heap[g]? = some (.cells cur e fr)) :
  (grow (putRow id (Sort.ahead w n) g 0 d) os).heap[g]? = some (.cells (putCells id 0 d cur) e fr):=by
 have hg:g<w.heap.size:=(Qp.1 hb).1;rw[heap_grow_old _ _ (by simpa using hg)];simp[putRow,mapBlock,Sort.ahead,Array.getElem?_modify,hb,onCells]
def Xj4{w:World}{g n:Nat}{os:Array Obj}(d:Array Value):w.grownBy (grow (putRow id (Sort.ahead w n) g 0 d) os) (some g):=by
 refine ⟨O,O,O,by simp,fun k hk hne=>?_⟩;rw[heap_grow_old _ _ (by simpa using hk)];have:g≠k:=fun e=>hne (by rw[e]);simp[putRow,mapBlock,Sort.ahead,Array.getElem?_modify,this]
def Xo2(cur F:Array Value)(h:F.size<=cur.size):(putCells id 0 F cur).toList.take F.size=F.toList:=by
 apply List.ext_getElem?;intro j;by_cases hj:j<F.size
 ·rw[Wg hj,Array.getElem?_toList,Array.getElem?_toList];simp[putCells,hj,show j<cur.size by omega]
 ·rw[List.getElem?_take_eq_none Z,List.getElem?_eq_none O6]
def Y4y{w:World}{g:Nat}{cur:Array Value}{e:TypeId}{F:Array Value}(hb:w.heap[g]? = some (.cells cur e (0,0)))(ht:cur.toList.take F.size=F.toList):Holds id w g 0 F:=by
 intro j hj;refine ⟨?_,by simp[World.frozen?,hb]⟩;have h1:(cur.toList.take F.size)[j]? = F.toList[j]?:=by rw[ht]
 rw[Wg hj] at h1;simp only[World.cell?,hb,Nat.zero_add];simp only[Option.isSome_none,Bool.false_eq_true,if_false];rw[<- Array.getElem?_toList,h1];simp[hj]
end Go.Proofs.YthbobfjhofgfdaaGreat
namespace Go.Proofs.YthbobfjhofgfdaaGreat
open Go.RowKit Go.Proofs.Tryz
def Xdd{c:Cx}(h:cOk c=true):∃ n:Nat,c.n=(n:Int)/\1<=n/\n<=5:=by
 simp only[cOk,inR,Qd,Qr] at h;exact ⟨c.n.toNat,by omega,by omega,by omega⟩
def Xaq{c:Cx}(h:cOk c=true):c.gs.length<=400:=by grind [cOk]
def Xk6{c:Cx}{n i:Nat}{u:Gt}(h:cOk c=true)(hn:c.n=(n:Int))(hu:c.gs[i]? = some u):gOk (n:Int) u=true:=by grind [cOk,gOk]
def tZ:Tm:=⟨0,0⟩
section
variable {f : Int -> Int} {m k : Int} {i : Nat}
end
def szI(m:Int) : Nat:=(setN m.toNat).length
def okTa(n:Nat)(ts:List Tm)(i:Nat) : Bool:=
 inR (ts.getD i tZ).m 1 (((2^n:Nat) : Int)-1)&&decide (szI (ts.getD i tZ).m<=3)&&inR (ts.getD i tZ).c 1 7&&((ts.getD i tZ).c % ((2^(szI (ts.getD i tZ).m-1) : Nat) : Int)==0)&&(decide (i=0)||decide ((ts.getD (i-1) tZ).m<(ts.getD i tZ).m))
def okHd(p:Ps) : Bool:=inR p.ins 1 5&&inR p.vars 0 (24-p.ins)&&inR p.root (-60) 60&&inR p.phase 0 7&&decide ((p.out.length:Int)=p.ins)
def okAf(n:Nat)(a:Af) : Bool:=inR a.m 0 (((2^n:Nat) : Int)-1)&&inR a.t 0 1
def okTs(n:Nat)(ts:List Tm)(k:Nat) : Bool:=(List.range k).all (okTa n ts)
def validP(p:Ps) : Bool:=okHd p&&okTs (p.ins+p.vars).toNat p.ts p.ts.length&&p.out.all (okAf (p.ins+p.vars).toNat)
def Yb9{n:Nat}(h:n<=24):1<=2^n/\2^n<=16777216:=⟨Nat.two_pow_pos n,Q0 (Nat.pow_le_pow_right O5 h) O5⟩
structure VPs (p:Ps) : Prop where
 ins:1<=p.ins/\p.ins<=5
 vars:0<=p.vars/\p.ins+p.vars<=24
 ph:0<=p.phase/\p.phase<8
 ts:OkT p.ts
 out:∀ a ∈ p.out,AO a/\a.m<((2^(p.ins+p.vars).toNat:Nat) : Int)
 tb:∀ t ∈ p.ts,t.m<((2^(p.ins+p.vars).toNat:Nat) : Int)
 sz:∀ t ∈ p.ts,szI t.m<=3
def VPs.of{p:Ps}(h:validP p=true):VPs p:=by
 simp only[validP,okHd,Qd] at h;have ⟨⟨⟨⟨⟨⟨h1,h2⟩,h3⟩,h4⟩,h5⟩,h6⟩,h7⟩:=h;simp only[inR,Qd,Qr] at h1 h2 h3 h4;have hn:=Yb9 (n:=(p.ins+p.vars).toNat) Z;have hT:∀ i,i<p.ts.length->(1<=(p.ts.getD i tZ).m/\(p.ts.getD i tZ).m<=((2^(p.ins+p.vars).toNat:Nat) : Int)-1)/\szI (p.ts.getD i tZ).m<=3/\(1<=(p.ts.getD i tZ).c/\(p.ts.getD i tZ).c<=7)/\(i=0∨(p.ts.getD (i-1) tZ).m<(p.ts.getD i tZ).m):=fun i hi=>by
  unfold okTs at h6;have:=W1.1 h6 i (W2.2 hi);simp only[okTa,inR,Qd,Bool.or_eq_true,Qr] at this;exact ⟨this.1.1.1.1,this.1.1.1.2,this.1.1.2,this.2⟩
 have hM:∀ t ∈ p.ts,(1<=t.m/\t.m<=((2^(p.ins+p.vars).toNat:Nat) : Int)-1)/\szI t.m<=3/\1<=t.c/\t.c<=7:=fun t ht=>by
  have ⟨i,hi,e⟩:=List.mem_iff_getElem.1 ht;have:=hT i hi;rw[show p.ts.getD i tZ=t from by rw[Qa,Qc hi,e];rfl] at this;exact ⟨this.1,this.2.1,this.2.2.1⟩
 have hR:∀ j i,i<j->j<p.ts.length->(p.ts.getD i tZ).m<(p.ts.getD j tZ).m:=fun j=>by
  induction j with
  | zero=>intro i h;omega
  | succ j ih=>
   intro i hij hj;have h9:=(hT (j+1) hj).2.2.2;rw[show j+1-1=j from rfl] at h9;rcases h9 with h9|h9
   ·omega
   ·rcases W4 i j with h10|h10
    ·exact Int.lt_trans (ih i h10 Z) h9
    ·rw[show i=j from by omega];exact h9
 refine ⟨h1,⟨h2.1,by omega⟩,⟨h4.1,by omega⟩,⟨?_,fun t ht=>?_⟩,fun a ha=>?_,fun t ht=>?_,fun t ht=>(hM t ht).2.1⟩
 ·unfold Rise;rw[W0];intro i j hi hj hij;have:=hR j i hij hj;rw[Qa,Qa,Qc hi,Qc hj] at this;exact this
 ·have:=hM t ht;exact ⟨by omega,by omega,by omega,by omega⟩
 ·have:=W1.1 h7 a ha;simp only[okAf,inR,Qd,Qr] at this;exact ⟨⟨⟨this.1.1,by omega⟩,by omega⟩,by omega⟩
 ·have:=hM t ht;omega
structure Ar where (c z:Int) (any pl:Bool)
def outB(y:Nat)(l:List Af) : Bool:=l.any fun a=>bitQ y a.m
section
end
section
end
section
variable {P : Program} {a : Act} {w : World} {n : Nat} {e : Env} {ty : TypeId} {pos : String} {af : Array Edge} {g : Option (Nat × Bool)} {d : Option Tmp} {t t' : TypeId} {x y : Operand} {i j : Int}
theorem Xvk{T E:TypeId}{len k:Nat}{vs:List Value}{v:Value}(hf:Fr a n e)(hx:ev e x=some (.agg vs.toArray))(hy:ev e y=some (.int .i64 i))(hT:P.underlying T=some (.array len E))(hs:SizeT P E 1)(h1:OneT P E)(hi:i=(k:Int))(hk:k<len)(hv:vs[k]? = some v):Ev P ⟨d,.index T x y,ty,pos,af,g⟩ a w v:=fun w' _=>by
 subst hi;have h4:=X13 (P:=P) hT w';have h5:=run_sizeOf' hs w';have h6:=X5n (P:=P) (w:=w') h1;simp[execOp,hf.ev hx,hf.ev hy,Instr.index,asIntOf,h4,h5,h6,part,hk,hv]
theorem Y8v{T E:TypeId}{len k:Nat}{vs:List Value}{v:Value}(hx:ev e x=some (.agg vs.toArray))(hy:ev e y=some (.int .i64 i))(hT:P.underlying T=some (.array len E))(hs:SizeT P E 1)(h1:OneT P E)(hi:i=(k:Int))(hk:k<len)(hv:vs[k]? = some v):EvW P ⟨d,.index T x y,ty,pos,af,g⟩ n e w v:=fun a hf=>Xvk hf hx hy hT hs h1 hi hk hv
end
section
variable {j : Nat} {s : Ar} {u : Tm}
end
section
variable {ins : Int} {s : Ar} (hp : s.pl = true)
include hp
end
section
end
section
end
def Xow(g:Gt):1<=bkN g/\bkN g<=7:=by unfold bkN;split<;>omega
def Xi7{n:Int}{g:Gt}(h:gOk n g=true):gOk n (bkG g)=true:=by
 have ⟨k,a,b⟩:=g;unfold gOk at h ⊢;simp only[Qd] at h ⊢;have ⟨⟨h1,h2⟩,h3⟩:=h;have h2':1<=k/\k<=12:=by simpa[inR] using h2
 have hk:(bkG ⟨k,a,b⟩).k=if k=5∨k=7 then k+1 else if k=6∨k=8 then k-1 else k:=rfl;have ha:(bkG ⟨k,a,b⟩).a=a:=rfl;have hb:(bkG ⟨k,a,b⟩).b=b:=rfl;rw[ha,hb];by_cases e:k=5∨k=7
 ·have hkk:(bkG ⟨k,a,b⟩).k=k+1:=by rw[hk,Q4 e]
  rw[hkk];refine ⟨⟨h1,by simp[inR];omega⟩,?_⟩;rw[Q3 (show ¬ k=12 by omega),Q3 (show ¬ inR k 9 11=true by simp[inR];omega)] at h3;rw[Q3 (show ¬ k+1=12 by omega),Q3 (show ¬ inR (k+1) 9 11=true by simp[inR];omega)];exact h3
 ·by_cases e2:k=6∨k=8
  ·have hkk:(bkG ⟨k,a,b⟩).k=k-1:=by rw[hk,Q3 e,Q4 e2]
   rw[hkk];refine ⟨⟨h1,by simp[inR];omega⟩,?_⟩;rw[Q3 (show ¬ k=12 by omega),Q3 (show ¬ inR k 9 11=true by simp[inR];omega)] at h3;rw[Q3 (show ¬ k-1=12 by omega),Q3 (show ¬ inR (k-1) 9 11=true by simp[inR];omega)];exact h3
  ·have hkk:(bkG ⟨k,a,b⟩).k=k:=by rw[hk,Q3 e,Q3 e2]
   rw[hkk];exact ⟨⟨h1,h2⟩,h3⟩
def invG(g:Gt) : List Gt:=List.replicate (bkN g).toNat (bkG g)
def invL(gs:List Gt) : List Gt:=gs.reverse.flatMap invG
def invO(c:Cx) : Option Cx:=if cOk c&&decide ((invL c.gs).length<=400) then some ⟨c.n,invL c.gs⟩ else none
def conO(a b:Cx) : Option Cx:=if cOk a&&cOk b&&decide (a.n=b.n)&&decide (a.gs.length+b.gs.length<=400) then some ⟨a.n,a.gs++b.gs⟩ else none
def X7d{c:Cx}:cOk c=true↔inR c.n 1 5=true/\c.gs.length<=400/\∀ g ∈ c.gs,gOk c.n g=true:=by grind [cOk,gOk,inR]
def Xxw{c:Cx}(h:cOk c=true):∀ g ∈ invL c.gs,gOk c.n g=true:=fun g hg=>by
 unfold invL at hg;have ⟨x,hx,hg⟩:=List.mem_flatMap.1 hg;unfold invG at hg;rw[(List.mem_replicate.1 hg).2];exact Xi7 ((X7d.1 h).2.2 x (List.mem_reverse.1 hx))
def Xxx{c:Cx}(h:cOk c=true):cIf ⟨c.n,invL c.gs⟩=invO c:=by
 unfold cIf invO;rw[h,Qw];by_cases hl:(invL c.gs).length<=400
 ·have hc:cOk ⟨c.n,invL c.gs⟩=true:=X7d.2 ⟨(X7d.1 h).1,hl,Xxw h⟩;rw[Q4 hc,Q4 (decide_eq_true hl)]
 ·have hc:¬ cOk ⟨c.n,invL c.gs⟩=true:=fun h2=>hl (X7d.1 h2).2.1;rw[Q3 hc,Q3 (by rw[decide_eq_false hl];decide)]
def Xv6{a b:Cx}(ha:cOk a=true)(hb:cOk b=true)(hn:a.n=b.n):cIf ⟨a.n,a.gs++b.gs⟩=conO a b:=by grind [cIf,cOk,conO]
def Xlm(q:Cx):((invO q).getD cZ).gs.length<=2000000:=by unfold cZ invO;grind
def Xyn{gs:List Gt}{k:Nat}(h:k<gs.length):gs.reverse[k]? = some (gs.getD (gs.length-1-k) gZ):=by
 rw[List.getElem?_reverse h,Xlf Z]
def Xgs{gs:List Gt}{k:Nat}(h:k<gs.length):(gs.reverse.take (k+1)).flatMap invG=(gs.reverse.take k).flatMap invG++List.replicate (bkN (gs.getD (gs.length-1-k) gZ)).toNat (bkG (gs.getD (gs.length-1-k) gZ)):=by
 rw[Qt,Xyn h,List.flatMap_append];simp[invG]
def Xhi{α:Type}(j:Nat)(x:α):List.replicate (j+1) x=List.replicate j x++[x]:=by rw[List.replicate_succ']
def Xz4(p q:Cx):(((invO q).bind (conO p)).getD cZ).gs.length<=2000000:=by unfold cZ conO invO;grind
abbrev Zb1(p q:Cx) : Cx:=(conO p ((invO q).getD cZ)).getD cZ
abbrev Zb2(q p:Cx) : Cx:=((invO q).bind (conO p)).getD cZ
def Y75(w0:World)(k:Int):RE 76 [vi k] w0 (fun v w=>v=vi (rotC k)/\w0=w):=by
 refine enter func76 O 14 O O ?_;intro a b;have hW:=bz w0;refine ZS b fun aH=>Za O<|ZX aH fun a b _ aI=>ZS b fun aJ=>Zm O<|Zt aJ fun a b=>Q8<|ZS b fun aK=>Ze (X0l O O)<|Za O<|Zt aK fun a b=>Xx b O ?_ ?_<;>intro aL
 ·exact ZS b fun aM=>Za O<|Zt aM fun a b=>Q6<|Xu<|X9<|X6 b (Xq b O O)<|⟨by unfold rotC;simp_all,rfl⟩
 refine ZS b fun aN=>Ze (X0l O O)<|Za O<|Zt aN fun a b=>Xx b O ?_ ?_<;>intro aO
 ·exact ZS b fun aP=>Za O<|Zt aP fun a b=>Q6<|Xu<|X9<|X6 b (Xq b O O)<|⟨by unfold rotC;simp_all,rfl⟩
 refine ZS b fun a6=>Ze (X0l O O)<|Za O<|Zt a6 fun a b=>Xx b O ?_ ?_<;>intro a7
 ·exact ZS b fun a8=>Za O<|Zt a8 fun a b=>Q6<|Xu<|X9<|X6 b (Xq b O O)<|⟨by unfold rotC;simp_all,rfl⟩
 refine ZS b fun aA=>Ze (X0l O O)<|Za O<|Zt aA fun a b=>Xx b O ?_ ?_<;>intro aB
 ·exact ZS b fun aC=>Za O<|Zt aC fun a b=>Q6<|Xu<|X9<|X6 b (Xq b O O)<|⟨by unfold rotC;simp_all,rfl⟩
 refine ZS b fun aD=>Ze (X0l O O)<|Za O<|Zt aD fun a b=>Xx b O ?_ ?_<;>intro aE
 ·exact ZS b fun aF=>Za O<|Zt aF fun a b=>Q6<|Xu<|X9<|X6 b (Xq b O O)<|⟨by unfold rotC;simp_all,rfl⟩
 refine Q7<|Xd<|aI _ _<|ZS b fun aG=>Za O<|Zt aG fun a b=>Q6 (X6 b (Xq b O O) ?_);exact ⟨by unfold rotC;simp_all,rfl⟩
theorem Y7b(x:World)(c:Cx)(Ac:Option Addr)(cc:Nat)(W:Rw x 45 encG Ac c.gs)(aK:c.gs.length<=2305843009213693951):RE 40 [.agg #[vi c.n,.slice Ac c.gs.length cc]] x (fun v w=>∃ A c1,v=.tuple #[.agg #[vi ((invO c).getD cZ).n,.slice A ((invO c).getD cZ).gs.length c1],.bool (invO c).isSome]/\Own w x.heap.size 45 3 encG A c1 ((invO c).getD cZ).gs/\Bl x w):=by
 refine enter func40 O 46 O O ?_;intro a g;have f:=bz x;refine ZS g fun b2=>Zf (X0n (zs:=[vi c.n,.slice Ac c.gs.length cc]) O O) ?_;rintro _ w1 ⟨b3,rfl,b4,m,e⟩;have bM:=Q0 f.size b4;have f:=btr f m;refine Zf (X0b (zs:=[vi 0,.slice none 0 0]) X3v O) ?_;rintro _ w2 ⟨b5,rfl,b6,m,d⟩;have b1:b3≠b5:=by have:=e.lt;omega
 have a6:=Q0 f.size b6;have e:=e.bw m;have f:=btr f m;refine Za O<|ZX b2 fun a g _ b7=>ZS g fun b8=>Ze (Vn X0t e)<|Zf (Vc (F55 _ c Ac cc (W.bx f).top aK) Xdj) ?_;rintro _ w3 ⟨rfl,m⟩;have ⟨e,d,f⟩:=mv3 m e d f;refine Ze (X1i O)<|Zt b8 fun a g=>Xx g O ?_ ?_<;>intro aB
 ·have N:cOk c=false:=by have:=aB;simpa using this
  have D:invO c=none:=by unfold invO;rw[N];rfl
  refine ZS g fun b9=>Ze (X0k (ps:=[]) (cs:=[vi 0,.slice none 0 0]) O (fun _=>by first|rfl|kernel_rfl))<|Zo (Vw [vi 0,.slice none 0 0] X1u d) ?_;intro _ w4 ⟨ho,hb⟩;have f:=Below.oy f ho a6;have d:=hb;refine Za O<|Zt b9 fun a g=>Q6<|X9<|X6 g (X1q g O (ResV.cellN (l:=[vi 0,.slice none 0 0]) O X0t (d.at 0) O) O) ?_;rw[D];exact ⟨none,0,O,(Own.nil _ _ _ _ _),f⟩
 have N:cOk c=true:=by have:=aB;simpa using this
 have aC:=X7d.1 N;have bC:=aC.2.2;have bO:=aC.2.1;have bD:c.n<=5:=(X11.1 aC.1).2;refine Q7<|b7 _ _<|ZS g fun aL=>Zf (Xe (k:=0) (vs:=[]) (zs:=[]) O X0u X0s O O) ?_;rintro _ w5 ⟨bE,rfl,aM,m,aN⟩;have aD:=Q0 f.size aM;have ⟨e,d,f⟩:=mv3 m e d f;refine Za O<|ZX aL fun a g _ aO=>ZS g fun aP=>Ze (Vd O X18 1)<|Ze (X0 O X2o (e.at 1))<|Ze (X0w O X0u)<|Ze (Vx (X1j O O Z Z) (show _=((c.gs.length:Int)-1-((0:Nat) : Int)) from Z))<|Za O<|Zt aP fun a g=>Q8<|X04 (σ:=Nat×(List Gt)) (fun (s:Nat×(List Gt)) (a:Act) (w:World)=>match s with|(k,l)=>∃ E G,Fr a 46 [(1,(pZ9 b3)),(2,(pZ9 b5)),(4,.slice E l.length G),(5,vi ((c.gs.length:Int)-1-(k:Int)))]/\(k<=c.gs.length)/\(l=(c.gs.reverse.take k).flatMap invG)/\(l.length<=7*k)/\Blk w b3 26 [vi c.n,.slice Ac c.gs.length cc]/\Blk w b5 26 [vi 0,.slice none 0 0]/\Own w x.heap.size 45 3 encG E G l/\Bl x w) (fun (s:Nat×(List Gt))=>match s with|(k,l)=>c.gs.length-k) (0,[]) ?_ ?_
 ·exact ⟨some ⟨bE,0,none⟩,0,g.sb,(Qf _),O,(Qb _),e,d,(Own.empty aN aD),f⟩
 intro ⟨k,l⟩ a w6 ⟨E,G,g,hk,hl,bP,e,d,o,f⟩;refine Q5 fun _ aQ=>ZS g fun aR=>Zm O<|Ze (X5q O O)<|Zt aR fun a g=>X0y g O (fun aE H=>?_) (fun aE H=>?_)
 ·have bF:k<c.gs.length:=by have:=H;omega
  have bQ:=Xow (Zc6 c k);refine Q7<|aQ _ _<|Q5 fun _ aS=>Q8<|ZS g fun aT=>Ze (Vd O X18 1)<|Ze (X0 O X2o (e.at 1))<|Zm O<|Zi (k:=(c.gs.length-1-k)) (u:=(Zc6 c k)) (enc:=encG) (l:=c.gs) tv0 O O X0u X1n X0q (W.bx f) (Xlf Z) Z ?_;intro bR aF;refine Ze (X07 (l:=[vi ((Zc6 c k).k),vi ((Zc6 c k).a),vi ((Zc6 c k).b)]) O X12 aF O)<|Zf (Vc (Y74 _ (Zc6 c k) _ (bC _ (Qe (Xlf Z))) bD) Xvz) ?_;rintro _ w7 ⟨rfl,m⟩;have ⟨e,d,o,f⟩:=mv4 m e d o f;refine Zm O<|Ze (Xf (vs:=[.agg #[vi ((bkG (Zc6 c k)).k),vi ((bkG (Zc6 c k)).a),vi ((bkG (Zc6 c k)).b)],vi (bkN (Zc6 c k)),.bool true]) O O)<|Ze (Xf (vs:=[.agg #[vi ((bkG (Zc6 c k)).k),vi ((bkG (Zc6 c k)).a),vi ((bkG (Zc6 c k)).b)],vi (bkN (Zc6 c k)),.bool true]) O O)<|Ze (Xf (vs:=[.agg #[vi ((bkG (Zc6 c k)).k),vi ((bkG (Zc6 c k)).a),vi ((bkG (Zc6 c k)).b)],vi (bkN (Zc6 c k)),.bool true]) O O)<|ZB [vi ((bkG (Zc6 c k)).k),vi ((bkG (Zc6 c k)).a),vi ((bkG (Zc6 c k)).b)] X5l X1n fun Q w9 a7 m i=>?_;have bG:=Q0 f.size a7;have h:=o.away a7;have e:=e.bw m;have ⟨d,o,f⟩:=mv3 m d o f;refine Za O<|Za O<|Zx aT fun a g _ aU=>Zm O<|Zm O<|Zt aU fun a g=>Q8<|X04 (σ:=Nat×(List Gt)) (fun (s:Nat×(List Gt)) (a:Act) (w:World)=>match s with|(j,l2)=>∃ I U,Fr a 46 [(1,(pZ9 b3)),(2,(pZ9 b5)),(4,.slice I l2.length U),(5,vi ((c.gs.length:Int)-1-(k:Int))),(6,(pZ9 Q)),(32,vi (bkN (Zc6 c k))),(33,vi (j:Int))]/\((j:Int)<=bkN (Zc6 c k))/\(l2=l++List.replicate j (bkG (Zc6 c k)))/\(l2.length=l.length+j)/\Blk w b3 26 [vi c.n,.slice Ac c.gs.length cc]/\Blk w b5 26 [vi 0,.slice none 0 0]/\Blk w Q 45 [vi ((bkG (Zc6 c k)).k),vi ((bkG (Zc6 c k)).a),vi ((bkG (Zc6 c k)).b)]/\Own w x.heap.size 45 3 encG I U l2/\Away I Q/\Bl x w) (fun (s:Nat×(List Gt))=>match s with|(j,l2)=>(bkN (Zc6 c k)).toNat-j) (0,l) ?_ ?_
  ·exact ⟨E,G,g.sb,Z,O4,O,e,d,i,o,h,f⟩
  intro ⟨j,l2⟩ a bS ⟨I,U,g,hj,aV,bN,e,d,i,p,q,f⟩;refine ZS g fun aW=>Ze (X16 O O)<|ZX aW fun a g _ aX=>X0y g O (fun aG a8=>?_) (fun aG a8=>?_)
  ·refine Q7<|aX _ _<|Q5 fun _ aY=>Q8<|Zr g<|Zm O<|Ze (Vn X12 i)<|Zf (Xe (k:=1) (vs:=[.agg #[vi ((bkG (Zc6 c k)).k),vi ((bkG (Zc6 c k)).a),vi ((bkG (Zc6 c k)).b)]]) (zs:=[vi ((bkG (Zc6 c k)).k),vi ((bkG (Zc6 c k)).a),vi ((bkG (Zc6 c k)).b)]) O X0u X0s O O) ?_;rintro _ bU ⟨b31,rfl,aA,m,J⟩;have aI:Q≠b31:=by have:=i.lt;omega
   have bH:=Q0 f.size aA;have ⟨e,d,i,p,f⟩:=mv5 m e d i p f;refine Zf (X0r (enc:=encG) (l:=(l2)) (l2:=([(bkG (Zc6 c k))])) (B0:=x.heap.size) O O X0u X0s X0q X1d p (Rd.of_blk J O _ J.lt) (by simp only[maxLen];simp;omega) O6 f.size) ?_;rintro _ bW ⟨bI,bJ,rfl,aZ,hg,aH⟩;have y:Own _ x.heap.size 45 3 encG _ _ (l2):=p;have C:=aH _ i.lt q;clear aH;have e:=e.appT y hg O;have d:=d.appT y hg O;have i:=i.appA hg q;have f:=Below.app f y hg (Qb _) f.size;clear y hg;exact Za O<|Zn fun a g=>Xd<|aY _ _<|Zr g<|Ze (Xr O O Z Z)<|Zm O<|Zn fun a g=>Xh<|⟨(j+1,l2++([(bkG (Zc6 c k))])),⟨bI,bJ,g.sb,Z,(by rw[aV,Xhi,Qx]),O6,e,d,i,aZ,C,f⟩,O1⟩
  have bK:bkN (Zc6 c k)<=(j:Int):=by have:=a8;omega
  exact Q9<|Xk<|Xk<|X06<|Xd<|aS _ _<|Zr g<|Zm O<|Ze (Vx (X1j O O Z Z) (show _=((c.gs.length:Int)-1-((k+1:Nat) : Int)) from Z))<|Za O<|Zn fun a g=>Xh<|⟨(k+1,l2),⟨I,U,g.sb,Z,(by rw[Xgs bF,aV,<- hl,show (bkN (Zc6 c k)).toNat=j from by have:=bK;omega]),Z,e,d,p,f⟩,O1⟩
 have bL:k=c.gs.length:=by have:=H;omega
 have D:invO c=cIf ⟨c.n,l⟩:=by rw[<- Xxx N,hl,bL,<- List.length_reverse,List.take_length];rfl
 refine Q9<|Xk<|Xk<|X06<|aO _ _<|ZS g fun b0=>Ze (Vd O X1z 0)<|Ze (X0 O X8 (e.at 0))<|Zm O<|Zf (Vc (Y6w _ c.n E G l o.rd.top Z) Xpy) ?_;rintro _ bX ⟨L,M,rfl,t,m⟩;have t:=t.lower f.size;have d:=d.bw m;have f:=btr f m;refine Ze (Xf (vs:=[.agg #[vi (((cIf ⟨c.n,l⟩).getD cZ).n),.slice L (((cIf ⟨c.n,l⟩).getD cZ).gs).length M],.bool ((cIf ⟨c.n,l⟩).isSome)]) O O)<|Ze (Xf (vs:=[.agg #[vi (((cIf ⟨c.n,l⟩).getD cZ).n),.slice L (((cIf ⟨c.n,l⟩).getD cZ).gs).length M],.bool ((cIf ⟨c.n,l⟩).isSome)]) O O)<|Zo (Vw [vi (((cIf ⟨c.n,l⟩).getD cZ).n),.slice L (((cIf ⟨c.n,l⟩).getD cZ).gs).length M] X1u d) ?_;intro _ bY ⟨ho,hb⟩;have t:=t.oT ho d O;have f:=Below.oy f ho a6;have d:=hb;refine Za O<|Zt b0 fun a g=>Q6 (X6 g (X1q g O (ResV.cellN (l:=[vi (((cIf ⟨c.n,l⟩).getD cZ).n),.slice L (((cIf ⟨c.n,l⟩).getD cZ).gs).length M]) O X0t (d.at 0) O) O) ?_);rw[D];exact ⟨L,M,O,t,f⟩
theorem Y7c(G:World)(p:Cx)(t:Option Addr)(u:Nat)(H:Rw G 45 encG t p.gs)(q:Cx)(Aq:Option Addr)(cq:Nat)(I:Rw G 45 encG Aq q.gs)(aP:p.gs.length<=2000000)(aQ:q.gs.length<=2000000):RE 41 [.agg #[vi p.n,.slice t p.gs.length u],.agg #[vi q.n,.slice Aq q.gs.length cq]] G (fun v w=>∃ A c1,v=.tuple #[.agg #[vi ((conO p q).getD cZ).n,.slice A ((conO p q).getD cZ).gs.length c1],.bool (conO p q).isSome]/\Own w G.heap.size 45 3 encG A c1 ((conO p q).getD cZ).gs/\Bl G w):=by
 refine enter func41 O 33 O O ?_;intro a o;have f:=bz G;refine ZS o fun aF=>Zf (X0n (zs:=[vi p.n,.slice t p.gs.length u]) O O) ?_;rintro _ w1 ⟨b4,rfl,aG,d,e⟩;have aN:=Q0 f.size aG;have f:=btr f d;refine Zf (X0n (zs:=[vi q.n,.slice Aq q.gs.length cq]) O O) ?_;rintro _ w2 ⟨b5,rfl,aH,d,i⟩;have aC:b4≠b5:=by have:=e.lt;omega
 have aO:=Q0 f.size aH;have e:=e.bw d;have f:=btr f d;refine Zf (X0b (zs:=[vi 0,.slice none 0 0]) X3v O) ?_;rintro _ w3 ⟨b7,rfl,aI,d,g⟩;have aD:b4≠b7:=by have:=e.lt;omega
 have aE:b5≠b7:=by have:=i.lt;omega
 have J:=Q0 f.size aI;have ⟨e,i,f⟩:=mv3 d e i f;refine Za O<|ZX aF fun a o _ aJ=>Q5 fun _ aK=>X0i (fun a w=>Fr a 33 [(2,(pZ9 b4)),(3,(pZ9 b5)),(4,(pZ9 b7)),(20,.bool (((!(cOk p))||(!(cOk q)))||(p.n != q.n)))]/\Bl w3 w) ?_ ?_
 ·have x:Bl w3 w3:=Below.refl _ _;refine Zr o<|Ze (Vn X0t e)<|Zf (Vc (F55 _ p t u (H.bx f).top Z) Xdj) ?_;rintro _ w4 ⟨rfl,d⟩;have ⟨e,i,f,x⟩:=mv4 d e i f x;refine Ze (X1i O)<|Zm O<|Zg 9 O ?_ ?_<;>intro c
  ·(iterate 3 refine Zp (gP c) ?_);refine Ze (Xc O c O)<|Zm O<|Zp (gP O) ?_;(iterate 4 refine Zp (gP O) ?_);exact Ze (Xc O O O)<|Zn fun a o=>⟨o.sub ⟨O,O,O,X1 O (by simp[c]),trivial⟩,x⟩
  refine Zv (gW c) (Vn X0t i) ?_;refine Zk (gW c) (Vc (F55 _ q Aq cq (I.bx f).top Z) Xdj) ?_;rintro _ w5 ⟨rfl,d⟩;have ⟨e,i,f,x⟩:=mv4 d e i f x;refine Zv (gW c) (X1i O)<|Ze (Xi O c O)<|Zm O<|Zg 14 O ?_ ?_<;>intro b
  ·(iterate 5 refine Zp (gP b) ?_);exact Ze (Xc O b O)<|Zn fun a o=>⟨o.sub ⟨O,O,O,X1 O (by simp[c,b]),trivial⟩,x⟩
  refine Zv (gW b) (Vd O X1z 0) ?_;refine Zv (gW b) (X0 O X8 (e.at 0)) ?_;refine Zv (gW b) (Vd O X1z 0) ?_;refine Zv (gW b) (X0 O X8 (i.at 0)) ?_;refine Zv (gW b) (X28 O O)<|Ze (Xi O b O)<|Zn fun a o=>?_;exact ⟨o.sub ⟨O,O,O,X1 O (by simp[c,b]),trivial⟩,x⟩
 intro a w6 ⟨o,d⟩;have ⟨e,i,g,f⟩:=mv4 d e i g f;refine aK _ _<|Xx o O ?_ ?_<;>intro D
 ·have E:conO p q=none:=by unfold conO;have h7:=D;rw[Q3];revert h7;cases cOk p<;>cases cOk q<;>by_cases e9:p.n=q.n<;>simp[e9]
  refine ZS o fun a6=>Ze (X0k (ps:=[]) (cs:=[vi 0,.slice none 0 0]) O (fun _=>by first|rfl|kernel_rfl))<|Zo (Vw [vi 0,.slice none 0 0] X1u g) ?_;intro _ w7 ⟨ho,hb⟩;have f:=Below.oy f ho J;have g:=hb;refine Za O<|Zt a6 fun a o=>Q6<|X9<|X6 o (X1q o O (ResV.cellN (l:=[vi 0,.slice none 0 0]) O X0t (g.at 0) O) O) ?_;rw[E];exact ⟨none,0,O,(Own.nil _ _ _ _ _),f⟩
 have h7:cOk p=true/\cOk q=true/\p.n=q.n:=by have h7:=D;revert h7;cases cOk p<;>cases cOk q<;>simp
 have E:conO p q=cIf ⟨p.n,p.gs++(q.gs++[])⟩:=by rw[List.append_nil,Xv6 h7.1 h7.2.1 h7.2.2]
 refine Q7<|aJ _ _<|Q5 fun _ a7=>Xy none (fun j=>[11].contains j) mixed ?_;intro w8 d;have ⟨e,i,g,f⟩:=mv4 d e i g f;refine Yb o<|Yo 0 O (fun _=>Vd O X1z 0)<|Ye 1 O (X0 O X8 (e.at 0))<|Yo 2 O (fun _=>Vd O X18 1)<|Ye 3 O (X0 O X2o (e.at 1))<|Yo 4 O (fun _=>Vd O X18 1)<|Ye 5 O (X0 O X2o (i.at 1))<|Y1 6<|Yk O tv0 (Xe (k:=2) (vs:=[.slice t p.gs.length u,.slice Aq q.gs.length cq]) (zs:=[.slice t p.gs.length u,.slice Aq q.gs.length cq]) O Xco Y54 O O) (fun _ _ ⟨_,_,_,h,_⟩=>h) ?_;rintro _ w9 ⟨aL,rfl,a8,d,L⟩;have aM:=Q0 f.size a8;have g:=g.bw d;have f:=btr f d;refine Y1 7<|Yk O tv0 (Vc (Yci _ [(⟨t,u,p.gs⟩ : Sg),(⟨Aq,cq,q.gs⟩ : Sg)] (some ⟨aL,0,none⟩) 2 (Rd.of_blk L O _ L.lt) (fun s hs=>by simp only[Qv,List.not_mem_nil,or_false] at hs;rcases hs with rfl|rfl;exact (H.bx f).top;exact (I.bx f).top) O4 O6) Y3o) (fun _ _ ⟨aA,aB,_,y,d⟩=>d) ?_;rintro _ aR ⟨aA,aB,rfl,y,d⟩;have y:=y.lower f.size;have g:=g.bw d;have f:=btr f d;refine Y1 8<|Yk O tv0 (Vc (Y6w _ p.n aA aB (List.flatMap Sg.l [(⟨t,u,p.gs⟩ : Sg),(⟨Aq,cq,q.gs⟩ : Sg)]) y.rd.top O6) Xpy) (fun _ _ ⟨B,C,_,m,d⟩=>d) ?_;rintro _ aS ⟨B,C,rfl,m,d⟩;have m:=m.lower f.size;have g:=g.bw d;have f:=btr f d;refine Yo 9 O (fun _=>Xf (vs:=[.agg #[vi (((cIf ⟨p.n,(List.flatMap Sg.l [(⟨t,u,p.gs⟩ : Sg),(⟨Aq,cq,q.gs⟩ : Sg)])⟩).getD cZ).n),.slice B (((cIf ⟨p.n,(List.flatMap Sg.l [(⟨t,u,p.gs⟩ : Sg),(⟨Aq,cq,q.gs⟩ : Sg)])⟩).getD cZ).gs).length C],.bool ((cIf ⟨p.n,(List.flatMap Sg.l [(⟨t,u,p.gs⟩ : Sg),(⟨Aq,cq,q.gs⟩ : Sg)])⟩).isSome)]) O O)<|Yo 10 O (fun _=>Xf (vs:=[.agg #[vi (((cIf ⟨p.n,(List.flatMap Sg.l [(⟨t,u,p.gs⟩ : Sg),(⟨Aq,cq,q.gs⟩ : Sg)])⟩).getD cZ).n),.slice B (((cIf ⟨p.n,(List.flatMap Sg.l [(⟨t,u,p.gs⟩ : Sg),(⟨Aq,cq,q.gs⟩ : Sg)])⟩).getD cZ).gs).length C],.bool ((cIf ⟨p.n,(List.flatMap Sg.l [(⟨t,u,p.gs⟩ : Sg),(⟨Aq,cq,q.gs⟩ : Sg)])⟩).isSome)]) O O)<|Y1 11<|Yh O tv0 O (Vw [vi (((cIf ⟨p.n,(List.flatMap Sg.l [(⟨t,u,p.gs⟩ : Sg),(⟨Aq,cq,q.gs⟩ : Sg)])⟩).getD cZ).n),.slice B (((cIf ⟨p.n,(List.flatMap Sg.l [(⟨t,u,p.gs⟩ : Sg),(⟨Aq,cq,q.gs⟩ : Sg)])⟩).getD cZ).gs).length C] X1u g) ?_;intro _ aT ⟨ho,hb⟩;have m:=m.oT ho g O;have f:=Below.oy f ho J;have g:=hb;refine YD 12 O O<|Yd fun a o=>a7 _ _<|Q6 (X6 o (X1q o O (ResV.cellN (l:=[vi (((cIf ⟨p.n,(List.flatMap Sg.l [(⟨t,u,p.gs⟩ : Sg),(⟨Aq,cq,q.gs⟩ : Sg)])⟩).getD cZ).n),.slice B (((cIf ⟨p.n,(List.flatMap Sg.l [(⟨t,u,p.gs⟩ : Sg),(⟨Aq,cq,q.gs⟩ : Sg)])⟩).getD cZ).gs).length C]) O X0t (g.at 0) O) O) ?_);rw[E];exact ⟨B,C,O,m,f⟩
theorem Y7a(u:World)(p:Cx)(Ap:Option Addr)(cp:Nat)(a6:Rw u 45 encG Ap p.gs)(q:Cx)(Aq:Option Addr)(cq:Nat)(a7:Rw u 45 encG Aq q.gs)(aM:p.gs.length<=2000000)(aW:q.gs.length<=2000000):RE 19 [.agg #[vi p.n,.slice Ap p.gs.length cp],.agg #[vi q.n,.slice Aq q.gs.length cq]] u (fun v w=>∃ A c1,v=.tuple #[.agg #[vi ((((invO q).bind (conO p))).getD cZ).n,.slice A ((((invO q).bind (conO p))).getD cZ).gs.length c1],.bool (((invO q).bind (conO p))).isSome]/\Own w u.heap.size 45 3 encG A c1 ((((invO q).bind (conO p))).getD cZ).gs/\Bl u w):=by
 refine enter func19 O 21 O O ?_;intro a j;have c:=bz u;refine ZS j fun aN=>Zf (X0n (zs:=[vi p.n,.slice Ap p.gs.length cp]) O O) ?_;rintro _ w1 ⟨b4,rfl,aO,f,d⟩;have aU:=Q0 c.size aO;have c:=btr c f;refine Zf (X0n (zs:=[vi q.n,.slice Aq q.gs.length cq]) O O) ?_;rintro _ w2 ⟨b5,rfl,aP,f,i⟩;have aJ:b4≠b5:=by have:=d.lt;omega
 have aV:=Q0 c.size aP;have d:=d.bw f;have c:=btr c f;refine Zf (X0b (zs:=[vi 0,.slice none 0 0]) X3v O) ?_;rintro _ w3 ⟨b7,rfl,aQ,f,b⟩;have aK:b4≠b7:=by have:=d.lt;omega
 have aL:b5≠b7:=by have:=i.lt;omega
 have y:=Q0 c.size aQ;have ⟨d,i,c⟩:=mv3 f d i c;refine Za O<|Zx aN fun a j _ aR=>Ze (Vn X0t i)<|Zf (Vc (Y7b _ q Aq cq (a7.bx c).top Z) Xw5) ?_;rintro _ w4 ⟨A9,c9,rfl,k,f⟩;have k:=k.lower c.size;have ⟨d,i,b,c⟩:=mv4 f d i b c;refine Zm O<|Ze (Xf (vs:=[.agg #[vi (((invO q).getD cZ).n),.slice A9 (((invO q).getD cZ).gs).length c9],.bool ((invO q).isSome)]) O O)<|Ze (Xf (vs:=[.agg #[vi (((invO q).getD cZ).n),.slice A9 (((invO q).getD cZ).gs).length c9],.bool ((invO q).isSome)]) O O)<|ZB [vi (((invO q).getD cZ).n),.slice A9 (((invO q).getD cZ).gs).length c9] X3v X1u fun b11 w6 a8 f aA=>?_;have aB:b4≠b11:=by have:=d.lt;omega
 have aC:b5≠b11:=by have:=i.lt;omega
 have aD:b7≠b11:=by have:=b.lt;omega
 have aS:=Q0 c.size a8;have ⟨d,b,k,c⟩:=mv4 f d b k c;refine Za O<|ZX aR fun a j _ aE=>ZS j fun aF=>Zm O<|Ze (X1i O)<|Zt aF fun a j=>Xx j O (fun m=>?_) (fun m=>?_)
 ·have aG:(invO q).bind (conO p)=none:=by have h7:=m;cases e:invO q with
   | none=>rfl
   | some x=>rw[e] at h7;simp at h7
  refine ZS j fun aH=>Ze (X0k (ps:=[]) (cs:=[vi 0,.slice none 0 0]) O (fun _=>by first|rfl|kernel_rfl))<|Zo (Vw [vi 0,.slice none 0 0] X1u b) ?_;intro _ w7 ⟨ho,hb⟩;have c:=Below.oy c ho y;have b:=hb;refine Za O<|Zt aH fun a j=>Q6<|X9<|X6 j (X1q j O (ResV.cellN (l:=[vi 0,.slice none 0 0]) O X0t (b.at 0) O) O) ?_;rw[aG];exact ⟨none,0,O,(Own.nil _ _ _ _ _),c⟩
 have ⟨x9,aT⟩ : ∃ x,invO q=some x:=Option.isSome_iff_exists.1 (by have:=m;simpa using this);refine Q7<|aE _ _<|ZS j fun aI=>Ze (Vn X0t d)<|Ze (Vn X0t aA)<|Zf (Vc (Y7c _ p Ap cp (a6.bx c).top ((invO q).getD cZ) A9 c9 k.rd.top aM (Xlm q)) Xw6) ?_;rintro _ w8 ⟨o,t,rfl,g,f⟩;have g:=g.lower c.size;have b:=b.bw f;have c:=btr c f;refine Ze (Xf (vs:=[.agg #[vi (((conO p ((invO q).getD cZ)).getD cZ).n),.slice o (((conO p ((invO q).getD cZ)).getD cZ).gs).length t],.bool ((conO p ((invO q).getD cZ)).isSome)]) O O)<|Ze (Xf (vs:=[.agg #[vi (((conO p ((invO q).getD cZ)).getD cZ).n),.slice o (((conO p ((invO q).getD cZ)).getD cZ).gs).length t],.bool ((conO p ((invO q).getD cZ)).isSome)]) O O)<|Zo (Vw [vi (((conO p ((invO q).getD cZ)).getD cZ).n),.slice o (((conO p ((invO q).getD cZ)).getD cZ).gs).length t] X1u b) ?_;intro _ w9 ⟨ho,hb⟩;have g:=g.oT ho b O;have c:=Below.oy c ho y;have b:=hb;refine Za O<|Zt aI fun a j=>Q6 (X6 j (X1q j O (ResV.cellN (l:=[vi (((conO p ((invO q).getD cZ)).getD cZ).n),.slice o (((conO p ((invO q).getD cZ)).getD cZ).gs).length t]) O X0t (b.at 0) O) O) ?_);rw[aT] at *;exact ⟨o,t,O,g,c⟩
theorem Y78(y:World)(c:Cx)(Ac:Option Addr)(cc:Nat)(aG:Rw y 45 encG Ac c.gs)(bE:c.gs.length<=100000):RE 52 [.agg #[vi c.n,.slice Ac c.gs.length cc]] y (fun v w=>∃ A9 c9,v=.agg #[vi c.n,.slice A9 (invL c.gs).length c9]/\Own w y.heap.size 45 3 encG A9 c9 (invL c.gs)/\Bl y w):=by
 refine enter func52 O 38 O O ?_;intro a m;have i:=bz y;refine ZS m fun aY=>Zf (X0n (zs:=[vi c.n,.slice Ac c.gs.length cc]) O O) ?_;rintro _ w1 ⟨b3,rfl,aZ,p,d⟩;have bC:=Q0 i.size aZ;have i:=btr i p;refine Zf (X0b (zs:=[vi 0,.slice none 0 0]) X3v O) ?_;rintro _ w2 ⟨b5,rfl,b0,p,e⟩;have aV:b3≠b5:=by have:=d.lt;omega
 have aH:=Q0 i.size b0;have d:=d.bw p;have i:=btr i p;refine Zx aY fun a m _ b1=>Ze (Vd O X1z 0)<|Ze (X0 O X8 (d.at 0))<|Ze (X0k (ps:=[(0,vi c.n)]) (cs:=[vi c.n,.slice none 0 0]) O (fun _=>by first|rfl|kernel_rfl))<|ZB [vi c.n,.slice none 0 0] X3v X1u fun b9 w4 a6 p f=>?_;have aW:b3≠b9:=by have:=d.lt;omega
 have aX:b5≠b9:=by have:=e.lt;omega
 have aI:=Q0 i.size a6;have ⟨d,e,i⟩:=mv3 p d e i;refine ZX b1 fun a m _ aJ=>ZS m fun aK=>Ze (Vd O X18 1)<|Ze (X0 O X2o (d.at 1))<|Ze (X0w O X0u)<|Ze (Vx (X1j O O Z Z) (show _=((c.gs.length:Int)-1-((0:Nat) : Int)) from Z))<|Za O<|Zt aK fun a m=>Q8<|X04 (σ:=Nat×(List Gt)) (fun (s:Nat×(List Gt)) (a:Act) (w:World)=>match s with|(k,l)=>∃ h A,Fr a 38 [(1,(pZ9 b3)),(2,(pZ9 b5)),(3,(pZ9 b9)),(4,vi ((c.gs.length:Int)-1-(k:Int)))]/\(k<=c.gs.length)/\(l=(c.gs.reverse.take k).flatMap invG)/\(l.length<=7*k)/\Blk w b3 26 [vi c.n,.slice Ac c.gs.length cc]/\Blk w b5 26 [vi 0,.slice none 0 0]/\Blk w b9 26 [vi c.n,.slice h l.length A]/\Own w y.heap.size 45 3 encG h A l/\Bl y w) (fun (s:Nat×(List Gt))=>match s with|(k,l)=>c.gs.length-k) (0,[]) ?_ ?_
 ·exact ⟨none,0,m.sb,(Qf _),O,(Qb _),d,e,f,(Own.nil _ _ _ _ _),i⟩
 intro ⟨k,l⟩ a w5 ⟨h,A,m,hk,hl,bF,d,e,f,o,i⟩;refine Q5 fun _ aL=>ZS m fun aM=>Zm O<|Ze (X5q O O)<|Zt aM fun a m=>X0y m O (fun a7 E=>?_) (fun a7 E=>?_)
 ·have b2:k<c.gs.length:=by have:=E;omega
  have bG:=Xow (Zc6 c k);refine Q7<|aL _ _<|Q5 fun _ aN=>Q8<|ZS m fun aO=>Ze (Vd O X18 1)<|Ze (X0 O X2o (d.at 1))<|Zm O<|Zi (k:=(c.gs.length-1-k)) (u:=(Zc6 c k)) (enc:=encG) (l:=c.gs) tv0 O O X0u X1n X0q (aG.bx i) (Xlf Z) Z ?_;intro bH a8;refine Ze (X07 (l:=[vi ((Zc6 c k).k),vi ((Zc6 c k).a),vi ((Zc6 c k).b)]) O X12 a8 O)<|Zf (Vc (Xzc _ (Zc6 c k)) Xkk) ?_;rintro _ w6 ⟨rfl,p⟩;have ⟨d,e,f,o,i⟩:=mv5 p d e f o i;refine Zm O<|Ze (Xf (vs:=[.agg #[vi ((bkG (Zc6 c k)).k),vi ((bkG (Zc6 c k)).a),vi ((bkG (Zc6 c k)).b)],vi (bkN (Zc6 c k))]) O O)<|Ze (Vx (Xf (vs:=[.agg #[vi ((bkG (Zc6 c k)).k),vi ((bkG (Zc6 c k)).a),vi ((bkG (Zc6 c k)).b)],vi (bkN (Zc6 c k))]) O O) (show _=(bkN (Zc6 c k)-((0:Nat) : Int)) from Z))<|ZB [vi ((bkG (Zc6 c k)).k),vi ((bkG (Zc6 c k)).a),vi ((bkG (Zc6 c k)).b)] X5l X1n fun J w8 M p g=>?_;have b4:=Q0 i.size M;have B:=o.away M;have ⟨d,e,f,o,i⟩:=mv5 p d e f o i;refine Za O<|Zt aO fun a m=>Q8<|X04 (σ:=Nat×(List Gt)) (fun (s:Nat×(List Gt)) (a:Act) (w:World)=>match s with|(j,l2)=>∃ G L,Fr a 38 [(1,(pZ9 b3)),(2,(pZ9 b5)),(3,(pZ9 b9)),(4,vi ((c.gs.length:Int)-1-(k:Int))),(5,(pZ9 J)),(6,vi (bkN (Zc6 c k)-(j:Int)))]/\((j:Int)<=bkN (Zc6 c k))/\(l2=l++List.replicate j (bkG (Zc6 c k)))/\(l2.length=l.length+j)/\Blk w b3 26 [vi c.n,.slice Ac c.gs.length cc]/\Blk w b5 26 [vi 0,.slice none 0 0]/\Blk w b9 26 [vi c.n,.slice G l2.length L]/\Blk w J 45 [vi ((bkG (Zc6 c k)).k),vi ((bkG (Zc6 c k)).a),vi ((bkG (Zc6 c k)).b)]/\Own w y.heap.size 45 3 encG G L l2/\Away G J/\Bl y w) (fun (s:Nat×(List Gt))=>match s with|(j,l2)=>(bkN (Zc6 c k)).toNat-j) (0,l) ?_ ?_
  ·exact ⟨h,A,m.sb,Z,O4,O,d,e,f,g,o,B,i⟩
  intro ⟨j,l2⟩ a w9 ⟨G,L,m,hj,aP,bD,d,e,f,g,q,t,i⟩;refine Q5 fun _ aQ=>ZS m fun aR=>Zm O<|Ze (X52 O O)<|Zt aR fun a m=>X0y m O (fun aA N=>?_) (fun aA N=>?_)
  ·refine Q7<|aQ _ _<|Q5 fun _ aS=>Q8<|Zr m<|Ze (Vd O X18 1)<|Ze (X0 O X2o (f.at 1))<|Ze (Vn X12 g)<|Zf (Xe (k:=1) (vs:=[.agg #[vi ((bkG (Zc6 c k)).k),vi ((bkG (Zc6 c k)).a),vi ((bkG (Zc6 c k)).b)]]) (zs:=[vi ((bkG (Zc6 c k)).k),vi ((bkG (Zc6 c k)).a),vi ((bkG (Zc6 c k)).b)]) O X0u X0s O O) ?_;rintro _ bI ⟨b26,rfl,Q,p,H⟩;have aE:J≠b26:=by have:=g.lt;omega
   have b6:=Q0 i.size Q;have ⟨d,e,f,g,q,i⟩:=mv6 p d e f g q i;refine Zf (X0r (enc:=encG) (l:=(l2)) (l2:=([(bkG (Zc6 c k))])) (B0:=y.heap.size) O O X0u X0s X0q X1d q (Rd.of_blk H O _ H.lt) (by simp only[maxLen];simp;omega) O6 i.size) ?_;rintro _ bJ ⟨aB,aC,rfl,I,hg,aD⟩;have x:Own _ y.heap.size 45 3 encG _ _ (l2):=q;have D:=aD _ g.lt t;clear aD;have d:=d.appT x hg O;have e:=e.appT x hg O;have f:=f.appT x hg O;have g:=g.appA hg t;have i:=Below.app i x hg (Qb _) i.size;clear x hg;refine Ze (Vd O X18 1)<|Zo (Vu (vs:=[.slice aB (l2++([(bkG (Zc6 c k))])).length aC]) (l':=[vi c.n,.slice aB (l2++([(bkG (Zc6 c k))])).length aC]) O O X6n f) ?_;intro _ bK ⟨U,hb⟩;have d:=d.oy U Z;have e:=e.oy U Z;have g:=g.oz U f O;have I:=I.oT U f O;have i:=Below.oy i U aI;have f:=hb;exact Zn fun a m=>Xd<|aS _ _<|Zr m<|Zm O<|Ze (Vx (X1j O O Z Z) (show _=(bkN (Zc6 c k)-((j+1:Nat) : Int)) from Z))<|Za O<|Zn fun a m=>Xh<|⟨(j+1,l2++([(bkG (Zc6 c k))])),⟨aB,aC,m.sb,Z,(by rw[aP,Xhi,Qx]),O6,d,e,f,g,I,D,i⟩,O1⟩
  have b7:bkN (Zc6 c k)<=(j:Int):=by have:=N;omega
  exact Q9<|Xk<|Xk<|X06<|Xd<|aN _ _<|Zr m<|Zm O<|Ze (Vx (X1j O O Z Z) (show _=((c.gs.length:Int)-1-((k+1:Nat) : Int)) from Z))<|Za O<|Zn fun a m=>Xh<|⟨(k+1,l2),⟨G,L,m.sb,Z,(by rw[Xgs b2,aP,<- hl,show (bkN (Zc6 c k)).toNat=j from by have:=b7;omega]),Z,d,e,f,q,i⟩,O1⟩
 have b8:k=c.gs.length:=by have:=E;omega
 have aT:l=invL c.gs:=by rw[hl,b8,<- List.length_reverse,List.take_length];rfl
 refine Q9<|Xk<|Xk<|X06<|aJ _ _<|ZS m fun aU=>Ze (Vn X0t f)<|Zo (Vw [vi c.n,.slice h l.length A] X1u e) ?_;intro _ bL ⟨U,hb⟩;have o:=o.oT U e O;have i:=Below.oy i U aH;have e:=hb;refine Zt aU fun a m=>Q6 (X6 m (Xq m O (ResV.cellN (l:=[vi c.n,.slice h l.length A]) O X0t (e.at 0) O)) ?_);have a6:=aT;subst a6;exact ⟨h,A,O,o,i⟩
theorem Y79(w0:World)(c:Cx)(Ac:Option Addr)(cc:Nat)(t:Rw w0 45 encG Ac c.gs)(aP:c.gs.length<=2000000):RE 23 [.agg #[vi c.n,.slice Ac c.gs.length cc]] w0 (fun v w=>∃ A c1,v=.tuple #[.agg #[vi ((invO c).getD cZ).n,.slice A ((invO c).getD cZ).gs.length c1],.bool (invO c).isSome]/\Own w w0.heap.size 45 3 encG A c1 ((invO c).getD cZ).gs/\Bl w0 w):=by
 refine enter func23 O 17 O O ?_;intro a f;have d:=bz w0;refine ZS f fun aI=>Zf (X0n (zs:=[vi c.n,.slice Ac c.gs.length cc]) O O) ?_;rintro _ w1 ⟨b3,rfl,aJ,j,g⟩;have aQ:=Q0 d.size aJ;have d:=btr d j;refine Zf (X0b (zs:=[vi 0,.slice none 0 0]) X3v O) ?_;rintro _ w2 ⟨b5,rfl,aK,j,b⟩;have aH:b3≠b5:=by have:=g.lt;omega
 have k:=Q0 d.size aK;have g:=g.bw j;have d:=btr d j;refine Za O<|ZX aI fun a f _ aL=>ZS f fun aM=>Ze (Vn X0t g)<|Zf (Vc (F53 _ c Ac cc (t.bx d).top) Xgq) ?_;rintro _ w3 ⟨rfl,j⟩;have ⟨g,b,d⟩:=mv3 j g b d;refine Ze (X1i O)<|Zt aM fun a f=>Xx f O ?_ ?_<;>intro a6
 ·have m:cOk c=false:=by have:=a6;simpa using this
  have i:invO c=none:=by unfold invO;rw[m];rfl
  refine ZS f fun aN=>Ze (X0k (ps:=[]) (cs:=[vi 0,.slice none 0 0]) O (fun _=>by first|rfl|kernel_rfl))<|Zo (Vw [vi 0,.slice none 0 0] X1u b) ?_;intro _ w4 ⟨ho,hb⟩;have d:=Below.oy d ho k;have b:=hb;refine Za O<|Zt aN fun a f=>Q6<|X9<|X6 f (X1q f O (ResV.cellN (l:=[vi 0,.slice none 0 0]) O X0t (b.at 0) O) O) ?_;rw[i];exact ⟨none,0,O,(Own.nil _ _ _ _ _),d⟩
 have m:cOk c=true:=by have:=a6;simpa using this
 refine Q7<|aL _ _<|ZS f fun a8=>Ze (Vn X0t g)<|Zf (Vc (Y78 _ c Ac cc (t.bx d).top (by have:=X7d.1 m;omega)) Xw2) ?_;rintro _ w5 ⟨p,q,rfl,e,j⟩;have e:=e.lower d.size;have ⟨g,b,d⟩:=mv3 j g b d;refine ZB [vi c.n,.slice p (invL c.gs).length q] X3v X1u fun b14 w7 aA j u=>?_;have aB:b3≠b14:=by have:=g.lt;omega
 have aC:b5≠b14:=by have:=b.lt;omega
 have aO:=Q0 d.size aA;have ⟨b,e,d⟩:=mv3 j b e d;refine ZX a8 fun a f _ aD=>ZS f fun aE=>Ze (Vd O X18 1)<|Ze (X0 O X2o (u.at 1))<|Ze (X0w O X0u)<|Ze (X52 O O)<|Zt aE fun a f=>X0y f O (fun a7 o=>?_) (fun a7 o=>?_)
 ·have i:invO c=none:=by unfold invO;rw[Q3];have:=o;simp[m];omega
  refine ZS f fun aF=>Ze (X0k (ps:=[]) (cs:=[vi 0,.slice none 0 0]) O (fun _=>by first|rfl|kernel_rfl))<|Zo (Vw [vi 0,.slice none 0 0] X1u b) ?_;intro _ w8 ⟨ho,hb⟩;have d:=Below.oy d ho k;have b:=hb;refine Za O<|Zt aF fun a f=>Q6<|X9<|X6 f (X1q f O (ResV.cellN (l:=[vi 0,.slice none 0 0]) O X0t (b.at 0) O) O) ?_;rw[i];exact ⟨none,0,O,(Own.nil _ _ _ _ _),d⟩
 have i:invO c=some ⟨c.n,invL c.gs⟩:=by unfold invO;rw[Q4];have:=o;simp[m];omega
 refine Q7<|aD _ _<|ZS f fun aG=>Ze (Vn X0t u)<|Zo (Vw [vi c.n,.slice p (invL c.gs).length q] X1u b) ?_;intro _ w9 ⟨ho,hb⟩;have e:=e.oT ho b O;have d:=Below.oy d ho k;have b:=hb;refine Za O<|Zt aG fun a f=>Q6 (X6 f (X1q f O (ResV.cellN (l:=[vi c.n,.slice p (invL c.gs).length q]) O X0t (b.at 0) O) O) ?_);rw[i];exact ⟨p,q,O,e,d⟩
theorem Y77(y:World)(p:Cx)(Ap:Option Addr)(cp:Nat)(E:Rw y 45 encG Ap p.gs)(q:Cx)(Aq:Option Addr)(cq:Nat)(G:Rw y 45 encG Aq q.gs)(aU:p.gs.length<=2000000)(aV:q.gs.length<=2000000):RE 24 [.agg #[vi p.n,.slice Ap p.gs.length cp],.agg #[vi q.n,.slice Aq q.gs.length cq]] y (fun v w=>∃ A c1,v=.tuple #[.agg #[vi ((conO p q).getD cZ).n,.slice A ((conO p q).getD cZ).gs.length c1],.bool (conO p q).isSome]/\Own w y.heap.size 45 3 encG A c1 ((conO p q).getD cZ).gs/\Bl y w):=by
 refine enter func24 O 42 O O ?_;intro a k;have f:=bz y;refine ZS k fun aJ=>Zf (X0n (zs:=[vi p.n,.slice Ap p.gs.length cp]) O O) ?_;rintro _ w1 ⟨b4,rfl,aK,j,e⟩;have aS:=Q0 f.size aK;have f:=btr f j;refine Zf (X0n (zs:=[vi q.n,.slice Aq q.gs.length cq]) O O) ?_;rintro _ w2 ⟨b5,rfl,aL,j,g⟩;have aG:b4≠b5:=by have:=e.lt;omega
 have aT:=Q0 f.size aL;have e:=e.bw j;have f:=btr f j;refine Zf (X0b (zs:=[vi 0,.slice none 0 0]) X3v O) ?_;rintro _ w3 ⟨b7,rfl,aM,j,i⟩;have aH:b4≠b7:=by have:=e.lt;omega
 have aI:b5≠b7:=by have:=g.lt;omega
 have H:=Q0 f.size aM;have ⟨e,g,f⟩:=mv3 j e g f;refine Za O<|ZX aJ fun a k _ aN=>Q5 fun _ aO=>X0i (fun a w=>Fr a 42 [(2,(pZ9 b4)),(3,(pZ9 b5)),(4,(pZ9 b7)),(31,.bool ((((!(cOk p))||(!(cOk q)))||(p.n != q.n))||(decide (400<((p.gs.length:Int)+(q.gs.length:Int))))))]/\Bl w3 w) ?_ ?_
 ·have t:Bl w3 w3:=Below.refl _ _;refine Zr k<|Ze (Vn X0t e)<|Zf (Vc (F53 _ p Ap cp (E.bx f).top) Xgq) ?_;rintro _ w4 ⟨rfl,j⟩;have ⟨e,g,f,t⟩:=mv4 j e g f t;refine Ze (X1i O)<|Zm O<|Zg 10 O ?_ ?_<;>intro d
  ·(iterate 3 refine Zp (gP d) ?_);refine Ze (Xc O d O)<|Zm O<|Zp (gP O) ?_;(iterate 4 refine Zp (gP O) ?_);refine Ze (Xc O O O)<|Zm O<|Zp (gP O) ?_;(iterate 7 refine Zp (gP O) ?_);exact Ze (Xc O O O)<|Zn fun a k=>⟨k.sub ⟨O,O,O,X1 O (by simp[d]),trivial⟩,t⟩
  refine Zv (gW d) (Vn X0t g) ?_;refine Zk (gW d) (Vc (F53 _ q Aq cq (G.bx f).top) Xgq) ?_;rintro _ w5 ⟨rfl,j⟩;have ⟨e,g,f,t⟩:=mv4 j e g f t;refine Zv (gW d) (X1i O)<|Ze (Xi O d O)<|Zm O<|Zg 15 O ?_ ?_<;>intro c
  ·(iterate 5 refine Zp (gP c) ?_);refine Ze (Xc O c O)<|Zm O<|Zp (gP O) ?_;(iterate 7 refine Zp (gP O) ?_);exact Ze (Xc O O O)<|Zn fun a k=>⟨k.sub ⟨O,O,O,X1 O (by simp[d,c]),trivial⟩,t⟩
  refine Zv (gW c) (Vd O X1z 0) ?_;refine Zv (gW c) (X0 O X8 (e.at 0)) ?_;refine Zv (gW c) (Vd O X1z 0) ?_;refine Zv (gW c) (X0 O X8 (g.at 0)) ?_;refine Zv (gW c) (X28 O O)<|Ze (Xi O c O)<|Zm O<|Zg 22 O ?_ ?_<;>intro b
  ·(iterate 8 refine Zp (gP b) ?_);exact Ze (Xc O b O)<|Zn fun a k=>⟨k.sub ⟨O,O,O,X1 O (by simp[d,c,b]),trivial⟩,t⟩
  refine Zv (gW b) (Vd O X18 1) ?_;refine Zv (gW b) (X0 O X2o (e.at 1)) ?_;refine Zv (gW b) (X0w O X0u) ?_;refine Zv (gW b) (Vd O X18 1) ?_;refine Zv (gW b) (X0 O X2o (g.at 1)) ?_;refine Zv (gW b) (X0w O X0u) ?_;refine Zv (gW b) (Xr O O Z Z) ?_;refine Zv (gW b) (X52 O O)<|Ze (Xi O b O)<|Zn fun a k=>?_;exact ⟨k.sub ⟨O,O,O,X1 O (by simp[d,c,b]),trivial⟩,t⟩
 intro a w6 ⟨k,j⟩;have ⟨e,g,i,f⟩:=mv4 j e g i f;refine aO _ _<|Xx k O ?_ ?_<;>intro h
 ·have B:conO p q=none:=by unfold conO;have h7:=h;rw[Q3];revert h7;cases cOk p<;>cases cOk q<;>simp<;>omega
  refine ZS k fun a7=>Ze (X0k (ps:=[]) (cs:=[vi 0,.slice none 0 0]) O (fun _=>by first|rfl|kernel_rfl))<|Zo (Vw [vi 0,.slice none 0 0] X1u i) ?_;intro _ w7 ⟨I,hb⟩;have f:=Below.oy f I H;have i:=hb;refine Za O<|Zt a7 fun a k=>Q6<|X9<|X6 k (X1q k O (ResV.cellN (l:=[vi 0,.slice none 0 0]) O X0t (i.at 0) O) O) ?_;rw[B];exact ⟨none,0,O,(Own.nil _ _ _ _ _),f⟩
 have B:conO p q=some ⟨p.n,p.gs++q.gs⟩:=by unfold conO;have h7:=h;rw[Q4];revert h7;cases cOk p<;>cases cOk q<;>simp<;>omega
 refine Q7<|aN _ _<|ZS k fun a8=>Ze (Vn X0t e)<|Zf (Vc (Xz9 _ p Ap cp (E.bx f).top Z) Xkh) ?_;rintro _ w8 ⟨aP,aQ,rfl,o,j⟩;have o:=o.lower f.size;have ⟨e,g,i,f⟩:=mv4 j e g i f;refine ZB [vi p.n,.slice aP p.gs.length aQ] X3v X1u fun b19 aW aA j m=>?_;have aB:b4≠b19:=by have:=e.lt;omega
 have aC:b5≠b19:=by have:=g.lt;omega
 have aD:b7≠b19:=by have:=i.lt;omega
 have a6:=Q0 f.size aA;have ⟨g,i,o,f⟩:=mv4 j g i o f;refine Zx a8 fun a k _ aE=>Ze (Vd O X18 1)<|Ze (X0 O X2o (m.at 1))<|Ze (Vd O X18 1)<|Ze (X0 O X2o (g.at 1))<|Zf (X0r (enc:=encG) (l:=(p.gs)) (l2:=(q.gs)) (B0:=y.heap.size) O O X0u X0s X0q X1d o (G.bx f) (by simp only[maxLen];omega) Z f.size) ?_;rintro _ aX ⟨C,D,rfl,u,hg,aR⟩;have x:Own _ y.heap.size 45 3 encG _ _ (p.gs):=o;clear aR;have i:=i.appT x hg O;have m:=m.appT x hg O;have f:=Below.app f x hg (Qb _) f.size;clear x hg;refine Ze (Vd O X18 1)<|Zo (Vu (vs:=[.slice C (p.gs++q.gs).length D]) (l':=[vi p.n,.slice C (p.gs++q.gs).length D]) O O X6n m) ?_;intro _ aY ⟨I,hb⟩;have i:=i.oy I Z;have u:=u.oT I m O;have f:=Below.oy f I a6;have m:=hb;refine Zx aE fun a k _ aF=>Ze (Vn X0t m)<|Zo (Vw [vi p.n,.slice C (p.gs++q.gs).length D] X1u i) ?_;intro _ aZ ⟨I,hb⟩;have u:=u.oT I i O;have f:=Below.oy f I H;have i:=hb;refine Za O<|Zt aF fun a k=>Q6 (X6 k (X1q k O (ResV.cellN (l:=[vi p.n,.slice C (p.gs++q.gs).length D]) O X0t (i.at 0) O) O) ?_);rw[B];exact ⟨C,D,O,u,f⟩
def Cg(x y:Int) : Prop:=∃ q:Int,x=y+8*q
def Cg.refl(x:Int):Cg x x:=⟨0,by omega⟩
def Cg.of{x y:Int}(h:x=y):Cg x y:=⟨0,by omega⟩
def Cg.symm{x y:Int}(h:Cg x y):Cg y x:=by have ⟨q,h⟩:=h;exact ⟨-q,by omega⟩
def Cg.trans{x y z:Int}(h:Cg x y)(k:Cg y z):Cg x z:=by have ⟨q,h⟩:=h;have ⟨r,k⟩:=k;exact ⟨q+r,by omega⟩
def Cg.add{x y z w:Int}(h:Cg x y)(k:Cg z w):Cg (x+z) (y+w):=by have ⟨q,h⟩:=h;have ⟨r,k⟩:=k;exact ⟨q+r,by omega⟩
def Cg.mod(x:Int):Cg (x % 8) x:=⟨-(x/8),by omega⟩
def Cg.mul{x y:Int}(k:Int)(h:Cg x y):Cg (k*x) (k*y):=by
 have ⟨q,h⟩:=h;exact ⟨k*q,by rw[h,Int.mul_add,Int.mul_left_comm]⟩
def omZ(k:Int) : Rg:=om^(k % 8).toNat
def X40{x y:Int}(h:Cg x y):omZ x=omZ y:=by grind [Cg,omZ]
def X2g(x y:Int):omZ (x+y)=omZ x*omZ y:=by
 unfold omZ;rw[<- X1y,Xdx ((x % 8).toNat+(y % 8).toNat)];congr 1;omega
def X41:omZ 0=1:=rfl
def subI(a:Nat->Bool)(m:Int) : Int:=if (List.range 62).all (fun i=>!m.toNat.testBit i||a i) then 1 else 0
def sub_zero(a:Nat->Bool):subI a 0=1:=by simp[subI]
def T2:Nat->Nat
 | 0=>0
 | c+1=>T2 c+c
def Wl(l:List Int) : Prop:=∀ x ∈ l,∃ n:Nat,n<2^62/\x=(n:Int)
def Wl.at{l:List Int}(h:Wl l)(n:Nat):∃ k:Nat,k<2^62/\l.getD n 0=(k:Int):=by
 rw[Qa];cases e:l[n]? with
 | none=>exact ⟨0,by decide,rfl⟩
 | some x=>exact h x (Qe e)
section
variable {a : Nat -> Bool} {l : List Int} (hl : Wl l) {k : Int}
include hl
end
def upB(a:Nat->Bool)(i:Nat)(b:Bool) : Nat->Bool:=fun j=>if j=i then b else a j
def tact(g:Gt)(w:St) : St:=if g.k=3 then (fun β=>om^4*act g w β) else act g w
def trun:List Gt->St->St
 | [],w=>w
 | g::l,w=>tact g (trun l w)
def Xb3(β:Nat->Bool)(q:Nat):flipB β q=upB β q (!β q):=by grind [flipB,upB]
def X4l(β:Nat->Bool)(q:Nat){b:Bool}(h:β q=b):upB β q b=β:=by grind [upB]
def Xz0(b:Bool):u1 2 b b=0/\u1 2 b (!b)=1:=by cases b<;>decide
def Xz1(b:Bool):u1 3 b b=0/\u1 3 b (!b)=if b then om^2 else om^6:=by cases b<;>decide
def Yc8{k:Int}(h:4<=k/\k<=8)(b:Bool):u1 k b b=omZ (rotC k*if b then 1 else 0)/\u1 k b (!b)=0:=by
 have:k=4∨k=5∨k=6∨k=7∨k=8:=by omega
 rcases this with rfl|rfl|rfl|rfl|rfl<;>cases b<;>decide
def Xn0(β:Nat->Bool)(q:Nat)(b c:Bool):upB (upB β q b) q c=upB β q c:=by
 funext p;unfold upB;split<;>rfl
def Xto{g:Gt}(h1:g.k=1)(w:St)(β:Nat->Bool):tact g w β=u1 1 (β g.a.toNat) (β g.a.toNat)*w β+u1 1 (β g.a.toNat) (!β g.a.toNat)*w (flipB β g.a.toNat):=by
 unfold tact act;rw[Q3 (show ¬ g.k=3 by omega)];show (if g.k=12 then _ else _)=_;rw[Q3 (show ¬ g.k=12 by omega),Q3 (show ¬ g.k=9 by omega),Q3 (show ¬ g.k=10 by omega),Q3 (show ¬ g.k=11 by omega),h1]
def Agr(N:Nat)(β γ:Nat->Bool) : Prop:=∀ q,q<N->β q=γ q
def Agr.symm{N:Nat}{β γ:Nat->Bool}(h:Agr N β γ):Agr N γ β:=fun q hq=>(h q hq).symm
def ebA(N:Nat)(γ:Nat->Bool) : St:=fun β=>if (∀ q,q<N->β q=γ q) then 1 else 0
def Xas{N:Nat}{β γ:Nat->Bool}(h:Agr N β γ):ebA N γ β=1:=Q4 h
def X8p{N:Nat}{β γ:Nat->Bool}(h:¬ Agr N β γ):ebA N γ β=0:=Q3 h
def Xem{N:Nat}{β γ β' γ':Nat->Bool}(h:Agr N β γ↔Agr N β' γ'):ebA N γ β=ebA N γ' β':=by grind [Agr,ebA]
def Xfh{N:Nat}{F:(Nat->Bool)->Nat->Bool}(h1:∀ β,F (F β)=β)(h2:∀ β γ,Agr N β γ->Agr N (F β) (F γ))(β γ:Nat->Bool):Agr N (F β) γ↔Agr N (F γ) β:=by grind [Agr]
def X99(β:Nat->Bool)(q:Nat):flipB β q q = !β q:=by unfold flipB;rw[Q4 rfl]
def Xni(β:Nat->Bool)(p q:Nat):flipB (flipB β p) q=flipB (flipB β q) p:=by
 funext r;unfold flipB;split<;>split<;>rfl
def X98{N q:Nat}{β γ:Nat->Bool}(h:Agr N β γ):Agr N (flipB β q) (flipB γ q):=fun p hp=>by
 unfold flipB;rw[h p hp]
def Xz3{k:Int}(h:1<=k/\k<=8)(b:Bool):u1 k b (!b)=(if k=3 then om^4 else 1)*u1 k (!b) b:=by
 have:k=1∨k=2∨k=3∨k=4∨k=5∨k=6∨k=7∨k=8:=by omega
 rcases this with rfl|rfl|rfl|rfl|rfl|rfl|rfl|rfl<;>cases b<;>decide
def Xz2{k:Int}(h:1<=k/\k<=8)(b:Bool):u1 k b b=(if k=3 then om^4 else 1)*u1 k b b:=by
 have:k=1∨k=2∨k=3∨k=4∨k=5∨k=6∨k=7∨k=8:=by omega
 rcases this with rfl|rfl|rfl|rfl|rfl|rfl|rfl|rfl<;>cases b<;>decide
def Xcs(g:Gt)(w:St)(β:Nat->Bool):tact g w β=(if g.k=3 then om^4 else 1)*act g w β:=by
 unfold tact;split
 ·rfl
 ·rw[Xb]
def Xor{N:Nat}{g:Gt}(hg:gOk (N:Int) g=true)(β γ:Nat->Bool):act g (ebA N γ) β=tact g (ebA N β) γ:=by
 have ⟨hn,hk,ha,hb⟩:=X22 hg;have hA:=X6x hg;rw[Xcs];have hsym:ebA N γ β=ebA N β γ:=Xem ⟨Agr.symm,Agr.symm⟩;by_cases h12:g.k=12
 ·rw[Q3 (show ¬ g.k=3 by omega),Xb];unfold act;rw[Q4 h12,Q4 h12,hsym]
 ·by_cases h9:g.k=9
  ·have hB:=X6y hg;have hne:=Xik hg Z;rw[Q3 (show ¬ g.k=3 by omega),Xb];unfold act;rw[Q3 h12,Q4 h9,Q3 h12,Q4 h9];refine Xem (Xfh (F:=fun β=>if β g.a.toNat then flipB β g.b.toNat else β) (fun β=>?_) (fun β γ h=>?_) β γ)
   ·cases e:β g.a.toNat
    ·simp[e]
    ·simp[e,X7w β hne,X3u]
   ·show Agr N (if β g.a.toNat then _ else _) (if γ g.a.toNat then _ else _);rw[h _ hA.2];cases γ g.a.toNat
    ·exact h
    ·exact X98 h
  ·by_cases h10:g.k=10
   ·have hB:=X6y hg;rw[Q3 (show ¬ g.k=3 by omega),Xb];unfold act;rw[Q3 h12,Q3 h9,Q4 h10,Q3 h12,Q3 h9,Q4 h10,<- hsym];by_cases e:Agr N β γ
    ·rw[e _ hA.2,e _ hB.2]
    ·rw[X8p e,Xt,Xt]
   ·by_cases h11:g.k=11
    ·have hB:=X6y hg;have hne:=Xik hg Z;rw[Q3 (show ¬ g.k=3 by omega),Xb];unfold act;rw[Q3 h12,Q3 h9,Q3 h10,Q4 h11,Q3 h12,Q3 h9,Q3 h10,Q4 h11];refine Xem (Xfh (F:=fun β=>if β g.a.toNat=β g.b.toNat then β else flipB (flipB β g.a.toNat) g.b.toNat) (fun β=>?_) (fun β γ h=>?_) β γ)
     ·by_cases e:β g.a.toNat=β g.b.toNat
      ·simp[e]
      ·have e2:¬ flipB (flipB β g.a.toNat) g.b.toNat g.a.toNat=flipB (flipB β g.a.toNat) g.b.toNat g.b.toNat:=by
        rw[X7w _ hne,X99,X99,X7w _ (fun h=>hne h.symm)];revert e;cases β g.a.toNat<;>cases β g.b.toNat<;>simp
       simp only[Q3 e,Q3 e2];rw[Xni (flipB (flipB β g.a.toNat) g.b.toNat),X3u,X3u]
     ·show Agr N (if β g.a.toNat=β g.b.toNat then _ else _) (if γ g.a.toNat=γ g.b.toNat then _ else _);rw[h _ hA.2,h _ hB.2];split
      ·exact h
      ·exact X98 (X98 h)
    ·have hk8:1<=g.k/\g.k<=8:=by omega
     unfold act;rw[Q3 h12,Q3 h9,Q3 h10,Q3 h11,Q3 h12,Q3 h9,Q3 h10,Q3 h11];by_cases e:Agr N β γ
     ·have e2:¬ Agr N (flipB β g.a.toNat) γ:=fun h=>by
       have h1:=h _ hA.2;rw[X99,e _ hA.2] at h1;cases h':γ g.a.toNat<;>rw[h'] at h1<;>cases h1
      have e3:¬ Agr N (flipB γ g.a.toNat) β:=fun h=>by
       have h1:=h _ hA.2;rw[X99,e _ hA.2] at h1;cases h':γ g.a.toNat<;>rw[h'] at h1<;>cases h1
      rw[Xas e,Xas e.symm,X8p e2,X8p e3,Xt,Xt,X01,X01,X08,X08,e _ hA.2];exact Xz2 hk8 _
     ·have e':¬ Agr N γ β:=fun h=>e h.symm;rw[X8p e,X8p e',Xt,Xt,X09,X09];have hF:=Xfh (N:=N) (F:=fun β=>flipB β g.a.toNat) (fun β=>X3u β _) (fun β γ h=>X98 h) β γ;by_cases e2:Agr N (flipB β g.a.toNat) γ
      ·rw[Xas e2,Xas (hF.1 e2),X08,X08];have h1:=e2 _ hA.2;rw[X99] at h1;rw[<- h1,Bool.not_not];exact Xz3 hk8 _
      ·rw[X8p e2,X8p (fun h=>e2 (hF.2 h)),Xt,Xt,Xt]
def Y9r(N j:Nat):eb N j=ebA N (pt N j):=rfl
def Xhp(f g:Nat->Rg):∀ n,sumN (fun k=>f k+g k) n=sumN f n+sumN g n
 | 0=>(X01 0).symm
 | n+1=>by
  rw[sumN,sumN,sumN,Xhp f g n];simp only[Xz,Xl,X0c]
def Xhq(f:Nat->Nat->Rg)(m:Nat):∀ n,sumN (fun i=>sumN (f i) m) n=sumN (fun k=>sumN (fun i=>f i k) n) m
 | 0=>(Xcr m fun _ _=>rfl).symm
 | n+1=>by
  show sumN (fun i=>sumN (f i) m) n+sumN (f n) m=sumN (fun k=>sumN (fun i=>f i k) n+f n k) m;rw[Xhq f m n,Xhp]
def Xuf{N:Nat}{g:Gt}(hg:gOk (N:Int) g=true){i k:Nat}(hi:i<2^N)(hk:k<2^N):zc N g i k=act g (eb N k) (pt N i):=by
 have hN:N<=5:=by have:=(X22 hg).1;omega
 rw[<- X8z hg hi,X4v (t:=k) _ hk fun j hj hne=>by rw[Xae hN hj hk,Q3 hne,Xt],Xae hN hk hk,Q4 rfl,X08]
def Xot{N:Nat}{g:Gt}(hg:gOk (N:Int) g=true)(w v:St):sumN (fun i=>w (pt N i)*act g v (pt N i)) (2^N)=sumN (fun i=>tact g w (pt N i)*v (pt N i)) (2^N):=by
 rw[X49 _ fun i hi=>by rw[<- X8z hg hi,X4j],Xhq];refine X49 _ fun k hk=>?_;rw[Xcs,<- X8z hg hk,Xs,X4j,X4j];refine X49 _ fun i hi=>?_;have h1:zc N g i k=(if g.k=3 then om^4 else 1)*zc N g k i:=by
  rw[Xuf hg hi hk,Xuf hg hk hi,Y9r,Y9r,Xor hg,Xcs]
 rw[h1];simp only[X3,X4,Xs]
def Xjz{N:Nat}(w:St):∀ (l:List Gt) (v:St),(∀ g ∈ l,gOk (N:Int) g=true)->sumN (fun i=>w (pt N i)*run l v (pt N i)) (2^N)=sumN (fun i=>trun l w (pt N i)*v (pt N i)) (2^N)
 | [],v,_=>rfl
 | g::l,v,h=>by
  show sumN (fun i=>w (pt N i)*run l (act g v) (pt N i)) (2^N)=_;rw[Xjz w l (act g v) fun g' hg'=>h g' (by simp[hg']),Xot (h g O4)];rfl
def Xsq{N:Nat}(hN:N<=5){l:List Gt}(h:∀ g ∈ l,gOk (N:Int) g=true){i j:Nat}(hi:i<2^N)(hj:j<2^N):run l (eb N j) (pt N i)=trun l (eb N i) (pt N j):=by
 have:=Xjz (eb N i) l (eb N j) h;rw[X4v (t:=i) _ hi fun k hk hne=>by rw[Xae hN hk hi,Q3 hne,Xo],X4v (t:=j) _ hj fun k hk hne=>by rw[Xae hN hk hj,Q3 hne,Xt]] at this;rw[Xae hN hi hi,Xae hN hj hj,Q4 O,Q4 O,Xb,X08] at this;exact this
def lift(v:Nat)(a:Nat->Bool)(b:Bool) : Nat->Bool:=fun i=>if i<v then a i else if i=v then b else a (i-1)
def Xyd(b:Int)(hb:b=0∨b=1):1+omZ (2+4*b)=s2*omZ (1+6*b)/\1+omZ (6+4*b)=s2*omZ (7+2*b):=by
 rcases hb with rfl|rfl<;>decide
section
variable {p : Ps} {y : Nat} (h : VPs p) (hy : p.ins.toNat <= y /\ y < p.ins.toNat + p.vars.toNat) (ho : outB y p.out = false)
include h hy ho
end
def Xj8(z:Rg):s2^2*z=(1+1)*z:=by
 rw[show s2^2=(1+1:Rg) from by decide]
def Xyx{n:Nat}{g:Gt}(hg:gOk (n:Int) g=true):TwoQ g:=fun h=>Xik hg h
def Y98(g:Gt)(h:1<=g.k/\g.k<=12):bkG (bkG g)=g:=by
 have ⟨k,a,b⟩:=g;have h:1<=k/\k<=12:=h;show (⟨_,a,b⟩ : Gt)=_;congr 1;have:k=1∨k=2∨k=3∨k=4∨k=5∨k=6∨k=7∨k=8∨k=9∨k=10∨k=11∨k=12:=by omega
 rcases this with rfl|rfl|rfl|rfl|rfl|rfl|rfl|rfl|rfl|rfl|rfl|rfl<;>rfl
def Y6k:(2:Rg)=s2^2:=by decide
def Xdq(g:Gt)(gs:List Gt):invL (g::gs)=invL gs++invG g:=by simp[invG,invL]
def Xop{n:Nat}{g:Gt}(hg:gOk (n:Int) g=true)(v:St):act g (run (invG g) v)=fun β=>s2^(2*hN g)*v β:=by
 have ⟨_,hk,_,_⟩:=X22 hg;funext β;unfold invG bkN;by_cases h12:g.k=12
 ·have hb:bkG g=⟨12,g.a,g.b⟩:=by unfold bkG;rw[h12];rfl
  have h1:hN g=0:=by unfold hN;rw[Q3 Z]
  rw[h1,hb,Q4 h12];have a12:∀ w:St,act ⟨12,g.a,g.b⟩ w=fun β=>om*w β:=fun w=>by funext γ;unfold act;rw[Q4 rfl]
  have a12':∀ w:St,act g w=fun β=>om*w β:=fun w=>by funext γ;unfold act;rw[Q4 h12]
  show act g (run (List.replicate 7 _) v) β=_;simp only[List.replicate,run,a12,a12',<- X3];congr 1
 ·rw[Q3 h12];show act g (act (bkG g) v) β=_;have h2:=Xut (g:=bkG g) (Xyx (Xi7 hg)) (by
   have:=Xi7 hg;obtain ⟨_,hk',_,_⟩:=X22 this;refine ⟨hk'.1,?_⟩;rcases W4 0 1 with _|_
   ·rw[Xk5];unfold bkK;split<;>(try split)<;>omega
   ·omega) v β
  rw[Y98 g hk] at h2;rw[h2];unfold hN;have hk1:(bkG g).k=1↔g.k=1:=by
   rw[Xk5];unfold bkK;split<;>(try split)<;>omega
  by_cases h1:g.k=1
  ·rw[Q4 (hk1.2 h1),Q4 h1,Y6k]
  ·rw[Q3 (fun h=>h1 (hk1.1 h)),Q3 h1];rfl
def Xma{n:Nat}:∀ (gs:List Gt) (v:St),(∀ g ∈ gs,gOk (n:Int) g=true)->run gs (run (invL gs) v)=fun β=>s2^(2*hs gs)*v β
 | [],v,_=>by
  funext β;show v β=_;exact (Xb _).symm
 | g::gs,v,h=>by
  rw[Xdq,Xfu];show run gs (act g (run (invG g) (run (invL gs) v)))=_;rw[Xop (h g O4),X63,Xma gs v fun x hx=>h x (by simp[hx])];funext β;rw[<- X3,<- X1y];congr 2;show 2*hN g+2*hs gs=2*(hN g+hs gs);omega
def Xqu{n:Nat}:∀ gs:List Gt,(∀ g ∈ gs,gOk (n:Int) g=true)->hs (invL gs)=hs gs
 | [],_=>rfl
 | g::gs,h=>by
  rw[Xdq,Xio,Xqu gs fun x hx=>h x (by simp[hx])];have h1:hs (invG g)=hN g:=by
   have ⟨_,hk,_,_⟩:=X22 (h g O4);unfold invG bkN;by_cases h12:g.k=12
   ·rw[Q4 h12];have hb:bkG g=⟨12,g.a,g.b⟩:=by unfold bkG;rw[h12];rfl
    have h1:hN g=0:=by unfold hN;rw[Q3 Z]
    rw[h1,hb];rfl
   ·rw[Q3 h12];show hN (bkG g)+0=hN g;unfold hN;have hk1:(bkG g).k=1↔g.k=1:=by
     rw[Xk5];unfold bkK;split<;>(try split)<;>omega
    by_cases h1:g.k=1
    ·rw[Q4 (hk1.2 h1),Q4 h1]
    ·rw[Q3 (fun h=>h1 (hk1.1 h)),Q3 h1]
  rw[h1];show hs gs+hN g=hN g+hs gs;omega
section
end
section
end
section
end
end Go.Proofs.YthbobfjhofgfdaaGreat
namespace Go.Proofs.YthbobfjhofgfdaaGreat
section
end
end Go.Proofs.YthbobfjhofgfdaaGreat
namespace Go.Proofs.YthbobfjhofgfdaaGreat
open Go
end Go.Proofs.YthbobfjhofgfdaaGreat
namespace Go.Proofs.YthbobfjhofgfdaaGreat
open Go.RowKit Go.Proofs.Tryz
section
end
section
end
section
end
end Go.Proofs.YthbobfjhofgfdaaGreat
namespace Go.Proofs.YthbobfjhofgfdaaGreat
def cmI(x y:Int) : Int:=if x<y then -1 else if y<x then 1 else 0
def idxF{α:Type}(l:List α)(q:α->Bool) : Int:=match l.findIdx? q with
 | some k=>(k:Int)
 | none=>-1
def Xc9{α:Type}{q:α->Bool}:∀ {l:List α} {k:Nat} {u:α},((l.take k).all fun x=>!q x)=true->l[k]? = some u->q u=true->idxF l q=(k:Int):=by
 intro l k u h1 h2 h3;have ⟨h4,h5⟩:=Qg.1 h2;have:l.findIdx? q=some k:=by
  rw[List.findIdx?_eq_some_iff_getElem];refine ⟨h4,by rw[h5];exact h3,fun j hj=>?_⟩;have:=W1.1 h1 l[j] (by rw[List.mem_iff_getElem];exact ⟨j,by simp;omega,by simp⟩);simpa using this
 unfold idxF;rw[this]
end Go.Proofs.YthbobfjhofgfdaaGreat
namespace Go.Proofs.YthbobfjhofgfdaaGreat
open Go.RowKit Go.Proofs.Tryz
def Y7d(w0:World)(x:Int):RE 166 [vi x] w0 (fun v w=>v=.bool false/\w0=w):=by
 refine enter func166 O 6 O O ?_;intro a hf;have hW:=bz w0;refine ZS hf fun a6=>Za O<|Zx a6 fun a hf _ a7=>Zm O<|Zm O<|Ze (X28 O O)<|Za O<|Zt a7 fun a hf=>Q6 (X6 hf (Xq hf O O) ?_);exact ⟨by simp,rfl⟩
def Xjn(w0:World)(x:Int)(y:Int):RE 130 [vi x,vi y] w0 (fun v w=>v=vi (cmI x y)/\w0=w):=by
 refine enter func130 O 20 O O ?_;intro a b;have hW:=bz w0;refine ZS b fun aF=>Za O<|Zx aF fun a b _ aG=>Zm O<|Zf (Vc (Y7d _ x) Xq3) ?_;rintro _ _ ⟨rfl,rfl⟩;refine Za O<|Zx aG fun a b _ aH=>Zm O<|Zf (Vc (Y7d _ y) Xq3) ?_;rintro _ _ ⟨rfl,rfl⟩;refine Za O<|ZX aH fun a b _ aI=>ZS b fun aJ=>Zm O<|Zt aJ fun a b=>Xk7 b O<|Q7<|aI _ _<|Q5 fun _ aK=>ZS b fun aL=>Zm O<|Zt aL fun a b=>Xk7 b O<|Q7<|aK _ _<|Q5 fun _ aM=>ZS b fun aN=>Zm O<|Zm O<|Ze (X16 O O)<|Zt aN fun a b=>X0y b O (fun a6 d=>?_) (fun a6 d=>?_)
 ·have c:cmI x y = -1:=by rw[cmI,Q4 d]
  exact ZS b fun a8=>Za O<|Zt a8 fun a b=>Q6<|X9<|X6 b (Xq b O O)<|⟨by rw[c],rfl⟩
 have aA:=d;refine Q7<|aM _ _<|Q5 fun _ aB=>ZS b fun aC=>Zm O<|Zm O<|Ze (X52 O O)<|Zt aC fun a b=>X0y b O (fun a7 e=>?_) (fun a7 e=>?_)
 ·have c:cmI x y=1:=by rw[cmI,Q3 aA,Q4 e]
  exact ZS b fun aD=>Za O<|Zt aD fun a b=>Q6<|X9<|X6 b (Xq b O O)<|⟨by rw[c],rfl⟩
 have c:cmI x y=0:=by rw[cmI,Q3 aA,Q3 e]
 refine Q7<|aB _ _<|ZS b fun aE=>Za O<|Zt aE fun a b=>Q6 (X6 b (Xq b O O) ?_);exact ⟨by rw[c],rfl⟩
def Y6z(d:World){a6 a7:TypeId}(Ap:Option Addr)(cp:Nat)(p:List Int)(aB:Rw d a6 encU Ap p)(Aq:Option Addr)(cq:Nat)(q:List Int)(aC:Rw d a7 encU Aq q):RE 4 [.slice Ap p.length cp,.slice Aq q.length cq] d (fun v w=>v=.bool (decide (1048576<(p.length:Int))||decide (wr (1048576-(p.length:Int))<(q.length:Int)))/\Bl d w):=by
 refine enter func4 O 16 O O ?_;intro a c
 have hW:=bz d
 refine ZS c fun a8=>Za O<|ZX a8 fun a c _ aA=>X0i (fun a w=>Fr a 16 [(4,.bool ((decide (1048576<(p.length:Int)))||(decide ((wr (1048576-(p.length:Int)))<(q.length:Int)))))]/\d=w) ?_ ?_
 ·refine Zr c<|Zm O<|Ze (X0w O X6i)<|Ze (X52 O O)<|Zm O<|Zg 8 O ?_ ?_<;>intro b
  ·(iterate 6 refine Zp (gP b) ?_);exact Ze (Xc O b O)<|Za O<|Zn fun a c=>⟨c.sub ⟨X1 O (by simp[b]),trivial⟩,O⟩
  refine Zv (gW b) (X5 O) ?_;refine Zv (gW b) (X0w O X6i) ?_;refine Zv (gW b) (X5 O) ?_;refine Zv (gW b) (X0w O X6i) ?_;refine Zv (gW b) (X6r O O) ?_;refine Zv (gW b) (X52 O O) ?_;refine Ze (Xi O b O)<|Za O ?_;exact Zn fun a c=>⟨c.sub ⟨X1 O (by first|rfl|(simp only[b,bs];done)|simp[b]),trivial⟩,O⟩
 rintro a _ ⟨c,rfl⟩;refine aA _ _<|Q6 (X6 c (Xq c O O) ?_)
 exact ⟨O,hW⟩
def gapp{α:Type}{w0 w w':World}{R:Option Nat}{E:TypeId}{sz c:Nat}{enc:α->List Value}{A:Option Addr}{l:List α}(h:w0.grownBy w R)(ho:Own w w0.heap.size E sz enc A c l)(hg:w.grownBy w' (Value.slice A l.length c).ownBlock):w0.grownBy w' R:=
 ⟨hg.os.trans h.os,hg.tape.trans h.tape,hg.output.trans h.output,Q0 h.size hg.size,fun k hk h1=>(hg.block k (Nat.lt_of_lt_of_le hk h.size) (fun e=>by have:=(ho.block e.symm).1;omega)).trans (h.block k hk h1)⟩
structure Nd where
 k:Int
 p:Int deriving DecidableEq
structure Wr where
 a:Int
 b:Int
 h:Bool deriving DecidableEq
structure Dg where
 n:Int
 ns:List Nd
 ws:List Wr
 t:Int
 r:Int deriving DecidableEq
def nZ:Nd:=⟨0,0⟩
def wZ:Wr:=⟨0,0,false⟩
def encNd(x:Nd) : List Value:=[.int .i64 x.k,.int .i64 x.p]
def encWr(x:Wr) : List Value:=[.int .i64 x.a,.int .i64 x.b,.bool x.h]
def X03:∀ x,(encNd x).length=2:=fun _=>rfl
def X3s:∀ x,(encNd x).all one=true:=fun _=>rfl
def X0d:∀ x,(encWr x).length=3:=fun _=>rfl
def X2l:∀ x,(encWr x).all one=true:=fun _=>rfl
def wlt(x y:Wr) : Bool:=decide (x.a<y.a)||(x.a==y.a&&decide (x.b<y.b))
abbrev WSd(l:List Wr) : Prop:=l.Pairwise fun x y=>wlt x y=true
def X6j{x y:Wr}:wlt x y=true↔x.a<y.a∨(x.a=y.a/\x.b<y.b):=by unfold wlt;simp
def X5p{x y:Wr}:wlt x y=false↔y.a<x.a∨(x.a=y.a/\y.b<=x.b):=by grind [wlt]
def Xjl{x y z:Wr}(h1:wlt x y=true)(h2:wlt y z=true):wlt x z=true:=by rw[X6j] at *;omega
def isW(a b:Int)(w:Wr) : Bool:=w.a==min a b&&w.b==max a b
def X2t{a b:Int}{w:Wr}:isW a b w=true↔w.a=min a b/\w.b=max a b:=by simp[isW]
def fdW(l:List Wr)(a b:Int) : Int:=idxF l (isW a b)
def Xr0(a b:Int)(w:Wr):isW a b w=isW b a w:=by unfold isW;rw[Int.min_comm,Int.max_comm]
def Xkf(l:List Wr)(a b:Int):fdW l a b=fdW l b a:=by
 unfold fdW;rw[show isW a b=isW b a from funext (Xr0 a b)]
def X6d{α:Type}(l:List α)(q:α->Bool):(idxF l q = -1/\∀ x ∈ l,q x=false)∨∃ k:Nat,∃ x,idxF l q=(k:Int)/\l[k]? = some x/\q x=true:=by
 unfold idxF;cases h:l.findIdx? q with
 | none=>exact .inl ⟨rfl,fun x hx=>by have:=List.findIdx?_eq_none_iff.1 h x hx;simpa using this⟩
 | some k=>
  have ⟨h1,h2,_⟩:=List.findIdx?_eq_some_iff_getElem.1 h;exact .inr ⟨k,l[k],O,Qc h1,h2⟩
def X54(l:List Wr)(a b:Int):(fdW l a b = -1/\∀ w ∈ l,isW a b w=false)∨∃ k:Nat,∃ w,fdW l a b=(k:Int)/\l[k]? = some w/\isW a b w=true:=X6d l (isW a b)
def Y0n{l:List Wr}{a b:Int}(h:∀ w ∈ l,isW a b w=false):fdW l a b = -1:=by
 rcases X54 l a b with h1|⟨k,w,_,h2,h3⟩
 ·exact h1.1
 ·rw[h w (Qe h2)] at h3;cases h3
def Xpw{l:List Wr}{a b:Int}(h:fdW l a b<0):∀ w ∈ l,isW a b w=false:=by
 rcases X54 l a b with h1|⟨k,w,h1,_⟩
 ·exact h1.2
 ·omega
def insW:List Wr->Wr->List Wr
 | [],x=>[x]
 | y::l,x=>if wlt y x=true then y::insW l x else x::y::l
def jnW(l:List Wr)(a b:Int)(h:Bool) : List Wr:=insW l ⟨min a b,max a b,h⟩
def ctW(l:List Wr)(i:Nat) : List Wr:=l.take i++l.drop (i+1)
def tyW(l:List Wr)(a b:Int) : Int:=if fdW l a b<0 then 0 else if (l.getD (fdW l a b).toNat wZ).h=true then 2 else 1
def Xbg(l:List Wr)(a b:Int):tyW l a b=tyW l b a:=by unfold tyW;rw[Xkf]
def Xll:∀ (l:List Wr) (x:Wr),(insW l x).length=l.length+1
 | [],x=>rfl
 | y::l,x=>by
  unfold insW;split
  ·rw[Qs,Xll l x];rfl
  ·rfl
def Xfg{z:Wr}:∀ {l:List Wr} {x:Wr},z ∈ insW l x↔z=x∨z ∈ l
 | [],x=>by simp[insW]
 | y::l,x=>by
  unfold insW;split
  ·rw[Qv,Xfg (l:=l),Qv];constructor
   ·rintro (h|h|h)
    ·exact .inr (.inl h)
    ·exact .inl h
    ·exact .inr (.inr h)
   ·rintro (h|h|h)
    ·exact .inr (.inl h)
    ·exact .inl h
    ·exact .inr (.inr h)
  ·rw[Qv,Qv]
def Xqz:∀ (l:List Wr) (x:Wr) (k:Nat),((l.take k).all fun y=>wlt y x)=true->(∀ y,l[k]? = some y->wlt y x=false)->insW l x=l.take k++[x]++l.drop k
 | [],x,k,_,_=>by simp[insW]
 | y::l,x,0,_,h=>by
  have h:=h y O;unfold insW;rw[Q3 (by rw[h];decide)];rfl
 | y::l,x,k+1,ha,h=>by
  simp only[List.take_succ_cons,List.all_cons,Qd] at ha;have ih:=Xqz l x k ha.2 (fun z hz=>h z (by simpa using hz));unfold insW;rw[Q4 ha.1,ih];simp
def Xip:∀ {l:List Wr} {x:Wr},WSd l->(∀ y ∈ l,¬ (y.a=x.a/\y.b=x.b))->WSd (insW l x)
 | [],x,_,_=>by simp[insW]
 | y::l,x,hl,hx=>by
  have hl':=W8.1 hl;unfold insW;split
  ·rename_i hy;refine W8.2 ⟨fun z hz=>?_,Xip hl'.2 fun z hz=>hx z (by simp[hz])⟩;rcases Xfg.1 hz with rfl|hz
   ·exact hy
   ·exact hl'.1 z hz
  ·rename_i hy;have hxy:wlt x y=true:=by
    rw[Bool.not_eq_true] at hy;have h1:=X5p.1 hy;have h2:=hx y O4;rw[X6j];omega
   refine W8.2 ⟨fun z hz=>?_,hl⟩;rcases Qv.1 hz with rfl|hz
   ·exact hxy
   ·exact Xjl hxy (hl'.1 z hz)
def Xdr{l:List Wr}{a b:Int}{h:Bool}(hl:WSd l)(hf:fdW l a b<0):WSd (jnW l a b h):=
 Xip hl fun y hy h9=>by
  have:=Xpw hf y hy;rw[X2t.2 h9] at this;cases this
def X6z{z:Wr}{l:List Wr}{a b:Int}{h:Bool}:z ∈ jnW l a b h↔z=⟨min a b,max a b,h⟩∨z ∈ l:=Xfg
def X4o(l:List Wr)(i:Nat):(ctW l i).Sublist l:=by
 unfold ctW;rw[<- List.eraseIdx_eq_take_drop_succ];exact List.eraseIdx_sublist l i
def Xgg{l:List Wr}(hl:WSd l)(i:Nat):WSd (ctW l i):=hl.sublist (X4o l i)
def Y2n{l:List Wr}{i:Nat}(h:i<l.length):(ctW l i).length+1=l.length:=by grind [ctW]
def Xud{l:List Wr}(hl:WSd l){i j:Nat}{x y:Wr}(hi:l[i]? = some x)(hj:l[j]? = some y)(ha:x.a=y.a)(hb:x.b=y.b):i=j:=by
 obtain ⟨h1,rfl⟩:=Qg.1 hi;obtain ⟨h2,rfl⟩:=Qg.1 hj;have hp:=W0.1 hl;rcases Nat.lt_trichotomy i j with h|h|h
 ·have:=hp i j h1 h2 h;rw[X6j] at this;omega
 ·exact h
 ·have:=hp j i h2 h1 h;rw[X6j] at this;omega
def Xka{l:List Wr}(hl:WSd l){a b:Int}{i:Nat}{w:Wr}(hi:l[i]? = some w)(hw:isW a b w=true):fdW (ctW l i) a b = -1:=by
 refine Y0n fun z hz=>?_;cases hq:isW a b z with
 | false=>rfl
 | true=>
  exfalso;have e1:=X2t.1 hw;have e2:=X2t.1 hq;unfold ctW at hz;rcases Qu.1 hz with h|h
  ·have ⟨j,hj⟩:=List.mem_iff_getElem?.1 h;rw[List.getElem?_take] at hj;split at hj
   ·have:=Xud hl hi hj Z Z;omega
   ·cases hj
  ·have ⟨j,hj⟩:=List.mem_iff_getElem?.1 h;rw[List.getElem?_drop] at hj;have:=Xud hl hi hj Z Z;omega
def spI(ns:List Nd)(k:Int) : Bool:=inR k 0 ((ns.length:Int)-1)&&(ns.getD k.toNat nZ).k==3
def adN(ns:List Nd)(k by_:Int) : List Nd:=ns.set k.toNat ⟨(ns.getD k.toNat nZ).k,((ns.getD k.toNat nZ).p+by_) % 8⟩
def dpN(ns:List Nd)(k:Int) : List Nd:=ns.set k.toNat nZ
def dpW(ws:List Wr)(k:Int) : List Wr:=ws.filter fun w=>w.a != k&&w.b != k
def X2v(ns:List Nd)(k m:Int):(adN ns k m).length=ns.length:=List.length_set
def X2e(ns:List Nd)(k:Int):(dpN ns k).length=ns.length:=List.length_set
def otW(k:Int)(w:Wr) : Option Int:=if k=w.a then some w.b else if k=w.b then some w.a else none
def nearW(ws:List Wr)(k:Int) : List Int:=ws.filterMap (otW k)
abbrev Zb4:List Int:=[1,2,3,4,5]
abbrev Zc1(d:Dg)(p:Int) : Dg:={ d with ns:=dpN d.ns p,ws:=dpW d.ws p }
abbrev Zc2(d:Dg)(p q:Int) : List Wr:=jnW (ctW d.ws (fdW d.ws p q).toNat) p q false
abbrev Zc3(d:Dg)(p q:Int) : Dg:=⟨d.n,d.ns,Zc2 d p q,d.t,d.r⟩
abbrev Zc4(d:Dg)(A:Option Addr)(m c:Nat)(B:Option Addr)(e:Nat) : List Value:=[vi d.n,.slice A m c,.slice B d.ws.length e,vi d.t,vi d.r]
abbrev Zc5:List Value:=[vi 0,.slice none 0 0,.slice none 0 0,vi 0,vi 0]
structure InW (ws:List Wr) : Prop where
 s:WSd ws
 l:∀ w ∈ ws,w.a<w.b
def X5g{k v:Int}{w:Wr}(h:otW k w=some v):(k=w.a/\v=w.b)∨(k=w.b/\v=w.a):=by grind [otW]
def Xy7{ws:List Wr}(h:InW ws){k x v:Int}{i j:Nat}{w' w:Wr}(hi:ws[i]? = some w')(hj:ws[j]? = some w)(hij:i<j)(h1:otW k w'=some x)(h2:otW k w=some v):x<v:=by
 obtain ⟨e1,e1'⟩:=Qg.1 hi;obtain ⟨e2,e2'⟩:=Qg.1 hj;have hp:=W0.1 h.s i j e1 e2 hij;have l1:=h.l w' (Qe hi);have l2:=h.l w (Qe hj);rw[e1',e2',X6j] at hp;rcases X5g h1 with ⟨a1,a2⟩|⟨a1,a2⟩<;>rcases X5g h2 with ⟨b1,b2⟩|⟨b1,b2⟩<;>omega
def X3z{k:Int}:∀ {ws:List Wr},InW ws->Inc (nearW ws k)
 | [],_=>List.Pairwise.nil
 | w::ws,h=>by
  have h':InW ws:=⟨(W8.1 h.s).2,fun x hx=>h.l x (by simp[hx])⟩;have ih:=X3z (k:=k) h';unfold nearW at *;rw[List.filterMap_cons];cases hw:otW k w with
  | none=>exact ih
  | some v=>
   refine W8.2 ⟨fun x hx=>?_,ih⟩;obtain ⟨w',hw',he⟩:=List.mem_filterMap.1 hx;have ⟨j,hj⟩:=List.mem_iff_getElem?.1 hw';exact Xy7 h (i:=0) (j:=j+1) O (by simpa using hj) Z hw he
def Xlx:∀ {l:List Int} {v:Int},(∀ x ∈ l,x<v)->putI l v=l++[v]
 | [],v,_=>rfl
 | x::l,v,h=>by
  unfold putI;rw[Q4 (h x O4),Xlx fun y hy=>h y (by simp[hy])];rfl
def Xa1{ws:List Wr}{k:Int}{j:Nat}{w:Wr}(hj:ws[j]? = some w):nearW (ws.take (j+1)) k=nearW (ws.take j) k++(otW k w).toList:=by
 unfold nearW;rw[Qt,hj,Option.toList_some,List.filterMap_append];cases h:otW k w<;>simp[h]
def Xdv{ws:List Wr}{k:Int}{j:Nat}{w:Wr}(hj:ws[j]? = some w)(h1:(k==w.a)=false)(h2:(k==w.b)=false):nearW (ws.take (j+1)) k=nearW (ws.take j) k:=by
 have e1:¬ k=w.a:=by simpa using h1
 have e2:¬ k=w.b:=by simpa using h2
 rw[Xa1 hj];unfold otW;rw[Q3 e1,Q3 e2];simp
def Xh5{ws:List Wr}{k:Int}{j:Nat}{w:Wr}(hj:ws[j]? = some w)(h1:(k==w.a)=true):nearW (ws.take (j+1)) k=nearW (ws.take j) k++[w.b]:=by
 have e1:k=w.a:=by simpa using h1
 rw[Xa1 hj];unfold otW;rw[Q4 e1];rfl
def Xh7{ws:List Wr}{k:Int}{j:Nat}{w:Wr}(hj:ws[j]? = some w)(h1:(k==w.a)=false)(h2:(k==w.b)=true):nearW (ws.take (j+1)) k=nearW (ws.take j) k++[w.a]:=by
 have e1:¬ k=w.a:=by simpa using h1
 have e2:k=w.b:=by simpa using h2
 rw[Xa1 hj];unfold otW;rw[Q3 e1,Q4 e2];rfl
def Xh6{ws:List Wr}(h:InW ws){k v:Int}{j:Nat}(hj:nearW (ws.take (j+1)) k=nearW (ws.take j) k++[v]):putI (nearW (ws.take j) k) v=nearW (ws.take j) k++[v]:=by
 have hi:=X3z (k:=k) (ws:=ws.take (j+1)) ⟨h.s.sublist (List.take_sublist _ _),fun w hw=>h.l w (Wd hw)⟩;rw[hj] at hi;exact Xlx fun x hx=>(List.pairwise_append.1 hi).2.2 x hx v O4
def X3e(ws:List Wr)(k:Int):(nearW ws k).length<=ws.length:=List.length_filterMap_le _ _
def X5z{ws:List Wr}{k v:Int}:v ∈ nearW ws k↔∃ w ∈ ws,otW k w=some v:=List.mem_filterMap
def X91{α:Type}{l:List α}{q:α->Bool}{k:Nat}{u:α}(h:((l.take k).all fun x=>!q x)=true)(hu:l[k]? = some u)(hq:q u=false):((l.take (k+1)).all fun x=>!q x)=true:=by
 rw[Qt,hu,Option.toList_some,List.all_append,h];simp[hq]
def Xca{α:Type}{l:List α}{q:α->Bool}{k:Nat}(h:((l.take k).all fun x=>!q x)=true)(hk:l.length<=k):idxF l q = -1:=by
 rw[Qi hk] at h;rcases X6d l q with h1|⟨j,x,_,h2,h3⟩
 ·exact h1.1
 ·have:=W1.1 h x (Qe h2);rw[h3] at this;cases this
def X5x{l:List Wr}{a b:Int}(h:0<=fdW l a b):∃ w,l[(fdW l a b).toNat]? = some w/\isW a b w=true/\(fdW l a b).toNat<l.length:=by
 rcases X54 l a b with ⟨h1,_⟩|⟨k,w,h1,h2,h3⟩
 ·omega
 ·rw[h1];exact ⟨w,h2,h3,(Qg.1 h2).1⟩
def Xaf(l:List Wr)(a b:Int):fdW l a b<l.length:=by
 rcases X54 l a b with ⟨h1,_⟩|⟨k,w,h1,h2,_⟩
 ·omega
 ·have:=(Qg.1 h2).1;omega
def X6f(l:List Wr)(a b:Int)(h:Bool):(jnW l a b h).length=l.length+1:=Xll _ _
def Xg{α:Type}{l:List α}{k:Nat}{d:α}(h:k<l.length):l[k]? = some (l.getD k d):=by grind
def Xxn{α:Type}{l:List α}{k:Nat}{d:α}(h:decide ((k:Int)<(l.length:Int))=true):l[k]? = some (l.getD k d):=Xg (by simpa using h)
def Xxv{l:List Wr}{x:Wr}{k:Nat}(ha:((l.take k).all fun y=>wlt y x)=true)(h:(decide ((k:Int)<(l.length:Int))&&wlt (l.getD k wZ) x)=false):insW l x=l.take k++[x]++l.drop k:=by
 refine Xqz l x k ha fun y hy=>?_;have h1:=(Qg.1 hy).1;have e:l.getD k wZ=y:=by rw[Qa,hy];rfl
 rw[e,decide_eq_true Z,Qw] at h;exact h
def Xux{l:List Wr}{x:Wr}{k:Nat}(ha:((l.take k).all fun y=>wlt y x)=true)(h:(decide ((k:Int)<(l.length:Int))&&wlt (l.getD k wZ) x)=true):((l.take (k+1)).all fun y=>wlt y x)=true/\k+1<=l.length:=by
 rw[Qd,Qr] at h;have hk:k<l.length:=by omega
 refine ⟨?_,by omega⟩;rw[Qt,Xg (d:=wZ) hk,Option.toList_some,List.all_append,ha,List.all_cons,h.2];rfl
def lkD(d:Dg)(a b:Int)(h:Bool) : Dg:=
 if fdW d.ws a b<0 then { d with ws:=jnW d.ws a b h }
 else if ((d.ws.getD (fdW d.ws a b).toNat wZ).h&&h)=true then { d with ws:=ctW d.ws (fdW d.ws a b).toNat,r:=wr (d.r-2) }
 else if ((d.ws.getD (fdW d.ws a b).toNat wZ).h != h)=true then { d with ns:=adN d.ns (min a b) 4,ws:=jnW (ctW d.ws (fdW d.ws a b).toNat) a b false,r:=wr (d.r-1) }
 else d
def tgD(d:Dg)(a b:Int) : Dg:=
 if 0<=fdW d.ws a b then { d with ws:=ctW d.ws (fdW d.ws a b).toNat,r:=wr (d.r-1) } else { d with ws:=jnW d.ws a b true,r:=wr (d.r+1) }
def mtD(d:Dg)(a b:Int)(h:Bool) : Dg:=if (spI d.ns a&&spI d.ns b)=true then lkD d a b h else { d with ws:=jnW d.ws a b h }
def Yc3{d:Dg}{a b:Int}(h:0<=fdW d.ws a b):tgD d a b = { d with ws:=ctW d.ws (fdW d.ws a b).toNat,r:=wr (d.r-1) }:=Q4 h
def Yc2{d:Dg}{a b:Int}(h:¬ 0<=fdW d.ws a b):tgD d a b = { d with ws:=jnW d.ws a b true,r:=wr (d.r+1) }:=Q3 h
def Yai{d:Dg}{a b:Int}{h:Bool}(h1:fdW d.ws a b<0):lkD d a b h = { d with ws:=jnW d.ws a b h }:=Q4 h1
def Yaj{d:Dg}{a b:Int}{h:Bool}(h1:¬ fdW d.ws a b<0)(h2:((d.ws.getD (fdW d.ws a b).toNat wZ).h&&h)=true):lkD d a b h = { d with ws:=ctW d.ws (fdW d.ws a b).toNat,r:=wr (d.r-2) }:=by
 unfold lkD;rw[Q3 h1,Q4 h2]
def Y5f{d:Dg}{a b:Int}{h:Bool}(h1:¬ fdW d.ws a b<0)(h2:((d.ws.getD (fdW d.ws a b).toNat wZ).h&&h)=false)(h3:((d.ws.getD (fdW d.ws a b).toNat wZ).h != h)=true):lkD d a b h = { d with ns:=adN d.ns (min a b) 4,ws:=jnW (ctW d.ws (fdW d.ws a b).toNat) a b false,r:=wr (d.r-1) }:=by
 unfold lkD;rw[Q3 h1,Q3 (by rw[h2];decide),Q4 h3]
def Ye4{d:Dg}{a b:Int}{h:Bool}(h1:¬ fdW d.ws a b<0)(h2:((d.ws.getD (fdW d.ws a b).toNat wZ).h&&h)=false)(h3:((d.ws.getD (fdW d.ws a b).toNat wZ).h != h)=false):lkD d a b h=d:=by grind [fdW,lkD,wZ]
def Yao{d:Dg}{a b:Int}{h:Bool}(h1:(spI d.ns a&&spI d.ns b)=true):mtD d a b h=lkD d a b h:=Q4 h1
def Yam{d:Dg}{a b:Int}{h:Bool}(h1:(spI d.ns a&&spI d.ns b)=false):mtD d a b h = { d with ws:=jnW d.ws a b h }:=Q3 (by rw[h1];decide)
def X4p{α:Type}{l:List α}{q:α->Bool}{j:Nat}{u:α}(hu:l[j]? = some u):(l.take (j+1)).filter q=(l.take j).filter q++(if q u=true then [u] else []):=by
 rw[Qt,hu,Option.toList_some,List.filter_append];cases h:q u<;>simp[h]
def Xi1{α:Type}{l:List α}{q:α->Bool}{k:Nat}{u:α}(h:(l.take k).all q=true)(hu:l[k]? = some u)(hq:q u=true):(l.take (k+1)).all q=true:=by
 rw[Qt,hu,Option.toList_some,List.all_append,h];simp[hq]
def Xi0{α:Type}{l:List α}{q:α->Bool}{k:Nat}{u:α}(hu:l[k]? = some u)(hq:q u=false):l.all q=false:=by grind
def Xei{α:Type}{l:List α}{q:α->Bool}{k:Nat}(h:(l.take k).all q=true)(hk:l.length<=k):l.all q=true:=by rwa [Qi hk] at h
def rdQ(d:Dg)(l:List Int)(i:Nat) : Bool:=spI d.ns (l.getD i 0)&&(l.take i).all fun y=>tyW d.ws (l.getD i 0) y != 1
def rdyD(d:Dg)(l:List Int) : Bool:=(List.range l.length).all (rdQ d l)
def othW(ws:List Wr)(k c:Int) : List Int:=(nearW ws k).filter fun v=>v != c
def hadD(d:Dg)(k:Int) : Bool:=(nearW d.ws k).all fun v=>tyW d.ws k v==2
def Xft{q:Nat->Bool}{n k:Nat}(hk:k<n)(hq:q k=false):(List.range n).all q=false:=by grind
def X9m{q:Nat->Bool}{n:Nat}(h:∀ j,j<n->q j=true):(List.range n).all q=true:=W1.2 fun j hj=>h j (W2.1 hj)
def Xr1{N:Nat}{w w':World}{A:Option Addr}{n c:Nat}(hg:w.grownBy w' (Value.slice A n c).ownBlock)(hb:∀ k,ownB A=some k->N<=k):Keep (some (.base N)) w w':=
 ⟨hg.os,hg.tape,hg.output,hg.size,fun k hk=>hg.block k Z fun e=>by rw[X6h] at e;have:=hb k e.symm;omega⟩
def Xdc{N:Nat}{w w':World}{A:Option Addr}{n c:Nat}(hg:w.grownBy w' (Value.slice A n c).ownBlock)(hb:∀ k,ownB A=some k->N<=k)(hN:N<=w.heap.size):Below N w w':=
 ⟨hg.os,hg.tape,hg.output,hg.size,fun k hk=>hg.block k Z fun e=>by rw[X6h] at e;have:=hb k e.symm;omega⟩
def PhN(ns:List Nd) : Prop:=∀ x ∈ ns,0<=x.p/\x.p<=7
def X2j{ns:List Nd}(h:PhN ns)(k:Nat):0<=(ns.getD k nZ).p/\(ns.getD k nZ).p<=7:=by grind [PhN,nZ]
def Y5x{ns:List Nd}(h:PhN ns)(k:Nat){x:Nd}(hx:0<=x.p/\x.p<=7):PhN (ns.set k x):=by grind [PhN]
def X8j{ns:List Nd}(h:PhN ns)(k m:Int):PhN (adN ns k m):=by grind [PhN,adN]
def X6k{ns:List Nd}(h:PhN ns)(k:Int):PhN (dpN ns k):=Y5x h _ ⟨by decide,by decide⟩
def Xri{n:Nat}{p q:Int}(h:(0<=p/\p.toNat<n)/\(0<=q/\q.toNat<n)):0<=min p q/\(min p q).toNat<n:=by omega
def Yea{ns:List Nd}(h:PhN ns)(k:Nat){m:Int}(h0:0<=m)(h1:m<=900):0<=(ns.getD k nZ).p+m/\(ns.getD k nZ).p+m<=1000:=by have:=X2j h k;omega
def tm8{x:Int}(h:0<=x):x.tmod 8=x % 8:=Int.tmod_eq_emod_of_nonneg h
def Yeg{x:Int}(h:0<=x+8):(x+8).tmod 8=x % 8:=by rw[Int.tmod_eq_emod_of_nonneg h];omega
def X0z{ns:List Nd}{k:Int}(h:spI ns k=true):0<=k/\k.toNat<ns.length/\(ns.getD k.toNat nZ).k=3:=by
 unfold spI at h;rw[Qd] at h;have h1:=X11.1 h.1;exact ⟨h1.1,by omega,by simpa using h.2⟩
def Xe7{ns:List Nd}(a m k:Int):spI (adN ns a m) k=spI ns k:=by grind [adN,spI]
theorem Xzp(w0:World)(x:Wr)(y:Wr):RE 88 [.agg #[vi x.a,vi x.b,.bool x.h],.agg #[vi y.a,vi y.b,.bool y.h]] w0 (fun v w=>v=.bool (wlt x y)/\Bl w0 w):=by
 refine enter func88 O 24 O O ?_;intro a f;have hW:=bz w0;refine ZS f fun a8=>Zf (X0n (zs:=[vi x.a,vi x.b,.bool x.h]) O O) ?_;rintro _ w1 ⟨b2,rfl,aA,hE,e⟩;have aD:=Q0 hW.size aA;have hW:=btr hW hE;refine Zf (X0n (zs:=[vi y.a,vi y.b,.bool y.h]) O O) ?_;rintro _ w2 ⟨b3,rfl,aB,hE,a6⟩;have a7:b2≠b3:=by have:=e.lt;omega
 have aE:=Q0 hW.size aB;have e:=e.bw hE;have hW:=btr hW hE;refine Za O<|ZX a8 fun a f _ aC=>X0i (fun a w=>Fr a 24 [(4,.bool ((decide (x.a<y.a))||((x.a==y.a)&&(decide (x.b<y.b)))))]/\w2=w) ?_ ?_
 ·refine Zr f<|Ze (Vd O X1l 0)<|Ze (X0 O X8 (e.at 0))<|Ze (Vd O X1l 0)<|Ze (X0 O X8 (a6.at 0))<|Ze (X16 O O)<|Zm O<|Zg 10 O ?_ ?_<;>intro c
  ·(iterate 6 refine Zp (gP c) ?_);(iterate 5 refine Zp (gP tv0) ?_);exact Zp (gP c)<|Ze (Xc O c O)<|Za O<|Zn fun a f=>⟨f.sub ⟨X1 O (by simp[c]),trivial⟩,O⟩
  refine Zv (gW c) (Vd O X1l 0) ?_;refine Zv (gW c) (X0 O X8 (e.at 0)) ?_;refine Zv (gW c) (Vd O X1l 0) ?_;refine Zv (gW c) (X0 O X8 (a6.at 0)) ?_;refine Zv (gW c) (X0l O O) ?_;refine Zv (gW c) (X5 O)<|Zg 16 O ?_ ?_<;>intro d
  ·refine Zv (gW d) (Vd O X1p 1) ?_;refine Zv (gW d) (X0 O X8 (e.at 1)) ?_;refine Zv (gW d) (Vd O X1p 1) ?_;refine Zv (gW d) (X0 O X8 (a6.at 1)) ?_;refine Zv (gW d) (X16 O O) ?_;refine Zv (gW c) (Xc O d O)<|Ze (Xi O c O)<|Za O<|Zn fun a f=>?_;exact ⟨f.sub ⟨X1 O (by simp[c,d]),trivial⟩,O⟩
  (iterate 5 refine Zp (gP d) ?_);refine Zv (gW c) (Xi O d O)<|Ze (Xi O c O)<|Za O<|Zn fun a f=>?_;exact ⟨f.sub ⟨X1 O (by simp[c,d]),trivial⟩,O⟩
 rintro a _ ⟨f,rfl⟩;refine aC _ _<|Q6 (X6 f (Xq f O O) ?_);exact ⟨O,hW⟩
theorem Xjr(y:World)(Al:Option Addr)(cl:Nat)(l:List Wr)(aB:Rw y 99 encWr Al l)(p:Int)(q:Int)(aP:l.length<=1000000000):RE 142 [.slice Al l.length cl,vi p,vi q] y (fun v w=>v=vi (fdW l p q)/\Bl y w):=by
 refine enter func142 O 32 O O ?_;intro a d;have f:=bz y;refine ZS d fun aI=>Za O<|ZX aI fun a d _ aJ=>ZS d fun aK=>Zm O<|Ze (X0w O X0a)<|Zm O<|Zt aK fun a d=>Q8<|X04 (σ:=Nat) (fun (k:Nat) (a:Act) (w:World)=>Fr a 32 [(1,vi p),(2,vi q),(9,.slice Al l.length cl),(10,vi (l.length:Int)),(11,vi (k:Int))]/\(k<=l.length)/\(((l.take k).all fun x=>!isW p q x)=true)/\Bl y w) (fun (k:Nat)=>l.length-k) 0 ?_ ?_
 ·exact ⟨d.sb,(Qf _),O4,f⟩
 intro k a w1 ⟨d,hk,m,f⟩;refine ZS d fun aL=>Ze (X16 O O)<|ZX aL fun a d _ aM=>X0y d O (fun g a6=>?_) (fun g a6=>?_)
 ·have ⟨u8,aQ⟩:=Xa (l:=l) (k:=k) Z;have ⟨n,a7⟩:=Xa (l:=l) (k:=k) (by have:=a6;omega);refine Q7<|aM _ _<|Q5 fun _ aN=>Q8<|ZS d fun aC=>Zm O<|Zi (k:=k) (u:=n) (enc:=encWr) (l:=l) tv0 O O X0a X14 X0d (aB.bx f) a7 O ?_;intro aR a8;refine Ze (X07 (l:=[vi n.a,vi n.b,.bool n.h]) O X23 a8 O)<|Zf (X0b (zs:=[vi 0,vi 0,.bool false]) X4a O) ?_;rintro _ w2 ⟨aS,rfl,aD,i,e⟩;have aA:=Q0 f.size aD;have f:=btr f i;refine Za O<|Zo (Vw [vi n.a,vi n.b,.bool n.h] X14 e) ?_;intro _ w3 ⟨ho,hb⟩;have f:=Below.oy f ho aA;have e:=hb;refine ZX aC fun a d _ aE=>X0i (fun a w=>Fr a 32 [(1,vi p),(2,vi q),(7,vi (k:Int)),(9,.slice Al l.length cl),(10,vi (l.length:Int)),(11,vi (k:Int)),(29,.bool ((n.a==(min p q))&&(n.b==(max p q))))]/\Bl w3 w) ?_ ?_
  ·have j:Bl w3 w3:=Below.refl _ _;refine Xy none (fun _=>false) mixed ?_;intro w4 i;have ⟨e,f,j⟩:=mv3 i e f j;refine Yb d<|Yo 0 O (fun _=>Vd O X1l 0)<|Ye 1 O (X0 O X8 (e.at 0))<|YA 2 O O<|YA 3 O O<|Y1 4<|Yk O tv0 (Vc (Xob _ p q) Xev) (fun _ _ ⟨_,i⟩=>i) ?_;rintro _ w5 ⟨rfl,i⟩;have ⟨e,f,j⟩:=mv3 i e f j;refine Yo 5 O (fun _=>X0l O O)<|YA 6 O O<|Yl 22 O ?_ ?_<;>intro c
   ·refine Yu 7 O (gW c) (fun _=>Vd O X1p 1) ?_;refine Yv 8 O (gW c) (X0 O X8 (e.at 1)) ?_;refine Yu 9 O (gW c) (fun _=>X5 O) ?_;refine Yu 10 O (gW c) (fun _=>X5 O) ?_;refine Y1 11<|Yz O ⟨_,_,O,O,c⟩ (Vc (Y6y _ p q) Xq0) ?_;refine Yu 12 O (gW c) (fun _=>X0l O O)<|Yo 13 O (fun _=>Xc O c O)<|Yd fun a d=>?_;exact ⟨d.sub ⟨O,O,O,O,O,O,X1 O (by simp[g,c]),trivial⟩,j⟩
   refine Yp 7 O (gP c) ?_;refine Yp 8 O (gP c) ?_;refine Yp 9 O (gP c) ?_;refine Yp 10 O (gP c) ?_;refine Y1 11<|Yq O ⟨_,_,O,O,c⟩ ?_;exact Yp 12 O (gP c)<|Yo 13 O (fun _=>Xi O c O)<|Yd fun a d=>⟨d.sub ⟨O,O,O,O,O,O,X1 O (by simp[g,c]),trivial⟩,j⟩
  intro a w6 ⟨d,i⟩;have f:=btr f i;refine aE _ _<|Xx d O ?_ ?_<;>intro o
  ·have aF:isW p q n=true:=o;have t:fdW l p q=(k:Int):=Xc9 m a7 aF;exact ZS d fun aG=>Zm O<|Za O<|Zt aG fun a d=>Q6<|Xu<|X9<|X9<|Xu<|X9<|X6 d (Xq d O O)<|⟨by rw[t],f⟩
  have aO:isW p q n=false:=o;exact Q7<|Xd<|aN _ _<|Zr d<|Ze (Xr O O Z Z)<|Zm O<|Zn fun a d=>Xh<|⟨k+1,⟨d.sb,Z,(X91 m a7 aO),f⟩,Z⟩
 have t:fdW l p q = -1:=Xca m (by have:=a6;omega);refine Q9<|Xk<|Xk<|X06<|aJ _ _<|ZS d fun aH=>Za O<|Zt aH fun a d=>Q6 (X6 d (Xq d O O) ?_);exact ⟨by rw[t],f⟩
theorem Xd3(o:World)(Al:Option Addr)(cl:Nat)(l:List Wr)(C:Rw o 99 encWr Al l)(p:Int)(q:Int)(x:Bool)(aX:l.length<=1000000000)(a8:l.length<=cl):RE 118 [.slice Al l.length cl,vi p,vi q,.bool x] o (fun v w=>∃ A c,v=.slice A (jnW l p q x).length c/\Own w o.heap.size 99 3 encWr A c (jnW l p q x)/\Bl o w):=by
 refine enter func118 O 48 O O ?_;intro a i;have f:=bz o;refine ZS i fun aL=>Za O<|Zx aL fun a i _ aM=>Zm O<|Zm O<|Zf (Vc (Xob _ p q) Xev) ?_;rintro _ w1 ⟨rfl,j⟩;have f:=btr f j;refine Zm O<|Zm O<|Zf (Vc (Y6y _ p q) Xq0) ?_;rintro _ _ ⟨rfl,rfl⟩;refine Zm O<|Ze (X0k (ps:=[(0,vi (min p q)),(1,vi (max p q)),(2,.bool x)]) (cs:=[vi (min p q),vi (max p q),.bool x]) O (fun _=>by first|rfl|kernel_rfl))<|ZB [vi (min p q),vi (max p q),.bool x] X4a X14 fun b5 w3 aN j e=>?_;have aW:=Q0 f.size aN;have f:=btr f j;refine Zx aM fun a i _ aO=>Za O<|ZX aO fun a i _ aP=>Q8<|X04 (σ:=Nat) (fun (k:Nat) (a:Act) (w:World)=>Fr a 48 [(0,.slice Al l.length cl),(9,(pZ9 b5)),(10,vi (k:Int))]/\(k<=l.length)/\(((l.take k).all fun y=>wlt y ⟨min p q,max p q,x⟩)=true)/\Blk w b5 99 [vi (min p q),vi (max p q),.bool x]/\Bl o w) (fun (k:Nat)=>l.length-k) 0 ?_ ?_
 ·exact ⟨i.sb,(Qf _),O,e,f⟩
 intro k a w4 ⟨i,hk,J,e,f⟩;refine Q5 fun _ aQ=>Q5 fun _ aR=>X0i (fun a w=>Fr a 48 [(0,.slice Al l.length cl),(9,(pZ9 b5)),(10,vi (k:Int)),(31,.bool (decide ((k:Int)<(l.length:Int))&&wlt (l.getD k wZ) ⟨min p q,max p q,x⟩))]/\Bl w4 w) ?_ ?_
 ·have t:Bl w4 w4:=Below.refl _ _;refine Xy none (fun _=>false) mixed ?_;intro w5 j;have ⟨e,f,t⟩:=mv3 j e f t;refine Yb i<|YA 0 O O<|YA 1 O O<|Yo 2 O (fun _=>X0w O X0a)<|Yo 3 O (fun _=>X16 O O)<|YA 4 O O<|Yl 24 O ?_ ?_<;>intro d
  ·refine Yu 5 O (gW d) (fun _=>X5 O) ?_;refine Yu 6 O (gW d) (fun _=>X5 O)<|Yi (k:=k) (u:=(l.getD k wZ)) (enc:=encWr) (l:=l) 7 O ⟨_,_,O,O,d⟩ O O X0a X14 X0d (C.bx f) (Xxn (by assumption)) O ?_;intro aY a6;refine Yv 8 O (gW d) (X07 (l:=[vi ((l.getD k wZ).a),vi ((l.getD k wZ).b),.bool ((l.getD k wZ).h)]) O X23 a6 O) ?_;refine Yv 9 O (gW d) (Vn X23 e) ?_;refine Y1 10<|Yk O ⟨_,_,O,O,d⟩ (Vc (Xzp _ (l.getD k wZ) (⟨min p q,max p q,x⟩ : Wr)) Xkx) (fun _ _ ⟨_,j⟩=>j) ?_;rintro _ w6 ⟨rfl,j⟩;have f:=btr f j;have t:=btr t j;exact Yo 11 O (fun _=>Xc O d O)<|Yd fun a i=>⟨i.sub ⟨O,O,O,X1 O (by first|rfl|(simp only[d,bs];done)|simp[d]),trivial⟩,t⟩
  refine Yp 5 O (gP d) ?_;refine Yp 6 O (gP d) ?_;refine Yp 7 O (gP d) ?_;refine Yp 8 O (gP d) ?_;refine Yp 9 O (gP d) ?_;exact Y1 10<|Yq O ⟨_,_,O,O,d⟩<|Yo 11 O (fun _=>Xi O d O)<|Yd fun a i=>⟨i.sub ⟨O,O,O,X1 O (by first|rfl|(simp only[d,bs];done)|simp[d]),trivial⟩,t⟩
 intro a w7 ⟨i,j⟩;have e:=e.bw j;have f:=btr f j;refine aR _ _<|Xx i O ?_ ?_<;>intro D
 ·have ⟨aS,aZ⟩:=Xux J D;exact Q7<|aQ _ _<|Q8<|Zr i<|Zm O<|Ze (Xr O O Z Z)<|Za O<|Zn fun a i=>Xd<|Xh<|⟨k+1,⟨i.sb,Z,aS,e,f⟩,Z⟩
 have aA:jnW l p q x=_:=Xxv J D;refine Q9<|Xk<|Xk<|X06<|aP _ _<|ZS i fun aB=>Zf (Xe (k:=0) (vs:=[]) (zs:=[]) O X0a X1w O O) ?_;rintro _ w8 ⟨b15,rfl,aC,j,L⟩;have aD:b5≠b15:=by have:=e.lt;omega
 have E:=Q0 f.size aC;have e:=e.bw j;have f:=btr f j;refine Zm O<|Zm O ?_;have aE:=((C.bx f).top).takeK X0d k;refine Ze (X3p (l:=l) (k:=k) O O X0a X14 O hk a8)<|Zf (X0r (enc:=encWr) (l:=([] : List Wr)) (l2:=((l.take k))) (B0:=o.heap.size) O O X0a X1w X0d X2l (Own.empty L E) aE (by simp only[maxLen];simp;omega) O6 f.size) ?_;rintro _ w9 ⟨b0,b1,rfl,m,I,n⟩;have g:Own _ o.heap.size 99 3 encWr _ _ ([] : List Wr):=(Own.empty L E);have G:=n _ e.lt (Away.ne Z);clear n;have e:=e.appA I (Away.ne Z);have f:=Below.app f g I (Qb _) f.size;clear g I;simp only[List.nil_append] at m;refine Za O<|Zx aB fun a i _ aF=>Zm O<|Ze (Vn X23 e)<|Zf (Xe (k:=1) (vs:=[.agg #[vi (min p q),vi (max p q),.bool x]]) (zs:=[vi (min p q),vi (max p q),.bool x]) O X0a X1w O O) ?_;rintro _ b2 ⟨b20,rfl,M,j,H⟩;have aG:b5≠b20:=by have:=e.lt;omega
 have aT:=Q0 f.size M;have ⟨e,m,f⟩:=mv3 j e m f;refine Zf (X0r (enc:=encWr) (l:=((l.take k))) (l2:=([(⟨min p q,max p q,x⟩ : Wr)])) (B0:=o.heap.size) O O X0a X1w X0d X2l m (Rd.of_blk H O _ H.lt) (by simp only[maxLen];simp;omega) O6 f.size) ?_;rintro _ b3 ⟨b4,b6,rfl,N,I,n⟩;have g:Own _ o.heap.size 99 3 encWr _ _ ((l.take k)):=m;clear n;have f:=Below.app f g I (Qb _) f.size;clear g I;refine Za O<|Zx aF fun a i _ aI=>Zm O<|Zm O<|Zm O ?_;have aJ:=((C.bx f).top).dropK X0d (c:=cl) a8 k;refine Ze (X6p (l:=l) (k:=k) O O X0a X14 O hk)<|Zf (X0r (enc:=encWr) (l:=((l.take k)++([(⟨min p q,max p q,x⟩ : Wr)]))) (l2:=((l.drop k))) (B0:=o.heap.size) O O X0a X1w X0d X2l N aJ (by simp only[maxLen];simp;omega) O6 f.size) ?_;rintro _ b7 ⟨aU,aV,rfl,aK,I,n⟩;have g:Own _ o.heap.size 99 3 encWr _ _ ((l.take k)++([(⟨min p q,max p q,x⟩ : Wr)])):=N;clear n;have f:=Below.app f g I (Qb _) f.size;clear g I;refine Za O<|Zt aI fun a i=>Q6 (X6 i (Xq i O O) ?_);rw[aA];exact ⟨aU,aV,O,aK,f⟩
def Xjs(e:World)(Al:Option Addr)(cl:Nat)(l:List Wr)(f:Rw e 99 encWr Al l)(p:Int)(aK:l.length<=1000000000)(a8:l.length<=cl)(aL:0<=p/\p<(l.length:Int)):RE 143 [.slice Al l.length cl,vi p] e (fun v w=>∃ A c,v=.slice A (ctW l p.toNat).length c/\Own w e.heap.size 99 3 encWr A c (ctW l p.toNat)/\Bl e w):=by
 refine enter func143 O 17 O O ?_;intro a hf;have d:=bz e;refine ZS hf fun aD=>Za O<|Zx aD fun a hf _ aE=>Zf (Xe (k:=0) (vs:=[]) (zs:=[]) O X0a X1w O O) ?_;rintro _ w1 ⟨b5,rfl,aF,hE,aA⟩;have g:=Q0 d.size aF;have d:=btr d hE;refine Zm O<|Zm O ?_;have aG:=((f.bx d).top).takeK X0d p.toNat;refine Ze (X3p (l:=l) (k:=p.toNat) O O X0a X14 Z Z a8)<|Zf (X0r (enc:=encWr) (l:=([] : List Wr)) (l2:=((l.take p.toNat))) (B0:=e.heap.size) O O X0a X1w X0d X2l (Own.empty aA g) aG (by simp only[maxLen];simp;omega) O6 d.size) ?_;rintro _ w2 ⟨A8,c8,rfl,a6,hg,a7⟩;have b:Own _ e.heap.size 99 3 encWr _ _ ([] : List Wr):=(Own.empty aA g);clear a7;have d:=Below.app d b hg (Qb _) d.size;clear b hg;simp only[List.nil_append] at a6;refine Za O<|Zx aE fun a hf _ aH=>Zm O<|Zm O<|Zm O<|Ze (Xr O O Z Z) ?_;have aB:=((f.bx d).top).dropK X0d (c:=cl) a8 (p.toNat+1);refine Ze (X6p (l:=l) (k:=(p.toNat+1)) O O X0a X14 Z Z)<|Zf (X0r (enc:=encWr) (l:=((l.take p.toNat))) (l2:=((l.drop (p.toNat+1)))) (B0:=e.heap.size) O O X0a X1w X0d X2l a6 aB (by simp only[maxLen];simp;omega) O6 d.size) ?_;rintro _ w3 ⟨aI,aJ,rfl,aC,hg,a7⟩;have b:Own _ e.heap.size 99 3 encWr _ _ ((l.take p.toNat)):=a6;clear a7;have d:=Below.app d b hg (Qb _) d.size;clear b hg;refine Za O<|Zt aH fun a hf=>Q6 (X6 hf (Xq hf O O) ?_);exact ⟨aI,aJ,O,aC,d⟩
def Xd7(x:World)(d:Dg)(md:Nat)(o:md=d.ns.length)(Ad:Option Addr)(cd:Nat)(a6:Nat)(b:Own x a6 85 2 encNd Ad cd d.ns)(aJ:a6<=x.heap.size)(Bd:Option Addr)(dd:Nat)(c:Rw x 99 encWr Bd d.ws)(a7:d.ws.length<=dd)(p:Int)(q:Int)(a8:0<=p/\p.toNat<d.ns.length)(aE:0<=(d.ns.getD p.toNat nZ).p+q/\(d.ns.getD p.toNat nZ).p+q<=1000):RE 149 [.agg #[vi d.n,.slice Ad md cd,.slice Bd d.ws.length dd,vi d.t,vi d.r],vi p,vi q] x (fun v w=>∃ A' c',v=.agg #[vi ({ d with ns:=adN d.ns p q } : Dg).n,.slice Ad md cd,.slice A' ({ d with ns:=adN d.ns p q } : Dg).ws.length c',vi ({ d with ns:=adN d.ns p q } : Dg).t,vi ({ d with ns:=adN d.ns p q } : Dg).r]/\Own w a6 85 2 encNd Ad cd ({ d with ns:=adN d.ns p q } : Dg).ns/\Rw w 99 encWr A' ({ d with ns:=adN d.ns p q } : Dg).ws/\({ d with ns:=adN d.ns p q } : Dg).ws.length<=c'/\md=({ d with ns:=adN d.ns p q } : Dg).ns.length/\x.grownBy w (Value.slice Ad d.ns.length cd).ownBlock):=by
 refine enter func149 O 22 O O ?_;intro a y;have m:x.grownBy x (Value.slice Ad d.ns.length cd).ownBlock:=World.grownBy.refl _ _;refine ZS y fun aF=>Zf (X0n (zs:=(Zc4 d Ad md cd Bd dd)) O O) ?_;rintro _ w1 ⟨b4,rfl,aG,g,e⟩;have aK:=Q0 m.size aG;have b:=b.bw g;have c:=c.bw g;have m:=gbel m g;refine Zf (X0b (zs:=Zc5) X1c O) ?_;rintro _ w2 ⟨b7,rfl,aH,g,f⟩;have aD:b4≠b7:=by have:=e.lt;omega
 have aA:=Q0 m.size aH;have ⟨e,b,c⟩:=mv3 g e b c;have m:=gbel m g;refine ZX aF fun a y _ aI=>Xy none (fun j=>[14].contains j) mixed ?_;intro w3 g;have ⟨e,f,b,c⟩:=mv4 g e f b c;have m:=gbel m g;refine Yb y<|Yo 0 O (fun _=>Vd O Xn 1)<|Ye 1 O (X0 O X0f (e.at 1))<|YA 2 O O<|Yo 3 O (fun _=>Vd O Xn 1)<|Ye 4 O (X0 O X0f (e.at 1))<|YA 5 O O<|Yj (k:=p.toNat) (u:=(d.ns.getD p.toNat nZ)) (enc:=encNd) (l:=d.ns) 6 O tv0 O o O X00 X0o X03 b.rd (Xg a8.2) Z ?_;intro aL aB;refine Yo 7 O (fun _=>X2u O X0m)<|Ye 8 O (X0 O X8 (aB.drop 1))<|YA 9 O O<|Yo 10 O (fun _=>Xr O O Z Z)<|Yo 11 O (fun _=>Vx (X46 O O O) (tm8 aE.1))<|Yo 12 O (fun _=>Xm (k:=p.toNat) O O X00 X0o b o Z Z)<|Yo 13 O (fun _=>X1x O X0m (m':=p.toNat*2+1) O)<|Y1 14<|Yh O tv0 O (X1a (enc:=encNd) (l:=d.ns) (vs:=[vi (((d.ns.getD p.toNat nZ).p+q) % 8)]) (x0:=(d.ns.getD p.toNat nZ)) (u:=(⟨(d.ns.getD p.toNat nZ).k,(((d.ns.getD p.toNat nZ).p+q) % 8)⟩ : Nd)) (k:=p.toNat) (j:=1) (n1:=1) O O X0p b X03 O O O O O5 (Xg a8.2) O) ?_;intro _ w4 ⟨h,hg⟩;have i:=b;have e:=e.appT i hg O;have f:=f.appT i hg O;have c:=c.appT i hg O;have m:=gtr m hg;clear i hg;clear b;have b:=h;clear h;refine Yd fun a y=>aI _ _<|ZS y fun aC=>Ze (Vn X2 e)<|Zo (Vw (Zc4 d Ad md cd Bd dd) Xv f) ?_;intro _ w5 ⟨ho,hb⟩;have c:=c.oT ho f O;have b:=b.oT ho f O;have m:=gonly m ho aA;have f:=hb;refine Zt aC fun a y=>Q6 (X6 y (Xq y O (ResV.cellN (l:=(Zc4 d Ad md cd Bd dd)) O X2 (f.at 0) O)) ?_);exact ⟨Bd,dd,O,b,c.top,a7,o.trans (X2v _ _ _).symm,m⟩
theorem Xd2(o:World)(d:Dg)(md:Nat)(a7:md=d.ns.length)(Ad:Option Addr)(cd:Nat)(a8:Rw o 85 encNd Ad d.ns)(Bd:Option Addr)(dd:Nat)(aA:Rw o 99 encWr Bd d.ws)(aM:d.ws.length<=dd)(aN:d.ns.length<=1000000000/\d.ws.length<=1000000000) : RE 55 [.agg #[vi d.n,.slice Ad md cd,.slice Bd d.ws.length dd,vi d.t,vi d.r]] o (fun v w=>∃ A c B e,v=.agg #[vi d.n,.slice A d.ns.length c,.slice B d.ws.length e,vi d.t,vi d.r]/\Own w o.heap.size 85 2 encNd A c d.ns/\Own w o.heap.size 99 3 encWr B e d.ws/\Bl o w):=by
 subst a7
 refine enter func55 O 14 O O ?_;intro a hf
 have j:=bz o
 refine ZS hf fun aH=>Zf (X0n (zs:=[vi d.n,.slice Ad d.ns.length cd,.slice Bd d.ws.length dd,vi d.t,vi d.r]) O O) ?_;rintro _ w1 ⟨b4,rfl,aI,p,b⟩;have E:=Q0 j.size aI;have j:=btr j p;refine Zf (X0b (zs:=[vi 0,.slice none 0 0,.slice none 0 0,vi 0,vi 0]) X1c O) ?_;rintro _ w2 ⟨b7,rfl,aJ,p,g⟩
 have aG:b4≠b7:=by have:=b.lt;omega
 have aB:=Q0 j.size aJ;have b:=b.bw p;have j:=btr j p;refine Zx aH fun a hf _ aK=>?_;refine Zf (Xe (k:=0) (vs:=[]) (zs:=[]) O X00 X2n O O) ?_;rintro _ w3 ⟨b9,rfl,aL,p,aC⟩;have G:=Q0 j.size aL;have b:=b.bw p;have g:=g.bw p;have j:=btr j p;refine Ze (Vd O Xn 1)<|Ze (X0 O X0f (b.at 1))<|Zf (X0r (enc:=encNd) (l:=([] : List Nd)) (l2:=(d.ns)) (B0:=o.heap.size) O O X00 X2n X03 X3s (Own.empty aC G) (a8.bx j) (by simp only [maxLen];simp;omega) O6 j.size) ?_;rintro _ w4 ⟨q,u,rfl,f,D,a6⟩
 have i:Own _ o.heap.size 85 2 encNd _ _ ([] : List Nd):=(Own.empty aC G)
 clear a6;have b:=b.appT i D O;have g:=g.appT i D O;have j:=Below.app j i D (Qb _) j.size;clear i D
 simp only [List.nil_append] at f
 refine Ze (Vd O Xn 1)<|Zo (Vu (vs:=[.slice q d.ns.length u]) (l':=[vi d.n,.slice q d.ns.length u,.slice Bd d.ws.length dd,vi d.t,vi d.r]) O O X5j b) ?_;rintro _ w5 ⟨x,hb⟩;have g:=g.oy x Z;have f:=f.oT x b O;have j:=Below.oy j x E;have b:=hb;refine Zx aK fun a hf _ aD=>?_;refine Zf (Xe (k:=0) (vs:=[]) (zs:=[]) O X0a X1w O O) ?_;rintro _ w6 ⟨aO,rfl,aE,p,H⟩;have y:=Q0 j.size aE;have b:=b.bw p;have g:=g.bw p;have f:=f.bw p;have j:=btr j p;refine Ze (Vd O X02 2)<|Ze (X0 O X1f (b.at 2))<|Zf (X0r (enc:=encWr) (l:=([] : List Wr)) (l2:=(d.ws)) (B0:=o.heap.size) O O X0a X1w X0d X2l (Own.empty H y) (aA.bx j) (by simp only [maxLen];simp;omega) O6 j.size) ?_;rintro _ w7 ⟨h,C,rfl,m,D,a6⟩
 have i:Own _ o.heap.size 99 3 encWr _ _ ([] : List Wr):=(Own.empty H y)
 clear a6;have b:=b.appT i D O;have g:=g.appT i D O;have f:=f.appT i D O;have j:=Below.app j i D (Qb _) j.size;clear i D
 simp only [List.nil_append] at m
 refine Ze (Vd O X02 2)<|Zo (Vu (vs:=[.slice h d.ws.length C]) (l':=[vi d.n,.slice q d.ns.length u,.slice h d.ws.length C,vi d.t,vi d.r]) O O X2h b) ?_;rintro _ w8 ⟨x,hb⟩;have g:=g.oy x Z;have f:=f.oT x b O;have m:=m.oT x b O;have j:=Below.oy j x E;have b:=hb;refine Zx aD fun a hf _ aF=>Ze (Vn X2 b)<|Zo (Vw [vi d.n,.slice q d.ns.length u,.slice h d.ws.length C,vi d.t,vi d.r] Xv g) ?_;rintro _ w9 ⟨x,hb⟩;have f:=f.oT x g O;have m:=m.oT x g O;have j:=Below.oy j x aB;have g:=hb;refine Zt aF fun a hf=>Q6 (X6 hf (Xq hf O (ResV.cellN (l:=[vi d.n,.slice q d.ns.length u,.slice h d.ws.length C,vi d.t,vi d.r]) O X2 (g.at 0) O)) ?_)
 exact ⟨q,u,h,C,O,f,m,j⟩
theorem X89(e:World)(d:Dg)(md:Nat)(f:md=d.ns.length)(Ad:Option Addr)(cd:Nat)(a6:Rw e 85 encNd Ad d.ns)(Bd:Option Addr)(dd:Nat)(aD:Rw e 99 encWr Bd d.ws)(aE:d.ws.length<=dd)(p:Int)(hN:md<=1000):RE 146 [.agg #[vi d.n,.slice Ad md cd,.slice Bd d.ws.length dd,vi d.t,vi d.r],vi p] e (fun v w=>v=.bool (spI d.ns p)/\Bl e w):=by
 refine enter func146 O 20 O O ?_;intro a c
 have hW:=bz e
 refine ZS c fun aA=>Zf (X0n (zs:=[vi d.n,.slice Ad md cd,.slice Bd d.ws.length dd,vi d.t,vi d.r]) O O) ?_;rintro _ w1 ⟨b4,rfl,aB,hE,a7⟩;have aF:=Q0 hW.size aB;have hW:=btr hW hE;refine Za O<|ZX aA fun a c _ aC=>X0i (fun a w=>Fr a 20 [(4,.bool ((inR p 0 ((md:Int)-1))&&(((d.ns.getD p.toNat nZ).k)==3)))]/\w1=w) ?_ ?_
 ·refine Zr c<|Zm O<|Ze (Vd O Xn 1)<|Ze (X0 O X0f (a7.at 1))<|Ze (X0w O X00)<|Ze (X1j O O Z Z)<|Zf (Vc (F85 _ p 0 ((md:Int)-1)) X4n) ?_;rintro _ _ ⟨rfl,rfl⟩;refine Zm O<|Zg 11 O ?_ ?_<;>intro b
  ·have aG:=X11.1 b;refine Zv (gW b) (Vd O Xn 1) ?_;refine Zv (gW b) (X0 O X0f (a7.at 1)) ?_;refine Zv (gW b) (X5 O) ?_;refine Zj (k:=p.toNat) (u:=(d.ns.getD p.toNat nZ)) (enc:=encNd) (l:=d.ns) ⟨_,_,O,O,b⟩ O f O X00 X0o X03 (a6.bx hW) (Xg Z) Z ?_;intro p8 a8;refine Zv (gW b) (X2u O X1v) ?_;refine Zv (gW b) (X0 O X8 (a8.drop 0)) ?_;refine Zv (gW b) (X0l O O) ?_;refine Ze (Xc O b O)<|Za O ?_;refine Zn fun a c=>?_;exact ⟨c.sub ⟨X1 O (by first|rfl|(simp only[b,bs];done)|simp[b]),trivial⟩,O⟩
  (iterate 7 refine Zp (gP b) ?_);exact Ze (Xi O b O)<|Za O<|Zn fun a c=>⟨c.sub ⟨X1 O (by simp[b]),trivial⟩,O⟩
 rintro a _ ⟨c,rfl⟩;refine aC _ _<|Q6 (X6 c (Xq c O O) ?_)
 exact ⟨by unfold spI;rw[f],hW⟩
def Xbi(g:World)(d:Dg)(md:Nat)(aL:md=d.ns.length)(Ad:Option Addr)(cd:Nat)(aM:Rw g 85 encNd Ad d.ns)(Bd:Option Addr)(dd:Nat)(i:Rw g 99 encWr Bd d.ws)(aN:d.ws.length<=dd)(p:Int)(q:Int)(aE:d.ws.length<=1000000000):RE 147 [.agg #[vi d.n,.slice Ad md cd,.slice Bd d.ws.length dd,vi d.t,vi d.r],vi p,vi q] g (fun v w=>v=vi (tyW d.ws p q)/\Bl g w):=by
 have aO:=Xaf d.ws p q;refine enter func147 O 23 O O ?_;intro a b;have e:=bz g;refine ZS b fun aF=>Zf (X0n (zs:=(Zc4 d Ad md cd Bd dd)) O O) ?_;rintro _ w1 ⟨b4,rfl,aG,hE,f⟩;have aP:=Q0 e.size aG;have e:=btr e hE;refine Za O<|Zx aF fun a b _ aH=>Ze (Vd O X02 2)<|Ze (X0 O X1f (f.at 2))<|Zm O<|Zm O<|Zf (Vc (Xjr _ Bd dd d.ws (i.bx e).top p q aE) Xay) ?_;rintro _ w2 ⟨rfl,hE⟩;have f:=f.bw hE;have e:=btr e hE;refine Za O<|ZX aH fun a b _ aI=>Q8<|ZS b fun aJ=>Zm O<|Ze (X16 O O)<|Za O<|Zt aJ fun a b=>X0y b O (fun a8 a6=>?_) (fun a8 a6=>?_)
 ·have hz:tyW d.ws p q=0:=by unfold tyW;exact Q4 (by simpa using a6)
  exact ZS b fun aK=>Za O<|Zt aK fun a b=>Q6<|Xu<|X9<|X6 b (Xq b O O)<|⟨by rw[hz],e⟩
 have aQ:0<=fdW d.ws p q:=by have h9:=a6;simp at h9;omega
 have aA:tyW d.ws p q=if (d.ws.getD (fdW d.ws p q).toNat wZ).h=true then 2 else 1:=by unfold tyW;exact Q3 Z
 refine ZS b fun aB=>Ze (Vd O X02 2)<|Ze (X0 O X1f (f.at 2))<|Zm O<|Zi (k:=(fdW d.ws p q).toNat) (u:=(d.ws.getD (fdW d.ws p q).toNat wZ)) (enc:=encWr) (l:=d.ws) tv0 O O X0a X14 X0d (i.bx e) (Xg Z) Z ?_;intro aR a7;refine Ze (X2u O X7i)<|Ze (X0 O X7a (a7.drop 2))<|Za O<|Zt aB fun a b=>Xx b O ?_ ?_<;>intro c
 ·have hz:tyW d.ws p q=2:=by rw[aA];exact Q4 c
  exact ZS b fun aC=>Za O<|Zt aC fun a b=>Q6<|Xu<|X9<|X6 b (Xq b O O)<|⟨by rw[hz],e⟩
 have hz:tyW d.ws p q=1:=by rw[aA];exact Q3 (by rw[c];decide)
 refine Q7<|Xd<|aI _ _<|ZS b fun aD=>Za O<|Zt aD fun a b=>Q6 (X6 b (Xq b O O) ?_);exact ⟨by rw[hz],e⟩
def Xzn(D:World)(d:Dg)(md:Nat)(E:md=d.ns.length)(Ad:Option Addr)(cd:Nat)(a6:Nat)(b:Own D a6 85 2 encNd Ad cd d.ns)(aO:a6<=D.heap.size)(Bd:Option Addr)(dd:Nat)(i:Rw D 99 encWr Bd d.ws)(G:d.ws.length<=dd)(p:Int)(q:Int)(aP:d.ws.length<=999999999):RE 158 [.agg #[vi d.n,.slice Ad md cd,.slice Bd d.ws.length dd,vi d.t,vi d.r],vi p,vi q] D (fun v w=>∃ A' c',v=.agg #[vi (tgD d p q).n,.slice Ad md cd,.slice A' (tgD d p q).ws.length c',vi (tgD d p q).t,vi (tgD d p q).r]/\Own w a6 85 2 encNd Ad cd (tgD d p q).ns/\Rw w 99 encWr A' (tgD d p q).ws/\(tgD d p q).ws.length<=c'/\md=(tgD d p q).ns.length/\D.grownBy w (Value.slice Ad d.ns.length cd).ownBlock):=by
 have aA:=Xaf d.ws p q;refine enter func158 O 36 O O ?_;intro a o;have j:D.grownBy D (Value.slice Ad d.ns.length cd).ownBlock:=World.grownBy.refl _ _;refine ZS o fun aJ=>Zf (X0n (zs:=(Zc4 d Ad md cd Bd dd)) O O) ?_;rintro _ w1 ⟨b4,rfl,aK,m,c⟩;have u:=Q0 j.size aK;have b:=b.bw m;have i:=i.bw m;have j:=gbel j m;refine Zf (X0b (zs:=Zc5) X1c O) ?_;rintro _ w2 ⟨b7,rfl,aL,m,e⟩;have aI:b4≠b7:=by have:=c.lt;omega
 have H:=Q0 j.size aL;have ⟨c,b,i⟩:=mv3 m c b i;have j:=gbel j m;refine ZX aJ fun a o _ aM=>ZS o fun aN=>Ze (Vd O X02 2)<|Ze (X0 O X1f (c.at 2))<|Zm O<|Zm O<|Zf (Vc (Xjr _ Bd dd d.ws i.top p q Z) Xay) ?_;rintro _ w3 ⟨rfl,m⟩;have ⟨c,e,b,i⟩:=mv4 m c e b i;have j:=gbel j m;refine Za O<|Zx aN fun a o _ aB=>Zm O<|Ze (X5q O O)<|Zt aB fun a o=>X0y o O (fun a7 B=>?_) (fun a7 B=>?_)
 ·have a8:=Yc3 B;refine ZS o fun aC=>Ze (Vd O X02 2)<|Ze (X0 O X1f (c.at 2))<|Zm O<|Zf (Vc (Xjs _ Bd dd d.ws i.top (fdW d.ws p q) Z G ⟨by omega,aA⟩) Xaz) ?_;rintro _ w4 ⟨x,y,rfl,f,m⟩;have f:=f.lower j.size;have ⟨c,e,b⟩:=mv3 m c e b;have j:=gbel j m;refine Ze (Vd O X02 2)<|Zo (Vu (vs:=[.slice x (ctW d.ws (fdW d.ws p q).toNat).length y]) (l':=[vi d.n,.slice Ad md cd,.slice x (ctW d.ws (fdW d.ws p q).toNat).length y,vi d.t,vi d.r]) O O X2h c) ?_;intro _ w5 ⟨k,C⟩;have e:=e.oy k Z;have b:=b.oT k c O;have f:=f.oT k c O;have j:=gonly j k u;have c:=C;refine Zx aC fun a o _ aD=>Ze (Vd O X0h 4)<|Ze (X0 O X8 (c.at 4))<|Ze (X6r O O)<|Ze (Vd O X0h 4)<|Zo (Vu (vs:=[vi (wr (d.r-1))]) (l':=[vi d.n,.slice Ad md cd,.slice x (ctW d.ws (fdW d.ws p q).toNat).length y,vi d.t,vi (wr (d.r-1))]) O O X0p c) ?_;intro _ w6 ⟨k,C⟩;have e:=e.oy k Z;have b:=b.oT k c O;have f:=f.oT k c O;have j:=gonly j k u;have c:=C;refine Zx aD fun a o _ aE=>Ze (Vn X2 c)<|Zo (Vw [vi d.n,.slice Ad md cd,.slice x (ctW d.ws (fdW d.ws p q).toNat).length y,vi d.t,vi (wr (d.r-1))] Xv e) ?_;intro _ w7 ⟨k,C⟩;have b:=b.oT k e O;have f:=f.oT k e O;have j:=gonly j k H;have e:=C;refine Zt aE fun a o=>Q6<|X9<|X6 o (Xq o O (ResV.cellN (l:=[vi d.n,.slice Ad md cd,.slice x (ctW d.ws (fdW d.ws p q).toNat).length y,vi d.t,vi (wr (d.r-1))]) O X2 (e.at 0) O)) ?_;rw[a8];exact ⟨x,y,O,b,f.rd.top,f.cap,E,j⟩
 have a8:=Yc2 B;refine Q7<|aM _ _<|ZS o fun aF=>Ze (Vd O X02 2)<|Ze (X0 O X1f (c.at 2))<|Zm O<|Zm O<|Zf (Vc (Xd3 _ Bd dd d.ws i.top p q true Z G) X7m) ?_;rintro _ w8 ⟨h,A,rfl,g,m⟩;have g:=g.lower j.size;have ⟨c,e,b⟩:=mv3 m c e b;have j:=gbel j m;refine Ze (Vd O X02 2)<|Zo (Vu (vs:=[.slice h (jnW d.ws p q true).length A]) (l':=[vi d.n,.slice Ad md cd,.slice h (jnW d.ws p q true).length A,vi d.t,vi d.r]) O O X2h c) ?_;intro _ w9 ⟨k,C⟩;have e:=e.oy k Z;have b:=b.oT k c O;have g:=g.oT k c O;have j:=gonly j k u;have c:=C;refine Zx aF fun a o _ aG=>Ze (Vd O X0h 4)<|Ze (X0 O X8 (c.at 4))<|Ze (X3b O O)<|Ze (Vd O X0h 4)<|Zo (Vu (vs:=[vi (wr (d.r+1))]) (l':=[vi d.n,.slice Ad md cd,.slice h (jnW d.ws p q true).length A,vi d.t,vi (wr (d.r+1))]) O O X0p c) ?_;intro _ aQ ⟨k,C⟩;have e:=e.oy k Z;have b:=b.oT k c O;have g:=g.oT k c O;have j:=gonly j k u;have c:=C;refine Zx aG fun a o _ aH=>Ze (Vn X2 c)<|Zo (Vw [vi d.n,.slice Ad md cd,.slice h (jnW d.ws p q true).length A,vi d.t,vi (wr (d.r+1))] Xv e) ?_;intro _ aR ⟨k,C⟩;have b:=b.oT k e O;have g:=g.oT k e O;have j:=gonly j k H;have e:=C;refine Zt aH fun a o=>Q6 (X6 o (Xq o O (ResV.cellN (l:=[vi d.n,.slice Ad md cd,.slice h (jnW d.ws p q true).length A,vi d.t,vi (wr (d.r+1))]) O X2 (e.at 0) O)) ?_);rw[a8];exact ⟨h,A,O,b,g.rd.top,g.cap,E,j⟩
def Y8m(w0:World)(d:Dg)(md:Nat)(B:md=d.ns.length)(Ad:Option Addr)(cd:Nat)(aF:Nat)(b:Own w0 aF 85 2 encNd Ad cd d.ns)(aM:aF<=w0.heap.size)(Bd:Option Addr)(dd:Nat)(o:Rw w0 99 encWr Bd d.ws)(L:d.ws.length<=dd)(p:Int)(q:Int)(x:Bool)(bF:d.ws.length<=999999999)(b2:(0<=p/\p.toNat<d.ns.length)/\(0<=q/\q.toNat<d.ns.length))(hP:PhN d.ns):RE 188 [.agg #[vi d.n,.slice Ad md cd,.slice Bd d.ws.length dd,vi d.t,vi d.r],vi p,vi q,.bool x] w0 (fun v w=>∃ A' c',v=.agg #[vi (lkD d p q x).n,.slice Ad md cd,.slice A' (lkD d p q x).ws.length c',vi (lkD d p q x).t,vi (lkD d p q x).r]/\Own w aF 85 2 encNd Ad cd (lkD d p q x).ns/\Rw w 99 encWr A' (lkD d p q x).ws/\(lkD d p q x).ws.length<=c'/\md=(lkD d p q x).ns.length/\w0.grownBy w (Value.slice Ad d.ns.length cd).ownBlock):=by
 have aG:=Xaf d.ws p q;refine enter func188 O 68 O O ?_;intro a i
 have f:w0.grownBy w0 (Value.slice Ad d.ns.length cd).ownBlock:=World.grownBy.refl _ _
 refine ZS i fun b3=>Zf (X0n (zs:=(Zc4 d Ad md cd Bd dd)) O O) ?_;rintro _ w1 ⟨b4,rfl,b5,g,c⟩;have H:=Q0 f.size b5;have b:=b.bw g;have o:=o.bw g;have f:=gbel f g;refine Zf (X0b (zs:=Zc5) X1c O) ?_;rintro _ w2 ⟨b7,rfl,b6,g,e⟩
 have b1:b4≠b7:=by have:=c.lt;omega
 have M:=Q0 f.size b6;have ⟨c,b,o⟩:=mv3 g c b o;have f:=gbel f g;refine Zx b3 fun a i _ b8=>Ze (Vd O X02 2)<|Ze (X0 O X1f (c.at 2))<|Zm O<|Zm O<|Zf (Vc (Xjr _ Bd dd d.ws o.top p q Z) Xay) ?_;rintro _ w3 ⟨rfl,g⟩;have ⟨c,e,b,o⟩:=mv4 g c e b o;have f:=gbel f g;refine Za O<|ZX b8 fun a i _ b9=>ZS i fun aN=>Zm O<|Ze (X16 O O)<|Zt aN fun a i=>X0y i O (fun E N=>?_) (fun E N=>?_)
 ·have J:=Yai (h:=x) N;refine ZS i fun aO=>Ze (Vd O X02 2)<|Ze (X0 O X1f (c.at 2))<|Zm O<|Zm O<|Zm O<|Zf (Vc (Xd3 _ Bd dd d.ws o.top p q x Z L) X7m) ?_;rintro _ w4 ⟨a6,a7,rfl,D,g⟩;have D:=D.lower f.size;have ⟨c,e,b⟩:=mv3 g c e b;have f:=gbel f g;refine Ze (Vd O X02 2)<|Zo (Vu (vs:=[.slice a6 (jnW d.ws p q x).length a7]) (l':=[vi d.n,.slice Ad md cd,.slice a6 (jnW d.ws p q x).length a7,vi d.t,vi d.r]) O O X2h c) ?_;rintro _ w5 ⟨m,I⟩;have e:=e.oy m Z;have b:=b.oT m c O;have D:=D.oT m c O;have f:=gonly f m H;have c:=I;refine Zx aO fun a i _ aP=>Ze (Vn X2 c)<|Zo (Vw [vi d.n,.slice Ad md cd,.slice a6 (jnW d.ws p q x).length a7,vi d.t,vi d.r] Xv e) ?_;rintro _ w6 ⟨m,I⟩;have b:=b.oT m e O;have D:=D.oT m e O;have f:=gonly f m M;have e:=I;refine Zt aP fun a i=>Q6<|X9<|X6 i (Xq i O (ResV.cellN (l:=[vi d.n,.slice Ad md cd,.slice a6 (jnW d.ws p q x).length a7,vi d.t,vi d.r]) O X2 (e.at 0) O)) ?_
  rw[J]
  exact ⟨a6,a7,O,b,D.rd.top,D.cap,by first|exact B|exact B.trans (X2v _ _ _).symm,f⟩
 have aI:=N
 have bG:0<=fdW d.ws p q:=by have h9:=N;omega
 refine Q7<|b9 _ _<|ZS i fun aQ=>Ze (Vd O X02 2)<|Ze (X0 O X1f (c.at 2))<|Zm O<|Zi (k:=(fdW d.ws p q).toNat) (u:=(d.ws.getD (fdW d.ws p q).toNat wZ)) (enc:=encWr) (l:=d.ws) tv0 O O X0a X14 X0d o (Xg Z) Z ?_;intro bH aJ;refine Ze (X2u O X7i)<|Ze (X0 O X7a (aJ.drop 2))<|Za O<|ZX aQ fun a i _ a8=>Q8<|Q5 fun _ aR=>X0i (fun a w=>Fr a 68 [(1,vi p),(2,vi q),(3,.bool x),(4,(pZ9 b4)),(8,(pZ9 b7)),(9,vi (fdW d.ws p q)),(10,.bool ((d.ws.getD (fdW d.ws p q).toNat wZ).h)),(32,.bool (((d.ws.getD (fdW d.ws p q).toNat wZ).h)&&x))]/\w3=w) ?_ ?_
 ·refine Zr i<|Zm O<|Zm O<|Zg 34 O ?_ ?_<;>intro C
  ·refine Zv (gW C) (X5 O) ?_;refine Ze (Xc O C O)<|Za O ?_;exact Zn fun a i=>⟨i.sub ⟨O,O,O,O,O,O,O,X1 O (by first|rfl|(simp only[E,C,bs];done)|simp[E,C]),trivial⟩,O⟩
  exact Zp (gP C)<|Ze (Xi O C O)<|Za O<|Zn fun a i=>⟨i.sub ⟨O,O,O,O,O,O,O,X1 O (by first|rfl|(simp only[E,C,bs];done)|simp[E,C]),trivial⟩,O⟩
 rintro a _ ⟨i,rfl⟩;refine aR _ _<|Xx i O ?_ ?_<;>intro aA
 ·have J:=Yaj aI aA;refine ZS i fun aS=>Ze (Vd O X02 2)<|Ze (X0 O X1f (c.at 2))<|Zm O<|Zf (Vc (Xjs _ Bd dd d.ws o.top (fdW d.ws p q) Z L ⟨by omega,aG⟩) Xaz) ?_;rintro _ w7 ⟨U,W,rfl,y,g⟩;have y:=y.lower f.size;have ⟨c,e,b⟩:=mv3 g c e b;have f:=gbel f g;refine Ze (Vd O X02 2)<|Zo (Vu (vs:=[.slice U (ctW d.ws (fdW d.ws p q).toNat).length W]) (l':=[vi d.n,.slice Ad md cd,.slice U (ctW d.ws (fdW d.ws p q).toNat).length W,vi d.t,vi d.r]) O O X2h c) ?_;rintro _ w8 ⟨m,I⟩;have e:=e.oy m Z;have b:=b.oT m c O;have y:=y.oT m c O;have f:=gonly f m H;have c:=I;refine Zt aS fun a i=>Zr i<|Ze (Vd O X0h 4)<|Ze (X0 O X8 (c.at 4))<|Ze (X6r O O)<|Ze (Vd O X0h 4)<|Zo (Vu (vs:=[vi (wr (d.r-2))]) (l':=[vi d.n,.slice Ad md cd,.slice U (ctW d.ws (fdW d.ws p q).toNat).length W,vi d.t,vi (wr (d.r-2))]) O O X0p c) ?_;rintro _ w9 ⟨m,I⟩;have e:=e.oy m Z;have b:=b.oT m c O;have y:=y.oT m c O;have f:=gonly f m H;have c:=I;refine Zn fun a i=>Xd<|a8 _ _<|ZS i fun aT=>Ze (Vn X2 c)<|Zo (Vw [vi d.n,.slice Ad md cd,.slice U (ctW d.ws (fdW d.ws p q).toNat).length W,vi d.t,vi (wr (d.r-2))] Xv e) ?_;rintro _ bI ⟨m,I⟩;have b:=b.oT m e O;have y:=y.oT m e O;have f:=gonly f m M;have e:=I;refine Zt aT fun a i=>Q6 (X6 i (Xq i O (ResV.cellN (l:=[vi d.n,.slice Ad md cd,.slice U (ctW d.ws (fdW d.ws p q).toNat).length W,vi d.t,vi (wr (d.r-2))]) O X2 (e.at 0) O)) ?_)
  rw[J]
  exact ⟨U,W,O,b,y.rd.top,y.cap,by first|exact B|exact B.trans (X2v _ _ _).symm,f⟩
 have aU:=aA;refine ZS i fun aV=>Zm O<|Zm O<|Ze (Xac underlying4 O O)<|Za O<|Zt aV fun a i=>Xx i O ?_ ?_<;>intro aB
 ·have J:=Y5f aI aU aB;refine ZS i fun aW=>Ze (Vd O X02 2)<|Ze (X0 O X1f (c.at 2))<|Zm O<|Zf (Vc (Xjs _ Bd dd d.ws o.top (fdW d.ws p q) Z L ⟨by omega,aG⟩) Xaz) ?_;rintro _ bJ ⟨bC,bD,rfl,Q,g⟩;have Q:=Q.lower f.size;have ⟨c,e,b⟩:=mv3 g c e b;have f:=gbel f g;refine Zm O<|Zm O<|Zf (Vc (Xd3 _ bC bD (ctW d.ws (fdW d.ws p q).toNat) Q.rd.top p q false (Q0 (X4o _ _).length_le Z) Q.cap) X7m) ?_;rintro _ bK ⟨aK,aL,rfl,A,g⟩;have A:=A.lower f.size;have ⟨c,e,b⟩:=mv3 g c e b;have f:=gbel f g;refine Ze (Vd O X02 2)<|Zo (Vu (vs:=[.slice aK (Zc2 d p q).length aL]) (l':=[vi d.n,.slice Ad md cd,.slice aK (Zc2 d p q).length aL,vi d.t,vi d.r]) O O X2h c) ?_;rintro _ bL ⟨m,I⟩;have e:=e.oy m Z;have b:=b.oT m c O;have A:=A.oT m c O;have f:=gonly f m H;have c:=I;refine ZX aW fun a i _ aX=>Xy none (fun j=>[4,5].contains j) mixed ?_;intro bM g;have ⟨c,e,b,A⟩:=mv4 g c e b A;have f:=gbel f g;refine Yb i<|Ye 0 O (Vn X2 c)<|YA 1 O O<|YA 2 O O<|Y1 3<|Yk O tv0 (Vc (Xob _ p q) Xev) (fun _ _ ⟨_,g⟩=>g) ?_;rintro _ bN ⟨rfl,g⟩;have ⟨c,e,b,A⟩:=mv4 g c e b A;have f:=gbel f g;refine Y1 4<|Yt O tv0 O (Vc (Xd7 _ (Zc3 d p q) md B Ad cd aF b (Q0 aM f.size) aK aL A.rd.top A.cap (min p q) 4 (Xri b2) (Yea hP _ O5 O5)) X7q) ?_;rintro _ bO ⟨aC,aD,rfl,aH,G,aY,bE,hg⟩
  have aE:=b;have c:=c.appT aE hg O;have e:=e.appT aE hg O;have f:=gtr f hg
  clear aE hg;clear b;have b:=aH;clear aH;refine Y1 5<|Yh O tv0 O (Vw [vi (({ (Zc3 d p q) with ns:=adN (Zc3 d p q).ns (min p q) 4 } : Dg).n),.slice Ad md cd,.slice aC (({ (Zc3 d p q) with ns:=adN (Zc3 d p q).ns (min p q) 4 } : Dg).ws).length aD,vi (({ (Zc3 d p q) with ns:=adN (Zc3 d p q).ns (min p q) 4 } : Dg).t),vi (({ (Zc3 d p q) with ns:=adN (Zc3 d p q).ns (min p q) 4 } : Dg).r)] Xv c) ?_;rintro _ bP ⟨m,I⟩;have e:=e.oy m Z;have b:=b.oT m c O;have G:=G.oT m c O;have f:=gonly f m H;have c:=I;refine Yd fun a i=>aX _ _<|Zr i<|Ze (Vd O X0h 4)<|Ze (X0 O X8 (c.at 4))<|Ze (X6r O O)<|Ze (Vd O X0h 4)<|Zo (Vu (vs:=[vi (wr ((({ (Zc3 d p q) with ns:=adN (Zc3 d p q).ns (min p q) 4 } : Dg).r)-1))]) (l':=[vi (({ (Zc3 d p q) with ns:=adN (Zc3 d p q).ns (min p q) 4 } : Dg).n),.slice Ad md cd,.slice aC (({ (Zc3 d p q) with ns:=adN (Zc3 d p q).ns (min p q) 4 } : Dg).ws).length aD,vi (({ (Zc3 d p q) with ns:=adN (Zc3 d p q).ns (min p q) 4 } : Dg).t),vi (wr ((({ (Zc3 d p q) with ns:=adN (Zc3 d p q).ns (min p q) 4 } : Dg).r)-1))]) O O X0p c) ?_;rintro _ bQ ⟨m,I⟩
  have e:=e.oy m Z;have b:=b.oT m c O;have G:=G.oT m c O;have f:=gonly f m H;have c:=I;refine Zn fun a i=>Xd<|a8 _ _<|ZS i fun aZ=>Ze (Vn X2 c)<|Zo (Vw [vi (({ (Zc3 d p q) with ns:=adN (Zc3 d p q).ns (min p q) 4 } : Dg).n),.slice Ad md cd,.slice aC (({ (Zc3 d p q) with ns:=adN (Zc3 d p q).ns (min p q) 4 } : Dg).ws).length aD,vi (({ (Zc3 d p q) with ns:=adN (Zc3 d p q).ns (min p q) 4 } : Dg).t),vi (wr ((({ (Zc3 d p q) with ns:=adN (Zc3 d p q).ns (min p q) 4 } : Dg).r)-1))] Xv e) ?_;rintro _ bR ⟨m,I⟩;have b:=b.oT m e O;have G:=G.oT m e O;have f:=gonly f m M;have e:=I;refine Zt aZ fun a i=>Q6 (X6 i (Xq i O (ResV.cellN (l:=[vi (({ (Zc3 d p q) with ns:=adN (Zc3 d p q).ns (min p q) 4 } : Dg).n),.slice Ad md cd,.slice aC (({ (Zc3 d p q) with ns:=adN (Zc3 d p q).ns (min p q) 4 } : Dg).ws).length aD,vi (({ (Zc3 d p q) with ns:=adN (Zc3 d p q).ns (min p q) 4 } : Dg).t),vi (wr ((({ (Zc3 d p q) with ns:=adN (Zc3 d p q).ns (min p q) 4 } : Dg).r)-1))]) O X2 (e.at 0) O)) ?_)
  rw[J]
  exact ⟨aC,aD,O,b,G.top,aY,by first|exact B|exact B.trans (X2v _ _ _).symm,f⟩
 have J:=Ye4 aI aU aB;refine Q7<|Xd<|a8 _ _<|ZS i fun b0=>Ze (Vn X2 c)<|Zo (Vw (Zc4 d Ad md cd Bd dd) Xv e) ?_;rintro _ bS ⟨m,I⟩;have b:=b.oT m e O;have o:=o.oT m e O;have f:=gonly f m M;have e:=I;refine Zt b0 fun a i=>Q6 (X6 i (Xq i O (ResV.cellN (l:=(Zc4 d Ad md cd Bd dd)) O X2 (e.at 0) O)) ?_)
 rw[J]
 exact ⟨Bd,dd,O,b,o.top,L,by first|exact B|exact B.trans (X2v _ _ _).symm,f⟩
def Y00(H:World)(d:Dg)(md:Nat)(o:md=d.ns.length)(Ad:Option Addr)(cd:Nat)(G:Nat)(b:Own H G 85 2 encNd Ad cd d.ns)(aA:G<=H.heap.size)(Bd:Option Addr)(dd:Nat)(e:Rw H 99 encWr Bd d.ws)(u:d.ws.length<=dd)(p:Int)(q:Int)(x:Bool)(aH:d.ws.length<=999999999)(aI:(0<=p/\p.toNat<d.ns.length)/\(0<=q/\q.toNat<d.ns.length))(hP:PhN d.ns)(hN:md<=1000):RE 151 [.agg #[vi d.n,.slice Ad md cd,.slice Bd d.ws.length dd,vi d.t,vi d.r],vi p,vi q,.bool x] H (fun v w=>∃ A' c',v=.agg #[vi (mtD d p q x).n,.slice Ad md cd,.slice A' (mtD d p q x).ws.length c',vi (mtD d p q x).t,vi (mtD d p q x).r]/\Own w G 85 2 encNd Ad cd (mtD d p q x).ns/\Rw w 99 encWr A' (mtD d p q x).ws/\(mtD d p q x).ws.length<=c'/\md=(mtD d p q x).ns.length/\H.grownBy w (Value.slice Ad d.ns.length cd).ownBlock):=by
 refine enter func151 O 30 O O ?_;intro a m;have j:H.grownBy H (Value.slice Ad d.ns.length cd).ownBlock:=World.grownBy.refl _ _;refine ZS m fun aJ=>Zf (X0n (zs:=(Zc4 d Ad md cd Bd dd)) O O) ?_;rintro _ w1 ⟨b4,rfl,aK,i,f⟩;have aB:=Q0 j.size aK;have b:=b.bw i;have e:=e.bw i;have j:=gbel j i;refine Zf (X0b (zs:=Zc5) X1c O) ?_;rintro _ w2 ⟨b7,rfl,aL,i,g⟩;have aG:b4≠b7:=by have:=f.lt;omega
 have I:=Q0 j.size aL;have ⟨f,b,e⟩:=mv3 i f b e;have j:=gbel j i;refine ZX aJ fun a m _ aM=>Q5 fun _ aN=>X0i (fun a w=>Fr a 30 [(1,vi p),(2,vi q),(3,.bool x),(4,(pZ9 b4)),(8,(pZ9 b7)),(16,.bool ((spI d.ns p)&&(spI d.ns q)))]/\Bl w2 w) ?_ ?_
 ·have y:Bl w2 w2:=Below.refl _ _;refine Zr m<|Ze (Vn X2 f)<|Zm O<|Zf (Vc (X89 _ d md o Ad cd b.rd.top Bd dd e.top u p hN) X4c) ?_;rintro _ w3 ⟨rfl,i⟩;have ⟨f,b,e⟩:=mv3 i f b e;have j:=gbel j i;have y:=btr y i;refine Zm O<|Zg 12 O ?_ ?_<;>intro c
  ·refine Zv (gW c) (Vn X2 f) ?_;refine Zv (gW c) (X5 O) ?_;refine Zk (gW c) (Vc (X89 _ d md o Ad cd b.rd.top Bd dd e.top u q hN) X4c) ?_;rintro _ w4 ⟨rfl,i⟩;have j:=gbel j i;have y:=btr y i;exact Ze (Xc O c O)<|Zn fun a m=>⟨m.sub ⟨O,O,O,O,O,X1 O (by simp[c]),trivial⟩,y⟩
  (iterate 3 refine Zp (gP c) ?_);exact Ze (Xi O c O)<|Zn fun a m=>⟨m.sub ⟨O,O,O,O,O,X1 O (by simp[c]),trivial⟩,y⟩
 intro a w5 ⟨m,i⟩;have ⟨f,g,b,e⟩:=mv4 i f g b e;have j:=gbel j i;refine aN _ _<|Xx m O ?_ ?_<;>intro B
 ·have a6:=Yao (h:=x) B;refine ZS m fun aC=>Ze (Vn X2 f)<|Zm O<|Zm O<|Zm O<|Zf (Vc (Y8m _ d md o Ad cd G b (Q0 aA j.size) Bd dd e.top u p q x aH aI hP) Xxe) ?_;rintro _ w6 ⟨a7,a8,rfl,J,C,aD,aO,hg⟩;have L:=b;have g:=g.appT L hg O;have j:=gtr j hg;clear L hg;clear b;have b:=J;clear J;refine Zo (Vw [vi ((lkD d p q x).n),.slice Ad md cd,.slice a7 ((lkD d p q x).ws).length a8,vi ((lkD d p q x).t),vi ((lkD d p q x).r)] Xv g) ?_;intro _ w7 ⟨A,hb⟩;have b:=b.oT A g O;have C:=C.oT A g O;have j:=gonly j A I;have g:=hb;refine Zt aC fun a m=>Q6<|X9<|X6 m (Xq m O (ResV.cellN (l:=[vi ((lkD d p q x).n),.slice Ad md cd,.slice a7 ((lkD d p q x).ws).length a8,vi ((lkD d p q x).t),vi ((lkD d p q x).r)]) O X2 (g.at 0) O)) ?_;rw[a6];exact ⟨a7,a8,O,b,C.top,aD,by first|exact o|assumption,j⟩
 have a6:=Yam (h:=x) B;refine Q7<|aM _ _<|ZS m fun aE=>Ze (Vd O X02 2)<|Ze (X0 O X1f (f.at 2))<|Zm O<|Zm O<|Zm O<|Zf (Vc (Xd3 _ Bd dd d.ws e.top p q x Z u) X7m) ?_;rintro _ w8 ⟨D,E,rfl,k,i⟩;have k:=k.lower j.size;have ⟨f,g,b⟩:=mv3 i f g b;have j:=gbel j i;refine Ze (Vd O X02 2)<|Zo (Vu (vs:=[.slice D (jnW d.ws p q x).length E]) (l':=[vi d.n,.slice Ad md cd,.slice D (jnW d.ws p q x).length E,vi d.t,vi d.r]) O O X2h f) ?_;intro _ w9 ⟨A,hb⟩;have g:=g.oy A Z;have b:=b.oT A f O;have k:=k.oT A f O;have j:=gonly j A aB;have f:=hb;refine Zx aE fun a m _ aF=>Ze (Vn X2 f)<|Zo (Vw [vi d.n,.slice Ad md cd,.slice D (jnW d.ws p q x).length E,vi d.t,vi d.r] Xv g) ?_;intro _ aP ⟨A,hb⟩;have b:=b.oT A g O;have k:=k.oT A g O;have j:=gonly j A I;have g:=hb;refine Zt aF fun a m=>Q6 (X6 m (Xq m O (ResV.cellN (l:=[vi d.n,.slice Ad md cd,.slice D (jnW d.ws p q x).length E,vi d.t,vi d.r]) O X2 (g.at 0) O)) ?_);rw[a6];exact ⟨D,E,O,b,k.rd.top,k.cap,by first|exact o|assumption,j⟩
def Xd8(x:World)(d:Dg)(md:Nat)(aX:md=d.ns.length)(Ad:Option Addr)(cd:Nat)(aY:Rw x 85 encNd Ad d.ns)(Bd:Option Addr)(dd:Nat)(a8:Rw x 99 encWr Bd d.ws)(j:d.ws.length<=dd)(p:Int)(hI:InW d.ws)(b1:d.ws.length<=1000000000):RE 150 [.agg #[vi d.n,.slice Ad md cd,.slice Bd d.ws.length dd,vi d.t,vi d.r],vi p] x (fun v w=>∃ A c,v=.slice A (nearW d.ws p).length c/\Own w x.heap.size 3 1 encI A c (nearW d.ws p)/\Bl x w):=by
 refine enter func150 O 34 O O ?_;intro a e;have i:=bz x;refine ZS e fun aM=>Zf (X0n (zs:=(Zc4 d Ad md cd Bd dd)) O O) ?_;rintro _ w1 ⟨b4,rfl,aN,J,aO⟩;have aZ:=Q0 i.size aN;have i:=btr i J;refine Za O<|Zx aM fun a e _ aP=>Za O<|ZX aP fun a e _ aQ=>ZS e fun aR=>Ze (Vd O X02 2)<|Ze (X0 O X1f (aO.at 2))<|Ze (X0w O X0a)<|Zm O<|Zt aR fun a e=>Q8<|X04 (σ:=Nat×(List Int)) (fun (s:Nat×(List Int)) (a:Act) (w:World)=>match s with|(k,m)=>∃ o q,Fr a 34 [(1,vi p),(5,.slice o m.length q),(9,.slice Bd d.ws.length dd),(10,vi (d.ws.length:Int)),(11,vi (k:Int))]/\(k<=d.ws.length)/\(m=nearW (d.ws.take k) p)/\Own w x.heap.size 3 1 encI o q m/\d.ws.length<=dd/\Bl x w) (fun (s:Nat×(List Int))=>match s with|(k,m)=>d.ws.length-k) (0,[]) ?_ ?_
 ·exact ⟨none,0,e.sb,(Qf _),(by simp[nearW]),(Own.nil _ _ _ _ _),j,i⟩
 intro ⟨k,m⟩ a w2 ⟨o,q,e,hk,hm,g,j,i⟩;refine ZS e fun aA=>Ze (X16 O O)<|ZX aA fun a e _ aB=>X0y e O (fun a6 C=>?_) (fun a6 C=>?_)
 ·have ⟨b2,b0⟩:=Xa (l:=d.ws) (k:=k) Z;have ⟨D,I⟩:=Xa (l:=d.ws) (k:=k) (by have:=C;omega);refine Q7<|aB _ _<|Q5 fun _ E=>Q8<|ZS e fun aC=>Zi (k:=k) (u:=D) (enc:=encWr) (l:=d.ws) tv0 O O X0a X14 X0d (a8.bx i) I O ?_;intro b3 a7;refine Ze (X07 (l:=[vi D.a,vi D.b,.bool D.h]) O X23 a7 O)<|ZB [vi D.a,vi D.b,.bool D.h] X4a X14 fun b5 w4 aD J y=>?_;have aS:=Q0 i.size aD;have g:=g.bw J;have i:=btr i J;refine Zx aC fun a e _ aE=>Zm O<|Zt aE fun a e=>Q8<|ZS e fun aF=>Ze (Vd O X1l 0)<|Ze (X0 O X8 (y.at 0))<|Ze (X0l O O)<|Za O<|Zt aF fun a e=>Xx e O ?_ ?_<;>intro G
  ·have f:=Xh5 I G;have B:=Xh6 hI f;rw[<- hm] at f B;refine Zr e<|Zm O<|Ze (Vd O X1p 1)<|Ze (X0 O X8 (y.at 1))<|Zf (Vc (Y26 _ o q m g.rd.top D.b x.heap.size g i.size (by have h9:=X3e (d.ws.take k) p;rw[<- hm] at h9;rw[Qn] at h9;omega)) Xig) ?_;rintro _ w5 ⟨aT,aU,rfl,aG,J⟩;have i:=btr i J;exact Za O<|Zn fun a e=>Xd<|Xd<|E _ _<|Zr e<|Ze (Xr O O Z Z)<|Zm O<|Zn fun a e=>Xh<|⟨(k+1,(putI m D.b)),⟨aT,aU,e.sb,Z,(by first|rw[B,f]|rw[f]),aG,j,i⟩,O1⟩
  have aH:=G;refine ZS e fun aI=>Ze (Vd O X1p 1)<|Ze (X0 O X8 (y.at 1))<|Ze (X0l O O)<|Za O<|Zt aI fun a e=>Xx e O ?_ ?_<;>intro H
  ·have f:=Xh7 I aH H;have B:=Xh6 hI f;rw[<- hm] at f B;refine Zr e<|Zm O<|Ze (Vd O X1l 0)<|Ze (X0 O X8 (y.at 0))<|Zf (Vc (Y26 _ o q m g.rd.top D.a x.heap.size g i.size (by have h9:=X3e (d.ws.take k) p;rw[<- hm] at h9;rw[Qn] at h9;omega)) Xig) ?_;rintro _ w6 ⟨aV,aW,rfl,aJ,J⟩;have i:=btr i J;exact Za O<|Zn fun a e=>Xd<|Xd<|E _ _<|Zr e<|Ze (Xr O O Z Z)<|Zm O<|Zn fun a e=>Xh<|⟨(k+1,(putI m D.a)),⟨aV,aW,e.sb,Z,(by first|rw[B,f]|rw[f]),aJ,j,i⟩,O1⟩
  have f:=Xdv I aH H;rw[<- hm] at f;exact Q7<|Xd<|Xd<|E _ _<|Zr e<|Ze (Xr O O Z Z)<|Zm O<|Zn fun a e=>Xh<|⟨(k+1,m),⟨o,q,e.sb,Z,(by first|rw[B,f]|rw[f]),g,j,i⟩,O1⟩
 have aK:m=nearW d.ws p:=by rw[hm,Qi (by have:=C;omega)]
 refine Q9<|Xk<|Xk<|X06<|aQ _ _<|ZS e fun aL=>Zm O<|Za O<|Zt aL fun a e=>Q6 (X6 e (Xq e O O) ?_);rw[<- aK];exact ⟨o,q,O,g,i⟩
def Y01(o:World)(d:Dg)(md:Nat)(aD:md=d.ns.length)(Ad:Option Addr)(cd:Nat)(aE:Rw o 85 encNd Ad d.ns)(Bd:Option Addr)(dd:Nat)(aF:Rw o 99 encWr Bd d.ws)(j:d.ws.length<=dd)(p:Int)(q:Int)(hI:InW d.ws)(aO:d.ws.length<=1000000000):RE 152 [.agg #[vi d.n,.slice Ad md cd,.slice Bd d.ws.length dd,vi d.t,vi d.r],vi p,vi q] o (fun v w=>∃ A c,v=.slice A (othW d.ws p q).length c/\Own w o.heap.size 3 1 encI A c (othW d.ws p q)/\Bl o w):=by
 have b0:=X3e d.ws p;refine enter func152 O 27 O O ?_;intro a f;have i:=bz o;refine ZS f fun aP=>Zf (X0n (zs:=(Zc4 d Ad md cd Bd dd)) O O) ?_;rintro _ w1 ⟨b4,rfl,aQ,hE,aR⟩;have aY:=Q0 i.size aQ;have i:=btr i hE;refine Za O<|Zx aP fun a f _ aS=>Za O<|ZX aS fun a f _ aT=>ZS f fun aU=>Ze (Vn X2 aR)<|Zm O<|Zf (Vc (Xd8 _ d md aD Ad cd (aE.bx i).top Bd dd (aF.bx i).top j p hI aO) X7r) ?_;rintro _ w2 ⟨a6,aG,rfl,b,hE⟩;have b:=b.lower i.size;have i:=btr i hE;refine Ze (X0w O Xp)<|Zm O<|Zt aU fun a f=>Q8<|X04 (σ:=Nat×(List Int)) (fun (s:Nat×(List Int)) (a:Act) (w:World)=>match s with|(k,m)=>∃ x B,Fr a 27 [(2,vi q),(7,.slice x m.length B),(12,.slice a6 (nearW d.ws p).length aG),(13,vi ((nearW d.ws p).length:Int)),(14,vi (k:Int))]/\(k<=(nearW d.ws p).length)/\(m=((nearW d.ws p).take k).filter (fun v=>v != q))/\Own w o.heap.size 3 1 encI x B m/\Own w o.heap.size 3 1 encI a6 aG (nearW d.ws p)/\d.ws.length<=dd/\Apart a6 x/\Bl o w) (fun (s:Nat×(List Int))=>match s with|(k,m)=>(nearW d.ws p).length-k) (0,[]) ?_ ?_
 ·exact ⟨none,0,f.sb,(Qf _),O,(Own.nil _ _ _ _ _),b,j,(Apart.nr _),i⟩
 intro ⟨k,m⟩ a w3 ⟨x,B,f,hk,hm,g,b,j,e,i⟩;have b1:m.length<=d.ws.length:=by rw[hm];exact Q0 (List.length_filter_le _ _) (by rw[Qn];omega)
 refine ZS f fun aH=>Ze (X16 O O)<|ZX aH fun a f _ aI=>X0y f O (fun a7 C=>?_) (fun a7 C=>?_)
 ·have ⟨b2,aZ⟩:=Xa (l:=(nearW d.ws p)) (k:=k) Z;have ⟨u9,a8⟩:=Xa (l:=nearW d.ws p) (k:=k) (by have:=C;omega);refine Q7<|aI _ _<|Q5 fun _ H=>Q8<|ZS f fun aJ=>Zi (k:=k) (u:=u9) (enc:=encI) (l:=(nearW d.ws p)) tv0 O O Xp X0p Xj b.rd a8 O ?_;intro b3 aA;refine Ze (X0 O X8 aA)<|Za O<|Zx aJ fun a f _ aK=>Zm O<|Zm O<|Ze (X28 O O)<|Zt aK fun a f=>Xx f O ?_ ?_<;>intro D
  ·have E:=X4p (q:=fun v=>v != q) a8;rw[Q4 D,<- hm] at E;refine Zr f<|Zm O<|Zm O<|Zf (Xe (k:=1) (vs:=[vi u9]) (zs:=[vi u9]) O Xp X21 O O) ?_;rintro _ w4 ⟨b5,rfl,I,hE,G⟩;have aV:=Q0 i.size I;have ⟨g,b,i⟩:=mv3 hE g b i;refine Zf (X0r (enc:=encI) (l:=(m)) (l2:=([u9])) (B0:=o.heap.size) O O Xp X21 Xj X37 g (Rd.of_blk G O _ G.lt) (by simp only[maxLen];simp;omega) O6 i.size) ?_;rintro _ w5 ⟨aW,aX,rfl,aL,hg,aB⟩;have J:Own _ o.heap.size 3 1 encI _ _ (m):=g;have h:=Apart.app b e aB;clear aB;have b:=b.appP hg e;have i:=Below.app i J hg (Qb _) i.size;clear J hg;exact Za O<|Zn fun a f=>Xd<|H _ _<|Zr f<|Ze (Xr O O Z Z)<|Zm O<|Zn fun a f=>Xh<|⟨(k+1,m++([u9])),⟨aW,aX,f.sb,Z,(by rw[E]),aL,b,j,h,i⟩,O1⟩
  have E:=X4p (q:=fun v=>v != q) a8;rw[Q3 (by rw[D];decide),List.append_nil,<- hm] at E;exact Q7<|Xd<|H _ _<|Zr f<|Ze (Xr O O Z Z)<|Zm O<|Zn fun a f=>Xh<|⟨(k+1,m),⟨x,B,f.sb,Z,(by rw[E]),g,b,j,e,i⟩,O1⟩
 have aM:m=(nearW d.ws p).filter (fun v=>v != q):=by rw[hm,Qi (by have:=C;omega)]
 refine Q9<|Xk<|Xk<|X06<|aT _ _<|ZS f fun aN=>Zm O<|Za O<|Zt aN fun a f=>Q6 (X6 f (Xq f O O) ?_);rw[show othW d.ws p q=m from aM.symm];exact ⟨x,B,O,g,i⟩
def Xol(i:World)(d:Dg)(md:Nat)(q:md=d.ns.length)(Ad:Option Addr)(cd:Nat)(x:Rw i 85 encNd Ad d.ns)(Bd:Option Addr)(dd:Nat)(y:Rw i 99 encWr Bd d.ws)(e:d.ws.length<=dd)(p:Int)(hI:InW d.ws)(aA:d.ws.length<=1000000000):RE 155 [.agg #[vi d.n,.slice Ad md cd,.slice Bd d.ws.length dd,vi d.t,vi d.r],vi p] i (fun v w=>v=.bool (hadD d p)/\Bl i w):=by
 have aP:=X3e d.ws p;refine enter func155 O 21 O O ?_;intro a b;have f:=bz i;refine ZS b fun aG=>Zf (X0n (zs:=(Zc4 d Ad md cd Bd dd)) O O) ?_;rintro _ w1 ⟨b4,rfl,aH,h,c⟩;have aN:=Q0 f.size aH;have f:=btr f h;refine Za O<|ZX aG fun a b _ aI=>ZS b fun aJ=>Ze (Vn X2 c)<|Zm O<|Zf (Vc (Xd8 _ d md q Ad cd (x.bx f).top Bd dd (y.bx f).top e p hI aA) X7r) ?_;rintro _ w2 ⟨A7,c7,rfl,g,h⟩;have g:=g.lower f.size;have c:=c.bw h;have f:=btr f h;refine Ze (X0w O Xp)<|Zm O<|Zt aJ fun a b=>Q8<|X04 (σ:=Nat) (fun (k:Nat) (a:Act) (w:World)=>Fr a 21 [(1,vi p),(2,(pZ9 b4)),(9,.slice A7 (nearW d.ws p).length c7),(10,vi ((nearW d.ws p).length:Int)),(11,vi (k:Int))]/\(k<=(nearW d.ws p).length)/\(((nearW d.ws p).take k).all (fun v=>tyW d.ws p v==2)=true)/\Blk w b4 54 (Zc4 d Ad md cd Bd dd)/\Own w i.heap.size 3 1 encI A7 c7 (nearW d.ws p)/\d.ws.length<=dd/\Bl i w) (fun (k:Nat)=>(nearW d.ws p).length-k) 0 ?_ ?_
 ·exact ⟨b.sb,(Qf _),O,c,g,e,f⟩
 intro k a w3 ⟨b,hk,A,c,g,e,f⟩;refine ZS b fun aK=>Ze (X16 O O)<|ZX aK fun a b _ aL=>X0y b O (fun a6 j=>?_) (fun a6 j=>?_)
 ·have ⟨aQ,aO⟩:=Xa (l:=(nearW d.ws p)) (k:=k) Z;have ⟨u9,a7⟩:=Xa (l:=nearW d.ws p) (k:=k) (by have:=j;omega);refine Q7<|aL _ _<|Q5 fun _ aB=>Q8<|ZS b fun aC=>Zi (k:=k) (u:=u9) (enc:=encI) (l:=(nearW d.ws p)) tv0 O O Xp X0p Xj g.rd a7 O ?_;intro aR a8;refine Ze (X0 O X8 a8)<|Za O<|Zx aC fun a b _ aD=>Ze (Vn X2 c)<|Zm O<|Zm O<|Zf (Vc (Xbi _ d md q Ad cd (x.bx f).top Bd dd (y.bx f).top e p u9 aA) X66) ?_;rintro _ w4 ⟨rfl,h⟩;have ⟨c,g,f⟩:=mv3 h c g f;refine Ze (X28 O O)<|Zt aD fun a b=>Xx b O ?_ ?_<;>intro m
  ·have o:hadD d p=false:=Xi0 a7 (by have h9:=m;simpa using h9);exact ZS b fun aE=>Za O<|Zt aE fun a b=>Q6<|Xu<|X9<|X9<|Xu<|X9<|X6 b (Xq b O O)<|⟨by rw[o],f⟩
  have aM:(tyW d.ws p u9==2)=true:=by have h9:=m;simpa using h9
  exact Q7<|Xd<|aB _ _<|Zr b<|Ze (Xr O O Z Z)<|Zm O<|Zn fun a b=>Xh<|⟨k+1,⟨b.sb,Z,(Xi1 A a7 aM),c,g,e,f⟩,Z⟩
 have o:hadD d p=true:=Xei A (by have:=j;omega);refine Q9<|Xk<|Xk<|X06<|aI _ _<|ZS b fun aF=>Za O<|Zt aF fun a b=>Q6 (X6 b (Xq b O O) ?_);exact ⟨by rw[o],f⟩
def Y02(o:World)(d:Dg)(md:Nat)(C:md=d.ns.length)(Ad:Option Addr)(cd:Nat)(D:Rw o 85 encNd Ad d.ns)(Bd:Option Addr)(dd:Nat)(E:Rw o 99 encWr Bd d.ws)(c:d.ws.length<=dd)(Al:Option Addr)(cl:Nat)(l:List Int)(G:Rw o 3 encI Al l)(hN:md<=1000)(aR:d.ws.length<=1000000000)(b4:l.length<=1000000000)(aS:l.length<=cl):RE 156 [.agg #[vi d.n,.slice Ad md cd,.slice Bd d.ws.length dd,vi d.t,vi d.r],.slice Al l.length cl] o (fun v w=>v=.bool (rdyD d l)/\Bl o w):=by
 refine enter func156 O 35 O O ?_;intro a b;have f:=bz o;refine ZS b fun aT=>Zf (X0n (zs:=(Zc4 d Ad md cd Bd dd)) O O) ?_;rintro _ w1 ⟨b5,rfl,aU,H,e⟩;have b1:=Q0 f.size aU;have f:=btr f H;refine Za O<|ZX aT fun a b _ aV=>ZS b fun aW=>Zm O<|Ze (X0w O Xp)<|Zm O<|Zt aW fun a b=>Q8<|X04 (σ:=Nat) (fun (k:Nat) (a:Act) (w:World)=>Fr a 35 [(1,.slice Al l.length cl),(2,(pZ9 b5)),(9,.slice Al l.length cl),(10,vi (l.length:Int)),(11,vi (k:Int))]/\(k<=l.length)/\(∀ j:Nat,j<k->rdQ d l j=true)/\Blk w b5 54 (Zc4 d Ad md cd Bd dd)/\d.ws.length<=dd/\Bl o w) (fun (k:Nat)=>l.length-k) 0 ?_ ?_
 ·exact ⟨b.sb,(Qf _),(fun j hj=>by omega),e,c,f⟩
 intro k a w2 ⟨b,hk,I,e,c,f⟩;refine ZS b fun aX=>Ze (X16 O O)<|ZX aX fun a b _ aY=>X0y b O (fun a6 p=>?_) (fun a6 p=>?_)
 ·have ⟨b6,b2⟩:=Xa (l:=l) (k:=k) Z;have ⟨u9,B⟩:=Xa (l:=l) (k:=k) (by have:=p;omega);have a7:l.getD k 0=u9:=by rw[Qa,B];rfl
  refine Q7<|aY _ _<|Q5 fun _ aD=>Q8<|ZS b fun aE=>Zm O<|Zi (k:=k) (u:=u9) (enc:=encI) (l:=l) tv0 O O Xp X0p Xj (G.bx f) B O ?_;intro b7 a8;refine Ze (X0 O X8 a8)<|Za O<|Za O<|ZX aE fun a b _ aF=>ZS b fun aG=>Ze (Vn X2 e)<|Zm O<|Zf (Vc (X89 _ d md C Ad cd (D.bx f).top Bd dd (E.bx f).top c u9 hN) X4c) ?_;rintro _ w3 ⟨rfl,H⟩;have e:=e.bw H;have f:=btr f H;refine Ze (X1i O)<|Zt aG fun a b=>Xx b O ?_ ?_<;>intro q
  ·have m:rdyD d l=false:=Xft (k:=k) (by have:=(Qg.1 B).1;omega) (by unfold rdQ;rw[a7];have x:=q;simp only[Bool.not_eq_true'] at x;rw[x];rfl);exact ZS b fun aH=>Za O<|Zt aH fun a b=>Q6<|X9<|Xu<|X9<|X9<|Xu<|X9<|X6 b (Xq b O O)<|⟨by rw[m],f⟩
  have aI:spI d.ns u9=true:=by have x:=q;simpa using x
  refine Q7<|aF _ _<|ZS b fun aJ=>Zm O<|Zm O ?_;have g:=((G.bx f).top).takeK Xj k;refine Ze (X3p (l:=l) (k:=k) O O Xp X0p O hk aS)<|Ze (X0w O Xp)<|Zm O<|Zt aJ fun a b=>Q8<|X04 (σ:=Nat) (fun (j:Nat) (a:Act) (w:World)=>Fr a 35 [(1,.slice Al l.length cl),(2,(pZ9 b5)),(6,vi u9),(9,.slice Al l.length cl),(10,vi (l.length:Int)),(11,vi (k:Int)),(22,.slice Al (l.take k).length cl),(23,vi ((l.take k).length:Int)),(24,vi (j:Int))]/\(j<=(l.take k).length)/\(((l.take k).take j).all (fun y=>tyW d.ws u9 y != 1)=true)/\Blk w b5 54 (Zc4 d Ad md cd Bd dd)/\Rd w w3.heap.size 3 encI Al (l.take k)/\d.ws.length<=dd/\Bl o w) (fun (j:Nat)=>(l.take k).length-j) 0 ?_ ?_
  ·exact ⟨b.sb,(Qf _),O,e,g,c,f⟩
  intro j a w4 ⟨b,hj,J,e,g,c,f⟩;refine ZS b fun aK=>Ze (X16 O O)<|ZX aK fun a b _ aL=>X0y b O (fun aA h=>?_) (fun aA h=>?_)
  ·have ⟨b8,b3⟩:=Xa (l:=(l.take k)) (k:=j) Z;have b9:(l.take k).length<=1000000000:=by rw[Qn];omega
   have ⟨v9,aB⟩:=Xa (l:=l.take k) (k:=j) (by have:=h;omega);refine Q7<|aL _ _<|Q5 fun _ aM=>Q8<|ZS b fun aN=>Zi (k:=j) (u:=v9) (enc:=encI) (l:=(l.take k)) tv0 O O Xp X0p Xj g aB O ?_;intro bC aC;refine Ze (X0 O X8 aC)<|Za O<|Zx aN fun a b _ aO=>Ze (Vn X2 e)<|Zm O<|Zm O<|Zf (Vc (Xbi _ d md C Ad cd (D.bx f).top Bd dd (E.bx f).top c u9 v9 aR) X66) ?_;rintro _ w5 ⟨rfl,H⟩;have ⟨e,g,f⟩:=mv3 H e g f;refine Ze (X0l O O)<|Zt aO fun a b=>Xx b O ?_ ?_<;>intro A
   ·have m:rdyD d l=false:=Xft (k:=k) (by have:=(Qg.1 B).1;omega) (by unfold rdQ;rw[a7,aI,Qw];exact Xi0 aB (by have x:=A;simp only[beq_iff_eq] at x;rw[x];rfl));exact ZS b fun aP=>Za O<|Zt aP fun a b=>Q6<|Xu<|X9<|X9<|Xu<|Xu<|X9<|X9<|Xu<|X9<|X6 b (Xq b O O)<|⟨by rw[m],f⟩
   have aZ:(tyW d.ws u9 v9 != 1)=true:=by have x:=A;simpa using x
   exact Q7<|Xd<|aM _ _<|Zr b<|Ze (Xr O O Z Z)<|Zm O<|Zn fun a b=>Xh<|⟨j+1,⟨b.sb,Z,(Xi1 J aB aZ),e,g,c,f⟩,Z⟩
  have b0:rdQ d l k=true:=by unfold rdQ;rw[a7,aI,Xei J (by have:=h;omega)];rfl
  exact Q9<|Xk<|Xk<|X06<|Xd<|aD _ _<|Zr b<|Ze (Xr O O Z Z)<|Zm O<|Zn fun a b=>Xh<|⟨k+1,⟨b.sb,Z,(fun i hi=>by by_cases x:i=k;rw[x];exact b0;exact I i Z),e,c,f⟩,Z⟩
 have m:rdyD d l=true:=X9m fun j hj=>I j (by have:=p;omega);refine Q9<|Xk<|Xk<|X06<|aV _ _<|ZS b fun aQ=>Za O<|Zt aQ fun a b=>Q6 (X6 b (Xq b O O) ?_);exact ⟨by rw[m],f⟩
theorem Xd6(M:World)(d:Dg)(md:Nat)(aB:md=d.ns.length)(Ad:Option Addr)(cd:Nat)(aA:Nat)(c:Own M aA 85 2 encNd Ad cd d.ns)(bD:aA<=M.heap.size)(Bd:Option Addr)(dd:Nat)(e:Rw M 99 encWr Bd d.ws)(L:d.ws.length<=dd)(p:Int)(b0:0<=p/\p.toNat<d.ns.length)(bF:d.ws.length<=1000000000):RE 148 [.agg #[vi d.n,.slice Ad md cd,.slice Bd d.ws.length dd,vi d.t,vi d.r],vi p] M (fun v w=>∃ A' c',v=.agg #[vi ({ d with ns:=dpN d.ns p,ws:=dpW d.ws p } : Dg).n,.slice Ad md cd,.slice A' ({ d with ns:=dpN d.ns p,ws:=dpW d.ws p } : Dg).ws.length c',vi ({ d with ns:=dpN d.ns p,ws:=dpW d.ws p } : Dg).t,vi ({ d with ns:=dpN d.ns p,ws:=dpW d.ws p } : Dg).r]/\Own w aA 85 2 encNd Ad cd ({ d with ns:=dpN d.ns p,ws:=dpW d.ws p } : Dg).ns/\Rw w 99 encWr A' ({ d with ns:=dpN d.ns p,ws:=dpW d.ws p } : Dg).ws/\({ d with ns:=dpN d.ns p,ws:=dpW d.ws p } : Dg).ws.length<=c'/\md=({ d with ns:=dpN d.ns p,ws:=dpW d.ws p } : Dg).ns.length/\M.grownBy w (Value.slice Ad d.ns.length cd).ownBlock):=by
 refine enter func148 O 38 O O ?_;intro a A;have B:M.grownBy M (Value.slice Ad d.ns.length cd).ownBlock:=World.grownBy.refl _ _;refine ZS A fun b1=>Zf (X0n (zs:=(Zc4 d Ad md cd Bd dd)) O O) ?_;rintro _ w1 ⟨b4,rfl,b2,C,g⟩;have aM:=Q0 B.size b2;have c:=c.bw C;have e:=e.bw C;have B:=gbel B C;refine Zf (X0b (zs:=Zc5) X1c O) ?_;rintro _ w2 ⟨b7,rfl,b3,C,o⟩;have aZ:b4≠b7:=by have:=g.lt;omega
 have aN:=Q0 B.size b3;have ⟨g,c,e⟩:=mv3 C g c e;have B:=gbel B C;refine Zx b1 fun a A _ b5=>Ze (Vd O Xn 1)<|Ze (X0 O X0f (g.at 1))<|Zm O<|Ze (X0k (ps:=[]) (cs:=[vi 0,vi 0]) O (fun _=>by first|rfl|kernel_rfl))<|Ze (Xm (k:=p.toNat) O O X00 X0o c aB Z Z)<|Zo (X1a (enc:=encNd) (l:=d.ns) (vs:=[vi 0,vi 0]) (x0:=(d.ns.getD p.toNat nZ)) (u:=(⟨0,0⟩ : Nd)) (k:=p.toNat) (j:=0) (n1:=2) O O X0o c X03 O O O O O5 (Xg b0.2) O) ?_;intro _ w3 ⟨aC,Q⟩;have y:=c;have g:=g.appT y Q O;have o:=o.appT y Q O;have e:=e.appT y Q O;have B:=gtr B Q;clear y Q;clear c;have c:=aC;clear aC;refine Zx b5 fun a A _ b6=>Za O<|ZX b6 fun a A _ aO=>ZS A fun aP=>Ze (Vd O X02 2)<|Ze (X0 O X1f (g.at 2))<|Ze (X0w O X0a)<|Zm O<|Zt aP fun a A=>Q8<|X04 (σ:=Nat×(List Wr)) (fun (s:Nat×(List Wr)) (a:Act) (w:World)=>match s with|(k,m)=>∃ E G,Fr a 38 [(1,vi p),(2,(pZ9 b4)),(4,(pZ9 b7)),(5,.slice E m.length G),(14,.slice Bd d.ws.length dd),(15,vi (d.ws.length:Int)),(16,vi (k:Int))]/\(k<=d.ws.length)/\(m=(d.ws.take k).filter (fun w=>w.a != p&&w.b != p))/\Blk w b4 54 (Zc4 d Ad md cd Bd dd)/\Blk w b7 54 Zc5/\Own w M.heap.size 99 3 encWr E G m/\Rd w M.heap.size 99 encWr Bd d.ws/\Own w aA 85 2 encNd Ad cd (d.ns.set p.toNat (⟨0,0⟩ : Nd))/\d.ws.length<=dd/\M.grownBy w (Value.slice Ad d.ns.length cd).ownBlock) (fun (s:Nat×(List Wr))=>match s with|(k,m)=>d.ws.length-k) (0,[]) ?_ ?_
 ·exact ⟨none,0,A.sb,(Qf _),O,g,o,(Own.nil _ _ _ _ _),e,c,L,B⟩
 intro ⟨k,m⟩ a w4 ⟨E,G,A,hk,hm,g,o,f,e,c,L,B⟩;have bG:m.length<=d.ws.length:=by rw[hm];exact Q0 (List.length_filter_le _ _) (by rw[Qn];omega)
 refine ZS A fun aQ=>Ze (X16 O O)<|ZX aQ fun a A _ aR=>X0y A O (fun D U=>?_) (fun D U=>?_)
 ·have ⟨bH,bE⟩:=Xa (l:=d.ws) (k:=k) Z;have ⟨I,aG⟩:=Xa (l:=d.ws) (k:=k) (by have:=U;omega);refine Q7<|aR _ _<|Q5 fun _ aD=>Q8<|ZS A fun aS=>Zi (k:=k) (u:=I) (enc:=encWr) (l:=d.ws) tv0 O O X0a X14 X0d e aG O ?_;intro bI aH;refine Ze (X07 (l:=[vi I.a,vi I.b,.bool I.h]) O X23 aH O)<|Zf (X0b (zs:=[vi 0,vi 0,.bool false]) X4a O) ?_;rintro _ w5 ⟨aT,rfl,aE,C,x⟩;have W:=Q0 B.size aE;have H:=f.away aE;have ⟨g,o,f,e,c⟩:=mv5 C g o f e c;have B:=gbel B C;refine Zo (Vw [vi I.a,vi I.b,.bool I.h] X14 x) ?_;intro _ w6 ⟨J,hb⟩;have g:=g.oz J x O;have o:=o.oz J x O;have f:=f.onlyA J H;have e:=e.oy J W;have c:=c.oT J x O;have B:=gonly B J W;have x:=hb;refine ZX aS fun a A _ aU=>X0i (fun a w=>Fr a 38 [(1,vi p),(2,(pZ9 b4)),(4,(pZ9 b7)),(5,.slice E m.length G),(7,(pZ9 aT)),(14,.slice Bd d.ws.length dd),(15,vi (d.ws.length:Int)),(16,vi (k:Int)),(29,.bool ((I.a != p)&&(I.b != p)))]/\w6=w) ?_ ?_
  ·refine Zr A<|Ze (Vd O X1l 0)<|Ze (X0 O X8 (x.at 0))<|Zm O<|Ze (X28 O O)<|Zm O<|Zg 24 O ?_ ?_<;>intro i
   ·refine Zv (gW i) (Vd O X1p 1) ?_;refine Zv (gW i) (X0 O X8 (x.at 1)) ?_;refine Zv (gW i) (X5 O) ?_;refine Zv (gW i) (X28 O O)<|Ze (Xc O i O)<|Zn fun a A=>?_;exact ⟨A.sub ⟨O,O,O,O,O,O,O,O,X1 O (by simp[D,i]),trivial⟩,O⟩
   (iterate 4 refine Zp (gP i) ?_);exact Ze (Xi O i O)<|Zn fun a A=>⟨A.sub ⟨O,O,O,O,O,O,O,O,X1 O (by simp[D,i]),trivial⟩,O⟩
  rintro a _ ⟨A,rfl⟩;refine aU _ _<|Xx A O ?_ ?_<;>intro a6
  ·have a7:=X4p (q:=fun w=>w.a != p&&w.b != p) aG;rw[Q4 a6,<- hm] at a7;refine Zr A<|Zm O<|Ze (Vn X23 x)<|Zf (Xe (k:=1) (vs:=[.agg #[vi I.a,vi I.b,.bool I.h]]) (zs:=[vi I.a,vi I.b,.bool I.h]) O X0a X1w O O) ?_;rintro _ w7 ⟨b26,rfl,aF,C,a8⟩;have aJ:aT≠b26:=by have:=x.lt;omega
   have b8:=Q0 B.size aF;have ⟨g,o,x,f,e,c⟩:=mv6 C g o x f e c;have B:=gbel B C;refine Zf (X0r (enc:=encWr) (l:=(m)) (l2:=([I])) (B0:=M.heap.size) O O X0a X1w X0d X2l f (Rd.of_blk a8 O _ a8.lt) (by simp only[maxLen];simp;omega) O6 B.size) ?_;rintro _ w8 ⟨b9,bC,rfl,aV,Q,aI⟩;have y:Own _ M.heap.size 99 3 encWr _ _ (m):=f;clear aI;have g:=g.appT y Q O;have o:=o.appT y Q O;have e:=e.appB y Q (Qb _);have c:=c.appT y Q O;have B:=gapp B y Q;clear y Q;exact Za O<|Zn fun a A=>Xd<|aD _ _<|Zr A<|Ze (Xr O O Z Z)<|Zm O<|Zn fun a A=>Xh<|⟨(k+1,m++([I])),⟨b9,bC,A.sb,Z,(by rw[a7]),g,o,aV,e,c,L,B⟩,O1⟩
  have a7:=X4p (q:=fun w=>w.a != p&&w.b != p) aG;rw[Q3 (by rw[a6];decide),List.append_nil,<- hm] at a7;exact Q7<|Xd<|aD _ _<|Zr A<|Ze (Xr O O Z Z)<|Zm O<|Zn fun a A=>Xh<|⟨(k+1,m),⟨E,G,A.sb,Z,(by rw[a7]),g,o,f,e,c,L,B⟩,O1⟩
 have aW:m=dpW d.ws p:=by rw[hm,Qi (by have:=U;omega)];rfl
 refine Q9<|Xk<|Xk<|X06<|aO _ _<|ZS A fun aX=>Zm O<|Ze (Vd O X02 2)<|Zo (Vu (vs:=[.slice E m.length G]) (l':=[vi d.n,.slice Ad md cd,.slice E m.length G,vi d.t,vi d.r]) O O X2h g) ?_;intro _ w9 ⟨J,hb⟩;have o:=o.oy J Z;have f:=f.oT J g O;have c:=c.oT J g O;have B:=gonly B J aM;have g:=hb;refine Zx aX fun a A _ aY=>Ze (Vn X2 g)<|Zo (Vw [vi d.n,.slice Ad md cd,.slice E m.length G,vi d.t,vi d.r] Xv o) ?_;intro _ bJ ⟨J,hb⟩;have f:=f.oT J o O;have c:=c.oT J o O;have B:=gonly B J aN;have o:=hb;refine Zt aY fun a A=>Q6 (X6 A (Xq A O (ResV.cellN (l:=[vi d.n,.slice Ad md cd,.slice E m.length G,vi d.t,vi d.r]) O X2 (o.at 0) O)) ?_);rw[<- aW];exact ⟨E,G,O,c,f.rd.top,f.cap,aB.trans (X2e _ _).symm,B⟩
structure InD (d:Dg) : Prop where
 w:InW d.ws
 e:∀ x ∈ d.ws,0<=x.a/\x.b<d.ns.length
 p:PhN d.ns
 m:d.ns.length<=1000
def Xm4:∀ {l:List Wr} (N:Nat),(∀ x ∈ l,0<=x.a/\x.a<x.b/\x.b<N)->WSd l->∀ m:Nat,(∀ x ∈ l,(m:Int)<=x.a*N+x.b)->l.length+m<=N*N+1∨l=[]
 | [],_,_,_,_,_=>.inr rfl
 | x::l,N,h,hs,m,hm=>by
  left;have hx:=h x O4;have hmx:=hm x O4;have hs':=W8.1 hs;have hb:x.a*N+x.b<N*N:=by
   have:x.a+1<=N:=by omega
   have h2:(x.a+1)*N<=(N:Int)*N:=Int.mul_le_mul_of_nonneg_right this Z;rw[Int.add_mul,Int.one_mul] at h2;omega
  have hstep:∀ y ∈ l,((m+1:Nat) : Int)<=y.a*N+y.b:=fun y hy=>by
   have hl:=hs'.1 y hy;rw[X6j] at hl;have hy0:=h y (by simp[hy]);have hkey:x.a*N+x.b+1<=y.a*N+y.b:=by
    rcases hl with hl|⟨hl,hl2⟩
    ·have h2:(x.a+1)*N<=y.a*N:=Int.mul_le_mul_of_nonneg_right Z Z;rw[Int.add_mul,Int.one_mul] at h2;omega
    ·rw[hl];omega
   omega
  have hN:((N*N:Nat) : Int)=(N:Int)*N:=by simp
  rcases Xm4 N (fun y hy=>h y (by simp[hy])) hs'.2 (m+1) hstep with h1|h1
  ·rw[Qs];omega
  ·subst h1;simp only[Qs,List.length_nil];omega
def InD.len{d:Dg}(h:InD d):d.ws.length<=1000001:=by
 have h1:=Xm4 d.ns.length (fun x hx=>⟨(h.e x hx).1,h.w.l x hx,(h.e x hx).2⟩) h.w.s 0 (fun x hx=>by
  have e:=h.e x hx;have l:=h.w.l x hx;have:0<=x.a*(d.ns.length:Int):=Int.mul_nonneg e.1 Z;omega)
 rcases h1 with h1|h1
 ·have:=Nat.mul_le_mul h.m h.m;omega
 ·rw[h1];simp
def X2p{d:Dg}(h:InD d){k v:Int}(hv:v ∈ nearW d.ws k):0<=v/\v.toNat<d.ns.length:=by
 have ⟨w,hw,ho⟩:=X5z.1 hv;have e:=h.e w hw;have l:=h.w.l w hw;rcases X5g ho with ⟨_,h2⟩|⟨_,h2⟩<;>omega
def X9f{d:Dg}(h:InD d){k v:Int}{j:Nat}(hv:(nearW d.ws k)[j]? = some v):0<=v/\v.toNat<d.ns.length:=X2p h (Qe hv)
def Xrg(d:Dg)(a b:Int)(h:Bool):(lkD d a b h).ns.length=d.ns.length/\(lkD d a b h).ws.length<=d.ws.length+1:=by
 have h1:=X6f d.ws a b h;have h2:=(X4o d.ws (fdW d.ws a b).toNat).length_le;have h3:=X6f (ctW d.ws (fdW d.ws a b).toNat) a b false;unfold lkD;split
 ·exact ⟨O,by dsimp only;omega⟩
 ·split
  ·exact ⟨O,by dsimp only;omega⟩
  ·split
   ·exact ⟨X2v _ _ _,by dsimp only;omega⟩
   ·exact ⟨O,by omega⟩
def X8t(d:Dg)(a b:Int)(h:Bool):(mtD d a b h).ns.length=d.ns.length/\(mtD d a b h).ws.length<=d.ws.length+1:=by
 unfold mtD;split
 ·exact Xrg d a b h
 ·exact ⟨O,by dsimp only;rw[X6f];omega⟩
def X3m(d:Dg)(a b:Int):(tgD d a b).ns=d.ns/\(tgD d a b).ws.length<=d.ws.length+1:=by
 have h2:=(X4o d.ws (fdW d.ws a b).toNat).length_le;unfold tgD;split
 ·exact ⟨O,by dsimp only;omega⟩
 ·exact ⟨O,by dsimp only;rw[X6f];omega⟩
def Yal{d:Dg}(hp:PhN d.ns)(a b:Int)(h:Bool):PhN (lkD d a b h).ns:=by
 unfold lkD;split
 ·exact hp
 ·split
  ·exact hp
  ·split
   ·exact X8j hp _ _
   ·exact hp
def Xrk{d:Dg}(hp:PhN d.ns)(a b:Int)(h:Bool):PhN (mtD d a b h).ns:=by
 unfold mtD;split
 ·exact Yal hp a b h
 ·exact hp
def fuC(d:Dg)(a b:Int) : Bool:=spI d.ns a&&spI d.ns b&&decide (a<b)&&tyW d.ws a b==1
def fu0(d:Dg)(a b:Int) : Dg:={ d with ns:=adN (dpN d.ns b) a (d.ns.getD b.toNat nZ).p,ws:=dpW d.ws b }
def fuT(d:Dg)(a b:Int)(o:Dg)(v:Int) : Dg:=if v=a then o else mtD o a v (tyW d.ws b v==2)
def fuS(d:Dg)(a b:Int)(l:List Int)(o:Dg) : Dg:=l.foldl (fuT d a b) o
def fuD(d:Dg)(a b:Int) : Dg:=fuS d a b (nearW d.ws b) (fu0 d a b)
def Xf9{d:Dg}{a b:Int}{l:List Int}{o:Dg}{k:Nat}{v:Int}(hv:l[k]? = some v):fuS d a b (l.take (k+1)) o=fuT d a b (fuS d a b (l.take k) o) v:=by
 unfold fuS;rw[Qt,hv,Option.toList_some,List.foldl_append];rfl
def Y0x{d o:Dg}{a b v:Int}(h:(v != a)=true):fuT d a b o v=mtD o a v (tyW d.ws b v==2):=by
 unfold fuT;rw[Q3 (by simpa using h)]
def Y0w{d o:Dg}{a b v:Int}(h:(v != a)=false):fuT d a b o v=o:=by grind [fuT]
def idC(d:Dg)(a:Int) : Bool:=spI d.ns a&&(d.ns.getD a.toNat nZ).p==0&&(nearW d.ws a).length==2
def id0(d:Dg)(a:Int) : Dg:={ d with ns:=dpN d.ns a,ws:=dpW d.ws a }
def idD(d:Dg)(a:Int) : Dg:=mtD (id0 d a) ((nearW d.ws a).getD 0 0) ((nearW d.ws a).getD 1 0) (tyW d.ws a ((nearW d.ws a).getD 0 0) != tyW d.ws a ((nearW d.ws a).getD 1 0))
def loC(d:Dg)(a:Int) : Bool:=spI d.ns a&&(d.ns.getD a.toNat nZ).p==0&&(nearW d.ws a).length==0
def loD(d:Dg)(a:Int) : Dg:={ d with ns:=dpN d.ns a,ws:=dpW d.ws a,r:=wr (d.r+2) }
def tgL(o:Dg)(x:Int)(l:List Int) : Dg:=l.foldl (fun o y=>tgD o x y) o
def Xtr{o:Dg}{x:Int}{l:List Int}{k:Nat}{v:Int}(hv:l[k]? = some v):tgL o x (l.take (k+1))=tgD (tgL o x (l.take k)) x v:=by
 unfold tgL;rw[Qt,hv,Option.toList_some,List.foldl_append];rfl
def lcC(d:Dg)(a:Int) : Bool:=spI d.ns a&&(d.ns.getD a.toNat nZ).p % 4==2&&hadD d a&&rdyD d (nearW d.ws a)
def lcS(p:Int)(l:List Int)(o:Dg) : Nat->Dg
 | 0=>o
 | i+1=>tgL { lcS p l o i with ns:=adN (lcS p l o i).ns (l.getD i 0) (8-p) } (l.getD i 0) (l.take i)
def lcD(d:Dg)(a:Int) : Dg:=
 let o:=lcS (d.ns.getD a.toNat nZ).p (nearW d.ws a) (id0 d a) (nearW d.ws a).length
 { o with t:=wr (o.t+(if (d.ns.getD a.toNat nZ).p=2 then 1 else 7)),r:=wr (o.r+(1-((nearW d.ws a).length:Int))) }
def Xmu(x:Int):∀ (l:List Int) (o:Dg),(tgL o x l).ns=o.ns/\(tgL o x l).ws.length<=o.ws.length+l.length
 | [],o=>⟨rfl,by simp[tgL]⟩
 | v::l,o=>by
  have h:=Xmu x l (tgD o x v);have h1:=X3m o x v;have e:tgL o x (v::l)=tgL (tgD o x v) x l:=rfl;rw[e];exact ⟨h.1.trans h1.1,by rw[Qs];omega⟩
def Ya0{d:Dg}{a b:Int}(h:(!(spI d.ns a)||!(spI d.ns b)||decide (b<=a)||tyW d.ws a b != 1)=true):fuC d a b=false:=by grind [fuC,spI,tyW]
def Y4h{d:Dg}{a b:Int}(h:(!(spI d.ns a)||!(spI d.ns b)||decide (b<=a)||tyW d.ws a b != 1)=false):fuC d a b=true:=by grind [fuC,spI,tyW]
def Xc5{d:Dg}{a b:Int}(h:fuC d a b=true):(0<=a/\a.toNat<d.ns.length)/\(0<=b/\b.toNat<d.ns.length):=by
 unfold fuC at h;simp only[Qd] at h;have h1:=X0z h.1.1.1;have h2:=X0z h.1.1.2;exact ⟨⟨h1.1,h1.2.1⟩,⟨h2.1,h2.2.1⟩⟩
def Ya1{d:Dg}(h:InD d)(a b:Int):0<=((dpN d.ns b).getD a.toNat nZ).p+(d.ns.getD b.toNat nZ).p/\((dpN d.ns b).getD a.toNat nZ).p+(d.ns.getD b.toNat nZ).p<=1000:=by
 have h1:=X2j (X6k h.p b) a.toNat;have h2:=X2j h.p b.toNat
 omega
def X3h(ws:List Wr)(k:Int):(dpW ws k).length<=ws.length:=List.length_filter_le _ _
def X9b(d:Dg)(a b:Int):(fu0 d a b).ns.length=d.ns.length/\(fu0 d a b).ws.length<=d.ws.length+0:=⟨(X2v _ _ _).trans (X2e _ _),X3h _ _⟩
def Xqb{d:Dg}(h:InD d)(a b:Int):PhN (fu0 d a b).ns:=X8j (X6k h.p b) _ _
def Xqv{d:Dg}{a:Int}(h:(!(spI d.ns a)||(d.ns.getD a.toNat nZ).p != 0)=true):idC d a=false/\loC d a=false:=by grind [idC,loC,nZ,spI]
def Xff{d:Dg}{a:Int}(h:(!(spI d.ns a)||(d.ns.getD a.toNat nZ).p != 0)=false):(spI d.ns a=true)/\(d.ns.getD a.toNat nZ).p=0:=by
 cases h1:spI d.ns a<;>simp[h1] at h ⊢
 exact h
def Xqw{d:Dg}{a:Int}(h:(((nearW d.ws a).length:Int) != 2)=true):idC d a=false:=by grind [idC,nearW]
def Xlh{d:Dg}{a:Int}(h1:(spI d.ns a=true)/\(d.ns.getD a.toNat nZ).p=0)(h:(((nearW d.ws a).length:Int) != 2)=false):idC d a=true/\(nearW d.ws a).length=2:=by grind [idC,nZ,nearW,spI]
def Xy4{d:Dg}{a:Int}(h1:(spI d.ns a=true)/\(d.ns.getD a.toNat nZ).p=0)(h:¬ 0<((nearW d.ws a).length:Int)):loC d a=true:=by grind [loC,nZ,nearW,spI]
def Xba{d:Dg}(h:InD d){k:Int}{j:Nat}(hj:j<(nearW d.ws k).length):0<=(nearW d.ws k).getD j 0/\((nearW d.ws k).getD j 0).toNat<d.ns.length:=X9f h (Xg (d:=0) hj)
def Y50(d:Dg)(a:Int):(idD d a).ns.length=d.ns.length:=(X8t (id0 d a) _ _ _).1.trans (X2e _ _)
def Y1a{d:Dg}{a:Int}(h:(!(spI d.ns a)||(d.ns.getD a.toNat nZ).p != 0||decide (0<((nearW d.ws a).length:Int)))=true):loC d a=false:=by grind [loC,nZ,nearW,spI]
def Xrh{d:Dg}{a:Int}(h:(!(spI d.ns a)||(d.ns.getD a.toNat nZ).p != 0||decide (0<((nearW d.ws a).length:Int)))=false):loC d a=true/\0<=a/\a.toNat<d.ns.length:=by
 rw[Bool.or_eq_false_iff] at h;have h1:=Xff h.1;have h3:=X0z h1.1;exact ⟨Xy4 h1 (Q1 h.2),h3.1,h3.2.1⟩
def Xlk{n:Nat}:∀ {l:List Int} (m:Nat),Inc l->(∀ x ∈ l,(m:Int)<=x/\x<n)->l.length+m<=n∨l=[]
 | [],_,_,_=>.inr rfl
 | x::l,m,hi,h=>by
  left;have hi':=W8.1 hi;have hx:=h x O4;rcases Xlk (m+1) hi'.2 (fun y hy=>⟨by have:=hi'.1 y hy;omega,(h y (by simp[hy])).2⟩) with h1|h1
  ·rw[Qs];omega
  ·subst h1;simp only[Qs,List.length_nil];omega
def X4t{d:Dg}(h:InD d)(k:Int):(nearW d.ws k).length<=d.ns.length:=by
 rcases Xlk (n:=d.ns.length) 0 (X3z (k:=k) h.w) (fun x hx=>by have:=X2p h hx;omega) with h1|h1
 ·omega
 ·rw[h1];simp
def Xmx{x:Int}(h:0<=x):x.tmod 4=x % 4:=Int.tmod_eq_emod_of_nonneg h
def Xrf{d:Dg}(hd:InD d){a:Int}(h:(!(spI d.ns a)||((d.ns.getD a.toNat nZ).p.tmod 4 != 2))=true):lcC d a=false:=by
 unfold lcC;rw[Xmx (X2j hd.p _).1] at h;cases h1:spI d.ns a<;>simp[h1] at h ⊢
 exact fun h2=>absurd h2 h
def Xlp{d:Dg}(hd:InD d){a:Int}(h:(!(spI d.ns a)||((d.ns.getD a.toNat nZ).p.tmod 4 != 2))=false):spI d.ns a=true/\((d.ns.getD a.toNat nZ).p=2∨(d.ns.getD a.toNat nZ).p=6):=by
 rw[Xmx (X2j hd.p _).1] at h;have h2:=X2j hd.p a.toNat
 generalize (d.ns.getD a.toNat nZ).p=x at h h2 ⊢;cases h1:spI d.ns a<;>simp[h1] at h ⊢
 omega
def Y5c{d:Dg}{a:Int}(h:(!(hadD d a)||!(rdyD d (nearW d.ws a)))=true):lcC d a=false:=by grind [hadD,lcC,nearW,rdyD]
def Xlq{d:Dg}{a:Int}(h1:spI d.ns a=true/\((d.ns.getD a.toNat nZ).p=2∨(d.ns.getD a.toNat nZ).p=6))(h:(!(hadD d a)||!(rdyD d (nearW d.ws a)))=false):lcC d a=true:=by grind [hadD,lcC,nZ,nearW,rdyD,spI]
def Xy2{x:Int}(h:x=2∨x=6):wr (1+wr (wr ((x-2).tdiv 4)*6))=if x=2 then 1 else 7:=by rcases h with h|h<;>subst h<;>decide
def Xrd{p u:Int}{l:List Int}{o:Dg}{k:Nat}(hu:l[k]? = some u):lcS p l o (k+1)=tgL { lcS p l o k with ns:=adN (lcS p l o k).ns u (8-p) } u (l.take k):=by grind [adN,lcS,tgL]
def Xre{d o:Dg}{a:Int}(h:o=lcS (d.ns.getD a.toNat nZ).p (nearW d.ws a) (id0 d a) (nearW d.ws a).length):lcD d a = { o with t:=wr (o.t+(if (d.ns.getD a.toNat nZ).p=2 then 1 else 7)),r:=wr (o.r+(1-((nearW d.ws a).length:Int))) }:=by subst h;rfl
theorem Y8a(w0:World)(d:Dg)(md:Nat)(L:md=d.ns.length)(Ad:Option Addr)(cd:Nat)(Q:Rw w0 85 encNd Ad d.ns)(Bd:Option Addr)(dd:Nat)(W:Rw w0 99 encWr Bd d.ws)(M:d.ws.length<=dd)(p:Int)(q:Int)(hD:InD d):RE 120 [.agg #[vi d.n,.slice Ad md cd,.slice Bd d.ws.length dd,vi d.t,vi d.r],vi p,vi q] w0 (fun v w=>∃ A c B e,v=.tuple #[.agg #[vi (if (fuC d p q)=true then fuD d p q else d).n,.slice A md c,.slice B (if (fuC d p q)=true then fuD d p q else d).ws.length e,vi (if (fuC d p q)=true then fuD d p q else d).t,vi (if (fuC d p q)=true then fuD d p q else d).r],.bool (fuC d p q)]/\Rw w 85 encNd A (if (fuC d p q)=true then fuD d p q else d).ns/\Rw w 99 encWr B (if (fuC d p q)=true then fuD d p q else d).ws/\(if (fuC d p q)=true then fuD d p q else d).ws.length<=e/\md=(if (fuC d p q)=true then fuD d p q else d).ns.length/\Bl w0 w):=by
 have cL:=hD.len;have cM:=hD.m;have cN:=X3e d.ws q;refine enter func120 O 69 O O ?_;intro a J;have x:=bz w0;refine ZS J fun bX=>Zf (X0n (zs:=(Zc4 d Ad md cd Bd dd)) O O) ?_;rintro _ w1 ⟨b4,rfl,bY,y,f⟩;have cH:=Q0 x.size bY;have x:=btr x y;refine Zf (X0b (zs:=Zc5) X1c O) ?_;rintro _ w2 ⟨b7,rfl,bZ,y,i⟩;have bW:b4≠b7:=by have:=f.lt;omega
 have aP:=Q0 x.size bZ;have f:=f.bw y;have x:=btr x y;refine Za O<|ZX bX fun a J _ cA=>Q5 fun _ cB=>X0i (fun a w=>Fr a 69 [(1,vi p),(2,vi q),(3,(pZ9 b4)),(6,(pZ9 b7)),(32,.bool ((((!(spI d.ns p))||(!(spI d.ns q)))||(decide (q<=p)))||((tyW d.ws p q) != 1)))]/\Bl w2 w) ?_ ?_
 ·have a6:Bl w2 w2:=Below.refl _ _;refine Zr J<|Ze (Vn X2 f)<|Zm O<|Zf (Vc (X89 _ d md L Ad cd (Q.bx x).top Bd dd (W.bx x).top M p (by rw[L];exact hD.m)) X4c) ?_;rintro _ w3 ⟨rfl,y⟩;have ⟨f,x,a6⟩:=mv3 y f x a6;refine Ze (X1i O)<|Zm O<|Zg 15 O ?_ ?_<;>intro h
  ·(iterate 4 refine Zp (gP h) ?_);refine Ze (Xc O h O)<|Zm O<|Zp (gP O) ?_;(iterate 2 refine Zp (gP O) ?_);refine Ze (Xc O O O)<|Zm O<|Zp (gP O) ?_;(iterate 4 refine Zp (gP O) ?_);exact Ze (Xc O O O)<|Zn fun a J=>⟨J.sub ⟨O,O,O,O,X1 O (by simp[h]),trivial⟩,a6⟩
  refine Zv (gW h) (Vn X2 f) ?_;refine Zv (gW h) (X5 O) ?_;refine Zk (gW h) (Vc (X89 _ d md L Ad cd (Q.bx x).top Bd dd (W.bx x).top M q (by rw[L];exact hD.m)) X4c) ?_;rintro _ w4 ⟨rfl,y⟩;have ⟨f,x,a6⟩:=mv3 y f x a6;refine Zv (gW h) (X1i O)<|Ze (Xi O h O)<|Zm O<|Zg 21 O ?_ ?_<;>intro G
  ·(iterate 3 refine Zp (gP G) ?_);refine Ze (Xc O G O)<|Zm O<|Zp (gP O) ?_;(iterate 4 refine Zp (gP O) ?_);exact Ze (Xc O O O)<|Zn fun a J=>⟨J.sub ⟨O,O,O,O,X1 O (by simp[h,G]),trivial⟩,a6⟩
  refine Zv (gW G) (X5 O) ?_;refine Zv (gW G) (X5 O) ?_;refine Zv (gW G) (X5q O O)<|Ze (Xi O G O)<|Zm O<|Zg 26 O ?_ ?_<;>intro D
  ·(iterate 5 refine Zp (gP D) ?_);exact Ze (Xc O D O)<|Zn fun a J=>⟨J.sub ⟨O,O,O,O,X1 O (by simp[h,G,D]),trivial⟩,a6⟩
  refine Zv (gW D) (Vn X2 f) ?_;refine Zv (gW D) (X5 O) ?_;refine Zv (gW D) (X5 O) ?_;refine Zk (gW D) (Vc (Xbi _ d md L Ad cd (Q.bx x).top Bd dd (W.bx x).top M p q (by have:=hD.len;omega)) X66) ?_;rintro _ w5 ⟨rfl,y⟩;have x:=btr x y;have a6:=btr a6 y;refine Zv (gW D) (X28 O O)<|Ze (Xi O D O)<|Zn fun a J=>?_;exact ⟨J.sub ⟨O,O,O,O,X1 O (by simp[h,G,D]),trivial⟩,a6⟩
 intro a w6 ⟨J,y⟩;have ⟨f,i,x⟩:=mv3 y f i x;refine cB _ _<|Xx J O ?_ ?_<;>intro aG
 ·have cC:fuC d p q=false:=Ya0 aG;refine ZS J fun aW=>Ze (Vn X2 f)<|Zo (Vw (Zc4 d Ad md cd Bd dd) Xv i) ?_;intro _ w7 ⟨ho,hb⟩;have x:=Below.oy x ho aP;have i:=hb;refine Za O<|Zt aW fun a J=>Q6<|X9<|X6 J (X1q J O (ResV.cellN (l:=(Zc4 d Ad md cd Bd dd)) O X2 (i.at 0) O) O) ?_;rw[cC,Q3 Bool.false_ne_true];exact ⟨Ad,cd,Bd,dd,O,(Q.bx x).top,(W.bx x).top,M,L,x⟩
 have aX:fuC d p q=true:=Y4h aG;have ⟨aY,aZ⟩:=Xc5 aX;refine Q7<|cA _ _<|ZS J fun b0=>Ze (Vn X2 f)<|Zf (Vc (Xd2 _ d md L Ad cd (Q.bx x).top Bd dd (W.bx x).top M ⟨by have:=hD.m;omega,by have:=hD.len;omega⟩) X7k) ?_;rintro _ w8 ⟨aH,aI,cD,cE,rfl,C,aE,y⟩;have C:=C.lower x.size;have aE:=aE.lower x.size;have ⟨f,i,x⟩:=mv3 y f i x;refine Zm O<|Zf (Vc (Xd6 _ d d.ns.length O aH aI _ C x.size cD cE aE.rd.top aE.cap q ⟨aZ.1,by omega⟩ Z) X7p) ?_;rintro _ w9 ⟨b1,b2,rfl,U,aA,b3,b5,hg⟩;have E:=C;have f:=f.appT E hg O;have i:=i.appT E hg O;have x:=Below.app x E hg (Qb _) x.size;clear E hg;clear C;have C:=U;clear U;refine ZB [vi ((Zc1 d q).n),.slice aH d.ns.length aI,.slice b1 ((Zc1 d q).ws).length b2,vi ((Zc1 d q).t),vi ((Zc1 d q).r)] X1c Xv fun b21 cO b6 y g=>?_;have b8:b4≠b21:=by have:=f.lt;omega
 have b9:b7≠b21:=by have:=i.lt;omega
 have aJ:=Q0 x.size b6;have ⟨f,i,C,aA,x⟩:=mv5 y f i C aA x;refine ZX b0 fun a J _ bC=>Xy none (fun j=>[8,9].contains j) mixed ?_;intro cP y;have ⟨f,i,g,C,aA,x⟩:=mv6 y f i g C aA x;refine Yb J<|Ye 0 O (Vn X2 g)<|YA 1 O O<|Yo 2 O (fun _=>Vd O Xn 1)<|Ye 3 O (X0 O X0f (f.at 1))<|YA 4 O O<|Yj (k:=q.toNat) (u:=(d.ns.getD q.toNat nZ)) (enc:=encNd) (l:=d.ns) 5 O tv0 O L O X00 X0o X03 (Q.bx x) (Xg aZ.2) Z ?_;intro cQ aR;refine Yo 6 O (fun _=>X2u O X0m)<|Ye 7 O (X0 O X8 (aR.drop 1))<|Y1 8<|Yt O tv0 O (Vc (Xd7 _ (Zc1 d q) d.ns.length b5 aH aI _ C x.size b1 b2 aA.top b3 p ((d.ns.getD q.toNat nZ).p) ⟨aY.1,by rw[X2e];omega⟩ (Ya1 hD p q)) X7q) ?_;rintro _ cR ⟨bD,bE,rfl,U,aB,bF,cI,hg⟩;have E:=C;have f:=f.appT E hg O;have i:=i.appT E hg O;have g:=g.appT E hg O;have x:=Below.app x E hg (Qb _) x.size;clear E hg;clear C;have C:=U;clear U;refine Y1 9<|Yh O tv0 O (Vw [vi (({ (Zc1 d q) with ns:=adN (Zc1 d q).ns p ((d.ns.getD q.toNat nZ).p) } : Dg).n),.slice aH d.ns.length aI,.slice bD (({ (Zc1 d q) with ns:=adN (Zc1 d q).ns p ((d.ns.getD q.toNat nZ).p) } : Dg).ws).length bE,vi (({ (Zc1 d q) with ns:=adN (Zc1 d q).ns p ((d.ns.getD q.toNat nZ).p) } : Dg).t),vi (({ (Zc1 d q) with ns:=adN (Zc1 d q).ns p ((d.ns.getD q.toNat nZ).p) } : Dg).r)] Xv g) ?_;intro _ cS ⟨ho,hb⟩;have f:=f.oy ho Z;have i:=i.oy ho Z;have C:=C.oT ho g O;have aB:=aB.oT ho g O;have x:=Below.oy x ho aJ;have g:=hb;refine Yd fun a J=>bC _ _<|Q5 fun _ bG=>ZS J fun bH=>Ze (Vn X2 f)<|Zm O<|Zf (Vc (Xd8 _ d md L Ad cd (Q.bx x).top Bd dd (W.bx x).top M q hD.w Z) X7r) ?_;rintro _ cT ⟨bI,bJ,rfl,H,y⟩;have H:=H.lower x.size;have ⟨f,i,g,C,aB,x⟩:=mv6 y f i g C aB x;refine Ze (X0w O Xp)<|Zm O<|Zt bH fun a J=>Q8<|X04 (σ:=Nat×Dg) (fun (s:Nat×Dg) (a:Act) (w:World)=>match s with|(k,o)=>∃ a7 a8 aC aD,Fr a 69 [(1,vi p),(2,vi q),(3,(pZ9 b4)),(6,(pZ9 b7)),(8,(pZ9 b21)),(49,.slice bI (nearW d.ws q).length bJ),(50,vi ((nearW d.ws q).length:Int)),(51,vi (k:Int))]/\(k<=(nearW d.ws q).length)/\(o=fuS d p q ((nearW d.ws q).take k) (fu0 d p q))/\(d.ns.length=o.ns.length)/\(o.ws.length<=d.ws.length+k)/\(PhN o.ns)/\Blk w b4 54 (Zc4 d Ad md cd Bd dd)/\Blk w b7 54 Zc5/\Blk w b21 54 [vi o.n,.slice a7 d.ns.length a8,.slice aC o.ws.length aD,vi o.t,vi o.r]/\Own w w0.heap.size 3 1 encI bI bJ (nearW d.ws q)/\Own w w0.heap.size 85 2 encNd a7 a8 o.ns/\Rw w 99 encWr aC o.ws/\d.ws.length<=dd/\o.ws.length<=aD/\Bl w0 w) (fun (s:Nat×Dg)=>match s with|(k,o)=>(nearW d.ws q).length-k) (0,(fu0 d p q)) ?_ ?_
 ·exact ⟨aH,aI,bD,bE,J.sb,(Qf _),O,(X9b d p q).1.symm,(X9b d p q).2,(Xqb hD p q),f,i,g,H,C,aB.top,M,bF,x⟩
 intro ⟨k,o⟩ a cU ⟨a7,a8,aC,aD,J,hk,bK,aF,cV,aK,f,i,g,H,I,N,M,aS,x⟩;refine ZS J fun bL=>Ze (X16 O O)<|ZX bL fun a J _ bM=>X0y J O (fun aT aL=>?_) (fun aT aL=>?_)
 ·have ⟨cW,cJ⟩:=Xa (l:=(nearW d.ws q)) (k:=k) Z;have ⟨u9,aU⟩:=Xa (l:=nearW d.ws q) (k:=k) (by have:=aL;omega);have cG:=X9f hD aU;have aM:=Xf9 (d:=d) (a:=p) (b:=q) (o:=fu0 d p q) aU;rw[<- bK] at aM;refine Q7<|bM _ _<|Q5 fun _ aQ=>Q8<|ZS J fun bN=>Zi (k:=k) (u:=u9) (enc:=encI) (l:=(nearW d.ws q)) tv0 O O Xp X0p Xj H.rd aU O ?_;intro cX aV;refine Ze (X0 O X8 aV)<|Za O<|Zx bN fun a J _ bO=>Zm O<|Zm O<|Ze (X28 O O)<|Zt bO fun a J=>Xx J O ?_ ?_<;>intro aN
  ·rw[Y0x aN] at aM;refine Xy none (fun j=>[8,9].contains j) mixed ?_;intro cY y;have ⟨f,i,g,H,I,N,x⟩:=mv7 y f i g H I N x;refine Yb J<|Ye 0 O (Vn X2 g)<|YA 1 O O<|YA 2 O O<|Ye 3 O (Vn X2 f)<|YA 4 O O<|YA 5 O O<|Y1 6<|Yk O tv0 (Vc (Xbi _ d md L Ad cd (Q.bx x).top Bd dd (W.bx x).top M q u9 (by have:=hD.len;omega)) X66) (fun _ _ ⟨_,y⟩=>y) ?_;rintro _ d5 ⟨rfl,y⟩;have ⟨f,i,g,H,I,N,x⟩:=mv7 y f i g H I N x;refine Yo 7 O (fun _=>X0l O O)<|Y1 8<|Yt O tv0 O (Vc (Y00 _ o d.ns.length aF a7 a8 _ I x.size aC aD N.top aS p u9 ((tyW d.ws q u9)==2) Z ⟨⟨aY.1,by omega⟩,⟨cG.1,by omega⟩⟩ aK Z) Xl8) ?_;rintro _ d6 ⟨bP,bQ,rfl,U,aO,bR,cK,hg⟩;have E:=I;have f:=f.appT E hg O;have i:=i.appT E hg O;have g:=g.appT E hg O;have H:=H.appT E hg O;have x:=Below.app x E hg (Qb _) x.size;clear E hg;clear I;have I:=U;clear U;refine Y1 9<|Yh O tv0 O (Vw [vi ((mtD o p u9 ((tyW d.ws q u9)==2)).n),.slice a7 d.ns.length a8,.slice bP ((mtD o p u9 ((tyW d.ws q u9)==2)).ws).length bQ,vi ((mtD o p u9 ((tyW d.ws q u9)==2)).t),vi ((mtD o p u9 ((tyW d.ws q u9)==2)).r)] Xv g) ?_;intro _ d7 ⟨ho,hb⟩;have f:=f.oy ho Z;have i:=i.oy ho Z;have H:=H.oT ho g O;have I:=I.oT ho g O;have aO:=aO.oT ho g O;have x:=Below.oy x ho aJ;have g:=hb;exact Yd fun a J=>Xd<|aQ _ _<|Zr J<|Ze (Xr O O Z Z)<|Zm O<|Zn fun a J=>Xh<|⟨(k+1,(mtD o p u9 ((tyW d.ws q u9)==2))),⟨a7,a8,bP,bQ,J.sb,Z,(by rw[aM]),(by first|exact aF|exact aF.trans (X8t _ _ _ _).1.symm),(by first|omega|(have:=(X8t o p u9 (tyW d.ws q u9==2)).2;omega)),(by first|exact aK|exact Xrk aK _ _ _),f,i,g,H,I,aO.top,M,bR,x⟩,O1⟩
  rw[Y0w aN] at aM;exact Q7<|Xd<|aQ _ _<|Zr J<|Ze (Xr O O Z Z)<|Zm O<|Zn fun a J=>Xh<|⟨(k+1,o),⟨a7,a8,aC,aD,J.sb,Z,(by rw[aM]),(by first|exact aF|exact aF.trans (X8t _ _ _ _).1.symm),(by first|omega|(have:=(X8t o p u9 (tyW d.ws q u9==2)).2;omega)),(by first|exact aK|exact Xrk aK _ _ _),f,i,g,H,I,N.top,M,aS,x⟩,O1⟩
 have bS:o=fuD d p q:=by rw[bK,Qi (by have:=aL;omega)];rfl
 refine Q9<|Xk<|Xk<|X06<|bG _ _<|ZS J fun bU=>Ze (Vn X2 g)<|Zo (Vw [vi o.n,.slice a7 d.ns.length a8,.slice aC o.ws.length aD,vi o.t,vi o.r] Xv i) ?_;intro _ d8 ⟨ho,hb⟩;have I:=I.oT ho i O;have N:=N.oT ho i O;have x:=Below.oy x ho aP;have i:=hb;refine Za O<|Zt bU fun a J=>Q6 (X6 J (X1q J O (ResV.cellN (l:=[vi o.n,.slice a7 d.ns.length a8,.slice aC o.ws.length aD,vi o.t,vi o.r]) O X2 (i.at 0) O) O) ?_);rw[aX,Q4 O,<- bS,L];exact ⟨a7,a8,aC,aD,O,I.rd.top,N.top,aS,aF,x⟩
theorem Y8c(w0:World)(d:Dg)(md:Nat)(y:md=d.ns.length)(Ad:Option Addr)(cd:Nat)(D:Rw w0 85 encNd Ad d.ns)(Bd:Option Addr)(dd:Nat)(G:Rw w0 99 encWr Bd d.ws)(I:d.ws.length<=dd)(p:Int)(hD:InD d):RE 122 [.agg #[vi d.n,.slice Ad md cd,.slice Bd d.ws.length dd,vi d.t,vi d.r],vi p] w0 (fun v w=>∃ A c B e,v=.tuple #[.agg #[vi (if (idC d p)=true then idD d p else d).n,.slice A md c,.slice B (if (idC d p)=true then idD d p else d).ws.length e,vi (if (idC d p)=true then idD d p else d).t,vi (if (idC d p)=true then idD d p else d).r],.bool (idC d p)]/\Rw w 85 encNd A (if (idC d p)=true then idD d p else d).ns/\Rw w 99 encWr B (if (idC d p)=true then idD d p else d).ws/\(if (idC d p)=true then idD d p else d).ws.length<=e/\md=(if (idC d p)=true then idD d p else d).ns.length/\Bl w0 w):=by
 have bI:=hD.len;have bJ:=hD.m;have bK:=X3e d.ws p;refine enter func122 O 52 O O ?_;intro a H;have g:=bz w0;refine ZS H fun b2=>Zf (X0n (zs:=(Zc4 d Ad md cd Bd dd)) O O) ?_;rintro _ w1 ⟨b4,rfl,b3,q,C⟩;have bC:=Q0 g.size b3;have g:=btr g q;refine Zf (X0b (zs:=Zc5) X1c O) ?_;rintro _ w2 ⟨b7,rfl,b5,q,i⟩;have b1:b4≠b7:=by have:=C.lt;omega
 have a8:=Q0 g.size b5;have C:=C.bw q;have g:=btr g q;refine Za O<|ZX b2 fun a H _ b6=>Q5 fun _ b8=>X0i (fun a w=>Fr a 52 [(1,vi p),(2,(pZ9 b4)),(4,(pZ9 b7)),(19,.bool ((!(spI d.ns p))||(((d.ns.getD p.toNat nZ).p) != 0)))]/\Bl w2 w) ?_ ?_
 ·have aE:Bl w2 w2:=Below.refl _ _;refine Zr H<|Ze (Vn X2 C)<|Zm O<|Zf (Vc (X89 _ d md y Ad cd (D.bx g).top Bd dd (G.bx g).top I p (by rw[y];exact hD.m)) X4c) ?_;rintro _ w3 ⟨rfl,q⟩;have ⟨C,g,aE⟩:=mv3 q C g aE;refine Ze (X1i O)<|Zm O<|Zg 11 O ?_ ?_<;>intro b
  ·(iterate 7 refine Zp (gP b) ?_);exact Ze (Xc O b O)<|Zn fun a H=>⟨H.sub ⟨O,O,O,X1 O (by simp[b]),trivial⟩,aE⟩
  have aH:0<=p/\p.toNat<d.ns.length:=by have W:=X0z (ns:=d.ns) (k:=p) (by simpa using b);exact ⟨W.1,W.2.1⟩
  refine Zv (gW b) (Vd O Xn 1) ?_;refine Zv (gW b) (X0 O X0f (C.at 1)) ?_;refine Zv (gW b) (X5 O) ?_;refine Zj (k:=p.toNat) (u:=(d.ns.getD p.toNat nZ)) (enc:=encNd) (l:=d.ns) ⟨_,_,O,O,b⟩ O y O X00 X0o X03 (D.bx g) (Xg aH.2) Z ?_;intro bL aI;refine Zv (gW b) (X2u O X0m) ?_;refine Zv (gW b) (X0 O X8 (aI.drop 1)) ?_;refine Zv (gW b) (X28 O O)<|Ze (Xi O b O)<|Zn fun a H=>?_;exact ⟨H.sub ⟨O,O,O,X1 O (by simp[b]),trivial⟩,aE⟩
 intro a w4 ⟨H,q⟩;have ⟨C,i,g⟩:=mv3 q C i g;refine b8 _ _<|Xx H O ?_ ?_<;>intro aA
 ·have ⟨aJ,bD⟩:=Xqv aA;refine ZS H fun aO=>Ze (Vn X2 C)<|Zo (Vw (Zc4 d Ad md cd Bd dd) Xv i) ?_;intro _ w5 ⟨ho,hb⟩;have g:=Below.oy g ho a8;have i:=hb;refine Za O<|Zt aO fun a H=>Q6<|X9<|X6 H (X1q H O (ResV.cellN (l:=(Zc4 d Ad md cd Bd dd)) O X2 (i.at 0) O) O) ?_;rw[aJ,Q3 Bool.false_ne_true];exact ⟨Ad,cd,Bd,dd,O,(D.bx g).top,(G.bx g).top,I,y,g⟩
 have aK:=Xff aA;have aH:0<=p/\p.toNat<d.ns.length:=⟨(X0z aK.1).1,(X0z aK.1).2.1⟩;refine Q7<|b6 _ _<|ZS H fun aP=>Ze (Vn X2 C)<|Zm O<|Zf (Vc (Xd8 _ d md y Ad cd (D.bx g).top Bd dd (G.bx g).top I p hD.w Z) X7r) ?_;rintro _ w6 ⟨bM,bN,rfl,E,q⟩;have E:=E.lower g.size;have ⟨C,i,g⟩:=mv3 q C i g;refine Za O<|ZX aP fun a H _ aQ=>ZS H fun aR=>Zm O<|Ze (X0w O Xp)<|Ze (X28 O O)<|Zt aR fun a H=>Xx H O ?_ ?_<;>intro aB
 ·have aJ:=Xqw aB;refine ZS H fun aS=>Ze (Vn X2 C)<|Zo (Vw (Zc4 d Ad md cd Bd dd) Xv i) ?_;intro _ w7 ⟨ho,hb⟩;have g:=Below.oy g ho a8;have i:=hb;refine Za O<|Zt aS fun a H=>Q6<|X9<|X6 H (X1q H O (ResV.cellN (l:=(Zc4 d Ad md cd Bd dd)) O X2 (i.at 0) O) O) ?_;rw[aJ,Q3 Bool.false_ne_true];exact ⟨Ad,cd,Bd,dd,O,(D.bx g).top,(G.bx g).top,I,y,g⟩
 have ⟨b9,bO⟩:=Xlh aK aB;have aT:=Xba hD (k:=p) (j:=0) Z;have aU:=Xba hD (k:=p) (j:=1) Z;refine Q7<|aQ _ _<|Q5 fun _ aV=>Xy (some (.base w6.heap.size)) (fun j=>[23,24].contains j) mixed ?_;have aC:=C;have bF:=(D.bx g);have bG:=(G.bx g);have Q:=E;intro w8 q;have o:=q;have ⟨i,E,g⟩:=mv3 q i E g;refine Yb H<|Yn 0 O tv0 o.size (fun w9 W=>by have J:=aC.bw (o.trans W);exact X07 (l:=(Zc4 d Ad md cd Bd dd)) rfl X2 (J.at 0) rfl)<|YA 2 O O<|YA 4 O O<|Yo 5 O (fun _=>Xm (k:=0) O O Xp X0p E O O Z)<|Yn 6 O tv0 o.size (fun w9 W=>by have x:=Q.bw (o.trans W);exact X0 rfl X8 (X19 x Xj (Xg (k:=0) (d:=(0:Int)) Z) 0 rfl))<|YA 7 O O<|Yo 8 O (fun _=>Xm (k:=1) O O Xp X0p E O O Z)<|Yn 9 O tv0 o.size (fun w9 W=>by have x:=Q.bw (o.trans W);exact X0 rfl X8 (X19 x Xj (Xg (k:=1) (d:=(0:Int)) Z) 0 rfl)) ?_;refine Yn 10 O tv0 o.size (fun w9 W=>by have J:=aC.bw (o.trans W);exact X07 (l:=(Zc4 d Ad md cd Bd dd)) rfl X2 (J.at 0) rfl)<|YA 11 O O<|YA 12 O O<|Yo 13 O (fun _=>Xm (k:=0) O O Xp X0p E O O Z)<|Yn 14 O tv0 o.size (fun w9 W=>by have x:=Q.bw (o.trans W);exact X0 rfl X8 (X19 x Xj (Xg (k:=0) (d:=(0:Int)) Z) 0 rfl)) ?_;refine Yn 16 O tv0 o.size (fun w9 W=>by have J:=aC.bw (o.trans W);exact X07 (l:=(Zc4 d Ad md cd Bd dd)) rfl X2 (J.at 0) rfl)<|YA 17 O O<|YA 18 O O<|Yo 19 O (fun _=>Xm (k:=1) O O Xp X0p E O O Z)<|Yn 20 O tv0 o.size (fun w9 W=>by have x:=Q.bw (o.trans W);exact X0 rfl X8 (X19 x Xj (Xg (k:=1) (d:=(0:Int)) Z) 0 rfl)) ?_;refine Y1 1<|Yf O tv0 (EfW.mono (Vc (Xd2 _ d md y Ad cd (D.bx g).top Bd dd (G.bx g).top I ⟨by omega,by omega⟩) X7k) (fun _ _ h=>⟨fun _=>by obtain ⟨a6,a7,aW,aX,rfl,f,U,q⟩:=h;exact Keep.of_below q,h⟩)) ?_;rintro _ w9 ⟨a6,a7,aW,aX,rfl,f,U,q⟩;have aL:∀ k,ownB a6=some k->w6.heap.size<=k:=fun k hk=>Q0 o.size (X2w f hk);have f:=f.lower g.size;have U:=U.lower g.size;have ⟨i,o,g⟩:=mv3 q i o g;refine Y1 3<|Yf O tv0 (EfW.mono (Vc (Xd6 _ d d.ns.length O a6 a7 _ f g.size aW aX U.rd.top U.cap p aH Z) X7p) (fun _ _ h=>⟨fun _=>by obtain ⟨aY,aZ,rfl,M,N,aF,aG,hg⟩:=h;exact Xr1 hg aL,h⟩)) ?_;rintro _ bP ⟨aY,aZ,rfl,M,N,aF,aG,hg⟩;have L:=f;have i:=i.appT L hg O;have o:=o.trans (Xdc hg aL o.size);have g:=Below.app g L hg (Qb _) g.size;clear L hg;clear f;have f:=M;clear M;refine Y1 15<|Yf O tv0 (EfW.mono (Vc (Xbi _ d md y Ad cd (D.bx g).top Bd dd (G.bx g).top I p ((nearW d.ws p).getD 0 0) Z) X66) (fun _ _ h=>⟨fun _=>by obtain ⟨rfl,q⟩:=h;exact Keep.of_below q,h⟩)) ?_;rintro _ bQ ⟨rfl,q⟩;have ⟨i,f,N,o,g⟩:=mv5 q i f N o g;refine Y1 21<|Yf O tv0 (EfW.mono (Vc (Xbi _ d md y Ad cd (D.bx g).top Bd dd (G.bx g).top I p ((nearW d.ws p).getD 1 0) Z) X66) (fun _ _ h=>⟨fun _=>by obtain ⟨rfl,q⟩:=h;exact Keep.of_below q,h⟩)) ?_;rintro _ bR ⟨rfl,q⟩;have ⟨i,f,N,o,g⟩:=mv5 q i f N o g;refine Yo 22 O (fun _=>X28 O O)<|Y1 23<|Yt O tv0 O (Vc (Y00 _ (Zc1 d p) d.ns.length aG a6 a7 _ f g.size aY aZ N.top aF ((nearW d.ws p).getD 0 0) ((nearW d.ws p).getD 1 0) ((tyW d.ws p ((nearW d.ws p).getD 0 0)) != (tyW d.ws p ((nearW d.ws p).getD 1 0))) (by have:=X3h d.ws p;dsimp only;omega) ⟨⟨aT.1,by rw[X2e];exact aT.2⟩,⟨aU.1,by rw[X2e];exact aU.2⟩⟩ (X6k hD.p p) Z) Xl8) ?_;rintro _ bS ⟨aM,aN,rfl,M,aD,b0,bH,hg⟩;have L:=f;have i:=i.appT L hg O;have o:=o.trans (Xdc hg aL o.size);have g:=Below.app g L hg (Qb _) g.size
 clear L hg;clear f;have f:=M;clear M;refine Y1 24<|Yh O tv0 O (Vw [vi ((mtD (Zc1 d p) ((nearW d.ws p).getD 0 0) ((nearW d.ws p).getD 1 0) ((tyW d.ws p ((nearW d.ws p).getD 0 0)) != (tyW d.ws p ((nearW d.ws p).getD 1 0)))).n),.slice a6 d.ns.length a7,.slice aM ((mtD (Zc1 d p) ((nearW d.ws p).getD 0 0) ((nearW d.ws p).getD 1 0) ((tyW d.ws p ((nearW d.ws p).getD 0 0)) != (tyW d.ws p ((nearW d.ws p).getD 1 0)))).ws).length aN,vi ((mtD (Zc1 d p) ((nearW d.ws p).getD 0 0) ((nearW d.ws p).getD 1 0) ((tyW d.ws p ((nearW d.ws p).getD 0 0)) != (tyW d.ws p ((nearW d.ws p).getD 1 0)))).t),vi ((mtD (Zc1 d p) ((nearW d.ws p).getD 0 0) ((nearW d.ws p).getD 1 0) ((tyW d.ws p ((nearW d.ws p).getD 0 0)) != (tyW d.ws p ((nearW d.ws p).getD 1 0)))).r)] Xv i) ?_;intro _ bU ⟨ho,hb⟩;have f:=f.oT ho i O;have aD:=aD.oT ho i O;have g:=Below.oy g ho a8;have i:=hb;refine YD 25 O O<|Yd fun a H=>aV _ _<|Q6 (X6 H (X1q H O (ResV.cellN (l:=[vi ((mtD (Zc1 d p) ((nearW d.ws p).getD 0 0) ((nearW d.ws p).getD 1 0) ((tyW d.ws p ((nearW d.ws p).getD 0 0)) != (tyW d.ws p ((nearW d.ws p).getD 1 0)))).n),.slice a6 d.ns.length a7,.slice aM ((mtD (Zc1 d p) ((nearW d.ws p).getD 0 0) ((nearW d.ws p).getD 1 0) ((tyW d.ws p ((nearW d.ws p).getD 0 0)) != (tyW d.ws p ((nearW d.ws p).getD 1 0)))).ws).length aN,vi ((mtD (Zc1 d p) ((nearW d.ws p).getD 0 0) ((nearW d.ws p).getD 1 0) ((tyW d.ws p ((nearW d.ws p).getD 0 0)) != (tyW d.ws p ((nearW d.ws p).getD 1 0)))).t),vi ((mtD (Zc1 d p) ((nearW d.ws p).getD 0 0) ((nearW d.ws p).getD 1 0) ((tyW d.ws p ((nearW d.ws p).getD 0 0)) != (tyW d.ws p ((nearW d.ws p).getD 1 0)))).r)]) O X2 (i.at 0) O) O) ?_);rw[b9,Q4 O,y];exact ⟨a6,a7,aM,aN,O,f.rd.top,aD.top,b0,(Y50 d p).symm,g⟩
theorem Y8e(w0:World)(d:Dg)(md:Nat)(x:md=d.ns.length)(Ad:Option Addr)(cd:Nat)(D:Rw w0 85 encNd Ad d.ns)(Bd:Option Addr)(dd:Nat)(G:Rw w0 99 encWr Bd d.ws)(H:d.ws.length<=dd)(p:Int)(hD:InD d):RE 124 [.agg #[vi d.n,.slice Ad md cd,.slice Bd d.ws.length dd,vi d.t,vi d.r],vi p] w0 (fun v w=>∃ A c B e,v=.tuple #[.agg #[vi (if (loC d p)=true then loD d p else d).n,.slice A md c,.slice B (if (loC d p)=true then loD d p else d).ws.length e,vi (if (loC d p)=true then loD d p else d).t,vi (if (loC d p)=true then loD d p else d).r],.bool (loC d p)]/\Rw w 85 encNd A (if (loC d p)=true then loD d p else d).ns/\Rw w 99 encWr B (if (loC d p)=true then loD d p else d).ws/\(if (loC d p)=true then loD d p else d).ws.length<=e/\md=(if (loC d p)=true then loD d p else d).ns.length/\Bl w0 w):=by
 have aX:=hD.len;have aY:=hD.m;have aZ:=X3e d.ws p;refine enter func124 O 37 O O ?_;intro a h;have g:=bz w0;refine ZS h fun aM=>Zf (X0n (zs:=(Zc4 d Ad md cd Bd dd)) O O) ?_;rintro _ w1 ⟨b4,rfl,aN,q,o⟩;have aV:=Q0 g.size aN;have g:=btr g q;refine Zf (X0b (zs:=Zc5) X1c O) ?_;rintro _ w2 ⟨b7,rfl,aO,q,j⟩;have aL:b4≠b7:=by have:=o.lt;omega
 have a6:=Q0 g.size aO;have o:=o.bw q;have g:=btr g q;refine Za O<|ZX aM fun a h _ aP=>Q5 fun _ aQ=>X0i (fun a w=>Fr a 37 [(1,vi p),(2,(pZ9 b4)),(4,(pZ9 b7)),(26,.bool (((!(spI d.ns p))||(((d.ns.getD p.toNat nZ).p) != 0))||(decide (0<((nearW d.ws p).length:Int)))))]/\Bl w2 w) ?_ ?_
 ·have E:Bl w2 w2:=Below.refl _ _;refine Zr h<|Ze (Vn X2 o)<|Zm O<|Zf (Vc (X89 _ d md x Ad cd (D.bx g).top Bd dd (G.bx g).top H p (by rw[x];exact hD.m)) X4c) ?_;rintro _ w3 ⟨rfl,q⟩;have ⟨o,g,E⟩:=mv3 q o g E;refine Ze (X1i O)<|Zm O<|Zg 11 O ?_ ?_<;>intro b
  ·(iterate 7 refine Zp (gP b) ?_);refine Ze (Xc O b O)<|Zm O<|Zp (gP O) ?_;(iterate 4 refine Zp (gP O) ?_);exact Ze (Xc O O O)<|Zn fun a h=>⟨h.sub ⟨O,O,O,X1 O (by first|rfl|(simp only[b,bs];done)|simp[b]),trivial⟩,E⟩
  have aA:0<=p/\p.toNat<d.ns.length:=by have h9:=X0z (ns:=d.ns) (k:=p) (by simpa using b);exact ⟨h9.1,h9.2.1⟩
  refine Zv (gW b) (Vd O Xn 1) ?_;refine Zv (gW b) (X0 O X0f (o.at 1)) ?_;refine Zv (gW b) (X5 O) ?_;refine Zj (k:=p.toNat) (u:=(d.ns.getD p.toNat nZ)) (enc:=encNd) (l:=d.ns) ⟨_,_,O,O,b⟩ O x O X00 X0o X03 (D.bx g) (Xg aA.2) Z ?_;intro b0 aB;refine Zv (gW b) (X2u O X0m) ?_;refine Zv (gW b) (X0 O X8 (aB.drop 1)) ?_;refine Zv (gW b) (X28 O O)<|Ze (Xi O b O)<|Zm O<|Zg 20 O ?_ ?_<;>intro f
  ·(iterate 5 refine Zp (gP f) ?_);exact Ze (Xc O f O)<|Zn fun a h=>⟨h.sub ⟨O,O,O,X1 O (by first|rfl|(simp only[b,f,bs];done)|simp[b,f]),trivial⟩,E⟩
  refine Zv (gW f) (Vn X2 o) ?_;refine Zv (gW f) (X5 O) ?_;refine Zk (gW f) (Vc (Xd8 _ d md x Ad cd (D.bx g).top Bd dd (G.bx g).top H p hD.w Z) X7r) ?_;rintro _ w4 ⟨b1,b2,rfl,a7,q⟩;have a7:=a7.lower g.size;have g:=btr g q;have E:=btr E q;refine Zv (gW f) (X0w O Xp) ?_;refine Zv (gW f) (X52 O O) ?_;exact Ze (Xi O f O)<|Zn fun a h=>⟨h.sub ⟨O,O,O,X1 O (by first|rfl|(simp only[b,f,bs];done)|simp[b,f]),trivial⟩,E⟩
 intro a w5 ⟨h,q⟩;have ⟨o,j,g⟩:=mv3 q o j g;refine aQ _ _<|Xx h O ?_ ?_<;>intro N
 ·have aR:=Y1a N;refine ZS h fun aD=>Ze (Vn X2 o)<|Zo (Vw (Zc4 d Ad md cd Bd dd) Xv j) ?_;intro _ w6 ⟨W,hb⟩;have g:=Below.oy g W a6;have j:=hb;refine Za O<|Zt aD fun a h=>Q6<|X9<|X6 h (X1q h O (ResV.cellN (l:=(Zc4 d Ad md cd Bd dd)) O X2 (j.at 0) O) O) ?_;rw[aR,Q3 Bool.false_ne_true];exact ⟨Ad,cd,Bd,dd,O,(D.bx g).top,(G.bx g).top,H,x,g⟩
 have ⟨aS,aA⟩:=Xrh N;refine Q7<|aP _ _<|ZS h fun aE=>Ze (Vn X2 o)<|Zf (Vc (Xd2 _ d md x Ad cd (D.bx g).top Bd dd (G.bx g).top H ⟨by omega,by omega⟩) X7k) ?_;rintro _ w7 ⟨L,M,aT,aU,rfl,i,I,q⟩;have i:=i.lower g.size;have I:=I.lower g.size;have ⟨o,j,g⟩:=mv3 q o j g;refine Zm O<|Zf (Vc (Xd6 _ d d.ns.length O L M _ i g.size aT aU I.rd.top I.cap p aA Z) X7p) ?_;rintro _ w8 ⟨Q,U,rfl,a8,y,aF,aW,hg⟩;have J:=i;have o:=o.appT J hg O;have j:=j.appT J hg O;have g:=Below.app g J hg (Qb _) g.size;clear J hg;clear i;have i:=a8;clear a8;refine ZB [vi ((Zc1 d p).n),.slice L d.ns.length M,.slice Q ((Zc1 d p).ws).length U,vi ((Zc1 d p).t),vi ((Zc1 d p).r)] X1c Xv fun b23 b3 aG q C=>?_;have aH:b4≠b23:=by have:=o.lt;omega
 have aI:b7≠b23:=by have:=j.lt;omega
 have aC:=Q0 g.size aG;have ⟨j,i,y,g⟩:=mv4 q j i y g;refine Zx aE fun a h _ aJ=>Ze (Vd O X0h 4)<|Ze (X0 O X8 (C.at 4))<|Ze (X3b O O)<|Ze (Vd O X0h 4)<|Zo (Vu (vs:=[vi (wr (((Zc1 d p).r)+2))]) (l':=[vi ((Zc1 d p).n),.slice L d.ns.length M,.slice Q ((Zc1 d p).ws).length U,vi ((Zc1 d p).t),vi (wr (((Zc1 d p).r)+2))]) O O X0p C) ?_;intro _ b5 ⟨W,hb⟩;have j:=j.oy W Z;have i:=i.oT W C O;have y:=y.oT W C O;have g:=Below.oy g W aC;have C:=hb;refine Zx aJ fun a h _ aK=>Ze (Vn X2 C)<|Zo (Vw [vi ((Zc1 d p).n),.slice L d.ns.length M,.slice Q ((Zc1 d p).ws).length U,vi ((Zc1 d p).t),vi (wr (((Zc1 d p).r)+2))] Xv j) ?_;intro _ b6 ⟨W,hb⟩;have i:=i.oT W j O;have y:=y.oT W j O;have g:=Below.oy g W a6;have j:=hb;refine Za O<|Zt aK fun a h=>Q6 (X6 h (X1q h O (ResV.cellN (l:=[vi ((Zc1 d p).n),.slice L d.ns.length M,.slice Q ((Zc1 d p).ws).length U,vi ((Zc1 d p).t),vi (wr (((Zc1 d p).r)+2))]) O X2 (j.at 0) O) O) ?_);rw[aS,Q4 O,x];exact ⟨L,M,Q,U,O,i.rd.top,y.top,aF,(X2e _ _).symm,g⟩
theorem Y8d(w0:World)(d:Dg)(md:Nat)(H:md=d.ns.length)(Ad:Option Addr)(cd:Nat)(J:Rw w0 85 encNd Ad d.ns)(Bd:Option Addr)(dd:Nat)(W:Rw w0 99 encWr Bd d.ws)(E:d.ws.length<=dd)(p:Int)(hD:InD d):RE 123 [.agg #[vi d.n,.slice Ad md cd,.slice Bd d.ws.length dd,vi d.t,vi d.r],vi p] w0 (fun v w=>∃ A c B e,v=.tuple #[.agg #[vi (if (lcC d p)=true then lcD d p else d).n,.slice A md c,.slice B (if (lcC d p)=true then lcD d p else d).ws.length e,vi (if (lcC d p)=true then lcD d p else d).t,vi (if (lcC d p)=true then lcD d p else d).r],.bool (lcC d p)]/\Rw w 85 encNd A (if (lcC d p)=true then lcD d p else d).ns/\Rw w 99 encWr B (if (lcC d p)=true then lcD d p else d).ws/\(if (lcC d p)=true then lcD d p else d).ws.length<=e/\md=(if (lcC d p)=true then lcD d p else d).ns.length/\Bl w0 w):=by
 have dK:=hD.len;have dL:=hD.m;have dM:=X3e d.ws p;have dD:=X4t hD p;have dN:=X2j hD.p p.toNat;refine enter func123 O 95 O O ?_;intro a x;have i:=bz w0;refine ZS x fun cU=>Zf (X0n (zs:=(Zc4 d Ad md cd Bd dd)) O O) ?_;rintro _ w1 ⟨b4,rfl,cV,G,y⟩;have dE:=Q0 i.size cV;have i:=btr i G;refine Zf (X0b (zs:=Zc5) X1c O) ?_;rintro _ w2 ⟨b7,rfl,cW,G,g⟩;have cT:b4≠b7:=by have:=y.lt;omega
 have aJ:=Q0 i.size cW;have y:=y.bw G;have i:=btr i G;refine Za O<|ZX cU fun a x _ cX=>Q5 fun _ cY=>X0i (fun a w=>Fr a 95 [(1,vi p),(2,(pZ9 b4)),(4,(pZ9 b7)),(26,.bool ((!(spI d.ns p))||((((d.ns.getD p.toNat nZ).p).tmod 4) != 2)))]/\Bl w2 w) ?_ ?_
 ·have a6:Bl w2 w2:=Below.refl _ _;refine Zr x<|Ze (Vn X2 y)<|Zm O<|Zf (Vc (X89 _ d md H Ad cd (J.bx i).top Bd dd (W.bx i).top E p (by rw[H];exact hD.m)) X4c) ?_;rintro _ w3 ⟨rfl,G⟩;have ⟨y,i,a6⟩:=mv3 G y i a6;refine Ze (X1i O)<|Zm O<|Zg 17 O ?_ ?_<;>intro q
  ·(iterate 8 refine Zp (gP q) ?_);exact Ze (Xc O q O)<|Zn fun a x=>⟨x.sub ⟨O,O,O,X1 O (by simp[q]),trivial⟩,a6⟩
  have aS:0<=p/\p.toNat<d.ns.length:=by have h9:=X0z (ns:=d.ns) (k:=p) (by simpa using q);exact ⟨h9.1,h9.2.1⟩
  refine Zv (gW q) (Vd O Xn 1) ?_;refine Zv (gW q) (X0 O X0f (y.at 1)) ?_;refine Zv (gW q) (X5 O) ?_;refine Zj (k:=p.toNat) (u:=(d.ns.getD p.toNat nZ)) (enc:=encNd) (l:=d.ns) ⟨_,_,O,O,q⟩ O H O X00 X0o X03 (J.bx i) (Xg aS.2) Z ?_;intro dO aV;refine Zv (gW q) (X2u O X0m) ?_;refine Zv (gW q) (X0 O X8 (aV.drop 1)) ?_;refine Zv (gW q) (X46 O O O) ?_;refine Zv (gW q) (X28 O O)<|Ze (Xi O q O)<|Zn fun a x=>?_;exact ⟨x.sub ⟨O,O,O,X1 O (by simp[q]),trivial⟩,a6⟩
 intro a w4 ⟨x,G⟩;have ⟨y,g,i⟩:=mv3 G y g i;refine cY _ _<|Xx x O ?_ ?_<;>intro a7
 ·have aW:=Xrf hD a7;refine ZS x fun bC=>Ze (Vn X2 y)<|Zo (Vw (Zc4 d Ad md cd Bd dd) Xv g) ?_;intro _ w5 ⟨I,hb⟩;have i:=Below.oy i I aJ;have g:=hb;refine Za O<|Zt bC fun a x=>Q6<|X9<|X6 x (X1q x O (ResV.cellN (l:=(Zc4 d Ad md cd Bd dd)) O X2 (g.at 0) O) O) ?_;rw[aW,Q3 Bool.false_ne_true];exact ⟨Ad,cd,Bd,dd,O,(J.bx i).top,(W.bx i).top,E,H,i⟩
 have aT:=Xlp hD a7;have aS:0<=p/\p.toNat<d.ns.length:=⟨(X0z aT.1).1,(X0z aT.1).2.1⟩;refine Q7<|cX _ _<|ZS x fun bD=>Ze (Vn X2 y)<|Zm O<|Zf (Vc (Xd8 _ d md H Ad cd (J.bx i).top Bd dd (W.bx i).top E p hD.w Z) X7r) ?_;rintro _ w6 ⟨aB,aC,rfl,f,G⟩;have f:=f.lower i.size;have ⟨y,g,i⟩:=mv3 G y g i;refine Za O<|ZX bD fun a x _ bE=>Q5 fun _ bF=>X0i (fun a w=>Fr a 95 [(1,vi p),(2,(pZ9 b4)),(4,(pZ9 b7)),(6,.slice aB (nearW d.ws p).length aC),(40,.bool ((!(hadD d p))||(!(rdyD d (nearW d.ws p)))))]/\Bl w6 w) ?_ ?_
 ·have a6:Bl w6 w6:=Below.refl _ _;refine Zr x<|Ze (Vn X2 y)<|Zm O<|Zf (Vc (Xol _ d md H Ad cd (J.bx i).top Bd dd (W.bx i).top E p hD.w Z) Xf5) ?_;rintro _ w7 ⟨rfl,G⟩;have ⟨y,f,i,a6⟩:=mv4 G y f i a6;refine Ze (X1i O)<|Zm O<|Zg 35 O ?_ ?_<;>intro C
  ·(iterate 4 refine Zp (gP C) ?_);exact Ze (Xc O C O)<|Zn fun a x=>⟨x.sub ⟨O,O,O,O,X1 O (by simp[a7,C]),trivial⟩,a6⟩
  refine Zv (gW C) (Vn X2 y) ?_;refine Zv (gW C) (X5 O) ?_;refine Zk (gW C) (Vc (Y02 _ d md H Ad cd (J.bx i).top Bd dd (W.bx i).top E aB aC (nearW d.ws p) f.rd.top Z Z Z f.cap) Xla) ?_;rintro _ w8 ⟨rfl,G⟩;have i:=btr i G;have a6:=btr a6 G;refine Zv (gW C) (X1i O)<|Ze (Xi O C O)<|Zn fun a x=>?_;exact ⟨x.sub ⟨O,O,O,O,X1 O (by simp[a7,C]),trivial⟩,a6⟩
 intro a w9 ⟨x,G⟩;have ⟨y,g,f,i⟩:=mv4 G y g f i;refine bF _ _<|Xx x O ?_ ?_<;>intro aK
 ·have aW:=Y5c aK;refine ZS x fun bG=>Ze (Vn X2 y)<|Zo (Vw (Zc4 d Ad md cd Bd dd) Xv g) ?_;intro _ dP ⟨I,hb⟩;have i:=Below.oy i I aJ;have g:=hb;refine Za O<|Zt bG fun a x=>Q6<|X9<|X6 x (X1q x O (ResV.cellN (l:=(Zc4 d Ad md cd Bd dd)) O X2 (g.at 0) O) O) ?_;rw[aW,Q3 Bool.false_ne_true];exact ⟨Ad,cd,Bd,dd,O,(J.bx i).top,(W.bx i).top,E,H,i⟩
 have d5:=Xlq aT aK;refine Q7<|bE _ _<|ZS x fun bH=>Ze (Vn X2 y)<|Zf (Vc (Xd2 _ d md H Ad cd (J.bx i).top Bd dd (W.bx i).top E ⟨by omega,by omega⟩) X7k) ?_;rintro _ dQ ⟨aX,aY,d6,d7,rfl,L,aI,G⟩;have L:=L.lower i.size;have aI:=aI.lower i.size;have ⟨y,g,f,i⟩:=mv4 G y g f i;refine Zm O<|Zf (Vc (Xd6 _ d d.ns.length O aX aY _ L i.size d6 d7 aI.rd.top aI.cap p aS Z) X7p) ?_;rintro _ dR ⟨bI,bJ,rfl,M,aL,bK,dF,hg⟩;have h:=L;have y:=y.appT h hg O;have g:=g.appT h hg O;have f:=f.appT h hg O;have i:=Below.app i h hg (Qb _) i.size;clear h hg;clear L;have L:=M;clear M;refine ZB [vi ((Zc1 d p).n),.slice aX d.ns.length aY,.slice bI ((Zc1 d p).ws).length bJ,vi ((Zc1 d p).t),vi ((Zc1 d p).r)] X1c Xv fun b28 dS bL G b=>?_;have bM:b4≠b28:=by have:=y.lt;omega
 have bN:b7≠b28:=by have:=g.lt;omega
 have aD:=Q0 i.size bL;have ⟨y,g,f,L,aL,i⟩:=mv6 G y g f L aL i;refine Zx bH fun a x _ bO=>Ze (Vd O Xn 1)<|Ze (X0 O X0f (y.at 1))<|Zm O<|Zj (k:=p.toNat) (u:=(d.ns.getD p.toNat nZ)) (enc:=encNd) (l:=d.ns) tv0 O H O X00 X0o X03 (J.bx i) (Xg aS.2) Z ?_;intro dT aZ;refine Ze (X2u O X0m)<|Ze (X0 O X8 (aZ.drop 1))<|Za O<|ZX bO fun a x _ bP=>ZS x fun bQ=>Zm O<|Ze (X0w O Xp)<|Zm O<|Zt bQ fun a x=>Q8<|X04 (σ:=Nat×Dg) (fun (s:Nat×Dg) (a:Act) (w:World)=>match s with|(k,o)=>∃ a8 aA aE aF,Fr a 95 [(4,(pZ9 b7)),(6,.slice aB (nearW d.ws p).length aC),(7,(pZ9 b28)),(8,vi ((d.ns.getD p.toNat nZ).p)),(52,.slice aB (nearW d.ws p).length aC),(53,vi ((nearW d.ws p).length:Int)),(54,vi (k:Int))]/\(k<=(nearW d.ws p).length)/\(o=lcS (d.ns.getD p.toNat nZ).p (nearW d.ws p) (id0 d p) k)/\(d.ns.length=o.ns.length)/\(o.ws.length<=d.ws.length+k*1000)/\(PhN o.ns)/\Blk w b7 54 Zc5/\Blk w b28 54 [vi o.n,.slice a8 d.ns.length aA,.slice aE o.ws.length aF,vi o.t,vi o.r]/\Own w w0.heap.size 3 1 encI aB aC (nearW d.ws p)/\Own w w0.heap.size 85 2 encNd a8 aA o.ns/\Rw w 99 encWr aE o.ws/\d.ws.length<=dd/\o.ws.length<=aF/\Bl w0 w) (fun (s:Nat×Dg)=>match s with|(k,o)=>(nearW d.ws p).length-k) (0,(id0 d p)) ?_ ?_
 ·exact ⟨aX,aY,bI,bJ,x.sb,(Qf _),O,(X2e _ _).symm,(Q0 (X3h _ _) Z),(X6k hD.p p),g,b,f,L,aL.top,E,bK,i⟩
 intro ⟨k,o⟩ a dU ⟨a8,aA,aE,aF,x,hk,bR,b0,d8,bS,g,b,f,D,N,E,bU,i⟩;refine ZS x fun bW=>Ze (X16 O O)<|ZX bW fun a x _ bX=>X0y x O (fun b1 aM=>?_) (fun b1 aM=>?_)
 ·have ⟨dW,dG⟩:=Xa (l:=(nearW d.ws p)) (k:=k) Z;have ⟨u9,b2⟩:=Xa (l:=(nearW d.ws p)) (k:=k) (by have:=aM;omega);have d9:=X9f hD b2;have dX:=X2j bS u9.toNat;refine Q7<|bX _ _<|Q5 fun _ bY=>Q8<|ZS x fun bZ=>Zm O<|Zi (k:=k) (u:=u9) (enc:=encI) (l:=(nearW d.ws p)) tv0 O O Xp X0p Xj f.rd b2 O ?_;intro dY b3;refine Ze (X0 O X8 b3)<|Za O<|Za O<|Zx bZ fun a x _ cA=>Ze (Vn X2 b)<|Zm O<|Zm O<|Ze (X1j O O Z Z)<|Zf (Vc (Xd7 _ o d.ns.length b0 a8 aA _ D i.size aE aF N.top bU u9 (8-((d.ns.getD p.toNat nZ).p)) ⟨d9.1,by omega⟩ ⟨by omega,by omega⟩) X7q) ?_;rintro _ eA ⟨cB,cC,rfl,M,aN,cD,dH,hg⟩;have h:=D;have g:=g.appT h hg O;have b:=b.appT h hg O;have f:=f.appT h hg O;have i:=Below.app i h hg (Qb _) i.size;clear h hg;clear D;have D:=M;clear M;refine Zo (Vw [vi (({ o with ns:=adN o.ns u9 (8-((d.ns.getD p.toNat nZ).p)) } : Dg).n),.slice a8 d.ns.length aA,.slice cB (({ o with ns:=adN o.ns u9 (8-((d.ns.getD p.toNat nZ).p)) } : Dg).ws).length cC,vi (({ o with ns:=adN o.ns u9 (8-((d.ns.getD p.toNat nZ).p)) } : Dg).t),vi (({ o with ns:=adN o.ns u9 (8-((d.ns.getD p.toNat nZ).p)) } : Dg).r)] Xv b) ?_;intro _ dA ⟨I,hb⟩;have g:=g.oy I Z;have f:=f.oT I b O;have D:=D.oT I b O;have aN:=aN.oT I b O;have i:=Below.oy i I aD;have b:=hb;refine Zx cA fun a x _ cE=>Zm O<|Zm O ?_;have Q:=(f.rd.top).takeK Xj k;refine Ze (X3p (l:=(nearW d.ws p)) (k:=k) O O Xp X0p O hk f.cap)<|Ze (X0w O Xp)<|Zm O<|Zt cE fun a x=>Q8<|X04 (σ:=Nat×Dg) (fun (s:Nat×Dg) (a:Act) (w:World)=>match s with|(j,z)=>∃ aG aH aO aP,Fr a 95 [(4,(pZ9 b7)),(6,.slice aB (nearW d.ws p).length aC),(7,(pZ9 b28)),(8,vi ((d.ns.getD p.toNat nZ).p)),(10,vi u9),(52,.slice aB (nearW d.ws p).length aC),(53,vi ((nearW d.ws p).length:Int)),(54,vi (k:Int)),(66,.slice aB ((nearW d.ws p).take k).length aC),(67,vi (((nearW d.ws p).take k).length:Int)),(68,vi (j:Int))]/\(j<=((nearW d.ws p).take k).length)/\(z=tgL ({ o with ns:=adN o.ns u9 (8-(d.ns.getD p.toNat nZ).p) } : Dg) u9 (((nearW d.ws p).take k).take j))/\(d.ns.length=z.ns.length)/\(z.ws.length<=o.ws.length+j)/\(PhN z.ns)/\Blk w b7 54 Zc5/\Blk w b28 54 [vi z.n,.slice aG d.ns.length aH,.slice aO z.ws.length aP,vi z.t,vi z.r]/\Own w w0.heap.size 3 1 encI aB aC (nearW d.ws p)/\Rd w dA.heap.size 3 encI aB ((nearW d.ws p).take k)/\Own w w0.heap.size 85 2 encNd aG aH z.ns/\Rw w 99 encWr aO z.ws/\d.ws.length<=dd/\z.ws.length<=aP/\Bl w0 w) (fun (s:Nat×Dg)=>match s with|(j,z)=>((nearW d.ws p).take k).length-j) (0,({ o with ns:=adN o.ns u9 (8-(d.ns.getD p.toNat nZ).p) } : Dg)) ?_ ?_
  ·exact ⟨a8,aA,cB,cC,x.sb,(Qf _),O,(b0.trans (X2v _ _ _).symm),(Qb _),(X8j bS _ _),g,b,f,Q,D,aN.top,E,cD,i⟩
  intro ⟨j,z⟩ a eB ⟨aG,aH,aO,aP,x,hj,hz,b5,dB,cG,g,b,f,Q,U,aU,E,cH,i⟩;refine ZS x fun cI=>Ze (X16 O O)<|ZX cI fun a x _ cJ=>X0y x O (fun b6 aQ=>?_) (fun b6 aQ=>?_)
  ·have ⟨eC,dI⟩:=Xa (l:=((nearW d.ws p).take k)) (k:=j) Z;have ⟨v9,b8⟩:=Xa (l:=(nearW d.ws p).take k) (k:=j) (by have:=aQ;omega);have eD:j<k:=by have:=(Qg.1 b8).1;rw[Qn] at this;omega
   refine Q7<|cJ _ _<|Q5 fun _ cK=>Q8<|ZS x fun cL=>Zi (k:=j) (u:=v9) (enc:=encI) (l:=((nearW d.ws p).take k)) tv0 O O Xp X0p Xj Q b8 O ?_;intro eE b9;refine Ze (X0 O X8 b9)<|Za O<|Zt cL fun a x=>Zr x<|Ze (Vn X2 b)<|Zm O<|Zm O<|Zf (Vc (Xzn _ z d.ns.length b5 aG aH _ U i.size aO aP aU.top cH u9 v9 (by have:=dB;have:=d8;rw[Qn] at hj;omega)) Xkv) ?_;rintro _ eF ⟨cM,cN,rfl,M,aR,cO,dJ,hg⟩;have h:=U;have g:=g.appT h hg O;have b:=b.appT h hg O;have f:=f.appT h hg O;have Q:=Q.appT h hg O;have i:=Below.app i h hg (Qb _) i.size;clear h hg;clear U;have U:=M;clear M;refine Zo (Vw [vi ((tgD z u9 v9).n),.slice aG d.ns.length aH,.slice cM ((tgD z u9 v9).ws).length cN,vi ((tgD z u9 v9).t),vi ((tgD z u9 v9).r)] Xv b) ?_;intro _ eG ⟨I,hb⟩;have g:=g.oy I Z;have f:=f.oT I b O;have Q:=Q.oT I b O;have U:=U.oT I b O;have aR:=aR.oT I b O;have i:=Below.oy i I aD;have b:=hb;exact Zn fun a x=>Xd<|cK _ _<|Zr x<|Ze (Xr O O Z Z)<|Zm O<|Zn fun a x=>Xh<|⟨(j+1,(tgD z u9 v9)),⟨aG,aH,cM,cN,x.sb,Z,(by rw[Xtr b8,<- hz]),(by rw[(X3m z u9 v9).1];exact b5),(by have:=(X3m z u9 v9).2;omega),(by rw[(X3m z u9 v9).1];exact cG),g,b,f,Q,U,aR.top,E,cO,i⟩,O1⟩
  have dC:z=lcS (d.ns.getD p.toNat nZ).p (nearW d.ws p) (id0 d p) (k+1):=by rw[hz,Qi (by have:=aQ;omega),bR,Xrd b2]
  have eH:j<=k:=by rw[Qn] at hj;omega
  exact Q9<|Xk<|Xk<|X06<|Xd<|bY _ _<|Zr x<|Ze (Xr O O Z Z)<|Zm O<|Zn fun a x=>Xh<|⟨(k+1,z),⟨aG,aH,aO,aP,x.sb,Z,dC,b5,Z,cG,g,b,f,U,aU.top,E,cH,i⟩,O1⟩
 have cP:o=lcS (d.ns.getD p.toNat nZ).p (nearW d.ws p) (id0 d p) (nearW d.ws p).length:=by rw[bR];congr 1;have:=aM;omega
 refine Q9<|Xk<|Xk<|X06<|bP _ _<|ZS x fun cQ=>Ze (Vd O X1o 3)<|Ze (X0 O X8 (b.at 3))<|Zm O<|Ze (X1j O O Z Z)<|Ze (Xoo O O O)<|Ze (X6q O O)<|Ze (Vx (X3b O O) (Xy2 aT.2))<|Ze (X3b O O)<|Ze (Vd O X1o 3)<|Zo (Vu (vs:=[vi (wr (o.t+(if (d.ns.getD p.toNat nZ).p=2 then 1 else 7)))]) (l':=[vi o.n,.slice a8 d.ns.length aA,.slice aE o.ws.length aF,vi (wr (o.t+(if (d.ns.getD p.toNat nZ).p=2 then 1 else 7))),vi o.r]) O O X0p b) ?_;intro _ eI ⟨I,hb⟩;have g:=g.oy I Z;have D:=D.oT I b O;have N:=N.oT I b O;have i:=Below.oy i I aD;have b:=hb;refine Zx cQ fun a x _ cR=>Ze (Vd O X0h 4)<|Ze (X0 O X8 (b.at 4))<|Zm O<|Ze (X0w O Xp)<|Ze (X1j O O Z Z)<|Ze (X3b O O)<|Ze (Vd O X0h 4)<|Zo (Vu (vs:=[vi (wr (o.r+(1-((nearW d.ws p).length:Int))))]) (l':=[vi o.n,.slice a8 d.ns.length aA,.slice aE o.ws.length aF,vi (wr (o.t+(if (d.ns.getD p.toNat nZ).p=2 then 1 else 7))),vi (wr (o.r+(1-((nearW d.ws p).length:Int))))]) O O X0p b) ?_;intro _ eJ ⟨I,hb⟩;have g:=g.oy I Z;have D:=D.oT I b O;have N:=N.oT I b O;have i:=Below.oy i I aD;have b:=hb;refine Zx cR fun a x _ cS=>Ze (Vn X2 b)<|Zo (Vw [vi o.n,.slice a8 d.ns.length aA,.slice aE o.ws.length aF,vi (wr (o.t+(if (d.ns.getD p.toNat nZ).p=2 then 1 else 7))),vi (wr (o.r+(1-((nearW d.ws p).length:Int))))] Xv g) ?_;intro _ eK ⟨I,hb⟩;have D:=D.oT I g O;have N:=N.oT I g O;have i:=Below.oy i I aJ;have g:=hb;refine Za O<|Zt cS fun a x=>Q6 (X6 x (X1q x O (ResV.cellN (l:=[vi o.n,.slice a8 d.ns.length aA,.slice aE o.ws.length aF,vi (wr (o.t+(if (d.ns.getD p.toNat nZ).p=2 then 1 else 7))),vi (wr (o.r+(1-((nearW d.ws p).length:Int))))]) O X2 (g.at 0) O) O) ?_);rw[d5,Q4 O,Xre cP,H];exact ⟨a8,aA,aE,aF,O,D.rd.top,N.top,bU,b0,i⟩
def pvL(d:Dg)(a b:Int) : List Int:=(othW d.ws b a).foldl putI (othW d.ws a b)
def pvC(d:Dg)(a b:Int) : Bool:=spI d.ns a&&spI d.ns b&&decide (a<b)&&(d.ns.getD a.toNat nZ).p % 4==0&&(d.ns.getD b.toNat nZ).p % 4==0&&tyW d.ws a b==2&&hadD d a&&hadD d b&&rdyD d (pvL d a b)
def stN(c:Bool)(o:Dg)(x m:Int) : Dg:=if c=true then { o with ns:=adN o.ns x m } else o
def pvT(l m:List Int)(x:Int)(o:Dg)(y:Int) : Dg:=if (((l.any fun v=>v==x)&&(m.any fun v=>v==y)) != ((m.any fun v=>v==x)&&(l.any fun v=>v==y)))=true then tgD o x y else o
def pvF(l m:List Int)(x:Int)(r:List Int)(o:Dg) : Dg:=r.foldl (pvT l m x) o
def pv3(e f:Int)(l m:List Int)(x:Int)(o:Dg) : Dg:=stN ((l.any fun v=>v==x)&&(m.any fun v=>v==x)) (stN (m.any fun v=>v==x) (stN (l.any fun v=>v==x) o x f) x e) x 4
def pvM(e f:Int)(l m r:List Int)(o:Dg) : Nat->Dg
 | 0=>o
 | i+1=>pvF l m (r.getD i 0) (r.take i) (pv3 e f l m (r.getD i 0) (pvM e f l m r o i))
def pvD(d:Dg)(a b:Int) : Dg:=
 let o:=pvM (d.ns.getD a.toNat nZ).p (d.ns.getD b.toNat nZ).p (othW d.ws a b) (othW d.ws b a) (pvL d a b) (id0 (id0 d a) b) (pvL d a b).length
 { o with t:=if ((d.ns.getD a.toNat nZ).p+(d.ns.getD b.toNat nZ).p==8)=true then wr (o.t+4) else o.t,r:=wr (o.r+(1-((othW d.ws a b).length:Int)-((othW d.ws b a).length:Int))) }
def Xfr{d o:Dg}{a b:Int}(h:o=pvM (d.ns.getD a.toNat nZ).p (d.ns.getD b.toNat nZ).p (othW d.ws a b) (othW d.ws b a) (pvL d a b) (id0 (id0 d a) b) (pvL d a b).length):pvD d a b = { o with t:=if ((d.ns.getD a.toNat nZ).p+(d.ns.getD b.toNat nZ).p==8)=true then wr (o.t+4) else o.t,r:=wr (o.r+(1-((othW d.ws a b).length:Int)-((othW d.ws b a).length:Int))) }:=by subst h;rfl
def Xti{c:Bool}{o:Dg}{x m:Int}(h:c=true):stN c o x m = { o with ns:=adN o.ns x m }:=Q4 h
def Xth{c:Bool}{o:Dg}{x m:Int}(h:c=false):stN c o x m=o:=Q3 (by rw[h];decide)
def Ybf{l m:List Int}{x y:Int}{o:Dg}(h:(((l.any fun v=>v==x)&&(m.any fun v=>v==y)) != ((m.any fun v=>v==x)&&(l.any fun v=>v==y)))=true):pvT l m x o y=tgD o x y:=Q4 h
def Ybe{l m:List Int}{x y:Int}{o:Dg}(h:(((l.any fun v=>v==x)&&(m.any fun v=>v==y)) != ((m.any fun v=>v==x)&&(l.any fun v=>v==y)))=false):pvT l m x o y=o:=Q3 (by rw[h];decide)
def Xsf{l m:List Int}{x:Int}{r:List Int}{o:Dg}{k:Nat}{v:Int}(hv:r[k]? = some v):pvF l m x (r.take (k+1)) o=pvT l m x (pvF l m x (r.take k) o) v:=by
 unfold pvF;rw[Qt,hv,Option.toList_some,List.foldl_append];rfl
def Xhc{e f u:Int}{l m r:List Int}{o:Dg}{k:Nat}(hu:r[k]? = some u):pvM e f l m r o (k+1)=pvF l m u (r.take k) (pv3 e f l m u (pvM e f l m r o k)):=by grind [pv3,pvF,pvM]
def Xa2{d:Dg}(h:InD d)(a b:Int):(othW d.ws a b).length<=d.ns.length:=Q0 (List.length_filter_le _ _) (X4t h a)
def Xfq{d:Dg}(h:InD d)(a b:Int):(pvL d a b).length<=2*d.ns.length:=by
 have h1:=Xci (othW d.ws b a) (othW d.ws a b);have h2:=Xa2 h a b;have h3:=Xa2 h b a;unfold pvL;omega
def Xfp{d:Dg}(h:InD d){a b u:Int}{k:Nat}(hu:(pvL d a b)[k]? = some u):0<=u/\u.toNat<d.ns.length:=by
 have h1:=(X60 _ _ _).1 (Qe hu);rcases h1 with h1|h1
 ·exact X2p h (List.mem_filter.1 h1).1
 ·exact X2p h (List.mem_filter.1 h1).1
def Xsh{d:Dg}(hd:InD d){a b:Int}(h:(!(spI d.ns a)||!(spI d.ns b)||decide (b<=a)||((d.ns.getD a.toNat nZ).p.tmod 4 != 0)||((d.ns.getD b.toNat nZ).p.tmod 4 != 0)||(tyW d.ws a b != 2))=true):pvC d a b=false:=by grind [nZ,pvC,spI,tyW]
def Xm2{d:Dg}(hd:InD d){a b:Int}(h:(!(spI d.ns a)||!(spI d.ns b)||decide (b<=a)||((d.ns.getD a.toNat nZ).p.tmod 4 != 0)||((d.ns.getD b.toNat nZ).p.tmod 4 != 0)||(tyW d.ws a b != 2))=false):(0<=a/\a.toNat<d.ns.length)/\(0<=b/\b.toNat<d.ns.length)/\(((d.ns.getD a.toNat nZ).p=0∨(d.ns.getD a.toNat nZ).p=4)/\((d.ns.getD b.toNat nZ).p=0∨(d.ns.getD b.toNat nZ).p=4))/\(spI d.ns a&&spI d.ns b&&decide (a<b)&&(d.ns.getD a.toNat nZ).p % 4==0&&(d.ns.getD b.toNat nZ).p % 4==0&&tyW d.ws a b==2)=true:=by
 rw[Xmx (X2j hd.p _).1,Xmx (X2j hd.p _).1] at h;have ha:=X2j hd.p a.toNat;have hb:=X2j hd.p b.toNat
 generalize (d.ns.getD a.toNat nZ).p=x at h ha ⊢;generalize (d.ns.getD b.toNat nZ).p=y at h hb ⊢;cases h1:spI d.ns a
 ·simp[h1] at h
 cases h2:spI d.ns b
 ·simp[h2] at h
 have s1:=X0z h1;have s2:=X0z h2;simp[h1,h2] at h;refine ⟨⟨s1.1,s1.2.1⟩,⟨s2.1,s2.2.1⟩,⟨by omega,by omega⟩,?_⟩;simp;omega
def Xsi{d:Dg}{a b:Int}(h:(!(hadD d a)||!(hadD d b)||!(rdyD d (pvL d a b)))=true):pvC d a b=false:=by grind [hadD,pvC,pvL,rdyD]
def Xm3{d:Dg}{a b:Int}(h1:(spI d.ns a&&spI d.ns b&&decide (a<b)&&(d.ns.getD a.toNat nZ).p % 4==0&&(d.ns.getD b.toNat nZ).p % 4==0&&tyW d.ws a b==2)=true)(h:(!(hadD d a)||!(hadD d b)||!(rdyD d (pvL d a b)))=false):pvC d a b=true:=by
 unfold pvC;rw[h1];cases h2:hadD d a
 ·simp[h2] at h
 cases h3:hadD d b
 ·simp[h3] at h
 cases h4:rdyD d (pvL d a b)
 ·simp[h4] at h
 rfl
structure Rz where
 u:Int
 a:Int
 b:Int deriving DecidableEq
def encRz(x:Rz) : List Value:=[.int .i64 x.u,.int .i64 x.a,.int .i64 x.b]
def X4x:∀ x,(encRz x).length=3:=fun _=>rfl
def X7g:∀ x,(encRz x).all one=true:=fun _=>rfl
def doC(d:Dg)(r:Rz) : Bool:=if (r.u==1)=true then fuC d r.a r.b else if (r.u==4)=true then pvC d r.a r.b else if (r.b != 0)=true then false else if (r.u==2)=true then idC d r.a else if (r.u==3)=true then lcC d r.a else if (r.u==5)=true then loC d r.a else false
def doD(d:Dg)(r:Rz) : Dg:=if (r.u==1)=true then fuD d r.a r.b else if (r.u==4)=true then pvD d r.a r.b else if (r.u==2)=true then idD d r.a else if (r.u==3)=true then lcD d r.a else loD d r.a
def Y9m{d:Dg}{r:Rz}(h1:(r.u==1)=true):doC d r=fuC d r.a r.b/\doD d r=fuD d r.a r.b:=⟨Q4 h1,Q4 h1⟩
def Y9o{d:Dg}{r:Rz}(h1:(r.u==1)=false)(h4:(r.u==4)=true):doC d r=pvC d r.a r.b/\doD d r=pvD d r.a r.b:=by
 unfold doC doD;rw[h1,h4];exact ⟨O,O⟩
def Ydm{d:Dg}{r:Rz}(h1:(r.u==1)=false)(h4:(r.u==4)=false)(hb:(r.b != 0)=true):doC d r=false:=by
 unfold doC;rw[h1,h4,hb];rfl
def Y9n{d:Dg}{r:Rz}(h1:(r.u==1)=false)(h4:(r.u==4)=false)(hb:(r.b != 0)=false)(h2:(r.u==2)=true):doC d r=idC d r.a/\doD d r=idD d r.a:=by
 unfold doC doD;rw[h1,h4,hb,h2];exact ⟨O,O⟩
def Ydl{d:Dg}{r:Rz}(h1:(r.u==1)=false)(h4:(r.u==4)=false)(hb:(r.b != 0)=false)(h2:(r.u==2)=false)(h3:(r.u==3)=true):doC d r=lcC d r.a/\doD d r=lcD d r.a:=by grind [doC,doD,lcC,lcD]
def Y9p{d:Dg}{r:Rz}(h1:(r.u==1)=false)(h4:(r.u==4)=false)(hb:(r.b != 0)=false)(h2:(r.u==2)=false)(h3:(r.u==3)=false)(h5:(r.u==5)=true):doC d r=loC d r.a/\doD d r=loD d r.a:=by grind [doC,doD,loC,loD]
def Ydk{d:Dg}{r:Rz}(h1:(r.u==1)=false)(h4:(r.u==4)=false)(hb:(r.b != 0)=false)(h2:(r.u==2)=false)(h3:(r.u==3)=false)(h5:(r.u==5)=false):doC d r=false:=by
 unfold doC;rw[h1,h4,hb,h2,h3,h5];rfl
abbrev Zb7(d:Dg)(x:Rz) : Dg:=if (doC d x)=true then doD d x else d
theorem Y8b(w0:World)(d:Dg)(md:Nat)(aC:md=d.ns.length)(Ad:Option Addr)(cd:Nat)(aM:Rw w0 85 encNd Ad d.ns)(Bd:Option Addr)(dd:Nat)(aV:Rw w0 99 encWr Bd d.ws)(M:d.ws.length<=dd)(p:Int)(q:Int)(hD:InD d):RE 121 [.agg #[vi d.n,.slice Ad md cd,.slice Bd d.ws.length dd,vi d.t,vi d.r],vi p,vi q] w0 (fun v w=>∃ A c B e,v=.tuple #[.agg #[vi (if (pvC d p q)=true then pvD d p q else d).n,.slice A md c,.slice B (if (pvC d p q)=true then pvD d p q else d).ws.length e,vi (if (pvC d p q)=true then pvD d p q else d).t,vi (if (pvC d p q)=true then pvD d p q else d).r],.bool (pvC d p q)]/\Rw w 85 encNd A (if (pvC d p q)=true then pvD d p q else d).ns/\Rw w 99 encWr B (if (pvC d p q)=true then pvD d p q else d).ws/\(if (pvC d p q)=true then pvD d p q else d).ws.length<=e/\md=(if (pvC d p q)=true then pvD d p q else d).ns.length/\Bl w0 w):=by
 have iI:=hD.len;have iJ:=hD.m;have iK:=Xa2 hD p q;have iL:=Xa2 hD q p;have gD:=Xfq hD p q;have iM:=X2j hD.p p.toNat;have iN:=X2j hD.p q.toNat;have iO:=X3h d.ws p;have iP:=X3h (dpW d.ws p) q;refine enter func121 O 196 O O ?_;intro a I;have G:=bz w0;refine ZS I fun gE=>Zf (X0n (zs:=(Zc4 d Ad md cd Bd dd)) O O) ?_;rintro _ w1 ⟨b4,rfl,gF,J,L⟩;have i8:=Q0 G.size gF;have G:=btr G J;refine Zf (X0b (zs:=Zc5) X1c O) ?_;rintro _ w2 ⟨b7,rfl,gG,J,E⟩;have gC:b4≠b7:=by have:=L.lt;omega
 have bL:=Q0 G.size gG;have L:=L.bw J;have G:=btr G J;refine Za O<|ZX gE fun a I _ gH=>Q5 fun _ gI=>X0i (fun a w=>Fr a 196 [(1,vi p),(2,vi q),(3,(pZ9 b4)),(6,(pZ9 b7)),(63,.bool ((((((!(spI d.ns p))||(!(spI d.ns q)))||(decide (q<=p)))||((((d.ns.getD p.toNat nZ).p).tmod 4) != 0))||((((d.ns.getD q.toNat nZ).p).tmod 4) != 0))||((tyW d.ws p q) != 2)))]/\Bl w2 w) ?_ ?_
 ·have a8:Bl w2 w2:=Below.refl _ _;refine Zr I<|Ze (Vn X2 L)<|Zm O<|Zf (Vc (X89 _ d md aC Ad cd (aM.bx G).top Bd dd (aV.bx G).top M p (by rw[aC];exact hD.m)) X4c) ?_;rintro _ w3 ⟨rfl,J⟩;have ⟨L,G,a8⟩:=mv3 J L G a8;refine Ze (X1i O)<|Zm O<|Zg 26 O ?_ ?_<;>intro W
  ·(iterate 4 refine Zp (gP W) ?_);refine Ze (Xc O W O)<|Zm O<|Zp (gP O) ?_;(iterate 2 refine Zp (gP O) ?_);refine Ze (Xc O O O)<|Zm O<|Zp (gP O) ?_;(iterate 7 refine Zp (gP O) ?_);refine Ze (Xc O O O)<|Zm O<|Zp (gP O) ?_;(iterate 7 refine Zp (gP O) ?_);refine Ze (Xc O O O)<|Zm O<|Zp (gP O) ?_;(iterate 4 refine Zp (gP O) ?_);exact Ze (Xc O O O)<|Zn fun a I=>⟨I.sub ⟨O,O,O,O,X1 O (by first|rfl|(simp only[W,bs];done)|simp[W]),trivial⟩,a8⟩
  have cS:0<=p/\p.toNat<d.ns.length:=by have h9:=X0z (ns:=d.ns) (k:=p) (by simpa using W);exact ⟨h9.1,h9.2.1⟩
  refine Zv (gW W) (Vn X2 L) ?_;refine Zv (gW W) (X5 O) ?_;refine Zk (gW W) (Vc (X89 _ d md aC Ad cd (aM.bx G).top Bd dd (aV.bx G).top M q (by rw[aC];exact hD.m)) X4c) ?_;rintro _ w4 ⟨rfl,J⟩;have ⟨L,G,a8⟩:=mv3 J L G a8;refine Zv (gW W) (X1i O)<|Ze (Xi O W O)<|Zm O<|Zg 32 O ?_ ?_<;>intro aB
  ·(iterate 3 refine Zp (gP aB) ?_);refine Ze (Xc O aB O)<|Zm O<|Zp (gP O) ?_;(iterate 7 refine Zp (gP O) ?_);refine Ze (Xc O O O)<|Zm O<|Zp (gP O) ?_;(iterate 7 refine Zp (gP O) ?_);refine Ze (Xc O O O)<|Zm O<|Zp (gP O) ?_;(iterate 4 refine Zp (gP O) ?_);exact Ze (Xc O O O)<|Zn fun a I=>⟨I.sub ⟨O,O,O,O,X1 O (by first|rfl|(simp only[W,aB,bs];done)|simp[W,aB]),trivial⟩,a8⟩
  have bS:0<=q/\q.toNat<d.ns.length:=by have h9:=X0z (ns:=d.ns) (k:=q) (by have h8:=aB;first|exact (by simpa using h8)|(simp at h8;exact h8.2));exact ⟨h9.1,h9.2.1⟩
  refine Zv (gW aB) (X5 O) ?_;refine Zv (gW aB) (X5 O) ?_;refine Zv (gW aB) (X5q O O)<|Ze (Xi O aB O)<|Zm O<|Zg 37 O ?_ ?_<;>intro N
  ·(iterate 8 refine Zp (gP N) ?_);refine Ze (Xc O N O)<|Zm O<|Zp (gP O) ?_;(iterate 7 refine Zp (gP O) ?_);refine Ze (Xc O O O)<|Zm O<|Zp (gP O) ?_;(iterate 4 refine Zp (gP O) ?_);exact Ze (Xc O O O)<|Zn fun a I=>⟨I.sub ⟨O,O,O,O,X1 O (by first|rfl|(simp only[W,aB,N,bs];done)|simp[W,aB,N]),trivial⟩,a8⟩
  refine Zv (gW N) (Vd O Xn 1) ?_;refine Zv (gW N) (X0 O X0f (L.at 1)) ?_;refine Zv (gW N) (X5 O) ?_;refine Zj (k:=p.toNat) (u:=(d.ns.getD p.toNat nZ)) (enc:=encNd) (l:=d.ns) ⟨_,_,O,O,N⟩ O aC O X00 X0o X03 (aM.bx G) (Xg cS.2) Z ?_;intro iQ dD;refine Zv (gW N) (X2u O X0m) ?_;refine Zv (gW N) (X0 O X8 (dD.drop 1)) ?_;refine Zv (gW N) (X46 O O O) ?_;refine Zv (gW N) (X28 O O)<|Ze (Xi O N O)<|Zm O<|Zg 47 O ?_ ?_<;>intro U
  ·(iterate 8 refine Zp (gP U) ?_);refine Ze (Xc O U O)<|Zm O<|Zp (gP O) ?_;(iterate 4 refine Zp (gP O) ?_);exact Ze (Xc O O O)<|Zn fun a I=>⟨I.sub ⟨O,O,O,O,X1 O (by first|rfl|(simp only[W,aB,N,U,bs];done)|simp[W,aB,N,U]),trivial⟩,a8⟩
  refine Zv (gW U) (Vd O Xn 1) ?_;refine Zv (gW U) (X0 O X0f (L.at 1)) ?_;refine Zv (gW U) (X5 O) ?_;refine Zj (k:=q.toNat) (u:=(d.ns.getD q.toNat nZ)) (enc:=encNd) (l:=d.ns) ⟨_,_,O,O,U⟩ O aC O X00 X0o X03 (aM.bx G) (Xg bS.2) Z ?_;intro iR dE;refine Zv (gW U) (X2u O X0m) ?_;refine Zv (gW U) (X0 O X8 (dE.drop 1)) ?_;refine Zv (gW U) (X46 O O O) ?_;refine Zv (gW U) (X28 O O) ?_;refine Ze (Xi O U O)<|Zm O<|Zg 57 O ?_ ?_<;>intro aJ
  ·(iterate 5 refine Zp (gP aJ) ?_);exact Ze (Xc O aJ O)<|Zn fun a I=>⟨I.sub ⟨O,O,O,O,X1 O (by first|rfl|(simp only[W,aB,N,U,aJ,bs];done)|simp[W,aB,N,U,aJ]),trivial⟩,a8⟩
  refine Zv (gW aJ) (Vn X2 L) ?_;refine Zv (gW aJ) (X5 O) ?_;refine Zv (gW aJ) (X5 O) ?_;refine Zk (gW aJ) (Vc (Xbi _ d md aC Ad cd (aM.bx G).top Bd dd (aV.bx G).top M p q Z) X66) ?_;rintro _ w5 ⟨rfl,J⟩;have G:=btr G J;have a8:=btr a8 J;refine Zv (gW aJ) (X28 O O) ?_;refine Ze (Xi O aJ O) ?_;exact Zn fun a I=>⟨I.sub ⟨O,O,O,O,X1 O (by first|rfl|(simp only[W,aB,N,U,aJ,bs];done)|simp[W,aB,N,U,aJ]),trivial⟩,a8⟩
 intro a w6 ⟨I,J⟩;have ⟨L,E,G⟩:=mv3 J L E G;refine gI _ _<|Xx I O ?_ ?_<;>intro aA
 ·have dF:=Xsh hD aA;refine ZS I fun eB=>Ze (Vn X2 L)<|Zo (Vw (Zc4 d Ad md cd Bd dd) Xv E) ?_;intro _ w7 ⟨ho,hb⟩;have G:=Below.oy G ho bL;have E:=hb;refine Za O<|Zt eB fun a I=>Q6<|X9<|X6 I (X1q I O (ResV.cellN (l:=(Zc4 d Ad md cd Bd dd)) O X2 (E.at 0) O) O) ?_;rw[dF,Q3 Bool.false_ne_true];exact ⟨Ad,cd,Bd,dd,O,(aM.bx G).top,(aV.bx G).top,M,aC,G⟩
 have ⟨cS,bS,i9,gJ⟩:=Xm2 hD aA;refine Q7<|gH _ _<|ZS I fun eC=>Ze (Vn X2 L)<|Zm O<|Zm O<|Zf (Vc (Y01 _ d md aC Ad cd (aM.bx G).top Bd dd (aV.bx G).top M p q hD.w Z) Xl9) ?_;rintro _ w8 ⟨aQ,aR,rfl,h,J⟩;have h:=h.lower G.size;have ⟨L,E,G⟩:=mv3 J L E G;refine Za O<|Zx eC fun a I _ eD=>Ze (Vn X2 L)<|Zm O<|Zm O<|Zf (Vc (Y01 _ d md aC Ad cd (aM.bx G).top Bd dd (aV.bx G).top M q p hD.w Z) Xl9) ?_;rintro _ w9 ⟨aT,aU,rfl,C,J⟩;have C:=C.lower G.size;have ⟨L,E,h,G⟩:=mv4 J L E h G;refine Za O<|Zx eD fun a I _ eE=>Zm O<|Zf (Vc (Ycq _ aQ aR (othW d.ws p q) h.rd.top Z) Y3w) ?_;rintro _ iS ⟨gK,gL,rfl,bU,J⟩;have bU:=bU.lower G.size;have ⟨L,E,h,C,G⟩:=mv5 J L E h C G;refine Za O<|ZX eE fun a I _ eF=>ZS I fun eG=>Zm O<|Ze (X0w O Xp)<|Zm O<|Zt eG fun a I=>Q8<|X04 (σ:=Nat×(List Int)) (fun (s:Nat×(List Int)) (a:Act) (w:World)=>match s with|(k,m)=>∃ aD aF,Fr a 196 [(1,vi p),(2,vi q),(3,(pZ9 b4)),(6,(pZ9 b7)),(8,.slice aQ (othW d.ws p q).length aR),(9,.slice aT (othW d.ws q p).length aU),(10,.slice aD m.length aF),(75,.slice aT (othW d.ws q p).length aU),(76,vi ((othW d.ws q p).length:Int)),(77,vi (k:Int))]/\(k<=(othW d.ws q p).length)/\(m=((othW d.ws q p).take k).foldl putI (othW d.ws p q))/\Blk w b4 54 (Zc4 d Ad md cd Bd dd)/\Blk w b7 54 Zc5/\Own w w0.heap.size 3 1 encI aD aF m/\Own w w0.heap.size 3 1 encI aQ aR (othW d.ws p q)/\Own w w0.heap.size 3 1 encI aT aU (othW d.ws q p)/\d.ws.length<=dd/\Bl w0 w) (fun (s:Nat×(List Int))=>match s with|(k,m)=>(othW d.ws q p).length-k) (0,(othW d.ws p q)) ?_ ?_
 ·exact ⟨gK,gL,I.sb,(Qf _),O,L,E,bU,h,C,M,G⟩
 intro ⟨k,m⟩ a w11 ⟨aD,aF,I,hk,hm,L,E,D,h,C,M,G⟩;refine ZS I fun eH=>Ze (X16 O O)<|ZX eH fun a I _ eI=>X0y I O (fun Q bW=>?_) (fun Q bW=>?_)
 ·have ⟨iT,iA⟩:=Xa (l:=(othW d.ws q p)) (k:=k) Z;have ⟨u9,bN⟩:=Xa (l:=(othW d.ws q p)) (k:=k) (by have:=bW;omega);have b8:=X3c (f:=putI) (b:=(othW d.ws p q)) bN;rw[<- hm] at b8;refine Q7<|eI _ _<|Q5 fun _ eJ=>Q8<|ZS I fun eK=>Zi (k:=k) (u:=u9) (enc:=encI) (l:=(othW d.ws q p)) tv0 O O Xp X0p Xj C.rd bN O ?_;intro iU dG;refine Ze (X0 O X8 dG)<|Za O<|Zt eK fun a I=>Zr I<|Zm O<|Zm O<|Zf (Vc (Y26 _ aD aF m D.rd.top u9 w0.heap.size D G.size (by have h9:=Xci ((othW d.ws q p).take k) (othW d.ws p q);rw[<- hm,Qn] at h9;omega)) Xig) ?_;rintro _ iV ⟨gM,gN,rfl,eL,J⟩;have ⟨L,E,h,C,G⟩:=mv5 J L E h C G;exact Za O<|Zn fun a I=>Xd<|eJ _ _<|Zr I<|Ze (Xr O O Z Z)<|Zm O<|Zn fun a I=>Xh<|⟨(k+1,(putI m u9)),⟨gM,gN,I.sb,Z,(by rw[b8]),L,E,eL,h,C,M,G⟩,O1⟩
 have bO:m=(pvL d p q):=by rw[hm,Qi (by have:=bW;omega)];rfl
 have iW:m.length<=2*d.ns.length:=by rw[bO];exact gD
 refine Q9<|Xk<|Xk<|X06<|eF _ _<|Q5 fun _ eM=>Q5 fun _ eN=>X0i (fun a w=>Fr a 196 [(1,vi p),(2,vi q),(3,(pZ9 b4)),(6,(pZ9 b7)),(8,.slice aQ (othW d.ws p q).length aR),(9,.slice aT (othW d.ws q p).length aU),(10,.slice aD m.length aF),(100,.bool (((!(hadD d p))||(!(hadD d q)))||(!(rdyD d m))))]/\Bl w11 w) ?_ ?_
 ·have a8:Bl w11 w11:=Below.refl _ _;refine Zr I<|Ze (Vn X2 L)<|Zm O<|Zf (Vc (Xol _ d md aC Ad cd (aM.bx G).top Bd dd (aV.bx G).top M p hD.w Z) Xf5) ?_;rintro _ iX ⟨rfl,J⟩;have ⟨L,D,G,a8⟩:=mv4 J L D G a8;refine Ze (X1i O)<|Zm O<|Zg 89 O ?_ ?_<;>intro aK
  ·(iterate 4 refine Zp (gP aK) ?_);refine Ze (Xc O aK O)<|Zm O<|Zp (gP O) ?_;(iterate 3 refine Zp (gP O) ?_);exact Ze (Xc O O O)<|Zn fun a I=>⟨I.sub ⟨O,O,O,O,O,O,O,X1 O (by first|rfl|(simp only[aA,Q,aK,bs];done)|simp[aA,Q,aK]),trivial⟩,a8⟩
  refine Zv (gW aK) (Vn X2 L) ?_;refine Zv (gW aK) (X5 O) ?_;refine Zk (gW aK) (Vc (Xol _ d md aC Ad cd (aM.bx G).top Bd dd (aV.bx G).top M q hD.w Z) Xf5) ?_;rintro _ iY ⟨rfl,J⟩;have ⟨L,D,G,a8⟩:=mv4 J L D G a8;refine Zv (gW aK) (X1i O)<|Ze (Xi O aK O)<|Zm O<|Zg 95 O ?_ ?_<;>intro aN
  ·(iterate 4 refine Zp (gP aN) ?_);exact Ze (Xc O aN O)<|Zn fun a I=>⟨I.sub ⟨O,O,O,O,O,O,O,X1 O (by first|rfl|(simp only[aA,Q,aK,aN,bs];done)|simp[aA,Q,aK,aN]),trivial⟩,a8⟩
  refine Zv (gW aN) (Vn X2 L) ?_;refine Zv (gW aN) (X5 O) ?_;refine Zk (gW aN) (Vc (Y02 _ d md aC Ad cd (aM.bx G).top Bd dd (aV.bx G).top M aD aF m D.rd.top Z Z Z D.cap) Xla) ?_;rintro _ iZ ⟨rfl,J⟩;have G:=btr G J;have a8:=btr a8 J;refine Zv (gW aN) (X1i O) ?_;refine Ze (Xi O aN O) ?_;exact Zn fun a I=>⟨I.sub ⟨O,O,O,O,O,O,O,X1 O (by first|rfl|(simp only[aA,Q,aK,aN,bs];done)|simp[aA,Q,aK,aN]),trivial⟩,a8⟩
 intro a j0 ⟨I,J⟩;have ⟨L,E,D,h,C,G⟩:=mv6 J L E D h C G;refine eN _ _<|Xx I O ?_ ?_<;>intro aO
 ·have dF:pvC d p q=false:=Xsi (by rw[<- bO];exact aO);refine ZS I fun eO=>Ze (Vn X2 L)<|Zo (Vw (Zc4 d Ad md cd Bd dd) Xv E) ?_;intro _ j1 ⟨ho,hb⟩;have G:=Below.oy G ho bL;have E:=hb;refine Za O<|Zt eO fun a I=>Q6<|X9<|X6 I (X1q I O (ResV.cellN (l:=(Zc4 d Ad md cd Bd dd)) O X2 (E.at 0) O) O) ?_;rw[dF,Q3 Bool.false_ne_true];exact ⟨Ad,cd,Bd,dd,O,(aM.bx G).top,(aV.bx G).top,M,aC,G⟩
 have eP:pvC d p q=true:=Xm3 gJ (by rw[<- bO];exact aO);refine Q7<|eM _ _<|Q5 fun _ eQ=>Xy none (fun _=>false) mixed ?_;intro j2 J;have ⟨L,E,D,h,C,G⟩:=mv6 J L E D h C G;refine Yb I<|Yo 0 O (fun _=>Vd O Xn 1)<|Ye 1 O (X0 O X0f (L.at 1))<|YA 2 O O<|Yj (k:=p.toNat) (u:=(d.ns.getD p.toNat nZ)) (enc:=encNd) (l:=d.ns) 3 O tv0 O aC O X00 X0o X03 (aM.bx G) (Xg cS.2) Z ?_;intro j3 dH;refine Yo 4 O (fun _=>X2u O X0m)<|Ye 5 O (X0 O X8 (dH.drop 1))<|Yo 6 O (fun _=>Vd O Xn 1)<|Ye 7 O (X0 O X0f (L.at 1))<|YA 8 O O<|Yj (k:=q.toNat) (u:=(d.ns.getD q.toNat nZ)) (enc:=encNd) (l:=d.ns) 9 O tv0 O aC O X00 X0o X03 (aM.bx G) (Xg bS.2) Z ?_;intro j4 dI;refine Yo 10 O (fun _=>X2u O X0m)<|Ye 11 O (X0 O X8 (dI.drop 1))<|YD 12 O O<|YD 13 O O<|Yd fun a I=>eQ _ _<|ZS I fun eR=>Ze (Vn X2 L)<|Zf (Vc (Xd2 _ d md aC Ad cd (aM.bx G).top Bd dd (aV.bx G).top M ⟨by omega,by omega⟩) X7k) ?_;rintro _ j5 ⟨cT,cU,gO,gQ,rfl,aP,bM,J⟩;have aP:=aP.lower G.size;have bM:=bM.lower G.size;have ⟨L,E,D,h,C,G⟩:=mv6 J L E D h C G;refine Zm O<|Zf (Vc (Xd6 _ d d.ns.length O cT cU _ aP G.size gO gQ bM.rd.top bM.cap p cS Z) X7p) ?_;rintro _ j6 ⟨gR,gS,rfl,aL,eS,eT,eU,hg⟩;have H:=aP;have L:=L.appT H hg O;have E:=E.appT H hg O;have D:=D.appT H hg O;have h:=h.appT H hg O;have C:=C.appT H hg O;have G:=Below.app G H hg (Qb _) G.size;clear H hg;clear aP;have aP:=aL;clear aL;refine Zm O<|Zf (Vc (Xd6 _ (Zc1 d p) d.ns.length eU cT cU _ aP G.size gR gS eS.top eT q ⟨bS.1,by rw[X2e];exact bS.2⟩ O7) X7p) ?_;rintro _ j7 ⟨eV,eX,rfl,aL,bX,eY,iB,hg⟩;have H:=aP;have L:=L.appT H hg O;have E:=E.appT H hg O;have D:=D.appT H hg O;have h:=h.appT H hg O;have C:=C.appT H hg O;have G:=Below.app G H hg (Qb _) G.size;clear H hg;clear aP;have aP:=aL;clear aL;refine ZB [vi (({ (Zc1 d p) with ns:=dpN (Zc1 d p).ns q,ws:=dpW (Zc1 d p).ws q } : Dg).n),.slice cT d.ns.length cU,.slice eV (({ (Zc1 d p) with ns:=dpN (Zc1 d p).ns q,ws:=dpW (Zc1 d p).ws q } : Dg).ws).length eX,vi (({ (Zc1 d p) with ns:=dpN (Zc1 d p).ns q,ws:=dpW (Zc1 d p).ws q } : Dg).t),vi (({ (Zc1 d p) with ns:=dpN (Zc1 d p).ns q,ws:=dpW (Zc1 d p).ws q } : Dg).r)] X1c Xv fun b57 j8 eZ J g=>?_;have f0:b4≠b57:=by have:=L.lt;omega
 have f5:b7≠b57:=by have:=E.lt;omega
 have b0:=Q0 G.size eZ;have ⟨E,D,h,C,aP,bX,G⟩:=mv7 J E D h C aP bX G;refine ZX eR fun a I _ f7=>ZS I fun f8=>Zm O<|Ze (X0w O Xp)<|Zm O<|Zt f8 fun a I=>Q8<|X04 (σ:=Nat×Dg) (fun (s:Nat×Dg) (a:Act) (w:World)=>match s with|(i,o)=>∃ aY aZ b1 b2,Fr a 196 [(6,(pZ9 b7)),(8,.slice aQ (othW d.ws p q).length aR),(9,.slice aT (othW d.ws q p).length aU),(10,.slice aD m.length aF),(13,vi ((d.ns.getD p.toNat nZ).p)),(14,vi ((d.ns.getD q.toNat nZ).p)),(15,(pZ9 b57)),(120,.slice aD m.length aF),(121,vi (m.length:Int)),(122,vi (i:Int))]/\(i<=m.length)/\(o=pvM (d.ns.getD p.toNat nZ).p (d.ns.getD q.toNat nZ).p (othW d.ws p q) (othW d.ws q p) m (id0 (id0 d p) q) i)/\(d.ns.length=o.ns.length)/\(o.ws.length<=d.ws.length+i*2000)/\(PhN o.ns)/\Blk w b7 54 Zc5/\Blk w b57 54 [vi o.n,.slice aY d.ns.length aZ,.slice b1 o.ws.length b2,vi o.t,vi o.r]/\Own w w0.heap.size 3 1 encI aD aF m/\Own w w0.heap.size 3 1 encI aQ aR (othW d.ws p q)/\Own w w0.heap.size 3 1 encI aT aU (othW d.ws q p)/\Own w w0.heap.size 85 2 encNd aY aZ o.ns/\Rw w 99 encWr b1 o.ws/\d.ws.length<=dd/\o.ws.length<=b2/\Bl w0 w) (fun (s:Nat×Dg)=>match s with|(i,o)=>m.length-i) (0,(id0 (id0 d p) q)) ?_ ?_
 ·exact ⟨cT,cU,eV,eX,I.sb,(Qf _),O,((X2e _ _).trans (X2e _ _)).symm,(Q0 (X3h _ _) (Q0 (X3h d.ws p) (Nat.le_add_right _ _))),(X6k (X6k hD.p p) q),E,g,D,h,C,aP,bX.top,M,eY,G⟩
 intro ⟨i,o⟩ a j9 ⟨aY,aZ,b1,b2,I,hi,f9,bY,gT,dJ,E,g,D,h,C,a6,aE,M,cV,G⟩;refine ZS I fun fA=>Ze (X16 O O)<|ZX fA fun a I _ fB=>X0y I O (fun aG bZ=>?_) (fun aG bZ=>?_)
 ·have ⟨jA,iC⟩:=Xa (l:=m) (k:=i) Z;have ⟨u9,bN⟩:=Xa (l:=m) (k:=i) (by have:=bZ;omega);have dK:0<=u9/\u9.toNat<d.ns.length:=Xfp hD (by rw[<- bO];exact bN);have jB:=X2j dJ u9.toNat;refine Q7<|fB _ _<|Q5 fun _ fC=>Q8<|ZS I fun fE=>Zm O<|Zi (k:=i) (u:=u9) (enc:=encI) (l:=m) tv0 O O Xp X0p Xj D.rd bN O ?_;intro jC dL;refine Ze (X0 O X8 dL)<|Za O<|Za O<|Zx fE fun a I _ fF=>Zm O<|Zm O<|Zf (Vc (Xo7 _ aQ aR (othW d.ws p q) h.rd.top u9 Z) Xc0) ?_;rintro _ jD ⟨rfl,J⟩;have ⟨E,g,D,h,C,a6,aE,G⟩:=mv8 J E g D h C a6 aE G;refine Zm O<|Zm O<|Zf (Vc (Xo7 _ aT aU (othW d.ws q p) C.rd.top u9 Z) Xc0) ?_;rintro _ jE ⟨rfl,J⟩;have ⟨E,g,D,h,C,a6,aE,G⟩:=mv8 J E g D h C a6 aE G;refine Za O<|Za O<|ZX fF fun a I _ fG=>ZS I fun fH=>Zm O<|Zt fH fun a I=>X0i (fun a w=>∃ (x1:Dg),∃ bE bF cA cB,Fr a 196 [(6,(pZ9 b7)),(8,.slice aQ (othW d.ws p q).length aR),(9,.slice aT (othW d.ws q p).length aU),(10,.slice aD m.length aF),(13,vi ((d.ns.getD p.toNat nZ).p)),(14,vi ((d.ns.getD q.toNat nZ).p)),(15,(pZ9 b57)),(16,vi (i:Int)),(17,vi u9),(18,.bool ((othW d.ws p q).any fun y=>y==u9)),(19,.bool ((othW d.ws q p).any fun y=>y==u9)),(120,.slice aD m.length aF),(121,vi (m.length:Int)),(122,vi (i:Int))]/\(x1=stN ((othW d.ws p q).any fun v=>v==u9) o u9 (d.ns.getD q.toNat nZ).p)/\(d.ns.length=x1.ns.length)/\(x1.ws.length<=o.ws.length)/\(PhN x1.ns)/\Blk w b7 54 Zc5/\Blk w b57 54 [vi x1.n,.slice bE d.ns.length bF,.slice cA x1.ws.length cB,vi x1.t,vi x1.r]/\Own w w0.heap.size 3 1 encI aD aF m/\Own w w0.heap.size 3 1 encI aQ aR (othW d.ws p q)/\Own w w0.heap.size 3 1 encI aT aU (othW d.ws q p)/\Own w w0.heap.size 85 2 encNd bE bF x1.ns/\Rw w 99 encWr cA x1.ws/\d.ws.length<=dd/\x1.ws.length<=cB/\Bl w0 w) ?_ ?_
  ·refine Xx I O ?_ ?_<;>intro cC
   ·have cD:=cC;refine Zr I<|Ze (Vn X2 g)<|Zm O<|Zm O<|Zf (Vc (Xd7 _ o d.ns.length bY aY aZ _ a6 G.size b1 b2 aE.top cV u9 ((d.ns.getD q.toNat nZ).p) ⟨dK.1,by omega⟩ ⟨by omega,by omega⟩) X7q) ?_;rintro _ jF ⟨fI,fJ,rfl,aL,cE,fK,iD,hg⟩;have H:=a6;have E:=E.appT H hg O;have g:=g.appT H hg O;have D:=D.appT H hg O;have h:=h.appT H hg O;have C:=C.appT H hg O;have G:=Below.app G H hg (Qb _) G.size;clear H hg;clear a6;have a6:=aL;clear aL;refine Zo (Vw [vi (({ o with ns:=adN o.ns u9 ((d.ns.getD q.toNat nZ).p) } : Dg).n),.slice aY d.ns.length aZ,.slice fI (({ o with ns:=adN o.ns u9 ((d.ns.getD q.toNat nZ).p) } : Dg).ws).length fJ,vi (({ o with ns:=adN o.ns u9 ((d.ns.getD q.toNat nZ).p) } : Dg).t),vi (({ o with ns:=adN o.ns u9 ((d.ns.getD q.toNat nZ).p) } : Dg).r)] Xv g) ?_;intro _ jG ⟨ho,hb⟩;have E:=E.oy ho Z;have D:=D.oT ho g O;have h:=h.oT ho g O;have C:=C.oT ho g O;have a6:=a6.oT ho g O;have cE:=cE.oT ho g O;have G:=Below.oy G ho b0;have g:=hb;exact Zn fun a I=>Xh<|⟨({ o with ns:=adN o.ns u9 ((d.ns.getD q.toNat nZ).p) } : Dg),aY,aZ,fI,fJ,I.sb,((Xti cD).symm),(bY.trans (X2v _ _ _).symm),(Qb _),(X8j dJ _ _),E,g,D,h,C,a6,cE.top,M,fK,G⟩
   have cD:=cC;exact Q7<|Xh<|⟨o,aY,aZ,b1,b2,I.sb,((Xth cD).symm),bY,(Qb _),dJ,E,g,D,h,C,a6,aE.top,M,cV,G⟩
  intro a jH ⟨x1,bE,bF,cA,cB,I,gU,dM,fL,dN,E,g,D,h,C,b5,d7,M,fM,G⟩;refine fG _ _<|Q5 fun _ fN=>ZS I fun fO=>Zm O<|Zt fO fun a I=>X0i (fun a w=>∃ (x2:Dg),∃ bG bH cG cH,Fr a 196 [(6,(pZ9 b7)),(8,.slice aQ (othW d.ws p q).length aR),(9,.slice aT (othW d.ws q p).length aU),(10,.slice aD m.length aF),(13,vi ((d.ns.getD p.toNat nZ).p)),(14,vi ((d.ns.getD q.toNat nZ).p)),(15,(pZ9 b57)),(16,vi (i:Int)),(17,vi u9),(18,.bool ((othW d.ws p q).any fun y=>y==u9)),(19,.bool ((othW d.ws q p).any fun y=>y==u9)),(120,.slice aD m.length aF),(121,vi (m.length:Int)),(122,vi (i:Int))]/\(x2=stN ((othW d.ws q p).any fun v=>v==u9) x1 u9 (d.ns.getD p.toNat nZ).p)/\(d.ns.length=x2.ns.length)/\(x2.ws.length<=o.ws.length)/\(PhN x2.ns)/\Blk w b7 54 Zc5/\Blk w b57 54 [vi x2.n,.slice bG d.ns.length bH,.slice cG x2.ws.length cH,vi x2.t,vi x2.r]/\Own w w0.heap.size 3 1 encI aD aF m/\Own w w0.heap.size 3 1 encI aQ aR (othW d.ws p q)/\Own w w0.heap.size 3 1 encI aT aU (othW d.ws q p)/\Own w w0.heap.size 85 2 encNd bG bH x2.ns/\Rw w 99 encWr cG x2.ws/\d.ws.length<=dd/\x2.ws.length<=cH/\Bl w0 w) ?_ ?_
  ·refine Xx I O ?_ ?_<;>intro cI
   ·have cJ:=cI;refine Zr I<|Ze (Vn X2 g)<|Zm O<|Zm O<|Zf (Vc (Xd7 _ x1 d.ns.length dM bE bF _ b5 G.size cA cB d7.top fM u9 ((d.ns.getD p.toNat nZ).p) ⟨dK.1,by omega⟩ (by have:=X2j dN u9.toNat;omega)) X7q) ?_;rintro _ jI ⟨fP,fQ,rfl,aL,cK,fR,iE,hg⟩;have H:=b5;have E:=E.appT H hg O;have g:=g.appT H hg O;have D:=D.appT H hg O;have h:=h.appT H hg O;have C:=C.appT H hg O;have G:=Below.app G H hg (Qb _) G.size;clear H hg;clear b5;have b5:=aL;clear aL;refine Zo (Vw [vi (({ x1 with ns:=adN x1.ns u9 ((d.ns.getD p.toNat nZ).p) } : Dg).n),.slice bE d.ns.length bF,.slice fP (({ x1 with ns:=adN x1.ns u9 ((d.ns.getD p.toNat nZ).p) } : Dg).ws).length fQ,vi (({ x1 with ns:=adN x1.ns u9 ((d.ns.getD p.toNat nZ).p) } : Dg).t),vi (({ x1 with ns:=adN x1.ns u9 ((d.ns.getD p.toNat nZ).p) } : Dg).r)] Xv g) ?_;intro _ jJ ⟨ho,hb⟩;have E:=E.oy ho Z;have D:=D.oT ho g O;have h:=h.oT ho g O;have C:=C.oT ho g O;have b5:=b5.oT ho g O;have cK:=cK.oT ho g O;have G:=Below.oy G ho b0;have g:=hb;exact Zn fun a I=>Xh<|⟨({ x1 with ns:=adN x1.ns u9 ((d.ns.getD p.toNat nZ).p) } : Dg),bE,bF,fP,fQ,I.sb,((Xti cJ).symm),(dM.trans (X2v _ _ _).symm),fL,(X8j dN _ _),E,g,D,h,C,b5,cK.top,M,fR,G⟩
   have cJ:=cI;exact Q7<|Xh<|⟨x1,bE,bF,cA,cB,I.sb,((Xth cJ).symm),dM,fL,dN,E,g,D,h,C,b5,d7.top,M,fM,G⟩
  intro a gX ⟨x2,bG,bH,cG,cH,I,gY,dO,fS,dP,E,g,D,h,C,b6,d8,M,fT,G⟩;refine fN _ _<|Q5 fun _ fU=>Q5 fun _ fV=>X0i (fun a w=>Fr a 196 [(6,(pZ9 b7)),(8,.slice aQ (othW d.ws p q).length aR),(9,.slice aT (othW d.ws q p).length aU),(10,.slice aD m.length aF),(13,vi ((d.ns.getD p.toNat nZ).p)),(14,vi ((d.ns.getD q.toNat nZ).p)),(15,(pZ9 b57)),(16,vi (i:Int)),(17,vi u9),(18,.bool ((othW d.ws p q).any fun y=>y==u9)),(19,.bool ((othW d.ws q p).any fun y=>y==u9)),(120,.slice aD m.length aF),(121,vi (m.length:Int)),(122,vi (i:Int)),(146,.bool (((othW d.ws p q).any fun v=>v==u9)&&((othW d.ws q p).any fun v=>v==u9)))]/\gX=w) ?_ ?_
  ·refine Zr I<|Zm O<|Zm O<|Zg 144 O ?_ ?_<;>intro b3
   ·refine Zv (gW b3) (X5 O) ?_;refine Ze (Xc O b3 O) ?_;exact Zn fun a I=>⟨I.sub ⟨O,O,O,O,O,O,O,O,O,O,O,O,O,O,X1 O (by first|rfl|(simp only[aA,Q,aO,aG,b3,bs];done)|simp[aA,Q,aO,aG,b3]),trivial⟩,O⟩
   exact Zp (gP b3)<|Ze (Xi O b3 O)<|Zn fun a I=>⟨I.sub ⟨O,O,O,O,O,O,O,O,O,O,O,O,O,O,X1 O (by first|rfl|(simp only[aA,Q,aO,aG,b3,bs];done)|simp[aA,Q,aO,aG,b3]),trivial⟩,O⟩
  rintro a _ ⟨I,rfl⟩;refine fV _ _<|X0i (fun a w=>∃ (x3:Dg),∃ cW cX cY d5,Fr a 196 [(6,(pZ9 b7)),(8,.slice aQ (othW d.ws p q).length aR),(9,.slice aT (othW d.ws q p).length aU),(10,.slice aD m.length aF),(13,vi ((d.ns.getD p.toNat nZ).p)),(14,vi ((d.ns.getD q.toNat nZ).p)),(15,(pZ9 b57)),(16,vi (i:Int)),(17,vi u9),(18,.bool ((othW d.ws p q).any fun y=>y==u9)),(19,.bool ((othW d.ws q p).any fun y=>y==u9)),(120,.slice aD m.length aF),(121,vi (m.length:Int)),(122,vi (i:Int))]/\(x3=stN (((othW d.ws p q).any fun v=>v==u9)&&((othW d.ws q p).any fun v=>v==u9)) x2 u9 4)/\(d.ns.length=x3.ns.length)/\(x3.ws.length<=o.ws.length)/\(PhN x3.ns)/\Blk w b7 54 Zc5/\Blk w b57 54 [vi x3.n,.slice cW d.ns.length cX,.slice cY x3.ws.length d5,vi x3.t,vi x3.r]/\Own w w0.heap.size 3 1 encI aD aF m/\Own w w0.heap.size 3 1 encI aQ aR (othW d.ws p q)/\Own w w0.heap.size 3 1 encI aT aU (othW d.ws q p)/\Own w w0.heap.size 85 2 encNd cW cX x3.ns/\Rw w 99 encWr cY x3.ws/\d.ws.length<=dd/\x3.ws.length<=d5/\Bl w0 w) ?_ ?_
  ·refine Xx I O ?_ ?_<;>intro cL
   ·have cM:=cL;refine Zr I<|Ze (Vn X2 g)<|Zm O<|Zf (Vc (Xd7 _ x2 d.ns.length dO bG bH _ b6 G.size cG cH d8.top fT u9 4 ⟨dK.1,by omega⟩ (by have:=X2j dP u9.toNat;omega)) X7q) ?_;rintro _ jK ⟨fW,fX,rfl,aL,cN,fY,iF,hg⟩;have H:=b6;have E:=E.appT H hg O;have g:=g.appT H hg O;have D:=D.appT H hg O;have h:=h.appT H hg O;have C:=C.appT H hg O;have G:=Below.app G H hg (Qb _) G.size;clear H hg;clear b6;have b6:=aL;clear aL;refine Zo (Vw [vi (({ x2 with ns:=adN x2.ns u9 4 } : Dg).n),.slice bG d.ns.length bH,.slice fW (({ x2 with ns:=adN x2.ns u9 4 } : Dg).ws).length fX,vi (({ x2 with ns:=adN x2.ns u9 4 } : Dg).t),vi (({ x2 with ns:=adN x2.ns u9 4 } : Dg).r)] Xv g) ?_;intro _ jL ⟨ho,hb⟩;have E:=E.oy ho Z;have D:=D.oT ho g O;have h:=h.oT ho g O;have C:=C.oT ho g O;have b6:=b6.oT ho g O;have cN:=cN.oT ho g O;have G:=Below.oy G ho b0;have g:=hb;exact Zn fun a I=>Xh<|⟨({ x2 with ns:=adN x2.ns u9 4 } : Dg),bG,bH,fW,fX,I.sb,((Xti cM).symm),(dO.trans (X2v _ _ _).symm),fS,(X8j dP _ _),E,g,D,h,C,b6,cN.top,M,fY,G⟩
   have cM:=cL;exact Q7<|Xh<|⟨x2,bG,bH,cG,cH,I.sb,((Xth cM).symm),dO,fS,dP,E,g,D,h,C,b6,d8.top,M,fT,G⟩
  intro a hJ ⟨x3,cW,cX,cY,d5,I,hY,i0,i1,i2,E,g,D,h,C,fZ,g5,M,i4,G⟩;refine fU _ _<|ZS I fun g6=>Zm O<|Zm O ?_;have aW:=(D.rd.top).takeK Xj i;refine Ze (X3p (l:=m) (k:=i) O O Xp X0p O hi D.cap)<|Ze (X0w O Xp)<|Zm O<|Zt g6 fun a I=>Q8<|X04 (σ:=Nat×Dg) (fun (s:Nat×Dg) (a:Act) (w:World)=>match s with|(j,z)=>∃ b9 bC bP bQ,Fr a 196 [(6,(pZ9 b7)),(8,.slice aQ (othW d.ws p q).length aR),(9,.slice aT (othW d.ws q p).length aU),(10,.slice aD m.length aF),(13,vi ((d.ns.getD p.toNat nZ).p)),(14,vi ((d.ns.getD q.toNat nZ).p)),(15,(pZ9 b57)),(17,vi u9),(18,.bool ((othW d.ws p q).any fun y=>y==u9)),(19,.bool ((othW d.ws q p).any fun y=>y==u9)),(120,.slice aD m.length aF),(121,vi (m.length:Int)),(122,vi (i:Int)),(152,.slice aD (m.take i).length aF),(153,vi ((m.take i).length:Int)),(154,vi (j:Int))]/\(j<=(m.take i).length)/\(z=pvF (othW d.ws p q) (othW d.ws q p) u9 ((m.take i).take j) x3)/\(d.ns.length=z.ns.length)/\(z.ws.length<=o.ws.length+j)/\(PhN z.ns)/\Blk w b7 54 Zc5/\Blk w b57 54 [vi z.n,.slice b9 d.ns.length bC,.slice bP z.ws.length bQ,vi z.t,vi z.r]/\Own w w0.heap.size 3 1 encI aD aF m/\Own w w0.heap.size 3 1 encI aQ aR (othW d.ws p q)/\Own w w0.heap.size 3 1 encI aT aU (othW d.ws q p)/\Rd w hJ.heap.size 3 encI aD (m.take i)/\Own w w0.heap.size 85 2 encNd b9 bC z.ns/\Rw w 99 encWr bP z.ws/\d.ws.length<=dd/\z.ws.length<=bQ/\Bl w0 w) (fun (s:Nat×Dg)=>match s with|(j,z)=>(m.take i).length-j) (0,x3) ?_ ?_
  ·exact ⟨cW,cX,cY,d5,I.sb,(Qf _),O,i0,i1,i2,E,g,D,h,C,aW,fZ,g5.top,M,i4,G⟩
  intro ⟨j,z⟩ a w36 ⟨b9,bC,bP,bQ,I,hj,hz,bR,i5,cO,E,g,D,h,C,aW,aX,bD,M,dQ,G⟩;refine ZS I fun g7=>Ze (X16 O O)<|ZX g7 fun a I _ g8=>X0y I O (fun aS cP=>?_) (fun aS cP=>?_)
  ·have ⟨jM,iG⟩:=Xa (l:=(m.take i)) (k:=j) Z;have ⟨v9,dR⟩:=Xa (l:=m.take i) (k:=j) (by have:=cP;omega);have jN:j<i:=by have:=(Qg.1 dR).1;rw[Qn] at this;omega
   have b8:=Xsf (l:=(othW d.ws p q)) (m:=(othW d.ws q p)) (x:=u9) (o:=x3) dR;rw[<- hz] at b8;refine Q7<|g8 _ _<|Q5 fun _ d9=>Q8<|ZS I fun gA=>Zi (k:=j) (u:=v9) (enc:=encI) (l:=(m.take i)) tv0 O O Xp X0p Xj aW dR O ?_;intro iH d6;refine Ze (X0 O X8 d6)<|Za O<|ZX gA fun a I _ dS=>X0i (fun a w=>Fr a 196 [(6,(pZ9 b7)),(8,.slice aQ (othW d.ws p q).length aR),(9,.slice aT (othW d.ws q p).length aU),(10,.slice aD m.length aF),(13,vi ((d.ns.getD p.toNat nZ).p)),(14,vi ((d.ns.getD q.toNat nZ).p)),(15,(pZ9 b57)),(17,vi u9),(18,.bool ((othW d.ws p q).any fun y=>y==u9)),(19,.bool ((othW d.ws q p).any fun y=>y==u9)),(21,vi v9),(120,.slice aD m.length aF),(121,vi (m.length:Int)),(122,vi (i:Int)),(152,.slice aD (m.take i).length aF),(153,vi ((m.take i).length:Int)),(154,vi (j:Int)),(170,.bool ((((othW d.ws p q).any fun y=>y==u9)&&((othW d.ws q p).any fun y=>y==v9)) != (((othW d.ws q p).any fun y=>y==u9)&&((othW d.ws p q).any fun y=>y==v9))))]/\Bl w36 w) ?_ ?_
   ·have a8:Bl w36 w36:=Below.refl _ _;refine Zr I<|Zm O<|Zm O<|Zg 159 O ?_ ?_<;>intro a7
    ·refine Zv (gW a7) (X5 O) ?_;refine Zv (gW a7) (X5 O) ?_;refine Zk (gW a7) (Vc (Xo7 _ aT aU (othW d.ws q p) C.rd.top v9 Z) Xc0) ?_;rintro _ jO ⟨rfl,J⟩;have ⟨h,G,a8⟩:=mv3 J h G a8;refine Ze (Xc O a7 O)<|Zm O<|Zm O ?_;refine Zg 165 O ?_ ?_<;>intro aH
     ·refine Zv (gW aH) (X5 O) ?_;refine Zv (gW aH) (X5 O) ?_;refine Zk (gW aH) (Vc (Xo7 _ aQ aR (othW d.ws p q) h.rd.top v9 Z) Xc0) ?_;rintro _ jP ⟨rfl,J⟩;have G:=btr G J;have a8:=btr a8 J;refine Ze (Xc O aH O)<|Ze (Xac underlying4 O O) ?_;exact Zn fun a I=>⟨I.sub ⟨O,O,O,O,O,O,O,O,O,O,O,O,O,O,O,O,O,X1 O (by first|rfl|(simp only[aA,Q,aO,aG,aS,a7,aH,bs];done)|simp[aA,Q,aO,aG,aS,a7,aH]),trivial⟩,a8⟩
     (iterate 3 refine Zp (gP aH) ?_);exact Ze (Xi O aH O)<|Ze (Xac underlying4 O O)<|Zn fun a I=>⟨I.sub ⟨O,O,O,O,O,O,O,O,O,O,O,O,O,O,O,O,O,X1 O (by first|rfl|(simp only[aA,Q,aO,aG,aS,a7,aH,bs];done)|simp[aA,Q,aO,aG,aS,a7,aH]),trivial⟩,a8⟩
    (iterate 3 refine Zp (gP a7) ?_);refine Ze (Xi O a7 O)<|Zm O<|Zm O<|Zg 165 O ?_ ?_<;>intro aI
    ·refine Zv (gW aI) (X5 O) ?_;refine Zv (gW aI) (X5 O) ?_;refine Zk (gW aI) (Vc (Xo7 _ aQ aR (othW d.ws p q) h.rd.top v9 Z) Xc0) ?_;rintro _ jQ ⟨rfl,J⟩;have G:=btr G J;have a8:=btr a8 J;refine Ze (Xc O aI O)<|Ze (Xac underlying4 O O) ?_;refine Zn fun a I=>?_;exact ⟨I.sub ⟨O,O,O,O,O,O,O,O,O,O,O,O,O,O,O,O,O,X1 O (by first|rfl|(simp only[aA,Q,aO,aG,aS,a7,aI,bs];done)|simp[aA,Q,aO,aG,aS,a7,aI]),trivial⟩,a8⟩
    (iterate 3 refine Zp (gP aI) ?_);exact Ze (Xi O aI O)<|Ze (Xac underlying4 O O)<|Zn fun a I=>⟨I.sub ⟨O,O,O,O,O,O,O,O,O,O,O,O,O,O,O,O,O,X1 O (by first|rfl|(simp only[aA,Q,aO,aG,aS,a7,aI,bs];done)|simp[aA,Q,aO,aG,aS,a7,aI]),trivial⟩,a8⟩
   intro a jR ⟨I,J⟩;have ⟨E,g,D,h,C,aW,aX,bD⟩:=mv8 J E g D h C aW aX bD;have G:=btr G J;refine dS _ _<|Xx I O ?_ ?_<;>intro bI
   ·rw[Ybf bI] at b8;refine Zr I<|Ze (Vn X2 g)<|Zm O<|Zm O<|Zf (Vc (Xzn _ z d.ns.length bR b9 bC _ aX G.size bP bQ bD.top dQ u9 v9 (by have:=i5;have:=gT;omega)) Xkv) ?_;rintro _ jS ⟨dA,dB,rfl,aL,bJ,dT,i6,hg⟩;have H:=aX;have E:=E.appT H hg O;have g:=g.appT H hg O;have D:=D.appT H hg O;have h:=h.appT H hg O;have C:=C.appT H hg O;have aW:=aW.appT H hg O;have G:=Below.app G H hg (Qb _) G.size;clear H hg;clear aX;have aX:=aL;clear aL;refine Zo (Vw [vi ((tgD z u9 v9).n),.slice b9 d.ns.length bC,.slice dA ((tgD z u9 v9).ws).length dB,vi ((tgD z u9 v9).t),vi ((tgD z u9 v9).r)] Xv g) ?_;intro _ jT ⟨ho,hb⟩;have E:=E.oy ho Z;have D:=D.oT ho g O;have h:=h.oT ho g O;have C:=C.oT ho g O;have aW:=aW.oT ho g O;have aX:=aX.oT ho g O;have bJ:=bJ.oT ho g O;have G:=Below.oy G ho b0;have g:=hb;exact Zn fun a I=>Xd<|d9 _ _<|Zr I<|Ze (Xr O O Z Z)<|Zm O<|Zn fun a I=>Xh<|⟨(j+1,(tgD z u9 v9)),⟨b9,bC,dA,dB,I.sb,Z,(by rw[b8]),(by first|exact bR|(rw[(X3m z u9 v9).1];exact bR)),(by first|omega|(have:=(X3m z u9 v9).2;omega)),(by first|exact cO|(rw[(X3m z u9 v9).1];exact cO)),E,g,D,h,C,aW,aX,bJ.top,M,dT,G⟩,O1⟩
   rw[Ybe bI] at b8;exact Q7<|Xd<|d9 _ _<|Zr I<|Ze (Xr O O Z Z)<|Zm O<|Zn fun a I=>Xh<|⟨(j+1,z),⟨b9,bC,bP,bQ,I.sb,Z,(by rw[b8]),(by first|exact bR|(rw[(X3m z u9 v9).1];exact bR)),(by first|omega|(have:=(X3m z u9 v9).2;omega)),(by first|exact cO|(rw[(X3m z u9 v9).1];exact cO)),E,g,D,h,C,aW,aX,bD.top,M,dQ,G⟩,O1⟩
  have i7:z=pvM (d.ns.getD p.toNat nZ).p (d.ns.getD q.toNat nZ).p (othW d.ws p q) (othW d.ws q p) m (id0 (id0 d p) q) (i+1):=by rw[hz,Qi (by have:=cP;omega),Xhc bN,<- f9,hY,gY,gU];rfl
  have jU:j<=i:=by rw[Qn] at hj;omega
  exact Q9<|Xk<|Xk<|X06<|Xd<|fC _ _<|Zr I<|Ze (Xr O O Z Z)<|Zm O<|Zn fun a I=>Xh<|⟨(i+1,z),⟨b9,bC,bP,bQ,I.sb,Z,i7,bR,Z,cO,E,g,D,h,C,aX,bD.top,M,dQ,G⟩,O1⟩
 have dC:o=pvM (d.ns.getD p.toNat nZ).p (d.ns.getD q.toNat nZ).p (othW d.ws p q) (othW d.ws q p) (pvL d p q) (id0 (id0 d p) q) (pvL d p q).length:=by rw[f9,bO];congr 1;have:=bZ;rw[bO] at this hi;omega
 refine Q9<|Xk<|Xk<|X06<|f7 _ _<|Q5 fun _ cQ=>ZS I fun dU=>Zm O<|Zm O<|Ze (Xr O O Z Z)<|Ze (X0l O O)<|Zt dU fun a I=>Xx I O ?_ ?_<;>intro bK
 ·have cR:=bK;refine Zr I<|Ze (Vd O X1o 3)<|Ze (X0 O X8 (g.at 3))<|Ze (X3b O O)<|Ze (Vd O X1o 3)<|Zo (Vu (vs:=[vi (wr (o.t+4))]) (l':=[vi o.n,.slice aY d.ns.length aZ,.slice b1 o.ws.length b2,vi (wr (o.t+4)),vi o.r]) O O X0p g) ?_;intro _ jV ⟨ho,hb⟩;have E:=E.oy ho Z;have a6:=a6.oT ho g O;have aE:=aE.oT ho g O;have G:=Below.oy G ho b0;have g:=hb;refine Zx cQ fun a I _ dW=>Ze (Vd O X0h 4)<|Ze (X0 O X8 (g.at 4))<|Zm O<|Ze (X0w O Xp)<|Ze (X1j O O Z Z)<|Zm O<|Ze (X0w O Xp)<|Ze (X1j O O Z Z)<|Ze (X3b O O)<|Ze (Vd O X0h 4)<|Zo (Vu (vs:=[vi (wr (o.r+((1-((othW d.ws p q).length:Int))-((othW d.ws q p).length:Int))))]) (l':=[vi o.n,.slice aY d.ns.length aZ,.slice b1 o.ws.length b2,vi (wr (o.t+4)),vi (wr (o.r+((1-((othW d.ws p q).length:Int))-((othW d.ws q p).length:Int))))]) O O X0p g) ?_;intro _ jW ⟨ho,hb⟩;have E:=E.oy ho Z;have a6:=a6.oT ho g O;have aE:=aE.oT ho g O;have G:=Below.oy G ho b0;have g:=hb;refine Zx dW fun a I _ dX=>Ze (Vn X2 g)<|Zo (Vw [vi o.n,.slice aY d.ns.length aZ,.slice b1 o.ws.length b2,vi (wr (o.t+4)),vi (wr (o.r+((1-((othW d.ws p q).length:Int))-((othW d.ws q p).length:Int))))] Xv E) ?_;intro _ jX ⟨ho,hb⟩;have a6:=a6.oT ho E O;have aE:=aE.oT ho E O;have G:=Below.oy G ho bL;have E:=hb;refine Za O<|Zt dX fun a I=>Q6 (X6 I (X1q I O (ResV.cellN (l:=[vi o.n,.slice aY d.ns.length aZ,.slice b1 o.ws.length b2,vi (wr (o.t+4)),vi (wr (o.r+((1-((othW d.ws p q).length:Int))-((othW d.ws q p).length:Int))))]) O X2 (E.at 0) O) O) ?_);rw[eP,Q4 O,Xfr dC,Q4 cR,aC];exact ⟨aY,aZ,b1,b2,O,a6.rd.top,aE.top,cV,bY,G⟩
 have cR:=bK;refine Q7<|cQ _ _<|ZS I fun dY=>Ze (Vd O X0h 4)<|Ze (X0 O X8 (g.at 4))<|Zm O<|Ze (X0w O Xp)<|Ze (X1j O O Z Z)<|Zm O<|Ze (X0w O Xp)<|Ze (X1j O O Z Z)<|Ze (X3b O O)<|Ze (Vd O X0h 4)<|Zo (Vu (vs:=[vi (wr (o.r+((1-((othW d.ws p q).length:Int))-((othW d.ws q p).length:Int))))]) (l':=[vi o.n,.slice aY d.ns.length aZ,.slice b1 o.ws.length b2,vi o.t,vi (wr (o.r+((1-((othW d.ws p q).length:Int))-((othW d.ws q p).length:Int))))]) O O X0p g) ?_;intro _ jY ⟨ho,hb⟩;have E:=E.oy ho Z;have a6:=a6.oT ho g O;have aE:=aE.oT ho g O;have G:=Below.oy G ho b0;have g:=hb;refine Zx dY fun a I _ eA=>Ze (Vn X2 g)<|Zo (Vw [vi o.n,.slice aY d.ns.length aZ,.slice b1 o.ws.length b2,vi o.t,vi (wr (o.r+((1-((othW d.ws p q).length:Int))-((othW d.ws q p).length:Int))))] Xv E) ?_;intro _ jZ ⟨ho,hb⟩;have a6:=a6.oT ho E O;have aE:=aE.oT ho E O;have G:=Below.oy G ho bL;have E:=hb;refine Za O<|Zt eA fun a I=>Q6 (X6 I (X1q I O (ResV.cellN (l:=[vi o.n,.slice aY d.ns.length aZ,.slice b1 o.ws.length b2,vi o.t,vi (wr (o.r+((1-((othW d.ws p q).length:Int))-((othW d.ws q p).length:Int))))]) O X2 (E.at 0) O) O) ?_);rw[eP,Q4 O,Xfr dC,Q3 (by rw[cR];decide),aC];exact ⟨aY,aZ,b1,b2,O,a6.rd.top,aE.top,cV,bY,G⟩
theorem Y82(w0:World)(d:Dg)(md:Nat)(o:md=d.ns.length)(Ad:Option Addr)(cd:Nat)(p:Rw w0 85 encNd Ad d.ns)(Bd:Option Addr)(dd:Nat)(q:Rw w0 99 encWr Bd d.ws)(y:d.ws.length<=dd)(x:Rz)(hD:InD d):RE 92 [.agg #[vi d.n,.slice Ad md cd,.slice Bd d.ws.length dd,vi d.t,vi d.r],.agg #[vi x.u,vi x.a,vi x.b]] w0 (fun v w=>∃ A c B e,v=.tuple #[.agg #[vi (if (doC d x)=true then doD d x else d).n,.slice A md c,.slice B (if (doC d x)=true then doD d x else d).ws.length e,vi (if (doC d x)=true then doD d x else d).t,vi (if (doC d x)=true then doD d x else d).r],.bool (doC d x)]/\Rw w 85 encNd A (if (doC d x)=true then doD d x else d).ns/\Rw w 99 encWr B (if (doC d x)=true then doD d x else d).ws/\(if (doC d x)=true then doD d x else d).ws.length<=e/\md=(if (doC d x)=true then doD d x else d).ns.length/\Bl w0 w):=by
 refine enter func92 O 59 O O ?_;intro a i;have g:=bz w0;refine ZS i fun bP=>Zf (X0n (zs:=(Zc4 d Ad md cd Bd dd)) O O) ?_;rintro _ w1 ⟨b4,rfl,bQ,h,k⟩;have bW:=Q0 g.size bQ;have g:=btr g h;refine Zf (X0n (zs:=[vi x.u,vi x.a,vi x.b]) O O) ?_;rintro _ w2 ⟨b5,rfl,bR,h,m⟩;have bX:=Q0 g.size bR;have k:=k.bw h;have g:=btr g h;refine Zf (X0b (zs:=Zc5) X1c O) ?_;rintro _ w3 ⟨b8,rfl,bS,h,f⟩;have bO:b4≠b8:=by have:=k.lt;omega
 have C:=Q0 g.size bS;have ⟨k,m,g⟩:=mv3 h k m g;refine Za O<|ZX bP fun a i _ bU=>ZS i fun aX=>Ze (Vd O X5w 0)<|Ze (X0 O X8 (m.at 0))<|Zt aX fun a i=>Q8<|ZS i fun aY=>Ze (X0l O O)<|Za O<|Zt aY fun a i=>Xx i O ?_ ?_<;>intro G
 ·have j:=Y9m (d:=d) G;refine ZS i fun aZ=>Ze (Vn X2 k)<|Ze (Vd O X2m 1)<|Ze (X0 O X8 (m.at 1))<|Ze (Vd O X4z 2)<|Ze (X0 O X8 (m.at 2))<|Zf (Vc (Y8a _ d md o Ad cd (p.bx g).top Bd dd (q.bx g).top y x.a x.b hD) Xx2) ?_;rintro _ w4 ⟨H,I,J,L,rfl,M,N,b0,bY,h⟩;have f:=f.bw h;have g:=btr g h;refine Ze (Xf (vs:=[.agg #[vi ((if (fuC d x.a x.b)=true then fuD d x.a x.b else d).n),.slice H md I,.slice J ((if (fuC d x.a x.b)=true then fuD d x.a x.b else d).ws).length L,vi ((if (fuC d x.a x.b)=true then fuD d x.a x.b else d).t),vi ((if (fuC d x.a x.b)=true then fuD d x.a x.b else d).r)],.bool (fuC d x.a x.b)]) O O)<|Ze (Xf (vs:=[.agg #[vi ((if (fuC d x.a x.b)=true then fuD d x.a x.b else d).n),.slice H md I,.slice J ((if (fuC d x.a x.b)=true then fuD d x.a x.b else d).ws).length L,vi ((if (fuC d x.a x.b)=true then fuD d x.a x.b else d).t),vi ((if (fuC d x.a x.b)=true then fuD d x.a x.b else d).r)],.bool (fuC d x.a x.b)]) O O)<|Zo (Vw [vi ((if (fuC d x.a x.b)=true then fuD d x.a x.b else d).n),.slice H md I,.slice J ((if (fuC d x.a x.b)=true then fuD d x.a x.b else d).ws).length L,vi ((if (fuC d x.a x.b)=true then fuD d x.a x.b else d).t),vi ((if (fuC d x.a x.b)=true then fuD d x.a x.b else d).r)] Xv f) ?_;intro _ w5 ⟨D,E⟩;have M:=M.oT D f O;have N:=N.oT D f O;have g:=Below.oy g D C;have f:=E;refine Za O<|Zt aZ fun a i=>Q6<|Xu<|X9<|X6 i (X1q i O (ResV.cellN (l:=[vi ((if (fuC d x.a x.b)=true then fuD d x.a x.b else d).n),.slice H md I,.slice J ((if (fuC d x.a x.b)=true then fuD d x.a x.b else d).ws).length L,vi ((if (fuC d x.a x.b)=true then fuD d x.a x.b else d).t),vi ((if (fuC d x.a x.b)=true then fuD d x.a x.b else d).r)]) O X2 (f.at 0) O) O) ?_;rw[j.1,j.2];exact ⟨H,I,J,L,O,M.top,N.top,b0,by assumption,g⟩
 have g1:=G;refine ZS i fun b1=>Ze (X0l O O)<|Za O<|Zt b1 fun a i=>Xx i O ?_ ?_<;>intro Q
 ·have j:=Y9o (d:=d) g1 Q;refine ZS i fun b2=>Ze (Vn X2 k)<|Ze (Vd O X2m 1)<|Ze (X0 O X8 (m.at 1))<|Ze (Vd O X4z 2)<|Ze (X0 O X8 (m.at 2))<|Zf (Vc (Y8b _ d md o Ad cd (p.bx g).top Bd dd (q.bx g).top y x.a x.b hD) Xx3) ?_;rintro _ w6 ⟨U,W,a6,a7,rfl,a8,aA,b3,bZ,h⟩;have f:=f.bw h;have g:=btr g h;refine Ze (Xf (vs:=[.agg #[vi ((if (pvC d x.a x.b)=true then pvD d x.a x.b else d).n),.slice U md W,.slice a6 ((if (pvC d x.a x.b)=true then pvD d x.a x.b else d).ws).length a7,vi ((if (pvC d x.a x.b)=true then pvD d x.a x.b else d).t),vi ((if (pvC d x.a x.b)=true then pvD d x.a x.b else d).r)],.bool (pvC d x.a x.b)]) O O)<|Ze (Xf (vs:=[.agg #[vi ((if (pvC d x.a x.b)=true then pvD d x.a x.b else d).n),.slice U md W,.slice a6 ((if (pvC d x.a x.b)=true then pvD d x.a x.b else d).ws).length a7,vi ((if (pvC d x.a x.b)=true then pvD d x.a x.b else d).t),vi ((if (pvC d x.a x.b)=true then pvD d x.a x.b else d).r)],.bool (pvC d x.a x.b)]) O O)<|Zo (Vw [vi ((if (pvC d x.a x.b)=true then pvD d x.a x.b else d).n),.slice U md W,.slice a6 ((if (pvC d x.a x.b)=true then pvD d x.a x.b else d).ws).length a7,vi ((if (pvC d x.a x.b)=true then pvD d x.a x.b else d).t),vi ((if (pvC d x.a x.b)=true then pvD d x.a x.b else d).r)] Xv f) ?_;intro _ w7 ⟨D,E⟩;have a8:=a8.oT D f O;have aA:=aA.oT D f O;have g:=Below.oy g D C;have f:=E;refine Za O<|Zt b2 fun a i=>Q6<|Xu<|X9<|X6 i (X1q i O (ResV.cellN (l:=[vi ((if (pvC d x.a x.b)=true then pvD d x.a x.b else d).n),.slice U md W,.slice a6 ((if (pvC d x.a x.b)=true then pvD d x.a x.b else d).ws).length a7,vi ((if (pvC d x.a x.b)=true then pvD d x.a x.b else d).t),vi ((if (pvC d x.a x.b)=true then pvD d x.a x.b else d).r)]) O X2 (f.at 0) O) O) ?_;rw[j.1,j.2];exact ⟨U,W,a6,a7,O,a8.top,aA.top,b3,by assumption,g⟩
 have g4:=Q;refine Q7<|Xd<|bU _ _<|Q5 fun _ b6=>ZS i fun b7=>Ze (Vd O X4z 2)<|Ze (X0 O X8 (m.at 2))<|Ze (X28 O O)<|Zt b7 fun a i=>Xx i O ?_ ?_<;>intro aB
 ·have j:=Ydm (d:=d) g1 g4 aB;refine ZS i fun b9=>Ze (Vn X2 k)<|Zo (Vw (Zc4 d Ad md cd Bd dd) Xv f) ?_;intro _ w8 ⟨D,E⟩;have g:=Below.oy g D C;have f:=E;refine Za O<|Zt b9 fun a i=>Q6<|X9<|X6 i (X1q i O (ResV.cellN (l:=(Zc4 d Ad md cd Bd dd)) O X2 (f.at 0) O) O) ?_;rw[j,Q3 Bool.false_ne_true];exact ⟨Ad,cd,Bd,dd,O,(p.bx g).top,(q.bx g).top,y,o,g⟩
 have gb:=aB;refine Q7<|b6 _ _<|Q5 fun _ bC=>ZS i fun bD=>Ze (Vd O X5w 0)<|Ze (X0 O X8 (m.at 0))<|Zt bD fun a i=>Q8<|ZS i fun bE=>Ze (X0l O O)<|Za O<|Zt bE fun a i=>Xx i O ?_ ?_<;>intro aC
 ·have j:=Y9n (d:=d) g1 g4 gb aC;refine ZS i fun bF=>Ze (Vn X2 k)<|Ze (Vd O X2m 1)<|Ze (X0 O X8 (m.at 1))<|Zf (Vc (Y8c _ d md o Ad cd (p.bx g).top Bd dd (q.bx g).top y x.a hD) Xx4) ?_;rintro _ w9 ⟨aD,aE,aF,aG,rfl,aH,aI,bG,cA,h⟩;have f:=f.bw h;have g:=btr g h;refine Ze (Xf (vs:=[.agg #[vi ((if (idC d x.a)=true then idD d x.a else d).n),.slice aD md aE,.slice aF ((if (idC d x.a)=true then idD d x.a else d).ws).length aG,vi ((if (idC d x.a)=true then idD d x.a else d).t),vi ((if (idC d x.a)=true then idD d x.a else d).r)],.bool (idC d x.a)]) O O)<|Ze (Xf (vs:=[.agg #[vi ((if (idC d x.a)=true then idD d x.a else d).n),.slice aD md aE,.slice aF ((if (idC d x.a)=true then idD d x.a else d).ws).length aG,vi ((if (idC d x.a)=true then idD d x.a else d).t),vi ((if (idC d x.a)=true then idD d x.a else d).r)],.bool (idC d x.a)]) O O)<|Zo (Vw [vi ((if (idC d x.a)=true then idD d x.a else d).n),.slice aD md aE,.slice aF ((if (idC d x.a)=true then idD d x.a else d).ws).length aG,vi ((if (idC d x.a)=true then idD d x.a else d).t),vi ((if (idC d x.a)=true then idD d x.a else d).r)] Xv f) ?_;intro _ cD ⟨D,E⟩;have aH:=aH.oT D f O;have aI:=aI.oT D f O;have g:=Below.oy g D C;have f:=E;refine Za O<|Zt bF fun a i=>Q6<|Xu<|X9<|X6 i (X1q i O (ResV.cellN (l:=[vi ((if (idC d x.a)=true then idD d x.a else d).n),.slice aD md aE,.slice aF ((if (idC d x.a)=true then idD d x.a else d).ws).length aG,vi ((if (idC d x.a)=true then idD d x.a else d).t),vi ((if (idC d x.a)=true then idD d x.a else d).r)]) O X2 (f.at 0) O) O) ?_;rw[j.1,j.2];exact ⟨aD,aE,aF,aG,O,aH.top,aI.top,bG,by assumption,g⟩
 have g2:=aC;refine ZS i fun bH=>Ze (X0l O O)<|Za O<|Zt bH fun a i=>Xx i O ?_ ?_<;>intro aJ
 ·have j:=Ydl (d:=d) g1 g4 gb g2 aJ;refine ZS i fun bI=>Ze (Vn X2 k)<|Ze (Vd O X2m 1)<|Ze (X0 O X8 (m.at 1))<|Zf (Vc (Y8d _ d md o Ad cd (p.bx g).top Bd dd (q.bx g).top y x.a hD) Xx5) ?_;rintro _ cE ⟨aK,aL,aM,aN,rfl,aO,aP,bJ,cB,h⟩;have f:=f.bw h;have g:=btr g h;refine Ze (Xf (vs:=[.agg #[vi ((if (lcC d x.a)=true then lcD d x.a else d).n),.slice aK md aL,.slice aM ((if (lcC d x.a)=true then lcD d x.a else d).ws).length aN,vi ((if (lcC d x.a)=true then lcD d x.a else d).t),vi ((if (lcC d x.a)=true then lcD d x.a else d).r)],.bool (lcC d x.a)]) O O)<|Ze (Xf (vs:=[.agg #[vi ((if (lcC d x.a)=true then lcD d x.a else d).n),.slice aK md aL,.slice aM ((if (lcC d x.a)=true then lcD d x.a else d).ws).length aN,vi ((if (lcC d x.a)=true then lcD d x.a else d).t),vi ((if (lcC d x.a)=true then lcD d x.a else d).r)],.bool (lcC d x.a)]) O O)<|Zo (Vw [vi ((if (lcC d x.a)=true then lcD d x.a else d).n),.slice aK md aL,.slice aM ((if (lcC d x.a)=true then lcD d x.a else d).ws).length aN,vi ((if (lcC d x.a)=true then lcD d x.a else d).t),vi ((if (lcC d x.a)=true then lcD d x.a else d).r)] Xv f) ?_;intro _ cG ⟨D,E⟩;have aO:=aO.oT D f O;have aP:=aP.oT D f O;have g:=Below.oy g D C;have f:=E;refine Za O<|Zt bI fun a i=>Q6<|Xu<|X9<|X6 i (X1q i O (ResV.cellN (l:=[vi ((if (lcC d x.a)=true then lcD d x.a else d).n),.slice aK md aL,.slice aM ((if (lcC d x.a)=true then lcD d x.a else d).ws).length aN,vi ((if (lcC d x.a)=true then lcD d x.a else d).t),vi ((if (lcC d x.a)=true then lcD d x.a else d).r)]) O X2 (f.at 0) O) O) ?_;rw[j.1,j.2];exact ⟨aK,aL,aM,aN,O,aO.top,aP.top,bJ,by assumption,g⟩
 have g3:=aJ;refine ZS i fun bK=>Ze (X0l O O)<|Za O<|Zt bK fun a i=>Xx i O ?_ ?_<;>intro aQ
 ·have j:=Y9p (d:=d) g1 g4 gb g2 g3 aQ;refine ZS i fun bL=>Ze (Vn X2 k)<|Ze (Vd O X2m 1)<|Ze (X0 O X8 (m.at 1))<|Zf (Vc (Y8e _ d md o Ad cd (p.bx g).top Bd dd (q.bx g).top y x.a hD) Xx6) ?_;rintro _ cH ⟨aR,aS,aT,aU,rfl,aV,aW,bM,cC,h⟩;have f:=f.bw h;have g:=btr g h;refine Ze (Xf (vs:=[.agg #[vi ((if (loC d x.a)=true then loD d x.a else d).n),.slice aR md aS,.slice aT ((if (loC d x.a)=true then loD d x.a else d).ws).length aU,vi ((if (loC d x.a)=true then loD d x.a else d).t),vi ((if (loC d x.a)=true then loD d x.a else d).r)],.bool (loC d x.a)]) O O)<|Ze (Xf (vs:=[.agg #[vi ((if (loC d x.a)=true then loD d x.a else d).n),.slice aR md aS,.slice aT ((if (loC d x.a)=true then loD d x.a else d).ws).length aU,vi ((if (loC d x.a)=true then loD d x.a else d).t),vi ((if (loC d x.a)=true then loD d x.a else d).r)],.bool (loC d x.a)]) O O)<|Zo (Vw [vi ((if (loC d x.a)=true then loD d x.a else d).n),.slice aR md aS,.slice aT ((if (loC d x.a)=true then loD d x.a else d).ws).length aU,vi ((if (loC d x.a)=true then loD d x.a else d).t),vi ((if (loC d x.a)=true then loD d x.a else d).r)] Xv f) ?_;intro _ cI ⟨D,E⟩;have aV:=aV.oT D f O;have aW:=aW.oT D f O;have g:=Below.oy g D C;have f:=E;refine Za O<|Zt bL fun a i=>Q6<|Xu<|X9<|X6 i (X1q i O (ResV.cellN (l:=[vi ((if (loC d x.a)=true then loD d x.a else d).n),.slice aR md aS,.slice aT ((if (loC d x.a)=true then loD d x.a else d).ws).length aU,vi ((if (loC d x.a)=true then loD d x.a else d).t),vi ((if (loC d x.a)=true then loD d x.a else d).r)]) O X2 (f.at 0) O) O) ?_;rw[j.1,j.2];exact ⟨aR,aS,aT,aU,O,aV.top,aW.top,bM,by assumption,g⟩
 have j:=Ydk (d:=d) g1 g4 gb g2 g3 aQ;refine Q7<|Xd<|bC _ _<|ZS i fun bN=>Ze (Vn X2 k)<|Zo (Vw (Zc4 d Ad md cd Bd dd) Xv f) ?_;intro _ cJ ⟨D,E⟩;have g:=Below.oy g D C;have f:=E;refine Za O<|Zt bN fun a i=>Q6 (X6 i (X1q i O (ResV.cellN (l:=(Zc4 d Ad md cd Bd dd)) O X2 (f.at 0) O) O) ?_);rw[j,Q3 Bool.false_ne_true];exact ⟨Ad,cd,Bd,dd,O,(p.bx g).top,(q.bx g).top,y,o,g⟩
def cnW(ws:List Wr)(k:Int) : Int:=((ws.filter fun w=>w.a==k||w.b==k).length:Int)
def Y9e{ws:List Wr}{k:Int}{j:Nat}{w:Wr}(hj:ws[j]? = some w)(h:(w.a==k||w.b==k)=true):cnW (ws.take (j+1)) k=cnW (ws.take j) k+1:=by
 unfold cnW;rw[X4p (q:=fun w=>w.a==k||w.b==k) hj,Q4 h,Qh];rfl
def Y9d{ws:List Wr}{k:Int}{j:Nat}{w:Wr}(hj:ws[j]? = some w)(h:(w.a==k||w.b==k)=false):cnW (ws.take (j+1)) k=cnW (ws.take j) k:=by
 unfold cnW;rw[X4p (q:=fun w=>w.a==k||w.b==k) hj,Q3 (by rw[h];decide),List.append_nil]
def Xk9(ws:List Wr)(k:Int)(j:Nat):0<=cnW (ws.take j) k/\cnW (ws.take j) k<=j:=by grind [cnW]
def ctN(ns:List Nd)(k p:Int) : Int:=((ns.filter fun x=>x.k==k&&x.p==p).length:Int)
def Ydh{ns:List Nd}{k p:Int}{j:Nat}{x:Nd}(hj:ns[j]? = some x)(h:(x.k==k&&x.p==p)=true):ctN (ns.take (j+1)) k p=ctN (ns.take j) k p+1:=by
 unfold ctN;rw[X4p (q:=fun x=>x.k==k&&x.p==p) hj,Q4 h,Qh];rfl
def Ydg{ns:List Nd}{k p:Int}{j:Nat}{x:Nd}(hj:ns[j]? = some x)(h:(x.k==k&&x.p==p)=false):ctN (ns.take (j+1)) k p=ctN (ns.take j) k p:=by
 unfold ctN;rw[X4p (q:=fun x=>x.k==k&&x.p==p) hj,Q3 (by rw[h];decide),List.append_nil]
def Y9h(ns:List Nd)(k p:Int)(j:Nat):0<=ctN (ns.take j) k p/\ctN (ns.take j) k p<=j:=by grind [ctN]
def ndQ(d:Dg)(k:Int) : Bool:=
 if ((d.ns.getD k.toNat nZ).k==0)=true then (d.ns.getD k.toNat nZ).p==0&&cnW d.ws k==0
 else if ((d.ns.getD k.toNat nZ).k==1||(d.ns.getD k.toNat nZ).k==2)=true then inR (d.ns.getD k.toNat nZ).p 0 (d.n-1)&&cnW d.ws k==1
 else (d.ns.getD k.toNat nZ).k==3&&inR (d.ns.getD k.toNat nZ).p 0 7
def Ye6{d:Dg}{k:Int}(h:((d.ns.getD k.toNat nZ).k==0)=true):ndQ d k=((d.ns.getD k.toNat nZ).p==0&&cnW d.ws k==0):=Q4 h
def Yar{d:Dg}{k:Int}(h:((d.ns.getD k.toNat nZ).k==0)=false)(h2:((d.ns.getD k.toNat nZ).k==1||(d.ns.getD k.toNat nZ).k==2)=true):ndQ d k=(inR (d.ns.getD k.toNat nZ).p 0 (d.n-1)&&cnW d.ws k==1):=by
 unfold ndQ;rw[h,h2];rfl
def Ye7{d:Dg}{k:Int}(h:((d.ns.getD k.toNat nZ).k==0)=false)(h2:((d.ns.getD k.toNat nZ).k==1||(d.ns.getD k.toNat nZ).k==2)=false):ndQ d k=((d.ns.getD k.toNat nZ).k==3&&inR (d.ns.getD k.toNat nZ).p 0 7):=by
 unfold ndQ;rw[h,h2];rfl
def enQ(d:Dg)(k:Int) : Bool:=(List.range d.n.toNat).all fun (j:Nat)=>ctN d.ns k (j:Int)==1
def endQ(d:Dg) : Bool:=enQ d 1&&enQ d 2
def Y9s{d:Dg}{e j:Nat}(h1:1<=e)(h2:e<=2)(hj:(j:Int)<d.n)(h:(ctN d.ns (e:Int) (j:Int) != 1)=true):endQ d=false:=by
 have hx:enQ d (e:Int)=false:=Xft (k:=j) Z (by simpa[bne] using h);unfold endQ;rcases (by omega:e=1∨e=2) with h3|h3<;>subst h3
 ·rw[show enQ d 1=false from hx];rfl
 ·rw[show enQ d 2=false from hx,Bool.and_false]
def wrQ(d:Dg)(i:Nat) : Bool:=!(!(inR (d.ws.getD i wZ).a 0 ((d.ws.getD i wZ).b-1))||decide ((d.ns.length:Int)<=(d.ws.getD i wZ).b)||(decide (0<(i:Int))&&!(wlt (d.ws.getD (i-1) wZ) (d.ws.getD i wZ))))
def hdQ(d:Dg) : Bool:=!(!(inR d.n 1 5)||decide (40<(d.ns.length:Int))||!(inR d.t 0 7)||!(inR d.r (-60) 60))
def goodD(d:Dg) : Bool:=hdQ d&&(List.range d.ws.length).all (wrQ d)&&(List.range d.ns.length).all (fun k=>ndQ d (k:Int))&&endQ d
def Yaa{d:Dg}(h:(!(inR d.n 1 5)||decide (40<(d.ns.length:Int))||!(inR d.t 0 7)||!(inR d.r (-60) 60))=true):goodD d=false:=by
 unfold goodD hdQ;rw[h];rfl
def Xqq{d:Dg}(h:(!(inR d.n 1 5)||decide (40<(d.ns.length:Int))||!(inR d.t 0 7)||!(inR d.r (-60) 60))=false):hdQ d=true/\(1<=d.n/\d.n<=5)/\d.ns.length<=40/\(0<=d.t/\d.t<=7)/\-60<=d.r/\d.r<=60:=by grind [hdQ,inR]
def Xuc{d:Dg}{i:Nat}{u:Wr}(hu:d.ws[i]? = some u):wrQ d i = !(!(inR u.a 0 (u.b-1))||decide ((d.ns.length:Int)<=u.b)||(decide (0<(i:Int))&&!(wlt (d.ws.getD (i-1) wZ) u))):=by grind [inR,wZ,wlt,wrQ]
def Y4q{d:Dg}{i:Nat}(hi:i<d.ws.length)(h:wrQ d i=false):goodD d=false:=by grind [goodD,wrQ]
def Y4p{d:Dg}{i:Nat}(hi:i<d.ns.length)(h:ndQ d (i:Int)=false):goodD d=false:=by grind [goodD,ndQ]
def Y4o{d:Dg}(h1:hdQ d=true)(h2:∀ i,i<d.ws.length->wrQ d i=true)(h3:∀ i:Nat,i<d.ns.length->ndQ d (i:Int)=true):goodD d=endQ d:=by grind [endQ,goodD,hdQ,ndQ,wrQ]
end Go.Proofs.YthbobfjhofgfdaaGreat
