/-
  For all drawn circuits, circuits that are verified by rewriting have the same operator up to a phase, and simplification does not increase the T-count. Conditions: none.
-/
import Derived.Test.YthbobfjhofgfdaaGreatW4
import Derived.Test.YthbobfjhofgfdaaGreatW2
import Derived.Test.YthbobfjhofgfdaaGreatW3
import Derived.Shelf.SlSortCmp.WholeK
import Derived.Shelf.SlSortCmp.NoneTotal
import Derived.Shelf.SlGeneric
set_option linter.unusedVariables false
set_option linter.defProp false
set_option linter.unusedSimpArgs false
set_option maxRecDepth 8000
set_option linter.unusedSectionVars false
namespace Go.Proofs.YthbobfjhofgfdaaGreat
open Go.RowKit Go.Proofs.Tryz
variable {α : Type} {P : Program} {a : Act} {w : World} {n : Nat} {e : Env} {ty : TypeId} {pos : String} {af : Array Edge} {g : Option (Nat × Bool)} {d : Option Tmp}
def Own.takeK{B0:Nat}{E:TypeId}{sz:Nat}{enc:α->List Value}{A:Option Addr}{c:Nat}{l:List α}(h:Own w B0 E sz enc A c l)(hsz:∀ x,(enc x).length=sz){k:Nat}(hk:k<=l.length):Own w B0 E sz enc A c (l.take k):=by
 refine ⟨Xw hsz _,?_⟩;have hl:(l.take k).length=k:=by rw[Qn];omega
 rcases h.2 with ⟨h1,h2⟩|⟨gg,cap,cur,h1,h2,h3,h4,h5,h6,h7⟩
 ·have:k=0:=by omega
  subst this;injection h1 with h1 _ h1';exact .inl ⟨by rw[h1,h1'];rfl,rfl⟩
 ·injection h1 with h1 _ h1';refine .inr ⟨gg,cap,cur,by rw[h1,h1'],h2,h3,by omega,h5,h6,?_⟩;rw[hl];have e:(l.take k).flatMap enc=(l.flatMap enc).take (k*sz):=by
   have h8:l.flatMap enc=(l.take k).flatMap enc++(l.drop k).flatMap enc:=by rw[<- List.flatMap_append,W9]
   have h9:((l.take k).flatMap enc).length=k*sz:=by rw[Xw hsz,hl]
   rw[h8,List.take_append_of_le_length (by rw[h9];exact Qb _)];exact (Qi (by rw[h9];exact Qb _)).symm
  rw[e,<- h7,List.take_take];congr 1;have:=Nat.mul_le_mul_right sz hk;omega
def Xd0{z:Array Value}{n:Nat}(hz:z.toList.all one=true)(hn:z≠#[]):(Builtin.zeroCells z n).toList.length=n*z.size/\(Builtin.zeroCells z n).toList.all one=true:=by
 unfold Builtin.zeroCells;refine ⟨by simp,?_⟩;rw[W1];intro v hv;simp only[Array.toList_map,W6] at hv;obtain ⟨i,_,rfl⟩:=hv;have hs:0<z.size:=Array.size_pos_iff.2 hn;have hi:i % z.size<z.size:=Nat.mod_lt _ hs;rw[getElem!_pos z _ hi];exact (W1.1 hz) _ (Array.mem_toList_iff.2 (Array.getElem_mem hi))
def Xpe{T E:TypeId}{sz B0 k cc L:Nat}{x:Operand}{z:Value}{enc:α->List Value}{A:Option Addr}{c:Nat}{l:List α}(hf:Fr a n e)(hx:ev e x=some (.slice (if c=k then A else A.map (·.add (k*sz))) L cc))(hT:SliceT P T E)(hZ:ZeroT P E z)
  (ho:Own w B0 E sz enc A c l) (hz1:z.cells.toList.all one=true) (hz2:z.cells.size=sz) (hsz:∀ x,(enc x).length=sz) (hp:0<sz) (hk:k<=l.length) (hL:k+L<=c) :
  Ef P ⟨d,.call ⟨.builtin .clear,#[x],#[T]⟩,ty,pos,af,g⟩ a w (fun _ w'=>Own w' B0 E sz enc A c (l.take k)/\w.grownBy w' (Value.slice A l.length c).ownBlock):=by
 by_cases hkl:L=0
 ·subst hkl;have hrun:(Builtin.clear_ #[T] ty #[.slice (if c=k then A else A.map (·.add (k*sz))) 0 cc]).run P w=.ok (.tuple #[]) w:=by
   cases (if c=k then A else A.map (·.add (k*sz)))<;>simp[Builtin.clear_,X13 hT]
  refine (Ef.of_run (v:=.tuple #[]) (w':=w) ?_).mono fun v w' ⟨_,e2⟩=>?_
  ·simp[execOp,resolve,invoke,builtin,hf.ev hx,hrun]
  ·subst e2;rcases ho.2 with ⟨h1,h2⟩|⟨gg,cap,cur,h1,h2,h3,h4,h5,h6,h7⟩
   ·exact ⟨ho.takeK hsz hk,World.grownBy.refl _ _⟩
   ·exact ⟨ho.takeK hsz hk,World.grownBy.refl _ _⟩
 ·have hot:=ho.takeK hsz hk;rcases ho.2 with ⟨h1,h2⟩|⟨gg,cap,cur,h1,h2,h3,h4,h5,h6,h7⟩
  ·injection h1 with _ _ h1';omega
  ·injection h1 with h1 _ h1';subst h1';subst h1;have hck:¬ c=k:=by omega
   rw[Q3 hck] at hx;have hcl:cur.toList.length=c*sz:=Array.length_toList.trans h6;have hb:Blk w gg E cur.toList:=by unfold Blk;rw[h3]
   have hzz:=Xd0 (z:=z.cells) (n:=L) hz1 (fun h=>by rw[h] at hz2;simp at hz2;omega);have hle:k*sz+L*z.cells.size<=cur.toList.length:=by
    rw[hcl,hz2,<- Wb];exact Nat.mul_le_mul_right _ hL
   obtain ⟨w',hr,hO,hB⟩:=X57 (P:=P) (b:=gg) (off:=k*sz) (T:=E) (Builtin.zeroCells z.cells L).toList w cur.toList 0 hb (by rw[hzz.1];omega) hzz.2;have hpos:∃ m,L=m+1:=⟨L-1,by omega⟩;have ⟨m,hm⟩:=hpos;have hzv:(zeroValue E).run P w=.ok z w:=by
    have ⟨i,hi,hi2⟩:=hZ;simp[zeroValue,typeInfo,hi,hi2]
   have ha:((⟨gg,0,none⟩ : Addr).add (k*sz))=⟨gg,k*sz,none⟩:=by rw[X2b];simp
   have hrun:(Builtin.clear_ #[T] ty #[.slice (some ⟨gg,k*sz,none⟩) (m+1) cc]).run P w=.ok (.tuple #[]) w':=by
    rw[hm] at hr;simp[Builtin.clear_,X13 hT,hzv,hr]
   refine (Ef.of_run (v:=.tuple #[]) (w':=w') ?_).mono fun v w1 ⟨_,e2⟩=>?_
   ·rw[hm] at hx;simp only[Option.map_some,ha] at hx;simp[execOp,resolve,invoke,builtin,hf.ev hx,hrun]
   ·subst e2;have hlt:(l.take k).length=k:=by rw[Qn];omega
    have hsl:(splice cur.toList (k*sz) (Builtin.zeroCells z.cells L).toList).length=c*sz:=by rw[X4i (by rw[hzz.1];exact hle),hcl]
    refine ⟨⟨Xw hsz _,.inr ⟨gg,c,(splice cur.toList (k*sz) (Builtin.zeroCells z.cells L).toList).toArray,O,h2,?_,by omega,h5,?_,?_⟩⟩,?_⟩
    ·unfold Blk at hB;simpa using hB
    ·rw[List.size_toArray,hsl]
    ·rw[hlt];have e7:cur.toList.take (k*sz)=(l.take k).flatMap enc:=by
      rcases hot.2 with ⟨q1,q2⟩|⟨g2,cap2,cur2,q1,q2,q3,q4,q5,q6,q7⟩
      ·simp at q1
      ·injection q1 with q1 _ q1';injection q1 with q1;injection q1 with q1;subst q1;rw[h3] at q3;injection q3 with q3;injection q3 with q3;subst q3;rw[hlt] at q7;exact q7
     rw[<- e7];show ((splice cur.toList (k*sz) _).toArray.toList).take (k*sz)=_;rw[List.toList_toArray];apply List.ext_getElem?;intro i;rw[List.getElem?_take,List.getElem?_take];split
     ·rename_i hi;rw[X48 (by rw[hzz.1];exact hle),Q4 Z]
     ·rfl
    ·exact ⟨hO.os,hO.tape,hO.output,by rw[hO.size];exact Qb _,fun q _ hne=>hO.block q fun e=>hne (by rw[e];rfl)⟩
def Xhx{T E:TypeId}{sz B0 k cc L:Nat}{x:Operand}{z:Value}{enc:α->List Value}{A:Option Addr}{c:Nat}{l:List α}(hx:ev e x=some (.slice (if c=k then A else A.map (·.add (k*sz))) L cc))(hT:SliceT P T E)(hZ:ZeroT P E z)(ho:Own w B0 E sz enc A c l)(hz1:z.cells.toList.all one=true)(hz2:z.cells.size=sz)(hsz:∀ x,(enc x).length=sz)(hp:0<sz)(hk:k<=l.length)(hL:k+L<=c):EfW P ⟨d,.call ⟨.builtin .clear,#[x],#[T]⟩,ty,pos,af,g⟩ n e w (fun _ w'=>Own w' B0 E sz enc A c (l.take k)/\w.grownBy w' (Value.slice A l.length c).ownBlock):=fun a hf=>Xpe hf hx hT hZ ho hz1 hz2 hsz hp hk hL
def Xng{T E sz q c k m:Nat}{x y z:Operand}{A:Option Addr}{i j:Int}(hf:Fr a n e)(hx:ev e x=some (.slice A q c))(hy:ev e y=some (.int .i64 i))(hz:ev e z=some (.int .i64 j))(hT:SliceT P T E)(hs:SizeT P E sz)(hi:i=(k:Int))(hj:j=(m:Int))(hk:k<=m)(hm:m<=c) :
  Ev P ⟨d,.slice T x (some y) (some z) none,ty,pos,af,g⟩ a w (.slice (if c=k then A else A.map (·.add (k*sz))) (m-k) (c-k)):=fun w' _=>by
 subst hi;subst hj;simp[execOp,Instr.sliceAt,Instr.slice,Instr.sliceBounds,run_sliceBound,X13 hT,run_sizeOf' hs,hf.ev hx,hf.ev hy,hf.ev hz,hk,hm]
def Xuo{T E sz q c k m:Nat}{x y z:Operand}{A:Option Addr}{i j:Int}(hx:ev e x=some (.slice A q c))(hy:ev e y=some (.int .i64 i))(hz:ev e z=some (.int .i64 j))(hT:SliceT P T E)(hs:SizeT P E sz)(hi:i=(k:Int))(hj:j=(m:Int))(hk:k<=m)(hm:m<=c):EvW P ⟨d,.slice T x (some y) (some z) none,ty,pos,af,g⟩ n e w (.slice (if c=k then A else A.map (·.add (k*sz))) (m-k) (c-k)):=fun a hf=>Xng hf hx hy hz hT hs hi hj hk hm
def Xnh{T E sz q c k m r:Nat}{x y z u:Operand}{A:Option Addr}{i j s:Int}(hf:Fr a n e)(hx:ev e x=some (.slice A q c))(hy:ev e y=some (.int .i64 i))(hz:ev e z=some (.int .i64 j))(hu:ev e u=some (.int .i64 s))(hT:SliceT P T E)(hs:SizeT P E sz)(hi:i=(k:Int))(hj:j=(m:Int))(hr:s=(r:Int))(hk:k<=m)(hm:m<=r)(hrc:r<=c) :
  Ev P ⟨d,.slice T x (some y) (some z) (some u),ty,pos,af,g⟩ a w (.slice (if r=k then A else A.map (·.add (k*sz))) (m-k) (r-k)):=fun w' _=>by
 subst hi;subst hj;subst hr;simp[execOp,Instr.sliceAt,Instr.slice,Instr.sliceBounds,run_sliceBound,X13 hT,run_sizeOf' hs,hf.ev hx,hf.ev hy,hf.ev hz,hf.ev hu,hk,hm,hrc]
def Xup{T E sz q c k m r:Nat}{x y z u:Operand}{A:Option Addr}{i j s:Int}(hx:ev e x=some (.slice A q c))(hy:ev e y=some (.int .i64 i))(hz:ev e z=some (.int .i64 j))(hu:ev e u=some (.int .i64 s))(hT:SliceT P T E)(hs:SizeT P E sz)(hi:i=(k:Int))(hj:j=(m:Int))(hr:s=(r:Int))(hk:k<=m)(hm:m<=r)(hrc:r<=c):EvW P ⟨d,.slice T x (some y) (some z) (some u),ty,pos,af,g⟩ n e w (.slice (if r=k then A else A.map (·.add (k*sz))) (m-k) (r-k)):=fun a hf=>Xnh hf hx hy hz hu hT hs hi hj hr hk hm hrc
def Xgj{T E:TypeId}{sz B B0:Nat}{x y:Operand}{enc:α->List Value}{A A2:Option Addr}{c c2:Nat}{l l2:List α}(hf:Fr a n e)(hx:ev e x=some (.slice A l.length c))(hy:ev e y=some (.slice A2 l2.length c2))
  (hT:SliceT P T E) (hs:SizeT P E sz) (hsz:∀ x,(enc x).length=sz) (hone:∀ x,(enc x).all one=true) (ho:Own w B0 E sz enc A c l) (hr:Rd w B E enc A2 l2) (hroom:l.length+l2.length<=c) :
  Ef P ⟨d,.call ⟨.builtin .append,#[x,y],#[T,T]⟩,ty,pos,af,g⟩ a w (fun v w'=>v=.slice A (l++l2).length c/\Own w' B0 E sz enc A c (l++l2)/\w.grownBy w' (Value.slice A l.length c).ownBlock):=by
 have ⟨i,hi1,hi2⟩:=hs;rcases ho.2 with ⟨h1,h2⟩|⟨gg,cap,cur,h1,h2,h3,h4,h5,h6,h7⟩
 ·injection h1 with h1 _ h1';subst h1;subst h1';have e1:l=[]:=List.eq_nil_of_length_eq_zero h2;have e2:l2=[]:=List.eq_nil_of_length_eq_zero Z;subst e1;subst e2;have hrun:(Builtin.append_ #[T,T] ty #[.slice none 0 0,.slice A2 0 c2]).run P w=.ok (.slice none 0 0) w:=by
   cases A2<;>simp[Builtin.append_,X13 hT,sizeOf,typeInfo,hi1,Builtin.lenOf,Builtin.firstCells,loadCells,loadCellsFrom]
  refine (Ef.of_run (v:=.slice none 0 0) (w':=w) ?_).mono fun v w' ⟨e1,e2⟩=>?_
  ·simp only[List.length_nil] at hx hy;simp[execOp,resolve,invoke,builtin,hf.ev hx,hf.ev hy,hrun]
  ·subst e1;subst e2;exact ⟨O,ho,World.grownBy.refl w' _⟩
 ·injection h1 with h1 _ h1';subst h1;subst h1';by_cases hl2:l2=[]
  ·subst hl2;have hrun:(Builtin.append_ #[T,T] ty #[.slice (some ⟨gg,0,none⟩) l.length c,.slice A2 0 c2]).run P w=.ok (.slice (some ⟨gg,0,none⟩) l.length c) w:=by
    cases A2<;>simp[Builtin.append_,X13 hT,sizeOf,typeInfo,hi1,Builtin.lenOf,Builtin.firstCells,loadCells,loadCellsFrom,h4,storeCells]
   refine (Ef.of_run (v:=.slice (some ⟨gg,0,none⟩) l.length c) (w':=w) ?_).mono fun v w' ⟨e1,e2⟩=>?_
   ·simp only[List.length_nil] at hy;simp[execOp,resolve,invoke,builtin,hf.ev hx,hf.ev hy,hrun]
   ·subst e1;subst e2;exact ⟨by simp,by simpa using ho,World.grownBy.refl w' _⟩
  ·obtain ⟨b,off,cs,fz,rfl,g2,g3,g4⟩:=hr hl2;obtain ⟨w',hrun,hown,hg⟩:=run_append_fits (P:=P) (w:=w) B0 T ty E i sz hT hi1 hi2 gg l.length c (l.flatMap enc) ho ⟨b,off,none⟩ l2.length c2 (l2.flatMap enc) (Xw hsz l2)
    (fun j u hu=>by
     have:=g4 j u hu;rw[X2b];simp[World.cell?,g3,this])
    (fun u hu=>by
     have ⟨x,_,hx⟩:=List.mem_flatMap.1 hu;have:=W1.1 (hone x) u hx;cases u<;>simp_all[Value.oneCell',one]) hroom
   refine (Ef.of_run (v:=.slice (some ⟨gg,0,none⟩) (l.length+l2.length) c) (w':=w') ?_).mono fun v w1 ⟨e1,e2⟩=>?_
   ·simp[execOp,resolve,invoke,builtin,hf.ev hx,hf.ev hy,hrun]
   ·subst e1;subst e2;refine ⟨by rw[Qh],?_,hg⟩;unfold Own;rw[List.flatMap_append,Qh];exact hown
def Xn3{T E:TypeId}{sz B B0:Nat}{x y:Operand}{enc:α->List Value}{A A2:Option Addr}{c c2:Nat}{l l2:List α}(hx:ev e x=some (.slice A l.length c))(hy:ev e y=some (.slice A2 l2.length c2))(hT:SliceT P T E)(hs:SizeT P E sz)(hsz:∀ x,(enc x).length=sz)(hone:∀ x,(enc x).all one=true)(ho:Own w B0 E sz enc A c l)(hr:Rd w B E enc A2 l2)(hroom:l.length+l2.length<=c):EfW P ⟨d,.call ⟨.builtin .append,#[x,y],#[T,T]⟩,ty,pos,af,g⟩ n e w (fun v w'=>v=.slice A (l++l2).length c/\Own w' B0 E sz enc A c (l++l2)/\w.grownBy w' (Value.slice A l.length c).ownBlock):=fun a hf=>Xgj hf hx hy hT hs hsz hone ho hr hroom
def Xfi{α:Type}{l:List α}{q:α->Bool}{j:Nat}{u:α}(hu:l[j]? = some u)(h:q u=true):(l.take (j+1)).filter (fun x=>!q x)=(l.take j).filter fun x=>!q x:=by
 rw[X4p (q:=fun x=>!q x) hu,Q3 (by rw[h];decide),List.append_nil]
def Xr2{α:Type}{l:List α}{q:α->Bool}{j:Nat}{u:α}(hu:l[j]? = some u)(h:q u=false):(l.take (j+1)).filter (fun x=>!q x)=((l.take j).filter fun x=>!q x)++[u]:=by
 rw[X4p (q:=fun x=>!q x) hu,Q4 (by rw[h];rfl)]
structure Strk {α:Type} (l:List α) (q:α->Bool) (i j:Nat) (m:List α) : Prop where
 len:m.length=l.length
 ie:i=((l.take j).filter fun x=>!q x).length
 lt:i<j
 jl:j<=l.length
 tk:m.take i=(l.take j).filter fun x=>!q x
 dr:∀ t,j<=t->m[t]? = l[t]?
def Strk.at{α:Type}{l m:List α}{q:α->Bool}{i j:Nat}(h:Strk l q i j m){u:α}(hu:l[j]? = some u):m[j]? = some u:=(h.dr j (Qb _)).trans hu
def Strk.no{α:Type}{l m:List α}{q:α->Bool}{i j:Nat}(h:Strk l q i j m){u:α}(hu:l[j]? = some u)(hq:q u=true):Strk l q i (j+1) m:=
 ⟨h.len,by rw[Xfi hu hq];exact h.ie,by have:=h.lt;omega,(Qg.1 hu).1,by rw[Xfi hu hq];exact h.tk,fun t ht=>h.dr t Z⟩
def Strk.yes{α:Type}{l m:List α}{q:α->Bool}{i j:Nat}(h:Strk l q i j m){u:α}(hu:l[j]? = some u)(hq:q u=false):Strk l q (i+1) (j+1) (m.set i u):=by
 have hj:=(Qg.1 hu).1;have hl:=h.lt;have hm:=h.len;refine ⟨List.length_set.trans h.len,by rw[Xr2 hu hq,Qh,<- h.ie];rfl,by omega,hj,?_,fun t ht=>?_⟩
 ·rw[Xr2 hu hq,<- h.tk,Qt,List.getElem?_set_self Z];rw[List.take_set_of_le (Qb _)];rfl
 ·rw[List.getElem?_set_ne Z];exact h.dr t Z
def Strk.init{α:Type}{l:List α}{q:α->Bool}{k:Nat}{u:α}(ha:((l.take k).all fun x=>!q x)=true)(hu:l[k]? = some u)(hq:q u=true):Strk l q k (k+1) l:=by
 have hk:=(Qg.1 hu).1;have e:(l.take k).filter (fun x=>!q x)=l.take k:=List.filter_eq_self.2 fun x hx=>W1.1 ha x hx;exact ⟨O,by rw[Xfi hu hq,e,Qn];omega,by omega,hk,by rw[Xfi hu hq,e],fun _ _=>rfl⟩
def Strk.fin{α:Type}{l m:List α}{q:α->Bool}{i j:Nat}(h:Strk l q i j m)(hj:l.length<=j):m.take i=(l.filter fun x=>!q x)/\(l.take i).length=(l.filter fun x=>!q x).length:=by
 have e:=h.tk;have e2:=h.ie;rw[Qi hj] at e e2;have:=h.lt;have:=h.jl;exact ⟨e,by rw[<- e2,Qn];omega⟩
def Xli{α:Type}{l:List α}{q:α->Bool}(h:(idxF l q == -1)=false):∃ k u,idxF l q=(k:Nat)/\l[k]? = some u/\q u=true/\((l.take k).all fun x=>!q x)=true:=by
 unfold idxF at h ⊢;cases hf:l.findIdx? q with
 | none=>rw[hf] at h;simp at h
 | some k=>
  have ⟨h1,h2,h3⟩:=List.findIdx?_eq_some_iff_getElem.1 hf;refine ⟨k,l[k],O,Qc h1,h2,?_⟩;rw[W1];intro x hx;have ⟨t,ht⟩:=List.mem_iff_getElem?.1 hx;rw[List.getElem?_take] at ht;split at ht
  ·rename_i htk;have ⟨h5,h6⟩:=Qg.1 ht;have:=h3 t htk;rw[<- h6];simpa using this
  ·cases ht
def Xdp{α:Type}{l:List α}{q:α->Bool}(h:(idxF l q == -1)=true):(l.filter fun x=>!q x)=l:=by
 rcases X6d l q with ⟨_,h2⟩|⟨k,x,h1,_⟩
 ·exact List.filter_eq_self.2 fun x hx=>by rw[h2 x hx];rfl
 ·rw[h1] at h;simp at h
def Y8g(E:World)(A:Option Addr)(c B0:Nat)(l:List Wr)(d:Own E B0 99 3 encWr A c l)(b7:B0<=E.heap.size)(kq:FuncId)(pq:List Value)(Fq:FF kq)(q:Wr->Bool)(hq:∀ x w,E.grownBy w (Value.slice A l.length c).ownBlock->RE kq ([wrV x]++pq) w (fun v w'=>v=.bool (q x)/\Bl w w'))(aO:l.length<=1000000000):RE 186 [.slice A l.length c,.func (.func kq) #[] pq.toArray] E (fun v w=>v=.slice A (l.filter fun x=>!q x).length c/\Own w B0 99 3 encWr A c (l.filter fun x=>!q x)/\E.grownBy w (Value.slice A l.length c).ownBlock):=by
 have aE:=d.cap;refine enter func186 O 42 O O ?_;intro a e;have f:E.grownBy E (Value.slice A l.length c).ownBlock:=World.grownBy.refl _ _;refine ZS e fun aP=>Za O<|Zx aP fun a e _ aQ=>Zm O<|Zm O<|Zf (Vc (Xzt _ A c l d.rd.top kq pq Fq q (fun x w' hE'=>hq x w' (gbel f hE')) aO) Xl1) ?_;rintro _ w1 ⟨rfl,D⟩;have d:=d.bw D;have f:=gbel f D;refine Za O<|ZX aQ fun a e _ aR=>ZS e fun aS=>Zm O<|Ze (X0l O O)<|Zt aS fun a e=>Xx e O ?_ ?_<;>intro a6
 ·have p:=Xdp a6;exact ZS e fun aT=>Zm O<|Za O<|Zt aT fun a e=>Q6<|X9<|X6 e (Xq e O O)<|⟨by rw[p],by rw[p];exact d,f⟩
 have ⟨k9,u0,aU,aF,aV,aW⟩:=Xli a6;have b8:=(Qg.1 aF).1;refine Q7<|aR _ _<|Q5 fun _ aX=>ZS e fun aG=>Zm O<|Ze (Xr O O Z Z)<|Za O<|Zt aG fun a e=>Q8 ?_;rw[aU] at e;refine X04 (σ:=Nat×Nat×(List Wr)) (fun (s:Nat×Nat×(List Wr)) (a:Act) (w:World)=>match s with|(i,j,m)=>Fr a 42 [(0,.slice A l.length c),(1,.func (.func kq) #[] pq.toArray),(5,vi (i:Int)),(6,vi (j:Int))]/\(Strk l q i j m)/\Own w B0 99 3 encWr A c m/\E.grownBy w (Value.slice A l.length c).ownBlock) (fun (s:Nat×Nat×(List Wr))=>match s with|(i,j,m)=>l.length-j) (k9,(k9+1),l) ?_ ?_
 ·exact ⟨e.sb,(Strk.init aW aF aV),d,f⟩
 intro ⟨i,j,m⟩ a w2 ⟨e,hs,d,f⟩;refine Q5 fun _ aH=>ZS e fun aI=>Zm O<|Zm O<|Ze (X0w O X0a)<|Ze (X16 O O)<|Zt aI fun a e=>X0y e O (fun a7 t=>?_) (fun a7 t=>?_)
 ·have ⟨b9,b4⟩:=Xa (l:=l) (k:=j) Z;have ⟨n,a8⟩:=Xa (l:=l) (k:=j) (by have:=t;omega);have aY:=hs.at a8;have aZ:=hs.len;have b0:=hs.lt;have b1:=hs.jl;refine Q7<|aH _ _<|Q5 fun _ G=>Q8<|ZS e fun aJ=>Zm O<|Zm O<|Zj (k:=j) (u:=n) (enc:=encWr) (l:=m) tv0 O Z O X0a X14 X0d d.rd aY Z ?_;intro bC aA;refine Ze (X07 (l:=[vi n.a,vi n.b,.bool n.h]) O X23 aA O)<|Zf (X0b (zs:=[vi 0,vi 0,.bool false]) X4a O) ?_;rintro _ w3 ⟨bD,rfl,H,D,g⟩;have aB:=Q0 f.size H;have y:=d.away H;have d:=d.bw D;have f:=gbel f D;refine Zo (Vw [vi n.a,vi n.b,.bool n.h] X14 g) ?_;intro _ w4 ⟨ho,hb⟩;have d:=d.onlyA ho y;have f:=gonly f ho aB;have g:=hb;refine Zx aJ fun a e _ aK=>Zm O<|Ze (Vn X23 g)<|Zf (X6o (cs:=pq) (vs:=[.agg #[vi n.a,vi n.b,.bool n.h]]) O O Fq (hq n _ f)) ?_;rintro _ w5 ⟨rfl,D⟩;have g:=g.bw D;have d:=d.bw D;have f:=gbel f D;refine Ze (X1i O)<|Zt aK fun a e=>Xx e O ?_ ?_<;>intro B
  ·have aC:q n=false:=by have h8:=B;simpa using h8
   have aD:=hs.yes a8 aC;refine ZS e fun aL=>Zm O<|Zm O<|Ze (Vn X23 g)<|Ze (Xm (k:=i) O O X0a X14 d Z Z Z)<|Zo (X1a (enc:=encWr) (l:=m) (vs:=[vi n.a,vi n.b,.bool n.h]) (x0:=(m.getD i wZ)) (u:=n) (k:=i) (j:=0) (n1:=3) O O X14 d X0d O O O O O5 (Xg Z) O) ?_;intro _ w6 ⟨o,hg⟩;have C:=d;have f:=gtr f hg;clear C hg;clear d;have d:=o;clear o;exact Zt aL fun a e=>Zr e<|Zm O<|Ze (Xr O O Z Z)<|Za O<|Zn fun a e=>Xd<|G _ _<|Zr e<|Zm O<|Ze (Xr O O Z Z)<|Za O<|Zn fun a e=>Xh<|⟨(i+1,j+1,(m.set i n)),⟨e.sb,aD,d,f⟩,O1⟩
  have aC:q n=true:=by have h8:=B;simpa using h8
  have aD:=hs.no a8 aC;exact Q7<|Xd<|G _ _<|Zr e<|Zm O<|Ze (Xr O O Z Z)<|Za O<|Zn fun a e=>Xh<|⟨(i,j+1,m),⟨e.sb,aD,d,f⟩,O1⟩
 have ⟨b2,b3⟩:=hs.fin (by have:=t;omega);have aZ:=hs.len;have b0:=hs.lt;have b1:=hs.jl;refine Q9<|Xk<|Xk<|X06<|aX _ _<|ZS e fun aM=>Zm O<|Zm O ?_;have b5:=(d.rd.top).dropK X0d (c:=c) d.cap i;refine Ze (X6p (l:=l) (k:=i) O O X0a X14 Z Z)<|Zo (Xhx (enc:=encWr) (l:=m) (k:=i) (L:=(l.drop i).length) O X0a X4a d O O X0d O5 Z (by rw[List.length_drop];omega)) ?_;intro _ w7 ⟨o,hg⟩;have C:=d;have f:=gtr f hg;clear C hg;clear d;have d:=o;clear o;refine Zx aM fun a e _ aN=>Zm O<|Zm O ?_;have b6:=(d.rd.top).takeK X0d i;refine Ze (X3p (l:=l) (k:=i) O O X0a X14 Z Z aE)<|Za O<|Zt aN fun a e=>Q6 (X6 e (Xq e O O) ?_);exact ⟨by rw[b3],b2▸d,f⟩
def Y72(f:World)(Al:Option Addr)(cl:Nat)(l:List Int)(aA:Rw f 3 encI Al l)(kq:FuncId)(pq:List Value)(Fq:FF kq)(q:Int->Bool)(hq:∀ x w,Bl f w->RE kq ([vi x]++pq) w (fun v w'=>v=.bool (q x)/\Bl w w'))(aN:l.length<=1000000000):RE 218 [.slice Al l.length cl,.func (.func kq) #[] pq.toArray] f (fun v w=>v=vi (idxF l q)/\Bl f w):=by
 refine enter func218 O 19 O O ?_;intro a b;have g:=bz f;refine ZS b fun aG=>Za O<|ZX aG fun a b _ aH=>ZS b fun aI=>Zm O<|Ze (X0w O Xp)<|Zm O<|Zt aI fun a b=>Q8<|X04 (σ:=Nat) (fun (k:Nat) (a:Act) (w:World)=>Fr a 19 [(0,.slice Al l.length cl),(1,.func (.func kq) #[] pq.toArray),(7,vi (l.length:Int)),(8,vi (k:Int))]/\(k<=l.length)/\(((l.take k).all fun x=>!q x)=true)/\Bl f w) (fun (k:Nat)=>l.length-k) 0 ?_ ?_
 ·exact ⟨b.sb,(Qf _),O,g⟩
 intro k a w1 ⟨b,hk,c,g⟩;refine ZS b fun aJ=>Ze (X16 O O)<|ZX aJ fun a b _ aK=>X0y b O (fun aB a6=>?_) (fun aB a6=>?_)
 ·have ⟨u8,aO⟩:=Xa (l:=l) (k:=k) Z;have ⟨u9,a7⟩:=Xa (l:=l) (k:=k) (by have:=a6;omega);refine Q7<|aK _ _<|Q5 fun _ aL=>Q8<|ZS b fun aC=>Zm O<|Za O<|Zx aC fun a b _ aD=>Zm O<|Zm O<|Zm O<|Zi (k:=k) (u:=u9) (enc:=encI) (l:=l) tv0 O O Xp X0p Xj (aA.bx g) a7 O ?_;intro aP a8;refine Ze (X0 O X8 a8)<|Zf (X6o (cs:=pq) (vs:=[vi u9]) O O Fq (hq u9 _ g)) ?_;rintro _ w2 ⟨rfl,hE⟩;have g:=btr g hE;refine Zt aD fun a b=>Xx b O ?_ ?_<;>intro d
  ·have e:idxF l q=(k:Int):=Xc9 c a7 d;exact ZS b fun aE=>Zm O<|Za O<|Zt aE fun a b=>Q6<|Xu<|X9<|X9<|Xu<|X9<|X6 b (Xq b O O)<|⟨by rw[e],g⟩
  have aM:=X91 c a7 d;exact Q7<|Xd<|aL _ _<|Zr b<|Ze (Xr O O Z Z)<|Zm O<|Zn fun a b=>Xh<|⟨k+1,⟨b.sb,Z,aM,g⟩,Z⟩
 have e:idxF l q = -1:=Xca c (by have:=a6;omega);refine Q9<|Xk<|Xk<|X06<|aH _ _<|ZS b fun aF=>Za O<|Zt aF fun a b=>Q6 (X6 b (Xq b O O) ?_);exact ⟨by rw[e],g⟩
def Y8k(t:World)(A:Option Addr)(c B0:Nat)(l:List Int)(b:Own t B0 3 1 encI A c l)(b6:B0<=t.heap.size)(kq:FuncId)(pq:List Value)(Fq:FF kq)(q:Int->Bool)(hq:∀ x w,t.grownBy w (Value.slice A l.length c).ownBlock->RE kq ([vi x]++pq) w (fun v w'=>v=.bool (q x)/\Bl w w'))(aN:l.length<=1000000000):RE 202 [.slice A l.length c,.func (.func kq) #[] pq.toArray] t (fun v w=>v=.slice A (l.filter fun x=>!q x).length c/\Own w B0 3 1 encI A c (l.filter fun x=>!q x)/\t.grownBy w (Value.slice A l.length c).ownBlock):=by
 have aD:=b.cap;refine enter func202 O 42 O O ?_;intro a d;have f:t.grownBy t (Value.slice A l.length c).ownBlock:=World.grownBy.refl _ _;refine ZS d fun aO=>Za O<|Zx aO fun a d _ aP=>Zm O<|Zm O<|Zf (Vc (Y72 _ A c l b.rd.top kq pq Fq q (fun x w' hE'=>hq x w' (gbel f hE')) aN) Xq1) ?_;rintro _ w1 ⟨rfl,hE⟩;have b:=b.bw hE;have f:=gbel f hE;refine Za O<|ZX aP fun a d _ aQ=>ZS d fun aR=>Zm O<|Ze (X0l O O)<|Zt aR fun a d=>Xx d O ?_ ?_<;>intro a6
 ·have g:=Xdp a6;exact ZS d fun aS=>Zm O<|Za O<|Zt aS fun a d=>Q6<|X9<|X6 d (Xq d O O)<|⟨by rw[g],by rw[g];exact b,f⟩
 have ⟨k9,u0,aT,aE,aU,aV⟩:=Xli a6;have b7:=(Qg.1 aE).1;refine Q7<|aQ _ _<|Q5 fun _ aW=>ZS d fun aF=>Zm O<|Ze (Xr O O Z Z)<|Za O<|Zt aF fun a d=>Q8 ?_;rw[aT] at d;refine X04 (σ:=Nat×Nat×(List Int)) (fun (s:Nat×Nat×(List Int)) (a:Act) (w:World)=>match s with|(i,j,m)=>Fr a 42 [(0,.slice A l.length c),(1,.func (.func kq) #[] pq.toArray),(5,vi (i:Int)),(6,vi (j:Int))]/\(Strk l q i j m)/\Own w B0 3 1 encI A c m/\t.grownBy w (Value.slice A l.length c).ownBlock) (fun (s:Nat×Nat×(List Int))=>match s with|(i,j,m)=>l.length-j) (k9,(k9+1),l) ?_ ?_
 ·exact ⟨d.sb,(Strk.init aV aE aU),b,f⟩
 intro ⟨i,j,m⟩ a w2 ⟨d,hs,b,f⟩;refine Q5 fun _ aG=>ZS d fun aH=>Zm O<|Zm O<|Ze (X0w O Xp)<|Ze (X16 O O)<|Zt aH fun a d=>X0y d O (fun a7 n=>?_) (fun a7 n=>?_)
 ·have ⟨b8,b3⟩:=Xa (l:=l) (k:=j) Z;have ⟨y,a8⟩:=Xa (l:=l) (k:=j) (by have:=n;omega);have aX:=hs.at a8;have aY:=hs.len;have aZ:=hs.lt;have b0:=hs.jl;refine Q7<|aG _ _<|Q5 fun _ h=>Q8<|ZS d fun aI=>Zm O<|Zm O<|Zj (k:=j) (u:=y) (enc:=encI) (l:=m) tv0 O Z O Xp X0p Xj b.rd aX Z ?_;intro b9 aA;refine Ze (X0 O X8 aA)<|Za O<|Zx aI fun a d _ aJ=>Zm O<|Zm O<|Zf (X6o (cs:=pq) (vs:=[vi y]) O O Fq (hq y _ f)) ?_;rintro _ w3 ⟨rfl,hE⟩;have b:=b.bw hE;have f:=gbel f hE;refine Ze (X1i O)<|Zt aJ fun a d=>Xx d O ?_ ?_<;>intro o
  ·have aB:q y=false:=by have h8:=o;simpa using h8
   have aC:=hs.yes a8 aB;refine ZS d fun aK=>Zm O<|Zm O<|Zm O<|Ze (Xm (k:=i) O O Xp X0p b Z Z Z)<|Zo (X1a (enc:=encI) (l:=m) (vs:=[vi y]) (x0:=(m.getD i 0)) (u:=y) (k:=i) (j:=0) (n1:=1) O O X0p b Xj O O O O O5 (Xg Z) O) ?_;intro _ w4 ⟨e,hg⟩;have p:=b;have f:=gtr f hg;clear p hg;clear b;have b:=e;clear e;exact Zt aK fun a d=>Zr d<|Zm O<|Ze (Xr O O Z Z)<|Za O<|Zn fun a d=>Xd<|h _ _<|Zr d<|Zm O<|Ze (Xr O O Z Z)<|Za O<|Zn fun a d=>Xh<|⟨(i+1,j+1,(m.set i y)),⟨d.sb,aC,b,f⟩,O1⟩
  have aB:q y=true:=by have h8:=o;simpa using h8
  have aC:=hs.no a8 aB;exact Q7<|Xd<|h _ _<|Zr d<|Zm O<|Ze (Xr O O Z Z)<|Za O<|Zn fun a d=>Xh<|⟨(i,j+1,m),⟨d.sb,aC,b,f⟩,O1⟩
 have ⟨b1,b2⟩:=hs.fin (by have:=n;omega);have aY:=hs.len;have aZ:=hs.lt;have b0:=hs.jl;refine Q9<|Xk<|Xk<|X06<|aW _ _<|ZS d fun aL=>Zm O<|Zm O ?_;have b4:=(b.rd.top).dropK Xj (c:=c) b.cap i;refine Ze (X6p (l:=l) (k:=i) O O Xp X0p Z Z)<|Zo (Xhx (enc:=encI) (l:=m) (k:=i) (L:=(l.drop i).length) O Xp z_3 b O O Xj O5 Z (by rw[List.length_drop];omega)) ?_;intro _ w5 ⟨e,hg⟩;have p:=b;have f:=gtr f hg;clear p hg;clear b;have b:=e;clear e;refine Zx aL fun a d _ aM=>Zm O<|Zm O ?_;have b5:=(b.rd.top).takeK Xj i;refine Ze (X3p (l:=l) (k:=i) O O Xp X0p Z Z aD)<|Za O<|Zt aM fun a d=>Q6 (X6 d (Xq d O O) ?_);exact ⟨by rw[b2],b1▸b,f⟩
def Xzv(w0:World)(A:Option Addr)(c B0:Nat)(l:List Wr)(d:Own w0 B0 99 3 encWr A c l)(aJ:B0<=w0.heap.size)(p:Int)(hp:0<=p/\p<(l.length:Int))(aK:l.length<=1000000000):RE 131 [.slice A l.length c,vi p,vi (p+1)] w0 (fun v w=>v=.slice A (ctW l p.toNat).length c/\Own w B0 99 3 encWr A c (ctW l p.toNat)/\w0.grownBy w (Value.slice A l.length c).ownBlock):=by
 have g:=d.cap;have a6:=Y2n (l:=l) (i:=p.toNat) Z;have aC:l.take p.toNat++l.drop (p.toNat+1)=ctW l p.toNat:=rfl;have aL:(l.take p.toNat++l.drop (p.toNat+1)).length+1=l.length:=a6;have aM:=Qn (i:=p.toNat) (l:=l);have aN:=List.length_drop (i:=p.toNat+1) (l:=l);refine enter func131 O 33 O O ?_;intro a e;have hW:w0.grownBy w0 (Value.slice A l.length c).ownBlock:=World.grownBy.refl _ _;refine ZS e fun aD=>Za O<|Zx aD fun a e _ aE=>Zm O<|Zm O<|Zm O<|Zm O<|Ze (X0w O X0a)<|Ze (Xup (k:=p.toNat) (m:=(p.toNat+1)) (r:=l.length) O O O O X0a X14 Z Z O Z Z g)<|ZX aE fun a e _ aF=>ZS e fun aG=>Zm O<|Zm O<|Ze (X0l O O)<|Zt aG fun a e=>Xx e O ?_ ?_<;>intro a7
 ·exact absurd (beq_iff_eq.1 a7) Z
 refine Q7<|aF _ _<|ZS e fun aH=>Zm O<|Ze (X0w O X0a)<|Za O<|ZX aH fun a e _ aI=>Xy none (fun j=>[6,6].contains j) mixed ?_;intro w1 hE;have d:=d.bw hE;have hW:=gbel hW hE;refine Yb e<|YA 0 O O<|YA 1 O O ?_;have n:=d.takeK X0d (k:=p.toNat) Z;refine Yo 2 O (fun _=>X3p (l:=l) (k:=p.toNat) O O X0a X14 Z Z d.cap)<|YA 3 O O<|YA 4 O O ?_;have a8:=(d.rd.top).dropK X0d (c:=c) d.cap (p.toNat+1);refine Yo 5 O (fun _=>X6p (l:=l) (k:=(p.toNat+1)) O O X0a X14 Z Z)<|Y1 6<|Yt O tv0 O (Xn3 (enc:=encWr) (l:=((l.take p.toNat))) (l2:=((l.drop (p.toNat+1)))) O O X0a X14 X0d X2l n a8 Z) ?_;rintro _ w2 ⟨rfl,b,hg⟩;have f:=n;have hW:=gtr hW hg;clear f hg;refine YD 7 O O<|Yd fun a e=>aI _ _<|ZS e fun aA=>Zm O<|Zm O<|Ze (X0w O X0a)<|Zm O<|Ze (Xuo (k:=(l.take p.toNat++l.drop (p.toNat+1)).length) (m:=l.length) O O O X0a X14 O O Z g)<|Zo (Xhx (enc:=encWr) (l:=((l.take p.toNat)++(l.drop (p.toNat+1)))) (k:=(l.take p.toNat++l.drop (p.toNat+1)).length) (L:=(l.length-(l.take p.toNat++l.drop (p.toNat+1)).length)) O X0a X4a b O O X0d O5 (Qb _) Z) ?_;intro _ w3 ⟨o,hg⟩;have f:=b;have hW:=gtr hW hg;clear f hg;clear b;have b:=o;clear o;refine Zx aA fun a e _ aB=>Zm O<|Za O<|Zt aB fun a e=>Q6 (X6 e (Xq e O O) ?_);exact ⟨O,by rw[<- aC];exact (List.take_length (l:=l.take p.toNat++l.drop (p.toNat+1)))▸b,hW⟩
end Go.Proofs.YthbobfjhofgfdaaGreat
namespace Go.Proofs.YthbobfjhofgfdaaGreat
open Go.RowKit Go.Sort Go.Shelf Go.Lib Go.Proofs.Tryz
def sortWr_ren:Go.Shelf.Ren:=⟨fun|6=>109|15=>133|14=>132|28=>175|29=>176|20=>167|21=>168|22=>169|23=>170|24=>171|25=>172|26=>173|27=>174|46=>193|47=>194|48=>195|49=>196|50=>197|57=>208|n=>n,fun|22=>52|24=>99|25=>144|3=>3|39=>107|0=>0|53=>193|55=>35|4=>4|46=>187|45=>186|50=>70|5=>5|9=>9|66=>203|70=>207|76=>214|77=>215|n=>n,fun|n=>n⟩
def Xt8:SlLaysF0.n6 prog sortWr_ren:={
 mixed:=by kernel_rfl
 f6:=⟨Tryz.f109.name,by decide,func109.trans (congrArg some O3)⟩
 f14:=⟨Tryz.f132.name,by decide,func132.trans (congrArg some O3)⟩
 f15:=func133.trans (congrArg some O3)
 f20:=⟨Tryz.f167.name,by decide,func167.trans (congrArg some O3)⟩
 f21:=⟨Tryz.f168.name,by decide,func168.trans (congrArg some O3)⟩
 f22:=⟨Tryz.f169.name,by decide,func169.trans (congrArg some O3)⟩
 f23:=⟨Tryz.f170.name,by decide,func170.trans (congrArg some O3)⟩
 f24:=⟨Tryz.f171.name,by decide,func171.trans (congrArg some O3)⟩
 f25:=⟨Tryz.f172.name,by decide,func172.trans (congrArg some O3)⟩
 f26:=⟨Tryz.f173.name,by decide,func173.trans (congrArg some O3)⟩
 f27:=⟨Tryz.f174.name,by decide,func174.trans (congrArg some O3)⟩
 f28:=func175.trans (congrArg some O3)
 f29:=func176.trans (congrArg some O3)
 f46:=⟨Tryz.f193.name,by decide,func193.trans (congrArg some O3)⟩
 f47:=func194.trans (congrArg some O3)
 f48:=func195.trans (congrArg some O3)
 f49:=⟨Tryz.f196.name,by decide,func196.trans (congrArg some O3)⟩
 f50:=⟨Tryz.f197.name,by decide,func197.trans (congrArg some O3)⟩
 f57:=⟨Tryz.f208.name,by decide,func208.trans (congrArg some O3)⟩
 t0:=underlying0
 a0:=isAgg0
 z0:=sizeOf0
 v0:=zeroValue0
 t3:=underlying3
 a3:=isAgg3
 z3:=sizeOf3
 v3:=zeroValue3
 t4:=underlying4
 a4:=isAgg4
 z4:=sizeOf4
 v4:=zeroValue4
 t5:=underlying5
 a5:=isAgg5
 z5:=sizeOf5
 v5:=zeroValue5
 t9:=underlying9
 a9:=isAgg9
 z9:=sizeOf9
 v9:=zeroValue9
 t22:=underlying52
 a22:=isAgg52
 z22:=sizeOf52
 v22:=zeroValue52
 t25:=underlying144
 a25:=isAgg144
 z25:=sizeOf144
 v25:=zeroValue144
 t39:=underlying107
 a39:=isAgg107
 z39:=sizeOf107
 v39:=zeroValue107
 t45:=underlying186
 a45:=isAgg186
 z45:=sizeOf186
 v45:=zeroValue186
 t46:=underlying187
 a46:=isAgg187
 z46:=sizeOf187
 v46:=zeroValue187
 t50:=underlying70
 a50:=isAgg70
 z50:=sizeOf70
 v50:=zeroValue70
 t53:=underlying193
 a53:=isAgg193
 z53:=sizeOf193
 v53:=zeroValue193
 t55:=underlying35
 a55:=isAgg35
 z55:=sizeOf35
 v55:=zeroValue35
 t66:=underlying203
 a66:=isAgg203
 z66:=sizeOf203
 v66:=zeroValue203
 t70:=underlying207
 a70:=isAgg207
 z70:=sizeOf207
 v70:=zeroValue207
 t76:=underlying214
 a76:=isAgg214
 z76:=sizeOf214
 v76:=zeroValue214
 t77:=underlying215
 a77:=isAgg215
 z77:=sizeOf215
 v77:=zeroValue215 }
section
variable {P : Program} {a : Act} {w : World} {n : Nat} {e : Env} {ty : TypeId} {pos : String} {af : Array Edge} {g : Option (Nat × Bool)} {d : Option Tmp}
theorem Xvb{T:TypeId}{x:Operand}{v:Value}{zs:List Value}(hf:Fr a n e)(hx:ev e x=some v)(hzs:v.cells.toList=zs):Ef P ⟨d,.box T x,ty,pos,af,g⟩ a w (fun v w'=>∃ b,v=.pointer (some ⟨b,0,none⟩)/\w.heap.size<=b/\Bl w w'/\Blk w' b T zs/\w'.drawn=w.drawn):=by
 subst hzs;have h:(execOp a.eval ⟨d,.box T x,ty,pos,af,g⟩).run P w=.ok (.value (.pointer (some ⟨w.heap.size,0,none⟩))) (w.alloc (.cells v.cells T)):=by
  simp[execOp,Instr.box,X8w,hf.ev hx]
 refine (Ef.of_run h).mono fun v' w' ⟨e1,e2⟩=>?_;subst e1;subst e2;have h9:=X5s w T v.cells.toList;exact ⟨_,O,Qb _,(Below.refl _ _).alloc (Qb _) _,by simpa using h9,rfl⟩
theorem Y04{T:TypeId}{x:Operand}{v:Value}{zs:List Value}(hx:ev e x=some v)(hzs:v.cells.toList=zs):EfW P ⟨d,.box T x,ty,pos,af,g⟩ n e w (fun v w'=>∃ b,v=.pointer (some ⟨b,0,none⟩)/\w.heap.size<=b/\Bl w w'/\Blk w' b T zs/\w'.drawn=w.drawn):=fun a hf=>Xvb hf hx hzs
theorem Xbw{T E sz bytes:Nat}{k:Nat}{parts:List (Nat×Operand)}{vs zs:List Value}(hf:Fr a n e)(hp:evp e parts=some (numb 0 vs))(hT:SliceT P T E)(hi:InfoT P E sz bytes)(hv:(vs.all (fun v=>Nat.beq v.cells.size sz)&&Nat.beq vs.length k&&Nat.ble (k*sz) 1000)=true)(hz:vs.flatMap (fun v=>v.cells.toList)=zs) :
  Ef P ⟨d,.buildSlice T k parts.toArray,ty,pos,af,g⟩ a w (fun v w'=>∃ b,v=.slice (some ⟨b,0,none⟩) k k/\w.heap.size<=b/\Bl w w'/\Blk w' b E zs/\w'.drawn=w.drawn):=by
 subst hz;have ⟨i,z,hi1,hi2,hi3,hi4,hi5,hi6⟩:=hi;simp only[Qd,W1] at hv;have ⟨⟨hv1,hv2⟩,hv3⟩:=hv;have hk:vs.length=k:=Nat.eq_of_beq_eq_true hv2;have hk3:k*sz<=1000:=Nat.le_of_ble_eq_true hv3;have h1:=hf.evp hp;have hfill:=X9v sz vs 0 ((Array.range (k*sz)).map fun j=>z.cells[j % z.cells.size]!) (fun v hv=>Nat.eq_of_beq_eq_true (hv1 v hv)) (by simp[hk]);simp only[Nat.zero_mul,List.take_zero,List.nil_append] at hfill;refine (Ef.of_run (v:=.slice (some ⟨w.heap.size,0,none⟩) k k) (w':=w.alloc (.cells (vs.flatMap fun v=>v.cells.toList).toArray E)) ?_).mono fun v w' ⟨e1,e2⟩=>?_
 ·simp only[execOp,List.map_toArray];rw[show (List.map (fun x:Nat×Operand=>match x with|(i,x)=>(i,a.eval x)) parts)=numb 0 vs from h1];have h24:¬ (16777216<k*sz):=by omega
  by_cases h0:k*sz=0
  ·have hf0:Instr.fill (fun i=>some (i*sz,sz)) #[] (numb 0 vs)=some (vs.flatMap fun v=>v.cells.toList).toArray:=by
    rw[<- hfill,h0];congr 1;simp[Array.range_zero']
   simp[Instr.buildSlice,X13 hT,sizeOf,typeInfo,hi1,hi3,h0,newRow,newObj,Sem.run,Array.range_zero',hf0]
  ·simp[Instr.buildSlice,X13 hT,sizeOf,typeInfo,hi1,hi3,h24,h0,zeroValue,hi2,newRow,newObj,Sem.run,hfill]
 ·subst e1;subst e2;exact ⟨_,O,Qb _,(Below.refl _ _).alloc (Qb _) _,X5s w E _,O⟩
theorem Xee{T E sz bytes:Nat}{k:Nat}{parts:List (Nat×Operand)}{vs zs:List Value}(hp:evp e parts=some (numb 0 vs))(hT:SliceT P T E)(hi:InfoT P E sz bytes)(hv:(vs.all (fun v=>Nat.beq v.cells.size sz)&&Nat.beq vs.length k&&Nat.ble (k*sz) 1000)=true)(hz:vs.flatMap (fun v=>v.cells.toList)=zs):EfW P ⟨d,.buildSlice T k parts.toArray,ty,pos,af,g⟩ n e w (fun v w'=>∃ b,v=.slice (some ⟨b,0,none⟩) k k/\w.heap.size<=b/\Bl w w'/\Blk w' b E zs/\w'.drawn=w.drawn):=fun a hf=>Xbw hf hp hT hi hv hz
theorem Xub(V:Option Vk)(tl:Nat->Bool){id:Nat}{l:List Oper}{Q':Exit->Act->World->Prop}(hm:P.follows .mixedOrders=true)
  (h:∀ w',Bl w w'->w.drawn<=w'.drawn->wpS P l.toArray V tl (Q' .normal) l.length (mask l.toArray []) a w') : (Code.region id l.toArray true).wp P Q' a w:=by
 refine wp_region_any hm ?_;rw[Xh4];exact X45 (fun _ _ h=>h) _ _ _ _ (by simpa using h w.drew (Below.refl _ _).drew (Nat.le_succ _))
end
def Y2o(w0:World)(x:Wr)(y:Wr):RE 102 [.agg #[vi x.a,vi x.b,.bool x.h],.agg #[vi y.a,vi y.b,.bool y.h]] w0 (fun v w=>v=vi (cmW x y)/\Bl w0 w/\w0.drawn<=w.drawn):=by
 refine enter func102 O 17 O O ?_;intro a hf;have hW:Bl w0 w0:=Below.refl _ _;have hDr:w0.drawn<=w0.drawn:=Qb _;refine ZS hf fun hK1=>Zf (Y04 (zs:=[vi x.a,vi x.b,.bool x.h]) O O) ?_;rintro _ w1 ⟨b2,rfl,hl2,hE,hB2,hd⟩;replace hDr:=Q0 hDr (Nat.le_of_eq hd.symm);clear hd;have hlo2:=Q0 hW.size hl2;replace hW:=btr hW hE;clear hE;refine Zf (Y04 (zs:=[vi y.a,vi y.b,.bool y.h]) O O) ?_;rintro _ w2 ⟨b3,rfl,hl3,hE,hB3,hd⟩;replace hDr:=Q0 hDr (Nat.le_of_eq hd.symm);clear hd;have hne2_3:b2≠b3:=by have:=hB2.lt;omega
 have hlo3:=Q0 hW.size hl3;replace hB2:=hB2.bw hE;replace hW:=btr hW hE;clear hE;refine Za O<|Zt hK1 fun a hf=>Q5 fun _ hK4=>Xub none (fun _=>false) mixed ?_;intro w3 hE hd;replace hDr:=Q0 hDr hd;clear hd;replace hB2:=hB2.bw hE;replace hB3:=hB3.bw hE;replace hW:=btr hW hE;clear hE;refine Yb hf<|Yo 0 O (fun _=>Vd O X1l 0)<|Ye 1 O (X0 O X8 (hB2.at 0))<|Yo 2 O (fun _=>Vd O X1l 0)<|Ye 3 O (X0 O X8 (hB3.at 0))<|Yo 5 O (fun _=>Vd O X1p 1)<|Ye 6 O (X0 O X8 (hB2.at 1))<|Yo 7 O (fun _=>Vd O X1p 1)<|Ye 8 O (X0 O X8 (hB3.at 1))<|Y1 4<|Yz O trivial (Vc (Xjn _ x.a y.a) Xau)<|Y1 9 ?_;refine Yz O trivial (Vc (Xjn _ x.b y.b) Xau)<|Y1 10<|Yk O trivial (Xee (k:=2) (vs:=[vi (cmI x.a y.a),vi (cmI x.b y.b)]) (zs:=[vi (cmI x.a y.a),vi (cmI x.b y.b)]) O Xp X21 O O) (fun _ _ ⟨_,_,_,h,_⟩=>h) ?_;rintro _ w4 ⟨b5,rfl,hl5,hE,hB5,hd⟩;replace hDr:=Q0 hDr (Nat.le_of_eq hd.symm);clear hd;have hlo5:=Q0 hW.size hl5;replace hB2:=hB2.bw hE;replace hB3:=hB3.bw hE;replace hW:=btr hW hE;clear hE;refine Y1 11<|Yz O trivial (Vc (Xzs _ (some ⟨b5,0,none⟩) 2 ([cmI x.a y.a,cmI x.b y.b]) (Rd.of_blk hB5 O _ hB5.lt) O4) Xl0)<|YD 12 O O<|Yd fun a hf=>hK4 _ _<|Q6<|X6 hf (Xq hf O O) ?_;exact ⟨by rw[Y0g],hW,hDr⟩
def Xi4{w w':World}(h:Bl w w')(hd:w.drawn<=w'.drawn):∃ q os',w'=grow (w.drewN q) os':=by
 refine ⟨w'.drawn-w.drawn,(w'.heap.extract w.heap.size w'.heap.size),?_⟩;have h1:w.heap++w'.heap.extract w.heap.size w'.heap.size=w'.heap:=by
  apply Array.ext_getElem?;intro k;rw[Array.getElem?_append];split
  ·rename_i hk;exact (h.block k hk).symm
  ·rename_i hk;rw[Array.getElem?_extract];have:=h.size;by_cases h9:k<w'.heap.size
   ·rw[Q4 Z];congr 1;omega
   ·rw[Q3 Z,We Z]
 cases w' with
 | mk hp tp dr os out=>
  unfold grow World.drewN;have e1:=h.os;have e2:=h.tape;have e3:=h.output;dsimp only at e1 e2 e3 h1 hd ⊢;rw[h1,e1,e2,e3];congr 1;omega
def Y2j(x y:Wr)(W:World):Calls prog 102 #[.agg #[.int .i64 x.a,.int .i64 x.b,.bool x.h],.agg #[.int .i64 y.a,.int .i64 y.b,.bool y.h]] W fun e w'=>e=.returned (.int .i64 (cmW x y))/\∃ q os',w'=grow (W.drewN q) os':=
 Calls.mono (Y2o W x y) fun e w ⟨v,h1,h2,h3,h4⟩=>⟨by rw[h1,h2],Xi4 h3 h4⟩
instance:Inhabited Wr:=⟨wZ⟩
def Xp2(x y:Wr):decide (cmW x y<0)=wlt x y:=by
 unfold cmW cmI wlt;apply Bool.eq_iff_iff.2;simp only[Qr,Bool.or_eq_true,Qd,beq_iff_eq];by_cases h1:x.a<y.a
 ·simp[h1]
 by_cases h2:y.a<x.a
 ·have:¬ x.a=y.a:=by omega
  simp[h1,h2,this]
 have h3:x.a=y.a:=by omega
 by_cases h4:x.b<y.b
 ·simp[h3,h4]
 by_cases h5:y.b<x.b
 ·simp[h3,h4,h5]
 ·simp[h3,h4,h5]
def ltW(x y:Wr):ltOf cmW x y=wlt x y:=by
 unfold ltOf;exact Xp2 x y
def Yed:SWO (ltOf cmW) where
 irrefl x:=by rw[ltW,X5p];omega
 trans x y z h1 h2:=by rw[ltW] at *;exact Xjl h1 h2
 ntrans x y z h1 h2:=by rw[ltW,X5p] at *;omega
def Xp1(blk off size:Nat)(w:World):CmpLays prog 102 #[] encWr 3 cmW blk off size w:=fun _ _ _ _ x y=>Y2j x y _
def Xzu(w0:World)(B0:Nat)(A:Option Addr)(c:Nat)(l:List Wr)(ho:Own w0 B0 99 3 encWr A c l)(hl:l.length<=100000000) :
  RE 109 [.slice A l.length c,.func (.func 102) #[] #[]] w0 (fun v w=>v=.tuple #[]/\(∃ l',l'.Perm l/\(l'.Pairwise fun x y=>wlt y x=false)/\Own w B0 99 3 encWr A c l')/\w0.grownBy w (Value.slice A l.length c).ownBlock):=by
 by_cases h0:l=[]
 ·subst h0;refine Calls.mono (AnyF.slices_SortFunc_none Xt8 A c _ w0) fun e w ⟨e1,e2⟩=>⟨_,e1,?_⟩;subst e2;exact ⟨O,⟨[],List.Perm.refl _,List.Pairwise.nil,ho⟩,World.grownBy.refl w _⟩
 ·rcases ho.2 with ⟨h1,h2⟩|⟨g,cap,cur,h1,h2,h3,h4,h5,h6,h7⟩
  ·exact absurd (List.eq_nil_of_length_eq_zero h2) h0
  ·injection h1 with h1 _ h1'';subst h1;subst h1'';have hfl:(flatK encWr 3 l.toArray).toList=l.flatMap encWr:=Xc2 X0d l;have hfs:(flatK encWr 3 l.toArray).size=l.length*3:=by simp
   have hH:HoldsK encWr 3 w0 g 0 l.toArray:=Y4y h3 (by rw[hfs,hfl];exact h7);have eg:Enters prog 102:=enters_of func102 O3 O;have hcon:=AnyQ.slices_SortFunc Xt8 3 isAgg99 sizeOf99 encWr X0d (fun x v hv=>by simp[encWr] at hv;rcases hv with rfl|rfl|rfl<;>rfl) cmW Yed _ #[] g 0 c l.toArray w0 eg (Xp1 _ _ _ _) hH (Qp.1 h3).1 O6;have hcon2:Calls prog 109 #[.slice (some ⟨g,0,none⟩) l.length c,.func (.func 102) #[] #[]] w0 fun e w'=>e=.returned (.tuple #[])/\∃ d' n os,PermIn 0 l.toArray.size l.toArray d'/\SortedIn (ltOf cmW) 0 l.toArray.size d'/\w'=sortWorldK encWr 3 w0 g 0 n d' os:=by
    have e:l.toArray.size=l.length:=by simp
    rw[e] at hcon ⊢;exact hcon
   refine Calls.mono hcon2 fun e w ⟨e1,d',n,os,hp,hs,e2⟩=>⟨_,e1,O,?_⟩;subst e2;have hd:d'.size=l.length:=by rw[hp.1];simp
   have hpl:d'.toList.Perm l:=by
    have:=hp.2.2;rw[<- hp.1] at this;simpa[Qi (show l.length<=d'.size by omega)] using this
   have hfs2:(flatK encWr 3 d').size=l.length*3:=by simp[hd]
   have hfl2:(flatK encWr 3 d').toList=d'.toList.flatMap encWr:=by
    have:=Xc2 X0d d'.toList;rw[Array.toArray_toList] at this;exact this
   have hcur:(flatK encWr 3 d').size<=cur.size:=by
    have:=congrArg List.length h7;rw[Qn,Xw X0d] at this;rw[hfs2];have h8:cur.toList.length=cur.size:=Array.length_toList;omega
   have hlen:d'.toList.length=l.length:=by simp[hd]
   refine ⟨⟨d'.toList,hpl,?_,⟨Xw X0d _,.inr ⟨g,c,_,by rw[hlen],h2,Xnt _ h3,by rw[hlen];omega,h5,by simp[putCells,h6],?_⟩⟩⟩,?_⟩
   ·rw[W0];intro i j hi hj hij;have hi':i<d'.size:=by simpa using hi
    have hj':j<d'.size:=by simpa using hj
    have h9:=hs i j (Qf _) hij (by rw[<- hp.1];exact hj');rw[ltW] at h9;rw[getElem!_pos d' i hi',getElem!_pos d' j hj'] at h9;exact h9
   ·have:=Xo2 cur (flatK encWr 3 d') hcur;rw[hfs2,hfl2] at this;rw[hlen];exact this
   ·exact Xj4 _
end Go.Proofs.YthbobfjhofgfdaaGreat
namespace Go.Proofs.YthbobfjhofgfdaaGreat
open Go.RowKit Go.Proofs.Tryz
def X80:∀ (l:List Wr) (x:Wr),(insW l x).Perm (x::l)
 | [],x=>List.Perm.refl _
 | y::l,x=>by
  unfold insW;split
  ·exact ((X80 l x).cons y).trans (List.Perm.swap x y l)
  ·exact List.Perm.refl _
def Xg3{l:List Wr}(h:WSd l){x y:Wr}(hx:x ∈ l)(hy:y ∈ l)(h1:wlt x y=false)(h2:wlt y x=false):x=y:=by
 obtain ⟨i,hi,rfl⟩:=List.mem_iff_getElem.1 hx;obtain ⟨j,hj,rfl⟩:=List.mem_iff_getElem.1 hy;have hp:=W0.1 h;rcases Nat.lt_trichotomy i j with h9|h9|h9
 ·rw[hp i j hi hj h9] at h1;cases h1
 ·subst h9;rfl
 ·rw[hp j i hj hi h9] at h2;cases h2
def Xhm{ws l:List Wr}{x:Wr}(hp:l.Perm (ws++[x]))(hs:l.Pairwise fun x y=>wlt y x=false)(hw:WSd ws)(ha:∀ y ∈ ws,¬ (y.a=x.a/\y.b=x.b)):l=insW ws x:=by
 have hi:=Xip hw ha;have hpp:l.Perm (insW ws x):=(hp.trans (List.perm_append_singleton x ws)).trans (X80 ws x).symm;refine List.Perm.eq_of_pairwise (le:=fun x y=>wlt y x=false) (fun a b h1 h2 h3 h4=>?_) hs (hi.imp fun {a b} h=>?_) hpp
 ·exact Xg3 hi (hpp.mem_iff.1 h1) h2 h4 h3
 ·rw[X5p];rw[X6j] at h;omega
def Xpv{ws:List Wr}{p q:Int}(h:fdW ws p q<0){x:Bool}:∀ y ∈ ws,¬ (y.a=(⟨min p q,max p q,x⟩ : Wr).a/\y.b=(⟨min p q,max p q,x⟩ : Wr).b):=fun y hy h9=>by
 have h1:=Xpw h y hy;have h2:isW p q y=true:=X2t.2 h9;rw[h2] at h1;cases h1
def Dgm(w:World)(b B0:Nat)(A0:Option Addr)(c0:Nat)(A1:Option Addr)(c1 m:Nat)(d:Dg) : Prop:=
 Blk w b 54 [.int .i64 d.n,.slice A0 m c0,.slice A1 d.ws.length c1,.int .i64 d.t,.int .i64 d.r]/\Own w B0 85 2 encNd A0 c0 d.ns/\Own w B0 99 3 encWr A1 c1 d.ws/\m=d.ns.length
def ctO(ws:List Wr)(p q:Int) : List Wr:=if 0<=fdW ws p q then ctW ws (fdW ws p q).toNat else ws
def Y9q(l:List Wr)(k:Int):(l.filter fun x=>!(x.a==k||x.b==k))=dpW l k:=by grind [dpW]
def Xbs{ws:List Wr}{p q:Int}(h:0<=fdW ws p q):ctO ws p q=ctW ws (fdW ws p q).toNat:=Q4 h
def Xp3{ws:List Wr}{p q:Int}(h:¬ 0<=fdW ws p q):ctO ws p q=ws:=Q3 h
def Xyy{ws:List Wr}{p q:Int}(h:tyW ws p q=0):fdW ws p q<0:=by grind [fdW,tyW]
def Xo4{ws:List Wr}{p q:Int}(h:tyW ws p q≠0):0<=fdW ws p q:=by grind [fdW,tyW]
def tgI(d:Dg)(p q:Int) : Dg:=if tyW d.ws p q=1 then d else tgD d p q
def Ybz{d:Dg}{p q:Int}(h:tyW d.ws p q=0):tgI d p q = { d with ws:=jnW d.ws p q true,r:=wr (d.r+1) }:=by
 unfold tgI;rw[Q3 Z];exact Yc2 (by have:=Xyy h;omega)
def Yc0{d:Dg}{p q:Int}(h:tyW d.ws p q=1):tgI d p q=d:=Q4 h
def Yc1{d:Dg}{p q:Int}(h0:tyW d.ws p q≠0)(h1:tyW d.ws p q≠1):tgI d p q = { d with ws:=ctO d.ws p q,r:=wr (d.r-1) }:=by
 unfold tgI;rw[Q3 h1,Yc3 (Xo4 h0),Xbs (Xo4 h0)]
def Xjg{ws:List Wr}{p q:Int}(h:0<=fdW ws p q):tyW ws p q=if (ws.getD (fdW ws p q).toNat wZ).h=true then 2 else 1:=by
 unfold tyW;rw[Q3 Z]
def Y2l{ws:List Wr}(hw:WSd ws){p q:Int}:fdW (ctO ws p q) p q<0:=by
 by_cases h:0<=fdW ws p q
 ·have ⟨w,h1,h2,_⟩:=X5x h;rw[Xbs h,Xka hw h1 h2];omega
 ·rw[Xp3 h];omega
def Y2m{ws:List Wr}(hw:WSd ws)(p q:Int):WSd (ctO ws p q):=by
 unfold ctO;split
 ·exact Xgg hw _
 ·exact hw
def Xv7(ws:List Wr)(p q:Int):(ctO ws p q).length<=ws.length:=by
 unfold ctO;split
 ·exact (X4o _ _).length_le
 ·exact Qb _
def Yae{d:Dg}{p q:Int}{x:Bool}(h:tyW d.ws p q=0):lkD d p q x = { d with ws:=jnW d.ws p q x }:=Yai (Xyy h)
def Yaf{d:Dg}{p q:Int}{x:Bool}(h:(tyW d.ws p q==1&&!x)=true):lkD d p q x=d:=by grind [lkD,tyW]
def Yag{d:Dg}{p q:Int}{x:Bool}(h:(tyW d.ws p q==2&&x)=true):lkD d p q x = { d with ws:=ctO d.ws p q,r:=wr (d.r-2) }:=by
 rw[Qd,beq_iff_eq] at h;have h0:=Xo4 (ws:=d.ws) (p:=p) (q:=q) Z;have h2:=Xjg h0;cases hh:(d.ws.getD (fdW d.ws p q).toNat wZ).h with
 | false=>rw[hh] at h2;simp at h2;omega
 | true=>rw[Yaj Z (by rw[hh,h.2];rfl),Xbs h0]
def Yah{d:Dg}{p q:Int}{x:Bool}(h0:tyW d.ws p q≠0)(h1:(tyW d.ws p q==1&&!x)=false)(h2:(tyW d.ws p q==2&&x)=false):lkD d p q x = { d with ns:=adN d.ns (min p q) 4,ws:=jnW (ctO d.ws p q) p q false,r:=wr (d.r-1) }:=by
 have g0:=Xo4 h0;have g2:=Xjg g0;rw[Xbs g0];cases hh:(d.ws.getD (fdW d.ws p q).toNat wZ).h with
 | false=>
  rw[hh] at g2;have g3:tyW d.ws p q=1:=by simpa using g2
  have hx:x=true:=by rw[g3] at h1;simpa using h1
  subst hx;exact Y5f Z (by rw[hh];rfl) (by rw[hh];rfl)
 | true=>
  rw[hh] at g2;have g3:tyW d.ws p q=2:=by simpa using g2
  have hx:x=false:=by rw[g3] at h2;simpa using h2
  subst hx;exact Y5f Z (by rw[hh];rfl) (by rw[hh];rfl)
section
variable {α β : Type} {w w' : World} {b B0 B1 : Nat} {A A' : Option Addr} {l : List (Option Addr)} {E E' T : TypeId} {sz sz' c c' : Nat} {enc : α -> List Value} {enc' : β -> List Value} {r : List α} {r' : List β} {bcs : List Value}
theorem X1h(ho:Own w B0 E' sz' enc' A' c' r')(hE:Nat.beq E' E=false):∀ k cs fz,ownB A'=some k->w.heap[k]? = some (.cells cs E fz)->False:=fun k cs fz hk hh=>by
 obtain ⟨_,_,cs',fz',h3⟩:=ho.block (k:=k) (by rw[X6h];exact hk);rw[h3] at hh;injection hh with hh;injection hh with _ e _;subst e;simp at hE
theorem Own.tu(h:Own w B0 E sz enc A c r)(hts:TurnS (SB b l) w w')(hb:Blk w b T bcs)(h1:Nat.beq T E=false)(hr:∀ A' ∈ l,∀ k cs fz,ownB A'=some k->w.heap[k]? = some (.cells cs E fz)->False):Own w' B0 E sz enc A c r:=by
 refine ⟨h.1,?_⟩;rcases h.2 with h2|⟨g,cap,cur,e1,e2,e3,e4⟩
 ·exact .inl h2
 ·refine .inr ⟨g,cap,cur,e1,e2,?_,e4⟩;have hlt:g<w.heap.size:=(Qp.1 e3).1;rw[hts.block g hlt fun hk=>?_]
  ·exact e3
  ·rcases hk with e|⟨A',hA,hk⟩
   ·subst e;unfold Blk at hb;rw[hb] at e3;injection e3 with e3;injection e3 with _ e _;subst e;simp at h1
   ·exact hr A' hA g _ _ hk e3
theorem Rd.tu{B:Nat}(h:Rd w B E enc A r)(hts:TurnS (SB b l) w w')(hb:Blk w b T bcs)(h1:Nat.beq T E=false)(hr:∀ A' ∈ l,∀ k cs fz,ownB A'=some k->w.heap[k]? = some (.cells cs E fz)->False):Rd w' B E enc A r:=fun hl=>by
 have ⟨g,off,cs,fz,e1,e2,e3,e4⟩:=h hl;refine ⟨g,off,cs,fz,e1,e2,?_,e4⟩;have hlt:g<w.heap.size:=(Qp.1 e3).1;rw[hts.block g hlt fun hk=>?_]
 ·exact e3
 ·rcases hk with e|⟨A',hA,hk⟩
  ·subst e;unfold Blk at hb;rw[hb] at e3;injection e3 with e3;injection e3 with _ e _;subst e;simp at h1
  ·exact hr A' hA g _ _ hk e3
end
def X94:∀ {ws:List Wr} {k:Int},(∀ w ∈ ws,w.a<w.b)->cnW ws k=((nearW ws k).length:Int)
 | [],_,_=>rfl
 | w::ws,k,h=>by
  have ih:=X94 (ws:=ws) (k:=k) fun x hx=>h x (by simp[hx]);have hw:=h w O4;unfold cnW nearW at ih ⊢;rw[List.filter_cons,List.filterMap_cons];by_cases h1:k=w.a
  ·have e:otW k w=some w.b:=Q4 h1;have e2:(w.a==k||w.b==k)=true:=by simp[h1]
   rw[e,e2];simp only[if_true,Qs];omega
  ·by_cases h2:k=w.b
   ·have e:otW k w=some w.a:=by unfold otW;rw[Q3 h1,Q4 h2]
    have e2:(w.a==k||w.b==k)=true:=by simp[h2]
    rw[e,e2];simp only[if_true,Qs];omega
   ·have e:otW k w=none:=by unfold otW;rw[Q3 h1,Q3 h2]
    have e2:(w.a==k||w.b==k)=false:=by simp[Ne.symm h1,Ne.symm h2]
    rw[e,e2];simp only[Bool.false_eq_true,if_false];exact ih
def Xi3{d:Dg}(hG:goodD d=true){a v:Int}(hv:v ∈ nearW d.ws a)(hs:spI d.ns v=false):∀ w ∈ dpW d.ws a,w.a≠v/\w.b≠v:=by
 have hD:=X1k hG;have hr:=X2p hD hv;have hx:d.ns[v.toNat]? = some (d.ns.getD v.toNat nZ):=Xg hr.2;have hq:=(X3d hG).2.2.1 v.toNat hr.2;have hvt:((v.toNat:Nat) : Int)=v:=by omega
 rw[hvt] at hq;have ⟨w0,hw0,ho⟩:=X5z.1 hv;have hab:=hD.w.l;have hk:(d.ns.getD v.toNat nZ).k≠3:=fun h3=>by
  have:spI d.ns v=true:=by
   unfold spI;rw[h3,X11.2 ⟨hr.1,by omega⟩];rfl
  rw[this] at hs;cases hs
 have htouch:(w0.a==v||w0.b==v)=true:=by
  rcases X5g ho with ⟨_,h2⟩|⟨_,h2⟩<;>simp[h2]
 have hmem:w0 ∈ d.ws.filter (fun w=>w.a==v||w.b==v):=List.mem_filter.2 ⟨hw0,htouch⟩;have hone:cnW d.ws v=1:=by
  unfold ndQ at hq;split at hq
  ·simp only[Qd,beq_iff_eq] at hq;have h0:=hq.2;unfold cnW at h0;have:=List.length_pos_of_mem hmem;omega
  ·split at hq
   ·simp only[Qd,beq_iff_eq] at hq;exact hq.2
   ·simp only[Qd,beq_iff_eq] at hq;exact absurd hq.1 hk
 intro w hw;have hw2:=List.mem_filter.1 hw;have hna:w.a≠a/\w.b≠a:=by simpa using hw2.2
 by_cases ht:(w.a==v||w.b==v)=true
 ·exfalso;have hmw:w ∈ d.ws.filter (fun w=>w.a==v||w.b==v):=List.mem_filter.2 ⟨hw2.1,ht⟩;unfold cnW at hone;have ⟨z,hz⟩:=List.length_eq_one_iff.1 (show (d.ws.filter (fun w=>w.a==v||w.b==v)).length=1 by omega);rw[hz] at hmem hmw;have e1:=Qm.1 hmem;have e2:=Qm.1 hmw;subst e1;subst e2;rcases X5g ho with ⟨h2,_⟩|⟨h2,_⟩
  ·exact hna.1 h2.symm
  ·exact hna.2 h2.symm
 ·simpa using ht
def X5i{ns:List Nd}{a v:Int}(hv:0<=v)(ha:0<=a)(hne:v≠a):spI (dpN ns a) v=spI ns v:=by grind [dpN,spI]
def X4f{d:Dg}(hD:InD d){a v:Int}(hv:v ∈ nearW d.ws a):v≠a:=by
 have ⟨w0,hw0,ho⟩:=X5z.1 hv;have:=hD.w.l w0 hw0;rcases X5g ho with ⟨_,h2⟩|⟨_,h2⟩<;>omega
def Xes{ws:List Wr}{u v:Int}(h:(∀ w ∈ ws,w.a≠u/\w.b≠u)∨∀ w ∈ ws,w.a≠v/\w.b≠v):fdW ws u v<0:=by
 have:fdW ws u v = -1:=Y0n fun w hw=>by
  cases hh:isW u v w with
  | false=>rfl
  | true=>
   have h2:=X2t.1 hh;rcases h with h|h
   ·have:=h w hw;omega
   ·have:=h w hw;omega
 omega
def Xva{d:Dg}(hG:goodD d=true){a u v:Int}(ha:0<=a)(hu:u ∈ nearW d.ws a)(hv:v ∈ nearW d.ws a)(h:(spI (id0 d a).ns u&&spI (id0 d a).ns v)=false):fdW (id0 d a).ws u v<0:=by
 have hD:=X1k hG;have ru:=X2p hD hu;have rv:=X2p hD hv;have e1:spI (id0 d a).ns u=spI d.ns u:=X5i ru.1 ha (X4f hD hu);have e2:spI (id0 d a).ns v=spI d.ns v:=X5i rv.1 ha (X4f hD hv);rw[e1,e2,Bool.and_eq_false_iff] at h;rcases h with h|h
 ·exact Xes (.inl (Xi3 hG hu h))
 ·exact Xes (.inr (Xi3 hG hv h))
def Xbb{ws:List Wr}{k:Int}{j:Nat}(hj:j<(nearW ws k).length):(nearW ws k).getD j 0 ∈ nearW ws k:=Qe (Xg (d:=0) hj)
def Yc9{d:Dg}(hD:InD d){a:Int}(h:(!(spI d.ns a)||(d.ns.getD a.toNat nZ).p != 0||cnW d.ws a != 2)=true):idC d a=false:=by
 rw[X94 hD.w.l] at h;rw[Bool.or_eq_true] at h;rcases h with h|h
 ·exact (Xqv h).1
 ·exact Xqw h
def Y6l{d:Dg}(hD:InD d){a:Int}(h:(!(spI d.ns a)||(d.ns.getD a.toNat nZ).p != 0||cnW d.ws a != 2)=false):idC d a=true/\(nearW d.ws a).length=2/\0<=a/\a.toNat<d.ns.length:=by
 rw[X94 hD.w.l] at h;rw[Bool.or_eq_false_iff] at h;have h1:=Xff h.1;have h2:=Xlh h1 h.2;have h3:=X0z h1.1;exact ⟨h2.1,h2.2,h3.1,h3.2.1⟩
def Xg5(w0:World)(bV B0:Nat)(A0:Option Addr)(c0:Nat)(A1:Option Addr)(c1 m0:Nat)(d:Dg)(a7:Dgm w0 bV B0 A0 c0 A1 c1 m0 d)(aD:B0<=w0.heap.size)(p:Int)(f:Int)(hp:0<=p/\p.toNat<d.ns.length)(a8:PhN d.ns)(aE:-8<=f/\f<=900):RE 178 [(pZ9 bV),vi p,vi f] w0 (fun v w=>∃ A c,TurnS (SB bV [A0,A1]) w0 w/\Us (SB bV [A0,A1]) w0 A/\Dgm w bV B0 A0 c0 A c m0 ({ d with ns:=adN d.ns p f } : Dg)):=by
 have ⟨e,b,g,a6⟩:=a7;have aC:=e.lt;have aA:Us (SB bV [A0,A1]) w0 A0:=SB.us O4;have aB:Us (SB bV [A0,A1]) w0 A1:=SB.us O4;have aF:=X2j a8 p.toNat;refine enter func178 O 25 O O ?_;intro a hf;have hW:TurnS (SB bV [A0,A1]) w0 w0:=TurnS.refl _ _;refine Xy none (fun j=>[19].contains j) mixed ?_;intro w1 hE;have ⟨e,b,g⟩:=mv3 hE e b g;have hW:=tsbel hW hE;refine Yb hf<|YA 0 O O<|YB 1 O O<|Yo 2 O (fun _=>Vd O Xn 1)<|Ye 3 O (X0 O X0f (e.at 1))<|YA 4 O O<|YA 5 O O<|YB 6 O O<|Yo 7 O (fun _=>Vd O Xn 1)<|Ye 8 O (X0 O X0f (e.at 1))<|YA 9 O O<|Yo 10 O (fun _=>Xm (k:=p.toNat) O O X00 X0o b a6 Z Z)<|Yo 11 O (fun _=>X1x O X0m (m':=p.toNat*2+1) O)<|Ye 12 O (X0 O X8 (X19 b X03 (Xg (d:=nZ) Z) 1 O))<|YA 13 O O<|Yo 14 O (fun _=>Xr O O Z Z)<|Yo 15 O (fun _=>Xr O O Z Z)<|Yo 16 O (fun _=>Vx (X46 O O O) (Yeg Z))<|Yo 17 O (fun _=>Xm (k:=p.toNat) O O X00 X0o b a6 Z Z)<|Yo 18 O (fun _=>X1x O X0m (m':=p.toNat*2+1) O)<|Y1 19<|Yh O tv0 O (X1a (enc:=encNd) (l:=d.ns) (vs:=[vi (((d.ns.getD p.toNat nZ).p+f) % 8)]) (x0:=(d.ns.getD p.toNat nZ)) (u:=(⟨(d.ns.getD p.toNat nZ).k,(((d.ns.getD p.toNat nZ).p+f) % 8)⟩ : Nd)) (k:=p.toNat) (j:=1) (n1:=1) O O X0p b X03 O O O O O5 (Xg (d:=nZ) Z) O) ?_;intro _ w2 ⟨m,hg⟩;have i:=b;have e:=e.appT i hg O;have g:=g.appT i hg O;have hW:=tsrow hW hg aA;clear i hg;clear b;have b:=m;clear m;exact Yd fun a hf=>X20 hf (X2y O)<|⟨A1,c1,hW,aB,⟨e,b,g,(a6.trans List.length_set.symm)⟩⟩
def Xjq(w0:World)(bV B0:Nat)(A0:Option Addr)(c0:Nat)(A1:Option Addr)(c1 m0:Nat)(d:Dg)(aF:Dgm w0 bV B0 A0 c0 A1 c1 m0 d)(aG:B0<=w0.heap.size)(p:Int)(q:Int)(x:Bool)(aH:WSd d.ws)(hab:fdW d.ws p q<0)(aN:d.ws.length<=90000000):RE 77 [(pZ9 bV),vi p,vi q,.bool x] w0 (fun v w=>∃ A c,TurnS (SB bV [A0,A1]) w0 w/\Us (SB bV [A0,A1]) w0 A/\Dgm w bV B0 A0 c0 A c m0 ({ d with ws:=jnW d.ws p q x } : Dg)):=by
 have ⟨b,f,j,aI⟩:=aF;have aL:=b.lt;have aO:Us (SB bV [A0,A1]) w0 A0:=SB.us O4;have aA:Us (SB bV [A0,A1]) w0 A1:=SB.us O4;refine enter func77 O 30 O O ?_;intro a hf;have i:TurnS (SB bV [A0,A1]) w0 w0:=TurnS.refl _ _;refine ZS hf fun aJ=>Zm O<|Zm O<|Ze (X05 O)<|Ze (Vd O X02 2)<|Ze (X0 O X1f (b.at 2))<|Zm O<|Zm O<|Ze (Xum O O)<|Zm O<|Zm O<|Ze (Y2a O O)<|Zm O<|Ze (X0k (ps:=[(0,vi (min p q)),(1,vi (max p q)),(2,.bool x)]) (cs:=[vi (min p q),vi (max p q),.bool x]) O (fun _=>by first|rfl|kernel_rfl))<|Zf (Xe (k:=1) (vs:=[.agg #[vi (min p q),vi (max p q),.bool x]]) (zs:=[vi (min p q),vi (max p q),.bool x]) O X0a X1w O O) ?_;rintro _ w1 ⟨b4,rfl,aB,hE,a6⟩;have aM:=Q0 i.size aB;have ⟨b,f,j⟩:=mv3 hE b f j;have i:=tsbel i hE;refine Zf (X0r (enc:=encWr) (l:=(d.ws)) (l2:=([(⟨min p q,max p q,x⟩ : Wr)])) (B0:=B0) O O X0a X1w X0d X2l j (Rd.of_blk a6 O _ a6.lt) (by simp only[maxLen];simp;omega) O6 (Q0 aG i.size)) ?_;rintro _ w2 ⟨A6,c6,rfl,g,o,a7⟩;have e:Own _ B0 99 3 encWr _ _ (d.ws):=j;have aC:=Us.app aA a7 i.size;clear a7;have b:=b.appT e o O;have f:=f.appT e o O;have i:=tsrow i o aA;clear e o;refine Ze (X05 O)<|Ze (Vd O X02 2)<|Zo (X1r (vs:=[.slice A6 (d.ws++([(⟨min p q,max p q,x⟩ : Wr)])).length c6]) (l':=[vi d.n,.slice A0 m0 c0,.slice A6 (d.ws++([(⟨min p q,max p q,x⟩ : Wr)])).length c6,vi d.t,vi d.r]) O O X2h b O O O O O) ?_;intro _ w3 ⟨ho,hb⟩;have f:=f.oT ho b O;have g:=g.oT ho b O;have i:=tsonly i ho (.inl (.inl O));have b:=hb;refine Zt aJ fun a hf=>Zr hf<|Zm O<|Ze (X05 O)<|Ze (Vd O X02 2)<|Ze (X0 O X1f (b.at 2))<|Zf (Vc (Xzu _ B0 A6 c6 (d.ws++([(⟨min p q,max p q,x⟩ : Wr)])) g O6) Xl2) ?_;rintro _ w4 ⟨rfl,⟨aK,u,y,h⟩,o⟩;have e:=g;have b:=b.appT e o O;have f:=f.appT e o O;have i:=tsrow i o aC;clear e o;clear g;have g:=h;clear h;refine Zn fun a hf=>X20 hf (X2y O) ?_;have aD:aK=jnW d.ws p q x:=Xhm u y aH (Xpv hab);subst aD;have a8:(d.ws++[(⟨min p q,max p q,x⟩ : Wr)]).length=(jnW d.ws p q x).length:=by rw[X6f,Qh];rfl
 rw[a8] at b;exact ⟨A6,c6,i,aC,⟨b,f,g,aI⟩⟩
def Xoh(w0:World)(bV B0:Nat)(A0:Option Addr)(c0:Nat)(A1:Option Addr)(c1 m0:Nat)(d:Dg)(aD:Dgm w0 bV B0 A0 c0 A1 c1 m0 d)(aE:B0<=w0.heap.size)(p:Int)(q:Int)(aI:d.ws.length<=90000000):RE 108 [(pZ9 bV),vi p,vi q] w0 (fun v w=>∃ A c,TurnS (SB bV [A0,A1]) w0 w/\Us (SB bV [A0,A1]) w0 A/\Dgm w bV B0 A0 c0 A c m0 ({ d with ws:=ctO d.ws p q } : Dg)):=by
 have ⟨b,f,e,a6⟩:=aD;have aH:=b.lt;have aJ:Us (SB bV [A0,A1]) w0 A0:=SB.us O4;have a7:Us (SB bV [A0,A1]) w0 A1:=SB.us O4;have aB:=Xaf d.ws p q;refine enter func108 O 26 O O ?_;intro a j;have i:TurnS (SB bV [A0,A1]) w0 w0:=TurnS.refl _ _;refine ZS j fun aF=>Zm O<|Ze (X05 O)<|Ze (X07 (l:=(Zc4 d A0 m0 c0 A1 c1)) O X2 (b.at 0) O)<|Zm O<|Zm O<|Zf (Vc (Xju _ d m0 a6 A0 c0 f.rd.top A1 c1 e.rd.top e.cap p q Z) Xb1) ?_;rintro _ w1 ⟨rfl,hE⟩;have ⟨b,f,e⟩:=mv3 hE b f e;have i:=tsbel i hE;refine Za O<|Zx aF fun a j _ aG=>Zm O<|Ze (X5q O O)<|Zt aG fun a j=>X0y j O (fun aC a8=>?_) (fun aC a8=>?_)
 ·have aA:=Xbs a8;refine Zr j<|Zm O<|Zm O<|Ze (X05 O)<|Ze (Vd O X02 2)<|Ze (X0 O X1f (b.at 2))<|Zm O<|Zm O<|Ze (Xr O O Z Z)<|Zf (Vc (Xzv _ A1 c1 B0 d.ws e (Q0 aE i.size) (fdW d.ws p q) ⟨by omega,aB⟩ Z) Xl3) ?_;rintro _ w2 ⟨rfl,k,hg⟩;have g:=e;have b:=b.appT g hg O;have f:=f.appT g hg O;have i:=tsrow i hg a7;clear g hg;clear e;have e:=k;clear k;refine Ze (X05 O)<|Ze (Vd O X02 2)<|Zo (X1r (vs:=[.slice A1 (ctW d.ws (fdW d.ws p q).toNat).length c1]) (l':=[vi d.n,.slice A0 m0 c0,.slice A1 (ctW d.ws (fdW d.ws p q).toNat).length c1,vi d.t,vi d.r]) O O X2h b O O O O O) ?_;intro _ w3 ⟨ho,hb⟩;have f:=f.oT ho b O;have e:=e.oT ho b O;have i:=tsonly i ho (.inl (.inl O));have b:=hb;refine Zn fun a j=>X20 j (X2y O) ?_;rw[aA];exact ⟨A1,c1,i,a7,⟨b,f,e,a6⟩⟩
 have aA:=Xp3 (ws:=d.ws) (p:=p) (q:=q) (by have:=a8;omega);refine Q7<|X20 j (X2y O) ?_;rw[aA];exact ⟨A1,c1,i,a7,⟨b,f,e,a6⟩⟩
def Y8h(w0:World)(x:Wr)(k:Int)(ba:Nat)(d:Blk w0 ba 3 [vi k]):RE 187 [.agg #[vi x.a,vi x.b,.bool x.h],(pZ9 ba)] w0 (fun v w=>v=.bool (x.a==k||x.b==k)/\Bl w0 w):=by
 have a7:=d.lt;refine enter func187 O 14 O O ?_;intro a e
 have hW:=bz w0
 refine ZS e fun a8=>Zf (X0n (zs:=[vi x.a,vi x.b,.bool x.h]) O O) ?_;rintro _ w1 ⟨b2,rfl,aA,hE,a6⟩;have aC:=Q0 hW.size aA;have d:=d.bw hE;have hW:=btr hW hE;refine Za O<|ZX a8 fun a e _ aB=>X0i (fun a w=>Fr a 14 [(3,.bool ((x.a==k)||(x.b==k)))]/\w1=w) ?_ ?_
 ·refine Zr e<|Ze (Vd O X1l 0)<|Ze (X0 O X8 (a6.at 0))<|Ze (X0 O X8 (d.at 0))<|Ze (X0l O O)<|Zm O<|Zg 8 O ?_ ?_<;>intro c
  ·(iterate 4 refine Zp (gP c) ?_);exact Ze (Xc O c O)<|Za O<|Zn fun a e=>⟨e.sub ⟨X1 O (by simp[c]),trivial⟩,O⟩
  refine Zv (gW c) (Vd O X1p 1) ?_;refine Zv (gW c) (X0 O X8 (a6.at 1)) ?_;refine Zv (gW c) (X0 O X8 (d.at 0)) ?_;refine Zv (gW c) (X0l O O) ?_;refine Ze (Xi O c O)<|Za O ?_;exact Zn fun a e=>⟨e.sub ⟨X1 O (by first|rfl|(simp only[c,bs];done)|simp[c]),trivial⟩,O⟩
 rintro a _ ⟨e,rfl⟩;refine aB _ _<|Q6 (X6 e (Xq e O O) ?_)
 exact ⟨O,hW⟩
def Xd5(w0:World)(bV B0:Nat)(A0:Option Addr)(c0:Nat)(A1:Option Addr)(c1 m0:Nat)(d:Dg)(a8:Dgm w0 bV B0 A0 c0 A1 c1 m0 d)(aA:B0<=w0.heap.size)(k:Int)(hk:0<=k/\k.toNat<d.ns.length)(aI:d.ws.length<=90000000):RE 140 [(pZ9 bV),vi k] w0 (fun v w=>∃ A c,TurnS (SB bV [A0,A1]) w0 w/\Us (SB bV [A0,A1]) w0 A/\Dgm w bV B0 A0 c0 A c m0 (id0 d k)):=by
 have ⟨e,f,g,a6⟩:=a8;have aG:=e.lt;have aB:Us (SB bV [A0,A1]) w0 A0:=SB.us O4;have a7:Us (SB bV [A0,A1]) w0 A1:=SB.us O4;refine enter func140 O 20 O O ?_;intro a hf;have o:TurnS (SB bV [A0,A1]) w0 w0:=TurnS.refl _ _;refine ZS hf fun aC=>Zf (X0n (zs:=[vi k]) O O) ?_;rintro _ w1 ⟨b4,rfl,aD,q,p⟩;have aH:=Q0 o.size aD;have ⟨e,f,g⟩:=mv3 q e f g;have o:=tsbel o q;refine ZX aC fun a hf _ aE=>Xy none (fun j=>[7].contains j) mixed ?_;intro w2 q;have ⟨e,p,f,g⟩:=mv4 q e p f g;have o:=tsbel o q;refine Yb hf<|YA 0 O O<|YB 1 O O<|Yo 2 O (fun _=>Vd O Xn 1)<|Ye 3 O (X0 O X0f (e.at 1))<|Ye 4 O (X0 O X8 (p.at 0))<|Yo 5 O (fun _=>X0k (ps:=[]) (cs:=[vi 0,vi 0]) O (fun _=>by first|rfl|kernel_rfl))<|Yo 6 O (fun _=>Xm (k:=k.toNat) O O X00 X0o f a6 Z Z)<|Y1 7<|Yh O tv0 O (X1a (enc:=encNd) (l:=d.ns) (vs:=[vi 0,vi 0]) (x0:=(d.ns.getD k.toNat nZ)) (u:=(⟨0,0⟩ : Nd)) (k:=k.toNat) (j:=0) (n1:=2) O O X0o f X03 O O O O O5 (Xg (d:=nZ) Z) O) ?_;intro _ w3 ⟨m,y⟩;have i:=f;have e:=e.appT i y O;have p:=p.appT i y O;have g:=g.appT i y O;have o:=tsrow o y aB;clear i y;clear f;have f:=m;clear m;refine Yd fun a hf=>aE _ _<|Zr hf<|Zm O<|Zm O<|Ze (X05 O)<|Ze (Vd O X02 2)<|Ze (X0 O X1f (e.at 2))<|Ze (X4w (vs:=[(pZ9 b4)]) O)<|Zf (X8b (vs:=[.slice A1 d.ws.length c1,.func (.func 187) #[] #[(pZ9 b4)]]) O Xx8 (by have h9:=Y8g _ A1 c1 B0 d.ws g (Q0 aA o.size) 187 [(pZ9 b4)] Xx9 (fun w=>w.a==k||w.b==k) (fun x w' aF=>Y8h w' x k _ (p.appT g aF rfl)) Z;rw[Y9q] at h9;exact h9)) ?_;rintro _ w4 ⟨rfl,m,y⟩;have i:=g;have e:=e.appT i y O;have f:=f.appT i y O;have o:=tsrow o y a7;clear i y;clear g;have g:=m;clear m;refine Ze (X05 O)<|Ze (Vd O X02 2)<|Zo (X1r (vs:=[.slice A1 (dpW d.ws k).length c1]) (l':=[vi d.n,.slice A0 m0 c0,.slice A1 (dpW d.ws k).length c1,vi d.t,vi d.r]) O O X2h e O O O O O) ?_;intro _ w5 ⟨ho,hb⟩;have f:=f.oT ho e O;have g:=g.oT ho e O;have o:=tsonly o ho (.inl (.inl O));have e:=hb;exact Zn fun a hf=>X20 hf (X2y O)<|⟨A1,c1,o,a7,⟨e,f,g,(a6.trans List.length_set.symm)⟩⟩
def Xzl(w0:World)(bV B0:Nat)(A0:Option Addr)(c0:Nat)(A1:Option Addr)(c1 E:Nat)(d:Dg)(aM:Dgm w0 bV B0 A0 c0 A1 c1 E d)(aB:B0<=w0.heap.size)(p:Int)(q:Int)(aN:WSd d.ws)(aT:d.ws.length<=80000000):RE 182 [(pZ9 bV),vi p,vi q] w0 (fun v w=>∃ A c,v=.bool (tyW d.ws p q != 1)/\TurnS (SB bV [A0,A1]) w0 w/\Us (SB bV [A0,A1]) w0 A/\Dgm w bV B0 A0 c0 A c E (tgI d p q)):=by
 have ⟨b,e,k,D⟩:=aM;have aS:=b.lt;have aC:Us (SB bV [A0,A1]) w0 A0:=SB.us O4;have a6:Us (SB bV [A0,A1]) w0 A1:=SB.us O4;refine enter func182 O 39 O O ?_;intro a f;have g:TurnS (SB bV [A0,A1]) w0 w0:=TurnS.refl _ _;refine ZS f fun aO=>Za O<|ZX aO fun a f _ aD=>ZS f fun aP=>Zm O<|Ze (X05 O)<|Ze (X07 (l:=(Zc4 d A0 E c0 A1 c1)) O X2 (b.at 0) O)<|Zm O<|Zm O<|Zf (Vc (X8a _ d E D A0 c0 e.rd.top A1 c1 k.rd.top k.cap p q Z) X4d) ?_;rintro _ w1 ⟨rfl,hE⟩;have ⟨b,e,k⟩:=mv3 hE b e k;have g:=tsbel g hE;refine Zt aP fun a f=>Q8<|ZS f fun aQ=>Ze (X0l O O)<|Za O<|Zt aQ fun a f=>Xx f O ?_ ?_<;>intro a7
 ·have h0:tyW d.ws p q=0:=by simpa using a7
  have i:(tyW d.ws p q != 1)=true:=by rw[h0];rfl
  have u:=Ybz h0;refine ZS f fun aR=>Zm O<|Zm O<|Zm O<|Zf (Vc (Xjq _ bV B0 A0 c0 A1 c1 E d ⟨b,e,k,D⟩ (Q0 aB g.size) p q true aN (Xyy h0) Z) X7l) ?_;intro _ w2 ⟨A9,c9,x,y,h,j,a8,aE⟩;have m:=SB.lift (S:=SB bV [A0,A1]) (w0:=w0) (.inl (.inl O)) (alc aC (alc a6 al0));have y:=Us.trans y m g.size;have g:=tstr g x m;clear m;clear x b;have b:=h;clear h;clear e;have e:=j;clear j;refine Zt aR fun a f=>Zr f<|Zm O<|Ze (X05 O)<|Ze (Vd O X0h 4)<|Ze (X0 O X8 (b.at 4))<|Ze (X3b O O)<|Ze (X05 O)<|Ze (Vd O X0h 4)<|Zo (X1r (vs:=[vi (wr ((({ d with ws:=jnW d.ws p q true } : Dg).r)+1))]) (l':=[vi (({ d with ws:=jnW d.ws p q true } : Dg).n),.slice A0 E c0,.slice A9 (({ d with ws:=jnW d.ws p q true } : Dg).ws).length c9,vi (({ d with ws:=jnW d.ws p q true } : Dg).t),vi (wr ((({ d with ws:=jnW d.ws p q true } : Dg).r)+1))]) O O X0p b O O O O O) ?_;intro _ w3 ⟨ho,hb⟩;have e:=e.oT ho b O;have a8:=a8.oT ho b O;have g:=tsonly g ho (.inl (.inl O));have b:=hb;refine Zn fun a f=>Xd<|aD _ _<|ZS f fun aF=>Za O<|Zt aF fun a f=>Q6 (X6 f (Xq f O O) ?_);rw[i,u];exact ⟨A9,c9,O,g,y,⟨b,e,a8,aE⟩⟩
 have h0:tyW d.ws p q≠0:=by simpa using a7
 refine ZS f fun aG=>Ze (X0l O O)<|Za O<|Zt aG fun a f=>Xx f O ?_ ?_<;>intro B
 ·have h1:tyW d.ws p q=1:=by simpa using B
  have i:(tyW d.ws p q != 1)=false:=by rw[h1];rfl
  have u:=Yc0 h1;refine ZS f fun aH=>Za O<|Zt aH fun a f=>Q6<|Xu<|X9<|X6 f (Xq f O O) ?_;rw[i,u];exact ⟨A1,c1,O,g,a6,⟨b,e,k,D⟩⟩
 have h1:tyW d.ws p q≠1:=by simpa using B
 have i:(tyW d.ws p q != 1)=true:=by simpa using h1
 have u:=Yc1 h0 h1;refine ZS f fun aI=>Zm O<|Zm O<|Zm O<|Zf (Vc (Xoh _ bV B0 A0 c0 A1 c1 E d ⟨b,e,k,D⟩ (Q0 aB g.size) p q Z) Xax) ?_;intro _ w4 ⟨aJ,aK,x,o,h,j,C,aA⟩;have m:=SB.lift (S:=SB bV [A0,A1]) (w0:=w0) (.inl (.inl O)) (alc aC (alc a6 al0));have o:=Us.trans o m g.size;have g:=tstr g x m;clear m;clear x b;have b:=h;clear h;clear e;have e:=j;clear j;refine Zt aI fun a f=>Zr f<|Zm O<|Ze (X05 O)<|Ze (Vd O X0h 4)<|Ze (X0 O X8 (b.at 4))<|Ze (X6r O O)<|Ze (X05 O)<|Ze (Vd O X0h 4)<|Zo (X1r (vs:=[vi (wr ((({ d with ws:=ctO d.ws p q } : Dg).r)-1))]) (l':=[vi (({ d with ws:=ctO d.ws p q } : Dg).n),.slice A0 E c0,.slice aJ (({ d with ws:=ctO d.ws p q } : Dg).ws).length aK,vi (({ d with ws:=ctO d.ws p q } : Dg).t),vi (wr ((({ d with ws:=ctO d.ws p q } : Dg).r)-1))]) O O X0p b O O O O O) ?_;intro _ w5 ⟨ho,hb⟩;have e:=e.oT ho b O;have C:=C.oT ho b O;have g:=tsonly g ho (.inl (.inl O));have b:=hb;refine Zn fun a f=>Xd<|aD _ _<|ZS f fun aL=>Za O<|Zt aL fun a f=>Q6 (X6 f (Xq f O O) ?_);rw[i,u];exact ⟨aJ,aK,O,g,o,⟨b,e,C,aA⟩⟩
def Y8i(w0:World)(bV B0:Nat)(A0:Option Addr)(c0:Nat)(A1:Option Addr)(c1 I:Nat)(d:Dg)(aP:Dgm w0 bV B0 A0 c0 A1 c1 I d)(J:B0<=w0.heap.size)(p:Int)(q:Int)(x:Bool)(a7:WSd d.ws)(b1:d.ws.length<=80000000)(aQ:(0<=p/\p.toNat<d.ns.length)/\(0<=q/\q.toNat<d.ns.length))(aR:PhN d.ns):RE 199 [(pZ9 bV),vi p,vi q,.bool x] w0 (fun v w=>∃ A c,TurnS (SB bV [A0,A1]) w0 w/\Us (SB bV [A0,A1]) w0 A/\Dgm w bV B0 A0 c0 A c I (lkD d p q x)):=by
 have ⟨b,e,h,L⟩:=aP;have b0:=b.lt;have M:Us (SB bV [A0,A1]) w0 A0:=SB.us O4;have a6:Us (SB bV [A0,A1]) w0 A1:=SB.us O4;have b2:=Xv7 d.ws p q;refine enter func199 O 67 O O ?_;intro a i;have j:TurnS (SB bV [A0,A1]) w0 w0:=TurnS.refl _ _;refine ZS i fun aS=>Zm O<|Ze (X05 O)<|Ze (X07 (l:=(Zc4 d A0 I c0 A1 c1)) O X2 (b.at 0) O)<|Zm O<|Zm O<|Zf (Vc (X8a _ d I L A0 c0 e.rd.top A1 c1 h.rd.top h.cap p q Z) X4d) ?_;rintro _ w1 ⟨rfl,hE⟩;have ⟨b,e,h⟩:=mv3 hE b e h;have j:=tsbel j hE;refine Za O<|Zt aS fun a i=>Q8<|ZS i fun aT=>Zm O<|Ze (X0l O O)<|Za O<|Zt aT fun a i=>Xx i O ?_ ?_<;>intro u
 ·have h0:tyW d.ws p q=0:=by simpa using u
  have B:=Yae (x:=x) h0;refine Zr i<|Zm O<|Zm O<|Zm O<|Zm O<|Zf (Vc (Xjq _ bV B0 A0 c0 A1 c1 I d ⟨b,e,h,L⟩ (Q0 J j.size) p q x a7 (Xyy h0) Z) X7l) ?_;intro _ w2 ⟨A6,c6,k,N,m,f,aU,aD⟩;have g:=SB.lift (S:=SB bV [A0,A1]) (w0:=w0) (.inl (.inl O)) (alc M (alc a6 al0));have N:=Us.trans N g j.size;have j:=tstr j k g;clear g;clear k b;have b:=m;clear m;clear e;have e:=f;clear f;refine Zn fun a i=>Xd<|X20 i (X2y O) ?_;rw[B];exact ⟨A6,c6,j,N,⟨b,e,aU,aD⟩⟩
 have h0:tyW d.ws p q≠0:=by simpa using u
 refine Q5 fun _ aV=>X0i (fun a w=>Fr a 67 [(0,(pZ9 bV)),(1,vi p),(2,vi q),(3,.bool x),(8,vi (tyW d.ws p q)),(43,.bool (((tyW d.ws p q)==1)&&(!x)))]/\w1=w) ?_ ?_
 ·refine Zr i<|Zm O<|Ze (X0l O O)<|Zm O<|Zg 46 O ?_ ?_<;>intro y
  ·refine Zv (gW y) (X5 O) ?_;refine Zv (gW y) (X1i O)<|Ze (Xc O y O)<|Za O<|Zn fun a i=>?_;exact ⟨i.sub ⟨O,O,O,O,O,X1 O (by simp[u,y]),trivial⟩,O⟩
  (iterate 2 refine Zp (gP y) ?_);exact Ze (Xi O y O)<|Za O<|Zn fun a i=>⟨i.sub ⟨O,O,O,O,O,X1 O (by simp[u,y]),trivial⟩,O⟩
 rintro a _ ⟨i,rfl⟩;refine aV _ _<|Xx i O ?_ ?_<;>intro C
 ·have B:=Yaf C;refine Q7<|Xd<|X20 i (X2y O) ?_;rw[B];exact ⟨A1,c1,j,a6,⟨b,e,h,L⟩⟩
 have h1:=C;refine Q5 fun _ aE=>X0i (fun a w=>Fr a 67 [(0,(pZ9 bV)),(1,vi p),(2,vi q),(50,.bool (((tyW d.ws p q)==2)&&x))]/\w1=w) ?_ ?_
 ·refine Zr i<|Zm O<|Ze (X0l O O)<|Zm O<|Zg 53 O ?_ ?_<;>intro o
  ·refine Zv (gW o) (X5 O)<|Ze (Xc O o O)<|Za O<|Zn fun a i=>?_;exact ⟨i.sub ⟨O,O,O,X1 O (by simp[u,C,o]),trivial⟩,O⟩
  exact Zp (gP o)<|Ze (Xi O o O)<|Za O<|Zn fun a i=>⟨i.sub ⟨O,O,O,X1 O (by simp[u,C,o]),trivial⟩,O⟩
 rintro a _ ⟨i,rfl⟩;refine aE _ _<|Xx i O ?_ ?_<;>intro Q
 ·have B:=Yag Q;refine ZS i fun aF=>Zm O<|Zm O<|Zm O<|Zf (Vc (Xoh _ bV B0 A0 c0 A1 c1 I d ⟨b,e,h,L⟩ (Q0 J j.size) p q Z) Xax) ?_;intro _ w3 ⟨aG,aH,k,D,m,f,U,a8⟩;have g:=SB.lift (S:=SB bV [A0,A1]) (w0:=w0) (.inl (.inl O)) (alc M (alc a6 al0));have D:=Us.trans D g j.size;have j:=tstr j k g;clear g;clear k b;have b:=m;clear m;clear e;have e:=f;clear f;refine Zt aF fun a i=>Zr i<|Zm O<|Ze (X05 O)<|Ze (Vd O X0h 4)<|Ze (X0 O X8 (b.at 4))<|Ze (X6r O O)<|Ze (X05 O)<|Ze (Vd O X0h 4)<|Zo (X1r (vs:=[vi (wr ((({ d with ws:=ctO d.ws p q } : Dg).r)-2))]) (l':=[vi (({ d with ws:=ctO d.ws p q } : Dg).n),.slice A0 I c0,.slice aG (({ d with ws:=ctO d.ws p q } : Dg).ws).length aH,vi (({ d with ws:=ctO d.ws p q } : Dg).t),vi (wr ((({ d with ws:=ctO d.ws p q } : Dg).r)-2))]) O O X0p b O O O O O) ?_;intro _ w4 ⟨ho,hb⟩;have e:=e.oT ho b O;have U:=U.oT ho b O;have j:=tsonly j ho (.inl (.inl O));have b:=hb;refine Zn fun a i=>Xd<|X20 i (X2y O) ?_;rw[B];exact ⟨aG,aH,j,D,⟨b,e,U,a8⟩⟩
 have B:=Yah h0 h1 Q;refine ZS i fun aI=>Zm O<|Zm O<|Zm O<|Zf (Vc (Xoh _ bV B0 A0 c0 A1 c1 I d ⟨b,e,h,L⟩ (Q0 J j.size) p q Z) Xax) ?_;intro _ w5 ⟨aW,aX,k,E,m,f,aJ,aA⟩;have g:=SB.lift (S:=SB bV [A0,A1]) (w0:=w0) (.inl (.inl O)) (alc M (alc a6 al0));have E:=Us.trans E g j.size;have j:=tstr j k g;clear g;clear k b;have b:=m;clear m;clear e;have e:=f;clear f;refine Zx aI fun a i _ aK=>Zm O<|Zm O<|Zm O<|Zf (Vc (Xjq _ bV B0 A0 c0 aW aX I ({ d with ws:=ctO d.ws p q } : Dg) ⟨b,e,aJ,aA⟩ (Q0 J j.size) p q false (Y2m a7 p q) (Y2l a7) O7) X7l) ?_;intro _ w6 ⟨aY,aZ,k,G,m,f,aL,aB⟩;have g:=SB.lift (S:=SB bV [A0,A1]) (w0:=w0) (.inl (.inl O)) (alc M (alc E al0));have G:=Us.trans G g j.size;have j:=tstr j k g;clear g;clear k b;have b:=m;clear m;clear e;have e:=f;clear f;refine Zx aK fun a i _ aM=>Zm O<|Zm O<|Zm O<|Ze (Xum O O)<|Zf (Vc (Xg5 _ bV B0 A0 c0 aY aZ I ({ ({ d with ws:=ctO d.ws p q } : Dg) with ws:=jnW ({ d with ws:=ctO d.ws p q } : Dg).ws p q false } : Dg) ⟨b,e,aL,aB⟩ (Q0 J j.size) (min p q) 4 (Xri aQ) aR ⟨by decide,by decide⟩) X97) ?_;intro _ w7 ⟨aN,aO,k,H,m,f,W,aC⟩;have g:=SB.lift (S:=SB bV [A0,A1]) (w0:=w0) (.inl (.inl O)) (alc M (alc G al0));have H:=Us.trans H g j.size;have j:=tstr j k g;clear g;clear k b;have b:=m;clear m;clear e;have e:=f;clear f;refine Zt aM fun a i=>Zr i<|Zm O<|Ze (X05 O)<|Ze (Vd O X0h 4)<|Ze (X0 O X8 (b.at 4))<|Ze (X6r O O)<|Ze (X05 O)<|Ze (Vd O X0h 4)<|Zo (X1r (vs:=[vi (wr ((({ ({ ({ d with ws:=ctO d.ws p q } : Dg) with ws:=jnW ({ d with ws:=ctO d.ws p q } : Dg).ws p q false } : Dg) with ns:=adN ({ ({ d with ws:=ctO d.ws p q } : Dg) with ws:=jnW ({ d with ws:=ctO d.ws p q } : Dg).ws p q false } : Dg).ns (min p q) 4 } : Dg).r)-1))]) (l':=[vi (({ ({ ({ d with ws:=ctO d.ws p q } : Dg) with ws:=jnW ({ d with ws:=ctO d.ws p q } : Dg).ws p q false } : Dg) with ns:=adN ({ ({ d with ws:=ctO d.ws p q } : Dg) with ws:=jnW ({ d with ws:=ctO d.ws p q } : Dg).ws p q false } : Dg).ns (min p q) 4 } : Dg).n),.slice A0 I c0,.slice aN (({ ({ ({ d with ws:=ctO d.ws p q } : Dg) with ws:=jnW ({ d with ws:=ctO d.ws p q } : Dg).ws p q false } : Dg) with ns:=adN ({ ({ d with ws:=ctO d.ws p q } : Dg) with ws:=jnW ({ d with ws:=ctO d.ws p q } : Dg).ws p q false } : Dg).ns (min p q) 4 } : Dg).ws).length aO,vi (({ ({ ({ d with ws:=ctO d.ws p q } : Dg) with ws:=jnW ({ d with ws:=ctO d.ws p q } : Dg).ws p q false } : Dg) with ns:=adN ({ ({ d with ws:=ctO d.ws p q } : Dg) with ws:=jnW ({ d with ws:=ctO d.ws p q } : Dg).ws p q false } : Dg).ns (min p q) 4 } : Dg).t),vi (wr ((({ ({ ({ d with ws:=ctO d.ws p q } : Dg) with ws:=jnW ({ d with ws:=ctO d.ws p q } : Dg).ws p q false } : Dg) with ns:=adN ({ ({ d with ws:=ctO d.ws p q } : Dg) with ws:=jnW ({ d with ws:=ctO d.ws p q } : Dg).ws p q false } : Dg).ns (min p q) 4 } : Dg).r)-1))]) O O X0p b O O O O O) ?_;intro _ w8 ⟨ho,hb⟩;have e:=e.oT ho b O;have W:=W.oT ho b O;have j:=tsonly j ho (.inl (.inl O));have b:=hb;refine Zn fun a i=>Xd<|X20 i (X2y O) ?_;rw[B];exact ⟨aN,aO,j,H,⟨b,e,W,aC⟩⟩
def Xzx(w0:World)(bV B0:Nat)(A0:Option Addr)(c0:Nat)(A1:Option Addr)(c1 E:Nat)(d:Dg)(aG:Dgm w0 bV B0 A0 c0 A1 c1 E d)(a8:B0<=w0.heap.size)(p:Int)(q:Int)(x:Bool)(aA:WSd d.ws)(aH:d.ws.length<=80000000)(aI:(0<=p/\p.toNat<d.ns.length)/\(0<=q/\q.toNat<d.ns.length))(aJ:PhN d.ns)(hN:E<=1000)(hab:(spI d.ns p&&spI d.ns q)=false->fdW d.ws p q<0):RE 179 [(pZ9 bV),vi p,vi q,.bool x] w0 (fun v w=>∃ A c,TurnS (SB bV [A0,A1]) w0 w/\Us (SB bV [A0,A1]) w0 A/\Dgm w bV B0 A0 c0 A c E (mtD d p q x)):=by
 have ⟨e,f,g,G⟩:=aG;have aN:=e.lt;have aB:Us (SB bV [A0,A1]) w0 A0:=SB.us O4;have aC:Us (SB bV [A0,A1]) w0 A1:=SB.us O4;refine enter func179 O 30 O O ?_;intro a m;have j:TurnS (SB bV [A0,A1]) w0 w0:=TurnS.refl _ _;refine Q5 fun _ aK=>X0i (fun a w=>Fr a 30 [(0,(pZ9 bV)),(1,vi p),(2,vi q),(3,.bool x),(19,.bool ((spI d.ns p)&&(spI d.ns q)))]/\Bl w0 w) ?_ ?_
 ·have o:=bz w0;refine Zr m<|Zm O<|Ze (X05 O)<|Ze (X07 (l:=(Zc4 d A0 E c0 A1 c1)) O X2 (e.at 0) O)<|Zm O<|Zf (Vc (X88 _ d E G A0 c0 f.rd.top A1 c1 g.rd.top g.cap p hN) X4b) ?_;rintro _ w1 ⟨rfl,u⟩;have ⟨e,f,g⟩:=mv3 u e f g;have j:=tsbel j u;have o:=btr o u;refine Zm O<|Zg 13 O ?_ ?_<;>intro b
  ·refine Zv (gW b) (X5 O) ?_;refine Zv (gW b) (X05 O) ?_;refine Zv (gW b) (X07 (l:=(Zc4 d A0 E c0 A1 c1)) O X2 (e.at 0) O) ?_;refine Zv (gW b) (X5 O) ?_;refine Zk (gW b) (Vc (X88 _ d E G A0 c0 f.rd.top A1 c1 g.rd.top g.cap q hN) X4b) ?_;rintro _ w2 ⟨rfl,u⟩;have j:=tsbel j u;have o:=btr o u;exact Ze (Xc O b O)<|Zn fun a m=>⟨m.sub ⟨O,O,O,O,X1 O (by simp[b]),trivial⟩,o⟩
  (iterate 5 refine Zp (gP b) ?_);exact Ze (Xi O b O)<|Zn fun a m=>⟨m.sub ⟨O,O,O,O,X1 O (by simp[b]),trivial⟩,o⟩
 intro a w3 ⟨m,u⟩;have ⟨e,f,g⟩:=mv3 u e f g;have j:=tsbel j u;refine aK _ _<|Xx m O ?_ ?_<;>intro a6
 ·have a7:=Yao (h:=x) a6;refine Zr m<|Zm O<|Zm O<|Zm O<|Zm O<|Zf (Vc (Y8i _ bV B0 A0 c0 A1 c1 E d ⟨e,f,g,G⟩ (Q0 a8 j.size) p q x aA aH aI aJ) Xxa) ?_;intro _ w4 ⟨A6,c6,y,B,C,i,aL,aD⟩;have k:=SB.lift (S:=SB bV [A0,A1]) (w0:=w0) (.inl (.inl O)) (alc aB (alc aC al0));have B:=Us.trans B k j.size;have j:=tstr j y k;clear k;clear y e;have e:=C;clear C;clear f;have f:=i;clear i;refine Zn fun a m=>X20 m (X2y O) ?_;rw[a7];exact ⟨A6,c6,j,B,⟨e,f,aL,aD⟩⟩
 have aE:=a6;have a7:=Yam (h:=x) aE;refine Zr m<|Zm O<|Zm O<|Zm O<|Zm O<|Zf (Vc (Xjq _ bV B0 A0 c0 A1 c1 E d ⟨e,f,g,G⟩ (Q0 a8 j.size) p q x aA (hab aE) Z) X7l) ?_;intro _ w5 ⟨A7,c7,y,D,C,i,aM,aF⟩;have k:=SB.lift (S:=SB bV [A0,A1]) (w0:=w0) (.inl (.inl O)) (alc aB (alc aC al0));have D:=Us.trans D k j.size;have j:=tstr j y k;clear k;clear y e;have e:=C;clear C;clear f;have f:=i;clear i;refine Zn fun a m=>X20 m (X2y O) ?_;rw[a7];exact ⟨A7,c7,j,D,⟨e,f,aM,aF⟩⟩
theorem Y87(w0:World)(bV B0:Nat)(A0:Option Addr)(c0:Nat)(A1:Option Addr)(c1 H:Nat)(d:Dg)(aN:Dgm w0 bV B0 A0 c0 A1 c1 H d)(aB:B0<=w0.heap.size)(p:Int)(hG:goodD d=true):RE 136 [(pZ9 bV),vi p] w0 (fun v w=>∃ A c,v=.bool (idC d p)/\TurnS (SB bV [A0,A1]) w0 w/\Us (SB bV [A0,A1]) w0 A/\Dgm w bV B0 A0 c0 A c H (if idC d p=true then idD d p else d)):=by
 have ⟨e,f,i,y⟩:=aN;have aY:=e.lt;have aC:Us (SB bV [A0,A1]) w0 A0:=SB.us O4;have aD:Us (SB bV [A0,A1]) w0 A1:=SB.us O4;have L:=X1k hG;have aZ:=L.m;have b0:=L.len;have b1:=X3h d.ws p;refine enter func136 O 66 O O ?_;intro a u;have x:TurnS (SB bV [A0,A1]) w0 w0:=TurnS.refl _ _;refine ZS u fun aO=>Za O<|ZX aO fun a u _ aP=>Q5 fun _ aQ=>X0i (fun a w=>Fr a 66 [(0,(pZ9 bV)),(1,vi p),(31,.bool (((!(spI d.ns p))||(((d.ns.getD p.toNat nZ).p) != 0))||((cnW d.ws p) != 2)))]/\Bl w0 w) ?_ ?_
 ·have B:=bz w0;refine Zr u<|Zm O<|Ze (X05 O)<|Ze (X07 (l:=(Zc4 d A0 H c0 A1 c1)) O X2 (e.at 0) O)<|Zm O<|Zf (Vc (X88 _ d H y A0 c0 f.rd.top A1 c1 i.rd.top i.cap p Z) X4b) ?_;rintro _ w1 ⟨rfl,o⟩;have ⟨e,f,i⟩:=mv3 o e f i;have x:=tsbel x o;have B:=btr B o;refine Ze (X1i O)<|Zm O<|Zg 13 O ?_ ?_<;>intro g
  ·(iterate 9 refine Zp (gP g) ?_);refine Ze (Xc O g O)<|Zm O<|Zp (gP O) ?_;(iterate 5 refine Zp (gP O) ?_);exact Ze (Xc O O O)<|Zn fun a u=>⟨u.sub ⟨O,O,X1 O (by first|rfl|(simp only[g,bs];done)|simp[g]),trivial⟩,B⟩
  have a6:0<=p/\p.toNat<d.ns.length:=by have h9:=X0z (ns:=d.ns) (k:=p) (by simpa using g);exact ⟨h9.1,h9.2.1⟩
  refine Zv (gW g) (X5 O) ?_;refine Zv (gW g) (X05 O) ?_;refine Zv (gW g) (Vd O Xn 1) ?_;refine Zv (gW g) (X0 O X0f (e.at 1)) ?_;refine Zv (gW g) (X5 O) ?_;refine Zv (gW g) (Xm (k:=p.toNat) O O X00 X0o f y Z Z) ?_;refine Zv (gW g) (X1x O X0m (m':=p.toNat*2+1) O) ?_;refine Zv (gW g) (X0 O X8 (X19 f X03 (Xg (d:=nZ) Z) 1 O)) ?_;refine Zv (gW g) (X28 O O)<|Ze (Xi O g O)<|Zm O<|Zg 24 O ?_ ?_<;>intro q
  ·(iterate 6 refine Zp (gP q) ?_);exact Ze (Xc O q O)<|Zn fun a u=>⟨u.sub ⟨O,O,X1 O (by first|rfl|(simp only[g,q,bs];done)|simp[g,q]),trivial⟩,B⟩
  refine Zv (gW q) (X5 O) ?_;refine Zv (gW q) (X05 O) ?_;refine Zv (gW q) (X07 (l:=(Zc4 d A0 H c0 A1 c1)) O X2 (e.at 0) O) ?_;refine Zv (gW q) (X5 O) ?_;refine Zk (gW q) (Vc (Xbj _ d H y A0 c0 f.rd.top A1 c1 i.rd.top i.cap p Z) X67) ?_;rintro _ w2 ⟨rfl,o⟩;have x:=tsbel x o;have B:=btr B o;refine Zv (gW q) (X28 O O) ?_;exact Ze (Xi O q O)<|Zn fun a u=>⟨u.sub ⟨O,O,X1 O (by first|rfl|(simp only[g,q,bs];done)|simp[g,q]),trivial⟩,B⟩
 intro a w3 ⟨u,o⟩;have ⟨e,f,i⟩:=mv3 o e f i;have x:=tsbel x o;refine aQ _ _<|Xx u O ?_ ?_<;>intro a7
 ·have aR:=Yc9 L a7;refine ZS u fun aS=>Za O<|Zt aS fun a u=>Q6<|X9<|X6 u (Xq u O O) ?_;rw[aR,Q3 Bool.false_ne_true];exact ⟨A1,c1,O,x,aD,⟨e,f,i,y⟩⟩
 have ⟨aT,b2,a6⟩:=Y6l L a7;have aE:=Xba L (k:=p) (j:=0) Z;have aF:=Xba L (k:=p) (j:=1) Z;have aG:(id0 d p).ns.length=d.ns.length:=X2e _ _;refine Q7<|aP _ _<|ZS u fun aH=>Zm O<|Ze (X05 O)<|Ze (X07 (l:=(Zc4 d A0 H c0 A1 c1)) O X2 (e.at 0) O)<|Zm O<|Zf (Vc (Xd4 _ d H y A0 c0 f.rd.top A1 c1 i.rd.top i.cap p L.w Z) X7n) ?_;rintro _ w4 ⟨b3,b4,rfl,b,o⟩;have b:=b.lower x.size;have ⟨e,f,i⟩:=mv3 o e f i;have x:=tsbel x o;refine Za O<|ZX aH fun a u _ aI=>Xy none (fun _=>false) mixed ?_;intro w5 o;have ⟨e,f,i,b⟩:=mv4 o e f i b;have x:=tsbel x o;refine Yb u<|YA 0 O O<|YB 1 O O<|Ye 2 O (X07 (l:=(Zc4 d A0 H c0 A1 c1)) O X2 (e.at 0) O)<|YA 3 O O<|YA 4 O O<|Yo 5 O (fun _=>Xm (k:=0) O O Xp X0p b O O Z)<|Ye 6 O (X0 O X8 (X19 b Xj (Xg (k:=0) (d:=(0:Int)) Z) 0 O))<|YA 8 O O<|YB 9 O O<|Ye 10 O (X07 (l:=(Zc4 d A0 H c0 A1 c1)) O X2 (e.at 0) O)<|YA 11 O O<|YA 12 O O<|Yo 13 O (fun _=>Xm (k:=1) O O Xp X0p b O O Z)<|Ye 14 O (X0 O X8 (X19 b Xj (Xg (k:=1) (d:=(0:Int)) Z) 0 O))<|Y1 7<|Yk O tv0 (Vc (X8a _ d H y A0 c0 f.rd.top A1 c1 i.rd.top i.cap p ((nearW d.ws p).getD 0 0) Z) X4d) (fun _ _ ⟨_,o⟩=>o) ?_;rintro _ w6 ⟨rfl,o⟩;have ⟨e,f,i⟩:=mv3 o e f i;have b:=b.bw o;have x:=tsbel x o;refine Y1 15<|Yk O tv0 (Vc (X8a _ d H y A0 c0 f.rd.top A1 c1 i.rd.top i.cap p ((nearW d.ws p).getD 1 0) Z) X4d) (fun _ _ ⟨_,o⟩=>o) ?_;rintro _ w7 ⟨rfl,o⟩;have ⟨e,f,i,b⟩:=mv4 o e f i b;have x:=tsbel x o;refine Yo 16 O (fun _=>X28 O O)<|YD 17 O O<|Yd fun a u=>aI _ _<|ZS u fun aJ=>Zm O<|Zm O<|Zf (Vc (Xd5 _ bV B0 A0 c0 A1 c1 H d ⟨e,f,i,y⟩ (Q0 aB x.size) p a6 Z) X7o) ?_;intro _ w8 ⟨aU,aV,C,D,J,h,I,a8⟩;have b:=b.tu C e O (alc (X1h f O) (alc (X1h i O) al0));have E:=SB.lift (S:=SB bV [A0,A1]) (w0:=w0) (.inl (.inl O)) (alc aC (alc aD al0));have D:=Us.trans D E x.size;have x:=tstr x C E;clear E;clear C e;have e:=J;clear J;clear f;have f:=h;clear h;refine ZX aJ fun a u _ aK=>Xy none (fun j=>[8].contains j) mixed ?_;intro w9 o;have ⟨e,f,b,I⟩:=mv4 o e f b I;have x:=tsbel x o;refine Yb u<|YA 0 O O<|YA 1 O O<|Yo 2 O (fun _=>Xm (k:=0) O O Xp X0p b O O Z)<|Ye 3 O (X0 O X8 (X19 b Xj (Xg (k:=0) (d:=(0:Int)) Z) 0 O))<|YA 4 O O<|Yo 5 O (fun _=>Xm (k:=1) O O Xp X0p b O O Z)<|Ye 6 O (X0 O X8 (X19 b Xj (Xg (k:=1) (d:=(0:Int)) Z) 0 O))<|YA 7 O O<|Y1 8<|Yt O tv0 O (Vc (Xzx _ bV B0 A0 c0 aU aV H (id0 d p) ⟨e,f,I,a8⟩ (Q0 aB x.size) ((nearW d.ws p).getD 0 0) ((nearW d.ws p).getD 1 0) ((tyW d.ws p ((nearW d.ws p).getD 0 0)) != (tyW d.ws p ((nearW d.ws p).getD 1 0))) (List.Pairwise.filter _ L.w.s) (by show (dpW d.ws p).length<=_;omega) ⟨⟨aE.1,by rw[aG];exact aE.2⟩,⟨aF.1,by rw[aG];exact aF.2⟩⟩ (X6k L.p p) Z (Xva hG a6.1 (Xbb Z) (Xbb Z))) Xl5) ?_;intro _ b5 ⟨aW,aX,C,G,J,h,aL,aA⟩;have b:=b.tu C e O (alc (X1h f O) (alc (X1h I O) al0));have E:=SB.lift (S:=SB bV [A0,A1]) (w0:=w0) (.inl (.inl O)) (alc aC (alc D al0));have G:=Us.trans G E x.size
 have x:=tstr x C E;clear E;clear C e;have e:=J;clear J;clear f;have f:=h;clear h;refine Yd fun a u=>aK _ _<|ZS u fun aM=>Za O<|Zt aM fun a u=>Q6 (X6 u (Xq u O O) ?_);rw[aT,Q4 rfl];exact ⟨aW,aX,O,x,G,⟨e,f,aL,aA⟩⟩
def Xxz(l:List Wr)(a b:Int)(h:Bool):jnW l a b h=jnW l b a h:=by unfold jnW;rw[Int.min_comm,Int.max_comm]
def Xmw(d:Dg)(a b:Int):tgD d a b=tgD d b a:=by unfold tgD;rw[Xkf,Xxz]
def NoPl(ws:List Wr)(l:List Int) : Prop:=∀ w ∈ ws,∀ u ∈ l,∀ v ∈ l,isW u v w=true->w.h=true
def NoPl.ty{ws:List Wr}{l:List Int}(h:NoPl ws l){u v:Int}(hu:u ∈ l)(hv:v ∈ l):tyW ws u v≠1:=by
 unfold tyW;split
 ·decide
 ·rename_i h0;have ⟨w,h1,h2,_⟩:=X5x (l:=ws) (a:=u) (b:=v) Z;have h3:=h w (Qe h1) u hu v hv h2;rw[show ws.getD (fdW ws u v).toNat wZ=w from by rw[Qa,h1];rfl,h3];decide
def NoPl.tgI{d:Dg}{l:List Int}(h:NoPl d.ws l){u v:Int}(hu:u ∈ l)(hv:v ∈ l):tgI d u v=tgD d u v:=by
 unfold Go.Proofs.YthbobfjhofgfdaaGreat.tgI;rw[Q3 (h.ty hu hv)]
def NoPl.sub{ws ws':List Wr}{l:List Int}(h:NoPl ws l)(hs:∀ w ∈ ws',w ∈ ws):NoPl ws' l:=fun w hw=>h w (hs w hw)
def NoPl.tg{d:Dg}{l:List Int}(h:NoPl d.ws l)(u v:Int):NoPl (tgD d u v).ws l:=by
 unfold tgD;split
 ·exact h.sub fun w hw=>(X4o _ _).subset hw
 ·intro w hw;rcases X6z.1 hw with rfl|hw
  ·intro _ _ _ _ _;rfl
  ·exact h w hw
def Yc4{d:Dg}(hw:WSd d.ws)(u v:Int):WSd (tgD d u v).ws:=by
 unfold tgD;split
 ·exact Xgg hw _
 ·rename_i h;exact Xdr hw Z
def X9g{d:Dg}(hD:InD d){l:List Int}(h:rdyD d l=true):NoPl d.ws l:=by
 intro w hw u hu v hv hwv;unfold rdyD at h;rw[W1] at h;have key:∀ i j (hi:i<l.length) (hj:j<i),tyW d.ws (l.getD i 0) (l.getD j 0)≠1:=fun i j hi hj=>by
  have h1:=h i (W2.2 hi);unfold rdQ at h1;rw[Qd,W1] at h1;have h2:=h1.2 (l.getD j 0) (by
   have:(l.take i)[j]? = some (l.getD j 0):=by rw[Wg hj];exact Xg Z
   exact Qe this)
  simpa using h2
 have hiw:=X2t.1 hwv;have hab:=hD.w.l w hw;have hne:u≠v:=fun e=>by subst e;rw[hiw.1,hiw.2,Int.min_self,Int.max_self] at hab;omega
 obtain ⟨i,hi,rfl⟩:=List.mem_iff_getElem.1 hu;obtain ⟨j,hj,rfl⟩:=List.mem_iff_getElem.1 hv;have gi:l.getD i 0=l[i]:=by rw[Qa,Qc hi];rfl
 have gj:l.getD j 0=l[j]:=by rw[Qa,Qc hj];rfl
 have hty:tyW d.ws l[i] l[j]≠1:=by
  rcases Nat.lt_trichotomy i j with h9|h9|h9
  ·have:=key j i hj h9;rw[gi,gj,Xbg] at this;exact this
  ·subst h9;exact absurd O hne
  ·have:=key i j hi h9;rw[gi,gj] at this;exact this
 have hfd:0<=fdW d.ws l[i] l[j]:=by
  rcases X54 d.ws l[i] l[j] with ⟨_,h2⟩|⟨k,x,h1,_⟩
  ·rw[h2 w hw] at hwv;cases hwv
  ·omega
 have ⟨x,h1,h2,_⟩:=X5x hfd;have hx:=X2t.1 h2;have e:x=w:=by
  refine Xg3 hD.w.s (Qe h1) hw ?_ ?_
  ·rw[X5p];omega
  ·rw[X5p];omega
 subst e;rw[Xjg hfd,show d.ws.getD (fdW d.ws l[i] l[j]).toNat wZ=x from by rw[Qa,h1];rfl] at hty;cases hh:x.h with
 | true=>rfl
 | false=>rw[hh] at hty;simp at hty
def Y2c(ns:List Nd)(x p:Int):adN ns x (-p)=adN ns x (8-p):=by
 unfold adN;congr 2;omega
def Y0s{L:List Int}{x:Int}(hx:x ∈ L):∀ (r:List Int) (o:Dg),NoPl o.ws L->(∀ y ∈ r,y ∈ L)->r.foldl (fun o y=>tgI o y x) o=tgL o x r/\NoPl (tgL o x r).ws L
 | [],o,h,_=>⟨rfl,h⟩
 | y::r,o,h,hr=>by
  have hy:=hr y O4;have e:tgI o y x=tgD o x y:=by rw[h.tgI hy hx,Xmw]
  have ih:=Y0s hx r (tgD o x y) (h.tg x y) fun z hz=>hr z (by simp[hz]);rw[List.foldl_cons,e];exact ih
def lcI(p:Int)(l:List Int)(o:Dg) : Nat->Dg
 | 0=>o
 | i+1=>(l.take i).foldl (fun o y=>tgI o y (l.getD i 0)) { lcI p l o i with ns:=adN (lcI p l o i).ns (l.getD i 0) (-p) }
def Xrb{p:Int}{l:List Int}{o:Dg}(h:NoPl o.ws l):∀ i,i<=l.length->lcI p l o i=lcS p l o i/\NoPl (lcS p l o i).ws l
 | 0,_=>⟨rfl,h⟩
 | i+1,hi=>by
  have ⟨h1,h2⟩:=Xrb (p:=p) h i Z;have hx:l.getD i 0 ∈ l:=Qe (Xg (d:=0) Z);have h3:=Y0s hx (l.take i) { lcS p l o i with ns:=adN (lcS p l o i).ns (l.getD i 0) (8-p) } h2 fun y hy=>Wd hy;show (l.take i).foldl (fun o y=>tgI o y (l.getD i 0)) { lcI p l o i with ns:=adN (lcI p l o i).ns (l.getD i 0) (-p) }=_/\_;rw[h1,Y2c];exact h3
def Xh1(d:Dg)(a:Int)(l:List Int)(hl:l=nearW d.ws a):(!(l.any fun x=>!(spI d.ns x)||tyW d.ws a x != 2)&&!(prD d l))=(hadD d a&&rdyD d l):=by
 apply Bool.eq_iff_iff.2;unfold hadD rdyD prD;rw[<- hl];simp only[Qd,Bool.not_eq_true',W7,W1,W2];constructor
 ·intro ⟨h1,h2⟩;refine ⟨fun v hv=>?_,fun i hi=>?_⟩
  ·have:=h1 v hv;simp only[Bool.or_eq_true,not_or,Bool.not_eq_true',Bool.not_eq_false] at this;simpa using this.2
  ·have hm:l.getD i 0 ∈ l:=Qe (Xg (d:=0) hi);have h3:=h1 _ hm;simp only[Bool.or_eq_true,not_or,Bool.not_eq_true',Bool.not_eq_false] at h3;have h4:=h2 i hi;unfold prQ at h4;unfold rdQ;rw[Qd,W1];refine ⟨h3.1,fun y hy=>?_⟩;rw[Bool.not_eq_true,W7] at h4;have:=h4 y hy;simpa[bne] using this
 ·intro ⟨h1,h2⟩;refine ⟨fun v hv=>?_,fun i hi=>?_⟩
  ·obtain ⟨i,hi,rfl⟩:=List.mem_iff_getElem.1 hv;have h3:=h2 i hi;unfold rdQ at h3;rw[Qd] at h3;have g:l.getD i 0=l[i]:=by rw[Qa,Qc hi];rfl
   rw[g] at h3;have h4:=h1 _ hv;rw[h3.1];simpa using h4
  ·have h3:=h2 i hi;unfold rdQ at h3;rw[Qd,W1] at h3;unfold prQ;rw[Bool.not_eq_true,W7];intro y hy;have:=h3.2 y hy;simpa[bne] using this
def Y5b{d:Dg}{a:Int}(h:(!(!((nearW d.ws a).any fun x=>!(spI d.ns x)||tyW d.ws a x != 2))||prD d (nearW d.ws a))=true):lcC d a=false:=by
 have e:=Xh1 d a (nearW d.ws a) O;unfold lcC;rw[Bool.and_assoc,<- e];generalize ((nearW d.ws a).any fun x=>!(spI d.ns x)||tyW d.ws a x != 2)=u at h ⊢;generalize prD d (nearW d.ws a)=v at h ⊢;cases u<;>cases v<;>simp at h ⊢
def Xy1{d:Dg}(hD:InD d){a:Int}(h1:spI d.ns a=true/\((d.ns.getD a.toNat nZ).p=2∨(d.ns.getD a.toNat nZ).p=6))(h:(!(!((nearW d.ws a).any fun x=>!(spI d.ns x)||tyW d.ws a x != 2))||prD d (nearW d.ws a))=false):lcC d a=true/\NoPl (id0 d a).ws (nearW d.ws a):=by
 have e:=Xh1 d a (nearW d.ws a) O;have h3:(hadD d a&&rdyD d (nearW d.ws a))=true:=by
  rw[<- e];generalize ((nearW d.ws a).any fun x=>!(spI d.ns x)||tyW d.ws a x != 2)=u at h ⊢;generalize prD d (nearW d.ws a)=v at h ⊢;cases u<;>cases v<;>simp at h ⊢
 rw[Qd] at h3;exact ⟨Xlq h1 (by rw[h3.1,h3.2];rfl),(X9g hD h3.2).sub fun w hw=>(List.mem_filter.1 hw).1⟩
def Xrc{p u:Int}{l:List Int}{o:Dg}{k:Nat}(hu:l[k]? = some u):lcI p l o (k+1)=(l.take k).foldl (fun o y=>tgI o y u) { lcI p l o k with ns:=adN (lcI p l o k).ns u (-p) }:=by grind [adN,lcI,tgI]
def Xfz(d:Dg)(a b:Int):(tgI d a b).ns=d.ns:=by
 unfold tgI;split
 ·rfl
 ·exact (X3m d a b).1
def Xmt(d:Dg)(a b:Int):(tgI d a b).ws.length<=d.ws.length+1:=by
 unfold tgI;split
 ·omega
 ·exact (X3m d a b).2
def Xtq{d:Dg}(h:WSd d.ws)(a b:Int):WSd (tgI d a b).ws:=by
 unfold tgI;split
 ·exact h
 ·exact Yc4 h a b
theorem Y88(w0:World)(bV B0:Nat)(A0:Option Addr)(c0:Nat)(A1:Option Addr)(c1 U:Nat)(d:Dg)(bR:Dgm w0 bV B0 A0 c0 A1 c1 U d)(aM:B0<=w0.heap.size)(p:Int)(hG:goodD d=true):RE 137 [(pZ9 bV),vi p] w0 (fun v w=>∃ A c,v=.bool (lcC d p)/\TurnS (SB bV [A0,A1]) w0 w/\Us (SB bV [A0,A1]) w0 A/\Dgm w bV B0 A0 c0 A c U (if lcC d p=true then outD (lcD d p) else d)):=by
 have ⟨b,f,B,N⟩:=bR;have cS:=b.lt;have aN:Us (SB bV [A0,A1]) w0 A0:=SB.us O4;have aO:Us (SB bV [A0,A1]) w0 A1:=SB.us O4;have hD:=X1k hG;have cW:=hD.m;have cX:=hD.len;have bS:=X3h d.ws p;have cT:=X4t hD p;have cY:=X2j hD.p p.toNat;refine enter func137 O 107 O O ?_;intro a i;have C:TurnS (SB bV [A0,A1]) w0 w0:=TurnS.refl _ _;refine ZS i fun bU=>Za O<|ZX bU fun a i _ bW=>Q5 fun _ bX=>X0i (fun a w=>Fr a 107 [(0,(pZ9 bV)),(1,vi p),(28,.bool ((!(spI d.ns p))||((((d.ns.getD p.toNat nZ).p).tmod 4) != 2)))]/\Bl w0 w) ?_ ?_
 ·have J:=bz w0;refine Zr i<|Zm O<|Ze (X05 O)<|Ze (X07 (l:=(Zc4 d A0 U c0 A1 c1)) O X2 (b.at 0) O)<|Zm O<|Zf (Vc (X88 _ d U N A0 c0 f.rd.top A1 c1 B.rd.top B.cap p Z) X4b) ?_;rintro _ w1 ⟨rfl,D⟩;have b:=b.bw D;have f:=f.bw D;have C:=tsbel C D;have J:=btr J D;refine Ze (X1i O)<|Zm O<|Zg 17 O ?_ ?_<;>intro q
  ·(iterate 10 refine Zp (gP q) ?_);exact Ze (Xc O q O)<|Zn fun a i=>⟨i.sub ⟨O,O,X1 O (by simp[q]),trivial⟩,J⟩
  have aZ:0<=p/\p.toNat<d.ns.length:=by have h9:=X0z (ns:=d.ns) (k:=p) (by simpa using q);exact ⟨h9.1,h9.2.1⟩
  refine Zv (gW q) (X5 O) ?_;refine Zv (gW q) (X05 O) ?_;refine Zv (gW q) (Vd O Xn 1) ?_;refine Zv (gW q) (X0 O X0f (b.at 1)) ?_;refine Zv (gW q) (X5 O) ?_;refine Zv (gW q) (Xm (k:=p.toNat) O O X00 X0o f N Z Z) ?_;refine Zv (gW q) (X1x O X0m (m':=p.toNat*2+1) O) ?_;refine Zv (gW q) (X0 O X8 (X19 f X03 (Xg (d:=nZ) Z) 1 O)) ?_;refine Zv (gW q) (X46 O O O) ?_;refine Zv (gW q) (X28 O O)<|Ze (Xi O q O)<|Zn fun a i=>?_;exact ⟨i.sub ⟨O,O,X1 O (by simp[q]),trivial⟩,J⟩
 intro a w2 ⟨i,D⟩;have ⟨b,f,B⟩:=mv3 D b f B;have C:=tsbel C D;refine bX _ _<|Xx i O ?_ ?_<;>intro a7
 ·have aP:=Xrf hD a7;refine ZS i fun bY=>Za O<|Zt bY fun a i=>Q6<|X9<|X6 i (Xq i O O) ?_;rw[aP,Q3 Bool.false_ne_true];exact ⟨A1,c1,O,C,aO,⟨b,f,B,N⟩⟩
 have aF:=Xlp hD a7;have aZ:0<=p/\p.toNat<d.ns.length:=⟨(X0z aF.1).1,(X0z aF.1).2.1⟩;refine Q7<|bW _ _<|Q5 fun _ bZ=>Xy none (fun _=>false) mixed ?_;intro w3 D;have ⟨b,f,B⟩:=mv3 D b f B;have C:=tsbel C D;refine Yb i<|YA 0 O O<|YB 1 O O<|Ye 2 O (X07 (l:=(Zc4 d A0 U c0 A1 c1)) O X2 (b.at 0) O)<|YA 3 O O<|YA 5 O O<|YB 6 O O<|Yo 7 O (fun _=>Vd O Xn 1)<|Ye 8 O (X0 O X0f (b.at 1))<|YA 9 O O<|Yo 10 O (fun _=>Xm (k:=p.toNat) O O X00 X0o f N Z Z)<|Yo 11 O (fun _=>X1x O X0m (m':=p.toNat*2+1) O)<|Ye 12 O (X0 O X8 (X19 f X03 (Xg (d:=nZ) Z) 1 O))<|Y1 4<|Yk O tv0 (Vc (Xd4 _ d U N A0 c0 f.rd.top A1 c1 B.rd.top B.cap p hD.w Z) X7n) (fun _ _ ⟨H,L,_,g,D⟩=>D) ?_;rintro _ w4 ⟨H,L,rfl,g,D⟩;have g:=g.lower C.size;have ⟨b,f,B⟩:=mv3 D b f B;have C:=tsbel C D;refine YD 13 O O<|YD 14 O O<|Yd fun a i=>bZ _ _<|Q5 fun _ b0=>Q5 fun _ b1=>X0i (fun a w=>Fr a 107 [(0,(pZ9 bV)),(1,vi p),(5,.slice H (nearW d.ws p).length L),(6,vi ((d.ns.getD p.toNat nZ).p)),(55,.bool ((!(!((nearW d.ws p).any fun x=>!(spI d.ns x)||tyW d.ws p x != 2)))||(prD d (nearW d.ws p))))]/\Bl w4 w) ?_ ?_
 ·have J:Bl w4 w4:=Below.refl _ _;refine Zr i<|Zm O<|Ze (X05 O)<|Ze (X07 (l:=(Zc4 d A0 U c0 A1 c1)) O X2 (b.at 0) O)<|Zm O<|Zm O<|Zf (Vc (Xok _ d U N A0 c0 f.rd.top A1 c1 B.rd.top B.cap p H L (nearW d.ws p) g.rd.top Z Z Z) Xf4) ?_;rintro _ w5 ⟨rfl,D⟩;have ⟨b,f,B,g⟩:=mv4 D b f B g;have C:=tsbel C D;have J:=btr J D;refine Ze (X1i O)<|Zm O<|Zg 49 O ?_ ?_<;>intro h
  ·(iterate 5 refine Zp (gP h) ?_);exact Ze (Xc O h O)<|Zn fun a i=>⟨i.sub ⟨O,O,O,O,X1 O (by simp[a7,h]),trivial⟩,J⟩
  refine Zv (gW h) (X5 O) ?_;refine Zv (gW h) (X05 O) ?_;refine Zv (gW h) (X07 (l:=(Zc4 d A0 U c0 A1 c1)) O X2 (b.at 0) O) ?_;refine Zv (gW h) (X5 O) ?_;refine Zk (gW h) (Vc (Xzy _ d U N A0 c0 f.rd.top A1 c1 B.rd.top B.cap H L (nearW d.ws p) g.rd.top Z Z g.cap) Xl6) ?_;rintro _ w6 ⟨rfl,D⟩;have C:=tsbel C D;have J:=btr J D;exact Ze (Xi O h O)<|Zn fun a i=>⟨i.sub ⟨O,O,O,O,X1 O (by simp[a7,h]),trivial⟩,J⟩
 intro a w7 ⟨i,D⟩;have ⟨b,f,B,g⟩:=mv4 D b f B g;have C:=tsbel C D;refine b1 _ _<|Xx i O ?_ ?_<;>intro aG
 ·have aP:lcC d p=false:=Y5b aG;refine ZS i fun b2=>Za O<|Zt b2 fun a i=>Q6<|X9<|X6 i (Xq i O O) ?_;rw[aP,Q3 Bool.false_ne_true];exact ⟨A1,c1,O,C,aO,⟨b,f,B,N⟩⟩
 have ⟨cA,cB⟩:=Xy1 hD aF aG;refine Q7<|b0 _ _<|ZS i fun b3=>Zm O<|Zm O<|Zf (Vc (Xd5 _ bV B0 A0 c0 A1 c1 U d ⟨b,f,B,N⟩ (Q0 aM C.size) p aZ Z) X7o) ?_;intro _ w8 ⟨cC,cD,I,a8,W,G,b4,cE⟩;have g:=g.tu I b O (alc (X1h f O) (alc (X1h B O) al0));have M:=SB.lift (S:=SB bV [A0,A1]) (w0:=w0) (.inl (.inl O)) (alc aN (alc aO al0));have a8:=Us.trans a8 M C.size;have C:=tstr C I M;clear M;clear I b;have b:=W;clear W;clear f;have f:=G;clear G;refine ZX b3 fun a i _ b5=>ZS i fun b6=>Zm O<|Ze (X0w O Xp)<|Zm O<|Zt b6 fun a i=>Q8<|X04 (σ:=Nat×Dg) (fun (s:Nat×Dg) (a:Act) (w:World)=>match s with|(k,o)=>∃ a6 aA,Fr a 107 [(0,(pZ9 bV)),(5,.slice H (nearW d.ws p).length L),(6,vi ((d.ns.getD p.toNat nZ).p)),(59,.slice H (nearW d.ws p).length L),(60,vi ((nearW d.ws p).length:Int)),(61,vi (k:Int))]/\(k<=(nearW d.ws p).length)/\(o=lcI (d.ns.getD p.toNat nZ).p (nearW d.ws p) (id0 d p) k)/\(U=o.ns.length)/\(o.ws.length<=d.ws.length+k*1000)/\(PhN o.ns)/\(WSd o.ws)/\Blk w bV 54 (Zc4 o A0 U c0 a6 aA)/\Own w B0 85 2 encNd A0 c0 o.ns/\Own w w0.heap.size 3 1 encI H L (nearW d.ws p)/\Own w B0 99 3 encWr a6 aA o.ws/\Us (SB bV [A0,A1]) w0 a6/\TurnS (SB bV [A0,A1]) w0 w) (fun (s:Nat×Dg)=>match s with|(k,o)=>(nearW d.ws p).length-k) (0,(id0 d p)) ?_ ?_
 ·exact ⟨cC,cD,i.sb,(Qf _),O,(N.trans (X2e _ _).symm),(Q0 bS Z),(X6k hD.p p),(List.Pairwise.filter _ hD.w.s),b,f,g,b4,a8,C⟩
 intro ⟨k,o⟩ a w9 ⟨a6,aA,i,hk,b7,aQ,cG,aR,cH,b,f,g,E,aK,C⟩;refine ZS i fun b8=>Ze (X16 O O)<|ZX b8 fun a i _ b9=>X0y i O (fun aS aH=>?_) (fun aS aH=>?_)
 ·have ⟨d5,cU⟩:=Xa (l:=(nearW d.ws p)) (k:=k) Z;have ⟨u9,aT⟩:=Xa (l:=(nearW d.ws p)) (k:=k) (by have:=aH;omega);have cI:=X9f hD aT;have d6:=X2j aR u9.toNat;refine Q7<|b9 _ _<|Q5 fun _ bC=>Q8<|ZS i fun bD=>Zm O<|Ze (Xm (k:=k) O O Xp X0p g O O Z)<|Ze (X0 O X8 (X19 g Xj aT 0 O))<|Za O<|Za O<|Zx bD fun a i _ bE=>Zm O<|Zm O<|Zm O<|Ze (Vx (Xn4 O) (IntWalk.i64_in _ ⟨by omega,by omega⟩))<|Zf (Vc (Xg5 _ bV B0 A0 c0 a6 aA U o ⟨b,f,E,aQ⟩ (Q0 aM C.size) u9 (-(d.ns.getD p.toNat nZ).p) ⟨cI.1,by omega⟩ aR ⟨by omega,by omega⟩) X97) ?_;intro _ cJ ⟨cK,cL,I,aB,W,G,bF,cM⟩;have g:=g.tu I b O (alc (X1h f O) (alc (X1h E O) al0));have M:=SB.lift (S:=SB bV [A0,A1]) (w0:=w0) (.inl (.inl O)) (alc aN (alc aK al0));have aB:=Us.trans aB M C.size;have C:=tstr C I M;clear M;clear I b;have b:=W;clear W;clear f;have f:=G;clear G;refine Zx bE fun a i _ bG=>Zm O<|Zm O ?_;have Q:=(g.rd.top).takeK Xj k;refine Ze (X3p (l:=(nearW d.ws p)) (k:=k) O O Xp X0p O hk g.cap)<|Ze (X0w O Xp)<|Zm O<|Zt bG fun a i=>Q8<|X04 (σ:=Nat×Dg) (fun (s:Nat×Dg) (a:Act) (w:World)=>match s with|(j,z)=>∃ aE aI,Fr a 107 [(0,(pZ9 bV)),(5,.slice H (nearW d.ws p).length L),(6,vi ((d.ns.getD p.toNat nZ).p)),(8,vi u9),(59,.slice H (nearW d.ws p).length L),(60,vi ((nearW d.ws p).length:Int)),(61,vi (k:Int)),(73,.slice H ((nearW d.ws p).take k).length L),(74,vi (((nearW d.ws p).take k).length:Int)),(75,vi (j:Int))]/\(j<=((nearW d.ws p).take k).length)/\(z=(((nearW d.ws p).take k).take j).foldl (fun o y=>tgI o y u9) ({ o with ns:=adN o.ns u9 (-(d.ns.getD p.toNat nZ).p) } : Dg))/\(U=z.ns.length)/\(z.ws.length<=o.ws.length+j)/\(PhN z.ns)/\(WSd z.ws)/\Blk w bV 54 (Zc4 z A0 U c0 aE aI)/\Own w B0 85 2 encNd A0 c0 z.ns/\Own w w0.heap.size 3 1 encI H L (nearW d.ws p)/\Rd w cJ.heap.size 3 encI H ((nearW d.ws p).take k)/\Own w B0 99 3 encWr aE aI z.ws/\Us (SB bV [A0,A1]) w0 aE/\TurnS (SB bV [A0,A1]) w0 w) (fun (s:Nat×Dg)=>match s with|(j,z)=>((nearW d.ws p).take k).length-j) (0,({ o with ns:=adN o.ns u9 (-(d.ns.getD p.toNat nZ).p) } : Dg)) ?_ ?_
  ·exact ⟨cK,cL,i.sb,(Qf _),O,(aQ.trans (X2v _ _ _).symm),(Qb _),(X8j aR _ _),cH,b,f,g,Q,bF,aB,C⟩
  intro ⟨j,z⟩ a d7 ⟨aE,aI,i,hj,hz,aU,cN,bH,aV,b,f,g,Q,aD,aL,C⟩;refine ZS i fun bI=>Ze (X16 O O)<|ZX bI fun a i _ bJ=>X0y i O (fun aW aJ=>?_) (fun aW aJ=>?_)
  ·have ⟨d8,cV⟩:=Xa (l:=((nearW d.ws p).take k)) (k:=j) Z;have ⟨v9,aX⟩:=Xa (l:=(nearW d.ws p).take k) (k:=j) (by have:=aJ;omega);have d9:j<k:=by have:=(Qg.1 aX).1;rw[Qn] at this;omega
   refine Q7<|bJ _ _<|Q5 fun _ bK=>Q8<|ZS i fun bL=>Zi (k:=j) (u:=v9) (enc:=encI) (l:=((nearW d.ws p).take k)) tv0 O O Xp X0p Xj Q aX O ?_;intro dA aY;refine Ze (X0 O X8 aY)<|Za O<|Zt bL fun a i=>Zr i<|Zm O<|Zm O<|Zm O<|Zf (Vc (Xzl _ bV B0 A0 c0 aE aI U z ⟨b,f,aD,aU⟩ (Q0 aM C.size) v9 u9 aV (by have:=cN;have:=cG;rw[Qn] at hj;omega)) Xkt) ?_;rintro _ dB ⟨cO,cP,rfl,I,aC,W,G,bM,cQ⟩;have g:=g.tu I b O (alc (X1h f O) (alc (X1h aD O) al0));have Q:=Q.tu I b O (alc (X1h f O) (alc (X1h aD O) al0));have M:=SB.lift (S:=SB bV [A0,A1]) (w0:=w0) (.inl (.inl O)) (alc aN (alc aL al0));have aC:=Us.trans aC M C.size;have C:=tstr C I M;clear M;clear I b;have b:=W;clear W;clear f;have f:=G;clear G;exact Zn fun a i=>Xd<|bK _ _<|Zr i<|Ze (Xr O O Z Z)<|Zm O<|Zn fun a i=>Xh<|⟨(j+1,(tgI z v9 u9)),⟨cO,cP,i.sb,Z,(by rw[X3c aX,<- hz]),(by rw[Xfz];exact aU),(by have:=Xmt z v9 u9;omega),(by rw[Xfz];exact bH),(Xtq aV v9 u9),b,f,g,Q,bM,aC,C⟩,O1⟩
  have dC:j<=k:=by rw[Qn] at hj;omega
  have cR:z=lcI (d.ns.getD p.toNat nZ).p (nearW d.ws p) (id0 d p) (k+1):=by rw[hz,Qi (by have:=aJ;omega),b7,Xrc aT]
  exact Q9<|Xk<|Xk<|X06<|Xd<|bC _ _<|Zr i<|Ze (Xr O O Z Z)<|Zm O<|Zn fun a i=>Xh<|⟨(k+1,z),⟨aE,aI,i.sb,Z,cR,aU,Z,bH,aV,b,f,g,aD,aL,C⟩,O1⟩
 have bN:o=lcS (d.ns.getD p.toNat nZ).p (nearW d.ws p) (id0 d p) (nearW d.ws p).length:=by rw[b7,show k=(nearW d.ws p).length by have:=aH;omega];exact (Xrb cB _ (Qb _)).1
 refine Q9<|Xk<|Xk<|X06<|b5 _ _<|Q5 fun _ bO=>Xy none (fun j=>[12].contains j) mixed ?_;intro dD D;have ⟨b,f,E⟩:=mv3 D b f E;have C:=tsbel C D;refine Yb i<|YA 0 O O<|YA 1 O O<|YB 2 O O<|Yo 3 O (fun _=>Vd O X1o 3)<|Ye 4 O (X0 O X8 (b.at 3))<|Yo 5 O (fun _=>X0k (ps:=[(2,vi 1),(6,vi 7)]) (cs:=[vi 0,vi 0,vi 1,vi 0,vi 0,vi 0,vi 7]) O (fun _=>by first|rfl|kernel_rfl))<|YA 6 O O<|Yo 7 O (fun _=>Y8v (k:=(d.ns.getD p.toNat nZ).p.toNat) (vs:=[vi 0,vi 0,vi 1,vi 0,vi 0,vi 0,vi 7]) (v:=vi (if (d.ns.getD p.toNat nZ).p=2 then 1 else 7)) O O underlying198 X0p X8 Z (by rcases aF.2 with e|e<;>rw[e]<;>decide) (by rcases aF.2 with e|e<;>rw[e]<;>rfl))<|Yo 8 O (fun _=>X3b O O)<|Yo 9 O (fun _=>X46 O O O)<|YB 10 O O<|Yo 11 O (fun _=>Vd O X1o 3)<|Y1 12<|Yh O tv0 O (X1r (vs:=[vi ((wr (o.t+(if (d.ns.getD p.toNat nZ).p=2 then 1 else 7))).tmod 8)]) (l':=[vi o.n,.slice A0 U c0,.slice a6 o.ws.length aA,vi ((wr (o.t+(if (d.ns.getD p.toNat nZ).p=2 then 1 else 7))).tmod 8),vi o.r]) O O X0p b O O O O O) ?_;intro _ dE ⟨ho,hb⟩;have f:=f.oT ho b O;have E:=E.oT ho b O;have C:=tsonly C ho (.inl (.inl O));have b:=hb;refine Yd fun a i=>bO _ _<|ZS i fun bP=>Zm O<|Ze (X05 O)<|Ze (Vd O X0h 4)<|Ze (X0 O X8 (b.at 4))<|Zm O<|Ze (X0w O Xp)<|Ze (X1j O O Z Z)<|Ze (X3b O O)<|Ze (X05 O)<|Ze (Vd O X0h 4)<|Zo (X1r (vs:=[vi (wr (o.r+(1-((nearW d.ws p).length:Int))))]) (l':=[vi o.n,.slice A0 U c0,.slice a6 o.ws.length aA,vi ((wr (o.t+(if (d.ns.getD p.toNat nZ).p=2 then 1 else 7))).tmod 8),vi (wr (o.r+(1-((nearW d.ws p).length:Int))))]) O O X0p b O O O O O) ?_;intro _ dF ⟨ho,hb⟩;have f:=f.oT ho b O;have E:=E.oT ho b O;have C:=tsonly C ho (.inl (.inl O));have b:=hb;refine Zx bP fun a i _ bQ=>Za O<|Zt bQ fun a i=>Q6 (X6 i (Xq i O O) ?_);rw[cA,Q4 O,Xre bN];exact ⟨a6,aA,O,C,aK,⟨b,f,E,aQ⟩⟩
def Y8l(w0:World)(x k:Int)(ba:Nat)(a6:Blk w0 ba 3 [vi k]):RE 204 [vi x,(pZ9 ba)] w0 (fun v w=>v=.bool (x==k)/\Bl w0 w):=by
 have a7:=a6.lt;refine enter func204 O 7 O O ?_;intro a hf;have hW:=bz w0;refine ZS hf fun a8=>Za O<|Zx a8 fun a hf _ aA=>Zm O<|Ze (X0 O X8 (a6.at 0))<|Ze (X0l O O)<|Za O<|Zt aA fun a hf=>Q6 (X6 hf (Xq hf O O) ?_);exact ⟨O,hW⟩
def Xzz(g:World)(Al:Option Addr)(cl:Nat)(l:List Int)(a6:Rw g 3 encI Al l)(k:Int)(a7:l.length<=1000000000):RE 183 [.slice Al l.length cl,vi k] g (fun v w=>∃ A c,v=.slice A (l.filter fun v=>v != k).length c/\Own w g.heap.size 3 1 encI A c (l.filter fun v=>v != k)/\Bl g w):=by
 refine enter func183 O 9 O O ?_;intro a hf;have d:=bz g;refine ZS hf fun a8=>Zf (X0n (zs:=[vi k]) O O) ?_;rintro _ w1 ⟨b3,rfl,aA,hE,e⟩;have aD:=Q0 d.size aA;have d:=btr d hE;refine Za O<|Zx a8 fun a hf _ aB=>Zm O<|Zf (Vc (Ycr _ Al cl l (a6.bx d).top a7) Y3x) ?_;rintro _ w2 ⟨A6,c6,rfl,b,hE⟩;have f:=b.awayNew e.lt;have b:=b.lower d.size;have e:=e.bw hE;have d:=btr d hE;refine Ze (X4w (vs:=[(pZ9 b3)]) O)<|Zf (Vc (Y8k _ A6 c6 g.heap.size l b d.size 204 [(pZ9 b3)] Xxd (fun v=>v==k) (fun x w' aC=>Y8l w' x k _ (e.appA aC f)) a7) Xxc) ?_;rintro _ w3 ⟨rfl,i,hg⟩;have j:=b;have d:=Below.app d j hg (Qb _) d.size;clear j hg;clear b;have b:=i;clear i;refine Za O<|Zt aB fun a hf=>Q6 (X6 hf (Xq hf O O) ?_);exact ⟨A6,c6,O,b,d⟩
def Off(w:World)(b:Nat)(l:List (Option Addr))(A:Option Addr) : Prop:=∀ k,ownB A=some k->k<w.heap.size/\¬ SB b l k
section
variable {α : Type} {w w' : World} {b B : Nat} {l l' : List (Option Addr)} {A : Option Addr} {E : TypeId} {sz c : Nat} {enc : α -> List Value} {r : List α}
theorem Xcf(h:Own w B E sz enc A c r){k:Nat}(hk:ownB A=some k):k<w.heap.size:=by
 have ⟨_,_,_,_,h3⟩:=h.block (k:=k) (by rw[X6h];exact hk);exact (Qp.1 h3).1
theorem Off.mono(h:Off w b l A)(hs:w.heap.size<=w'.heap.size):Off w' b l A:=fun k hk=>⟨Nat.lt_of_lt_of_le (h k hk).1 hs,(h k hk).2⟩
theorem Off.new{B':Nat}(h:Own w' B' E sz enc A c r)(hB:w.heap.size<=B')(hb:b<w.heap.size)(hl:∀ A' ∈ l,∀ k,ownB A'=some k->k<w.heap.size):Off w' b l A:=fun k hk=>⟨Xcf h hk,fun hs=>by
 have h9:=X2w h hk;rcases hs with rfl|⟨A',h1,h2⟩
 ·omega
 ·have:=hl A' h1 k h2;omega⟩
theorem Own.off(h:Own w B E sz enc A c r)(hts:TurnS (SB b l) w w')(ho:Off w b l A):Own w' B E sz enc A c r:=by
 refine ⟨h.1,?_⟩;rcases h.2 with h2|⟨g,cap,cur,e1,e2,e3,e4⟩
 ·exact .inl h2
 ·refine .inr ⟨g,cap,cur,e1,e2,?_,e4⟩;have hA:ownB A=some g:=by injection e1 with e1;subst e1;rfl
  have:=ho g hA;rw[hts.block g this.1 this.2];exact e3
theorem Rd.off(h:Rd w B E enc A r)(hts:TurnS (SB b l) w w')(ho:Off w b l A):Rd w' B E enc A r:=fun hl=>by
 have ⟨g,off,cs,fz,e1,e2,e3,e4⟩:=h hl;refine ⟨g,off,cs,fz,e1,e2,?_,e4⟩;subst e1;have:=ho g O;rw[hts.block g this.1 this.2];exact e3
theorem Off.tu(ho:Off w b l A)(hts:TurnS (SB b l) w w')(hl:∀ A' ∈ l',Us (SB b l) w A'):Off w' b l' A:=fun k hk=>⟨Nat.lt_of_lt_of_le (ho k hk).1 hts.size,fun hs=>by
 rcases hs with rfl|⟨A',h1,h2⟩
 ·exact (ho _ hk).2 (.inl O)
 ·rcases hl A' h1 k h2 with h3|h3
  ·exact (ho k hk).2 h3
  ·have:=(ho k hk).1;omega⟩
end
def Blk.tuN{w w':World}{b b2:Nat}{l:List (Option Addr)}{T2:TypeId}{cs:List Value}(h:Blk w b2 T2 cs)(hts:TurnS (SB b l) w w')(hne:b2≠b)(hr:∀ A ∈ l,ownB A≠some b2):Blk w' b2 T2 cs:=by
 refine (hts.block b2 h.lt fun hk=>?_).trans h;rcases hk with e|⟨A,hA,hk⟩
 ·exact hne e
 ·exact hr A hA hk
def Yan(o:Dg)(a v:Int)(h:Bool)(u:Int):spI (mtD o a v h).ns u=spI o.ns u:=by
 unfold mtD lkD;split
 ·split
  ·rfl
  ·split
   ·rfl
   ·split
    ·exact Xe7 _ _ _
    ·rfl
 ·rfl
def Yap{o:Dg}{a v:Int}{h:Bool}{w:Wr}(hw:w ∈ (mtD o a v h).ws):w ∈ o.ws∨(w.a=min a v/\w.b=max a v):=by
 unfold mtD lkD at hw;split at hw
 ·split at hw
  ·rcases X6z.1 hw with rfl|hw
   ·exact .inr ⟨O,O⟩
   ·exact .inl hw
  ·split at hw
   ·exact .inl ((X4o _ _).subset hw)
   ·split at hw
    ·rcases X6z.1 hw with rfl|hw
     ·exact .inr ⟨O,O⟩
     ·exact .inl ((X4o _ _).subset hw)
    ·exact .inl hw
 ·rcases X6z.1 hw with rfl|hw
  ·exact .inr ⟨O,O⟩
  ·exact .inl hw
def Ye5{o:Dg}{a v:Int}{h:Bool}(hs:WSd o.ws)(hab:(spI o.ns a&&spI o.ns v)=false->fdW o.ws a v<0):WSd (mtD o a v h).ws:=by
 unfold mtD lkD;split
 ·split
  ·rename_i h1;exact Xdr hs h1
  ·rename_i h1;have ⟨w,h2,h3,_⟩:=X5x (l:=o.ws) (a:=a) (b:=v) Z;split
   ·exact Xgg hs _
   ·split
    ·exact Xdr (Xgg hs _) (by rw[Xka hs h2 h3];omega)
    ·exact hs
 ·rename_i h1;exact Xdr hs (hab (by simpa using h1))
structure FuI (d:Dg) (a b:Int) (k:Nat) (o:Dg) : Prop where
 s:WSd o.ws
 p:PhN o.ns
 l:o.ns.length=d.ns.length
 c:o.ws.length<=d.ws.length+k
 sp:∀ v,spI o.ns v=spI (dpN d.ns b) v
 bd:∀ j v,k<=j->(nearW d.ws b)[j]? = some v->spI d.ns v=false->∀ w ∈ o.ws,w.a≠v/\w.b≠v
def Xc4{d:Dg}{a b:Int}(h:fuC d a b=true):spI d.ns a=true/\spI d.ns b=true/\a<b:=by grind [fuC,spI]
def FuI.init{d:Dg}(hG:goodD d=true){a b:Int}:FuI d a b 0 (fu0 d a b):=by
 have hD:=X1k hG;refine ⟨List.Pairwise.filter _ hD.w.s,Xqb hD a b,(X9b d a b).1,(X9b d a b).2,fun v=>Xe7 _ _ _,fun j v _ hv hs=>?_⟩;exact Xi3 hG (Qe hv) hs
def FuI.hab{d o:Dg}{a b v:Int}{k:Nat}(h:FuI d a b k o)(hD:InD d)(hc:fuC d a b=true)(hv:(nearW d.ws b)[k]? = some v)(hs:(spI o.ns a&&spI o.ns v)=false):fdW o.ws a v<0:=by
 have h1:=Xc4 hc;have h2:=Xc5 hc;have hvm:=Qe hv;have hvr:=X2p hD hvm;rw[h.sp,h.sp,X5i h2.1.1 h2.2.1 Z,X5i hvr.1 h2.2.1 (X4f hD hvm),h1.1,Qw] at hs;exact Xes (.inr (h.bd k v (Qb _) hv hs))
def Y52{l:List Int}(h:Inc l){i j:Nat}{x y:Int}(hi:l[i]? = some x)(hj:l[j]? = some y)(hij:i<j):x<y:=by
 obtain ⟨h1,rfl⟩:=Qg.1 hi;obtain ⟨h2,rfl⟩:=Qg.1 hj;exact W0.1 h i j h1 h2 hij
def FuI.step{d o:Dg}{a b v:Int}{k:Nat}{x:Bool}(h:FuI d a b k o)(hD:InD d)(hc:fuC d a b=true)(hv:(nearW d.ws b)[k]? = some v):FuI d a b (k+1) (mtD o a v x):=by
 have hl:=X8t o a v x;refine ⟨Ye5 h.s (h.hab hD hc hv),Xrk h.p _ _ _,hl.1.trans h.l,by have:=h.c;omega,fun u=>(Yan o a v x u).trans (h.sp u),fun j u hj hu hs w hw=>?_⟩;rcases Yap hw with hw|⟨e1,e2⟩
 ·exact h.bd j u Z hu hs w hw
 ·have hlt:=Y52 (X3z (k:=b) hD.w) hv hu Z;have hua:u≠a:=fun e=>by rw[e,(Xc4 hc).1] at hs;cases hs
  omega
def FuI.skip{d o:Dg}{a b:Int}{k:Nat}(h:FuI d a b k o):FuI d a b (k+1) o:=⟨h.s,h.p,h.l,by have:=h.c;omega,h.sp,fun j u hj=>h.bd j u Z⟩
def Xs4{d:Dg}(h:0<=d.t/\d.t<=7):outD d=d:=by
 unfold outD;rw[Int.tmod_eq_emod_of_nonneg h.1,Int.emod_eq_of_lt h.1 Z]
def Y1c(o:Dg)(a v:Int)(h:Bool):(mtD o a v h).t=o.t:=by
 unfold mtD lkD;split
 ·split
  ·rfl
  ·split
   ·rfl
   ·split<;>rfl
 ·rfl
def Y0v{d:Dg}{a b:Int}:∀ (l:List Int) (o:Dg),(fuS d a b l o).t=o.t
 | [],_=>rfl
 | v::l,o=>by
  show (fuS d a b l (fuT d a b o v)).t=o.t;rw[Y0v l];unfold fuT;split
  ·rfl
  ·exact Y1c _ _ _ _
def Y4f{d:Dg}{a b:Int}(h:(decide (a<0)||decide (b<=a)||!(spI d.ns a)||!(spI d.ns b)||tyW d.ws a b != 1)=true):fuC d a b=false:=by
 cases hc:fuC d a b with
 | false=>rfl
 | true=>
  have h1:=Xc4 hc;have h2:=Xc5 hc;unfold fuC at hc;simp only[Qd,beq_iff_eq] at hc;simp[h1.1,h1.2.1,hc.2] at h;omega
def Xxk{d:Dg}{a b:Int}(h:(decide (a<0)||decide (b<=a)||!(spI d.ns a)||!(spI d.ns b)||tyW d.ws a b != 1)=false):fuC d a b=true:=by grind [fuC,spI,tyW]
def X9i{d:Dg}(h:InD d)(a b:Int):Inc (othW d.ws a b):=List.Pairwise.filter _ (X3z h.w)
def Y65{d:Dg}(h:InD d)(a b:Int):unionI (othW d.ws a b) (othW d.ws b a)=pvL d a b:=
 Xb8 _ _ (Xo5 _ _) (X9k _ _ (X9i h a b)) fun x=>by
  rw[Xo6];exact (X60 _ _ _).symm
def Xjy{ns:List Nd}{x f e:Int}(hx:x.toNat<ns.length):adN (adN ns x f) x e=adN ns x (f+e):=by
 have h:(adN ns x f).getD x.toNat nZ=⟨(ns.getD x.toNat nZ).k,((ns.getD x.toNat nZ).p+f) % 8⟩:=by
  unfold adN;rw[Qa,List.getElem?_set_self hx];rfl
 unfold adN at h ⊢;rw[h,List.set_set];congr 2;dsimp only;omega
def Y90{ns:List Nd}(hp:PhN ns){x m:Int}(hm:m % 8=0):adN ns x m=ns:=by
 by_cases hx:x.toNat<ns.length
 ·have h:=X2j hp x.toNat
  unfold adN;rw[show ((ns.getD x.toNat nZ).p+m) % 8=(ns.getD x.toNat nZ).p by omega];apply List.ext_getElem?;intro i;rw[List.getElem?_set];split
  ·rename_i h1;subst h1;rw[Qa,Qc hx];simp
  ·rfl
 ·unfold adN;rw[List.set_eq_of_length_le Z]
def Xeg{ns:List Nd}{x m m':Int}(h:m % 8=m' % 8):adN ns x m=adN ns x m':=by
 unfold adN;congr 2;omega
def Xao(l:List Int)(x:Int):(l.any fun y=>x==y)=l.any fun v=>v==x:=by congr 1;funext y;exact Bool.beq_comm
def pvG(e f:Int)(p q:Bool) : Int:=(f*(if p=true then 1 else 0)+e*(if q=true then 1 else 0)+4*(if (p&&q)=true then 1 else 0)).tmod 8
def Y64{e f:Int}(he:e=0∨e=4)(hf:f=0∨f=4)(p q:Bool):0<=pvG e f p q/\pvG e f p q<=7/\(0<=f*(if p=true then 1 else 0)/\f*(if p=true then 1 else 0)<=4)/\(0<=e*(if q=true then 1 else 0)/\e*(if q=true then 1 else 0)<=4)/\(0<=4*(if (p&&q)=true then 1 else 0:Int)/\4*(if (p&&q)=true then 1 else 0:Int)<=4):=by grind [pvG]
def Xtj(c:Bool)(o:Dg)(x m:Int):stN c o x m = { o with ns:=if c=true then adN o.ns x m else o.ns }:=by
 unfold stN;split<;>rfl
def Y63{e f:Int}{l m:List Int}{x:Int}{o:Dg}(hp:PhN o.ns)(hx:x.toNat<o.ns.length)(he:e=0∨e=4)(hf:f=0∨f=4):pv3 e f l m x o = { o with ns:=adN o.ns x (pvG e f (l.any fun v=>v==x) (m.any fun v=>v==x)) }:=by
 unfold pv3;generalize (l.any fun v=>v==x)=p;generalize (m.any fun v=>v==x)=q;rw[Xtj,Xtj,Xtj];dsimp only;congr 1;cases p<;>cases q<;>simp only[Bool.and_true,Bool.and_false,Qw,if_true,Bool.false_eq_true,if_false]
 ·rcases he with rfl|rfl<;>rcases hf with rfl|rfl<;>exact (Y90 hp O5).symm
 ·rcases he with rfl|rfl<;>rcases hf with rfl|rfl<;>exact Xeg O5
 ·rcases he with rfl|rfl<;>rcases hf with rfl|rfl<;>exact Xeg O5
 ·rw[Xjy (by rw[X2v];exact hx),Xjy hx];rcases he with rfl|rfl<;>rcases hf with rfl|rfl<;>exact Xeg O5
def pvJ(l m:List Int)(x:Int)(o:Dg)(y:Int) : Dg:=if (((l.any fun v=>v==x)&&(m.any fun v=>v==y)) != ((m.any fun v=>v==x)&&(l.any fun v=>v==y)))=true then tgI o y x else o
def Ybd{l m:List Int}{x y:Int}{o:Dg}(h:(((l.any fun v=>v==x)&&(m.any fun v=>v==y)) != ((m.any fun v=>v==x)&&(l.any fun v=>v==y)))=true):pvJ l m x o y=tgI o y x:=Q4 h
def Ybc{l m:List Int}{x y:Int}{o:Dg}(h:(((l.any fun v=>v==x)&&(m.any fun v=>v==y)) != ((m.any fun v=>v==x)&&(l.any fun v=>v==y)))=false):pvJ l m x o y=o:=by grind [pvJ]
def pvI(e f:Int)(l m r:List Int)(o:Dg) : Nat->Dg
 | 0=>o
 | i+1=>(r.take i).foldl (pvJ l m (r.getD i 0)) { pvI e f l m r o i with ns:=adN (pvI e f l m r o i).ns (r.getD i 0) (pvG e f (l.any fun v=>v==r.getD i 0) (m.any fun v=>v==r.getD i 0)) }
def Xhb{e f u:Int}{l m r:List Int}{o:Dg}{k:Nat}(hu:r[k]? = some u):pvI e f l m r o (k+1)=(r.take k).foldl (pvJ l m u) { pvI e f l m r o k with ns:=adN (pvI e f l m r o k).ns u (pvG e f (l.any fun v=>v==u) (m.any fun v=>v==u)) }:=by grind [adN,pvG,pvI,pvJ]
def Y0t{L l m:List Int}{x:Int}(hx:x ∈ L):∀ (r:List Int) (o:Dg),NoPl o.ws L->(∀ y ∈ r,y ∈ L)->r.foldl (pvJ l m x) o=pvF l m x r o/\NoPl (pvF l m x r o).ws L/\(pvF l m x r o).ns=o.ns/\(pvF l m x r o).t=o.t
 | [],o,h,_=>⟨rfl,h,rfl,rfl⟩
 | y::r,o,h,hr=>by
  have hy:=hr y O4;have key:pvJ l m x o y=pvT l m x o y/\NoPl (pvT l m x o y).ws L/\(pvT l m x o y).ns=o.ns/\(pvT l m x o y).t=o.t:=by
   unfold pvJ pvT;split
   ·rw[h.tgI hy hx,Xmw];exact ⟨O,h.tg x y,(X3m o x y).1,by unfold tgD;split<;>rfl⟩
   ·exact ⟨O,h,O,O⟩
  have ih:=Y0t (l:=l) (m:=m) hx r (pvT l m x o y) key.2.1 fun z hz=>hr z (by simp[hz]);rw[List.foldl_cons,key.1];exact ⟨ih.1,ih.2.1,ih.2.2.1.trans key.2.2.1,ih.2.2.2.trans key.2.2.2⟩
def Xsg{e f:Int}{l m r:List Int}{o:Dg}(h:NoPl o.ws r)(hp:PhN o.ns)(hr:∀ v ∈ r,v.toNat<o.ns.length)(he:e=0∨e=4)(hf:f=0∨f=4):∀ i,i<=r.length->pvI e f l m r o i=pvM e f l m r o i/\NoPl (pvM e f l m r o i).ws r/\PhN (pvM e f l m r o i).ns/\(pvM e f l m r o i).ns.length=o.ns.length/\(pvM e f l m r o i).t=o.t
 | 0,_=>⟨rfl,h,hp,rfl,rfl⟩
 | i+1,hi=>by
  have ⟨h1,h2,h3,h4,h5⟩:=Xsg (l:=l) (m:=m) h hp hr he hf i Z;have hu:r[i]? = some (r.getD i 0):=Xg (d:=0) Z;have hx:r.getD i 0 ∈ r:=Qe hu;have h6:=Y63 (l:=l) (m:=m) (x:=r.getD i 0) h3 (by rw[h4];exact hr _ hx) he hf;have h7:=Y0t (l:=l) (m:=m) hx (r.take i) (pv3 e f l m (r.getD i 0) (pvM e f l m r o i)) (by rw[h6];exact h2) fun y hy=>Wd hy;rw[Xhb hu,Xhc hu,h1,<- h6];refine ⟨h7.1,h7.2.1,?_,?_,?_⟩
  ·rw[h7.2.2.1,h6];exact X8j h3 _ _
  ·rw[h7.2.2.1,h6];exact (X2v _ _ _).trans h4
  ·rw[h7.2.2.2,h6];exact h5
def X61(d:Dg)(l:List Int):rdyD d l=true↔(∀ v ∈ l,spI d.ns v=true)/\prD d l=false:=by
 unfold rdyD prD;rw[W1,W7];constructor
 ·intro h;refine ⟨fun v hv=>?_,fun i hi=>?_⟩
  ·obtain ⟨i,hi,rfl⟩:=List.mem_iff_getElem.1 hv;have h3:=h i (W2.2 hi);unfold rdQ at h3;rw[Qd] at h3;have g:l.getD i 0=l[i]:=by rw[Qa,Qc hi];rfl
   rw[g] at h3;exact h3.1
  ·have h3:=h i hi;unfold rdQ at h3;rw[Qd,W1] at h3;unfold prQ;rw[Bool.not_eq_true,W7];intro y hy;have:=h3.2 y hy;simpa[bne] using this
 ·intro ⟨h1,h2⟩ i hi;have hm:l.getD i 0 ∈ l:=Qe (Xg (d:=0) (W2.1 hi));have h4:=h2 i hi;unfold prQ at h4;unfold rdQ;rw[Qd,W1];refine ⟨h1 _ hm,fun y hy=>?_⟩;rw[Bool.not_eq_true,W7] at h4;have:=h4 y hy;simpa[bne] using this
def Xb7{d:Dg}{a:Int}:hadD d a=true↔∀ v ∈ nearW d.ws a,tyW d.ws a v=2:=by grind [hadD,nearW,tyW]
def Xuz{d:Dg}{a:Int}{l:List Int}:(l.any fun x=>!(spI d.ns x)||tyW d.ws a x != 2)=false↔(∀ v ∈ l,spI d.ns v=true)/\∀ v ∈ l,tyW d.ws a v=2:=by grind
def Xhd(d:Dg)(a b:Int)(h:tyW d.ws a b=2):(!((othW d.ws a b).any fun x=>!(spI d.ns x)||tyW d.ws a x != 2)&&!((othW d.ws b a).any fun x=>!(spI d.ns x)||tyW d.ws b x != 2)&&!(prD d (pvL d a b)))=(hadD d a&&hadD d b&&rdyD d (pvL d a b)):=by
 have hm:∀ v,v ∈ pvL d a b↔v ∈ othW d.ws a b∨v ∈ othW d.ws b a:=fun v=>X60 _ _ _;have ho:∀ x c v,v ∈ othW d.ws x c↔v ∈ nearW d.ws x/\v≠c:=fun x c v=>by unfold othW;rw[List.mem_filter];simp
 apply Bool.eq_iff_iff.2;simp only[Qd,Bool.not_eq_true',Xuz,X61,Xb7];constructor
 ·intro ⟨⟨⟨h1,h2⟩,h3,h4⟩,h5⟩;refine ⟨⟨fun v hv=>?_,fun v hv=>?_⟩,fun v hv=>?_,h5⟩
  ·by_cases e:v=b
   ·rw[e];exact h
   ·exact h2 v ((ho _ _ _).2 ⟨hv,e⟩)
  ·by_cases e:v=a
   ·rw[e,Xbg];exact h
   ·exact h4 v ((ho _ _ _).2 ⟨hv,e⟩)
  ·rcases (hm v).1 hv with h9|h9
   ·exact h1 v h9
   ·exact h3 v h9
 ·intro ⟨⟨h1,h2⟩,h3,h5⟩;exact ⟨⟨⟨fun v hv=>h3 v ((hm v).2 (.inl hv)),fun v hv=>h1 v ((ho _ _ _).1 hv).1⟩,fun v hv=>h3 v ((hm v).2 (.inr hv)),fun v hv=>h2 v ((ho _ _ _).1 hv).1⟩,h5⟩
def Xyj{d:Dg}(hd:InD d){a b:Int}(h:(decide (a<0)||decide (b<=a)||!(spI d.ns a)||!(spI d.ns b)||(tyW d.ws a b != 2)||((d.ns.getD a.toNat nZ).p.tmod 4 != 0)||((d.ns.getD b.toNat nZ).p.tmod 4 != 0))=true):pvC d a b=false:=by
 cases hs:spI d.ns a
 ·unfold pvC;rw[hs];rfl
 refine Xsh hd ?_;have h0:=X0z hs;rw[hs] at h ⊢;rw[show decide (a<0)=false from decide_eq_false Z] at h;revert h;generalize decide (b<=a)=x1;generalize spI d.ns b=x2;generalize (tyW d.ws a b != 2)=x3;generalize ((d.ns.getD a.toNat nZ).p.tmod 4 != 0)=x4;generalize ((d.ns.getD b.toNat nZ).p.tmod 4 != 0)=x5;revert x1 x2 x3 x4 x5;decide
def Xsd{d:Dg}(hd:InD d){a b:Int}(h:(decide (a<0)||decide (b<=a)||!(spI d.ns a)||!(spI d.ns b)||(tyW d.ws a b != 2)||((d.ns.getD a.toNat nZ).p.tmod 4 != 0)||((d.ns.getD b.toNat nZ).p.tmod 4 != 0))=false):(0<=a/\a.toNat<d.ns.length)/\(0<=b/\b.toNat<d.ns.length)/\(((d.ns.getD a.toNat nZ).p=0∨(d.ns.getD a.toNat nZ).p=4)/\((d.ns.getD b.toNat nZ).p=0∨(d.ns.getD b.toNat nZ).p=4))/\(spI d.ns a&&spI d.ns b&&decide (a<b)&&(d.ns.getD a.toNat nZ).p % 4==0&&(d.ns.getD b.toNat nZ).p % 4==0&&tyW d.ws a b==2)=true/\tyW d.ws a b=2/\a<b:=by
 have h2:(!(spI d.ns a)||!(spI d.ns b)||decide (b<=a)||((d.ns.getD a.toNat nZ).p.tmod 4 != 0)||((d.ns.getD b.toNat nZ).p.tmod 4 != 0)||(tyW d.ws a b != 2))=false:=by
  revert h;generalize decide (a<0)=x0;generalize spI d.ns a=x6;generalize decide (b<=a)=x1;generalize spI d.ns b=x2;generalize (tyW d.ws a b != 2)=x3;generalize ((d.ns.getD a.toNat nZ).p.tmod 4 != 0)=x4;generalize ((d.ns.getD b.toNat nZ).p.tmod 4 != 0)=x5;revert x0 x6 x1 x2 x3 x4 x5;decide
 have h3:=Xm2 hd h2;refine ⟨h3.1,h3.2.1,h3.2.2.1,h3.2.2.2,?_,?_⟩
 ·simp only[Bool.or_eq_false_iff,bne_eq_false_iff_eq] at h;exact h.1.1.2
 ·simp only[Bool.or_eq_false_iff,decide_eq_false_iff_not] at h;omega
def Xyk{d:Dg}{a b:Int}(h2:tyW d.ws a b=2)(h:(!(!((othW d.ws a b).any fun x=>!(spI d.ns x)||tyW d.ws a x != 2))||!(!((othW d.ws b a).any fun x=>!(spI d.ns x)||tyW d.ws b x != 2))||prD d (pvL d a b))=true):pvC d a b=false:=by
 have e:=Xhd d a b h2;refine Xsi ?_;revert e h;generalize ((othW d.ws a b).any fun x=>!(spI d.ns x)||tyW d.ws a x != 2)=x1;generalize ((othW d.ws b a).any fun x=>!(spI d.ns x)||tyW d.ws b x != 2)=x2;generalize prD d (pvL d a b)=x3;generalize hadD d a=x4;generalize hadD d b=x5;generalize rdyD d (pvL d a b)=x6;revert x1 x2 x3 x4 x5 x6;decide
def Xse{d:Dg}(hD:InD d){a b:Int}(h1:(spI d.ns a&&spI d.ns b&&decide (a<b)&&(d.ns.getD a.toNat nZ).p % 4==0&&(d.ns.getD b.toNat nZ).p % 4==0&&tyW d.ws a b==2)=true)(h2:tyW d.ws a b=2)(h:(!(!((othW d.ws a b).any fun x=>!(spI d.ns x)||tyW d.ws a x != 2))||!(!((othW d.ws b a).any fun x=>!(spI d.ns x)||tyW d.ws b x != 2))||prD d (pvL d a b))=false):pvC d a b=true/\NoPl (id0 (id0 d a) b).ws (pvL d a b):=by
 have e:=Xhd d a b h2;have h3:(hadD d a&&hadD d b&&rdyD d (pvL d a b))=true:=by
  rw[<- e];revert h;generalize ((othW d.ws a b).any fun x=>!(spI d.ns x)||tyW d.ws a x != 2)=x1;generalize ((othW d.ws b a).any fun x=>!(spI d.ns x)||tyW d.ws b x != 2)=x2;generalize prD d (pvL d a b)=x3;revert x1 x2 x3;decide
 rw[Qd] at h3;refine ⟨Xm3 h1 ?_,(X9g hD h3.2).sub fun w hw=>(List.mem_filter.1 (List.mem_filter.1 hw).1).1⟩;rw[Qd] at h3;rw[h3.1.1,h3.1.2,h3.2];rfl
def Y66{d o:Dg}{a b:Int}(ht:0<=d.t/\d.t<=7)(h:o=pvM (d.ns.getD a.toNat nZ).p (d.ns.getD b.toNat nZ).p (othW d.ws a b) (othW d.ws b a) (pvL d a b) (id0 (id0 d a) b) (pvL d a b).length)(hot:o.t=d.t)(hp:((d.ns.getD a.toNat nZ).p=0∨(d.ns.getD a.toNat nZ).p=4)/\((d.ns.getD b.toNat nZ).p=0∨(d.ns.getD b.toNat nZ).p=4)) :
  outD (pvD d a b) = { o with t:=if ((d.ns.getD a.toNat nZ).p==4&&(d.ns.getD b.toNat nZ).p==4)=true then (wr (o.t+4)).tmod 8 else o.t,r:=wr (o.r+(1-((othW d.ws a b).length:Int)-((othW d.ws b a).length:Int))) }:=by
 rw[Xfr h];have e:((d.ns.getD a.toNat nZ).p+(d.ns.getD b.toNat nZ).p==8)=((d.ns.getD a.toNat nZ).p==4&&(d.ns.getD b.toNat nZ).p==4):=by
  rcases hp with ⟨h1|h1,h2|h2⟩<;>rw[h1,h2]<;>rfl
 unfold outD;rw[e];dsimp only;split
 ·rfl
 ·have:o.t.tmod 8=o.t:=by rw[hot,Int.tmod_eq_emod_of_nonneg ht.1,Int.emod_eq_of_lt ht.1 Z]
  rw[this]
def smQ(f:Nat->Int) : Nat->Int
 | 0=>0
 | n+1=>smQ f n+f n
def Xmf(f g:Nat->Int):∀ n,smQ (fun j=>f j+g j) n=smQ f n+smQ g n
 | 0=>rfl
 | n+1=>by unfold smQ;rw[Xmf f g n];omega
def X85{f g:Nat->Int}:∀ n,(∀ j,j<n->f j=g j)->smQ f n=smQ g n
 | 0,_=>rfl
 | n+1,h=>by unfold smQ;rw[X85 n fun j hj=>h j Z,h n Z]
def Xmg(p:Int):∀ n:Nat,smQ (fun j=>if p=(j:Int) then 1 else 0) n=if 0<=p/\p<(n:Int) then 1 else 0
 | 0=>by rw[Q3 Z];rfl
 | n+1=>by
  unfold smQ;rw[Xmg p n];split<;>split<;>split<;>omega
def Xt7{f:Nat->Int}:∀ n:Nat,(∀ j,j<n->2<=f j)->2*(n:Int)<=smQ f n/\(smQ f n=2*(n:Int)->∀ j,j<n->f j=2)
 | 0,_=>⟨by simp[smQ],fun _ j hj=>by omega⟩
 | n+1,h=>by
  have ih:=Xt7 n fun j hj=>h j Z;have hn:=h n Z;unfold smQ;refine ⟨by omega,fun he j hj=>?_⟩;by_cases e:j=n
  ·subst e;omega
  ·exact ih.2 Z j Z
def Xmh{f:Nat->Int}:∀ n:Nat,(∀ j,j<n->f j=2)->smQ f n=2*(n:Int)
 | 0,_=>rfl
 | n+1,h=>by
  have ih:=Xmh n fun j hj=>h j Z;have hn:=h n Z;unfold smQ;omega
def Xgf(x:Nd)(ns:List Nd)(k p:Int):ctN (x::ns) k p=(if x.k=k/\x.p=p then 1 else 0)+ctN ns k p:=by grind [ctN]
def Xox(x:Nd)(ns:List Nd):bnI (x::ns)=(if x.k=1∨x.k=2 then 1 else 0)+bnI ns:=by grind [bnI]
def Yau{n:Int}{x:Nd}(h:nokI n x=true)(hk:x.k=1∨x.k=2):0<=x.p/\x.p<n:=by
 unfold nokI at h;rw[Q3 (by rcases hk with e|e<;>rw[e]<;>decide),Q4 (by simpa using hk)] at h;have:=X11.1 h;omega
def Xoy(n:Nat):∀ ns:List Nd,(∀ x ∈ ns,nokI (n:Int) x=true)->bnI ns=smQ (fun j=>ctN ns 1 (j:Int)+ctN ns 2 (j:Int)) n
 | [],_=>by
  have:∀ m,smQ (fun j=>ctN [] 1 (j:Int)+ctN [] 2 (j:Int)) m=0:=fun m=>by
   induction m with
   | zero=>rfl
   | succ m ih=>unfold smQ;rw[ih];rfl
  rw[this];rfl
 | x::ns,h=>by
  have ih:=Xoy n ns fun y hy=>h y (by simp[hy]);have hx:=h x O4;rw[Xox,ih];have e:∀ j:Nat,ctN (x::ns) 1 (j:Int)+ctN (x::ns) 2 (j:Int)=((if x.k=1∨x.k=2 then (if x.p=(j:Int) then 1 else 0) else 0))+(ctN ns 1 (j:Int)+ctN ns 2 (j:Int)):=fun j=>by
   rw[Xgf,Xgf];by_cases h1:x.k=1
   ·by_cases h2:x.p=(j:Int)
    ·simp[h1,h2];omega
    ·simp[h1,h2]
   ·by_cases h3:x.k=2
    ·by_cases h2:x.p=(j:Int)
     ·simp[h3,h2];omega
     ·simp[h3,h2]
    ·simp[h1,h3]
  have e2:=Xmf (fun j:Nat=>if x.k=1∨x.k=2 then (if x.p=(j:Int) then (1:Int) else 0) else 0) (fun j=>ctN ns 1 (j:Int)+ctN ns 2 (j:Int)) n;rw[X85 n fun j _=>e j];refine Eq.trans ?_ e2.symm;congr 1;by_cases hk:x.k=1∨x.k=2
  ·rw[Q4 hk,X85 n fun j _=>Q4 hk,Xmg,Q4 (Yau hx hk)]
  ·have:∀ m,smQ (fun _=>(0:Int)) m=0:=fun m=>by
    induction m with
    | zero=>rfl
    | succ m ih=>unfold smQ;rw[ih];rfl
   rw[Q3 hk,X85 n fun j _=>Q3 hk,this]
def Y0q{ns:List Nd}{k p:Int}:decide (fnI ns ⟨k,p⟩<0)=decide (ctN ns k p<1):=by
 have h:decide (0<=fnI ns ⟨k,p⟩)=ns.any fun y=>decide ((⟨k,p⟩ : Nd)=y):=Xlj;have h2:(ns.any fun y=>decide ((⟨k,p⟩ : Nd)=y))=decide (1<=ctN ns k p):=by
  rw[Bool.eq_iff_iff,List.any_eq_true,Qr];unfold ctN;constructor
  ·intro ⟨y,hy,he⟩;have he:(⟨k,p⟩ : Nd)=y:=by simpa using he
   have hm:y ∈ ns.filter fun x=>x.k==k&&x.p==p:=List.mem_filter.2 ⟨hy,by subst he;simp⟩;have:=List.length_pos_of_mem hm;omega
  ·intro hl;have ⟨y,hy⟩:=List.exists_mem_of_length_pos (l:=ns.filter fun x=>x.k==k&&x.p==p) Z;have hf:=List.mem_filter.1 hy;refine ⟨y,hf.1,?_⟩;have hk:y.k=k/\y.p=p:=by simpa using hf.2
   obtain ⟨k',p'⟩:=y;simp only at hk;simp[hk.1,hk.2]
 have h3:=h.trans h2;rw[Bool.eq_iff_iff] at h3 ⊢;simp only[Qr] at h3 ⊢;omega
def Y4x{d:Dg}(hn:1<=d.n)(hok:∀ x ∈ d.ns,nokI d.n x=true):heD d=endQ d:=by
 have hnn:d.n=((d.n.toNat:Nat) : Int):=by omega
 have hs:=Xoy d.n.toNat d.ns (by rw[<- hnn];exact hok);unfold heD endQ enQ heQ;rw[Bool.eq_iff_iff];simp only[Qd,W1,W2,Y0q,Bool.not_eq_true',Bool.or_eq_false_iff,decide_eq_false_iff_not,beq_iff_eq];constructor
 ·intro ⟨h1,h2⟩;have h3:=Xt7 (f:=fun j=>ctN d.ns 1 (j:Int)+ctN d.ns 2 (j:Int)) d.n.toNat fun j hj=>by have:=h1 j hj;omega
  have h4:=h3.2 Z;refine ⟨fun j hj=>?_,fun j hj=>?_⟩
  ·have:=h1 j hj;have:=h4 j hj;omega
  ·have:=h1 j hj;have:=h4 j hj;omega
 ·intro ⟨h1,h2⟩;refine ⟨fun j hj=>by have:=h1 j hj;have:=h2 j hj;omega,?_⟩;rw[hs,Xmh d.n.toNat fun j hj=>by have:=h1 j hj;have:=h2 j hj;omega];omega
def Xrp{d:Dg}{k:Nat}{x:Nd}(hx:d.ns[k]? = some x):ndQ d (k:Int)=(nokI d.n x&&nvQ d k):=by grind [ndQ,nokI,nvQ]
def Y24{d:Dg}{i:Nat}{u:Wr}(hu:d.ws[i]? = some u):wvQ d i=wrQ d i:=by
 rw[Y23 hu,Xuc hu];have e1:decide (0<=cmW (d.ws.getD (i-1) wZ) u) = !(wlt (d.ws.getD (i-1) wZ) u):=by
  rw[<- Xp2];rw[Bool.eq_iff_iff];simp
 rw[e1];congr 1;have e2:(decide (u.a<0)||decide (u.b<=u.a)) = !(inR u.a 0 (u.b-1)):=by
  rw[Bool.eq_iff_iff];simp only[Bool.or_eq_true,Qr,Bool.not_eq_true',<- Bool.not_eq_true,X11];omega
 rw[e2]
def Xb9(d:Dg):ivD d=goodD d:=by
 unfold ivD goodD;have ew:(List.range d.ws.length).all (wvQ d)=(List.range d.ws.length).all (wrQ d):=by
  rw[Bool.eq_iff_iff,W1,W1];constructor
  ·intro h i hi;have:=h i hi
   rwa [Y24 (Xg (d:=wZ) (W2.1 hi))] at this
  ·intro h i hi;rw[Y24 (Xg (d:=wZ) (W2.1 hi))];exact h i hi
 have en:(List.range d.ns.length).all (fun k=>ndQ d (k:Int))=(!(d.ns.any fun x=>!nokI d.n x)&&(List.range d.ns.length).all (nvQ d)):=by
  rw[Bool.eq_iff_iff];simp only[Qd,Bool.not_eq_true',W7,W1,W2];constructor
  ·intro h;refine ⟨fun x hx=>?_,fun i hi=>?_⟩
   ·have ⟨i,hi⟩:=List.mem_iff_getElem?.1 hx;have:=h i (Qg.1 hi).1;rw[Xrp hi,Qd] at this;rw[this.1];decide
   ·have:=h i hi;rw[Xrp (Xg (d:=nZ) hi),Qd] at this;exact this.2
  ·intro ⟨h1,h2⟩ i hi;have hx:=Xg (d:=nZ) hi;rw[Xrp hx,h2 i hi,Bool.and_true];have:=h1 _ (Qe hx);simpa using this
 rw[ew,en];unfold hvQ hdQ;by_cases hok:∀ x ∈ d.ns,nokI d.n x=true
 ·by_cases hn:1<=d.n
  ·rw[Y4x hn hok];generalize inR d.n 1 5=x1;generalize decide (40<(d.ns.length:Int))=x2;generalize inR d.t 0 7=x3;generalize inR d.r (-60) 60=x4;generalize (d.ns.any fun x=>!nokI d.n x)=x5;generalize endQ d=x6;generalize (List.range d.ws.length).all (wrQ d)=x7;generalize (List.range d.ns.length).all (nvQ d)=x8;revert x1 x2 x3 x4 x5 x6 x7 x8;decide
  ·have:inR d.n 1 5=false:=by rw[<- Bool.not_eq_true,X11];omega
   rw[this];simp
 ·have h5:(d.ns.any fun x=>!nokI d.n x)=true:=by
   rw[List.any_eq_true];have ⟨x,hx,h9⟩ : ∃ x,x ∈ d.ns/\nokI d.n x≠true:=Classical.byContradiction fun hn=>hok fun x hx=>Classical.byContradiction fun h9=>hn ⟨x,hx,h9⟩;exact ⟨x,hx,by simpa using h9⟩
  rw[h5];simp
def secL(d:Dg)(u:Int)(a:Int) : List Int:=if (u==1||u==4)=true then nearW d.ws a else [0]
def stR(d:Dg)(u:Int)(a:Nat)(l:List Int) : List Rz:=(l.map fun b=>(⟨u,a,b⟩ : Rz)).filter (apC d)
def stA(d:Dg)(u:Int)(k:Nat) : List Rz:=(List.range k).flatMap fun a=>stR d u a (secL d u a)
def Xmn(d:Dg)(u:Int)(k:Nat):stA d u (k+1)=stA d u k++stR d u k (secL d u k):=by
 unfold stA;rw[List.range_succ,List.flatMap_append];simp
def Ybv{d:Dg}{u:Int}{a j:Nat}{l:List Int}{b:Int}(hb:l[j]? = some b)(h:apC d ⟨u,a,b⟩=true):stR d u a (l.take (j+1))=stR d u a (l.take j)++[⟨u,a,b⟩]:=by
 unfold stR;rw[Qt,hb,Option.toList_some,List.map_append,List.filter_append];simp[h]
def Ybu{d:Dg}{u:Int}{a j:Nat}{l:List Int}{b:Int}(hb:l[j]? = some b)(h:apC d ⟨u,a,b⟩=false):stR d u a (l.take (j+1))=stR d u a (l.take j):=by
 unfold stR;rw[Qt,hb,Option.toList_some,List.map_append,List.filter_append];simp[h]
def X9q{ws:List Wr}(h:InW ws){a b:Int}(ht:tyW ws a b≠0):b ∈ nearW ws a:=by
 have ⟨w,h1,h2,_⟩:=X5x (Xo4 ht);have h3:=X2t.1 h2;have hm:=Qe h1;have hl:=h.l w hm;refine X5z.2 ⟨w,hm,?_⟩;unfold otW;by_cases e:a<=b
 ·rw[Q4 Z];congr 1;omega
 ·rw[Q3 Z,Q4 Z];congr 1;omega
def Y2f{d:Dg}(hD:InD d){u a b:Int}(h:apC d ⟨u,a,b⟩=true):b ∈ secL d u a:=by
 unfold apC at h;rw[Qd] at h;have hc:=h.1;unfold doC at hc;dsimp only at hc;unfold secL;split at hc
 ·rename_i h1;rw[Q4 (by rw[h1];rfl)];unfold fuC at hc;simp only[Qd,beq_iff_eq] at hc;exact X9q hD.w Z
 ·rename_i h1;split at hc
  ·rename_i h4;rw[Q4 (by rw[h4];simp)];unfold pvC at hc;simp only[Qd,beq_iff_eq] at hc;exact X9q hD.w Z
  ·rename_i h4;rw[Q3 (by simp only[Bool.or_eq_true,not_or];exact ⟨h1,h4⟩)];split at hc
   ·cases hc
   ·rename_i hb;have:b=0:=by simpa using hb
    rw[this];simp
def Xyr{d:Dg}(hD:InD d)(u a:Int):Inc (secL d u a):=by
 unfold secL;split
 ·exact X3z hD.w
 ·exact List.pairwise_singleton _ _
def Y6e{d:Dg}(hD:InD d)(hn:0<d.ns.length){u a b:Int}(hb:b ∈ secL d u a):0<=b/\b<(d.ns.length:Int):=by
 unfold secL at hb;split at hb
 ·have:=X2p hD hb;omega
 ·have:b=0:=by simpa using hb
  omega
def Xsm(n:Nat):Inc (ranI n):=by
 unfold ranI;exact List.Pairwise.map _ (fun a b h=>by omega) List.pairwise_lt_range
def Y6h{d:Dg}(hD:InD d)(u:Int){a:Nat}(hn:0<d.ns.length):stR d u a (secL d u a)=alR d u a d.ns.length:=by
 have h1:stR d u a (secL d u a)=((secL d u a).filter fun b=>apC d ⟨u,a,b⟩).map fun b=>(⟨u,a,b⟩ : Rz):=by
  unfold stR;rw[List.filter_map];rfl
 have h2:alR d u a d.ns.length=((ranI d.ns.length).filter fun b=>apC d ⟨u,a,b⟩).map fun b=>(⟨u,a,b⟩ : Rz):=by
  unfold alR ranI;rw[List.filter_map,List.filter_map,List.map_map];rfl
 rw[h1,h2];congr 1;refine Xb8 _ _ (List.Pairwise.filter _ (Xyr hD u a)) (List.Pairwise.filter _ (Xsm _)) fun x=>?_;rw[List.mem_filter,List.mem_filter];constructor
 ·intro ⟨h3,h4⟩;refine ⟨?_,h4⟩;have:=Y6e hD hn h3;unfold ranI;rw[W6];exact ⟨x.toNat,W2.2 Z,by omega⟩
 ·intro ⟨_,h4⟩;exact ⟨Y2f hD h4,h4⟩
def Xtg{d:Dg}(hD:InD d)(u:Int):stA d u d.ns.length=alL d u:=by
 unfold alL;have h:∀ k,k<=d.ns.length->stA d u k=alS d u k:=fun k=>by
  induction k with
  | zero=>intro _;rfl
  | succ k ih=>
   intro hk;rw[Xmn,Xou,ih Z,Y6h hD u Z]
 exact h _ (Qb _)
def Yby{α:Type}{l m:List α}(h:m.length=1):(m++l).take 1=m:=by grind
def brQ(d:Dg)(q:Nat) : Bool:=tyW d.ws (fnI d.ns ⟨1,(q:Int)⟩) (fnI d.ns ⟨2,(q:Int)⟩)==1
def brD(d:Dg) : Bool:=(List.range d.n.toNat).all (brQ d)&&((spL d.ns).length:Int)==0
def Xxi{α:Type}{l:List α}{p:α->Bool}(h:(l.filter p).length<=1){i j:Nat}{x y:α}(hi:l[i]? = some x)(hj:l[j]? = some y)(hx:p x=true)(hy:p y=true):i=j:=by
 have key:∀ i j (x y:α),l[i]? = some x->l[j]? = some y->p x=true->p y=true->i<j->False:=fun i j x y hi hj hx hy hij=>by
  have e:l=l.take j++l.drop j:=(W9 j l).symm;rw[e,List.filter_append,Qh] at h;have h1:x ∈ (l.take j).filter p:=List.mem_filter.2 ⟨Qe (i:=i) (by rw[Wg hij];exact hi),hx⟩;have h2:y ∈ (l.drop j).filter p:=List.mem_filter.2 ⟨Qe (i:=0) (by rw[List.getElem?_drop];exact hj),hy⟩;have:=List.length_pos_of_mem h1;have:=List.length_pos_of_mem h2;omega
 rcases Nat.lt_trichotomy i j with h9|h9|h9
 ·exact (key i j x y hi hj hx hy h9).elim
 ·exact h9
 ·exact (key j i y x hj hi hy hx h9).elim
section
variable {d : Dg}
theorem Xpg(hG:goodD d=true){e q:Nat}(he:e=1∨e=2)(hq:q<d.n.toNat):ctN d.ns (e:Int) (q:Int)=1:=by
 have h:=(X3d hG).2.2.2;unfold endQ enQ at h;simp only[Qd,W1,W2,beq_iff_eq] at h;rcases he with rfl|rfl
 ·exact h.1 q hq
 ·exact h.2 q hq
theorem Xeo(hG:goodD d=true){e q:Nat}(he:e=1∨e=2)(hq:q<d.n.toNat):∃ i:Nat,fnI d.ns ⟨(e:Int),(q:Int)⟩=(i:Int)/\d.ns[i]? = some ⟨(e:Int),(q:Int)⟩:=by
 have h:=Y0q (ns:=d.ns) (k:=(e:Int)) (p:=(q:Int));rw[Xpg hG he hq] at h;have h2:¬ fnI d.ns ⟨(e:Int),(q:Int)⟩<0:=by
  have h3:decide (fnI d.ns ⟨(e:Int),(q:Int)⟩<0)=false:=h;exact Q1 h3
 unfold fnI at h2 ⊢;rcases X6d d.ns (fun y=>decide ((⟨(e:Int),(q:Int)⟩ : Nd)=y)) with ⟨h3,_⟩|⟨k,x,h3,h4,h5⟩
 ·omega
 ·refine ⟨k,h3,?_⟩;rw[h4];congr 1;exact (Q2 h5).symm
theorem Xep(hG:goodD d=true){e q:Nat}(he:e=1∨e=2)(hq:q<d.n.toNat){i j:Nat}(hi:d.ns[i]? = some ⟨(e:Int),(q:Int)⟩)(hj:d.ns[j]? = some ⟨(e:Int),(q:Int)⟩):i=j:=by
 have h:=Xpg hG he hq;unfold ctN at h;exact Xxi (p:=fun x=>x.k==(e:Int)&&x.p==(q:Int)) Z hi hj O4 O4
theorem Y2v(hG:goodD d=true){i:Nat}{x:Nd}(hx:d.ns[i]? = some x)(h3:x.k≠3)(hc:cnW d.ws (i:Int)≠0):∃ e q:Nat,(e=1∨e=2)/\q<d.n.toNat/\x=⟨(e:Int),(q:Int)⟩/\cnW d.ws (i:Int)=1:=by
 have h:=(X3d hG).2.2.1 i (Qg.1 hx).1;have hg:d.ns.getD ((i:Int)).toNat nZ=x:=by rw[Qj,Qa,hx];rfl
 unfold ndQ at h;rw[hg] at h;split at h
 ·simp only[Qd,beq_iff_eq] at h;exact absurd h.2 hc
 ·split at h
  ·rename_i hk;simp only[Qd,beq_iff_eq,X11] at h;simp only[Bool.or_eq_true,beq_iff_eq] at hk;have ⟨k,p⟩:=x;dsimp only at h hk ⊢;refine ⟨k.toNat,p.toNat,by omega,by omega,?_,h.2⟩;congr 1<;>omega
  ·simp only[Qd,beq_iff_eq] at h;exact absurd h.1 h3
theorem Xo3{k:Int}{w:Wr}(hw:w ∈ d.ws)(ht:w.a=k∨w.b=k):cnW d.ws k≠0:=by
 unfold cnW;have hm:w ∈ d.ws.filter fun w=>w.a==k||w.b==k:=List.mem_filter.2 ⟨hw,by simpa using ht⟩;have:=List.length_pos_of_mem hm;omega
theorem Xtx{k:Int}(hc:cnW d.ws k=1){w w':Wr}(hw:w ∈ d.ws)(hw':w' ∈ d.ws)(ht:w.a=k∨w.b=k)(ht':w'.a=k∨w'.b=k):w=w':=by
 unfold cnW at hc;have hm:w ∈ d.ws.filter fun w=>w.a==k||w.b==k:=List.mem_filter.2 ⟨hw,by simpa using ht⟩;have hm':w' ∈ d.ws.filter fun w=>w.a==k||w.b==k:=List.mem_filter.2 ⟨hw',by simpa using ht'⟩;have ⟨z,hz⟩:=List.length_eq_one_iff.1 (show (d.ws.filter fun w=>w.a==k||w.b==k).length=1 by omega);rw[hz] at hm hm';rw[Qm.1 hm,Qm.1 hm']
theorem Xtw{k:Int}(hc:cnW d.ws k=1):∃ w ∈ d.ws,w.a=k∨w.b=k:=by
 unfold cnW at hc;have ⟨w,hw⟩:=List.exists_mem_of_length_pos (l:=d.ws.filter fun w=>w.a==k||w.b==k) Z;have:=List.mem_filter.1 hw;exact ⟨w,this.1,by simpa using this.2⟩
theorem Yas(h:((spL d.ns).length:Int)=0){i:Nat}{x:Nd}(hx:d.ns[i]? = some x):x.k≠3:=fun h3=>by
 have hm:(i:Int) ∈ spL d.ns:=by
  unfold spL spK;rw[W6];refine ⟨i,List.mem_filter.2 ⟨W2.2 (Qg.1 hx).1,?_⟩,O⟩;rw[Qa,hx];simpa using h3
 have:=List.length_pos_of_mem hm;omega
theorem Xu1(hD:InD d){i o:Int}{w:Wr}(hw:w ∈ d.ws)(h:isW i o w=true):tyW d.ws i o=if w.h=true then 2 else 1:=by
 have hge:0<=fdW d.ws i o:=by
  rcases X54 d.ws i o with ⟨_,h2⟩|⟨k,x,h1,_⟩
  ·rw[h2 w hw] at h;cases h
  ·omega
 have ⟨x,h1,h2,_⟩:=X5x hge;have e1:=X2t.1 h;have e2:=X2t.1 h2;have e:x=w:=Xg3 hD.w.s (Qe h1) hw (by rw[X5p];omega) (by rw[X5p];omega);rw[Xjg hge,show d.ws.getD (fdW d.ws i o).toNat wZ=x from by rw[Qa,h1];rfl,e]
theorem Xv1(hG:goodD d=true):brD d=plD d:=by
 have hD:=X1k hG;unfold brD plD;by_cases hs:((spL d.ns).length:Int)=0
 ·rw[show (((spL d.ns).length:Int)==0)=true from by rw[hs];rfl,Bool.and_true,Bool.and_true,Bool.eq_iff_iff,W1,W1];constructor
  ·intro h w hw;have ha:=hD.e w hw;have hl:=hD.w.l w hw;have gx:=Xg (l:=d.ns) (k:=w.a.toNat) (d:=nZ) Z;have hat:((w.a.toNat:Nat) : Int)=w.a:=by omega
   have ⟨e,q,he,hq,hx,hc⟩:=Y2v hG gx (Yas hs gx) (Xo3 hw Z);have ⟨i,hi1,hi2⟩:=Xeo hG (e:=1) (.inl O) hq;have ⟨o,ho1,ho2⟩:=Xeo hG (e:=2) (.inr O) hq;have h1:=h q (W2.2 hq);unfold brQ at h1;have hi1':fnI d.ns ⟨1,(q:Int)⟩=(i:Int):=hi1;have ho1':fnI d.ns ⟨2,(q:Int)⟩=(o:Int):=ho1;rw[hi1',ho1',beq_iff_eq] at h1;obtain ⟨w',h2,h3,_⟩:=X5x (Xo4 (ws:=d.ws) (p:=(i:Int)) (q:=(o:Int)) Z);have hw':=Qe h2;have h4:=X2t.1 h3;have h5:=Xu1 hD hw' h3;rw[h1] at h5;have hh:w'.h=false:=by cases hh:w'.h with
    | false=>rfl
    | true=>rw[hh] at h5;simp at h5
   rw[hx] at gx;have haio:w.a=(i:Int)∨w.a=(o:Int):=by
    rcases he with rfl|rfl
    ·left;have:=Xep hG (.inl O) hq gx hi2;omega
    ·right;have:=Xep hG (.inr O) hq gx ho2;omega
   have hee:w=w':=Xtx (hat▸hc) hw hw' (.inl O) Z;subst hee;have hno:(i:Int)≠(o:Int):=fun e9=>by omega
   have gi:d.ns.getD i nZ=⟨1,(q:Int)⟩:=by rw[Qa,hi2];rfl
   have go:d.ns.getD o nZ=⟨2,(q:Int)⟩:=by rw[Qa,ho2];rfl
   unfold plQ;rw[hh];by_cases hio:(i:Int)<=(o:Int)
   ·have e1:w.a.toNat=i:=by omega
    have e2:w.b.toNat=o:=by omega
    rw[e1,e2,gi,go];simp
   ·have e1:w.a.toNat=o:=by omega
    have e2:w.b.toNat=i:=by omega
    rw[e1,e2,gi,go];simp
  ·intro h q hq;have hq:=W2.1 hq;have ⟨i,hi1,hi2⟩:=Xeo hG (e:=1) (.inl O) hq;have ⟨o,ho1,ho2⟩:=Xeo hG (e:=2) (.inr O) hq;have hi1':fnI d.ns ⟨1,(q:Int)⟩=(i:Int):=hi1;have ho1':fnI d.ns ⟨2,(q:Int)⟩=(o:Int):=ho1;have hc:cnW d.ws (i:Int)=1:=by
    have h9:=(X3d hG).2.2.1 i (Qg.1 hi2).1;have hg:d.ns.getD ((i:Int)).toNat nZ=⟨1,(q:Int)⟩:=by rw[Qj,Qa,hi2];rfl
    unfold ndQ at h9;rw[hg] at h9;simp at h9;exact h9.2
   have ⟨w,hw,ht⟩:=Xtw hc;have hp:=h w hw;have ha:=hD.e w hw;have hl:=hD.w.l w hw;unfold plQ at hp;simp only[Bool.not_eq_true',Bool.or_eq_false_iff,bne_eq_false_iff_eq] at hp;have gi:d.ns.getD i nZ=⟨1,(q:Int)⟩:=by rw[Qa,hi2];rfl
   have key:isW (i:Int) (o:Int) w=true:=by
    rcases ht with ht|ht
    ·have e1:w.a.toNat=i:=by omega
     rw[e1,gi] at hp;have g2:=Xg (l:=d.ns) (k:=w.b.toNat) (d:=nZ) Z;have g3:d.ns.getD w.b.toNat nZ=⟨2,(q:Int)⟩:=by
      have h7:=hp.1.2;have h8:=hp.2;revert h7 h8;generalize d.ns.getD w.b.toNat nZ=z;have ⟨zk,zp⟩:=z;dsimp only;intro h7 h8;congr 1<;>omega
     rw[g3] at g2;have:=Xep hG (.inr O) hq g2 ho2;exact X2t.2 ⟨by omega,by omega⟩
    ·have e1:w.b.toNat=i:=by omega
     rw[e1,gi] at hp;have g2:=Xg (l:=d.ns) (k:=w.a.toNat) (d:=nZ) Z;have g3:d.ns.getD w.a.toNat nZ=⟨2,(q:Int)⟩:=by
      have h7:=hp.1.2;have h8:=hp.2;revert h7 h8;generalize d.ns.getD w.a.toNat nZ=z;have ⟨zk,zp⟩:=z;dsimp only;intro h7 h8;congr 1<;>omega
     rw[g3] at g2;have:=Xep hG (.inr O) hq g2 ho2;exact X2t.2 ⟨by omega,by omega⟩
   unfold brQ;rw[hi1',ho1',Xu1 hD hw key,hp.1.1];rfl
 ·rw[show (((spL d.ns).length:Int)==0)=false from by simpa using hs,Bool.and_false,Bool.and_false]
end
section
variable {d : Dg} {r : Rz}
theorem ot9(hG:goodD d=true){o:Dg}(h:o.t=d.t):outD o=o:=Xs4 (by rw[h];exact (X6b hG).2.2.1)
theorem Yb8(h:(r.b != 0&&r.u != 1&&r.u != 4)=true):doC d r=false:=by grind [doC]
theorem Yb3(hG:goodD d=true)(h:(r.u==1)=true):doC d r=fuC d r.a r.b/\outD (doD d r)=fuD d r.a r.b:=by
 have ⟨h1,h2⟩:=Y9m (d:=d) h;exact ⟨h1,by rw[h2];exact ot9 hG (Y0v _ _)⟩
theorem Xjh{m n:Int}(h:(r.u==m)=true)(hn:m≠n):(r.u==n)=false:=by grind
theorem b_0(h17:(r.b != 0&&r.u != 1&&r.u != 4)=false){m:Int}(h:(r.u==m)=true)(h1:m≠1)(h4:m≠4):(r.b != 0)=false:=by grind
theorem Yb4(hG:goodD d=true)(h17:(r.b != 0&&r.u != 1&&r.u != 4)=false)(h:(r.u==2)=true):doC d r=idC d r.a/\outD (doD d r)=idD d r.a:=by
 have ⟨h1,h2⟩:=Y9n (d:=d) (Xjh h O5) (Xjh h O5) (b_0 h17 h O5 O5) h;exact ⟨h1,by rw[h2];exact ot9 hG (Y1c _ _ _ _)⟩
theorem Yb5(h17:(r.b != 0&&r.u != 1&&r.u != 4)=false)(h:(r.u==3)=true):doC d r=lcC d r.a/\doD d r=lcD d r.a:=by grind [doC,doD,lcC,lcD]
theorem Yb6(h:(r.u==4)=true):doC d r=pvC d r.a r.b/\doD d r=pvD d r.a r.b:=Y9o (d:=d) (Xjh h O5) h
theorem Yb7(hG:goodD d=true)(h17:(r.b != 0&&r.u != 1&&r.u != 4)=false)(h:(r.u==5)=true):doC d r=loC d r.a/\outD (doD d r)=loD d r.a:=by
 have ⟨h1,h2⟩:=Y9p (d:=d) (Xjh h O5) (Xjh h O5) (b_0 h17 h O5 O5) (Xjh h O5) (Xjh h O5) h;exact ⟨h1,by rw[h2];exact ot9 hG rfl⟩
theorem Yb2(h1:(r.u==1)=false)(h2:(r.u==2)=false)(h3:(r.u==3)=false)(h4:(r.u==4)=false)(h5:(r.u==5)=false):doC d r=false:=by grind [doC]
theorem Y5h(hD:InD d){a:Int}(h:(!(spI d.ns a)||(d.ns.getD a.toNat nZ).p != 0||cnW d.ws a != 0)=true):loC d a=false:=by
 rw[X94 hD.w.l] at h;refine Y1a ?_;rw[Bool.or_eq_true] at h ⊢;rcases h with h|h
 ·exact .inl h
 ·right;have:=bne_iff_ne.1 h;exact decide_eq_true Z
theorem Xy5(hD:InD d){a:Int}(h:(!(spI d.ns a)||(d.ns.getD a.toNat nZ).p != 0||cnW d.ws a != 0)=false):loC d a=true/\0<=a/\a.toNat<d.ns.length:=by
 rw[X94 hD.w.l] at h;refine Xrh ?_;rw[Bool.or_eq_false_iff] at h ⊢;refine ⟨h.1,decide_eq_false ?_⟩;have:=bne_eq_false_iff_eq.1 h.2;omega
theorem Y6i{u:Int}(hD:InD d){k:Nat}(hk:k<d.ns.length)(j:Nat):∃ l,alL d u=(stA d u k++stR d u k ((secL d u k).take j))++l:=by
 have h1:∃ l,stR d u k (secL d u k)=stR d u k ((secL d u k).take j)++l:=by
  refine ⟨stR d u k ((secL d u k).drop j),?_⟩;unfold stR;rw[<- List.filter_append,<- List.map_append,W9]
 have ⟨l1,e1⟩:=h1;have h2:∀ n,∃ l,stA d u (k+1+n)=stA d u (k+1)++l:=fun n=>by
  induction n with
  | zero=>exact ⟨[],by simp⟩
  | succ n ih=>
   have ⟨l,e⟩:=ih;exact ⟨l++stR d u (k+1+n) (secL d u ((k+1+n:Nat) : Int)),by rw[show k+1+(n+1)=(k+1+n)+1 from by omega,Xmn,e,Qx]⟩
 have ⟨l2,e2⟩:=h2 (d.ns.length-(k+1));refine ⟨l1++l2,?_⟩;rw[<- Xtg hD,show d.ns.length=k+1+(d.ns.length-(k+1)) by omega,e2,Xmn,e1];simp only[Qx]
theorem Y6j{u:Int}(hD:InD d){k:Nat}(hk:k<d.ns.length){j:Nat}{g:List Rz}(hg:g=stA d u k++stR d u k ((secL d u k).take j))(h1:g.length=1):(alL d u).take 1=g:=by
 have ⟨l,e⟩:=Y6i (u:=u) hD hk j;rw[e,<- hg];exact Yby h1
theorem Xtp{l:List Rz}(h:0<(l.take 1).length):(l.take 1)[0]? = some (l.getD 0 rwZ):=by
 cases l with
 | nil=>simp at h
 | cons x l=>rfl
theorem Xo1{l:List Rz}(h:0<(l.take 1).length):0<l.length:=by rw[Qn] at h;omega
theorem Xo0{l:List Rz}(h:¬ 0<(l.take 1).length):l=[]:=by
 cases l with
 | nil=>rfl
 | cons x l=>simp at h
theorem Ybh{l:List Int}(h:l=alR5){k:Nat}{u:Int}(hu:l[k]? = some u):inR u 1 5=true/\((l.take k).any fun y=>u==y)=false:=by
 subst h
 match k,hu with
 | 0,hu=>injection hu with hu;subst hu;exact ⟨rfl,rfl⟩
 | 1,hu=>injection hu with hu;subst hu;exact ⟨rfl,rfl⟩
 | 2,hu=>injection hu with hu;subst hu;exact ⟨rfl,rfl⟩
 | 3,hu=>injection hu with hu;subst hu;exact ⟨rfl,rfl⟩
 | 4,hu=>injection hu with hu;subst hu;exact ⟨rfl,rfl⟩
 | k+5,hu=>simp[alR5] at hu
theorem Ybs{u:Int}{a:Int}(h:(u==1||u==4)=true):secL d u a=nearW d.ws a:=Q4 h
theorem Ybr{u:Int}{a:Int}(h:(u==1||u==4)=false):secL d u a=[0]:=Q3 (by rw[h];decide)
theorem Xys(hD:InD d)(u a:Int):(secL d u a).length<=1000001:=by
 unfold secL;split
 ·have:=X4t hD a;have:=hD.m;omega
 ·simp
theorem Y9a{q:Nat}(hq:(q:Int)<d.n)(h:brQ d q=false):brD d=false:=by grind [brD,brQ]
theorem Y2g{q:Nat}(hq:d.n<=(q:Int))(h:∀ i:Nat,i<q->brQ d i=true):brD d=(((spL d.ns).length:Int)==0):=by grind [brD,brQ,spL]
end
def Drx(w:World)(b B0:Nat)(A0:Option Addr)(c0:Nat)(A1:Option Addr)(c1:Nat)(A2:Option Addr)(c2:Nat)(A3:Option Addr)(c3 m n:Nat)(x:Br) : Prop:=
 Blk w b 83 [.int .i64 x.d.n,.slice A0 m c0,.slice A1 x.d.ws.length c1,.int .i64 x.d.t,.int .i64 x.d.r,.slice A2 n c2,.slice A3 n c3]/\Own w B0 85 2 encNd A0 c0 x.d.ns/\Own w B0 99 3 encWr A1 c1 x.d.ws/\Own w B0 3 1 encI A2 c2 x.la/\Own w B0 4 1 encB A3 c3 x.hd/\m=x.d.ns.length/\n=x.la.length/\n=x.hd.length
def Dg7(w:World)(b B0:Nat)(A0:Option Addr)(c0:Nat)(A1:Option Addr)(c1:Nat)(v5 v6:Value)(m:Nat)(d:Dg) : Prop:=
 Blk w b 83 [.int .i64 d.n,.slice A0 m c0,.slice A1 d.ws.length c1,.int .i64 d.t,.int .i64 d.r,v5,v6]/\Own w B0 85 2 encNd A0 c0 d.ns/\Own w B0 99 3 encWr A1 c1 d.ws/\m=d.ns.length
def BrS(x:Br) : Prop:=WSd x.d.ws/\RgW x.d.ns.length x.d.ws
def Y1j{x:Br}(hs:BrS x)(u:Int):fdW x.d.ws u (x.d.ns.length:Int)<0:=Xes (.inr fun w hw=>by have:=hs.2 w hw;omega)
def Xrr{n:Nat}{x:Br}(h:BrOk n x)(hs:BrS x){k p q:Int}(hq:0<=q/\q.toNat<n):BrS (nodB x k p q):=⟨Xdr hs.1 (Y1j hs _),Xrq h hs.2 hq⟩
def Xha{n:Nat}{x:Br}(h:BrOk n x)(hs:BrS x){q:Int}(hq:0<=q/\q.toNat<n):BrS (plcB x q):=by
 unfold plcB;split
 ·exact Xrr h hs hq
 ·exact hs
def Xe9{n:Nat}{x:Br}(h:BrOk n x)(hs:BrS x){q:Int}(hq:0<=q/\q.toNat<n)(m:Int):BrS (trnB x q m):=⟨(Xha h hs hq).1,Xht h hs.2 hq m⟩
def Y2q{n:Nat}{x:Br}(h:BrOk n x)(hs:BrS x){p q:Int}(hp:0<=p/\p.toNat<n)(hq:0<=q/\q.toNat<n):BrS (czB x p q):=by
 refine ⟨?_,Y2p h hs.2 hp hq⟩;have h1:=Xha (X47 h p) (Xha h hs hp) hq;unfold czB;dsimp only;split
 ·exact Xgg h1.1 _
 ·rename_i h9;exact Xdr h1.1 Z
def Ydw{n:Nat}{x:Br}(h:BrOk n x)(hs:BrS x){g:Gt}(hg:gOk (n:Int) g=true):BrS (gtB x g):=by
 have ha:=X6x hg;have hb:=X6y hg;unfold gtB;split
 ·exact hs
 split
 ·exact Xe9 (X2f h _) hs ha _
 split
 ·exact Xe9 (X2f (X5b h _ _) _) (Xe9 h hs ha _) ha _
 split
 ·exact Y2q (X2f h _) hs ha hb
 split
 ·exact Y2q h hs ha hb
 split
 ·exact hs
 split
 ·exact hs
 ·exact Xe9 h hs ha _
def Y5z{x:Br}{q:Int}(h:((x.d.ns.getD (x.la.getD q.toNat 0).toNat nZ).k != 3||x.hd.getD q.toNat false)=false):plcB x q=x:=Y1s (by rw[Bool.or_comm];exact h)
def Y61{x:Br}{q:Int}(h:((x.d.ns.getD (x.la.getD q.toNat 0).toNat nZ).k != 3||x.hd.getD q.toNat false)=true):plcB x q=nodB x 3 0 q:=Y1t (by rw[Bool.or_comm];exact h)
def Xiz{x:Br}{p q:Int}(h:p.toNat≠q.toNat):(plcB x q).la.getD p.toNat 0=x.la.getD p.toNat 0:=by
 unfold plcB;split
 ·show (x.la.set q.toNat _).getD p.toNat 0=_;rw[Qa,List.getElem?_set_ne Z,<- Qa]
 ·rfl
def Xch(x:Br)(q:Int):(plcB x q).d.t=x.d.t:=by unfold plcB;split<;>rfl
def X5o(x:Br)(q m:Int):(trnB x q m).d.t=x.d.t:=Xch x q
def Xde(x:Br)(p q:Int):(czB x p q).d.t=x.d.t:=by
 unfold czB;dsimp only;split
 ·exact (Xch _ _).trans (Xch _ _)
 ·exact (Xch _ _).trans (Xch _ _)
def reB(x:Br) : Br:={ x with d:=outD x.d }
def g8B(x:Br)(g:Gt) : Br:=reB (gtB x g)
def Ybi{x y:Br}(hx:0<=x.d.t/\x.d.t<=7)(h:y.d.t=x.d.t):reB y=y:=by
 unfold reB;rw[Xs4 (by rw[h];exact hx)]
def Ya7(x:Br)(g:Gt):(gtB x g).d.t=(if (g.k==3)=true then wr (x.d.t+2) else if (g.k==12)=true then wr (x.d.t+1) else x.d.t):=by
 unfold gtB;split
 ·rename_i h;rw[show g.k=1 by simpa using h];rfl
 split
 ·rename_i h;rw[show g.k=2 by simpa using h];exact X5o _ _ _
 split
 ·show wr ((yyB x g.a).d.t+2)=_;rw[show (yyB x g.a).d.t=x.d.t from (X5o _ _ _).trans (X5o x g.a 4)]
 split
 ·rename_i h;rw[show g.k=9 by simpa using h];exact Xde _ _ _
 split
 ·rename_i h;rw[show g.k=10 by simpa using h];exact Xde _ _ _
 split
 ·rename_i h;rw[show g.k=11 by simpa using h];rfl
 split
 ·rfl
 ·exact X5o _ _ _
def Xec{x:Int}(h:-1000000<=x/\x<=1000000):wr x=x:=IntWalk.i64_in _ ⟨by omega,by omega⟩
def Xqk{x:Br}{g:Gt}{k:Nat}(h:0<=x.d.t/\x.d.t<=2*(k:Int))(hk:k<=1000):0<=(gtB x g).d.t/\(gtB x g).d.t<=2*((k+1:Nat) : Int):=by
 rw[Ya7];have e1:=Xec (x:=x.d.t+1) Z;have e2:=Xec (x:=x.d.t+2) Z;split
 ·rw[e2];omega
 split
 ·rw[e1];omega
 ·omega
def Y5k(x:Br)(k p q:Int):nodB (reB x) k p q=reB (nodB x k p q):=rfl
def Xj1(x:Br)(q:Int):plcB (reB x) q=reB (plcB x q):=by
 unfold plcB;split
 ·rename_i h;have h2:(x.hd.getD q.toNat false||(x.d.ns.getD (x.la.getD q.toNat 0).toNat nZ).k != 3)=true:=h;rw[Q4 h2];rfl
 ·rename_i h;have h2:¬ (x.hd.getD q.toNat false||(x.d.ns.getD (x.la.getD q.toNat 0).toNat nZ).k != 3)=true:=h;rw[Q3 h2]
def Xg2(x:Br)(q m:Int):trnB (reB x) q m=reB (trnB x q m):=by
 unfold trnB;rw[Xj1];rfl
def Y0j(x:Br)(p q:Int):czB (reB x) p q=reB (czB x p q):=by
 unfold czB;rw[Xj1,Xj1];dsimp only;split
 ·rename_i h;rw[Q4 (show 0<=fdW (plcB (plcB x p) q).d.ws ((plcB x p).la.getD p.toNat 0) ((plcB (plcB x p) q).la.getD q.toNat 0) from h)];rfl
 ·rename_i h;rw[Q3 (show ¬ 0<=fdW (plcB (plcB x p) q).d.ws ((plcB x p).la.getD p.toNat 0) ((plcB (plcB x p) q).la.getD q.toNat 0) from h)];rfl
def X8s(x:Br)(q:Int):flpB (reB x) q=reB (flpB x q):=rfl
def Ybj{x:Br}(h:0<=x.d.t/\x.d.t<=3000):reB (reB x)=reB x:=by
 unfold reB outD;dsimp only;congr 2;rw[Int.tmod_eq_emod_of_nonneg h.1,Int.tmod_eq_emod_of_nonneg Z];omega
def Ya3{x:Br}(g:Gt)(h:0<=x.d.t/\x.d.t<=2000):g8B (reB x) g=reB (gtB x g):=by
 have hr:(reB x).d.t=x.d.t % 8:=Int.tmod_eq_emod_of_nonneg h.1;have e1:=Xec (x:=x.d.t+1) Z;have e2:=Xec (x:=x.d.t+2) Z;have key:∀ y:Br,y.d.t=x.d.t->reB (reB y)=reB y:=fun y hy=>Ybj (by rw[hy];omega);unfold g8B gtB;split
 ·rw[X8s];exact key _ O
 split
 ·rw[X8s,Xg2,X8s];exact key _ (X5o _ _ _)
 split
 ·unfold yyB;rw[Xg2,X8s,Xg2,X8s];have ht:(flpB (trnB (flpB (trnB x g.a 4) g.a) g.a 4) g.a).d.t=x.d.t:=(X5o _ _ _).trans (X5o x g.a 4);generalize flpB (trnB (flpB (trnB x g.a 4) g.a) g.a 4) g.a=y at ht;unfold tnB reB outD;dsimp only;rw[ht,e2,Int.tmod_eq_emod_of_nonneg h.1,Xec (x:=x.d.t % 8+2) Z];congr 2;rw[Int.tmod_eq_emod_of_nonneg Z,Int.tmod_eq_emod_of_nonneg Z];omega
 split
 ·rw[X8s,Y0j,X8s];exact key _ (Xde _ _ _)
 split
 ·rw[Y0j];exact key _ (Xde _ _ _)
 split
 ·exact key (swpB x g.a g.b) O
 split
 ·unfold tnB reB outD;dsimp only;rw[e1,Int.tmod_eq_emod_of_nonneg h.1,Xec (x:=x.d.t % 8+1) Z];congr 2;rw[Int.tmod_eq_emod_of_nonneg Z,Int.tmod_eq_emod_of_nonneg Z];omega
 ·rw[Xg2];exact key _ (X5o _ _ _)
def Y0r:∀ (l:List Gt) (x:Br) (k:Nat),0<=x.d.t->x.d.t<=2*(k:Int)->k+l.length<=900->l.foldl g8B (reB x)=reB (l.foldl gtB x)
 | [],_,_,_,_,_=>rfl
 | g::l,x,k,h0,h1,hk=>by
  rw[Qs] at hk;have h2:=Xqk (x:=x) (g:=g) (k:=k) ⟨h0,h1⟩ Z;rw[List.foldl_cons,List.foldl_cons,Ya3 g Z];exact Y0r l (gtB x g) (k+1) h2.1 h2.2 Z
def Ya2{n:Nat}{x:Br}(h:BrOk n x){g:Gt}(hg:gOk (n:Int) g=true):BrOk n (g8B x g):=by
 have h1:=Xgz h hg;exact ⟨h1.la,h1.hd,h1.rg,h1.p⟩
def Ydn{n:Nat}{x:Br}(h:BrOk n x)(hs:BrS x){g:Gt}(hg:gOk (n:Int) g=true):BrS (g8B x g):=Ydw h hs hg
def Y4i(x:Br)(g:Gt):(g8B x g).d.ns.length<=x.d.ns.length+3/\(g8B x g).d.ws.length<=x.d.ws.length+3:=Xim x g
def Ydo{x:Br}{g:Gt}(h:0<=x.d.t/\x.d.t<=7):0<=(g8B x g).d.t/\(g8B x g).d.t<=7:=by
 have h2:=Xqk (x:=x) (g:=g) (k:=4) ⟨h.1,by omega⟩ Z;have:(g8B x g).d.t=(gtB x g).d.t % 8:=Int.tmod_eq_emod_of_nonneg h2.1;omega
section
variable {x : Br} {g : Gt}
theorem Xnk(h:0<=x.d.t/\x.d.t<=7){y:Br}(hy:gtB x g=y)(ht:y.d.t=x.d.t):g8B x g=y:=by
 unfold g8B;rw[hy];exact Ybi h ht
end
def of8(c:Cx) : Br:=c.gs.foldl g8B (ofB0 c)
def ok8(c:Cx)(j:Nat) : Br:=(List.range j).foldl (fun x (q:Nat)=>nodB x 2 (q:Int) (q:Int)) (of8 c)
def Y1p(c:Cx)(j:Nat):ok8 c (j+1)=nodB (ok8 c j) 2 (j:Int) (j:Int):=by unfold ok8;rw[List.range_succ,List.foldl_append];rfl
def Y5q{c:Cx}(hl:c.gs.length<=800):of8 c=reB (ofB1 c):=Y0r c.gs (ofB0 c) 0 (Int.le_refl _) (Int.le_refl _) Z
def Xrx{c:Cx}(hl:c.gs.length<=800):∀ j,ok8 c j=reB (ofK c j)
 | 0=>Y5q hl
 | j+1=>by rw[Y1p,Xdw,Xrx hl j,Y5k]
def Yaz{c:Cx}(hl:c.gs.length<=800):(ok8 c c.n.toNat).d=ofD c:=by rw[Xrx hl];rfl
def Xrw(c:Cx):BrS (ofB0 c):=⟨List.Pairwise.nil,fun x hx=>by cases hx⟩
def Ycb{p q:Cx}(h:(!(((invO q).bind (conO p)).isSome)||!(dgC (((invO q).bind (conO p)).getD cZ)))=true):vfO p q=false:=by
 unfold vfO vfC;revert h;generalize ((invO q).bind (conO p)).isSome=x;generalize dgC (((invO q).bind (conO p)).getD cZ)=y;revert x y;decide
def Y6o{p q:Cx}(h:(!(((invO q).bind (conO p)).isSome)||!(dgC (((invO q).bind (conO p)).getD cZ)))=false):vfO p q=true/\dgC (((invO q).bind (conO p)).getD cZ)=true:=by
 unfold vfO vfC;revert h;generalize ((invO q).bind (conO p)).isSome=x;generalize dgC (((invO q).bind (conO p)).getD cZ)=y;revert x y;decide
def ctG(c:Cx) : Int:=((cntP isTk c.gs:Nat) : Int)
def Xp4{c:Cx}:((c.gs.countP fun g=>inR g.k 7 8:Nat) : Int)=ctG c:=by
 have e:(fun g:Gt=>inR g.k 7 8)=fun g=>isTk g.k:=by
  funext g;rw[Bool.eq_iff_iff,X11];unfold isTk;simp;omega
 unfold ctG cntP;rw[e,List.countP_eq_length_filter]
def Y9f{c:Cx}(h:dgC c=true):cnC c=ctG c:=by
 unfold cnC ctG;rw[Q4 (Xp7 h)]
def Y9g{c:Cx}(h:(!(cOk c)||!(dgC c))=true):dgC c=false:=by grind [cOk,dgC]
def gf(h x y:Bool) : Rg:=if h=true then (if (x&&y)=true then omZ 4 else 1) else (if (x==y)=true then 1 else 0)
def wf(w:Wr)(β:Nat->Bool) : Rg:=gf w.h (β w.a.toNat) (β w.b.toNat)
def wP(ws:List Wr)(β:Nat->Bool) : Rg:=ws.foldr (fun w z=>wf w β*z) 1
def nf(x:Nd)(b:Bool) : Rg:=if (x.k==3&&b)=true then omZ x.p else 1
def nP(ns:List Nd)(k:Nat)(β:Nat->Bool) : Rg:=match ns with
 | []=>1
 | x::l=>nf x (β k)*nP l (k+1) β
def fD(d:Dg)(β:Nat->Bool) : Rg:=omZ d.t*(nP d.ns 0 β*wP d.ws β)
def zL:List Nat->((Nat->Bool)->Rg)->(Nat->Bool)->Rg
 | [],G,β=>G β
 | k::l,G,β=>zL l G (upB β k false)+zL l G (upB β k true)
def Xam{β:Nat->Bool}{i j:Nat}{x y:Bool}(h:i≠j):upB (upB β i x) j y=upB (upB β j y) i x:=by grind [upB]
def X33:∀ (l:List Nat) {G H:(Nat->Bool)->Rg} (β:Nat->Bool),(∀ β,G β=H β)->zL l G β=zL l H β
 | [],_,_,_,h=>h _
 | k::l,G,H,β,h=>by unfold zL;rw[X33 l _ h,X33 l _ h]
def Xbh{l m:List Nat}(h:l.Perm m):∀ (G:(Nat->Bool)->Rg) (β:Nat->Bool),zL l G β=zL m G β:=by
 induction h with
 | nil=>intro _ _;rfl
 | cons x _ ih=>intro G β;unfold zL;rw[ih,ih]
 | swap x y l=>
  intro G β;by_cases e:x=y
  ·subst e;rfl
  ·show (zL l G (upB (upB β y false) x false)+zL l G (upB (upB β y false) x true))+(zL l G (upB (upB β y true) x false)+zL l G (upB (upB β y true) x true))=(zL l G (upB (upB β x false) y false)+zL l G (upB (upB β x false) y true))+(zL l G (upB (upB β x true) y false)+zL l G (upB (upB β x true) y true));rw[Xam (i:=y) (j:=x) Z,Xam (i:=y) (j:=x) Z,Xam (i:=y) (j:=x) Z,Xam (i:=y) (j:=x) Z];simp only[Xz];congr 1;rw[Xl]
 | trans _ _ ih1 ih2=>intro G β;exact (ih1 G β).trans (ih2 G β)
def Xa9(c:Rg):∀ (l:List Nat) (G:(Nat->Bool)->Rg) (β:Nat->Bool),zL l (fun β=>c*G β) β=c*zL l G β
 | [],_,_=>rfl
 | k::l,G,β=>by unfold zL;rw[Xa9 c l,Xa9 c l,X0g]
def Xhv{k:Nat}:∀ (l:List Nat) (G:(Nat->Bool)->Rg) (β:Nat->Bool),k ∉ l->zL (k::l) G β=zL l (fun β=>G (upB β k false)+G (upB β k true)) β
 | [],_,_,_=>rfl
 | i::l,G,β,h=>by
  have hi:k≠i:=fun e=>h (by simp[e]);have hl:k ∉ l:=fun e=>h (by simp[e]);have h1:=Xbh (List.Perm.swap i k l) G β;rw[h1];show zL (k::l) G (upB β i false)+zL (k::l) G (upB β i true)=_;rw[Xhv l G _ hl,Xhv l G _ hl];rfl
def Xz5{l m:List Wr}(h:l.Perm m)(β:Nat->Bool):wP l β=wP m β:=by
 induction h with
 | nil=>rfl
 | cons x _ ih=>show wf x β*wP _ β=wf x β*wP _ β;rw[ih]
 | swap x y l=>show wf y β*(wf x β*wP l β)=wf x β*(wf y β*wP l β);rw[X4]
 | trans _ _ h1 h2=>exact h1.trans h2
def Xu7(l m:List Wr)(β:Nat->Bool):wP (l++m) β=wP l β*wP m β:=by
 induction l with
 | nil=>show wP m β=1*wP m β;rw[Xb]
 | cons x l ih=>show wf x β*wP (l++m) β=wf x β*wP l β*wP m β;rw[ih,X3]
def Y21(a b:Int)(h:Bool)(β:Nat->Bool):wf ⟨min a b,max a b,h⟩ β=gf h (β a.toNat) (β b.toNat):=by grind [gf,wf]
def Xeb(ws:List Wr)(a b:Int)(h:Bool)(β:Nat->Bool):wP (jnW ws a b h) β=gf h (β a.toNat) (β b.toNat)*wP ws β:=by
 have:=Xz5 (X80 ws ⟨min a b,max a b,h⟩) β;unfold jnW;rw[this];show wf _ β*wP ws β=_;rw[Y21]
def Xn2{a b:Int}{w:Wr}(h:isW a b w=true)(β:Nat->Bool):wf w β=gf w.h (β a.toNat) (β b.toNat):=by
 have e:=X2t.1 h;rw[<- Y21,<- e.1,<- e.2]
def Xu8{ws:List Wr}{i:Nat}{w:Wr}(hi:ws[i]? = some w)(β:Nat->Bool):wP ws β=wf w β*wP (ctW ws i) β:=by
 obtain ⟨h1,rfl⟩:=Qg.1 hi;have e:ws=ws.take i++(ws[i]::ws.drop (i+1)):=by rw[<- Qy h1,W9]
 unfold ctW;rw[Xu7]
 conv=>lhs;rw[e]
 rw[Xu7];show wP (ws.take i) β*(wf ws[i] β*wP (ws.drop (i+1)) β)=_;rw[X4]
def Xiu:∀ (ns:List Nd) (m k:Nat) (x:Nd) (β:Nat->Bool),k<ns.length->nf (ns.getD k nZ) (β (m+k))*nP (ns.set k x) m β=nf x (β (m+k))*nP ns m β
 | [],_,_,_,_,h=>by simp at h
 | y::ns,m,0,x,β,_=>by
  show nf y (β m)*(nf x (β m)*nP ns (m+1) β)=nf x (β m)*(nf y (β m)*nP ns (m+1) β);rw[X4]
 | y::ns,m,k+1,x,β,h=>by
  have ih:=Xiu ns (m+1) k x β (by simpa using h);rw[show m+1+k=m+(k+1) by omega] at ih;show nf (ns.getD k nZ) (β (m+(k+1)))*(nf y (β m)*nP (ns.set k x) (m+1) β)=nf x (β (m+(k+1)))*(nf y (β m)*nP ns (m+1) β);rw[X4,ih,X4]
def Xfk(k:Int){x y:Rg}(h:omZ k*x=omZ k*y):x=y:=X8i _ h
def Xno{x:Nd}{b:Bool}{u v:Rg}(h:nf x b*u=nf x b*v):u=v:=by
 unfold nf at h;split at h
 ·exact Xfk _ h
 ·rwa [Xb,Xb] at h
def Xls{ns:List Nd}{k:Int}(hk:spI ns k=true)(m:Int)(β:Nat->Bool):nP (adN ns k m) 0 β=(if β k.toNat=true then omZ m else 1)*nP ns 0 β:=by
 have ⟨h0,h1,h3⟩:=X0z hk;have h:=Xiu ns 0 k.toNat ⟨(ns.getD k.toNat nZ).k,((ns.getD k.toNat nZ).p+m) % 8⟩ β h1;rw[Nat.zero_add] at h;refine Xno (x:=ns.getD k.toNat nZ) (b:=β k.toNat) ?_;unfold adN;rw[h,<- X3];congr 1;unfold nf;rw[h3];cases β k.toNat
 ·rfl
 ·show omZ _=omZ _*omZ m;rw[<- X2g];exact X40 (Cg.mod _)
def Yaq{ns:List Nd}{k:Int}(hk:k.toNat<ns.length)(β:Nat->Bool):nP ns 0 β=nf (ns.getD k.toNat nZ) (β k.toNat)*nP (dpN ns k) 0 β:=by
 have h:=Xiu ns 0 k.toNat nZ β hk;rw[Nat.zero_add] at h;unfold dpN;rw[h];show _=nf nZ _*_;rw[show nf nZ (β k.toNat)=1 from O,Xb]
def hdN(ws:List Wr) : Int:=((ws.filter fun w=>w.h).length:Int)
def exD(d:Dg) : Int:=hdN d.ws-d.r
def W64(x y:Int) : Prop:=∃ q:Int,x=y+18446744073709551616*q
def W64.rfl'{x y:Int}(h:x=y):W64 x y:=⟨0,by omega⟩
def W64.trans{x y z:Int}(h:W64 x y)(k:W64 y z):W64 x z:=by have ⟨q,h⟩:=h;have ⟨r,k⟩:=k;exact ⟨q+r,by omega⟩
def W64.wr(x:Int):W64 (wr x) x:=by
 refine ⟨(IntKind.i64.wrap x-x)/18446744073709551616,?_⟩;show IntKind.i64.wrap x=_;rw[IntKind.wrap_i64];omega
def Xxq{l m:List Wr}(h:l.Perm m):hdN l=hdN m:=by unfold hdN;rw[(h.filter _).length_eq]
def X9d(w:Wr)(l:List Wr):hdN (w::l)=(if w.h=true then 1 else 0)+hdN l:=by grind [hdN]
def Xc8(ws:List Wr)(a b:Int)(h:Bool):hdN (jnW ws a b h)=(if h=true then 1 else 0)+hdN ws:=by
 have:=Xxq (X80 ws ⟨min a b,max a b,h⟩);unfold jnW;rw[this,X9d]
def Xqo(l m:List Wr):hdN (l++m)=hdN l+hdN m:=by simp[hdN]
def Xqp{ws:List Wr}{i:Nat}{w:Wr}(hi:ws[i]? = some w):hdN ws=(if w.h=true then 1 else 0)+hdN (ctW ws i):=by
 obtain ⟨h1,rfl⟩:=Qg.1 hi;have e:ws=ws.take i++(ws[i]::ws.drop (i+1)):=by rw[<- Qy h1,W9]
 unfold ctW;rw[Xqo]
 conv=>lhs;rw[e]
 rw[Xqo,X9d];omega
def Xxo(x y:Bool):gf false x y*gf false x y=gf false x y:=by cases x<;>cases y<;>decide
def Y0z(x y:Bool):gf true x y*gf true x y=1:=by cases x<;>cases y<;>decide
def Ya4(x y:Bool):gf true x y*gf false x y=(if x=true then omZ 4 else 1)*gf false x y:=by cases x<;>cases y<;>decide
def Y4l(x y:Bool):gf true x y*gf false x y=(if y=true then omZ 4 else 1)*gf false x y:=by cases x<;>cases y<;>decide
def Y5g{d:Dg}{a b:Int}(h:Bool)(ha:spI d.ns a=true)(hb:spI d.ns b=true)(β:Nat->Bool):fD (lkD d a b h) β=gf h (β a.toNat) (β b.toNat)*fD d β:=by
 unfold lkD;split
 ·unfold fD;dsimp only;rw[Xeb];simp only[X4]
 ·rename_i h0;have ⟨w,h1,h2,_⟩:=X5x (l:=d.ws) (a:=a) (b:=b) Z;have hg:d.ws.getD (fdW d.ws a b).toNat wZ=w:=by rw[Qa,h1];rfl
  have hc:=Xu8 h1 β;rw[Xn2 h2] at hc;rw[hg];split
  ·rename_i h3;rw[Qd] at h3;unfold fD;dsimp only;rw[hc,h3.1,h3.2,X4 (gf _ _ _),X4 (gf _ _ _) (nP _ _ _),<- X3 (gf _ _ _) (gf _ _ _),Y0z,Xb]
  ·rename_i h3;split
   ·rename_i h4;have hm:spI d.ns (min a b)=true:=by
     rcases Int.le_total a b with e|e
     ·rw[Int.min_eq_left e];exact ha
     ·rw[Int.min_eq_right e];exact hb
    unfold fD;dsimp only;rw[Xls hm,Xeb,hc];have key:(if β (min a b).toNat=true then omZ 4 else 1)*gf false (β a.toNat) (β b.toNat)=gf h (β a.toNat) (β b.toNat)*gf w.h (β a.toNat) (β b.toNat):=by
     have e1:(if β (min a b).toNat=true then omZ 4 else 1)*gf false (β a.toNat) (β b.toNat)=gf true (β a.toNat) (β b.toNat)*gf false (β a.toNat) (β b.toNat):=by
      rcases Int.le_total a b with e|e
      ·rw[Int.min_eq_left e,Ya4]
      ·rw[Int.min_eq_right e,Y4l]
     rw[e1];cases hw:w.h<;>cases h
     ·rw[hw] at h4;cases h4
     ·rfl
     ·rw[Xs]
     ·rw[hw] at h4;cases h4
    rw[show (if β (min a b).toNat=true then omZ 4 else 1)*nP d.ns 0 β*(gf false (β a.toNat) (β b.toNat)*wP (ctW d.ws (fdW d.ws a b).toNat) β)=nP d.ns 0 β*(((if β (min a b).toNat=true then omZ 4 else 1)*gf false (β a.toNat) (β b.toNat))*wP (ctW d.ws (fdW d.ws a b).toNat) β) by simp only[X3,X4],key];simp only[X3,X4]
   ·rename_i h4;have hw:w.h=false/\h=false:=by
     cases hw:w.h<;>cases h
     ·exact ⟨O,O⟩
     ·rw[hw] at h4;exact absurd O h4
     ·rw[hw] at h4;exact absurd O h4
     ·rw[hw] at h3;exact absurd O h3
    unfold fD;rw[hc,hw.1,hw.2];rw[show gf false (β a.toNat) (β b.toNat)*(omZ d.t*(nP d.ns 0 β*(gf false (β a.toNat) (β b.toNat)*wP (ctW d.ws (fdW d.ws a b).toNat) β)))=omZ d.t*(nP d.ns 0 β*((gf false (β a.toNat) (β b.toNat)*gf false (β a.toNat) (β b.toNat))*wP (ctW d.ws (fdW d.ws a b).toNat) β)) by simp only[X3,X4],Xxo]
def Yak(d:Dg)(a b:Int)(h:Bool):W64 (exD (lkD d a b h)) (exD d+if h=true then 1 else 0):=by
 unfold lkD;split
 ·refine W64.rfl' ?_;unfold exD;dsimp only;rw[Xc8];omega
 ·rename_i h0;have ⟨w,h1,h2,_⟩:=X5x (l:=d.ws) (a:=a) (b:=b) Z;have hg:d.ws.getD (fdW d.ws a b).toNat wZ=w:=by rw[Qa,h1];rfl
  have hc:=Xqp h1;rw[hg];split
  ·rename_i h3;rw[Qd] at h3;have ⟨q,hq⟩:=W64.wr (d.r-2);refine ⟨-q,?_⟩;unfold exD;dsimp only;rw[hq,hc,h3.1,h3.2,Q4 rfl];omega
  ·rename_i h3;split
   ·rename_i h4;have ⟨q,hq⟩:=W64.wr (d.r-1);refine ⟨-q,?_⟩;unfold exD;dsimp only;rw[hq,Xc8,hc];cases hw:w.h<;>cases h
    ·rw[hw] at h4;cases h4
    ·simp;omega
    ·simp;omega
    ·rw[hw] at h4;cases h4
   ·rename_i h4;cases h
    ·exact W64.rfl' O4
    ·cases hw:w.h
     ·rw[hw] at h4;exact absurd O h4
     ·rw[hw] at h3;exact absurd O h3
def Xrl{d:Dg}{a b:Int}(h:Bool)(β:Nat->Bool):fD (mtD d a b h) β=gf h (β a.toNat) (β b.toNat)*fD d β:=by
 unfold mtD;split
 ·rename_i h1;rw[Qd] at h1;exact Y5g h h1.1 h1.2 β
 ·unfold fD;dsimp only;rw[Xeb];simp only[X4]
def Y1b(d:Dg)(a b:Int)(h:Bool):W64 (exD (mtD d a b h)) (exD d+if h=true then 1 else 0):=by
 unfold mtD;split
 ·exact Yak d a b h
 ·refine W64.rfl' ?_;unfold exD;dsimp only;rw[Xc8];omega
def Xtt{d:Dg}{a b:Int}(hp:tyW d.ws a b≠1)(β:Nat->Bool):fD (tgD d a b) β=gf true (β a.toNat) (β b.toNat)*fD d β:=by
 unfold tgD;split
 ·rename_i h0;have ⟨w,h1,h2,_⟩:=X5x h0;have hg:d.ws.getD (fdW d.ws a b).toNat wZ=w:=by rw[Qa,h1];rfl
  have hw:w.h=true:=by
   rw[Xjg h0,hg] at hp;cases hw:w.h with
   | true=>rfl
   | false=>rw[hw] at hp;simp at hp
  have hc:=Xu8 h1 β;rw[Xn2 h2,hw] at hc;unfold fD;dsimp only;rw[hc,X4 (gf _ _ _),X4 (gf _ _ _) (nP _ _ _),<- X3 (gf _ _ _) (gf _ _ _),Y0z,Xb]
 ·unfold fD;dsimp only;rw[Xeb];simp only[X4]
def Y1x{d:Dg}{a b:Int}(hp:tyW d.ws a b≠1):W64 (exD (tgD d a b)) (exD d):=by
 unfold tgD;split
 ·rename_i h0;have ⟨w,h1,h2,_⟩:=X5x h0;have hg:d.ws.getD (fdW d.ws a b).toNat wZ=w:=by rw[Qa,h1];rfl
  have hw:w.h=true:=by
   rw[Xjg h0,hg] at hp;cases hw:w.h with
   | true=>rfl
   | false=>rw[hw] at hp;simp at hp
  have hc:=Xqp h1;have ⟨q,hq⟩:=W64.wr (d.r-1);refine ⟨-q,?_⟩;unfold exD;dsimp only;rw[hq,hc,hw,Q4 rfl];omega
 ·have ⟨q,hq⟩:=W64.wr (d.r+1);refine ⟨-q,?_⟩;unfold exD;dsimp only;rw[hq,Xc8,Q4 rfl];omega
def Xyz{ws:List Wr}(hs:WSd ws){i o:Int}{w:Wr}(hw:w ∈ ws)(h:isW i o w=true):tyW ws i o=if w.h=true then 2 else 1:=by
 have hge:0<=fdW ws i o:=by
  rcases X54 ws i o with ⟨_,h2⟩|⟨k,x,h1,_⟩
  ·rw[h2 w hw] at h;cases h
  ·omega
 have ⟨x,h1,h2,_⟩:=X5x hge;have e1:=X2t.1 h;have e2:=X2t.1 h2;have e:x=w:=Xg3 hs (Qe h1) hw (by rw[X5p];omega) (by rw[X5p];omega);rw[Xjg hge,show ws.getD (fdW ws i o).toNat wZ=x from by rw[Qa,h1];rfl,e]
def Xiw{w:Wr}(hl:w.a<w.b){k v:Int}(h:otW k w=some v):isW k v w=true:=by grind [isW,otW]
def nbP(ws:List Wr)(k:Int)(x:Bool)(β:Nat->Bool)(l:List Int) : Rg:=l.foldr (fun v z=>gf (tyW ws k v==2) x (β v.toNat)*z) 1
def hcN(ws:List Wr)(k:Int)(l:List Int) : Int:=((l.filter fun v=>tyW ws k v==2).length:Int)
def X5d(ws:List Wr)(k v:Int)(l:List Int):hcN ws k (v::l)=(if (tyW ws k v==2)=true then 1 else 0)+hcN ws k l:=by grind [hcN,tyW]
def Xia{ws:List Wr}(h:InW ws)(k:Int)(β:Nat->Bool):∀ l:List Wr,(∀ w ∈ l,w ∈ ws)->wP l β=nbP ws k (β k.toNat) β (nearW l k)*wP (dpW l k) β/\hdN l=hcN ws k (nearW l k)+hdN (dpW l k)
 | [],_=>⟨(Xb _).symm,by unfold hcN nearW dpW;simp⟩
 | w::l,hw=>by
  have ⟨ih1,ih2⟩:=Xia h k β l fun x hx=>hw x (by simp[hx]);have hwm:=hw w O4;have hl:=h.l w hwm;cases ho:otW k w with
  | none=>
   have hne:(w.a != k&&w.b != k)=true:=by
    unfold otW at ho;split at ho
    ·cases ho
    ·split at ho
     ·cases ho
     ·rename_i h1 h2;simp;exact ⟨fun e=>h1 e.symm,fun e=>h2 e.symm⟩
   have e1:nearW (w::l) k=nearW l k:=by unfold nearW;rw[List.filterMap_cons,ho]
   have e2:dpW (w::l) k=w::dpW l k:=by unfold dpW;rw[List.filter_cons,Q4 hne]
   rw[e1,e2];refine ⟨?_,by rw[X9d,X9d];omega⟩;show wf w β*wP l β=_*(wf w β*_);rw[ih1,X4];rfl
  | some v=>
   have hne:(w.a != k&&w.b != k)=false:=by
    rcases X5g ho with ⟨h1,_⟩|⟨h1,_⟩
    ·rw[<- h1];simp
    ·rw[<- h1];simp
   have e1:nearW (w::l) k=v::nearW l k:=by unfold nearW;rw[List.filterMap_cons,ho]
   have e2:dpW (w::l) k=dpW l k:=by unfold dpW;rw[List.filter_cons,Q3 (by rw[hne];decide)]
   have hi:=Xiw hl ho;have ht:(tyW ws k v==2)=w.h:=by
    rw[Xyz h.s hwm hi];cases w.h<;>rfl
   rw[e1,e2];refine ⟨?_,by rw[X9d,X5d,ht];omega⟩;show wf w β*wP l β=gf (tyW ws k v==2) (β k.toNat) (β v.toNat)*nbP ws k (β k.toNat) β (nearW l k)*_;rw[ih1,ht,Xn2 hi,X3]
def Ycc{ws:List Wr}(h:InW ws)(k:Int)(β:Nat->Bool):wP ws β=nbP ws k (β k.toNat) β (nearW ws k)*wP (dpW ws k) β:=(Xia h k β ws fun _ hw=>hw).1
def Ya8{ws:List Wr}(h:InW ws)(k:Int):hdN ws=hcN ws k (nearW ws k)+hdN (dpW ws k):=(Xia h k (fun _=>false) ws fun _ hw=>hw).2
def Y9t{d:Dg}(hD:InD d){a:Int}(ha:a.toNat<d.ns.length)(β:Nat->Bool):fD d β=nf (d.ns.getD a.toNat nZ) (β a.toNat)*(nbP d.ws a (β a.toNat) β (nearW d.ws a)*fD (id0 d a) β):=by
 unfold fD id0;dsimp only;rw[Yaq ha,Ycc hD.w a];simp only[X3,X4]
def Xdi{d:Dg}(hD:InD d)(a:Int):exD d=hcN d.ws a (nearW d.ws a)+exD (id0 d a):=by
 unfold exD id0;dsimp only;rw[Ya8 hD.w a];omega
def Xu9{β:Nat->Bool}{k:Nat}{x:Bool}:∀ ws:List Wr,(∀ w ∈ ws,w.a.toNat≠k/\w.b.toNat≠k)->wP ws (upB β k x)=wP ws β
 | [],_=>rfl
 | w::l,h=>by
  have hw:=h w O4;show wf w (upB β k x)*wP l (upB β k x)=wf w β*wP l β;rw[Xu9 l fun z hz=>h z (by simp[hz])];congr 1;unfold wf upB;rw[Q3 hw.1,Q3 hw.2]
def Xro{β:Nat->Bool}{x:Bool}:∀ (ns:List Nd) (m k:Nat),(∀ i y,ns[i]? = some y->m+i=k->y.k≠3)->nP ns m (upB β k x)=nP ns m β
 | [],_,_,_=>rfl
 | y::ns,m,k,h=>by
  show nf y (upB β k x m)*nP ns (m+1) (upB β k x)=nf y (β m)*nP ns (m+1) β;rw[Xro ns (m+1) k fun i z hz hi=>h (i+1) z (by simpa using hz) Z];congr 1;by_cases e:m=k
  ·have:=h 0 y O Z;unfold nf;rw[show (y.k==3)=false from by simpa using this];rfl
  ·unfold upB;rw[Q3 e]
def Y9v{d:Dg}(hD:InD d){a:Int}(ha:0<=a)(β:Nat->Bool)(x:Bool):fD (id0 d a) (upB β a.toNat x)=fD (id0 d a) β:=by
 unfold fD id0;dsimp only;rw[Xro,Xu9]
 ·intro w hw;have h1:=List.mem_filter.1 hw;have h2:=hD.e w h1.1;have h3:=hD.w.l w h1.1;have h4:w.a≠a/\w.b≠a:=by simpa using h1.2
  omega
 ·intro i y hy hi;rw[Nat.zero_add] at hi;subst hi;unfold dpN at hy;rw[List.getElem?_set] at hy;split at hy
  ·split at hy
   ·injection hy with hy;subst hy;decide
   ·cases hy
  ·rename_i h;exact absurd O h
def Y1e{ws:List Wr}{k:Int}{x y:Bool}{β:Nat->Bool}{j:Nat}:∀ l:List Int,(∀ v ∈ l,v.toNat≠j)->nbP ws k x (upB β j y) l=nbP ws k x β l
 | [],_=>rfl
 | v::l,h=>by
  show gf _ x (upB β j y v.toNat)*nbP ws k x (upB β j y) l=gf _ x (β v.toNat)*nbP ws k x β l;rw[Y1e l fun z hz=>h z (by simp[hz])];unfold upB;rw[Q3 (h v O4)]
def X8m(β:Nat->Bool)(k:Nat)(x:Bool):upB β k x k=x:=by unfold upB;rw[Q4 rfl]
def X5c{β:Nat->Bool}{k j:Nat}{x:Bool}(h:j≠k):upB β k x j=β j:=by grind [upB]
def X8c{d:Dg}(hD:InD d){a:Int}(ha:0<=a/\a.toNat<d.ns.length)(β:Nat->Bool)(x:Bool):fD d (upB β a.toNat x)=nf (d.ns.getD a.toNat nZ) x*(nbP d.ws a x β (nearW d.ws a)*fD (id0 d a) β):=by
 rw[Y9t hD ha.2,Y9v hD ha.1,X8m,Y1e];intro v hv;have h1:=X2p hD hv;have h2:=X4f hD hv;omega
def spS(ns:List Nd) : List Nat:=(List.range ns.length).filter fun i=>(ns.getD i nZ).k==3
def Xcq(ns:List Nd)(k m:Int):spS (adN ns k m)=spS ns:=by grind [adN,spS]
def Xte(d:Dg)(a b:Int)(h:Bool):spS (mtD d a b h).ns=spS d.ns:=by
 unfold mtD lkD;split
 ·split
  ·rfl
  ·split
   ·rfl
   ·split
    ·exact Xcq _ _ _
    ·rfl
 ·rfl
def Y6g(ns:List Nd):(spS ns).Nodup:=List.Nodup.sublist (List.filter_sublist) List.nodup_range
def Xtc{ns:List Nd}{a:Int}(h:spI ns a=true):(spS ns).Perm (a.toNat::spS (dpN ns a)):=by
 have ⟨h0,h1,h3⟩:=X0z h;have hm:a.toNat ∈ spS ns:=List.mem_filter.2 ⟨W2.2 h1,by simpa using h3⟩;have e:spS (dpN ns a)=(spS ns).erase a.toNat:=by
  rw[(Y6g ns).erase_eq_filter];unfold spS;rw[X2e,List.filter_filter];refine List.filter_congr fun i hi=>?_;unfold dpN;rw[Qa,List.getElem?_set];split
  ·rename_i e;subst e;simp[nZ]
  ·rename_i e;rw[<- Qa];have:(i != a.toNat)=true:=by simpa using fun h=>e h.symm
   rw[this,Qw]
 rw[e];exact List.perm_cons_erase hm
def Xtf{ns:List Nd}{a:Int}(h:a.toNat<ns.length):a.toNat ∉ spS (dpN ns a):=fun hm=>by
 have h1:=(List.mem_filter.1 hm).2;unfold dpN at h1;rw[Qa,List.getElem?_set_self h] at h1;simp[nZ] at h1
def smD(d:Dg)(β:Nat->Bool) : Rg:=zL (spS d.ns) (fD d) β
def Xt6{d:Dg}{a:Int}(ha:spI d.ns a=true)(β:Nat->Bool):smD d β=zL (spS (dpN d.ns a)) (fun β=>fD d (upB β a.toNat false)+fD d (upB β a.toNat true)) β:=by
 unfold smD;rw[Xbh (Xtc ha),Xhv _ _ _ (Xtf (X0z ha).2.1)]
def RelD(d e:Dg) : Prop:=∃ c:Nat,c<=2/\W64 (exD d) (exD e+(c:Int))/\∀ β,smD d β=s2^c*smD e β
def Xfs{d e:Dg}{a:Int}(ha:spI d.ns a=true)(c:Nat)(hc:c<=2)(he:W64 (exD d) (exD e+(c:Int)))(hs:spS e.ns=spS (dpN d.ns a))(h:∀ β,fD d (upB β a.toNat false)+fD d (upB β a.toNat true)=s2^c*fD e β):RelD d e:=by
 refine ⟨c,hc,he,fun β=>?_⟩;rw[Xt6 ha,X33 _ _ h,Xa9];unfold smD;rw[hs]
def Xy8{x:Nd}(h:x.p=0)(b:Bool):nf x b=1:=by
 unfold nf;rw[h];split<;>rfl
def Y4n(h1 h2 x y:Bool):gf h1 false x*gf h2 false y+gf h1 true x*gf h2 true y=s2^(if (h1&&h2)=true then 2 else 0)*gf (h1 != h2) x y:=by
 cases h1<;>cases h2<;>cases x<;>cases y<;>decide
def Y1y{ws:List Wr}(hw:InW ws){k v:Int}(hv:v ∈ nearW ws k):tyW ws k v=1∨tyW ws k v=2:=by
 have ⟨w,h1,h2⟩:=X5z.1 hv;rw[Xyz hw.s h1 (Xiw (hw.l w h1) h2)];cases w.h
 ·exact .inl O
 ·exact .inr O
def Xu0{l:List Int}(h:l.length=2):l=[l.getD 0 0,l.getD 1 0]:=by
 match l,h with
 | [_,_],_=>rfl
def Y51{d:Dg}(hD:InD d){a:Int}(hc:idC d a=true):RelD d (idD d a):=by
 unfold idC at hc;simp only[Qd,beq_iff_eq] at hc;have ⟨⟨hs,hp⟩,hl⟩:=hc;have hs3:=X0z hs;have hnr:=Xu0 hl;have m0:(nearW d.ws a).getD 0 0 ∈ nearW d.ws a:=Xbb Z;have m1:(nearW d.ws a).getD 1 0 ∈ nearW d.ws a:=Xbb Z;have t0:=Y1y hD.w m0;have t1:=Y1y hD.w m1;have hx:=Xdi hD a;unfold idD;revert hnr m0 m1 t0 t1;generalize (nearW d.ws a).getD 0 0=u;generalize (nearW d.ws a).getD 1 0=v;intro hnr m0 m1 t0 t1;have hne:(tyW d.ws a u != tyW d.ws a v)=((tyW d.ws a u==2) != (tyW d.ws a v==2)):=by rcases t0 with e|e<;>rcases t1 with e'|e'<;>rw[e,e']<;>rfl
 have he:=Y1b (id0 d a) u v (tyW d.ws a u != tyW d.ws a v);rw[hnr] at hx;have hh:hcN d.ws a [u,v]=(if (tyW d.ws a u==2)=true then 1 else 0)+(if (tyW d.ws a v==2)=true then 1 else 0):=by
  rw[X5d,X5d];have:hcN d.ws a []=0:=rfl;omega
 rw[hh] at hx;refine Xfs hs (if ((tyW d.ws a u==2)&&(tyW d.ws a v==2))=true then 2 else 0) (by split<;>omega) ?_ (Xte _ _ _ _) fun β=>?_
 ·rw[hne] at he ⊢;have ⟨q,hq⟩:=he;refine ⟨-q,?_⟩;rw[hq,hx];cases (tyW d.ws a u==2)<;>cases (tyW d.ws a v==2)<;>simp<;>omega
 ·rw[X8c hD ⟨hs3.1,hs3.2.1⟩,X8c hD ⟨hs3.1,hs3.2.1⟩,Xy8 hp,Xy8 hp,Xb,Xb,hnr,Xrl,hne,<- X0e,<- X3,<- Y4n];unfold nbP;simp only[List.foldr_cons,List.foldr_nil,X08]
def Y5i{d:Dg}(hD:InD d){a:Int}(hc:loC d a=true):RelD d (loD d a):=by
 unfold loC at hc;simp only[Qd,beq_iff_eq] at hc;have ⟨⟨hs,hp⟩,hl⟩:=hc;have hs3:=X0z hs;have hnr:nearW d.ws a=[]:=List.eq_nil_of_length_eq_zero hl;have hx:=Xdi hD a;rw[hnr] at hx;refine Xfs hs 2 (Qb _) ?_ O fun β=>?_
 ·have ⟨q,hq⟩:=W64.wr (d.r+2);refine ⟨q,?_⟩;have h1:exD (loD d a)=hdN (dpW d.ws a)-wr (d.r+2):=rfl;have h2:exD (id0 d a)=hdN (dpW d.ws a)-d.r:=rfl;have h3:hcN d.ws a []=0:=rfl;rw[h1,hq];omega
 ·rw[X8c hD ⟨hs3.1,hs3.2.1⟩,X8c hD ⟨hs3.1,hs3.2.1⟩,Xy8 hp,Xy8 hp,Xb,Xb,hnr];have e1:∀ x,nbP d.ws a x β []=1:=fun _=>rfl;have e2:fD (loD d a) β=fD (id0 d a) β:=rfl;have e3:s2^2=(1:Rg)+1:=by decide
  rw[e1,e1,e2,e3,X0e]
def prZ(a:Int)(f:Int->Rg)(l:List Int) : Rg:=l.foldr (fun v z=>if v=a then z else f v*z) 1
def Yba{f:Int->Rg}:∀ {l:List Int} {a:Int},a ∈ l->f a=0->l.foldr (fun v z=>f v*z) 1=0
 | v::l,a,hm,h0=>by
  rw[List.foldr_cons];rcases Qv.1 hm with rfl|hm
  ·rw[h0,Xo]
  ·rw[Yba hm h0,Xt]
def Ybb{f:Int->Rg}{a:Int}(h1:f a=1):∀ l:List Int,l.foldr (fun v z=>f v*z) 1=prZ a f l
 | []=>rfl
 | v::l=>by
  unfold prZ;rw[List.foldr_cons,List.foldr_cons,Ybb h1 l];split
  ·rename_i e;rw[e,h1,Xb];rfl
  ·rfl
def Xle{d:Dg}{a b:Int}(β:Nat->Bool):∀ (l:List Int) (o:Dg),fD (fuS d a b l o) β=prZ a (fun v=>gf (tyW d.ws b v==2) (β a.toNat) (β v.toNat)) l*fD o β
 | [],o=>(Xb _).symm
 | v::l,o=>by
  show fD (fuS d a b l (fuT d a b o v)) β=_;rw[Xle β l];unfold prZ;rw[List.foldr_cons];unfold fuT;split
  ·rfl
  ·rw[Xrl,X4,X3]
def Xqc{d:Dg}{a b:Int}:∀ (l:List Int) (o:Dg),W64 (exD (fuS d a b l o)) (exD o+hcN d.ws b (l.filter fun v=>v != a))
 | [],o=>W64.rfl' (by show exD o=exD o+hcN d.ws b [];have:hcN d.ws b []=0:=rfl;omega)
 | v::l,o=>by
  refine (Xqc l (fuT d a b o v)).trans ?_;unfold fuT;rw[List.filter_cons];split
  ·rename_i e;rw[Q3 (by simpa using e)];exact W64.rfl' O
  ·rename_i e;rw[Q4 (by simpa using e),X5d];have ⟨q,hq⟩:=Y1b o a v (tyW d.ws b v==2);exact ⟨q,by rw[hq];omega⟩
def Xqd{d:Dg}{a b:Int}:∀ (l:List Int) (o:Dg),spS (fuS d a b l o).ns=spS o.ns
 | [],_=>rfl
 | v::l,o=>by
  show spS (fuS d a b l (fuT d a b o v)).ns=_;rw[Xqd l];unfold fuT;split
  ·rfl
  ·exact Xte _ _ _ _
def Xfd{ws:List Wr}{b a:Int}(h:(tyW ws b a==2)=false):∀ l:List Int,hcN ws b (l.filter fun v=>v != a)=hcN ws b l
 | []=>rfl
 | v::l=>by
  rw[List.filter_cons];split
  ·rw[X5d,X5d,Xfd h l]
  ·rename_i e;have e:v=a:=by simpa using e
   rw[X5d,Xfd h l,e,h];simp
def Y4g{d:Dg}(hD:InD d){a b:Int}(hc:fuC d a b=true):RelD d (fuD d a b):=by
 have h1:=Xc4 hc;have h2:=Xc5 hc;have ht:tyW d.ws b a=1:=by
  unfold fuC at hc;simp only[Qd,beq_iff_eq] at hc;rw[Xbg];exact hc.2
 have hm:a ∈ nearW d.ws b:=X9q hD.w Z;have hx:=Xdi hD b;have hsa:spI (dpN d.ns b) a=true:=by rw[X5i h2.1.1 h2.2.1 Z];exact h1.1
 have ht2:(tyW d.ws b a==2)=false:=by rw[ht];rfl
 refine Xfs h1.2.1 0 Z ?_ ((Xqd _ _).trans (Xcq _ _ _)) fun β=>?_
 ·have ⟨q,hq⟩:=Xqc (d:=d) (a:=a) (b:=b) (nearW d.ws b) (fu0 d a b);refine ⟨-q,?_⟩;have e:exD (fu0 d a b)=exD (id0 d b):=rfl;rw[Xfd ht2,e] at hq;show exD d=exD (fuS d a b (nearW d.ws b) (fu0 d a b))+_+_;rw[hq];omega
 ·rw[X8c hD h2.2,X8c hD h2.2];have key:∀ x,nbP d.ws b x β (nearW d.ws b)=if x=β a.toNat then prZ a (fun v=>gf (tyW d.ws b v==2) (β a.toNat) (β v.toNat)) (nearW d.ws b) else 0:=fun x=>by
   unfold nbP;split
   ·rename_i e;subst e;exact Ybb (f:=fun v=>gf (tyW d.ws b v==2) (β a.toNat) (β v.toNat)) (a:=a) (by rw[ht2];unfold gf;simp) _
   ·rename_i e;refine Yba (f:=fun v=>gf (tyW d.ws b v==2) x (β v.toNat)) hm ?_;rw[ht2];unfold gf;simp[e]
  have hf0:fD (fu0 d a b) β=(if β a.toNat=true then omZ (d.ns.getD b.toNat nZ).p else 1)*fD (id0 d b) β:=by
   unfold fD fu0 id0;dsimp only;rw[Xls hsa];simp only[X3,X4]
  have hnf:∀ x,nf (d.ns.getD b.toNat nZ) x=if x=true then omZ (d.ns.getD b.toNat nZ).p else 1:=fun x=>by
   unfold nf;rw[(X0z h1.2.1).2.2];cases x<;>rfl
  rw[key,key,hnf,hnf];show _=s2^0*fD (fuS d a b (nearW d.ws b) (fu0 d a b)) β;rw[show s2^0=(1:Rg) from O,Xb,Xle,hf0];cases β a.toNat
  ·simp only[if_true,Bool.false_eq_true,if_false,Xo,Xt,Xb,X01,reduceCtorEq]
  ·simp only[if_true,Bool.false_eq_true,if_false,Xo,Xt,Xb,X09,reduceCtorEq];rw[X4]
def cntB(β:Nat->Bool)(l:List Int) : Int:=((l.filter fun v=>β v.toNat).length:Int)
def b1(b:Bool) : Int:=if b=true then 1 else 0
def Xar(β:Nat->Bool):cntB β []=0:=rfl
def X5u(β:Nat->Bool)(v:Int)(l:List Int):cntB β (v::l)=b1 (β v.toNat)+cntB β l:=by grind [b1,cntB]
def Xv4(β:Nat->Bool)(l m:List Int):cntB β (l++m)=cntB β l+cntB β m:=by simp[cntB]
def Y2k{β:Nat->Bool}{l:List Int}{i:Nat}(hi:i<l.length):cntB β (l.take (i+1))=cntB β (l.take i)+b1 (β (l.getD i 0).toNat):=by
 rw[Qt,Xg (d:=(0:Int)) hi,Option.toList_some,Xv4,X5u,Xar];omega
def Y4k(x y:Bool):gf true x y=omZ (4*(b1 x*b1 y)):=by cases x<;>cases y<;>rfl
def Yac(b:Bool)(m:Int):(if b=true then omZ m else 1)=omZ (m*b1 b):=by
 unfold b1;cases b
 ·rw[Q3 O5,Q3 O5,Int.mul_zero];rfl
 ·rw[Q4 O,Q4 O,Int.mul_one]
def X9e{ws:List Wr}{k:Int}(β:Nat->Bool):∀ {l:List Int},(∀ v ∈ l,tyW ws k v=2)->∀ x,nbP ws k x β l=omZ (4*(b1 x*cntB β l))
 | [],_,x=>by unfold nbP;rw[Xar,Int.mul_zero,Int.mul_zero];rfl
 | v::l,h,x=>by
  show gf (tyW ws k v==2) x (β v.toNat)*nbP ws k x β l=_;rw[h v O4,X9e β (fun z hz=>h z (by simp[hz])) x,show ((2:Int)==2)=true from O,Y4k,<- X2g,X5u,Int.mul_add,Int.mul_add]
def Xfc{ws:List Wr}{k:Int}:∀ {l:List Int},(∀ v ∈ l,tyW ws k v=2)->hcN ws k l=l.length
 | [],_=>rfl
 | v::l,h=>by
  rw[X5d,h v O4,Xfc fun z hz=>h z (by simp[hz]),Qs];simp;omega
def Xy9{ns:List Nd}{a:Int}(h:spI ns a=true)(x:Bool):nf (ns.getD a.toNat nZ) x=omZ ((ns.getD a.toNat nZ).p*b1 x):=by
 unfold nf;rw[(X0z h).2.2];unfold b1;cases x
 ·rw[Q3 O5,Q3 O5,Int.mul_zero];rfl
 ·rw[Q4 O5,Q4 O,Int.mul_one]
def Xmv{L:List Int}{x:Int}(hx:x ∈ L)(β:Nat->Bool):∀ (r:List Int) (o:Dg),NoPl o.ws L->(∀ y ∈ r,y ∈ L)->fD (tgL o x r) β=omZ (4*(b1 (β x.toNat)*cntB β r))*fD o β/\W64 (exD (tgL o x r)) (exD o)/\NoPl (tgL o x r).ws L
 | [],o,h,_=>⟨by rw[Xar,Int.mul_zero,Int.mul_zero,X41,Xb];rfl,W64.rfl' rfl,h⟩
 | y::r,o,h,hr=>by
  have hy:=hr y O4;have hp:=h.ty hx hy;have ⟨h1,h2,h3⟩:=Xmv hx β r (tgD o x y) (h.tg x y) fun z hz=>hr z (by simp[hz]);refine ⟨?_,h2.trans (Y1x hp),h3⟩;show fD (tgL (tgD o x y) x r) β=_;rw[h1,Xtt hp,Y4k,X5u,Int.mul_add,Int.mul_add,X2g,X3,X4]
def Xos{o:Dg}{k:Int}(hk:spI o.ns k=true)(m:Int)(β:Nat->Bool):fD { o with ns:=adN o.ns k m } β=omZ (m*b1 (β k.toNat))*fD o β:=by
 unfold fD;dsimp only;rw[Xls hk,Yac];simp only[X3,X4]
def Xg0(x:Int)(l:List Int)(o:Dg):(tgL o x l).ns=o.ns:=(Xmu x l o).1
def Xts(x:Int):∀ (l:List Int) (o:Dg),(tgL o x l).t=o.t
 | [],_=>rfl
 | y::l,o=>by
  show (tgL (tgD o x y) x l).t=o.t;rw[Xts x l];unfold tgD;split<;>rfl
def Xlo{p:Int}{l:List Int}{o:Dg}(h:NoPl o.ws l)(hs:∀ v ∈ l,spI o.ns v=true)(β:Nat->Bool):∀ i,i<=l.length->
  fD (lcS p l o i) β=omZ ((8-p)*cntB β (l.take i)+2*(cntB β (l.take i)*(cntB β (l.take i)-1)))*fD o β/\W64 (exD (lcS p l o i)) (exD o)/\NoPl (lcS p l o i).ws l/\(∀ u,spI (lcS p l o i).ns u=spI o.ns u)/\spS (lcS p l o i).ns=spS o.ns/\(lcS p l o i).t=o.t
 | 0,_=>⟨by rw[List.take_zero,Xar];show _=omZ _*_;rw[show (8-p)*0+2*(0*((0:Int)-1))=0 by omega,X41,Xb];rfl,W64.rfl' rfl,h,fun _=>rfl,rfl,rfl⟩
 | i+1,hi=>by
  obtain ⟨h1,h2,h3,h4,h5,h6⟩:=Xlo h hs β i Z
  have hm:l.getD i 0 ∈ l:=Qe (Xg (d:=0) Z)
  have hsp:spI (lcS p l o i).ns (l.getD i 0)=true:=by rw[h4];exact hs _ hm
  obtain ⟨g1,g2,g3⟩:=Xmv hm β (l.take i) { lcS p l o i with ns:=adN (lcS p l o i).ns (l.getD i 0) (8-p) } h3 fun y hy=>Wd hy
  unfold lcS
  refine ⟨?_,g2.trans h2,g3,fun u=>by rw[Xg0];exact (Xe7 _ _ _).trans (h4 u),by rw[Xg0];exact (Xcq _ _ _).trans h5,by rw[Xts];exact h6⟩
  rw[g1,Xos hsp,h1,Y2k Z,<- X3,<- X3,<- X2g,<- X2g]
  congr 2
  generalize cntB β (l.take i)=n
  have hb:b1 (β (l.getD i 0).toNat)=0∨b1 (β (l.getD i 0).toNat)=1:=by unfold b1;split<;>simp
  rcases hb with e|e<;>rw[e]
  ·simp
  ·grind
def Y5d(p n:Int)(hp:p=2∨p=6):1+omZ (p+4*n)=s2*(omZ (if p=2 then 1 else 7)*omZ ((8-p)*n+2*(n*(n-1)))):=by
 have h:=Xyd (n % 2) Z;have hn:n=2*(n/2)+n % 2:=by omega
 have hb:n % 2=0∨n % 2=1:=by omega
 rw[<- X2g];rcases hp with rfl|rfl
 ·rw[X40 (show Cg (2+4*n) (2+4*(n % 2)) from ⟨n/2,by omega⟩),h.1,Q4 rfl];congr 1;refine X40 ?_;generalize n/2=m at hn;rcases hb with e|e<;>rw[e] at hn ⊢<;>subst hn
  ·exact ⟨-(m+m*m),by grind⟩
  ·exact ⟨-(2*m+m*m),by grind⟩
 ·rw[X40 (show Cg (6+4*n) (6+4*(n % 2)) from ⟨n/2,by omega⟩),h.2,Q3 O5];congr 1;refine X40 ?_;generalize n/2=m at hn;rcases hb with e|e<;>rw[e] at hn ⊢<;>subst hn
  ·exact ⟨-(m*m),by grind⟩
  ·exact ⟨-(m+m*m),by grind⟩
def Y1q(x:Int):omZ (wr x)=omZ x:=X40 (by have ⟨q,hq⟩:=W64.wr x;exact ⟨2305843009213693952*q,by omega⟩)
def Y9u(d:Dg)(t r:Int)(β:Nat->Bool):omZ d.t*fD { d with t:=t,r:=r } β=omZ t*fD d β:=by
 unfold fD;dsimp only;rw[X4]
def Xpu(d:Dg)(h:0<=d.t)(β:Nat->Bool):fD (outD d) β=fD d β:=by
 unfold fD outD;dsimp only;rw[Int.tmod_eq_emod_of_nonneg h,X40 (Cg.mod d.t)]
def Y5e{d:Dg}(hD:InD d)(ht:0<=d.t/\d.t<=7){a:Int}(hc:lcC d a=true):RelD d (outD (lcD d a)):=by
 have hc0:=hc;unfold lcC at hc;simp only[Qd,beq_iff_eq] at hc;have ⟨⟨⟨hs,hp4⟩,hh⟩,hr⟩:=hc;have hs3:=X0z hs;have hpr:=X2j hD.p a.toNat
 have hp:(d.ns.getD a.toNat nZ).p=2∨(d.ns.getD a.toNat nZ).p=6:=by omega
 have hall:=Xb7.1 hh;have hsp:=(X61 d (nearW d.ws a)).1 hr;have hnp:NoPl (id0 d a).ws (nearW d.ws a):=(X9g hD hr).sub fun w hw=>(List.mem_filter.1 hw).1;have hs0:∀ v ∈ nearW d.ws a,spI (id0 d a).ns v=true:=fun v hv=>by
  have:=X5i (ns:=d.ns) (a:=a) (X2p hD hv).1 hs3.1 (X4f hD hv);exact this.trans (hsp.1 v hv)
 have hx:=Xdi hD a;rw[Xfc hall] at hx;have hS:=fun β=>Xlo (p:=(d.ns.getD a.toNat nZ).p) hnp hs0 β (nearW d.ws a).length (Qb _);have ht8:wr (d.t+(if (d.ns.getD a.toNat nZ).p=2 then 1 else 7))=d.t+(if (d.ns.getD a.toNat nZ).p=2 then 1 else 7):=Y22 (by split<;>omega);have htt:(lcD d a).t=d.t+(if (d.ns.getD a.toNat nZ).p=2 then 1 else 7):=by
  have e1:(lcD d a).t=wr ((lcS (d.ns.getD a.toNat nZ).p (nearW d.ws a) (id0 d a) (nearW d.ws a).length).t+(if (d.ns.getD a.toNat nZ).p=2 then 1 else 7)):=rfl;rw[e1,(hS fun _=>false).2.2.2.2.2];exact ht8
 refine Xfs hs 1 Z ?_ ?_ fun β=>?_
 ·have ⟨q,hq⟩:=(hS fun _=>false).2.1;obtain ⟨r,hr'⟩:=W64.wr ((lcS (d.ns.getD a.toNat nZ).p (nearW d.ws a) (id0 d a) (nearW d.ws a).length).r+(1-((nearW d.ws a).length:Int)));have e1:exD (outD (lcD d a))=hdN (lcS (d.ns.getD a.toNat nZ).p (nearW d.ws a) (id0 d a) (nearW d.ws a).length).ws-wr ((lcS (d.ns.getD a.toNat nZ).p (nearW d.ws a) (id0 d a) (nearW d.ws a).length).r+(1-((nearW d.ws a).length:Int))):=rfl;have e2:exD (lcS (d.ns.getD a.toNat nZ).p (nearW d.ws a) (id0 d a) (nearW d.ws a).length)=hdN (lcS (d.ns.getD a.toNat nZ).p (nearW d.ws a) (id0 d a) (nearW d.ws a).length).ws-(lcS (d.ns.getD a.toNat nZ).p (nearW d.ws a) (id0 d a) (nearW d.ws a).length).r:=rfl;refine ⟨r-q,?_⟩;rw[e1,hr'];omega
 ·exact (hS fun _=>false).2.2.2.2.1
 ·have h1:=(hS β).1;rw[List.take_length] at h1;rw[X8c hD ⟨hs3.1,hs3.2.1⟩,X8c hD ⟨hs3.1,hs3.2.1⟩,Xy9 hs,Xy9 hs,X9e β hall,X9e β hall,<- X3,<- X3,<- X2g,<- X2g,<- X0e,Xpu _ (by rw[htt];split<;>omega)];have e3:fD (lcD d a) β=omZ (if (d.ns.getD a.toNat nZ).p=2 then 1 else 7)*fD (lcS (d.ns.getD a.toNat nZ).p (nearW d.ws a) (id0 d a) (nearW d.ws a).length) β:=by
   have h2:=Y9u (lcS (d.ns.getD a.toNat nZ).p (nearW d.ws a) (id0 d a) (nearW d.ws a).length) (wr ((lcS (d.ns.getD a.toNat nZ).p (nearW d.ws a) (id0 d a) (nearW d.ws a).length).t+(if (d.ns.getD a.toNat nZ).p=2 then 1 else 7))) (wr ((lcS (d.ns.getD a.toNat nZ).p (nearW d.ws a) (id0 d a) (nearW d.ws a).length).r+(1-((nearW d.ws a).length:Int)))) β;rw[Y1q,X2g,X3] at h2;exact Xfk _ h2
  rw[e3,h1,show s2^1=s2 from by decide];have e4:b1 false=0:=rfl;have e5:b1 true=1:=rfl;have h5:=Y5d _ (cntB β (nearW d.ws a)) hp;rw[e4,e5,Int.zero_mul,Int.mul_zero,Int.mul_zero,Int.add_zero,Int.mul_one,Int.one_mul,X41,h5];simp only[X3]
def Y94(b:Bool):b1 b=0∨b1 b=1:=by unfold b1;split<;>simp
def inL(l:List Int)(x:Int) : Bool:=l.any fun v=>v==x
def Xxu{l:List Int}{x:Int}:inL l x=true↔x ∈ l:=by simp[inL]
def cntI(β:Nat->Bool)(l r:List Int) : Int:=((r.filter fun v=>β v.toNat&&inL l v).length:Int)
def Xel(β:Nat->Bool)(l:List Int)(v:Int)(r:List Int):cntI β l (v::r)=b1 (β v.toNat)*b1 (inL l v)+cntI β l r:=by grind [b1,cntI,inL]
def Y2i(β:Nat->Bool)(l r s:List Int):cntI β l (r++s)=cntI β l r+cntI β l s:=by simp[cntI]
def Y0f{β:Nat->Bool}{l r:List Int}{i:Nat}(hi:i<r.length):cntI β l (r.take (i+1))=cntI β l (r.take i)+b1 (β (r.getD i 0).toNat)*b1 (inL l (r.getD i 0)):=by
 rw[Qt,Xg (d:=(0:Int)) hi,Option.toList_some,Y2i,Xel];have:cntI β l []=0:=rfl;omega
def Xp0{β:Nat->Bool}{l r:List Int}(hl:Inc l)(hr:Inc r)(h:∀ x ∈ l,x ∈ r):cntI β l r=cntB β l:=by
 unfold cntI cntB;congr 2;refine Xb8 _ _ (List.Pairwise.filter _ hr) (List.Pairwise.filter _ hl) fun x=>?_;rw[List.mem_filter,List.mem_filter,Qd,Xxu];exact ⟨fun h=>⟨h.2.2,h.2.1⟩,fun h2=>⟨h x h2.1,h2.2,h2.1⟩⟩
def pvB(l m:List Int)(x y:Int) : Bool:=(inL l x&&inL m y) != (inL m x&&inL l y)
def Xm0{L l m:List Int}{x:Int}(hx:x ∈ L)(β:Nat->Bool):∀ (r:List Int) (o:Dg),NoPl o.ws L->(∀ y ∈ r,y ∈ L)->
  fD (pvF l m x r o) β=omZ (4*(b1 (β x.toNat)*(b1 (inL l x)*cntI β m r+b1 (inL m x)*cntI β l r)))*fD o β/\W64 (exD (pvF l m x r o)) (exD o)/\NoPl (pvF l m x r o).ws L/\(pvF l m x r o).ns=o.ns/\(pvF l m x r o).t=o.t
 | [],o,h,_=>⟨by
   have e:∀ q,cntI β q []=0:=fun _=>rfl;rw[e,e,Int.mul_zero,Int.mul_zero,Int.add_zero,Int.mul_zero,Int.mul_zero,X41,Xb];rfl,W64.rfl' rfl,h,rfl,rfl⟩
 | y::r,o,h,hr=>by
  have hy:=hr y O4;have hp:=h.ty hx hy;have key:fD (pvT l m x o y) β=omZ (4*(b1 (β x.toNat)*(b1 (inL l x)*(b1 (β y.toNat)*b1 (inL m y))+b1 (inL m x)*(b1 (β y.toNat)*b1 (inL l y)))))*fD o β/\W64 (exD (pvT l m x o y)) (exD o)/\NoPl (pvT l m x o y).ws L/\(pvT l m x o y).ns=o.ns/\(pvT l m x o y).t=o.t:=by
   unfold pvT;by_cases hb:pvB l m x y=true
   ·rw[Q4 (show (((l.any fun v=>v==x)&&(m.any fun v=>v==y)) != ((m.any fun v=>v==x)&&(l.any fun v=>v==y)))=true from hb),Xtt hp,Y4k];refine ⟨?_,Y1x hp,h.tg x y,(X3m o x y).1,by unfold tgD;split<;>rfl⟩;congr 1;refine X40 ?_;unfold pvB at hb;revert hb;generalize inL l x=e1;generalize inL m y=e2;generalize inL m x=e3;generalize inL l y=e4;generalize β x.toNat=e5;generalize β y.toNat=e6;intro hb;cases e1<;>cases e2<;>cases e3<;>cases e4<;>first|(exact absurd hb O5)|(cases e5<;>cases e6<;>exact ⟨0,by decide⟩)
   ·rw[Q3 (show ¬ (((l.any fun v=>v==x)&&(m.any fun v=>v==y)) != ((m.any fun v=>v==x)&&(l.any fun v=>v==y)))=true from hb)];refine ⟨?_,W64.rfl' O,h,O,O⟩;have e0:omZ (4*(b1 (β x.toNat)*(b1 (inL l x)*(b1 (β y.toNat)*b1 (inL m y))+b1 (inL m x)*(b1 (β y.toNat)*b1 (inL l y)))))=omZ 0:=by
     refine X40 ?_;unfold pvB at hb;revert hb;generalize inL l x=e1;generalize inL m y=e2;generalize inL m x=e3;generalize inL l y=e4;generalize β x.toNat=e5;generalize β y.toNat=e6;intro hb;cases e1<;>cases e2<;>cases e3<;>cases e4<;>first|(exact absurd rfl hb)|(cases e5<;>cases e6<;>first|exact ⟨0,by decide⟩|exact ⟨1,by decide⟩)
    rw[e0,X41,Xb]
  have ⟨h1,h2,h3,h4,h5⟩:=Xm0 (l:=l) (m:=m) hx β r (pvT l m x o y) key.2.2.1 fun z hz=>hr z (by simp[hz]);refine ⟨?_,h2.trans key.2.1,h3,h4.trans key.2.2.2.1,h5.trans key.2.2.2.2⟩;show fD (pvF l m x r (pvT l m x o y)) β=_;rw[h1,key.1,<- X3,<- X2g,Xel,Xel];congr 2
  grind
def Xja{o:Dg}{x:Int}(hx:spI o.ns x=true)(c:Bool)(k:Int)(β:Nat->Bool):fD (stN c o x k) β=omZ (k*(b1 c*b1 (β x.toNat)))*fD o β/\exD (stN c o x k)=exD o/\(stN c o x k).ws=o.ws/\(∀ u,spI (stN c o x k).ns u=spI o.ns u)/\spS (stN c o x k).ns=spS o.ns/\(stN c o x k).t=o.t:=by
 unfold stN;cases c
 ·rw[Q3 O5];refine ⟨?_,O,O,fun _=>rfl,O,O⟩;show _=omZ (k*(0*_))*_;rw[Int.zero_mul,Int.mul_zero,X41,Xb]
 ·rw[Q4 rfl];refine ⟨?_,O,O,fun u=>Xe7 _ _ _,Xcq _ _ _,O⟩;rw[Xos hx];show _=omZ (k*(1*_))*_;rw[Int.one_mul]
def Xyi{o:Dg}{x:Int}(hx:spI o.ns x=true)(e f:Int)(l m:List Int)(β:Nat->Bool):fD (pv3 e f l m x o) β=omZ (b1 (β x.toNat)*(f*b1 (inL l x)+e*b1 (inL m x)+4*(b1 (inL l x)*b1 (inL m x))))*fD o β/\exD (pv3 e f l m x o)=exD o/\(pv3 e f l m x o).ws=o.ws/\(∀ u,spI (pv3 e f l m x o).ns u=spI o.ns u)/\spS (pv3 e f l m x o).ns=spS o.ns/\(pv3 e f l m x o).t=o.t:=by
 have h1:=Xja hx (inL l x) f β;have h2:=Xja (o:=stN (inL l x) o x f) (x:=x) (by rw[h1.2.2.2.1];exact hx) (inL m x) e β;have h3:=Xja (o:=stN (inL m x) (stN (inL l x) o x f) x e) (x:=x) (by rw[h2.2.2.2.1,h1.2.2.2.1];exact hx) (inL l x&&inL m x) 4 β;have e0:pv3 e f l m x o=stN (inL l x&&inL m x) (stN (inL m x) (stN (inL l x) o x f) x e) x 4:=rfl;rw[e0];refine ⟨?_,h3.2.1.trans (h2.2.1.trans h1.2.1),h3.2.2.1.trans (h2.2.2.1.trans h1.2.2.1),fun u=>(h3.2.2.2.1 u).trans ((h2.2.2.2.1 u).trans (h1.2.2.2.1 u)),h3.2.2.2.2.1.trans (h2.2.2.2.2.1.trans h1.2.2.2.2.1),h3.2.2.2.2.2.trans (h2.2.2.2.2.2.trans h1.2.2.2.2.2)⟩;rw[h3.1,h2.1,h1.1,<- X3,<- X3,<- X2g,<- X2g];congr 2;have hb:b1 (inL l x&&inL m x)=b1 (inL l x)*b1 (inL m x):=by cases inL l x<;>cases inL m x<;>rfl
 rw[hb]
 grind
def Xm1{e f:Int}{l m r:List Int}{o:Dg}(h:NoPl o.ws r)(hs:∀ v ∈ r,spI o.ns v=true)(β:Nat->Bool):∀ i,i<=r.length->
  fD (pvM e f l m r o i) β=omZ (f*cntI β l (r.take i)+e*cntI β m (r.take i)+4*(cntI β l (r.take i)*cntI β m (r.take i)))*fD o β/\W64 (exD (pvM e f l m r o i)) (exD o)/\NoPl (pvM e f l m r o i).ws r/\(∀ u,spI (pvM e f l m r o i).ns u=spI o.ns u)/\spS (pvM e f l m r o i).ns=spS o.ns/\(pvM e f l m r o i).t=o.t
 | 0,_=>⟨by
   have e0:∀ q,cntI β q (r.take 0)=0:=fun _=>rfl;rw[e0,e0,Int.mul_zero,Int.mul_zero,Int.mul_zero,Int.mul_zero];show _=omZ 0*_;rw[X41,Xb];rfl,W64.rfl' rfl,h,fun _=>rfl,rfl,rfl⟩
 | i+1,hi=>by
  have ⟨h1,h2,h3,h4,h5,h6⟩:=Xm1 (e:=e) (f:=f) (l:=l) (m:=m) h hs β i Z;have hm:r.getD i 0 ∈ r:=Qe (Xg (d:=0) Z);have hsp:spI (pvM e f l m r o i).ns (r.getD i 0)=true:=by rw[h4];exact hs _ hm
  have g:=Xyi hsp e f l m β;have ⟨k1,k2,k3,k4,k5⟩:=Xm0 (L:=r) (l:=l) (m:=m) hm β (r.take i) (pv3 e f l m (r.getD i 0) (pvM e f l m r o i)) (by rw[g.2.2.1];exact h3) fun y hy=>Wd hy;unfold pvM;refine ⟨?_,k2.trans (by rw[g.2.1];exact h2),k3,fun u=>by rw[k4];exact (g.2.2.2.1 u).trans (h4 u),by rw[k4];exact g.2.2.2.2.1.trans h5,by rw[k5];exact g.2.2.2.2.2.trans h6⟩;rw[k1,g.1,h1,Y0f Z,Y0f Z,<- X3,<- X3,<- X2g,<- X2g];congr 2;have hb:=Y94 (β (r.getD i 0).toNat);rcases hb with e0|e0<;>rw[e0]<;>grind
def Xy6{ws:List Wr}(h:InW ws)(a b:Int)(hne:a≠b):nearW (dpW ws a) b=othW ws b a:=by
 have key:∀ l:List Wr,(∀ w ∈ l,w.a<w.b)->nearW (dpW l a) b=(nearW l b).filter fun v=>v != a:=fun l=>by
  induction l with
  | nil=>intro _;rfl
  | cons w l ih=>
   intro hl;have ih:=ih fun x hx=>hl x (by simp[hx]);have hw:=hl w O4;have e0:nearW (w::l) b=(otW b w).toList++nearW l b:=by
    unfold nearW;rw[List.filterMap_cons];cases otW b w<;>rfl
   rw[e0,List.filter_append,<- ih];unfold dpW;rw[List.filter_cons];unfold otW;split
   ·rename_i h1;have h1:w.a≠a/\w.b≠a:=by simpa using h1
    have e1:∀ q,nearW (w::q) b=(otW b w).toList++nearW q b:=fun q=>by
     unfold nearW;rw[List.filterMap_cons];cases otW b w<;>rfl
    rw[e1];congr 1;unfold otW;split
    ·simp[h1.2]
    ·split
     ·simp[h1.1]
     ·rfl
   ·rename_i h1;have h1:w.a=a∨w.b=a:=by
     by_cases e:w.a=a
     ·exact .inl e
     ·right;simpa[e] using h1
    split
    ·rename_i e2;have:w.b=a:=by omega
     simp[this]
    ·split
     ·rename_i e2 e3;have:w.a=a:=by omega
      simp[this]
     ·rfl
 exact key ws h.l
def Yc7{ws:List Wr}(h:InW ws){a b v:Int}(hv:v ∈ nearW ws b)(hva:v≠a)(hba:b≠a):tyW (dpW ws a) b v=tyW ws b v:=by
 have ⟨w,h1,h2⟩:=X5z.1 hv;have hi:=Xiw (h.l w h1) h2;have h3:w ∈ dpW ws a:=by
  refine List.mem_filter.2 ⟨h1,?_⟩;rcases X5g h2 with ⟨e1,e2⟩|⟨e1,e2⟩
  ·simp;exact ⟨fun e=>hba Z,fun e=>hva Z⟩
  ·simp;exact ⟨fun e=>hva Z,fun e=>hba Z⟩
 have hs:WSd (dpW ws a):=h.s.sublist List.filter_sublist;rw[Xyz hs h3 hi,Xyz h.s h1 hi]
def Yad{d:Dg}(h:InD d)(a:Int):InD (id0 d a):=by
 refine ⟨⟨List.Pairwise.filter _ h.w.s,fun w hw=>h.w.l w (List.mem_filter.1 hw).1⟩,fun w hw=>?_,X6k h.p a,?_⟩
 ·have:=h.e w (List.mem_filter.1 hw).1;show _/\_<((dpN d.ns a).length:Int);rw[X2e];exact this
 ·show (dpN d.ns a).length<=_;rw[X2e];exact h.m
def Xq8(pa pb nA nB:Int)(ha:pa=0∨pa=4)(hb:pb=0∨pb=4) :
  (1+omZ (pb+4*nB))+(omZ (pa+4*nA)+omZ (pa+4*nA+4+(pb+4*nB)))=s2^2*(omZ (if (pa+pb==8)=true then 4 else 0)*omZ (pb*nA+pa*nB+4*(nA*nB))):=by
 have hA:nA=2*(nA/2)+nA % 2:=by omega
 have hB:nB=2*(nB/2)+nB % 2:=by omega
 have h1:nA % 2=0∨nA % 2=1:=by omega
 have h2:nB % 2=0∨nB % 2=1:=by omega
 have e1:omZ (pb+4*nB)=omZ (pb+4*(nB % 2)):=X40 ⟨nB/2,by omega⟩;have e2:omZ (pa+4*nA)=omZ (pa+4*(nA % 2)):=X40 ⟨nA/2,by omega⟩;have e3:omZ (pa+4*nA+4+(pb+4*nB))=omZ (pa+4*(nA % 2)+4+(pb+4*(nB % 2))):=X40 ⟨nA/2+nB/2,by omega⟩;have e4:omZ (pb*nA+pa*nB+4*(nA*nB))=omZ (pb*(nA % 2)+pa*(nB % 2)+4*((nA % 2)*(nB % 2))):=by
  refine X40 ?_;generalize nA/2=u at hA;generalize nB/2=v at hB;generalize nA % 2=x at hA h1 ⊢;generalize nB % 2=y at hB h2 ⊢;subst hA hB;rcases ha with rfl|rfl<;>rcases hb with rfl|rfl
  ·exact ⟨2*u*v+u*y+x*v,by grind⟩
  ·exact ⟨u+2*u*v+u*y+x*v,by grind⟩
  ·exact ⟨v+2*u*v+u*y+x*v,by grind⟩
  ·exact ⟨u+v+2*u*v+u*y+x*v,by grind⟩
 rw[e1,e2,e3,e4];rcases ha with rfl|rfl<;>rcases hb with rfl|rfl<;>rcases h1 with h|h<;>rcases h2 with k|k<;>rw[h,k]<;>decide
def Xyf{ws:List Wr}(h:InW ws){k c:Int}(hc:c ∈ nearW ws k):(nearW ws k).length=(othW ws k c).length+1:=by
 have hi:=X3z (k:=k) h;have key:∀ l:List Int,Inc l->c ∈ l->l.length=(l.filter fun v=>v != c).length+1:=fun l=>by
  induction l with
  | nil=>intro _ h;cases h
  | cons v l ih=>
   intro hl hm;have hl':=W8.1 hl;rw[List.filter_cons];rcases Qv.1 hm with e|e
   ·subst e;rw[Q3 O4,Qs];congr 2;refine (List.filter_eq_self.2 fun x hx=>?_).symm;have:=hl'.1 x hx;simp;omega
   ·have:=hl'.1 c e;rw[Q4 O6,Qs,Qs,ih hl'.2 e]
 exact key _ hi hc
def Xv5{ws:List Wr}(h:InW ws){k c:Int}(hc:c ∈ nearW ws k)(β:Nat->Bool):cntB β (nearW ws k)=cntB β (othW ws k c)+b1 (β c.toNat):=by
 have hi:=X3z (k:=k) h;have key:∀ l:List Int,Inc l->c ∈ l->cntB β l=cntB β (l.filter fun v=>v != c)+b1 (β c.toNat):=fun l=>by
  induction l with
  | nil=>intro _ h;cases h
  | cons v l ih=>
   intro hl hm;have hl':=W8.1 hl;rw[List.filter_cons];rcases Qv.1 hm with e|e
   ·subst e;rw[Q3 O4,X5u,show (l.filter fun v=>v != c)=l from List.filter_eq_self.2 fun x hx=>by have:=hl'.1 x hx;simp;omega];omega
   ·have:=hl'.1 c e;rw[Q4 O6,X5u,X5u,ih hl'.2 e];omega
 exact key _ hi hc
def Y67{d:Dg}(hD:InD d)(ht:0<=d.t/\d.t<=7){a b:Int}(hc:pvC d a b=true):RelD d (outD (pvD d a b)):=by
 unfold pvC at hc;simp only[Qd,beq_iff_eq,Qr] at hc;have ⟨⟨⟨⟨⟨⟨⟨⟨hsa,hsb⟩,hab⟩,hpa4⟩,hpb4⟩,hty⟩,hha⟩,hhb⟩,hr⟩:=hc;have ha3:=X0z hsa;have hb3:=X0z hsb;have hpra:=X2j hD.p a.toNat;have hprb:=X2j hD.p b.toNat
 have hpa:(d.ns.getD a.toNat nZ).p=0∨(d.ns.getD a.toNat nZ).p=4:=by omega
 have hpb:(d.ns.getD b.toNat nZ).p=0∨(d.ns.getD b.toNat nZ).p=4:=by omega
 have hba:b ∈ nearW d.ws a:=X9q hD.w Z;have hab':a ∈ nearW d.ws b:=X9q hD.w (by rw[Xbg];omega);have halla:=Xb7.1 hha;have hallb:=Xb7.1 hhb;have hsp:=(X61 d (pvL d a b)).1 hr;have hm:∀ v,v ∈ pvL d a b↔v ∈ othW d.ws a b∨v ∈ othW d.ws b a:=fun v=>X60 _ _ _;have ho:∀ x c v,v ∈ othW d.ws x c↔v ∈ nearW d.ws x/\v≠c:=fun x c v=>by unfold othW;rw[List.mem_filter];simp
 have hne:∀ v ∈ pvL d a b,(0<=v/\v.toNat<d.ns.length)/\v≠a/\v≠b:=fun v hv=>by
  rcases (hm v).1 hv with h|h
  ·have h2:=(ho _ _ _).1 h;exact ⟨X2p hD h2.1,X4f hD h2.1,h2.2⟩
  ·have h2:=(ho _ _ _).1 h;exact ⟨X2p hD h2.1,h2.2,X4f hD h2.1⟩
 have hnp:NoPl (id0 (id0 d a) b).ws (pvL d a b):=(X9g hD hr).sub fun w hw=>(List.mem_filter.1 (List.mem_filter.1 hw).1).1;have hs0:∀ v ∈ pvL d a b,spI (id0 (id0 d a) b).ns v=true:=fun v hv=>by
  have h:=hne v hv;have e1:=X5i (ns:=dpN d.ns a) (a:=b) h.1.1 hb3.1 h.2.2;have e2:=X5i (ns:=d.ns) (a:=a) h.1.1 ha3.1 h.2.1;exact e1.trans (e2.trans (hsp.1 v hv))
 have hD1:=Yad hD a;have hsb1:spI (id0 d a).ns b=true:=(X5i (ns:=d.ns) hb3.1 ha3.1 Z).trans hsb;have hb4:=X0z hsb1;have hnb:nearW (id0 d a).ws b=othW d.ws b a:=Xy6 hD.w a b Z;have hall1:∀ v ∈ othW d.ws b a,tyW (id0 d a).ws b v=2:=fun v hv=>by
  have h2:=(ho _ _ _).1 hv;exact (Yc7 hD.w h2.1 h2.2 Z).trans (hallb v h2.1)
 have hgb:((id0 d a).ns.getD b.toNat nZ)=d.ns.getD b.toNat nZ:=by
  show (dpN d.ns a).getD b.toNat nZ=_;unfold dpN;rw[Qa,List.getElem?_set_ne Z,<- Qa]
 have hxa:=Xdi hD a;have hxb:=Xdi hD1 b;rw[Xfc halla] at hxa;rw[hnb,Xfc hall1] at hxb;have hla:=Xyf hD.w hba;have hS:=fun β=>Xm1 (e:=(d.ns.getD a.toNat nZ).p) (f:=(d.ns.getD b.toNat nZ).p) (l:=othW d.ws a b) (m:=othW d.ws b a) hnp hs0 β (pvL d a b).length (Qb _);generalize hoM:pvM (d.ns.getD a.toNat nZ).p (d.ns.getD b.toNat nZ).p (othW d.ws a b) (othW d.ws b a) (pvL d a b) (id0 (id0 d a) b) (pvL d a b).length=oM at hS;have hout:outD (pvD d a b)=outD { oM with t:=(if ((d.ns.getD a.toNat nZ).p+(d.ns.getD b.toNat nZ).p==8)=true then wr (oM.t+4) else oM.t),r:=wr (oM.r+(1-((othW d.ws a b).length:Int)-((othW d.ws b a).length:Int))) }:=by
  rw[Xfr hoM.symm]
 have hot:oM.t=d.t:=(hS fun _=>false).2.2.2.2.2;have hw4:wr (d.t+4)=d.t+4:=Y22 Z;rw[hout];have e8:∀ β,fD (outD { oM with t:=(if ((d.ns.getD a.toNat nZ).p+(d.ns.getD b.toNat nZ).p==8)=true then wr (oM.t+4) else oM.t),r:=wr (oM.r+(1-((othW d.ws a b).length:Int)-((othW d.ws b a).length:Int))) }) β=omZ (if ((d.ns.getD a.toNat nZ).p+(d.ns.getD b.toNat nZ).p==8)=true then 4 else 0)*fD oM β:=fun β=>by
  rw[Xpu _ (by rw[hot,hw4];dsimp only;split<;>omega)];have h2:=Y9u oM (if ((d.ns.getD a.toNat nZ).p+(d.ns.getD b.toNat nZ).p==8)=true then wr (oM.t+4) else oM.t) (wr (oM.r+(1-((othW d.ws a b).length:Int)-((othW d.ws b a).length:Int)))) β;have h3:omZ (if ((d.ns.getD a.toNat nZ).p+(d.ns.getD b.toNat nZ).p==8)=true then wr (oM.t+4) else oM.t)=omZ oM.t*omZ (if ((d.ns.getD a.toNat nZ).p+(d.ns.getD b.toNat nZ).p==8)=true then 4 else 0):=by
   split
   ·rw[Y1q,X2g]
   ·rw[X41,X08]
  rw[h3,X3] at h2;exact Xfk _ h2
 refine ⟨2,Qb _,?_,fun β=>?_⟩
 ·have ⟨q,hq⟩:=(hS fun _=>false).2.1;obtain ⟨r,hr'⟩:=W64.wr (oM.r+(1-((othW d.ws a b).length:Int)-((othW d.ws b a).length:Int)));refine ⟨r-q,?_⟩;have e1:exD oM=hdN oM.ws-oM.r:=rfl;show exD d=hdN oM.ws-wr _+_+_;rw[hr'];omega
 ·rw[Xt6 hsa];have hdp:zL (spS (dpN d.ns a)) (fun β=>fD d (upB β a.toNat false)+fD d (upB β a.toNat true)) β=zL (spS (dpN (dpN d.ns a) b)) (fun β=>(fD d (upB (upB β b.toNat false) a.toNat false)+fD d (upB (upB β b.toNat false) a.toNat true))+(fD d (upB (upB β b.toNat true) a.toNat false)+fD d (upB (upB β b.toNat true) a.toNat true))) β:=by
   rw[Xbh (Xtc (ns:=dpN d.ns a) hsb1),Xhv _ _ _ (Xtf (ns:=dpN d.ns a) hb4.2.1)]
  rw[hdp];have hspS:spS (outD { oM with t:=(if ((d.ns.getD a.toNat nZ).p+(d.ns.getD b.toNat nZ).p==8)=true then wr (oM.t+4) else oM.t),r:=wr (oM.r+(1-((othW d.ws a b).length:Int)-((othW d.ws b a).length:Int))) }).ns=spS (dpN (dpN d.ns a) b):=(hS fun _=>false).2.2.2.2.1;unfold smD;rw[hspS,<- Xa9];refine X33 _ _ fun β=>?_;rw[e8,(hS β).1,List.take_length,Xp0 (r:=pvL d a b) (X9i hD a b) (X9k _ _ (X9i hD a b)) (fun x hx=>(hm x).2 (.inl hx)),Xp0 (r:=pvL d a b) (X9i hD b a) (X9k _ _ (X9i hD a b)) (fun x hx=>(hm x).2 (.inr hx))];have hterm:∀ x y,fD d (upB (upB β b.toNat y) a.toNat x)=omZ ((d.ns.getD a.toNat nZ).p*b1 x+4*(b1 x*(cntB β (othW d.ws a b)+b1 y))+((d.ns.getD b.toNat nZ).p*b1 y+4*(b1 y*cntB β (othW d.ws b a))))*fD (id0 (id0 d a) b) β:=fun x y=>by
   have hcu:∀ l:List Int,(∀ v ∈ l,0<=v/\v≠b)->cntB (upB β b.toNat y) l=cntB β l:=fun l hl=>by
    unfold cntB;congr 2;refine List.filter_congr fun v hv=>?_;have:=hl v hv;rw[X5c Z]
   rw[X8c hD ⟨ha3.1,ha3.2.1⟩,Xy9 hsa,X9e _ halla,Xv5 hD.w hba,X8m,hcu _ fun v hv=>⟨(X2p hD ((ho _ _ _).1 hv).1).1,((ho _ _ _).1 hv).2⟩,X8c hD1 ⟨hb4.1,hb4.2.1⟩,Xy9 hsb1,hgb,hnb,X9e _ hall1];rw[<- X3,<- X3,<- X3,<- X2g,<- X2g,<- X2g];congr 2;omega
  have e4:b1 false=0:=rfl;have e5:b1 true=1:=rfl;have h5:=Xq8 _ _ (cntB β (othW d.ws a b)) (cntB β (othW d.ws b a)) hpa hpb;rw[hterm,hterm,hterm,hterm,e4,e5,<- X0e,<- X0e,<- X0e,<- X3,<- X3,X3 (s2^2),<- h5];congr 1;have c1:omZ ((d.ns.getD a.toNat nZ).p*0+4*(0*(cntB β (othW d.ws a b)+0))+((d.ns.getD b.toNat nZ).p*0+4*(0*cntB β (othW d.ws b a))))=1:=by
   rw[show (d.ns.getD a.toNat nZ).p*0+4*(0*(cntB β (othW d.ws a b)+0))+((d.ns.getD b.toNat nZ).p*0+4*(0*cntB β (othW d.ws b a)))=0 by omega];rfl
  have c2:omZ ((d.ns.getD a.toNat nZ).p*1+4*(1*(cntB β (othW d.ws a b)+0))+((d.ns.getD b.toNat nZ).p*0+4*(0*cntB β (othW d.ws b a))))=omZ ((d.ns.getD a.toNat nZ).p+4*cntB β (othW d.ws a b)):=by congr 1;omega
  have c3:omZ ((d.ns.getD a.toNat nZ).p*0+4*(0*(cntB β (othW d.ws a b)+1))+((d.ns.getD b.toNat nZ).p*1+4*(1*cntB β (othW d.ws b a))))=omZ ((d.ns.getD b.toNat nZ).p+4*cntB β (othW d.ws b a)):=by congr 1;omega
  have c4:omZ ((d.ns.getD a.toNat nZ).p*1+4*(1*(cntB β (othW d.ws a b)+1))+((d.ns.getD b.toNat nZ).p*1+4*(1*cntB β (othW d.ws b a))))=omZ ((d.ns.getD a.toNat nZ).p+4*cntB β (othW d.ws a b)+4+((d.ns.getD b.toNat nZ).p+4*cntB β (othW d.ws b a))):=by congr 1;omega
  rw[c1,c2,c3,c4];simp only[Xz,Xl]
def Y2r{d:Dg}(hG:goodD d=true){r:Rz}(h:doC d r=true):RelD d (outD (doD d r)):=by
 have hD:=X1k hG;have ht:=(X6b hG).2.2.1;have h17:(r.b != 0&&r.u != 1&&r.u != 4)=false:=by
  cases e:(r.b != 0&&r.u != 1&&r.u != 4) with
  | false=>rfl
  | true=>rw[Yb8 e] at h;cases h
 by_cases h1:(r.u==1)=true
 ·have e:=Yb3 hG h1;rw[e.1] at h;rw[e.2];exact Y4g hD h
 by_cases h4:(r.u==4)=true
 ·have e:=Yb6 (d:=d) h4;rw[e.1] at h;rw[e.2];exact Y67 hD ht h
 by_cases h2:(r.u==2)=true
 ·have e:=Yb4 hG h17 h2;rw[e.1] at h;rw[e.2];exact Y51 hD h
 by_cases h3:(r.u==3)=true
 ·have e:=Yb5 (d:=d) h17 h3;rw[e.1] at h;rw[e.2];exact Y5e hD ht h
 by_cases h5:(r.u==5)=true
 ·have e:=Yb7 hG h17 h5;rw[e.1] at h;rw[e.2];exact Y5i hD h
 ·have:=Yb2 (d:=d) (r:=r) (by simpa using h1) (by simpa using h2) (by simpa using h3) (by simpa using h4) (by simpa using h5);rw[this] at h;cases h
def RelX(d e:Dg) : Prop:=∃ c:Nat,exD d=exD e+(c:Int)/\∀ β,smD d β=s2^c*smD e β
def RelX.refl(d:Dg):RelX d d:=⟨0,by omega,fun β=>by rw[show s2^0=(1:Rg) from rfl,Xb]⟩
def RelX.trans{d e f:Dg}(h:RelX d e)(k:RelX e f):RelX d f:=by
 have ⟨c,h1,h2⟩:=h;obtain ⟨c',k1,k2⟩:=k;exact ⟨c+c',by omega,fun β=>by rw[h2,k2,<- X3,<- X1y]⟩
def Ya9(ws:List Wr):0<=hdN ws/\hdN ws<=ws.length:=by grind [hdN]
def Y0m{d:Dg}(hG:goodD d=true):-100<=exD d/\exD d<=2000000:=by
 have h1:=Ya9 d.ws;have h2:=(X1k hG).len;have h3:=X6b hG;unfold exD;omega
def Y2e{d:Dg}(hG:goodD d=true){r:Rz}(h:apC d r=true):RelX d (apD d r):=by
 have hg:=X92 h;unfold apC at h;rw[Qd] at h;have ⟨c,hc,⟨q,hq⟩,hs⟩:=Y2r hG h.1;have b1':=Y0m hG;have b2':=Y0m hg;refine ⟨c,?_,hs⟩;have e:exD (apD d r)=exD (outD (doD d r)):=rfl;rw[e] at b2' ⊢;omega
def Xt5{l:List Int}:∀ (n:Nat) {d:Dg},goodD d=true->RelX d (siF n d l).1
 | 0,d,_=>RelX.refl d
 | n+1,d,hG=>by
  unfold siF;cases hf:fsF d l with
  | none=>exact RelX.refl d
  | some r=>
   have hc:=X6w hf;exact (Y2e hG hc).trans (Xt5 n (X92 hc))
def g0(bs:List Int)(i:Int) : Int:=bs.getD i.toNat 0
def Ybt(ns:List Nd):spL ns=(spS ns).map fun (i:Nat)=>(i:Int):=rfl
def odN(ns:List Nd) : Int:=((ns.filter fun x=>x.k==3&&x.p % 2==1).length:Int)
structure Bd (ns ms:List Nd) : Prop where
 l:ms.length=ns.length
 n:∀ i,(ns.getD i nZ).k≠3->ms.getD i nZ=ns.getD i nZ
 s:∀ i,(ns.getD i nZ).k=3->(ms.getD i nZ).k=3∨(ms.getD i nZ).k=0
def Bd.refl(ns:List Nd):Bd ns ns:=⟨rfl,fun _ _=>rfl,fun _ h=>.inl h⟩
def Bd.trans{ns ms ls:List Nd}(h:Bd ns ms)(k:Bd ms ls):Bd ns ls:=by
 refine ⟨k.l.trans h.l,fun i hi=>?_,fun i hi=>?_⟩
 ·have h1:=h.n i hi;rw[<- h1];exact k.n i (by rw[h1];exact hi)
 ·rcases h.s i hi with h1|h1
  ·exact k.s i h1
  ·right;rw[k.n i Z];exact h1
def X5y{ns:List Nd}{k i:Nat}{x:Nd}:(ns.set k x).getD i nZ=if k=i/\i<ns.length then x else ns.getD i nZ:=by grind
def Xov{ns:List Nd}{k:Int}(h:spI ns k=true)(m:Int):Bd ns (adN ns k m):=by
 have ⟨h0,h1,h3⟩:=X0z h;refine ⟨X2v _ _ _,fun i hi=>?_,fun i hi=>?_⟩
 ·unfold adN;rw[X5y,Q3];intro ⟨e,_⟩;subst e;exact hi h3
 ·unfold adN;rw[X5y];split
  ·exact .inl h3
  ·exact .inl hi
def Y95{ns:List Nd}{k:Int}(h:spI ns k=true):Bd ns (dpN ns k):=by
 have ⟨h0,h1,h3⟩:=X0z h;refine ⟨X2e _ _,fun i hi=>?_,fun i hi=>?_⟩
 ·unfold dpN;rw[X5y,Q3];intro ⟨e,_⟩;subst e;exact hi h3
 ·unfold dpN;rw[X5y];split
  ·exact .inr O
  ·exact .inl hi
def Xrj{ns:List Nd}{a b:Int}(ha:spI ns a=true)(hb:spI ns b=true):spI ns (min a b)=true:=by grind
def Y0e(d:Dg)(a b:Int)(h:Bool):Bd d.ns (mtD d a b h).ns/\(mtD d a b h).n=d.n:=by
 unfold mtD;split
 ·rename_i h1;rw[Qd] at h1;unfold lkD;split
  ·exact ⟨Bd.refl _,O⟩
  ·split
   ·exact ⟨Bd.refl _,O⟩
   ·split
    ·exact ⟨Xov (Xrj h1.1 h1.2) 4,O⟩
    ·exact ⟨Bd.refl _,O⟩
 ·exact ⟨Bd.refl _,O⟩
def X71(x:Nd)(l:List Nd):odN (x::l)=(if (x.k==3&&x.p % 2==1)=true then 1 else 0)+odN l:=by grind [odN]
def Xbd:∀ (ns:List Nd) (k:Nat) (x:Nd),k<ns.length->odN (ns.set k x)+(if ((ns.getD k nZ).k==3&&(ns.getD k nZ).p % 2==1)=true then 1 else 0)=odN ns+(if (x.k==3&&x.p % 2==1)=true then 1 else 0)
 | [],_,_,h=>by simp at h
 | y::ns,0,x,_=>by
  show odN (x::ns)+(if (y.k==3&&y.p % 2==1)=true then 1 else 0)=odN (y::ns)+_;rw[X71,X71];omega
 | y::ns,k+1,x,h=>by
  have ih:=Xbd ns k x (by simpa using h);show odN (y::ns.set k x)+(if ((ns.getD k nZ).k==3&&(ns.getD k nZ).p % 2==1)=true then 1 else 0)=odN (y::ns)+_;rw[X71,X71];omega
def Y1k{ns:List Nd}{k:Int}(h:spI ns k=true){m:Int}(hm:m % 2=0):odN (adN ns k m)=odN ns:=by
 have ⟨h0,h1,h3⟩:=X0z h;have h2:=Xbd ns k.toNat ⟨(ns.getD k.toNat nZ).k,((ns.getD k.toNat nZ).p+m) % 8⟩ h1;have e:(((ns.getD k.toNat nZ).p+m) % 8) % 2=(ns.getD k.toNat nZ).p % 2:=by omega
 dsimp only at h2;rw[e] at h2;unfold adN;omega
def Y1l{ns:List Nd}{k:Int}(h:spI ns k=true):odN (dpN ns k)+(if ((ns.getD k.toNat nZ).p % 2==1)=true then 1 else 0)=odN ns:=by
 have ⟨h0,h1,h3⟩:=X0z h;have h2:=Xbd ns k.toNat nZ h1;rw[h3] at h2;unfold dpN;have e:(if (nZ.k==3&&nZ.p % 2==1)=true then 1 else 0:Int)=0:=rfl;rw[e] at h2;simpa using h2
def Xrt{ns:List Nd}{k:Int}(h:spI ns k=true)(m:Int):odN (adN ns k m)<=odN ns+(if (m % 2==1)=true then 1 else 0):=by
 have ⟨h0,h1,h3⟩:=X0z h;have h2:=Xbd ns k.toNat ⟨(ns.getD k.toNat nZ).k,((ns.getD k.toNat nZ).p+m) % 8⟩ h1;dsimp only at h2;rw[h3] at h2;unfold adN;rw[h3];simp only[show ((3:Int)==3)=true from rfl,Qw,beq_iff_eq] at h2 ⊢;split at h2<;>split at h2<;>split<;>omega
def Yaw(d:Dg)(a b:Int)(h:Bool):odN (mtD d a b h).ns=odN d.ns:=by
 unfold mtD;split
 ·rename_i h1;rw[Qd] at h1;unfold lkD;split
  ·rfl
  ·split
   ·rfl
   ·split
    ·exact Y1k (Xrj h1.1 h1.2) O5
    ·rfl
 ·rfl
def Kp(d e:Dg) : Prop:=Bd d.ns e.ns/\e.n=d.n/\odN e.ns<=odN d.ns
def Kp.refl(d:Dg):Kp d d:=⟨Bd.refl _,rfl,Int.le_refl _⟩
def Kp.trans{d e f:Dg}(h:Kp d e)(k:Kp e f):Kp d f:=⟨h.1.trans k.1,k.2.1.trans h.2.1,Int.le_trans k.2.2 h.2.2⟩
def Y17(d:Dg)(a b:Int)(h:Bool):Kp d (mtD d a b h):=⟨(Y0e d a b h).1,(Y0e d a b h).2,by rw[Yaw];exact Int.le_refl _⟩
def Xa0{d:Dg}{a:Int}(h:spI d.ns a=true):Kp d (id0 d a):=⟨Y95 h,rfl,by have:=Y1l h;show odN (dpN d.ns a)<=_;split at this<;>omega⟩
def Y16{d:Dg}{k m:Int}(h:spI d.ns k=true)(hm:m % 2=0):Kp d { d with ns:=adN d.ns k m }:=⟨Xov h m,rfl,by show odN (adN d.ns k m)<=_;rw[Y1k h hm];exact Int.le_refl _⟩
def Y18(d:Dg)(a b:Int):Kp d (tgD d a b):=by
 unfold tgD;split<;>exact ⟨Bd.refl _,rfl,Int.le_refl _⟩
def Xr9(d:Dg)(t r:Int):Kp d { d with t:=t,r:=r }:=⟨Bd.refl _,rfl,Int.le_refl _⟩
def Xr3{d:Dg}{a b:Int}:∀ (l:List Int) (o:Dg),Kp o (fuS d a b l o)
 | [],o=>Kp.refl o
 | v::l,o=>by
  refine Kp.trans ?_ (Xr3 l (fuT d a b o v));unfold fuT;split
  ·exact Kp.refl _
  ·exact Y17 _ _ _ _
def Xr8(x:Int):∀ (l:List Int) (o:Dg),Kp o (tgL o x l)
 | [],o=>Kp.refl o
 | y::l,o=>(Y18 o x y).trans (Xr8 x l (tgD o x y))
def Xr4{p:Int}(hp:p % 2=0){l:List Int}{o:Dg}(hs:∀ v ∈ l,spI o.ns v=true):∀ i,i<=l.length->Kp o (lcS p l o i)/\∀ u,spI (lcS p l o i).ns u=spI o.ns u
 | 0,_=>⟨Kp.refl o,fun _=>rfl⟩
 | i+1,hi=>by
  have ⟨h1,h2⟩:=Xr4 hp hs i Z;have hm:l.getD i 0 ∈ l:=Qe (Xg (d:=0) Z);have hsp:spI (lcS p l o i).ns (l.getD i 0)=true:=by rw[h2];exact hs _ hm
  unfold lcS;refine ⟨h1.trans ((Y16 hsp (m:=8-p) Z).trans (Xr8 _ _ _)),fun u=>?_⟩;rw[Xg0];exact (Xe7 _ _ _).trans (h2 u)
def Xr7{o:Dg}{x k:Int}(h:spI o.ns x=true)(hk:k % 2=0)(c:Bool):Kp o (stN c o x k)/\∀ u,spI (stN c o x k).ns u=spI o.ns u:=by
 unfold stN;split
 ·exact ⟨Y16 h hk,fun u=>Xe7 _ _ _⟩
 ·exact ⟨Kp.refl o,fun _=>rfl⟩
def Xr5{l m:List Int}{x:Int}:∀ (r:List Int) (o:Dg),Kp o (pvF l m x r o)/\(pvF l m x r o).ns=o.ns
 | [],o=>⟨Kp.refl o,rfl⟩
 | y::r,o=>by
  have h1:=Xr5 (l:=l) (m:=m) (x:=x) r (pvT l m x o y);have h2:Kp o (pvT l m x o y)/\(pvT l m x o y).ns=o.ns:=by
   unfold pvT;split
   ·exact ⟨Y18 _ _ _,(X3m o x y).1⟩
   ·exact ⟨Kp.refl _,O⟩
  exact ⟨h2.1.trans h1.1,h1.2.trans h2.2⟩
def Xr6{e f:Int}(he:e % 2=0)(hf:f % 2=0){l m r:List Int}{o:Dg}(hs:∀ v ∈ r,spI o.ns v=true):∀ i,i<=r.length->Kp o (pvM e f l m r o i)/\∀ u,spI (pvM e f l m r o i).ns u=spI o.ns u
 | 0,_=>⟨Kp.refl o,fun _=>rfl⟩
 | i+1,hi=>by
  have ⟨h1,h2⟩:=Xr6 he hf (l:=l) (m:=m) hs i Z;have hm:r.getD i 0 ∈ r:=Qe (Xg (d:=0) Z);have hsp:spI (pvM e f l m r o i).ns (r.getD i 0)=true:=by rw[h2];exact hs _ hm
  have k1:=Xr7 hsp hf (l.any fun v=>v==r.getD i 0);have k2:=Xr7 (o:=stN (l.any fun v=>v==r.getD i 0) (pvM e f l m r o i) (r.getD i 0) f) (x:=r.getD i 0) (by rw[k1.2];exact hsp) he (m.any fun v=>v==r.getD i 0);have k3:=Xr7 (o:=stN (m.any fun v=>v==r.getD i 0) (stN (l.any fun v=>v==r.getD i 0) (pvM e f l m r o i) (r.getD i 0) f) (r.getD i 0) e) (x:=r.getD i 0) (k:=4) (by rw[k2.2,k1.2];exact hsp) O5 ((l.any fun v=>v==r.getD i 0)&&(m.any fun v=>v==r.getD i 0));have k4:=Xr5 (l:=l) (m:=m) (x:=r.getD i 0) (r.take i) (pv3 e f l m (r.getD i 0) (pvM e f l m r o i));unfold pvM;refine ⟨h1.trans (k1.1.trans (k2.1.trans (k3.1.trans k4.1))),fun u=>?_⟩;rw[k4.2];exact (k3.2 u).trans ((k2.2 u).trans ((k1.2 u).trans (h2 u)))
def Y56(d:Dg):Kp d (outD d):=⟨Bd.refl _,rfl,Int.le_refl _⟩
def Y93{d:Dg}(hG:goodD d=true){r:Rz}(h:apC d r=true):Kp d (apD d r):=by
 have hD:=X1k hG;unfold apC at h;rw[Qd] at h;have h:=h.1;refine Kp.trans ?_ (Y56 (doD d r));unfold doC at h;unfold doD;split at h
 ·rename_i h1;rw[Q4 h1];have hs:=Xc4 h;have hr:=Xc5 h;have h0:=Xa0 hs.2.1;have hsa:spI (id0 d r.b).ns r.a=true:=(X5i (ns:=d.ns) hr.1.1 hr.2.1 Z).trans hs.1;have hod:=Y1l hs.2.1;have hoa:=Xrt hsa (d.ns.getD r.b.toNat nZ).p;refine Kp.trans ?_ (Xr3 _ _);refine ⟨h0.1.trans (Xov hsa _),O,?_⟩;show odN (adN (dpN d.ns r.b) r.a (d.ns.getD r.b.toNat nZ).p)<=_;have e:odN (id0 d r.b).ns=odN (dpN d.ns r.b):=rfl;have e2:odN (adN (id0 d r.b).ns r.a (d.ns.getD r.b.toNat nZ).p)=odN (adN (dpN d.ns r.b) r.a (d.ns.getD r.b.toNat nZ).p):=rfl;omega
 rename_i h1;rw[Q3 h1];split at h
 ·rename_i h2;rw[Q4 h2];unfold pvC at h;simp only[Qd,beq_iff_eq,Qr] at h;have ⟨⟨⟨⟨⟨⟨⟨⟨hsa,hsb⟩,hab⟩,hpa4⟩,hpb4⟩,hty⟩,hha⟩,hhb⟩,hr⟩:=h;have ha3:=X0z hsa;have hb3:=X0z hsb;have hsp:=(X61 d (pvL d r.a r.b)).1 hr;have hsb1:spI (id0 d r.a).ns r.b=true:=(X5i (ns:=d.ns) hb3.1 ha3.1 Z).trans hsb;have hs0:∀ v ∈ pvL d r.a r.b,spI (id0 (id0 d r.a) r.b).ns v=true:=fun v hv=>by
   have hm:=(X60 (othW d.ws r.b r.a) (othW d.ws r.a r.b) v).1 hv;have ho:∀ x c,v ∈ othW d.ws x c->v ∈ nearW d.ws x/\v≠c:=fun x c h=>by unfold othW at h;rw[List.mem_filter] at h;exact ⟨h.1,by simpa using h.2⟩
   have hv2:0<=v/\v≠r.a/\v≠r.b:=by
    rcases hm with h9|h9
    ·have h8:=ho _ _ h9;exact ⟨(X2p hD h8.1).1,X4f hD h8.1,h8.2⟩
    ·have h8:=ho _ _ h9;exact ⟨(X2p hD h8.1).1,h8.2,X4f hD h8.1⟩
   have e1:=X5i (ns:=dpN d.ns r.a) (a:=r.b) hv2.1 hb3.1 hv2.2.2;have e2:=X5i (ns:=d.ns) (a:=r.a) hv2.1 ha3.1 hv2.2.1;exact e1.trans (e2.trans (hsp.1 v hv))
  unfold pvD;refine Kp.trans ((Xa0 hsa).trans (Xa0 hsb1)) (Kp.trans (Xr6 Z Z hs0 _ (Qb _)).1 (Xr9 _ _ _))
 rename_i h2;rw[Q3 h2];split at h
 ·cases h
 split at h
 ·rename_i h3;rw[Q4 h3];unfold idC at h;simp only[Qd,beq_iff_eq] at h;exact (Xa0 h.1.1).trans (Y17 _ _ _ _)
 rename_i h3;rw[Q3 h3];split at h
 ·rename_i h4;rw[Q4 h4];unfold lcC at h;simp only[Qd,beq_iff_eq] at h;have hsa:=h.1.1.1;have hsp:=(X61 d (nearW d.ws r.a)).1 h.2;have ha3:=X0z hsa;have hs0:∀ v ∈ nearW d.ws r.a,spI (id0 d r.a).ns v=true:=fun v hv=>(X5i (ns:=d.ns) (X2p hD hv).1 ha3.1 (X4f hD hv)).trans (hsp.1 v hv);unfold lcD;exact (Xa0 hsa).trans (Kp.trans (Xr4 Z hs0 _ (Qb _)).1 (Xr9 _ _ _))
 rename_i h4;rw[Q3 h4];split at h
 ·unfold loC at h;simp only[Qd] at h;exact (Xa0 h.1.1).trans (Xr9 _ _ _)
 ·cases h
def Xt4{l:List Int}:∀ (n:Nat) {d:Dg},goodD d=true->Kp d (siF n d l).1
 | 0,d,_=>Kp.refl d
 | n+1,d,hG=>by
  unfold siF;cases hf:fsF d l with
  | none=>exact Kp.refl d
  | some r=>
   have hc:=X6w hf;exact (Y93 hG hc).trans (Xt4 n (X92 hc))
def Xya(ns:List Nd):(spL ns).foldl (fun s k=>s+(ns.getD k.toNat nZ).p % 2) 0=((spS ns).map fun i=>(ns.getD i nZ).p % 2).sum:=by
 have key:∀ (l:List Nat) (s:Int),(l.map fun (i:Nat)=>(i:Int)).foldl (fun s k=>s+(ns.getD k.toNat nZ).p % 2) s=s+(l.map fun i=>(ns.getD i nZ).p % 2).sum:=fun l=>by
  induction l with
  | nil=>intro s;simp
  | cons x l ih=>
   intro s;simp only[List.map_cons,List.foldl_cons,List.sum_cons,Qj];rw[ih];omega
 have:=key (spS ns) 0;rw[Ybt,this];omega
def Y5p{ns:List Nd}(hp:PhN ns):((spS ns).map fun i=>(ns.getD i nZ).p % 2).sum=odN ns:=by
 unfold spS;have key:∀ l:List Nd,PhN l->(((List.range l.length).filter fun i=>(l.getD i nZ).k==3).map fun i=>(l.getD i nZ).p % 2).sum=odN l:=fun l=>by
  induction l with
  | nil=>intro _;rfl
  | cons x l ih=>
   intro hl;have hx:=hl x O4;rw[X71,Qs,List.range_succ_eq_map,List.filter_cons,List.filter_map];have e:((fun i=>((x::l).getD i nZ).k==3) ∘ Nat.succ)=fun i=>(l.getD i nZ).k==3:=by funext i;rfl
   have e2:((x::l).getD 0 nZ)=x:=rfl;rw[e,e2];have e3:(List.map (fun i=>((x::l).getD i nZ).p % 2) (List.map Nat.succ ((List.range l.length).filter fun i=>(l.getD i nZ).k==3))).sum=odN l:=by
    rw[List.map_map,<- ih fun y hy=>hl y (by simp[hy])];rfl
   cases hk:(x.k==3)
   ·rw[Q3 O5,e3];simp
   ·rw[Q4 O,List.map_cons,List.sum_cons,e3,e2,Qw];have:x.p % 2=0∨x.p % 2=1:=by omega
    rcases this with h|h<;>rw[h]<;>simp
 exact key ns hp
def Y5o{d:Dg}(hp:PhN d.ns):oddD d=odN d.ns:=by
 rw[<- Y5p hp,<- Xya];rfl
def Y15{ws:List Wr}{a b:Int}{h:Bool}(hl:∀ w ∈ ws,w.a<w.b)(hab:a≠b):∀ w ∈ jnW ws a b h,w.a<w.b:=fun w hw=>by
 rcases X6z.1 hw with rfl|hw
 ·show min a b<max a b;omega
 ·exact hl w hw
def X59(l:List Int)(i j:Nat)(v:Int):(l.set i v).getD j 0=if i=j/\i<l.length then v else l.getD j 0:=by grind
def BrL(n:Nat)(x:Br) : Prop:=(∀ p q:Nat,p<n->q<n->p≠q->x.la.getD p 0≠x.la.getD q 0)/\∀ w ∈ x.d.ws,w.a<w.b
def Xi2{n:Nat}{x:Br}(h:BrOk n x){p:Nat}(hp:p<n):0<=x.la.getD p 0/\x.la.getD p 0<(x.d.ns.length:Int):=X7y h.rg (by rw[h.la];exact hp)
def Y1i{n:Nat}{x:Br}(h:BrOk n x)(hl:BrL n x){k p q:Int}(hq:0<=q/\q.toNat<n):BrL n (nodB x k p q):=by
 refine ⟨fun i j hi hj hij=>?_,?_⟩
 ·show (x.la.set q.toNat _).getD i 0≠(x.la.set q.toNat _).getD j 0;have hi2:=Xi2 h hi;have hj2:=Xi2 h hj;have:=hl.1 i j hi hj hij;rw[X59,X59];split<;>split<;>first|omega|assumption
 ·refine Y15 hl.2 ?_;have:=Xi2 h hq.2;omega
def Xs8{n:Nat}{x:Br}(h:BrOk n x)(hl:BrL n x){q:Int}(hq:0<=q/\q.toNat<n):BrL n (plcB x q):=by
 unfold plcB;split
 ·exact Y1i h hl hq
 ·exact hl
def Yc6{n:Nat}{x:Br}(h:BrOk n x)(hl:BrL n x){q:Int}(hq:0<=q/\q.toNat<n)(m:Int):BrL n (trnB x q m):=Xs8 h hl hq
def Ydi{n:Nat}{x:Br}(h:BrOk n x)(hl:BrL n x){p q:Int}(hp:0<=p/\p.toNat<n)(hq:0<=q/\q.toNat<n)(hpq:p≠q):BrL n (czB x p q):=by
 have h1:=Xs8 (X47 h p) (Xs8 h hl hp) hq;have h2:=h1.1 p.toNat q.toNat hp.2 hq.2 Z;rw[Xiz Z] at h2;unfold czB;dsimp only;split
 ·exact ⟨h1.1,fun w hw=>h1.2 w ((X4o _ _).subset hw)⟩
 ·exact ⟨h1.1,Y15 h1.2 h2⟩
def Ybx{n:Nat}{x:Br}(h:BrOk n x)(hl:BrL n x){a b:Int}(ha:0<=a/\a.toNat<n)(hb:0<=b/\b.toNat<n):BrL n (swpB x a b):=by
 have hla:=h.la;have key:∀ p,((x.la.set a.toNat (x.la.getD b.toNat 0)).set b.toNat (x.la.getD a.toNat 0)).getD p 0=x.la.getD (if p=b.toNat then a.toNat else if p=a.toNat then b.toNat else p) 0:=fun p=>by
  rw[X59,X59,List.length_set];by_cases h1:p=b.toNat
  ·rw[Q4 ⟨h1.symm,by omega⟩,Q4 h1]
  ·rw[Q3 (fun h9=>h1 h9.1.symm),Q3 h1];by_cases h2:p=a.toNat
   ·rw[Q4 ⟨h2.symm,by omega⟩,Q4 h2]
   ·rw[Q3 (fun h9=>h2 h9.1.symm),Q3 h2]
 refine ⟨fun i j hi hj hij=>?_,hl.2⟩;show ((x.la.set a.toNat _).set b.toNat _).getD i 0≠((x.la.set a.toNat _).set b.toNat _).getD j 0;rw[key,key];refine hl.1 _ _ ?_ ?_ ?_
 ·split
  ·omega
  ·split<;>omega
 ·split
  ·omega
  ·split<;>omega
 ·split<;>split<;>(try split)<;>(try split)<;>omega
structure BrA (n:Nat) (x:Br) : Prop where
 ok:BrOk n x
 s:BrS x
 l:BrL n x
def Y5r{c:Cx}(hn:1<=c.n/\c.n<=5):BrA c.n.toNat (ofB0 c):=by
 refine ⟨X9h hn,Xrw c,fun p q hp hq hpq=>?_,fun w hw=>by cases hw⟩;have key:∀ p,p<c.n.toNat->(ofB0 c).la.getD p 0=(p:Int):=fun p hp=>by
  show (ranI c.n.toNat).getD p 0=_;unfold ranI;rw[Qa,List.getElem?_map,List.getElem?_range hp];rfl
 rw[key p hp,key q hq];omega
def Xuu{ns:List Nd}{k m:Int}{i:Nat}(h:k.toNat≠i):(adN ns k m).getD i nZ=ns.getD i nZ:=by
 unfold adN;rw[X5y,Q3 fun h2=>h h2.1]
def hadW(q:Nat)(w:St) : St:=fun b=>gf true (b q) false*w (upB b q false)+gf true (b q) true*w (upB b q true)
def hT:List Bool->Nat->St->St
 | [],_,w=>w
 | h::l,k,w=>if h=true then hadW k (hT l (k+1) w) else hT l (k+1) w
def Yec(a b c d p q r s:Rg):a*(c*p+d*q)+b*(c*r+d*s)=c*(a*p+b*r)+d*(a*q+b*s):=by
 simp only[X0g,Xz,X0c,Xl,X4]
def Xfe{p q:Nat}(h:p≠q)(w:St):hadW p (hadW q w)=hadW q (hadW p w):=by
 funext b;unfold hadW;rw[X5c (β:=b) (k:=p) (j:=q) (x:=false) (fun e=>h e.symm),X5c (β:=b) (k:=p) (j:=q) (x:=true) (fun e=>h e.symm),X5c (β:=b) (k:=q) (j:=p) (x:=false) h,X5c (β:=b) (k:=q) (j:=p) (x:=true) h];rw[Xam (β:=b) (i:=q) (j:=p) (fun e=>h e.symm),Xam (β:=b) (i:=q) (j:=p) (fun e=>h e.symm),Xam (β:=b) (i:=q) (j:=p) (fun e=>h e.symm),Xam (β:=b) (i:=q) (j:=p) (fun e=>h e.symm)];exact Yec _ _ _ _ _ _ _ _
def Xlu(y:Rg):y+omZ 4*y=0:=by
 rw[show omZ 4=(⟨-1,0,0,0⟩ : Rg) by decide];have e1:(0:Rg).a=0:=rfl;have e2:(0:Rg).b=0:=rfl;have e3:(0:Rg).c=0:=rfl;have e4:(0:Rg).d=0:=rfl;apply X3f<;>simp only[Xg6,Xg7,Xg8,Xg9,X8e,X8f,X8g,X8h,e1,e2,e3,e4]<;>omega
def Xry(y:Rg):omZ 4*(omZ 4*y)=y:=by rw[<- X3,show omZ 4*omZ 4=1 by decide,Xb]
def Y0y(u:Bool)(x y:Rg):gf true u false*(gf true false false*x+gf true false true*y)+gf true u true*(gf true true false*x+gf true true true*y)=(1+1)*(if u=true then y else x):=by
 cases u
 ·show 1*(1*x+1*y)+1*(1*x+omZ 4*y)=(1+1)*x;simp only[Xb,X0e];rw[show x+y+(x+omZ 4*y)=x+x+(y+omZ 4*y) by simp only[Xz,Xl],Xlu,X01]
 ·show 1*(1*x+1*y)+omZ 4*(1*x+omZ 4*y)=(1+1)*y;simp only[Xb,X0e,X0g,Xry];rw[show x+y+(omZ 4*x+y)=y+y+(x+omZ 4*x) by simp only[Xz,Xl,X0c],Xlu,X01]
def Ycd(w:St)(b:Nat->Bool)(q:Nat):(if b q=true then w (upB b q true) else w (upB b q false))=w b:=by
 cases h:b q
 ·rw[Q3 O5,X4l b q h]
 ·rw[Q4 O,X4l b q h]
def Yab(q:Nat)(w:St):hadW q (hadW q w)=fun b=>s2^2*w b:=by
 funext b;unfold hadW;simp only[X8m,Xn0];rw[Y0y,Ycd,Xj8]
def Y4z{q:Nat}{φ w:St}(h:∀ b t,φ (upB b q t)=φ b):hadW q (fun b=>φ b*w b)=fun b=>φ b*hadW q w b:=by
 funext b;show gf true (b q) false*(φ (upB b q false)*w (upB b q false))+gf true (b q) true*(φ (upB b q true)*w (upB b q true))=φ b*(gf true (b q) false*w (upB b q false)+gf true (b q) true*w (upB b q true));rw[h,h,X0g];congr 1<;>rw[X4]
def X9y:∀ (l:List Bool) (k:Nat) {φ w:St},(∀ i,l.getD i false=true->∀ b t,φ (upB b (k+i) t)=φ b)->hT l k (fun b=>φ b*w b)=fun b=>φ b*hT l k w b
 | [],_,_,_,_=>rfl
 | h::l,k,φ,w,hl=>by
  have ih:=X9y l (k+1) (φ:=φ) (w:=w) fun i hi b t=>by
   have:=hl (i+1) (by simpa using hi) b t
   rwa [show k+(i+1)=k+1+i by omega] at this
  unfold hT;rw[ih];cases h
  ·rfl
  ·exact Y4z fun b t=>hl 0 O b t
def Xfa(c:Rg)(l:List Bool)(k:Nat)(w:St):hT l k (fun b=>c*w b)=fun b=>c*hT l k w b:=X9y l k (φ:=fun _=>c) fun _ _ _ _=>rfl
def Y10{j:Nat}:∀ (l:List Bool) (k:Nat) (w:St),j<k->hT l k (hadW j w)=hadW j (hT l k w)
 | [],_,_,_=>rfl
 | h::l,k,w,hj=>by
  unfold hT;rw[Y10 l (k+1) w Z];cases h
  ·rfl
  ·exact Xfe Z _
def Xql:∀ (l:List Bool) (k q:Nat) (w:St),q<l.length->l.getD q false=false->hT (l.set q true) k w=hT l k (hadW (k+q) w)
 | [],_,_,_,h,_=>by simp at h
 | h::l,k,0,w,_,h0=>by
  have h0:h=false:=h0;subst h0;show hadW k (hT l (k+1) w)=hT l (k+1) (hadW k w);rw[Y10 l (k+1) w Z]
 | h::l,k,q+1,w,hl,h0=>by
  have ih:=Xql l (k+1) q w (by simpa using hl) (by simpa using h0);show hT (h::l.set q true) k w=hT (h::l) k (hadW (k+(q+1)) w);unfold hT;rw[ih,show k+1+q=k+(q+1) by omega]
def Xc7:∀ (l:List Bool) (k q:Nat) (w:St),l.getD q false=true->hT l k w=hadW (k+q) (hT (l.set q false) k w)
 | [],_,_,_,h0=>by simp at h0
 | h::l,k,0,w,h0=>by
  have h0:h=true:=h0;subst h0;rfl
 | h::l,k,q+1,w,h0=>by
  have ih:=Xc7 l (k+1) q w (by simpa using h0);show hT (h::l) k w=hadW (k+(q+1)) (hT (h::l.set q false) k w);unfold hT;rw[ih,show k+1+q=k+(q+1) by omega];cases h
  ·rfl
  ·exact Xfe Z _
def X78{l:List Bool}{q:Nat}{c:Bool}(hl:l.getD q false=c)(hql:q<l.length):l.set q c=l:=by
 apply List.ext_getElem?;intro i;rw[List.getElem?_set];split
 ·rename_i e;subst e
  first|rw[Q4 hql,Qc hql]|rw[Qc hql]
  rw[Qa,Qc hql] at hl;exact congrArg some hl.symm
 ·rfl
def X2r(l:List Bool)(i j:Nat)(v:Bool):(l.set i v).getD j false=if i=j/\i<l.length then v else l.getD j false:=by grind
def swB(a c:Nat)(b:Nat->Bool) : Nat->Bool:=fun q=>if q=a then b c else if q=c then b a else b q
def Xmr{a c p:Nat}(b:Nat->Bool)(t:Bool)(h1:p≠a)(h2:p≠c):swB a c (upB b p t)=upB (swB a c b) p t:=by grind [swB,upB]
def Xmp{a c:Nat}(b:Nat->Bool)(t:Bool)(h:a≠c):swB a c (upB b a t)=upB (swB a c b) c t:=by grind [swB,upB]
def Xmq{a c:Nat}(b:Nat->Bool)(t:Bool)(h:a≠c):swB a c (upB b c t)=upB (swB a c b) a t:=by grind [swB,upB]
def Xxt{a c p:Nat}(w:St)(h1:p≠a)(h2:p≠c):hadW p (fun b=>w (swB a c b))=fun b=>hadW p w (swB a c b):=by
 funext b;simp only[hadW];rw[Xmr b _ h1 h2,Xmr b _ h1 h2];have e:swB a c b p=b p:=by unfold swB;rw[Q3 h1,Q3 h2]
 rw[e]
def Xxr{a c:Nat}(w:St)(h:a≠c):hadW a (fun b=>w (swB a c b))=fun b=>hadW c w (swB a c b):=by
 funext b;simp only[hadW];rw[Xmp b _ h,Xmp b _ h];have e:swB a c b c=b a:=by unfold swB;rw[Q3 (fun e=>h e.symm),Q4 rfl]
 rw[e]
def Xxs{a c:Nat}(w:St)(h:a≠c):hadW c (fun b=>w (swB a c b))=fun b=>hadW a w (swB a c b):=by
 funext b;simp only[hadW];rw[Xmq b _ h,Xmq b _ h];have e:swB a c b a=b c:=by unfold swB;rw[Q4 rfl]
 rw[e]
def Y11{a c:Nat}:∀ (l:List Bool) (k:Nat) (w:St),(∀ i,l.getD i false=true->k+i≠a/\k+i≠c)->hT l k (fun b=>w (swB a c b))=fun b=>hT l k w (swB a c b)
 | [],_,_,_=>rfl
 | h::l,k,w,hl=>by
  have ih:=Y11 (a:=a) (c:=c) l (k+1) w fun i hi=>by
   have:=hl (i+1) (by simpa using hi);omega
  unfold hT;rw[ih];cases h
  ·rfl
  ·have:=hl 0 O;exact Xxt _ Z Z
def hqc(c:Bool)(q:Nat)(w:St) : St:=if c=true then hadW q w else w
def Xqm{l:List Bool}{a c:Nat}(hac:a≠c)(ha:a<l.length)(hc:c<l.length)(w:St):hT l 0 w=hqc (l.getD a false) a (hqc (l.getD c false) c (hT ((l.set a false).set c false) 0 w)):=by
 have e1:hT l 0 w=hqc (l.getD a false) a (hT (l.set a false) 0 w):=by
  unfold hqc;cases h:l.getD a false
  ·rw[X78 h ha];rfl
  ·rw[Q4 O,Xc7 l 0 a w h,Nat.zero_add]
 have e2:hT (l.set a false) 0 w=hqc (l.getD c false) c (hT ((l.set a false).set c false) 0 w):=by
  have e3:(l.set a false).getD c false=l.getD c false:=by rw[X2r,Q3 fun h=>hac h.1]
  unfold hqc;cases h:l.getD c false
  ·rw[X78 (e3.trans h) (by rw[List.length_set];exact hc)];rfl
  ·rw[Q4 O,Xc7 (l.set a false) 0 c w (e3.trans h),Nat.zero_add]
 rw[e1,e2]
def Xqs{a c:Nat}(x:Bool)(w:St)(h:a≠c):hqc x a (fun b=>w (swB a c b))=fun b=>hqc x c w (swB a c b):=by
 cases x
 ·rfl
 ·exact Xxr w h
def Xqt{a c:Nat}(x:Bool)(w:St)(h:a≠c):hqc x c (fun b=>w (swB a c b))=fun b=>hqc x a w (swB a c b):=by
 cases x
 ·rfl
 ·exact Xxs w h
def Xqr{p q:Nat}(h:p≠q)(x y:Bool)(w:St):hqc x p (hqc y q w)=hqc y q (hqc x p w):=by
 cases x<;>cases y<;>first|rfl|exact Xfe h w
def Xxp{l:List Bool}{a c:Nat}(hac:a≠c)(ha:a<l.length)(hc:c<l.length)(w:St):hT l 0 (fun b=>w (swB a c b))=fun b=>hT ((l.set a (l.getD c false)).set c (l.getD a false)) 0 w (swB a c b):=by
 have e0:(((l.set a (l.getD c false)).set c (l.getD a false)).set a false).set c false=(l.set a false).set c false:=by
  apply List.ext_getElem?;intro i;simp only[List.getElem?_set,List.length_set]
  repeat' split
  all_goals first|rfl|omega
 have g1:((l.set a (l.getD c false)).set c (l.getD a false)).getD a false=l.getD c false:=by
  rw[X2r,Q3 (fun h=>hac h.1.symm),X2r,Q4 ⟨O,ha⟩]
 have g2:((l.set a (l.getD c false)).set c (l.getD a false)).getD c false=l.getD a false:=by
  rw[X2r,Q4 ⟨O,by rw[List.length_set];exact hc⟩]
 rw[Xqm hac ha hc,Xqm (l:=(l.set a (l.getD c false)).set c (l.getD a false)) hac (by simpa using ha) (by simpa using hc),e0,g1,g2];rw[Y11 _ 0 w fun i hi=>?_,Xqt _ _ hac,Xqs _ _ hac]
 ·funext b;rw[Xqr (fun e=>hac e.symm)]
 ·rw[X2r,X2r] at hi;rw[Nat.zero_add];constructor
  ·intro e;subst e;rw[Q3 (fun h=>hac h.1.symm),Q4 ⟨O,ha⟩] at hi;cases hi
  ·intro e;subst e;rw[Q4 ⟨O,by rw[List.length_set];exact hc⟩] at hi;cases hi
def lB(n:Nat)(x:Br)(β:Nat->Bool) : Nat->Bool:=fun q=>if q<n then β (x.la.getD q 0).toNat else false
def gB(n:Nat)(x:Br)(w:St)(β:Nat->Bool) : Rg:=fD x.d β*hT x.hd 0 w (lB n x β)
def semB(n:Nat)(x:Br)(w:St)(β:Nat->Bool) : Rg:=zL (spS x.d.ns) (gB n x w) β
def Xbo{ns:List Nd}(x:Nd):(ns++[x]).getD ns.length nZ=x:=by grind
def Xk3{ns:List Nd}(x:Nd){i:Nat}(h:i<ns.length):(ns++[x]).getD i nZ=ns.getD i nZ:=by grind
def Xmj(ns:List Nd)(x:Nd):spS (ns++[x])=spS ns++(if (x.k==3)=true then [ns.length] else []):=by
 unfold spS;rw[Qh,List.length_singleton,List.range_succ,List.filter_append];congr 1
 ·refine List.filter_congr fun i hi=>?_;rw[Xk3 x (W2.1 hi)]
 ·rw[List.filter_cons,Xbo];split<;>rfl
def Xtd{ns:List Nd}{i:Nat}(h:i ∈ spS ns):i<ns.length:=W2.1 (List.mem_filter.1 h).1
def Xrn:∀ (ns:List Nd) (k:Nat) (x:Nd) (β:Nat->Bool),nP (ns++[x]) k β=nP ns k β*nf x (β (k+ns.length))
 | [],k,x,β=>by
  show nf x (β k)*1=1*nf x (β (k+0));rw[Xs];rfl
 | y::ns,k,x,β=>by
  show nf y (β k)*nP (ns++[x]) (k+1) β=nf y (β k)*nP ns (k+1) β*nf x (β (k+(ns.length+1)));rw[Xrn ns (k+1) x β,X3,show k+1+ns.length=k+(ns.length+1) by omega]
def Xif(x:Br)(k p q:Int)(β:Nat->Bool):fD (nodB x k p q).d β=gf (x.hd.getD q.toNat false) (β (x.la.getD q.toNat 0).toNat) (β x.d.ns.length)*(nf ⟨k,p⟩ (β x.d.ns.length)*fD x.d β):=by
 unfold fD nodB;dsimp only;rw[Xrn,Xeb,Qj,Nat.zero_add];simp only[X3,Xs,X4]
def Xpt{d:Dg}(hg:RgW d.ns.length d.ws){k:Nat}(hk:d.ns.length<=k)(β:Nat->Bool)(t:Bool):fD d (upB β k t)=fD d β:=by
 unfold fD;rw[Xro,Xu9]
 ·intro w hw;have:=hg w hw;omega
 ·intro i y hy hi;have:=(Qg.1 hy).1;omega
def Xiq{n:Nat}{x:Br}(h:BrOk n x){q:Int}(hq:0<=q/\q.toNat<n)(k p:Int)(β:Nat->Bool):lB n (nodB x k p q) β=upB (lB n x β) q.toNat (β x.d.ns.length):=by
 funext j;simp only[lB,upB];by_cases hj:j<n
 ·rw[Q4 hj,Q4 hj];show β (((x.la.set q.toNat (x.d.ns.length:Int)).getD j 0).toNat)=_;rw[X59];by_cases e:j=q.toNat
  ·rw[Q4 e,Q4 ⟨e.symm,by rw[h.la];omega⟩,Qj]
  ·rw[Q3 e,Q3 fun h2=>e h2.1.symm]
 ·rw[Q3 hj,Q3 hj,Q3 Z]
def Y19{n:Nat}{x:Br}(h:BrOk n x){k:Nat}(hk:x.d.ns.length<=k)(β:Nat->Bool)(t:Bool):lB n x (upB β k t)=lB n x β:=by
 funext j;unfold lB;by_cases hj:j<n
 ·rw[Q4 hj,Q4 hj];have:=Xi2 h hj;exact X5c Z
 ·rw[Q3 hj,Q3 hj]
def Xh2{n:Nat}{x:Br}{q:Int}(hq:q.toNat<n)(β:Nat->Bool):lB n x β q.toNat=β (x.la.getD q.toNat 0).toNat:=by unfold lB;rw[Q4 hq]
def Xue:∀ (l:List Nat) {G H:(Nat->Bool)->Rg} (β:Nat->Bool),(∀ γ,(∀ k,k ∉ l->γ k=β k)->G γ=H γ)->zL l G β=zL l H β
 | [],_,_,β,h=>h β fun _ _=>rfl
 | i::l,G,H,β,h=>by
  unfold zL;have key:∀ t,zL l G (upB β i t)=zL l H (upB β i t):=fun t=>Xue l _ fun γ hγ=>h γ fun k hk=>by
   have h1:=hγ k fun hm=>hk (by simp[hm]);rw[h1];exact X5c fun e=>hk (by simp[e])
  rw[key,key]
def Y1f(b:Bool):nf ⟨3,0⟩ b=1:=by cases b<;>rfl
def Ye8(p:Int)(b:Bool):nf ⟨2,p⟩ b=1:=by unfold nf;rfl
def Y4m(u:Bool)(x:Bool->Rg):gf false u false*x false+gf false u true*x true=x u:=by
 cases u
 ·show 1*x false+0*x true=x false;rw[Xb,Xo,X01]
 ·show 0*x false+1*x true=x true;rw[Xb,Xo,X09]
def Xt0{n:Nat}{x:Br}(h:BrOk n x)(hg:BrG x){q:Int}(hq:0<=q/\q.toNat<n)(w:St)(β:Nat->Bool):semB n (nodB x 3 0 q) w β=semB n x w β:=by
 have hN:x.d.ns.length ∉ spS x.d.ns:=fun hm=>by have:=Xtd hm;omega
 have hla:=h.at hq;unfold semB;rw[show (nodB x 3 0 q).d.ns=x.d.ns++[⟨3,0⟩] from O,Xmj,show (if ((⟨3,0⟩ : Nd).k==3)=true then [x.d.ns.length] else [])=[x.d.ns.length] from O,Xbh List.perm_append_comm];show zL (x.d.ns.length::spS x.d.ns) _ β=_;rw[Xhv _ _ _ hN];refine X33 _ _ fun γ=>?_;unfold gB;rw[Xif,Xif,Xiq h hq,Xiq h hq,Xpt hg (Qb _),Xpt hg (Qb _),Y19 h (Qb _),Y19 h (Qb _),X8m,X8m,Y1f,Y1f,X5c Z,X5c Z,Xb];rw[<- Xh2 (x:=x) hq.2 γ];generalize lB n x γ=L;generalize fD x.d γ=F;show gf (x.hd.getD q.toNat false) (L q.toNat) false*F*hT (x.hd.set q.toNat false) 0 w (upB L q.toNat false)+gf (x.hd.getD q.toNat false) (L q.toNat) true*F*hT (x.hd.set q.toNat false) 0 w (upB L q.toNat true)=F*hT x.hd 0 w L;cases hh:x.hd.getD q.toNat false
 ·rw[X78 hh (by rw[h.hd];omega)];have:=Y4m (L q.toNat) fun t=>F*hT x.hd 0 w (upB L q.toNat t);rw[X3,X3,this,X4l L _ rfl]
 ·rw[Xc7 x.hd 0 q.toNat w hh,Nat.zero_add];unfold hadW;rw[X0g];congr 1<;>simp only[X3,Xs,X4]
def Xt1{n:Nat}{x:Br}(h:BrOk n x){q:Int}(hq:0<=q/\q.toNat<n)(p:Int)(w:St)(β:Nat->Bool):semB n (nodB x 2 p q) w β=semB n x (fun b=>gf false (b q.toNat) (β x.d.ns.length)*w b) β:=by
 have hN:x.d.ns.length ∉ spS x.d.ns:=fun hm=>by have:=Xtd hm;omega
 unfold semB;rw[show (nodB x 2 p q).d.ns=x.d.ns++[⟨2,p⟩] from O,Xmj,show (if ((⟨2,p⟩ : Nd).k==3)=true then [x.d.ns.length] else [])=[] from O,List.append_nil];refine Xue _ _ fun γ hγ=>?_;unfold gB;rw[Xif,Xiq h hq,Ye8,Xb,<- hγ _ hN,<- Xh2 (x:=x) hq.2 γ];generalize lB n x γ=L;generalize fD x.d γ=F;generalize γ x.d.ns.length=o;show gf (x.hd.getD q.toNat false) (L q.toNat) o*F*hT (x.hd.set q.toNat false) 0 w (upB L q.toNat o)=F*hT x.hd 0 (fun b=>gf false (b q.toNat) o*w b) L;cases hh:x.hd.getD q.toNat false
 ·rw[X78 hh (by rw[h.hd];omega),X9y x.hd 0 (φ:=fun b=>gf false (b q.toNat) o) (fun i hi b t=>by
   rw[X5c fun e=>by rw[Nat.zero_add] at e;rw[<- e] at hi;rw[hh] at hi;cases hi])]
  dsimp only;by_cases e:L q.toNat=o
  ·rw[X4l L _ e];simp only[X3,Xs,X4]
  ·have e2:gf false (L q.toNat) o=0:=by unfold gf;rw[Q3 O5,Q3 (by simpa using e)]
   rw[e2,Xo,Xo,Xo,Xt]
 ·have e3:hT (x.hd.set q.toNat false) 0 (fun b=>gf false (b q.toNat) o*w b)=fun b=>gf false (b q.toNat) o*hT (x.hd.set q.toNat false) 0 w b:=
   X9y (x.hd.set q.toNat false) 0 (φ:=fun b=>gf false (b q.toNat) o) fun i hi b t=>by
    rw[X5c fun e=>by
     rw[Nat.zero_add] at e;rw[<- e,X2r] at hi;split at hi
     ·cases hi
     ·rename_i h9;exact h9 ⟨O,by rw[h.hd];omega⟩]
  rw[Xc7 x.hd 0 q.toNat _ hh,Nat.zero_add,e3];show _=F*(gf true (L q.toNat) false*(gf false (upB L q.toNat false q.toNat) o*hT (x.hd.set q.toNat false) 0 w (upB L q.toNat false))+gf true (L q.toNat) true*(gf false (upB L q.toNat true q.toNat) o*hT (x.hd.set q.toNat false) 0 w (upB L q.toNat true)));rw[X8m,X8m];cases o
  ·show _=F*(_*(1*_)+_*(0*_));rw[Xb,Xo,Xt,X01];simp only[X3,Xs,X4]
  ·show _=F*(_*(0*_)+_*(1*_));rw[Xb,Xo,Xt,X09];simp only[X3,Xs,X4]
def phW(q:Nat)(m:Int)(w:St) : St:=fun b=>(if b q=true then omZ m else 1)*w b
def czW(p q:Nat)(w:St) : St:=fun b=>gf true (b p) (b q)*w b
def Xyt{n:Nat}{x:Br}{q:Int}(hq:0<=q/\q.toNat<n)(hs:spI x.d.ns (x.la.getD q.toNat 0)=true)(hh:x.hd.getD q.toNat false=false)(m:Int)(w:St)(β:Nat->Bool):semB n { x with d:={ x.d with ns:=adN x.d.ns (x.la.getD q.toNat 0) m } } w β=semB n x (phW q.toNat m w) β:=by
 unfold semB;show zL (spS (adN x.d.ns (x.la.getD q.toNat 0) m)) _ β=_;rw[Xcq];refine X33 _ _ fun γ=>?_;unfold gB phW;rw[X9y x.hd 0 (φ:=fun b=>if b q.toNat=true then omZ m else 1) fun i hi b t=>by
  rw[X5c fun e=>by rw[Nat.zero_add] at e;rw[<- e,hh] at hi;cases hi]]
 dsimp only;rw[Xh2 hq.2];unfold fD;dsimp only;rw[Xls hs];show omZ x.d.t*((if γ (x.la.getD q.toNat 0).toNat=true then omZ m else 1)*nP x.d.ns 0 γ*wP x.d.ws γ)*hT x.hd 0 w (lB n x γ)=_;simp only[X3,Xs,X4]
def Xmc{n:Nat}{x:Br}{p q:Int}(hp:0<=p/\p.toNat<n)(hq:0<=q/\q.toNat<n)(h1:x.hd.getD p.toNat false=false)(h2:x.hd.getD q.toNat false=false){D:Dg}(hn:D.ns=x.d.ns)(hD:∀ γ,fD D γ=gf true (γ (x.la.getD p.toNat 0).toNat) (γ (x.la.getD q.toNat 0).toNat)*fD x.d γ)(w:St)(β:Nat->Bool):semB n { x with d:=D } w β=semB n x (czW p.toNat q.toNat w) β:=by
 unfold semB;show zL (spS D.ns) _ β=_;rw[hn];refine X33 _ _ fun γ=>?_;unfold gB czW;rw[X9y x.hd 0 (φ:=fun b=>gf true (b p.toNat) (b q.toNat)) fun i hi b t=>by
  have hne:∀ r:Nat,x.hd.getD r false=false->r≠0+i:=fun r hr e=>by
   rw[Nat.zero_add] at e;rw[<- e,hr] at hi;cases hi
  rw[X5c (hne _ h1),X5c (hne _ h2)]]
 dsimp only;rw[Xh2 hp.2,Xh2 hq.2,hD];show _*hT x.hd 0 w (lB n x γ)=_;simp only[X3,Xs,X4]
def Xsy{n:Nat}{x:Br}{q:Int}(hq:q.toNat<x.hd.length)(hh:x.hd.getD q.toNat false=false)(w:St)(β:Nat->Bool):semB n (flpB x q) w β=semB n x (hadW q.toNat w) β:=by
 unfold semB;refine X33 _ _ fun γ=>?_;unfold gB flpB;dsimp only;rw[hh];show fD x.d γ*hT (x.hd.set q.toNat true) 0 w (lB n x γ)=_;rw[Xql x.hd 0 q.toNat w hq hh,Nat.zero_add]
def Xsz{n:Nat}{x:Br}{q:Int}(hq:q.toNat<x.hd.length)(hh:x.hd.getD q.toNat false=true)(w:St)(β:Nat->Bool):s2^2*semB n (flpB x q) w β=semB n x (hadW q.toNat w) β:=by
 unfold semB;rw[<- Xa9];refine X33 _ _ fun γ=>?_;unfold gB flpB;dsimp only;rw[hh];have e:(x.hd.set q.toNat false).set q.toNat true=x.hd:=by rw[List.set_set,X78 hh hq]
 have e2:=Xql (x.hd.set q.toNat false) 0 q.toNat (hadW q.toNat w) (by rw[List.length_set];exact hq) (by rw[X2r,Q4 ⟨rfl,hq⟩]);rw[e,Nat.zero_add,Yab,Xfa] at e2;rw[e2];show s2^2*(fD x.d γ*hT (x.hd.set q.toNat false) 0 w (lB n x γ))=fD x.d γ*(s2^2*hT (x.hd.set q.toNat false) 0 w (lB n x γ));rw[X4]
def Xyu{n:Nat}{x:Br}{k:Int}(hk:wr (x.d.t+k)=x.d.t+k)(w:St)(β:Nat->Bool):semB n (tnB x k) w β=semB n x (fun b=>omZ k*w b) β:=by
 unfold semB;refine X33 _ _ fun γ=>?_;unfold gB tnB;dsimp only;rw[Xfa];unfold fD;dsimp only;rw[hk,X2g];show _*hT x.hd 0 w (lB n x γ)=_;simp only[X3,Xs,X4]
def Y57{n:Nat}{x:Br}(h:BrOk n x){a c:Int}(ha:0<=a/\a.toNat<n)(hc:0<=c/\c.toNat<n)(β:Nat->Bool):lB n (swpB x a c) β=swB a.toNat c.toNat (lB n x β):=by
 funext j;simp only[lB,swB];by_cases hj:j<n
 ·rw[Q4 hj];show β (((x.la.set a.toNat (x.la.getD c.toNat 0)).set c.toNat (x.la.getD a.toNat 0)).getD j 0).toNat=_;rw[X59,X59,List.length_set,h.la];by_cases e1:j=a.toNat
  ·rw[Q4 e1,Q4 hc.2];by_cases e2:c.toNat=j
   ·rw[Q4 ⟨e2,hc.2⟩,e2,<- e1]
   ·rw[Q3 fun h9=>e2 h9.1,Q4 ⟨e1.symm,ha.2⟩]
  ·rw[Q3 e1];by_cases e2:j=c.toNat
   ·rw[Q4 ⟨e2.symm,hc.2⟩,Q4 e2,Q4 ha.2]
   ·rw[Q3 fun h9=>e2 h9.1.symm,Q3 fun h9=>e1 h9.1.symm,Q3 e2,Q4 hj]
 ·rw[Q3 hj,Q3 Z,Q3 Z,Q3 hj]
def Xt2{n:Nat}{x:Br}(h:BrOk n x){a c:Int}(ha:0<=a/\a.toNat<n)(hc:0<=c/\c.toNat<n)(hac:a≠c)(w:St)(β:Nat->Bool):semB n (swpB x a c) w β=semB n x (fun b=>w (swB a.toNat c.toNat b)) β:=by
 unfold semB;refine X33 _ _ fun γ=>?_;unfold gB;rw[Y57 h ha hc,Xxp Z (by rw[h.hd];omega) (by rw[h.hd];omega)];rfl
def cF(l:List Bool) : Int:=((l.filter id).length:Int)
def X93(x:Bool)(l:List Bool):cF (x::l)=(if x=true then 1 else 0)+cF l:=by grind [cF]
def Y9b(l:List Bool):0<=cF l:=by unfold cF;omega
def Xbq:∀ (l:List Bool) (q:Nat) (v:Bool),q<l.length->cF (l.set q v)+(if l.getD q false=true then 1 else 0)=cF l+(if v=true then 1 else 0)
 | [],_,_,h=>by simp at h
 | x::l,0,v,_=>by
  show cF (v::l)+(if x=true then 1 else 0)=cF (x::l)+_;rw[X93,X93];omega
 | x::l,q+1,v,h=>by
  have ih:=Xbq l q v (by simpa using h);show cF (x::l.set q v)+(if l.getD q false=true then 1 else 0)=cF (x::l)+_;rw[X93,X93];omega
def BrH(n:Nat)(x:Br) : Prop:=∀ w ∈ x.d.ws,∀ p q:Nat,p<n->q<n->w.a=x.la.getD p 0->w.b=x.la.getD q 0->w.h=true
structure BrF (n m e:Nat) (x:Br) : Prop where
 a:BrA n x
 h:BrH n x
 r:-(m:Int)<=x.d.r/\x.d.r<=m
 t:0<=x.d.t/\x.d.t<=2*(m:Int)
 z:0<=exD x.d
 e:(e:Int)=exD x.d+cF x.hd
def BrF.mono{n m m' e:Nat}{x:Br}(h:BrF n m e x)(hm:m<=m'):BrF n m' e x:=⟨h.a,h.h,by have:=h.r;omega,by have:=h.t;omega,h.z,h.e⟩
def Yat{n:Nat}{x:Br}(ha:BrA n x)(h:BrH n x){q:Int}(hq:0<=q/\q.toNat<n)(k p:Int):BrH n (nodB x k p q):=by
 intro w hw i j hi hj ea eb;have hN:=Xi2 ha.ok hq.2;have hlen:=ha.ok.la;have ea:w.a=(x.la.set q.toNat (x.d.ns.length:Int)).getD i 0:=ea;have eb:w.b=(x.la.set q.toNat (x.d.ns.length:Int)).getD j 0:=eb;rw[X59] at ea eb;rcases X6z.1 hw with rfl|hw
 ·exfalso;dsimp only at ea eb;have hi2:=Xi2 ha.ok hi;split at ea
  ·omega
  ·rename_i h9;have:=ha.l.1 q.toNat i hq.2 hi Z;omega
 ·have hr:=ha.s.2 w hw;split at ea
  ·omega
  ·split at eb
   ·omega
   ·exact h w hw i j hi hj ea eb
def Y3j(x:Br)(k p q:Int):exD (nodB x k p q).d=(if x.hd.getD q.toNat false=true then 1 else 0)+exD x.d:=by
 unfold exD;show hdN (jnW _ _ _ _)-x.d.r=_;rw[Xc8];omega
def Y1g{n m e:Nat}{x:Br}(h:BrF n m e x){k p q:Int}(hq:0<=q/\q.toNat<n)(hp:0<=p/\p<=7):BrF n m e (nodB x k p q):=by
 have h1:=Y3j x k p q;have h2:=Xbq x.hd q.toNat false (by rw[h.a.ok.hd];exact hq.2);have h3:=h.z;have h4:=h.e;have h5:0<=exD (nodB x k p q).d/\exD (nodB x k p q).d+cF (x.hd.set q.toNat false)=exD x.d+cF x.hd:=by
  cases hh:x.hd.getD q.toNat false
  ·rw[hh] at h1 h2;simp only[Bool.false_eq_true,if_false] at h1 h2;omega
  ·rw[hh] at h1 h2;simp only[Bool.false_eq_true,if_false,if_true] at h1 h2;omega
 refine ⟨⟨Xcd h.a.ok hp,Xrr h.a.ok h.a.s hq,Y1i h.a.ok h.a.l hq⟩,Yat h.a h.h hq k p,h.r,h.t,h5.1,?_⟩;show (e:Int)=exD (nodB x k p q).d+cF (x.hd.set q.toNat false);omega
def Xix{n m e:Nat}{x:Br}(h:BrF n m e x){q:Int}(hq:0<=q/\q.toNat<n):BrF n m e (plcB x q)/\∀ w β,semB n (plcB x q) w β=semB n x w β:=by
 unfold plcB;split
 ·exact ⟨Y1g h hq O5,fun w β=>Xt0 h.a.ok h.a.s.2 hq w β⟩
 ·exact ⟨h,fun _ _=>rfl⟩
def Xiy{n:Nat}{x:Br}(h:BrOk n x){q:Int}(hq:0<=q/\q.toNat<n):(plcB x q).hd.getD q.toNat false=false:=by
 unfold plcB;split
 ·show (x.hd.set q.toNat false).getD q.toNat false=false;rw[X2r,Q4 ⟨O,by rw[h.hd];exact hq.2⟩]
 ·rename_i h9;rw[Bool.not_eq_true,Bool.or_eq_false_iff] at h9;exact h9.1
def Y60{x:Br}{q:Int}{p:Nat}(h:p≠q.toNat):(plcB x q).hd.getD p false=x.hd.getD p false:=by
 unfold plcB;split
 ·show (x.hd.set q.toNat false).getD p false=_;rw[X2r,Q3 fun h2=>h h2.1.symm]
 ·rfl
def Xj2{n:Nat}{x:Br}(h:BrOk n x){q:Int}(hq:0<=q/\q.toNat<n):spI (plcB x q).d.ns ((plcB x q).la.getD q.toNat 0)=true:=by
 have hN:=Xi2 h hq.2;unfold plcB;split
 ·show spI (x.d.ns++[⟨3,0⟩]) ((x.la.set q.toNat (x.d.ns.length:Int)).getD q.toNat 0)=true;rw[X59,Q4 ⟨O,by rw[h.la];exact hq.2⟩];unfold spI;rw[Qj,Xbo,X11.2 ⟨by omega,by rw[Qh,List.length_singleton];omega⟩];rfl
 ·rename_i h9;rw[Bool.not_eq_true,Bool.or_eq_false_iff] at h9;unfold spI;rw[X11.2 ⟨by omega,by omega⟩];simpa using h9.2
def Xmy{n m e:Nat}{x:Br}(h:BrF n m e x){q:Int}(hq:0<=q/\q.toNat<n)(u:Int):BrF n m e (trnB x q u)/\∀ w β,semB n (trnB x q u) w β=semB n x (phW q.toNat u w) β:=by
 have hp:=Xix h hq;refine ⟨⟨⟨X5b h.a.ok _ _,Xe9 h.a.ok h.a.s hq _,Yc6 h.a.ok h.a.l hq _⟩,hp.1.h,hp.1.r,hp.1.t,hp.1.z,hp.1.e⟩,fun w β=>?_⟩;rw[<- hp.2];exact Xyt hq (Xj2 h.a.ok hq) (Xiy h.a.ok hq) u w β
def Y0p{n:Nat}{x:Br}(h:BrA n x)(q:Int):BrA n (flpB x q):=⟨X2f h.ok q,h.s,h.l⟩
def Xc3{n m e:Nat}{x:Br}(h:BrF n m e x){q:Int}(hq:0<=q/\q.toNat<n):∃ e',BrF n m e' (flpB x q)/\∀ w β,s2^(e+1)*semB n (flpB x q) w β=s2^e'*semB n x (hadW q.toNat w) β:=by
 have hl:q.toNat<x.hd.length:=by rw[h.a.ok.hd];exact hq.2
 have h2:=Xbq x.hd q.toNat (!(x.hd.getD q.toNat false)) hl;have h3:=h.e;have hx:=h.z;cases hh:x.hd.getD q.toNat false with
 | false=>
  rw[hh] at h2;simp only[Bool.not_false,if_true,Bool.false_eq_true,if_false] at h2;refine ⟨e+1,⟨Y0p h.a q,h.h,h.r,h.t,h.z,?_⟩,fun w β=>by rw[Xsy hl hh]⟩;show ((e+1:Nat) : Int)=exD x.d+cF (x.hd.set q.toNat (!(x.hd.getD q.toNat false)));rw[hh];simp only[Bool.not_false];omega
 | true=>
  rw[hh] at h2;simp only[Bool.not_true,if_true,Bool.false_eq_true,if_false] at h2;have h4:=Y9b (x.hd.set q.toNat false);obtain ⟨e0,rfl⟩ : ∃ e0,e=e0+1:=⟨e-1,by omega⟩;refine ⟨e0,⟨Y0p h.a q,h.h,h.r,h.t,h.z,?_⟩,fun w β=>by rw[<- Xsz hl hh,<- X3,<- X1y]⟩;show ((e0:Nat) : Int)=exD x.d+cF (x.hd.set q.toNat (!(x.hd.getD q.toNat false)));rw[hh];simp only[Bool.not_true];omega
def Ya5(u v:Bool)(z:Rg):gf true u v*(gf true u v*z)=z:=by
 rw[<- X3,show gf true u v*gf true u v=1 by cases u<;>cases v<;>decide,Xb]
def Y3k{d:Dg}{u v:Bool}{ws:List Wr}{r:Int}{γ:Nat->Bool}(h:wP d.ws γ=gf true u v*wP ws γ):fD { d with ws:=ws,r:=r } γ=gf true u v*fD d γ:=by
 unfold fD;dsimp only;rw[h];generalize omZ d.t=T;generalize nP d.ns 0 γ=N;generalize wP ws γ=P;have e:∀ g:Rg,g*(T*(N*(g*P)))=g*(g*(T*(N*P))):=fun g=>by simp only[X3,Xs,X4]
 rw[e,Ya5]
def Xvt{d:Dg}{a b:Int}{r:Int}{γ:Nat->Bool}:fD { d with ws:=jnW d.ws a b true,r:=r } γ=gf true (γ a.toNat) (γ b.toNat)*fD d γ:=by
 unfold fD;dsimp only;rw[Xeb,X4 (nP d.ns 0 γ),X4 (omZ d.t)]
def czY(y:Br)(a b:Int) : Br:=if 0<=fdW y.d.ws a b then { y with d:={ y.d with ws:=ctW y.d.ws (fdW y.d.ws a b).toNat,r:=wr (y.d.r-1) } } else { y with d:={ y.d with ws:=jnW y.d.ws a b true,r:=wr (y.d.r+1) } }
def Xv8{n m e:Nat}{y:Br}(h:BrF n m e y)(hm:m<=1000){p q:Int}(hp:0<=p/\p.toNat<n)(hq:0<=q/\q.toNat<n)(f1:y.hd.getD p.toNat false=false)(f2:y.hd.getD q.toNat false=false){a b:Int}(ha:y.la.getD p.toNat 0=a)(hb:y.la.getD q.toNat 0=b)(hA:BrA n (czY y a b)):BrF n (m+1) e (czY y a b)/\∀ w β,semB n (czY y a b) w β=semB n y (czW p.toNat q.toNat w) β:=by
 have hr:=h.r;have ht:=h.t;have hx:=h.z;have he:=h.e;have e1:wr (y.d.r-1)=y.d.r-1:=X17 Z Z;have e2:wr (y.d.r+1)=y.d.r+1:=X17 Z Z;unfold czY at hA ⊢;by_cases hf:0<=fdW y.d.ws a b
 ·rw[Q4 hf] at hA ⊢;have ⟨w9,k1,k2,_⟩:=X5x hf;have hw9:w9.h=true:=by
   have h9:=X2t.1 k2;rcases Int.le_total a b with hle|hle
   ·exact h.h w9 (Qe k1) p.toNat q.toNat hp.2 hq.2 Z Z
   ·exact h.h w9 (Qe k1) q.toNat p.toNat hq.2 hp.2 Z Z
  have hc:=Xqp k1;rw[hw9,Q4 rfl] at hc;refine ⟨⟨hA,fun w hw i j hi hj ea eb=>h.h w ((X4o _ _).subset hw) i j hi hj ea eb,by dsimp only;omega,by dsimp only;omega,?_,?_⟩,fun w β=>?_⟩
  ·unfold exD at hx ⊢;dsimp only;omega
  ·unfold exD at he ⊢;dsimp only;omega
  ·refine Xmc (x:=y) (D:={ y.d with ws:=ctW y.d.ws (fdW y.d.ws a b).toNat,r:=wr (y.d.r-1) }) hp hq f1 f2 O (fun γ=>?_) w β;have hwp:=Xu8 k1 γ;rw[Xn2 k2,hw9] at hwp;rw[ha,hb];exact Y3k hwp
 ·rw[Q3 hf] at hA ⊢;refine ⟨⟨hA,fun w hw i j hi hj ea eb=>?_,by dsimp only;omega,by dsimp only;omega,?_,?_⟩,fun w β=>?_⟩
  ·rcases X6z.1 hw with rfl|hw
   ·rfl
   ·exact h.h w hw i j hi hj ea eb
  ·unfold exD at hx ⊢;dsimp only;rw[Xc8,Q4 rfl];omega
  ·unfold exD at he ⊢;dsimp only;rw[Xc8,Q4 rfl];omega
  ·refine Xmc (x:=y) (D:={ y.d with ws:=jnW y.d.ws a b true,r:=wr (y.d.r+1) }) hp hq f1 f2 O (fun γ=>?_) w β;rw[ha,hb];exact Xvt
def Y0h{n m e:Nat}{x:Br}(h:BrF n m e x)(hm:m<=1000){p q:Int}(hp:0<=p/\p.toNat<n)(hq:0<=q/\q.toNat<n)(hpq:p≠q):BrF n (m+1) e (czB x p q)/\∀ w β,semB n (czB x p q) w β=semB n x (czW p.toNat q.toNat w) β:=by
 have hp1:=Xix h hp;have hp2:=Xix hp1.1 hq;have hpn:p.toNat≠q.toNat:=by omega
 have hla:=Xiz (x:=plcB x p) hpn;have f1:(plcB (plcB x p) q).hd.getD p.toNat false=false:=(Y60 hpn).trans (Xiy h.a.ok hp);have f2:(plcB (plcB x p) q).hd.getD q.toNat false=false:=Xiy hp1.1.a.ok hq;have hA:BrA n (czB x p q):=⟨Xp6 h.a.ok _ _,Y2q h.a.ok h.a.s hp hq,Ydi h.a.ok h.a.l hp hq hpq⟩;have hc:czB x p q=czY (plcB (plcB x p) q) ((plcB x p).la.getD p.toNat 0) ((plcB (plcB x p) q).la.getD q.toNat 0):=rfl;rw[hc] at hA ⊢;have hk:=Xv8 hp2.1 hm hp hq f1 f2 hla O hA;exact ⟨hk.1,fun w β=>(hk.2 w β).trans ((hp2.2 _ β).trans (hp1.2 _ β))⟩
def Yc5{n m e:Nat}{x:Br}(h:BrF n m e x)(hm:m<=1000){k:Int}(hk:0<=k/\k<=2):BrF n (m+1) e (tnB x k)/\∀ w β,semB n (tnB x k) w β=semB n x (fun b=>omZ k*w b) β:=by
 have ht:=h.t;have hr:=h.r;have e1:wr (x.d.t+k)=x.d.t+k:=X17 Z Z;refine ⟨⟨⟨Xtv h.a.ok k,h.a.s,h.a.l⟩,h.h,?_,?_,h.z,h.e⟩,fun w β=>Xyu e1 w β⟩
 ·show _<=x.d.r/\x.d.r<=_;omega
 ·show 0<=wr (x.d.t+k)/\wr (x.d.t+k)<=_;omega
def Ybw{n m e:Nat}{x:Br}(h:BrF n m e x){a c:Int}(ha:0<=a/\a.toNat<n)(hc:0<=c/\c.toNat<n)(hac:a≠c):BrF n m e (swpB x a c)/\∀ w β,semB n (swpB x a c) w β=semB n x (fun b=>w (swB a.toNat c.toNat b)) β:=by
 have hlen:=h.a.ok.la;have key:∀ p,p<n->∃ p',p'<n/\(swpB x a c).la.getD p 0=x.la.getD p' 0:=fun p hp=>by
  refine ⟨if p=c.toNat then a.toNat else if p=a.toNat then c.toNat else p,by split;omega;split<;>omega,?_⟩;show ((x.la.set a.toNat (x.la.getD c.toNat 0)).set c.toNat (x.la.getD a.toNat 0)).getD p 0=_;rw[X59,X59,List.length_set];by_cases h1:p=c.toNat
  ·rw[Q4 ⟨h1.symm,by omega⟩,Q4 h1]
  ·rw[Q3 (fun h9=>h1 h9.1.symm),Q3 h1];by_cases h2:p=a.toNat
   ·rw[Q4 ⟨h2.symm,by omega⟩,Q4 h2]
   ·rw[Q3 (fun h9=>h2 h9.1.symm),Q3 h2]
 refine ⟨⟨⟨Xtl h.a.ok ha hc,h.a.s,Ybx h.a.ok h.a.l ha hc⟩,fun w hw i j hi hj ea eb=>?_,h.r,h.t,h.z,?_⟩,fun w β=>Xt2 h.a.ok ha hc hac w β⟩
 ·obtain ⟨i',hi',ei⟩:=key i hi;obtain ⟨j',hj',ej⟩:=key j hj;exact h.h w hw i' j' hi' hj' (ea.trans ei) (eb.trans ej)
 ·have h3:=h.e;have hhd:=h.a.ok.hd;have c1:=Xbq x.hd a.toNat (x.hd.getD c.toNat false) Z;have c2:=Xbq (x.hd.set a.toNat (x.hd.getD c.toNat false)) c.toNat (x.hd.getD a.toNat false) O9;have hne:¬ a.toNat=c.toNat:=by omega
  have g2:(x.hd.set a.toNat (x.hd.getD c.toNat false)).getD c.toNat false=x.hd.getD c.toNat false:=by rw[X2r,Q3 (fun h9=>hne h9.1)]
  rw[g2] at c2;generalize (if x.hd.getD a.toNat false=true then (1:Int) else 0)=u at c1 c2;generalize (if x.hd.getD c.toNat false=true then (1:Int) else 0)=v at c1 c2;show (e:Int)=exD x.d+cF ((x.hd.set a.toNat (x.hd.getD c.toNat false)).set c.toNat (x.hd.getD a.toNat false));omega
def Y12(u c:Bool)(x y:Rg):gf true u false*(gf true c false*(gf true false false*x+gf true false true*y))+gf true u true*(gf true c true*(gf true true false*x+gf true true true*y))=(1+1)*(if (u != c)=true then y else x):=by
 cases c
 ·have h:∀ s z,gf true false s*z=z:=fun s z=>by rw[show gf true false s=1 by cases s<;>rfl,Xb]
  rw[h false (gf true false false*x+gf true false true*y),h true (gf true true false*x+gf true true true*y),Y0y];cases u<;>rfl
 ·cases u
  ·show 1*(1*(1*x+1*y))+1*(omZ 4*(1*x+omZ 4*y))=(1+1)*y;simp only[Xb,X0e,X0g,Xry];rw[show x+y+(omZ 4*x+y)=y+y+(x+omZ 4*x) by simp only[Xz,Xl,X0c],Xlu,X01]
  ·show 1*(1*(1*x+1*y))+omZ 4*(omZ 4*(1*x+omZ 4*y))=(1+1)*x;rw[Xry];simp only[Xb,X0e];rw[show x+y+(x+omZ 4*y)=x+x+(y+omZ 4*y) by simp only[Xz,Xl],Xlu,X01]
def Y1z(w:St)(b:Nat->Bool)(q:Nat)(c:Bool):(if (b q != c)=true then w (upB b q true) else w (upB b q false))=w (if c=true then flipB b q else b):=by
 cases c
 ·rw[Q3 (by decide:¬ false=true),Bool.bne_false];exact Ycd w b q
 ·rw[Q4 O,Xb3];cases h:b q<;>rfl
def Xqn(q:Nat)(w:St):hadW q (phW q 4 (hadW q w))=fun b=>s2^2*w (flipB b q):=by
 funext b;have h:=Y12 (b q) true (w (upB b q false)) (w (upB b q true));have e:∀ v,phW q 4 v=fun b=>gf true true (b q)*v b:=fun v=>by
  funext b;unfold phW;cases b q<;>rfl
 rw[e];simp only[hadW,X8m,Xn0];rw[h,Y1z,Q4 O,Xj8]
def Y4w{p q:Nat}(hpq:p≠q)(w:St):hadW q (czW p q (hadW q w))=fun b=>s2^2*w (if b p=true then flipB b q else b):=by
 funext b;have h:=Y12 (b q) (b p) (w (upB b q false)) (w (upB b q true));simp only[hadW,czW,X8m,Xn0,X5c (β:=b) (k:=q) hpq];rw[h,Y1z,Xj8]
def Xa5{n:Nat}{x:Br}(c:Rg)(w:St)(β:Nat->Bool):semB n x (fun b=>c*w b) β=c*semB n x w β:=by
 unfold semB;rw[<- Xa9];refine X33 _ _ fun γ=>?_;unfold gB;rw[Xfa];rw[X4]
def Xfb{e e1 e3:Nat}{P Q R T:Rg}(h1:s2^(e+1)*P=s2^e1*Q)(h3:s2^(e1+1)*R=s2^e3*P)(hQ:Q=s2^2*T):s2^e*R=s2^e3*T:=by
 apply X2k (e1+2);have k1:s2^(e1+2)*(s2^e*R)=s2^(e+1)*(s2^(e1+1)*R):=by
  rw[<- X3,<- X3,<- X1y,<- X1y,show e1+2+e=e+1+(e1+1) by omega]
 have k2:s2^(e1+2)*(s2^e3*T)=s2^e3*(s2^e1*(s2^2*T)):=by
  rw[X1y];simp only[X3,Xs,X4]
 rw[k1,h3,X4,h1,hQ,k2]
def Yds{n m e:Nat}{x:Br}(h:BrF n m e x)(hm:m<=1000){g:Gt}(hg:gOk (n:Int) g=true):∃ e',BrF n (m+1) e' (gtB x g)/\∀ w β,s2^(e+hN g)*semB n (gtB x g) w β=s2^e'*semB n x (tact g w) β:=by
 have ha:=X6x hg;have hb:=X6y hg;have hs:=X22 hg;cases h1:(g.k==1) with
 | true=>
  have k1:g.k=1:=by simpa using h1
  obtain ⟨e',h2,h3⟩:=Xc3 h ha;rw[Y4s h1,show hN g=1 from Q4 k1];refine ⟨e',h2.mono Z,fun w β=>?_⟩;rw[h3];congr 2;funext b;rw[Xto k1];unfold hadW;rw[Xb3];cases hb9:b g.a.toNat
  ·rw[X4l b _ hb9];rfl
  ·rw[X4l b _ hb9];show gf true true false*_+gf true true true*_=u1 1 true true*_+u1 1 true false*_;rw[X0c];rfl
 | false=>
 have hN0:hN g=0:=Q3 (by simpa using h1);rw[hN0,Nat.add_zero];have k1:g.k≠1:=by simpa using h1
 cases h2:(g.k==2) with
 | true=>
  have k2:g.k=2:=by simpa using h2
  rw[Y4t h1 h2];have ⟨e1,r1,s1⟩:=Xc3 h ha;have ⟨r2,s3⟩:=Xmy r1 ha 4;have ⟨e3,r3,s4⟩:=Xc3 r2 ha;refine ⟨e3,r3.mono Z,fun w β=>Xfb (s1 _ β) ((s4 w β).trans (by rw[s3])) ?_⟩;rw[Xqn,Xa5];congr 2;funext b;rw[Xcs,Q3 Z,Xb];unfold act;rw[Q3 Z,Q3 Z,Q3 Z,Q3 Z,k2,(Xz0 _).1,(Xz0 _).2,Xo,X09,Xb]
 | false=>
 have k2:g.k≠2:=by simpa using h2
 cases h3:(g.k==3) with
 | true=>
  have k3:g.k=3:=by simpa using h3
  rw[Y4u h1 h2 h3];have ⟨r1,s1⟩:=Xmy h ha 4;obtain ⟨e2,r2,s2'⟩:=Xc3 r1 ha;have ⟨r3,s3⟩:=Xmy r2 ha 4;have ⟨e4,r4,s4⟩:=Xc3 r3 ha;have ⟨r5,s5⟩:=Yc5 (x:=yyB x g.a) (k:=2) r4 hm O5;refine ⟨e4,r5,fun w β=>?_⟩;rw[s5];refine Xfb (s2' _ β) ((s4 _ β).trans (by rw[s3])) ?_;rw[s1,Xqn];rw[show phW g.a.toNat 4 (fun b=>s2^2*(omZ 2*w (flipB b g.a.toNat)))=fun b=>s2^2*tact g w b from ?_,Xa5];funext b;unfold phW;rw[X4];congr 1;have hact:act g w b=(if b g.a.toNat=true then om^2 else om^6)*w (flipB b g.a.toNat):=by
   unfold act;rw[Q3 Z,Q3 Z,Q3 Z,Q3 Z,k3,(Xz1 _).1,(Xz1 _).2,Xo,X09]
  rw[Xcs,Q4 k3,hact,<- X3,<- X3];congr 1;cases b g.a.toNat<;>decide
 | false=>
 have k3:g.k≠3:=by simpa using h3
 have htact:∀ w,tact g w=act g w:=fun w=>by unfold tact;rw[Q3 k3]
 cases h9:(g.k==9) with
 | true=>
  have k9:g.k=9:=by simpa using h9
  have hab:=(hs.2.2.2 Z).2.2;rw[Y4v h1 h2 h3 h9];have ⟨e1,r1,s1⟩:=Xc3 h hb;have ⟨r2,s3⟩:=Y0h r1 hm ha hb hab;have ⟨e3,r3,s4⟩:=Xc3 r2 hb;refine ⟨e3,r3,fun w β=>Xfb (s1 _ β) ((s4 w β).trans (by rw[s3])) ?_⟩;rw[Y4w Z,Xa5,htact];congr 2;funext b;have hact:act g w b=w (if b g.a.toNat=true then flipB b g.b.toNat else b):=by
   unfold act;rw[Q3 Z,Q4 k9]
  exact hact.symm
 | false=>
 have k9:g.k≠9:=by simpa using h9
 cases h10:(g.k==10) with
 | true=>
  have k10:g.k=10:=by simpa using h10
  have hab:=(hs.2.2.2 Z).2.2;rw[Xqh h1 h2 h3 h9 h10];have ⟨r2,s3⟩:=Y0h h hm ha hb hab;refine ⟨e,r2,fun w β=>?_⟩;rw[s3,htact];congr 2;funext b;unfold act;rw[Q3 Z,Q3 k9,Q4 k10];rfl
 | false=>
 have k10:g.k≠10:=by simpa using h10
 cases h11:(g.k==11) with
 | true=>
  have k11:g.k=11:=by simpa using h11
  have hab:=(hs.2.2.2 Z).2.2;rw[Xqi h1 h2 h3 h9 h10 h11];have ⟨r2,s3⟩:=Ybw h ha hb hab;refine ⟨e,r2.mono Z,fun w β=>?_⟩;rw[s3,htact];congr 2;funext b;unfold act;rw[Q3 Z,Q3 k9,Q3 k10,Q4 k11];congr 1;have hne:g.a.toNat≠g.b.toNat:=by omega
  funext q;unfold swB;split
  ·rename_i e9;subst e9;split
   ·rename_i e8;exact e8.symm
   ·rename_i e8;unfold flipB;rw[Q3 hne,Q4 rfl];cases hx:b g.a.toNat<;>cases hy:b g.b.toNat<;>simp_all
  ·rename_i e9;split
   ·rename_i e8;subst e8;split
    ·rename_i e7;exact e7
    ·rename_i e7;unfold flipB;rw[Q4 O,Q3 (fun h=>hne h.symm)];cases hx:b g.a.toNat<;>cases hy:b g.b.toNat<;>simp_all
   ·rename_i e8;split
    ·rfl
    ·unfold flipB;rw[Q3 e8,Q3 e9]
 | false=>
 have k11:g.k≠11:=by simpa using h11
 cases h12:(g.k==12) with
 | true=>
  have k12:g.k=12:=by simpa using h12
  rw[Xqj h1 h2 h3 h9 h10 h11 h12];have ⟨r2,s3⟩:=Yc5 h hm (k:=1) O5;refine ⟨e,r2,fun w β=>?_⟩;rw[s3,htact];congr 2;funext b;unfold act;rw[Q4 k12];rfl
 | false=>
  have k12:g.k≠12:=by simpa using h12
  rw[Y4r h1 h2 h3 h9 h10 h11 h12];have ⟨r2,s3⟩:=Xmy h ha (rotC g.k);refine ⟨e,r2.mono Z,fun w β=>?_⟩;rw[s3,htact];congr 2;funext b;have hu:=Yc8 (k:=g.k) Z (b g.a.toNat);unfold act;rw[Q3 k12,Q3 k9,Q3 k10,Q3 k11,hu.1,hu.2,Xo,X01];unfold phW;cases b g.a.toNat
  ·rw[show rotC g.k*(if false=true then (1:Int) else 0)=0 by simp];rfl
  ·rw[show rotC g.k*(if true=true then (1:Int) else 0)=rotC g.k by simp];rfl
def Xq6{n:Nat}:∀ (l:List Gt) {m e:Nat} {x:Br},BrF n m e x->m+l.length<=1000->(∀ g ∈ l,gOk (n:Int) g=true)->∃ e',BrF n (m+l.length) e' (l.foldl gtB x)/\∀ w β,s2^(e+hs l)*semB n (l.foldl gtB x) w β=s2^e'*semB n x (trun l w) β
 | [],m,e,x,h,_,_=>⟨e,h,fun _ _=>rfl⟩
 | g::l,m,e,x,h,hm,hl=>by
  rw[Qs] at hm ⊢;have ⟨e1,r1,s1⟩:=Yds h Z (hl g O4);obtain ⟨e',r2,s3⟩:=Xq6 l r1 Z fun z hz=>hl z (by simp[hz]);refine ⟨e',by rw[show m+(l.length+1)=m+1+l.length by omega];exact r2,fun w β=>?_⟩;apply X2k e1;have k1:=s1 (trun l w) β;have k2:=s3 w β;show s2^e1*(s2^(e+(hN g+hs l))*semB n (l.foldl gtB (gtB x g)) w β)=s2^e1*(s2^e'*semB n x (tact g (trun l w)) β);rw[X4 (s2^e1) (s2^e'),<- k1,X4 (s2^e'),<- k2,<- X3,<- X3,<- X1y,<- X1y,show e1+(e+(hN g+hs l))=e+hN g+(e1+hs l) by omega]
def Xit:∀ (ns:List Nd) (k:Nat) (β:Nat->Bool),(∀ x ∈ ns,x.k≠3)->nP ns k β=1
 | [],_,_,_=>rfl
 | x::ns,k,β,h=>by
  have h0:=h x O4;show nf x (β k)*nP ns (k+1) β=1;rw[Xit ns (k+1) β fun y hy=>h y (by simp[hy]),X08];unfold nf;rw[show (x.k==3)=false from by simpa using h0];rfl
def Xmk{ns:List Nd}(h:∀ x ∈ ns,x.k≠3):spS ns=[]:=by simp_all[spS]
def Xin:∀ (l:List Bool) (k:Nat) (w:St),(∀ i,i<l.length->l.getD i false=false)->hT l k w=w
 | [],_,_,_=>rfl
 | x::l,k,w,h=>by
  have h0:x=false:=h 0 O4;subst h0;show hT l (k+1) w=w;exact Xin l (k+1) w fun i hi=>h (i+1) (by simpa using hi)
def Xi8:∀ (l:List Bool),(∀ i,i<l.length->l.getD i false=false)->cF l=0
 | [],_=>rfl
 | x::l,h=>by
  have h0:x=false:=h 0 O4;subst h0;rw[X93,Xi8 l fun i hi=>h (i+1) (by simpa using hi)];rfl
def Xm5(n i:Nat):(List.replicate n false).getD i false=false:=by grind
def Y69{n i:Nat}(h:i<n):(ranI n).getD i 0=(i:Int):=by grind [ranI]
def Xqx{n i:Nat}(h:i<n):(inN n).getD i nZ=⟨1,(i:Int)⟩:=by grind [inN,nZ]
def Xqy(n:Nat):∀ x ∈ inN n,x.k≠3:=by simp[inN]
def lwB(n:Nat)(β:Nat->Bool) : Nat->Bool:=fun q=>if q<n then β q else false
def Xrv{c:Cx}(hn:1<=c.n/\c.n<=5):BrF c.n.toNat 0 0 (ofB0 c)/\∀ w β,semB c.n.toNat (ofB0 c) w β=w (lwB c.n.toNat β):=by
 refine ⟨⟨Y5r hn,(fun w hw=>by cases hw),?_,?_,?_,?_⟩,fun w β=>?_⟩
 ·show -((0:Nat) : Int)<=0/\(0:Int)<=((0:Nat) : Int);omega
 ·show (0:Int)<=0/\(0:Int)<=2*((0:Nat) : Int);omega
 ·show 0<=((([] : List Wr).filter fun w=>w.h).length:Int)-0;simp
 ·show ((0:Nat) : Int)=((([] : List Wr).filter fun w=>w.h).length:Int)-0+cF (List.replicate c.n.toNat false);rw[Xi8 _ fun i _=>Xm5 _ i];simp
 ·unfold semB;rw[show spS (ofB0 c).d.ns=[] from Xmk (Xqy _)];show omZ 0*(nP (inN c.n.toNat) 0 β*1)*hT (List.replicate c.n.toNat false) 0 w (lB c.n.toNat (ofB0 c) β)=_;rw[Xit _ _ _ (Xqy _),Xin _ _ _ fun i _=>Xm5 _ i,X41,X08,Xb];rw[Xb];congr 1;funext q;simp only[lB,lwB];by_cases hq:q<c.n.toNat
  ·rw[Q4 hq,Q4 hq];show β ((ranI c.n.toNat).getD q 0).toNat=β q;rw[Y69 hq,Qj]
  ·rw[Q3 hq,Q3 hq]
def BrI(n:Nat)(x:Br) : Prop:=∀ i,i<n->i<x.d.ns.length/\x.d.ns.getD i nZ=⟨1,(i:Int)⟩
def Y1h{n:Nat}{x:Br}(h:BrI n x)(k p q:Int):BrI n (nodB x k p q):=by grind [BrI,nodB]
def Xs7{n:Nat}{x:Br}(h:BrI n x)(q:Int):BrI n (plcB x q):=by
 unfold plcB;split
 ·exact Y1h h _ _ _
 ·exact h
def Xmz{n:Nat}{x:Br}(hk:BrOk n x)(h:BrI n x){q:Int}(hq:0<=q/\q.toNat<n)(m:Int):BrI n (trnB x q m):=fun i hi=>by
 have h1:=Xs7 h q i hi;have h2:=X0z (Xj2 hk hq);refine ⟨?_,?_⟩
 ·show i<(adN _ _ _).length;rw[X2v];exact h1.1
 ·show (adN (plcB x q).d.ns _ _).getD i nZ=_;rw[Xuu fun e=>by rw[e,h1.2] at h2;exact absurd h2.2.2 (show ¬ (1:Int)=3 by decide)];exact h1.2
def Y9j{n:Nat}{x:Br}(h:BrI n x)(p q:Int):BrI n (czB x p q):=by
 have:=Xs7 (Xs7 h p) q;unfold czB;dsimp only;split<;>exact this
def Ydu{n:Nat}{x:Br}(hk:BrOk n x)(h:BrI n x){g:Gt}(hg:gOk (n:Int) g=true):BrI n (gtB x g):=by
 have ha:=X6x hg;unfold gtB;split
 ·exact h
 split
 ·exact Xmz (x:=flpB x g.a) (X2f hk _) h ha 4
 split
 ·exact Xmz (x:=flpB (trnB x g.a 4) g.a) (X2f (X5b hk _ _) _) (Xmz hk h ha 4) ha 4
 split
 ·exact Y9j (x:=flpB x g.b) h _ _
 split
 ·exact Y9j h _ _
 split
 ·exact h
 split
 ·exact h
 ·exact Xmz hk h ha _
def Xii{n:Nat}:∀ (l:List Gt) {x:Br},BrOk n x->BrI n x->(∀ g ∈ l,gOk (n:Int) g=true)->BrI n (l.foldl gtB x)
 | [],_,_,h,_=>h
 | g::l,x,hk,h,hl=>Xii l (Xgz hk (hl g O4)) (Ydu hk h (hl g O4)) fun z hz=>hl z (by simp[hz])
def dlt(o:Nat->Bool) : Nat->St
 | 0=>fun _=>1
 | j+1=>fun b=>dlt o j b*gf false (b j) (o j)
def Xp8{o b:Nat->Bool}:∀ n,dlt o n b=if ∀ q,q<n->b q=o q then 1 else 0
 | 0=>by rw[Q4 fun q hq=>by omega];rfl
 | n+1=>by
  show dlt o n b*gf false (b n) (o n)=_;rw[Xp8 n];by_cases h:∀ q,q<n->b q=o q
  ·rw[Q4 h,Xb];by_cases h2:b n=o n
   ·rw[Q4 fun q hq=>by rcases W4 q n with h3|h3;exact h q h3;rw[show q=n by omega];exact h2];unfold gf;rw[Q3 O5,Q4 (by simpa using h2)]
   ·rw[Q3 fun h3=>h2 (h3 n Z)];unfold gf;rw[Q3 O5,Q3 (by simpa using h2)]
  ·rw[Q3 h,Q3 fun h3=>h fun q hq=>h3 q Z,Xo]
structure OfK (c:Cx) (m e j:Nat) : Prop where
 f:BrF c.n.toNat m e (ofK c j)
 l:(ofK c j).d.ns.length=(ofK c 0).d.ns.length+j
 h:∀ i,i<j->(ofK c j).hd.getD i false=false
 i:BrI c.n.toNat (ofK c j)
 o:∀ i,i<j->(ofK c j).d.ns.getD ((ofK c 0).d.ns.length+i) nZ=⟨2,(i:Int)⟩
 s:∀ w β,semB c.n.toNat (ofK c j) w β=semB c.n.toNat (ofK c 0) (fun b=>dlt (fun i=>β ((ofK c 0).d.ns.length+i)) j b*w b) β
def Y1m{c:Cx}(hn:1<=c.n/\c.n<=5){m e:Nat}(h0:BrF c.n.toNat m e (ofK c 0))(hi:BrI c.n.toNat (ofK c 0)):∀ j,j<=c.n.toNat->OfK c m e j
 | 0,_=>⟨h0,rfl,fun i hi=>by omega,hi,fun i hi=>by omega,fun w β=>by
  congr 1;funext b;show w b=1*w b;rw[Xb]⟩
 | j+1,hj=>by
  have ih:=Y1m hn h0 hi j Z;have hq:0<=(j:Int)/\((j:Int)).toNat<c.n.toNat:=by omega
  have hl:=ih.l;have e:=Xdw c j;refine ⟨?_,?_,?_,?_,?_,?_⟩
  ·rw[e];exact Y1g ih.f hq Z
  ·rw[e,(X82 _ _ _ _).1];omega
  ·intro i hi;rw[e];show ((ofK c j).hd.set ((j:Int)).toNat false).getD i false=false;rw[X2r];split
   ·rfl
   ·rename_i h9;refine ih.h i ?_;have:=ih.f.a.ok.hd;rcases W4 i j with h8|h8
    ·exact h8
    ·exact absurd ⟨by omega,by omega⟩ h9
  ·rw[e];exact Y1h ih.i _ _ _
  ·intro i hi;rw[e];show ((ofK c j).d.ns++[(⟨2,(j:Int)⟩ : Nd)]).getD _ nZ=_;rcases W4 i j with h8|h8
   ·rw[Xk3 _ Z];exact ih.o i h8
   ·rw[show i=j by omega,<- hl,Xbo]
  ·intro w β;rw[e,Xt1 ih.f.a.ok hq,ih.s,hl,Qj];congr 1;funext b;show dlt _ j b*(gf false (b j) (β ((ofK c 0).d.ns.length+j))*w b)=dlt _ j b*gf false (b j) (β ((ofK c 0).d.ns.length+j))*w b;rw[X3]
def Xbr{c:Cx}(hc:cOk c=true):(1<=c.n/\c.n<=5)/\c.n=((c.n.toNat:Nat) : Int):=by
 have ⟨n9,hn9,hn1,hn5⟩:=Xdd hc;omega
def X9t{c:Cx}(hc:cOk c=true):∀ g ∈ c.gs,gOk ((c.n.toNat:Nat) : Int) g=true:=fun g hg=>by
 have ⟨i,hi⟩:=List.mem_iff_getElem?.1 hg;exact Xk6 hc (Xbr hc).2 hi
def Xyb{c:Cx}(hc:cOk c=true):∃ e,OfK c c.gs.length e c.n.toNat/\∀ w β,s2^hs c.gs*semB c.n.toNat (ofK c 0) w β=s2^e*trun c.gs w (lwB c.n.toNat β):=by
 have hn:=Xbr hc;have hl:=Xaq hc;have h0:=Xrv hn.1;have ⟨e,h1,h2⟩:=Xq6 c.gs h0.1 Z (X9t hc);rw[Nat.zero_add] at h1;have hi0:BrI c.n.toNat (ofB0 c):=fun i hi=>⟨by show i<(inN c.n.toNat).length;rw[X5e];exact hi,Xqx hi⟩;refine ⟨e,Y1m hn.1 h1 (Xii c.gs h0.1.a.ok hi0 (X9t hc)) _ (Qb _),fun w β=>?_⟩;have:=h2 w β;rw[h0.2,Nat.zero_add] at this;exact this
def Y5s{c:Cx}(hc:cOk c=true):∃ e N:Nat,(e:Int)=exD (ofD c)/\c.n.toNat<=N/\(ofD c).ns.length=N+c.n.toNat/\(∀ i,i<c.n.toNat->(ofD c).ns.getD i nZ=⟨1,(i:Int)⟩/\(ofD c).ns.getD (N+i) nZ=⟨2,(i:Int)⟩)/\
  ∀ β,s2^hs c.gs*smD (ofD c) β=s2^e*trun c.gs (dlt (fun i=>β (N+i)) c.n.toNat) (lwB c.n.toNat β):=by
 have ⟨e,hK,hs9⟩:=Xyb hc;have hn:=Xbr hc;have hoff:∀ i,i<(ofK c c.n.toNat).hd.length->(ofK c c.n.toNat).hd.getD i false=false:=fun i hi=>hK.h i (by rw[hK.f.a.ok.hd] at hi;exact hi);have he:=hK.f.e;rw[Xi8 _ hoff] at he;have hlen:=hK.l;have hN:c.n.toNat<=(ofK c 0).d.ns.length:=by
  have h0:=(hK.i (c.n.toNat-1) Z);have h9:BrI c.n.toNat (ofK c 0):=by
   have hi0:BrI c.n.toNat (ofB0 c):=fun i hi=>⟨by show i<(inN c.n.toNat).length;rw[X5e];exact hi,Xqx hi⟩;exact Xii c.gs (Xrv hn.1).1.a.ok hi0 (X9t hc)
  have:=(h9 (c.n.toNat-1) Z).1;omega
 refine ⟨e,(ofK c 0).d.ns.length,?_,hN,hlen,fun i hi=>⟨(hK.i i hi).2,hK.o i hi⟩,fun β=>?_⟩
 ·show (e:Int)=exD (ofK c c.n.toNat).d;omega
 ·have h1:smD (ofD c) β=semB c.n.toNat (ofK c c.n.toNat) (fun _=>1) β:=by
   unfold smD semB;show zL (spS (ofK c c.n.toNat).d.ns) _ β=_;refine X33 _ _ fun γ=>?_;unfold gB;rw[Xin _ _ _ hoff,X08];show omZ ((ofK c c.n.toNat).d.t.tmod 8)*_=omZ (ofK c c.n.toNat).d.t*_;rw[Int.tmod_eq_emod_of_nonneg hK.f.t.1,X40 (Cg.mod _)];rfl
  rw[h1,hK.s,hs9];congr 2;funext b;rw[X08]
end Go.Proofs.YthbobfjhofgfdaaGreat
